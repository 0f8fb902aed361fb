import PyProof.Rows.All
import Wide.All
import OpenK.AllK
import Wide.FinOn
import PyProof.ExcClass2
import PyProof.AttrMissHeap
import KE.KDictOf
import PySem.Challenge.RW_xw0182_01
set_option Elab.async false
set_option linter.all false
set_option maxRecDepth 100000
set_option genSizeOf false
set_option genInjectivity false
namespace Mine
noncomputable section
section
open PySem PySem.W PyProof.Rows
def af:=@Option.some.inj
def aq:=@congrArg
def ah:=@wpAny_bind
def aS:=@wpAny_pure
def ax:=@if_neg
def aG:=@if_pos
def bf:=@Exists.imp
def cO:=@and_congr_right'
def aV:=@absurd
def dO:=@Nat.le_of_ble_eq_true
def d6:=@Heap.get?_push_of_some
def d7:=@Heap.get?_push_size
def fy:=@List.lookup_cons
def d9:=@wpAny_holding
def gf:=@wpAny_standAt
def fG:=@exists_congr
def dY:=@Nat.zero_add
def dK:=@congrFun
def eX:=@Nat.le_trans
def gJ:=@Nat.le_add_right
def jQ:=@Nat.lt_of_le_of_lt
def zAv:=@Option.eq_none_iff_forall_ne_some
def bD{α:Type _}{p:α->Prop}{a:α}{l:List α}(h:p a/\∀x,x∈l->p x):∀x,x∈a::l->p x:=List.forall_mem_cons.mpr h
def ug{α:Type _}{p:α->Prop}{a:α}{l:List α}(h:∀x,x∈a::l->p x):p a/\∀x,x∈l->p x:=List.forall_mem_cons.mp h
def cH{a b:Nat}(h:Nat.blt a b=true):a<b:=Nat.blt_eq.mp h
def mG{a b:Nat}(h:a<b):Nat.blt a b=true:=Nat.blt_eq.mpr h
end
section
open PySem PySem.W PyProof.Rows
set_option backward.match.sparseCases false
def aa{α:Type}(b:Bool)(x y:α):α:=Bool.rec y x b
inductive r7|add|sub|mul|fdiv|mod|pow
inductive ti|eq|ne|is|isNot|isin|notIn|lt|gt|ge|le
inductive E
 |none (p:Nat)|bool (b:Bool) (p:Nat)|int (i:Nat) (p:Nat)|str (cs:List Nat) (p:Nat)
 |name (x:Nat) (p:Nat)
 |attr (o:E) (a:Nat) (p:Nat)
 |sub (o i:E) (p:Nat)
 |slice (o:E) (lo hi:List E) (p q:Nat)
 |bin (op:r7) (l r:E) (p:Nat)
 |cmp (op:ti) (l r:E) (p:Nat)
 |bop (vr:Bool) (es:List E) (p:Nat)
 |not (x:E) (p:Nat)|neg (x:E) (p:Nat)
 |ife (t b o:E) (p:Nat)
 |tup (es:List E) (p:Nat)|lst (es:List E) (p:Nat)|dct (ks vs:List E) (p:Nat)
 |call (f:E) (es:List E) (p:Nat)
 |comp (elt t i:E) (c:List E) (sc:List (Nat×Nat)) (p:Nat)
 |comp2 (elt t i t2 i2:E) (sc:List (Nat×Nat)) (p:Nat)
 |lam (ps:List (Nat×Nat)) (body:E) (sc:List (Nat×Nat)) (p:Nat)
structure Hd where
 c:Nat
 x:Nat
 tag:List Nat
 a:Nat
 pc:Nat
 pr:Nat
 pt:Nat
 ps:Nat
 px:Nat
 pa:Nat
 ph:Nat
inductive S
 |expr (e:E) (p:Nat)|assign (t v:E) (p:Nat)
 |forS (t i:E) (b:List S) (p:Nat)|while (c:E) (b:List S) (p:Nat)
 |ifS (c:E) (b o:List S) (p:Nat)
 |ret (e:E) (p:Nat)|raise (c:Nat) (es:List E) (pn pc p:Nat)
 |tryS (b:List S) (hs:List Hd) (p:Nat)|pass (p:Nat)
structure Lm where
 ps:List Nat
 sc:List (Nat×Nat)
 body:E
inductive V
 |none|bool (b:Bool)|int (i:Int)|str (s:List Nat)
 |nil|cons (h t:V)
 |loc (n:Nat)|fn (k:Nat)|cls (k:Nat)|bi (k:Nat)
 |clo (l:Lm) (fK:List (Nat×Nat))|atom (n:Nat)
inductive aF
 |list (xs:List V)|dict (bF:List (List Nat×V))|inst (c:Nat) (as:List (Nat×V))|cell (v:Option V)|opq (j:Nat)|dead
inductive BH|lf|nd (o:aF) (l r:BH)
structure HT where
 n:Nat
 t:BH
def i7(t:BH):Nat->Option aF:=BH.rec (λ_=>.none) (λo _ _ fS bP i=>aa (Nat.beq i 0) (some o) (aa (Nat.beq (Nat.mod i 2) 1) (fS (Nat.div i 2)) (bP (Nat.pred (Nat.div i 2))))) t
def py(y:aF)(t:BH):Nat->BH:=BH.rec (λ_=>.lf) (λo l r fS bP i=>aa (Nat.beq i 0) (.nd y l r) (aa (Nat.beq (Nat.mod i 2) 1) (.nd o (fS (Nat.div i 2)) r) (.nd o l (bP (Nat.pred (Nat.div i 2)))))) t
def oU(y:aF)(t:BH):Nat->BH:=BH.rec (λ_=>.nd y .lf .lf) (λo l r fS bP i=>aa (Nat.beq i 0) (.nd y l r) (aa (Nat.beq (Nat.mod i 2) 1) (.nd o (fS (Nat.div i 2)) r) (.nd o l (bP (Nat.pred (Nat.div i 2)))))) t
def gH(H:HT)(i:Nat):Option aF:=i7 H.t i
def pH(H:HT)(i:Nat)(o:aF):HT:=⟨H.n,py o H.t i⟩
def aH(H:HT)(o:aF):HT:=⟨Nat.succ H.n,oU o H.t H.n⟩
def hE:HT:=⟨0,.lf⟩
def hL(l:List aF):HT:=List.rec (λH=>H) (λo _ ih H=>ih (aH H o)) l hE
structure Sg where
 H:HT
 r:List (Nat×V)
inductive R(α:Type)
 |ok (a:α) (s:Sg)|exc (c:Nat) (m v:V) (s:Sg)|stuck
inductive Fl|next|ret (v:V)
structure Fr where
 sc:List (Nat×Nat)
 g:List (Nat×Nat)
 lm:Bool
structure Fn where
 ps:List Nat
 df:List V
 sc:List (Nat×Nat)
 cs:List Nat
 body:List S
 lm:Bool
structure Cl where
 init:Nat
 meth:List (Nat×Nat)
 am:Nat
inductive R0|ok (v:V) (H:HT)|exc (c:Nat) (m v:V) (H:HT)
inductive Tr(α:Type)|lf|nd (l:Tr α) (k:Nat) (v:α) (r:Tr α)
def dq{α:Type}(t:Tr α)(x:Nat):Option α:=
 Tr.rec .none (λ_ k v _ fS bP=>aa (Nat.beq x k) (some v) (aa (Nat.blt x k) fS bP)) t
structure Tb where
 nfn:Nat
 gl:Nat->Option V
 fns:Nat->Option Fn
 cls:Nat->Option Cl
 sub:Nat->Nat->Option Bool
 O:Nat->List V->HT->Option (Nat×R0)
def au{α:Type}(l:List (Nat×α))(x:Nat):Option α:=
 List.rec .none (λp _ ih=>aa (Nat.beq p.1 x) (some p.2) ih) l
def kA{α:Type}(l:List (Nat×α))(x:Nat)(v:α):List (Nat×α):=
 List.rec [(x,v)] (λp r ih=>aa (Nat.beq p.1 x) ((x,v)::r) (p::ih)) l
def aj{α:Type}(l:List α):Nat->Option α:=
 List.rec (λ_=>.none) (λx _ ih n=>Nat.rec (some x) (λm _=>ih m) n) l
def qb{α:Type}(l:List α)(n:Nat)(y:α):List α:=
 List.rec (λ_=>[]) (λx r ih n=>Nat.rec (y::r) (λm _=>x::ih m) n) l n
def len{α:Type}(l:List α):Nat:=List.rec (nat_lit 0) (λ_ _ ih=>Nat.succ ih) l
def app{α:Type}(a b:List α):List α:=List.rec b (λx _ ih=>x::ih) a
def seq(a:List Nat):List Nat->Bool:=
 List.rec (λb=>List.rec true (λ_ _ _=>false) b) (λx _ ih b=>List.rec false (λy q _=>aa (Nat.beq x y) (ih q) false) b) a
def jB{α:Type}(l:List (List Nat×α))(x:List Nat):Option α:=
 List.rec .none (λp _ ih=>aa (seq p.1 x) (some p.2) ih) l
def mU{α:Type}(l:List (List Nat×α))(x:List Nat)(v:α):List (List Nat×α):=
 List.rec [(x,v)] (λp r ih=>aa (seq p.1 x) ((p.1,v)::r) (p::ih)) l
def gz(v:V):List V:=
 V.rec [] (λ_=>[]) (λ_=>[]) (λ_=>[]) [] (λh _ _ ih=>h::ih) (λ_=>[]) (λ_=>[]) (λ_=>[]) (λ_=>[]) (λ_ _=>[]) (λ_=>[]) v
def ca(v:V):Bool:=
 V.rec false (λ_=>false) (λ_=>false) (λ_=>false) true (λ_ _ _ ih=>ih) (λ_=>false) (λ_=>false) (λ_=>false) (λ_=>false) (λ_ _=>false) (λ_=>false) v
def x9(l:List V):V:=List.rec .nil (λv _ ih=>.cons v ih) l
def R.bind{α β:Type}(r:R α)(f:α->Sg->R β):R β:=
 R.rec (λa s=>f a s) (λc m v s=>.exc c m v s) .stuck r
def aX{α β:Type}(o:Option α)(f:α->R β):R β:=Option.rec .stuck f o
def dF{α β:Type}(o:Option α)(f:α->R β)(d:R β):R β:=Option.rec d f o
def a7{α β:Type}(o:Option α)(f:α->Option β)(d:Option β):Option β:=Option.rec d f o
def eM(v:V):Option Int:=V.rec .none (λ_=>.none) (λi=>some i) (λ_=>.none) .none (λ_ _ _ _=>.none) (λ_=>.none) (λ_=>.none) (λ_=>.none) (λ_=>.none) (λ_ _=>.none) (λ_=>.none) v
def kY(v:V):Option Bool:=V.rec .none (λb=>some b) (λ_=>.none) (λ_=>.none) .none (λ_ _ _ _=>.none) (λ_=>.none) (λ_=>.none) (λ_=>.none) (λ_=>.none) (λ_ _=>.none) (λ_=>.none) v
def cR(v:V):Option (List Nat):=V.rec .none (λ_=>.none) (λ_=>.none) (λs=>some s) .none (λ_ _ _ _=>.none) (λ_=>.none) (λ_=>.none) (λ_=>.none) (λ_=>.none) (λ_ _=>.none) (λ_=>.none) v
def cG(v:V):Option (List V):=aa (ca v) (some (gz v)) .none
def ck(v:V):Option Nat:=V.rec .none (λ_=>.none) (λ_=>.none) (λ_=>.none) .none (λ_ _ _ _=>.none) (λn=>some n) (λ_=>.none) (λ_=>.none) (λ_=>.none) (λ_ _=>.none) (λ_=>.none) v
def mh(o:aF):Option (List V):=aF.rec (λxs=>some xs) (λ_=>.none) (λ_ _=>.none) (λ_=>.none) (λ_=>.none) .none o
def xt(o:aF):Option (List (List Nat×V)):=aF.rec (λ_=>.none) (λbF=>some bF) (λ_ _=>.none) (λ_=>.none) (λ_=>.none) .none o
def yo(o:aF):Option (Nat×List (Nat×V)):=aF.rec (λ_=>.none) (λ_=>.none) (λk as=>some (k,as)) (λ_=>.none) (λ_=>.none) .none o
def rq(o:aF):Option (Option V):=aF.rec (λ_=>.none) (λ_=>.none) (λ_ _=>.none) (λv=>some v) (λ_=>.none) .none o
def ol{α:Type}(f:aF->Option α)(H:HT)(v:V):Option (Nat×α):=a7 (ck v) (λn=>a7 (gH H n) (λo=>a7 (f o) (λx=>some (n,x)) .none) .none) .none
def dn(H:HT)(v:V):Option (Nat×List V):=ol mh H v
def iH(H:HT)(v:V):Option (Nat×List (List Nat×V)):=ol xt H v
def oC(H:HT)(v:V):Option (Nat×Nat×List (Nat×V)):=ol yo H v
def ir(v:V):Bool:=V.rec true (λ_=>true) (λ_=>true) (λ_=>true) true (λ_ _ _ _=>true) (λ_=>true) (λ_=>true) (λ_=>true) (λk=>Nat.ble 14 k) (λ_ _=>true) (λ_=>true) v
def cu(v:V):Option Nat:=V.rec .none (λ_=>.none) (λ_=>.none) (λ_=>.none) .none (λ_ _ _ _=>.none) (λ_=>.none) (λ_=>.none) (λ_=>.none) (λ_=>.none) (λ_ _=>.none) (λn=>some n) v
def wC(v:V):Option Nat:=V.rec .none (λ_=>.none) (λ_=>.none) (λ_=>.none) .none (λ_ _ _ _=>.none) (λ_=>.none) (λ_=>.none) (λk=>some k) (λ_=>.none) (λ_ _=>.none) (λ_=>.none) v
def dX(v:V):Option Nat:=V.rec .none (λ_=>.none) (λ_=>.none) (λ_=>.none) .none (λ_ _ _ _=>.none) (λ_=>.none) (λ_=>.none) (λ_=>.none) (λk=>some k) (λ_ _=>.none) (λ_=>.none) v
def Ae(v:V):Bool:=V.rec false (λ_=>false) (λ_=>false) (λ_=>false) true (λ_ _ _ _=>false) (λ_=>false) (λ_=>false) (λ_=>false) (λ_=>false) (λ_ _=>false) (λ_=>false) v
def wo(v:V):Option (V×V):=V.rec .none (λ_=>.none) (λ_=>.none) (λ_=>.none) .none (λh t _ _=>some (h,t)) (λ_=>.none) (λ_=>.none) (λ_=>.none) (λ_=>.none) (λ_ _=>.none) (λ_=>.none) v
def Gl(v:V):Option Nat:=a7 (eM v) (λi=>Int.rec (λn=>some n) (λ_=>.none) i) .none
def isNone(v:V):Bool:=V.rec true (λ_=>false) (λ_=>false) (λ_=>false) false (λ_ _ _ _=>false) (λ_=>false) (λ_=>false) (λ_=>false) (λ_=>false) (λ_ _=>false) (λ_=>false) v
def AM(v:V):Option Bool:=V.rec (some true) (λ_=>(some false)) (λ_=>(some false)) (λ_=>(some false)) (some false) (λ_ _ _ _=>(some false)) (λ_=>(some false)) (λ_=>(some false)) (λ_=>(some false)) (λ_=>.none) (λ_ _=>(some false)) (λn=>aa (aa (Nat.ble 64 n) (Nat.blt n 128) false) (some false) .none) v
def Cd(o:aF)(s:Sg):R V:=.ok (.loc s.H.n) ⟨aH s.H o,s.r⟩
def gi{α:Type}(l:List α):Bool:=Nat.ble (len l) 4000
def mo(l:List V)(s:Sg):R V:=aa (gi l) (Cd (.list l) s) .stuck
def uI(l:List (List Nat×V))(s:Sg):R V:=aa (gi l) (Cd (.dict l) s) .stuck
def nH(l:List V)(s:Sg):R V:=aa (gi l) (.ok (x9 l) s) .stuck
def pI(l:List Nat)(s:Sg):R V:=aa (gi l) (.ok (.str l) s) .stuck
def put(n:Nat)(o:aF)(s:Sg):Sg:=⟨pH s.H n o,s.r⟩
def qf(n:Nat)(l:List V)(s:Sg):R Unit:=aa (gi l) (.ok () (put n (.list l) s)) .stuck
def Yr(n:Nat)(l:List (List Nat×V))(s:Sg):R Unit:=aa (gi l) (.ok () (put n (.dict l) s)) .stuck
def jS{α:Type}(s:Sg)(o:Option α):R α:=aX o λa=>.ok a s
def x4(H:HT)(v:V):Option Bool:=
 a7 (kY v) some (a7 (eM v) (λi=>some (!decide (i=0))) (a7 (cG v) (λxs=>aa (gi xs) (some (!xs.isEmpty)) .none)
  (a7 (dn H v) (λp=>some (!p.2.isEmpty)) (a7 (iH H v) (λp=>some (!p.2.isEmpty)) (aa (isNone v) (some false) .none)))))
def yh(a b:Option Bool):Option Bool:=Option.rec .none (λx=>Option.rec .none (λy=>some (aa x y false)) b) a
def lE(f:V->V->Option Bool)(xs:List V):List V->Option Bool:=
 List.rec (λys=>List.rec (some true) (λ_ _ _=>some false) ys)
  (λx _ ih ys=>List.rec (some false) (λy q _=>yh (f x y) (ih q)) ys) xs
def CC(f:V->V->Option Bool)(ys:List (List Nat×V))(xs:List (List Nat×V)):Option Bool:=
 List.rec (some true) (λp _ ih=>a7 (jB ys p.1) (λw=>yh (f p.2 w) ih) (a7 ih (λ_=>some false) .none)) xs
def fz(H:HT)(v:V):Nat:=
 V.rec 1 (λ_=>0) (λ_=>2) (λ_=>3) 4 (λ_ _ _ _=>4) (λn=>Option.rec 0 (λo=>aF.rec (λ_=>5) (λ_=>0) (λ_ _=>0) (λ_=>0) (λ_=>0) 0 o) (gH H n)) (λ_=>0) (λ_=>0) (λ_=>0) (λ_ _=>0) (λ_=>0) v
def unlike(a b:Nat):Option Bool:=aa (Nat.beq a 0) .none (aa (Nat.beq b 0) .none (aa (Nat.beq a b) .none (some false)))
def qp(i:Nat)(b:V):Bool:=Option.rec false (λj=>Nat.beq i j) (ck b)
def yr(i j:Nat):Bool:=aa (Nat.blt i 64) (Nat.beq (Nat.div i 2) (Nat.div j 2)) false
def AW(v:V):Bool:=Option.rec false (λj=>aa (Nat.ble 64 j) (Nat.blt j 128) false) (cu v)
def Lf(H:HT)(n:Nat)(ih:V->V->Option Bool)(a b:V):Option Bool:=
 V.rec (motive:=λ_=>HT->Nat->(V->V->Option Bool)->V->V->Option Bool) (λH n ih a b=>aa (isNone b) (some true) (unlike 1 (fz H b))) (λx H n ih a b=>a7 (kY b) (λy=>some (aa x y (!y))) .none) (λx H n ih a b=>a7 (eM b) (λy=>some (decide (x=y))) (unlike 2 (fz H b))) (λx H n ih a b=>a7 (cR b) (λy=>some (seq x y)) (unlike 3 (fz H b))) (λH n ih a b=>a7 (cG a) (λxs=>a7 (cG b) (λys=>lE ih xs ys) (unlike 4 (fz H b))) .none) (λ_ _ _ _ H n ih a b=>a7 (cG a) (λxs=>a7 (cG b) (λys=>lE ih xs ys) (unlike 4 (fz H b))) .none) (λi H n ih a b=>aa (qp i b) (some true) (a7 (dn H (.loc i)) (λp=>a7 (dn H b) (λq=>aa (Nat.beq (len p.2) (len q.2)) (lE ih p.2 q.2) (some false)) (unlike 5 (fz H b))) .none)) (λ_ _ _ _ _ _=>.none) (λ_ _ _ _ _ _=>.none) (λ_ _ _ _ _ _=>.none) (λ_ _ _ _ _ _ _=>.none) (λi H n ih a b=>a7 (cu b) (λj=>aa (Nat.blt 20 n) (aa (Nat.beq i j) (some true) (aa (yr i j) (some false) .none)) .none) .none) a H n ih a b
def eI(H:HT)(n:Nat):V->V->Option Bool:=Nat.rec (λ_ _=>.none) (λn ih a b=>Lf H n ih a b) n
def iW:Nat:=40
def oW(a b:Bool):Bool:=aa a b (aa b false true)
def qy(H:HT)(a b:V):Option Bool:=
 Option.rec (Lf H 39 (eI H 39) a b) (λi=>aa (qp i b) .none
  (a7 (iH H a) (λp=>a7 (iH H b) (λq=>aa (Nat.beq (len p.2) (len q.2)) (CC (eI H iW) q.2 p.2) (some false)) .none) (eI H iW a b))) (ck a)
def yc(H:HT)(x:V)(l:List V):Option Bool:=
 List.rec (some false) (λy _ ih=>a7 (eI H iW y x) (λa=>a7 ih (λb=>some (aa a true b)) .none) .none) l
def oQ(y:Int):Bool:=Nat.ble (Int.natAbs y) 1000000000000000000
def j0{α:Type}(a b:V)(f:Int->Int->R α):R α:=aX (eM a) λx=>aX (eM b) λy=>f x y
def SR(a b:V)(s:Sg):R V:=
 dF (eM a) (λx=>aX (eM b) λy=>.ok (.int (x+y)) s)
  (dF (cR a) (λx=>aX (cR b) λy=>pI (app x y) s)
  (dF (dn s.H a) (λp=>aX (dn s.H b) λq=>mo (app p.2 q.2) s)
  (aX (cG a) λx=>aX (cG b) λy=>nH (app x y) s)))
def sM(op:r7)(a b:V)(s:Sg):R V:=
 r7.rec (motive:=λ_=>V->V->Sg->R V) (λa b s=>SR a b s) (λa b s=>j0 a b λx y=>.ok (.int (x-y)) s)
  (λa b s=>j0 a b λx y=>aa (oQ y) (.ok (.int (x*y)) s) .stuck)
  (λa b s=>j0 a b λx y=>aa (oQ y) (aa (decide (0<y)) (.ok (.int (x/y)) s) .stuck) .stuck)
  (λa b s=>j0 a b λx y=>aa (decide (0<y)) (.ok (.int (x%y)) s) .stuck)
  (λa b s=>j0 a b λx y=>aa (decide (x=10)) (aa (decide (y=18)) (.ok (.int 1000000000000000000) s) .stuck) .stuck) op a b s
def bg(H:HT)(v:V):Option (List V):=a7 (dn H v) (λp=>some p.2) (cG v)
def u6(H:HT)(v:V):Option (List V):=a7 (dn H v) (λp=>some p.2) .none
def bl(b:Bool)(s:Sg):R V:=.ok (.bool b) s
def H4(a b:V):Option Nat:=a7 (cu a) (λi=>aa (Nat.ble 6000 i) (aa (Nat.blt i 7000) (a7 (eM b) (λy=>aa (decide (y=0)) (some (Nat.add i 1000)) .none) .none) .none) .none) .none
def zI(a b:V)(s:Sg)(f:Bool->Bool):R V:=
 dF (dn s.H b) (λp=>aX (yc s.H a p.2) λr=>bl (f r) s)
  (dF (iH s.H b) (λp=>aX (cR a) λk=>bl (f (jB p.2 k).isSome) s)
  (aX (cG b) λxs=>aX (yc s.H a xs) λr=>bl (f r) s))
def LX(op:ti)(a b:V)(s:Sg):R V:=
 ti.rec (motive:=λ_=>V->V->Sg->R V) (λa b s=>dF (H4 a b) (λj=>.ok (.atom j) s) (aX (qy s.H a b) λr=>bl r s)) (λa b s=>aX (qy s.H a b) λr=>bl (!r) s)
  (λa b s=>aa (isNone b) (aX (AM a) λr=>bl r s) .stuck) (λa b s=>aa (isNone b) (aX (AM a) λr=>bl (!r) s) .stuck)
  (λa b s=>zI a b s id) (λa b s=>zI a b s not)
  (λa b s=>j0 a b λx y=>bl (decide (x<y)) s) (λa b s=>j0 a b λx y=>bl (decide (y<x)) s)
  (λa b s=>j0 a b λx y=>bl (decide (y<=x)) s) (λa b s=>j0 a b λx y=>bl (decide (x<=y)) s) op a b s
def qL(i:Int)(n:Nat):Option Nat:=
 Int.rec (λk=>aa (Nat.blt k n) (some k) .none) (λk=>aa (Nat.blt k n) (some (n-(k+1))) .none) i
def K3(o i:V)(s:Sg):R V:=
 dF (dn s.H o) (λp=>aX (eM i) λj=>aX (qL j (len p.2)) λk=>jS s (aj p.2 k))
  (dF (iH s.H o) (λp=>aX (cR i) λk=>jS s (jB p.2 k))
  (aX (cG o) λxs=>aX (eM i) λj=>aa (gi xs) (aX (qL j (len xs)) λk=>jS s (aj xs k)) .stuck))
def Jf(o i v:V)(s:Sg):R Unit:=
 dF (dn s.H o) (λp=>aX (eM i) λj=>aX (qL j (len p.2)) λk=>qf p.1 (qb p.2 k v) s)
  (aX (iH s.H o) λp=>aX (cR i) λk=>Yr p.1 (mU p.2 k v) s)
def bound(d:Nat)(n:Nat)(o:Option V):Option Nat:=
 Option.rec (some d) (λv=>V.rec (some d) (λ_=>.none) (λi=>Int.rec (λk=>some (aa (Nat.ble k n) k n)) (λk=>some (n-(k+1))) i) (λ_=>.none) .none (λ_ _ _ _=>.none) (λ_=>.none) (λ_=>.none) (λ_=>.none) (λ_=>.none) (λ_ _=>.none) (λ_=>.none) v) o
def nL{α:Type}(n:Nat):List α->List α:=Nat.rec (λl=>l) (λ_ ih l=>List.rec [] (λ_ q _=>ih q) l) n
def i4{α:Type}(n:Nat):List α->List α:=Nat.rec (λ_=>[]) (λ_ ih l=>List.rec [] (λx q _=>x::ih q) l) n
def cut{α:Type}(xs:List α)(a b:Nat):List α:=i4 (Nat.sub b a) (nL a xs)
def pA{α:Type}(n:Nat)(lo hi:Option V)(f:Nat->Nat->R α):R α:=aX (bound 0 n lo) λa=>aX (bound n n hi) λb=>f a b
def GQ(o:V)(lo hi:Option V)(s:Sg):R V:=
 dF (cR o) (λc=>pA (len c) lo hi λa b=>pI (cut c a b) s)
  (dF (dn s.H o) (λp=>pA (len p.2) lo hi λa b=>mo (cut p.2 a b) s)
  (aX (cG o) λxs=>aa (gi xs) (pA (len xs) lo hi λa b=>nH (cut xs a b) s) .stuck))
def lS(m a:Nat):Bool:=Nat.beq (Nat.land (Nat.shiftRight m a) 1) 1
def Mw(T:Tb)(o:V)(a:Nat)(s:Sg):R V:=
 aX (oC s.H o) λp=>aX (T.cls p.2.1) λcl=>aa (lS cl.am a) (aX (au p.2.2 a) λv=>aa (ir v) (.ok v s) .stuck) .stuck
def HV(T:Tb)(o:V)(a:Nat)(v:V)(s:Sg):R Unit:=
 aX (oC s.H o) λp=>aX (T.cls p.2.1) λcl=>aa (lS cl.am a) (aa (gi (kA p.2.2 a v)) (.ok () (put p.1 (.inst p.2.1 (kA p.2.2 a v)) s)) .stuck) .stuck
def FN(v:V):Option (List Nat×V):=a7 (cG v) (λl=>match l with|[k,w]=>a7 (cR k) (λx=>some (x,w)) .none|_=>.none) .none
def wc(bF:List (List Nat×V)):List V->Option (List (List Nat×V))
 |[]=>some bF
 |v::r=>a7 (FN v) (λp=>wc (mU bF p.1 p.2) r) .none
def zK(l:List V):Option Bool:=List.rec (some true) (λv _ ih=>a7 (kY v) (λb=>a7 ih (λr=>some (aa b r false)) .none) .none) l
def tn(a:Nat):Nat->List V
 |0=>[]
 |n+1=>.int a::tn (a+1) n
def Ix(v:V):Option (List Nat):=a7 (cR v) some (a7 (eM v) (λi=>aa (Int.rec (λn=>Nat.blt n 10) (λ_=>false) i) (some [48+Int.natAbs i]) .none) .none)
def mK(n:Nat)(s:Sg):R V:=.ok (.int (.ofNat n)) s
def Fj(v:V)(s:Sg):R V:=
 dF (cR v) (λc=>aa (gi c) (mK (len c) s) .stuck)
  (dF (dn s.H v) (λp=>mK (len p.2) s)
  (dF (iH s.H v) (λp=>mK (len p.2) s)
  (aX (cG v) λxs=>aa (gi xs) (mK (len xs) s) .stuck)))
def b1(k:Nat)(v:V)(s:Sg):R V:=
 aa (Nat.beq k 0) (Fj v s)
 (aa (Nat.beq k 4) (aa (AW v) (.ok v s) (aX (bg s.H v) λxs=>nH xs s))
 (aa (Nat.beq k 5) (aX (bg s.H v) λxs=>mo xs s)
 (aa (Nat.beq k 3) (aX (Ix v) λx=>pI x s)
 (aa (Nat.beq k 2) (aX (kY v) λb=>.ok (.int (aa b 1 0)) s)
 (aa (Nat.beq k 9) (aX (u6 s.H v) λxs=>aX (zK xs) λb=>bl b s)
 (aa (Nat.beq k 10) (aX (u6 s.H v) λxs=>aX (wc [] xs) λbF=>uI bF s) .stuck))))))
def builtin(k:Nat)(vs:List V)(s:Sg):R V:=
 List.rec .stuck (λv r _=>List.rec (b1 k v s) (λw q _=>List.rec (aa (Nat.beq k 1) (j0 v w λa b=>.ok (.int (aa (decide (a<b)) b a)) s) .stuck) (λ_ _ _=>.stuck) q) r) vs
def J2(a b:V):Option Bool:=
 a7 (cR a) (λx=>a7 (cR b) (λy=>some (seq x y)) (aa (isNone b) (some false) .none))
  (aa (isNone a) (a7 (cR b) (λ_=>some false) (aa (isNone b) (some true) .none)) .none)
def xe(x:V)(l:List V):Option Nat:=
 List.rec (some 0) (λy _ ih=>a7 (J2 y x) (λa=>a7 ih (λn=>some (aa a (Nat.succ n) n)) .none) .none) l
def zJ(sep:List Nat):List V->Option (List Nat)
 |[]=>some []
 |v::r=>a7 (cR v) (λs=>aa r.isEmpty (some s) (a7 (zJ sep r) (λt=>some (app s (app sep t))) .none)) .none
def AL(H:HT)(k:Nat)(v:V):Bool:=
 Option.rec (Option.rec (Option.rec (Option.rec false (λ_=>Nat.beq k 3) (cG v)) (λ_=>Nat.beq k 5) (cR v)) (λ_=>Nat.beq k 4) (iH H v)) (λ_=>Nat.blt k 4) (dn H v)
def ZW(k n:Nat)(xs:List V)(v:V)(s:Sg):R V:=
 aa (Nat.beq k 0) ((qf n (app xs [v]) s).bind λ_ s=>.ok .none s)
  (aa (Nat.beq k 1) (aX (u6 s.H v) λys=>(qf n (app xs ys) s).bind λ_ s=>.ok .none s)
  (aa (Nat.beq k 3) (aX (xe v xs) λm=>mK m s) .stuck))
def E3(k n:Nat)(xs:List V)(vs:List V)(s:Sg):R V:=
 List.rec (aa (Nat.beq k 2) (aX xs.getLast? λv=>.ok v (put n (.list xs.dropLast) s)) .stuck) (λv r _=>List.rec (ZW k n xs v s) (λ_ _ _=>.stuck) r) vs
def two{α β:Type}(vs:List β)(f:β->β->R α):R α:=List.rec .stuck (λv r _=>List.rec .stuck (λw q _=>List.rec (f v w) (λ_ _ _=>.stuck) q) r) vs
def one{α β:Type}(vs:List β)(f:β->R α):R α:=List.rec .stuck (λv r _=>List.rec (f v) (λ_ _ _=>.stuck) r) vs
def JI(k:Nat)(bF:List (List Nat×V))(vs:List V)(s:Sg):R V:=
 one vs λv=>aX (cR v) λx=>aa (Nat.beq k 4) (.ok (Option.rec .none (λv=>v) (jB bF x)) s) .stuck
def Lb(k:Nat)(c:List Nat)(vs:List V)(s:Sg):R V:=
 one vs λv=>aa (Nat.beq k 5) (aa (gi c) (aX (bg s.H v) λxs=>aX (zJ c xs) λx=>pI x s) .stuck) .stuck
def GO(k:Nat)(xs:List V)(vs:List V)(s:Sg):R V:=
 one vs λv=>aa (Nat.beq k 3) (aX (xe v xs) λm=>mK m s) .stuck
def DN(k:Nat)(o:V)(vs:List V)(s:Sg):R V:=
 dF (dn s.H o) (λp=>E3 k p.1 p.2 vs s)
  (dF (iH s.H o) (λp=>JI k p.2 vs s)
  (dF (cR o) (λc=>Lb k c vs s)
  (aX (cG o) λxs=>GO k xs vs s)))
def LB(T:Tb)(fr:Fr)(x:Nat)(s:Sg):R V:=
 aX (au fr.sc x) λk=>aa (Nat.beq k 0) (jS s (au s.r x)) (aa (Nat.beq k 3) (jS s (T.gl x))
  (aX (au fr.g x) λl=>aX (gH s.H l) λo=>aX (rq o) λv=>jS s v))
def qG(fr:Fr)(x:Nat)(v:V)(s:Sg):R Unit:=
 aX (au fr.sc x) λk=>aa (Nat.beq k 0) (.ok () ⟨s.H,kA s.r x v⟩) (aa (Nat.beq k 1)
  (aX (au fr.g x) λl=>aX (gH s.H l) λo=>aX (rq o) λ_=>.ok () (put l (.cell (some v)) s)) .stuck)
def FS(ps:List Nat):List V->List (Nat×V):=List.rec (λ_=>[]) (λp _ ih vs=>List.rec [] (λv q _=>(p,v)::ih q) vs) ps
def xH(ps:List Nat)(vs:List V):Option (List (Nat×V)):=aa (Nat.beq (len ps) (len vs)) (some (FS ps vs)) .none
def eB(l:List Nat):HT->List (Nat×Nat)->HT×List (Nat×Nat):=
 List.rec (λH g=>(H,g)) (λc _ ih H g=>ih (aH H (.cell .none)) ((c,H.n)::g)) l
def rK(fr:Fr)(l:List (Nat×V)):Sg->R Unit:=
 List.rec (λs=>.ok () s) (λp _ bP s=>(qG fr p.1 p.2 s).bind λ_ s=>bP s) l
def sX(ps:List Nat)(df vs:List V):List V:=List.rec vs (λd r _=>app vs (nL (Nat.sub (len vs) (Nat.sub (len ps) (len (d::r)))) (d::r))) df
def aE(p:Nat):Pos:=⟨p/1000000000,p/1000000%1000,p/1000%1000,p%1000⟩
def uv(e:E):Option Nat:=match e with|.name x _=>some x|_=>.none
structure Ev where
 call:Nat->List V->Sg->R V
 eE:E->Fr->Sg->R V
 eT:E->Fr->Sg->R Bool
 eS:S->Fr->Sg->R Fl
 eW:E->List S->Fr->Sg->R Fl
def FI:Ev:=⟨λ_ _ _=>.stuck,λ_ _ _=>.stuck,λ_ _ _=>.stuck,λ_ _ _=>.stuck,λ_ _ _ _=>.stuck⟩
section
variable(T:Tb)(ih:Ev)
def jE(fr:Fr)(es:List E):Sg->R (List V):=
 List.rec (λs=>.ok [] s) (λe _ bP s=>(ih.eE e fr s).bind λv s=>(bP s).bind λvs s=>.ok (v::vs) s) es
def zR(fr:Fr):List E->Sg->R (Option V)
 |[],s=>.ok .none s
 |e::_,s=>(ih.eE e fr s).bind λv s=>.ok (some v) s
def execs(fr:Fr)(b:List S):Sg->R Fl:=
 List.rec (λs=>.ok .next s) (λst _ bP s=>(ih.eS st fr s).bind λf s=>Fl.rec (bP s) (λv=>.ok (.ret v) s) f) b
def uX(T:Tb)(ih:Ev)(fr:Fr)(t:E)(v:V)(s:Sg):R Unit:=
 E.rec (motive_1:=λ_=>Tb->Ev->Fr->V->Sg->R Unit) (motive_2:=λ_=>Tb->Ev->Fr->V->Sg->R Unit) (λ_ _ _ _ _ _=>.stuck) (λ_ _ _ _ _ _ _=>.stuck) (λ_ _ _ _ _ _ _=>.stuck) (λ_ _ _ _ _ _ _=>.stuck) (λx _ _ _ fr v s=>qG fr x v s) (λo a _ _ T ih fr v s=>(ih.eE o fr s).bind λov s=>HV T ov a v s) (λo i _ _ _ _ ih fr v s=>(ih.eE o fr s).bind λov s=>(ih.eE i fr s).bind λiv s=>Jf ov iv v s) (λ_ _ _ _ _ _ _ _ _ _ _ _ _=>.stuck) (λ_ _ _ _ _ _ _ _ _ _ _=>.stuck) (λ_ _ _ _ _ _ _ _ _ _ _=>.stuck) (λ_ _ _ _ _ _ _ _ _=>.stuck) (λ_ _ _ _ _ _ _ _=>.stuck) (λ_ _ _ _ _ _ _ _=>.stuck) (λ_ _ _ _ _ _ _ _ _ _ _ _=>.stuck) (λ_ _ _ _ _ _ _ _=>.stuck) (λ_ _ _ _ _ _ _ _=>.stuck) (λ_ _ _ _ _ _ _ _ _ _=>.stuck) (λ_ _ _ _ _ _ _ _ _ _=>.stuck) (λ_ _ _ _ _ _ _ _ _ _ _ _ _ _ _=>.stuck) (λ_ _ _ _ _ _ _ _ _ _ _ _ _ _ _ _ _=>.stuck) (λ_ _ _ _ _ _ _ _ _ _=>.stuck) (λ_ _ _ _ _=>.stuck) (λ_ _ _ _ _ _ _ _ _=>.stuck) t T ih fr v s
def r5(f:E->V->Sg->R Unit)(ts:List E):List V->Sg->R Unit:=
 List.rec (λvs s=>List.rec (.ok () s) (λ_ _ _=>.stuck) vs) (λt _ ih vs s=>List.rec .stuck (λv q _=>(f t v s).bind λ_ s=>ih q s) vs) ts
def kX(e:E):Option (List E):=match e with|.tup es _=>some es|_=>.none
def uh(f:E->V->Sg->R Unit)(es:List E)(v:V)(s:Sg):R Unit:=aa (ca v) (aa (Nat.beq (len es) (len (gz v))) (r5 f es (gz v) s) .stuck) .stuck
def oZ(T:Tb)(ih:Ev)(fr:Fr)(t:E)(v:V)(s:Sg):R Unit:=dF (kX t) (λes=>uh (uX T ih fr) es v s) (uX T ih fr t v s)
def assign(T:Tb)(ih:Ev)(fr:Fr)(t:E)(v:V)(s:Sg):R Unit:=dF (kX t) (λes=>uh (oZ T ih fr) es v s) (uX T ih fr t v s)
def sI(e:E):Bool:=
 match e with
 |.none _|.bool _ _|.int _ _|.str _ _|.not _ _|.neg _ _|.tup _ _|.bin .. |.sub .. |.slice .. =>false
 |_=>true
def wu(e:E):Bool:=
 match e with
 |.sub o _ _=>sI o
 |.bin _ l _ _=>sI l
 |.tup es _=>es.any sI
 |e=>sI e
def wQ(ts:List E):Option (List Nat):=List.rec (some []) (λt _ ih=>a7 (uv t) (λx=>a7 ih (λl=>some (x::l)) .none) .none) ts
def eN(x:Nat)(l:List Nat):Bool:=List.rec false (λy _ ih=>aa (Nat.beq x y) true ih) l
def l7(l:List Nat):Bool:=List.rec true (λx r ih=>aa (eN x r) false ih) l
def Ge(e:E):Bool:=match e with|.lst _ _=>true|_=>false
def wK(t v:E):Bool:=
 Option.rec (!Ge t) (λts=>Option.rec true (λvs=>aa (vs.any wu) (Option.rec false l7 (wQ ts)) false) (kX v)) (kX t)
def EY(fr:Fr)(vr:Bool)(es:List E):Sg->R Bool:=
 List.rec (λs=>.ok vr s) (λe _ bP s=>(ih.eT e fr s).bind λb s=>aa (oW b vr) (bP s) (.ok b s)) es
def Ay(fr:Fr)(vr:Bool)(es:List E):Sg->R V:=
 List.rec (λ_=>.stuck) (λe r bP s=>List.rec (ih.eE e fr s) (λ_ _ _=>(ih.eE e fr s).bind λv s=>aX (x4 s.H v) λb=>aa (oW b vr) (bP s) (.ok v s)) r) es
def yu(n:Nat)(l:List V):List V:=List.rec (λ_=>[]) (λv _ ih n=>.cons (.int n) (.cons v .nil)::ih (n+1)) l n
def r8(l:List V):List V->List V:=List.rec (λ_=>[]) (λa _ ih m=>List.rec [] (λb q _=>.cons a (.cons b .nil)::ih q) m) l
def glob(fr:Fr)(x:Nat):Option V:=
 Option.rec .none (λk=>aa (Nat.beq k 3) (T.gl x) .none) (au fr.sc x)
def GC(v:V)(s:Sg):R (List V×List (Nat×List V)×Bool):=dF (dn s.H v) (λp=>.ok (p.2,[p],false) s) (aX (cG v) λxs=>.ok (xs,[],false) s)
def K8(v:V)(s:Sg):R (List V×List (Nat×List V)×Bool):=aX (Gl v) λn=>aa (Nat.ble n 4000) (.ok (tn 0 n,[],false) s) .stuck
def Hb(v:V)(s:Sg):R (List V×List (Nat×List V)×Bool):=aX (dn s.H v) λp=>.ok (yu 0 p.2,[p],true) s
def vQ(v w:V)(s:Sg):R (List V×List (Nat×List V)×Bool):=aX (dn s.H v) λp=>aX (dn s.H w) λq=>.ok (r8 p.2 q.2,[p,q],true) s
def J5(i:E):Option (Nat×List E):=match i with|.call f es _=>a7 (uv f) (λx=>some (x,es)) .none|_=>.none
def Jc(fr:Fr)(i:E):Option (Nat×List E):=a7 (J5 i) (λc=>a7 (glob T fr c.1) (λv=>a7 (dX v) (λk=>some (k,c.2)) .none) .none) .none
def ES(fr:Fr)(i:E)(s:Sg):R (List V×List (Nat×List V)×Bool):=(ih.eE i fr s).bind λv s=>GC v s
def xa(fr:Fr)(i:E)(s:Sg):R (List V×List (Nat×List V)×Bool):=
 dF (Jc T fr i) (λb=>aa (Nat.beq b.1 7) (one b.2 λa=>(ih.eE a fr s).bind λv s=>Hb v s)
  (aa (Nat.beq b.1 8) (two b.2 λa d=>(ih.eE a fr s).bind λv s=>(ih.eE d fr s).bind λw s=>vQ v w s)
  (aa (Nat.beq b.1 6) (one b.2 λa=>(ih.eE a fr s).bind λv s=>K8 v s) (ES ih fr i s)))) (ES ih fr i s)
def Er(i:E):Option (E×E×E):=match i with|.ife c a b _=>some (c,a,b)|_=>.none
def qt(fr:Fr)(i:E)(s:Sg):R (List V×List (Nat×List V)×Bool):=
 dF (Er i) (λx=>(ih.eT x.1 fr s).bind λt s=>aa t (xa T ih fr x.2.1 s) (xa T ih fr x.2.2 s)) (xa T ih fr i s)
end
def V.beq(a:V):V->Bool:=
 V.rec isNone (λx b=>Option.rec false (λy=>aa x y (!y)) (kY b)) (λx b=>Option.rec false (λy=>decide (x=y)) (eM b)) (λx b=>Option.rec false (λy=>seq x y) (cR b)) Ae
  (λ_ _ CW CX b=>Option.rec false (λr=>aa (CW r.1) (CX r.2) false) (wo b)) (λn b=>Option.rec false (λm=>Nat.beq n m) (ck b)) (λ_ _=>false) (λ_ _=>false)
  (λn b=>Option.rec false (λm=>Nat.beq n m) (dX b)) (λ_ _ _=>false) (λn b=>Option.rec false (λm=>Nat.beq n m) (cu b)) a
def uF(a:List V):List V->Bool:=List.rec (λb=>b.isEmpty) (λx _ ih b=>List.rec false (λy q _=>aa (V.beq x y) (ih q) false) b) a
def fe(H:HT)(lk:List (Nat×List V)):Bool:=List.rec true (λp _ ih=>Option.rec false (λo=>Option.rec false (λys=>aa (uF p.2 ys) ih false) (mh o)) (gH H p.1)) lk
section
variable(T:Tb)(ih:Ev)
def Cu(own:Bool)(t:E):Bool:=aa own (Option.rec false (λ_=>true) (kX t)) true
def rt(it:List V×List (Nat×List V)×Bool)(t:E)(s:Sg):Bool:=aa (Cu it.2.2 t) (fe s.H it.2.1) false
def wn(fr:Fr)(t:E)(body:List S)(lk:List (Nat×List V))(l:List V):Sg->R Fl:=
 List.rec (λs=>.ok .next s) (λv _ bP s=>(assign T ih fr t v s).bind λ_ s=>(execs ih fr body s).bind λf s=>Fl.rec (aa (fe s.H lk) (bP s) .stuck) (λv=>.ok (.ret v) s) f) l
def KT(fr:Fr)(c:List E)(s:Sg):R Bool:=List.rec (.ok true s) (λe r _=>List.rec (ih.eT e fr s) (λ_ _ _=>.stuck) r) c
def push(acc:Nat)(v:V)(s:Sg):R Unit:=
 aX (gH s.H acc) λo=>aX (mh o) λxs=>qf acc (app xs [v]) s
def jK(fr:Fr)(t:E)(c:List E)(emit:Sg->R Unit)(lk:List (Nat×List V))(l:List V):Sg->R Unit:=
 List.rec (λs=>.ok () s) (λv _ bP s=>(assign T ih fr t v s).bind λ_ s=>(KT ih fr c s).bind λb s=>(aa b (emit s) (.ok () s)).bind λ_ s=>aa (fe s.H lk) (bP s) .stuck) l
def ju{α:Type}(r:List (Nat×V))(x:R α):R α:=R.rec (λa s=>.ok a ⟨s.H,r⟩) (λc m v s=>.exc c m v ⟨s.H,r⟩) .stuck x
def vY(fr:Fr):List E->List E->List (List Nat×V)->Sg->R (List (List Nat×V))
 |[],[],acc,s=>.ok acc s
 |k::r,v::q,acc,s=>(ih.eE k fr s).bind λkv s=>(ih.eE v fr s).bind λvv s=>aX (cR kv) λx=>vY fr r q (mU acc x vv) s
 |_,_,_,_=>.stuck
def CP(T:Tb)(H:HT)(o:V)(a:Nat):Option (Nat×Bool):=
 Option.rec (some (a,false)) (λp=>Option.rec (a7 (T.cls p.2.1) (λcl=>a7 (au cl.meth a) (λk=>some (k,true)) .none) .none) (λ_=>.none) (au p.2.2 a)) (oC H o)
def LY(c:Nat)(vs:List V)(s:Sg):R V:=
 aX (T.cls c) λcl=>(ih.call cl.init (.loc (s.H.n)::vs) ⟨aH s.H (.inst c []),s.r⟩).bind λv s'=>aa (isNone v) (.ok (.loc (s.H.n)) s') .stuck
def yz(f:V)(vs:List V)(s:Sg):R V:=
 V.rec (motive:=λ_=>Tb->Ev->List V->Sg->R V) (λ_ _ _ _=>.stuck) (λ_ _ _ _ _=>.stuck) (λ_ _ _ _ _=>.stuck) (λ_ _ _ _ _=>.stuck) (λ_ _ _ _=>.stuck) (λ_ _ _ _ _ _ _ _=>.stuck) (λ_ _ _ _ _=>.stuck) (λk T ih vs s=>aa (Nat.blt k T.nfn) (ih.call k vs s) .stuck) (λk T ih vs s=>LY T ih k vs s) (λk T ih vs s=>builtin k vs s) (λl fK T ih vs s=>aX (xH l.ps vs) λbs=>ju s.r ((rK ⟨l.sc,fK,false⟩ bs ⟨s.H,[]⟩).bind λ_ s1=>ih.eE l.body ⟨l.sc,fK,false⟩ s1)) (λ_ _ _ _ _=>.stuck) f T ih vs s
def fK(g:List (Nat×Nat))(sc:List (Nat×Nat)):Option (List (Nat×Nat)):=
 List.rec (some []) (λp _ ih=>aa (Nat.beq p.2 2) (a7 (au g p.1) (λl=>a7 ih (λq=>some ((p.1,l)::q)) .none) .none) ih) sc
def LC(o:E)(a:Nat)(fr:Fr)(s:Sg):R V:=(ih.eE o fr s).bind λv s=>Mw T v a s
def Ex(o i:E)(fr:Fr)(s:Sg):R V:=(ih.eE o fr s).bind λv s=>(ih.eE i fr s).bind λw s=>K3 v w s
def EN(o:E)(lo hi:List E)(fr:Fr)(s:Sg):R V:=(ih.eE o fr s).bind λv s=>(zR ih fr lo s).bind λa s=>(zR ih fr hi s).bind λb s=>GQ v a b s
def Jv(op:r7)(l r:E)(fr:Fr)(s:Sg):R V:=(ih.eE l fr s).bind λv s=>(ih.eE r fr s).bind λw s=>sM op v w s
def Fk(op:ti)(l r:E)(fr:Fr)(s:Sg):R V:=(ih.eE l fr s).bind λv s=>(ih.eE r fr s).bind λw s=>LX op v w s
def D5(x:E)(fr:Fr)(s:Sg):R V:=(ih.eE x fr s).bind λv s=>aX (x4 s.H v) λb=>bl (!b) s
def Ea(x:E)(fr:Fr)(s:Sg):R V:=(ih.eE x fr s).bind λv s=>aX (eM v) λi=>.ok (.int (-i)) s
def Mx(t b o:E)(fr:Fr)(s:Sg):R V:=(ih.eT t fr s).bind λc s=>aa c (ih.eE b fr s) (ih.eE o fr s)
def H9(es:List E)(fr:Fr)(s:Sg):R V:=(jE ih fr es s).bind λvs s=>nH vs s
def KK(es:List E)(fr:Fr)(s:Sg):R V:=(jE ih fr es s).bind λvs s=>mo vs s
def KZ(ks vs:List E)(fr:Fr)(s:Sg):R V:=aa (Nat.ble (len ks) 15) (aa (Nat.beq (len ks) (len vs)) ((vY ih fr ks vs [] s).bind λbF s=>uI bF s) .stuck) .stuck
def DP(mc:Nat->Option Nat)(o:E)(a:Nat)(es:List E)(fr:Fr)(s:Sg):R V:=
 (ih.eE o fr s).bind λov s=>aX (CP T s.H ov a) λkb=>aa kb.2 (aa (Nat.blt kb.1 T.nfn) ((jE ih fr es s).bind λvs s=>ih.call kb.1 (ov::vs) s) .stuck)
  (aX (mc a) λk=>aa (AL s.H k ov) ((jE ih fr es s).bind λvs s=>DN k ov vs s) .stuck)
def KI(f:E)(es:List E)(fr:Fr)(s:Sg):R V:=(ih.eE f fr s).bind λfv s=>(jE ih fr es s).bind λvs s=>yz T ih fv vs s
def rV(elt:E)(n:Nat)(fr:Fr)(s:Sg):R Unit:=(ih.eE elt fr s).bind λv s=>push n v s
def z7(elt t2 i2:E)(n:Nat)(fr:Fr)(s:Sg):R Unit:=
 (qt T ih fr i2 s).bind λCY s=>aa (rt CY t2 s) (jK T ih fr t2 [] (rV ih elt n fr) CY.2.1 CY.1 s) .stuck
def k8(sc:List (Nat×Nat)):Bool:=List.rec true (λp r ih=>aa (Nat.beq p.2 1) false (aa (Nat.ble p.2 3) (Option.rec ih (λk=>aa (Nat.beq k p.2) ih false) (au r p.1)) false)) sc
def wG(cj:Sg->R Unit)(s:Sg):R V:=ju s.r ((cj ⟨aH s.H (.list []),[]⟩).bind λ_ s'=>.ok (.loc (s.H.n)) s')
def comp(t i:E)(c:List E)(sc:List (Nat×Nat))(emit:Nat->Fr->Sg->R Unit)(fr:Fr)(s:Sg):R V:=
 aa (k8 sc) (aX (fK fr.g sc) λg=>(qt T ih fr i s).bind λit s=>
  aa (rt it t s) (wG (λs'=>jK T ih ⟨sc,g,false⟩ t c (emit (s.H.n) ⟨sc,g,false⟩) it.2.1 it.1 s') s) .stuck) .stuck
def w5(elt t i:E)(c:List E)(sc:List (Nat×Nat))(fr:Fr)(s:Sg):R V:=comp T ih t i c sc (λn fr=>rV ih elt n fr) fr s
def v3(elt t i t2 i2:E)(sc:List (Nat×Nat))(fr:Fr)(s:Sg):R V:=comp T ih t i [] sc (λn fr=>z7 T ih elt t2 i2 n fr) fr s
def EW(ps:List (Nat×Nat))(body:E)(sc:List (Nat×Nat))(fr:Fr)(s:Sg):R V:=
 aa fr.lm (aa (k8 sc) (aa (Nat.ble (len ps) 1) (aX (fK fr.g sc) λcs=>.ok (.clo ⟨ps.map (·.1),sc,body⟩ cs) s) .stuck) .stuck) .stuck
def IB(e:E):Option (E×Nat×Nat):=match e with|.attr o a p=>some (o,a,p)|_=>.none
def sC(mc:Nat->Option Nat)(f:E)(es:List E)(q:Nat)(fr:Fr)(s:Sg):R V:=
 dF (IB f) (λx=>aa (Nat.beq (aE x.2.2).endLine (aE q).line) (aa (Nat.blt (len es) 30) (DP T ih mc x.1 x.2.1 es fr s) .stuck) .stuck) (KI T ih f es fr s)
def Bk(mc:Nat->Option Nat)(e:E)(fr:Fr)(s:Sg):R V:=
 E.rec (motive_1:=λ_=>Tb->Ev->(Nat->Option Nat)->Fr->Sg->R V) (motive_2:=λ_=>Tb->Ev->(Nat->Option Nat)->Fr->Sg->R V) (λ_ _ _ _ _ s=>.ok .none s) (λb _ _ _ _ _ s=>.ok (.bool b) s) (λi _ _ _ _ _ s=>.ok (.int (.ofNat i)) s) (λk _ _ _ _ _ s=>.ok (.str k) s) (λx _ T _ _ fr s=>LB T fr x s) (λo a _ _ T ih _ fr s=>LC T ih o a fr s) (λo i _ _ _ _ ih _ fr s=>Ex ih o i fr s) (λo lo hi _ _ _ _ _ _ ih _ fr s=>EN ih o lo hi fr s) (λop l r _ _ _ _ ih _ fr s=>Jv ih op l r fr s) (λop l r _ _ _ _ ih _ fr s=>Fk ih op l r fr s) (λa es _ _ _ ih _ fr s=>Ay ih fr a es s) (λx _ _ _ ih _ fr s=>D5 ih x fr s) (λx _ _ _ ih _ fr s=>Ea ih x fr s) (λt b o _ _ _ _ _ ih _ fr s=>Mx ih t b o fr s) (λes _ _ _ ih _ fr s=>H9 ih es fr s) (λes _ _ _ ih _ fr s=>KK ih es fr s) (λks vs _ _ _ _ ih _ fr s=>KZ ih ks vs fr s) (λf es q _ _ T ih mc fr s=>sC T ih mc f es q fr s) (λelt t i c sc _ _ _ _ _ T ih _ fr s=>w5 T ih elt t i c sc fr s) (λelt t i t2 i2 sc _ _ _ _ _ _ T ih _ fr s=>v3 T ih elt t i t2 i2 sc fr s) (λps body sc _ _ _ _ _ fr s=>EW ps body sc fr s) (λ_ _ _ _ _=>.stuck) (λ_ _ _ _ _ _ _ _ _=>.stuck) e T ih mc fr s
def SN(x:E)(fr:Fr)(s:Sg):R Bool:=(ih.eT x fr s).bind λb s=>.ok (!b) s
def To(t b o:E)(fr:Fr)(s:Sg):R Bool:=(ih.eT t fr s).bind λc s=>aa c (ih.eT b fr s) (ih.eT o fr s)
def fL(e:E)(fr:Fr)(s:Sg):R Bool:=(ih.eE e fr s).bind λv s=>jS s (x4 s.H v)
def Cj(e:E)(fr:Fr)(s:Sg):R Bool:=
 E.rec (motive_1:=λ_=>Ev->E->Fr->Sg->R Bool) (motive_2:=λ_=>Ev->E->Fr->Sg->R Bool) (λ_ ih e fr s=>fL ih e fr s) (λ_ _ ih e fr s=>fL ih e fr s) (λ_ _ ih e fr s=>fL ih e fr s) (λ_ _ ih e fr s=>fL ih e fr s) (λ_ _ ih e fr s=>fL ih e fr s) (λ_ _ _ _ ih e fr s=>fL ih e fr s) (λ_ _ _ _ _ ih e fr s=>fL ih e fr s) (λ_ _ _ _ _ _ _ _ ih e fr s=>fL ih e fr s) (λ_ _ _ _ _ _ ih e fr s=>fL ih e fr s) (λ_ _ _ _ _ _ ih e fr s=>fL ih e fr s) (λa es _ _ ih _ fr s=>EY ih fr a es s) (λx _ _ ih _ fr s=>SN ih x fr s) (λ_ _ _ ih e fr s=>fL ih e fr s) (λt b o _ _ _ _ ih _ fr s=>To ih t b o fr s) (λ_ _ _ ih e fr s=>fL ih e fr s) (λ_ _ _ ih e fr s=>fL ih e fr s) (λ_ _ _ _ _ ih e fr s=>fL ih e fr s) (λ_ _ _ _ _ ih e fr s=>fL ih e fr s) (λ_ _ _ _ _ _ _ _ _ _ ih e fr s=>fL ih e fr s) (λ_ _ _ _ _ _ _ _ _ _ _ _ ih e fr s=>fL ih e fr s) (λ_ _ _ _ _ ih e fr s=>fL ih e fr s) (λ_ _ _ _=>.stuck) (λ_ _ _ _ _ _ _ _=>.stuck) e ih e fr s
def yn(n:Nat)(s:Sg)(x:Nat×R0):R V:=
 aa (Nat.ble x.1 n) (R0.rec (λv H=>.ok v ⟨H,s.r⟩) (λc m v H=>.exc c m v ⟨H,s.r⟩) x.2) .stuck
def body(f:Fn)(g:List (Nat×Nat))(bs:List (Nat×V))(s:Sg):R V:=
 (rK ⟨f.sc,g,f.lm⟩ bs s).bind λ_ s1=>(execs ih ⟨f.sc,g,f.lm⟩ f.body s1).bind λfl s2=>Fl.rec (.ok .none s2) (λv=>.ok v s2) fl
def nz(f:Fn)(vs:List V)(s:Sg):R V:=
 aX (xH f.ps (sX f.ps f.df vs)) λbs=>ju s.r (body ih f (eB f.cs s.H []).2 bs ⟨(eB f.cs s.H []).1,[]⟩)
def jm(n:Nat)(k:Nat)(vs:List V)(s:Sg):R V:=
 dF (T.O k vs s.H) (yn n s) (aX (T.fns k) λf=>nz ih f vs s)
def uY(a:Nat)(m v:V):V:=Nat.rec m (λ_ _=>v) a
def CV(fr:Fr)(x:Nat):Bool:=Option.rec false (λk=>Nat.beq k 0) (au fr.sc x)
def JO(fr:Fr)(h:Hd)(v:V)(s:Sg):R Fl:=
 aa (CV fr h.x) (aa (Nat.ble h.a 1) (aa (ir v) (.ok (.ret (.cons (.str h.tag) (.cons v .nil))) ⟨s.H,s.r.filter λq=> !Nat.beq q.1 h.x⟩) .stuck) .stuck) .stuck
def xu(fr:Fr)(c:Nat)(m v:V):List Hd->Sg->R Fl
 |[],s=>.exc c m v s
 |h::r,s=>aX (glob T fr h.c) λw=>aX (wC w) λd=>aX (T.sub c d) λb=>aa b (JO fr h (uY h.a m v) s) (xu fr c m v r s)
def xZ(e:E):Bool:=match e with|.comp .. =>true|.comp2 .. =>true|_=>false
def FP(e:E)(fr:Fr)(s:Sg):R Fl:=aa (xZ e) .stuck ((ih.eE e fr s).bind λ_ s=>.ok .next s)
def Ed(v:E)(fr:Fr)(s:Sg):R V:=
 aa (xZ v) (match v with
  |.comp elt t i c sc _=>w5 T ih elt t i c sc fr s
  |.comp2 elt t i t2 i2 sc _=>v3 T ih elt t i t2 i2 sc fr s
  |_=>.stuck) (ih.eE v fr s)
def Ca(t v:E)(fr:Fr)(s:Sg):R Fl:=aa (wK t v) ((Ed T ih v fr s).bind λx s=>(assign T ih fr t x s).bind λ_ s=>.ok .next s) .stuck
def F3(t i:E)(b:List S)(fr:Fr)(s:Sg):R Fl:=(qt T ih fr i s).bind λit s=>aa (rt it t s) (wn T ih fr t b it.2.1 it.1 s) .stuck
def FJ(c:E)(b o:List S)(fr:Fr)(s:Sg):R Fl:=(ih.eT c fr s).bind λt s=>aa t (execs ih fr b s) (execs ih fr o s)
def KQ(e:E)(fr:Fr)(s:Sg):R Fl:=(ih.eE e fr s).bind λv s=>.ok (.ret v) s
def LE(c:Nat)(es:List E)(fr:Fr)(s:Sg):R Fl:=
 aX (glob T fr c) λw=>aX (wC w) λk=>aX (T.sub k k) λb=>aa b ((jE ih fr es s).bind λvs s=>two vs λm v=>.exc k m v s) .stuck
def IU(b:List S)(hs:List Hd)(fr:Fr)(s:Sg):R Fl:=
 aa (Nat.beq (len hs) 0) .stuck (R.rec (λf s=>.ok f s) (λc m v s=>xu T fr c m v hs s) .stuck (execs ih fr b s))
def xf(e:S)(fr:Fr)(s:Sg):R Fl:=
 S.rec (motive_1:=λ_=>Tb->Ev->Fr->Sg->R Fl) (motive_2:=λ_=>Tb->Ev->Fr->Sg->R Fl) (λe _ _ ih fr s=>FP ih e fr s) (λt v _ T ih fr s=>Ca T ih t v fr s) (λt i b _ _ T ih fr s=>F3 T ih t i b fr s) (λc b _ _ _ ih fr s=>ih.eW c b fr s) (λc b o _ _ _ _ ih fr s=>FJ ih c b o fr s) (λe _ _ ih fr s=>KQ ih e fr s) (λc es _ _ _ T ih fr s=>LE T ih c es fr s) (λb hs _ _ T ih fr s=>IU T ih b hs fr s) (λ_ _ _ _ s=>.ok .next s) (λ_ _ _ _=>.stuck) (λ_ _ _ _ _ _ _ _=>.stuck) e T ih fr s
def AU(c:E)(b:List S)(fr:Fr)(s:Sg):R Fl:=
 (ih.eT c fr s).bind λt s=>aa t ((execs ih fr b s).bind λf s=>Fl.rec (ih.eW c b fr s) (λv=>.ok (.ret v) s) f) (.ok .next s)
end
def ev(T:Tb)(mc:Nat->Option Nat):Nat->Ev
 |0=>FI
 |n+1=>⟨jm T (ev T mc n) n,Bk T (ev T mc n) mc,Cj (ev T mc n),xf T (ev T mc n),AU (ev T mc n)⟩
end
section
open PySem PySem.W PyProof.Rows
theorem fF{α:Type}(x y:α):aa true x y=x:=rfl
theorem cW{α:Type}(x y:α):aa false x y=y:=rfl
theorem q8{α:Type}(b:Bool)(x y:α):aa b x y=if b=true then x else y:=by cases b<;>rfl
theorem ns{α:Type}{a:α}{P:Prop}(h:none=some a):P:=nomatch h
theorem sn{α:Type}{a:α}{P:Prop}(h:some a=none):P:=nomatch h
theorem ft{P:Prop}(h:false=true):P:=nomatch h
theorem tf{P:Prop}(h:true=false):P:=nomatch h
theorem cg{α:Type}{o:Option α}{a:α}{P:Prop}(h:o=some a)(k:o=none):P:=sn (h.symm.trans k)
theorem bB{α:Type}{o:Option α}{a b:α}(h:o=some a)(k:o=some b):a=b:=af (h.symm.trans k)
def kd(k:Nat):NameKind:=match k with|0=>.local|1=>.cell|2=>.free|_=>.globalImplicit
def aW(l:List Nat):Str:=⟨l.toArray⟩
def dW(nm:Nat->Str)(l:List (Nat×Nat)):Scope:={kind:=.function,names:=l.map λp=>(nm p.1,kd p.2),isGenerator:=false,isCoroutine:=false,more:=[]}
def Fw:r7->Operator
 |.add=>.Add|.sub=>.Sub|.mul=>.Mult|.fdiv=>.FloorDiv|.mod=>.Mod|.pow=>.Pow
def Hy:ti->CmpOp
 |.eq=>.Eq|.ne=>.NotEq|.is=>.Is|.isNot=>.IsNot|.isin=>.In|.notIn=>.NotIn|.lt=>.Lt|.gt=>.Gt|.ge=>.GtE|.le=>.LtE
section
variable(nm:Nat->Str)
mutual
def an:E->Expr
 |.none p=>.Constant .none 0 (aE p)
 |.bool b p=>.Constant (.bool b) 0 (aE p)
 |.int i p=>.Constant (.int (.ofNat i)) 0 (aE p)
 |.str cs p=>.Constant (.str (aW cs)) 0 (aE p)
 |.name x p=>.Name (nm x) (aE p)
 |.attr o a p=>.Attribute (an o) (nm a) (aE p)
 |.sub o i p=>.Subscript (an o) (an i) (aE p)
 |.slice o lo hi p q=>.Subscript (an o) (.Slice (BQ lo) (BQ hi) none (aE q)) (aE p)
 |.bin op l r p=>.BinOp (an l) (Fw op) (an r) (aE p)
 |.cmp op l r p=>.Compare (an l) [Hy op] [an r] (aE p)
 |.bop a es p=>.BoolOp (if a then .And else .Or) (bC es) (aE p)
 |.not x p=>.UnaryOp .Not (an x) (aE p)
 |.neg x p=>.UnaryOp .USub (an x) (aE p)
 |.ife t b o p=>.IfExp (an t) (an b) (an o) (aE p)
 |.tup es p=>.Tuple (bC es) 0 (aE p)
 |.lst es p=>.List (bC es) (aE p)
 |.dct ks vs p=>.Dict (uj ks) (bC vs) (aE p)
 |.call f es p=>.Call (an f) (bC es) [] (aE p)
 |.comp elt t i c sc p=>.ListComp (an elt) [⟨an t,an i,bC c,0⟩] (dW nm sc) (aE p)
 |.comp2 elt t i t2 i2 sc p=>.ListComp (an elt) [⟨an t,an i,[],0⟩,⟨an t2,an i2,[],0⟩] (dW nm sc) (aE p)
 |.lam ps body sc p=>.Lambda ⟨[],ps.map λq=>⟨nm q.1,none,aE q.2⟩,none,[],[],none,[]⟩ (an body) (dW nm sc) (aE p)
def bC:List E->List Expr
 |[]=>[]
 |e::r=>an e::bC r
def uj:List E->List (Option Expr)
 |[]=>[]
 |e::r=>some (an e)::uj r
def BQ:List E->Option Expr
 |[]=>none
 |e::_=>some (an e)
end
def DQ(h:Hd):ExceptHandler:=
 .ExceptHandler (some (.Name (nm h.c) (aE h.pc))) (some (nm h.x))
  [.Return (some (.Tuple [.Constant (.str (aW h.tag)) 0 (aE h.ps),.Attribute (.Name (nm h.x) (aE h.px)) (nm h.a) (aE h.pa)] 0 (aE h.pt))) (aE h.pr)] (aE h.ph)
mutual
def cT:S->Stmt
 |.expr e p=>.Expr (an nm e) (aE p)
 |.assign t v p=>.Assign [an nm t] (an nm v) (aE p)
 |.forS t i b p=>.For (an nm t) (an nm i) (cU b) [] (aE p)
 |.while c b p=>.While (an nm c) (cU b) [] (aE p)
 |.ifS c b o p=>.If (an nm c) (cU b) (cU o) (aE p)
 |.ret e p=>.Return (some (an nm e)) (aE p)
 |.raise c es pn pc p=>.Raise (some (.Call (.Name (nm c) (aE pn)) (bC nm es) [] (aE pc))) none (aE p)
 |.tryS b hs p=>.Try (cU b) (hs.map (DQ nm)) [] [] (aE p)
 |.pass p=>.Pass (aE p)
def cU:List S->List Stmt
 |[]=>[]
 |s::r=>cT s::cU r
end
end
abbrev Mu:=List (Addr×Addr)
structure Cx where
 prog:Program
 w:World
 base:Heap
 T:Tb
 mc:Nat->Option Nat
 nm:Nat->Str
 fnA:Nat->Addr
 clA:Nat->Addr
 biV:Nat->Value
 tabs:List (Addr×Addr)
 tq:Addr->Str
 ρ:Nat->V
 seg:Nat->List V
 ρe:∀i H,eI H 20 (ρ i) (ρ i)=some true
 ρd:∀i j,yr i j=true->i≠j->∃a b,ρ i=.str a/\ρ j=.str b/\seq a b=false
 ρt:∀i,Nat.ble 64 i=true->Nat.blt i 128=true->ca (ρ i)=true
 ρz:∀i,Nat.ble 6000 i=true->Nat.blt i 7000=true->∃d:Int,ρ i=.int d/\ρ (i+1000)=.bool (decide (d=0))
abbrev Cx.M(c:Cx):Model:=model c.prog c.w
def own(μ:Mu)(b:Addr):Prop:=∃p∈μ,b=p.1\/b=p.2
structure UB(c:Cx)(μ:Mu)(h:Heap)(a:Addr)(l:Lm)(fK:List (Nat×Nat))(o:Obj)(fd:FuncData):Prop where
 c1:h.get? a=some o
 c2:o.cls=.type "function"
 c3:o.data=.func fd
 c4:k8 l.sc=true
 c5:fd.body=.expr (an c.nm l.body)
 c6:fd.scope=dW c.nm l.sc
 c7:fd.globals=mainGlobals
 c8:fd.builtins=builtinsNs
 c9:h.CodeRec fd.code fd.qualname
 c10:∀x n,au fK x=some n->∃p,aj μ n=some p/\fd.closure.lookup (c.nm x)=some p.1
 c11:∃args:List Arg,fd.params=⟨[],args,none,[],[],none,[]⟩/\args.map (·.arg)=l.ps.map c.nm
 c12:fd.defaults=.none
 c13:(l.ps.map c.nm).Nodup
structure mZ(c:Cx)(μ:Mu)(h:Heap)(a:Addr)(l:Lm)(fK:List (Nat×Nat)):Prop where
 ex:∃o fd,UB c μ h a l fK o fd
def Lv(X:Addr->Prop)(h:Heap)(a:Addr):Prop:=¬X a/\∃o,h.get? a=some o/\o.dict=none
structure iJ(X:Addr->Prop)(h:Heap)(P:List Value->Prop)(x:Value):Prop where
 ex:∃a its,x=.ref a/\h.IsTuple a its/\Lv X h a/\P its.toList
def jP(P:Value->Prop)(Q:List Value->Prop)(l:List Value):Prop:=∃y ys,l=y::ys/\P y/\Q ys
def PV(X:Addr->Prop)(h:Heap):V->(Value->Prop)×(List Value->Prop)
 |.none=>(λx=>x=.none,λ_=>False)
 |.bool b=>(λx=>x=.bool b,λ_=>False)
 |.int i=>(λx=>∃t,x=.int i t,λ_=>False)
 |.str s=>(λx=>∃t,x=.str (aW s) t,λ_=>False)
 |.nil=>(iJ X h λl=>l=[],λl=>l=[])
 |.cons p q=>(iJ X h (jP (PV X h p).1 (PV X h q).2),jP (PV X h p).1 (PV X h q).2)
 |_=>(λ_=>False,λ_=>False)
section
variable(c:Cx)(X:Addr->Prop)(μ:Mu)(h:Heap)
def RV:V->(Value->Prop)×(List Value->Prop)
 |.none=>(λx=>x=.none,λ_=>False)
 |.bool b=>(λx=>x=.bool b,λ_=>False)
 |.int i=>(λx=>∃t,x=.int i t,λ_=>False)
 |.str s=>(λx=>∃t,x=.str (aW s) t,λ_=>False)
 |.nil=>(iJ X h λl=>l=[],λl=>l=[])
 |.cons p q=>(iJ X h (jP (RV p).1 (RV q).2),jP (RV p).1 (RV q).2)
 |.loc n=>(λx=>∃p,aj μ n=some p/\x=.ref p.1,λ_=>False)
 |.fn k=>(λx=>x=.ref (c.fnA k),λ_=>False)
 |.cls k=>(λx=>x=.ref (c.clA k),λ_=>False)
 |.bi k=>(λx=>x=c.biV k,λ_=>False)
 |.clo l fK=>(λx=>∃a,x=.ref a/\mZ c μ h a l fK,λ_=>False)
 |.atom n=>(λx=>(PV X h (c.ρ n)).1 x,λ_=>False)
def ad(v:V)(x:Value):Prop:=(RV c X μ h v).1 x
def jw(v:V)(l:List Value):Prop:=(RV c X μ h v).2 l
end
inductive ay{α β:Type}(P:α->β->Prop):List α->List β->Prop
 |nil:ay P [] []
 |cons {a b r q}:P a b->ay P r q->ay P (a::r) (b::q)
namespace ay
variable{α β:Type}{P Q:α->β->Prop}
theorem mono(k:∀a b,P a b->Q a b){l:List α}{m:List β}(x:ay P l m):ay Q l m:=by induction x with|nil=>exact .nil|cons p _ ih=>exact .cons (k _ _ p) ih
theorem length{l:List α}{m:List β}(x:ay P l m):m.length=l.length:=by induction x with|nil=>rfl|cons _ _ ih=>exact aq (· +1) ih
theorem append{l:List α}{m:List β}{l':List α}{m':List β}(x:ay P l m)(y:ay P l' m'):ay P (l++l') (m++m'):=by induction x with|nil=>exact y|cons p _ ih=>exact .cons p ih
theorem get{l:List α}{m:List β}(x:ay P l m):∀(i:Nat) (a:α),l[i]?=some a->∃b,m[i]?=some b/\P a b:=by
 induction x with
 |nil=>exact λi a h=>ns h
 |cons p _ ih=>exact λi a=>Nat.casesOn i (λh=>⟨_,rfl,af h▸p⟩) λi h=>ih i a h
theorem get'{l:List α}{m:List β}(x:ay P l m):∀(i:Nat) (b:β),m[i]?=some b->∃a,l[i]?=some a/\P a b:=by
 induction x with
 |nil=>exact λi a h=>ns h
 |cons p _ ih=>exact λi a=>Nat.casesOn i (λh=>⟨_,rfl,af h▸p⟩) λi h=>ih i a h
theorem set{l:List α}{m:List β}(x:ay P l m):∀(i:Nat) (a:α) (b:β),P a b->ay P (l.set i a) (m.set i b):=by
 induction x with
 |nil=>exact λ_ _ _ _=>.nil
 |cons p r ih=>exact λi a b h=>Nat.casesOn i (.cons h r) λi=>.cons p (ih i a b h)
theorem drop{l:List α}{m:List β}(x:ay P l m):∀(i:Nat),ay P (l.drop i) (m.drop i):=by
 induction x with
 |nil=>exact λi=>Nat.casesOn i .nil λ_=>.nil
 |cons p r ih=>exact λi=>Nat.casesOn i (.cons p r) λi=>ih i
theorem take{l:List α}{m:List β}(x:ay P l m):∀(i:Nat),ay P (l.take i) (m.take i):=by
 induction x with
 |nil=>exact λi=>Nat.casesOn i .nil λ_=>.nil
 |cons p r ih=>exact λi=>Nat.casesOn i .nil λi=>.cons p (ih i)
end ay
theorem cq{α:Type}(a b:List α):app a b=a++b:=by induction a with|nil=>rfl|cons x r ih=>exact aq (x:: ·) ih
theorem bH{α:Type}(a:List α):len a=a.length:=by induction a with|nil=>rfl|cons x r ih=>exact aq (· +1) ih
theorem dj{α:Type}:∀(l:List α) (n:Nat),aj l n=l[n]?
 |[],_=>rfl
 |x::r,0=>rfl
 |x::r,n+1=>by rw[List.getElem?_cons_succ,← dj r n];rfl
theorem J7{α:Type}:∀(l:List α) (n:Nat) (y:α),qb l n y=l.set n y
 |[],_,_=>rfl
 |x::r,0,y=>rfl
 |x::r,n+1,y=>by rw[List.set_cons_succ,← J7 r n y];rfl
theorem Mz:∀(ps:List Nat) (vs:List V),FS ps vs=ps.zip vs
 |[],_=>rfl
 |_::_,[]=>rfl
 |p::r,v::q=>aq ((p,v):: ·) (Mz r q)
theorem xX{α:Type}:∀(n:Nat) (l:List α),nL n l=l.drop n
 |0,_=>rfl
 |_+1,[]=>rfl
 |n+1,_::q=>xX n q
theorem Cz{α:Type}:∀(n:Nat) (l:List α),i4 n l=l.take n
 |0,_=>rfl
 |_+1,[]=>rfl
 |n+1,x::q=>aq (x:: ·) (Cz n q)
theorem vp{α:Type}(xs:List α)(a b:Nat):cut xs a b=(xs.drop a).take (b-a):=(Cz _ _).trans (aq _ (xX a xs))
theorem VB(ps:List Nat)(df vs:List V):sX ps df vs=vs++df.drop (vs.length-(ps.length-df.length)):=by
 cases df with
 |nil=>exact(by rw[List.drop_nil,List.append_nil]:vs++List.drop _ []=vs).symm
 |cons d r=>exact(cq _ _).trans (by rw[xX,bH,bH,bH];rfl)
theorem jh(o:aF)(l r:BH)(i:Nat):i7 (.nd o l r) i=if i=0 then some o else if i%2=1 then i7 l (i/2) else i7 r (i/2-1):=by
 show aa (Nat.beq i 0) (some o) (aa (Nat.beq (i%2) 1) (i7 l (i/2)) (i7 r (i/2-1)))=_
 rw[q8,q8];simp only[Nat.beq_eq]
theorem Y4(y o:aF)(l r:BH)(i:Nat):py y (.nd o l r) i=if i=0 then .nd y l r else if i%2=1 then .nd o (py y l (i/2)) r else .nd o l (py y r (i/2-1)):=by
 show aa (Nat.beq i 0) _ (aa (Nat.beq (i%2) 1) (BH.nd o (py y l (i/2)) r) (BH.nd o l (py y r (i/2-1))))=_
 rw[q8,q8];simp only[Nat.beq_eq]
theorem V2(y o:aF)(l r:BH)(i:Nat):oU y (.nd o l r) i=if i=0 then .nd y l r else if i%2=1 then .nd o (oU y l (i/2)) r else .nd o l (oU y r (i/2-1)):=by
 show aa (Nat.beq i 0) _ (aa (Nat.beq (i%2) 1) (BH.nd o (oU y l (i/2)) r) (BH.nd o l (oU y r (i/2-1))))=_
 rw[q8,q8];simp only[Nat.beq_eq]
theorem sD{i j:Nat}(h:i/2=j/2)(k:i%2=j%2):i=j:=by rw[← Nat.div_add_mod i 2,← Nat.div_add_mod j 2,h,k]
theorem HC{i:Nat}(h:i≠0)(k:¬i%2=1):0<i/2:=by omega
theorem Hq{i j:Nat}(hi:i≠0)(hj:j≠0)(ki:¬i%2=1)(kj:¬j%2=1)(h:i/2-1=j/2-1):i=j:=
 have a:=HC hi ki
 have b:=HC hj kj
 sD (by rw[← Nat.sub_add_cancel a,h,Nat.sub_add_cancel b]) (((Nat.mod_two_eq_zero_or_one i).resolve_right ki).trans ((Nat.mod_two_eq_zero_or_one j).resolve_right kj).symm)
theorem BY{n:Nat}(h:0<n)(k:¬n%2=1):n/2-1=(n-1)/2:=by omega
theorem QH(y:aF)(t:BH):∀(i j:Nat),i7 (py y t i) j=if j=i then(i7 t i).map λ_=>y else i7 t j:=by
 induction t with
 |lf=>exact λi j=>by split<;>rfl
 |nd o l r fS bP=>
  intro i j
  rw[Y4,jh o l r i,jh o l r j]
  by_cases hi:i=0
  · subst hi;rw[aG rfl,aG rfl,jh];by_cases hj:j=0<;>simp[hj]
  · rw[ax hi,ax hi]
    by_cases h2:i%2=1
    · rw[aG h2,aG h2,jh]
      by_cases hj:j=0
      · rw[aG hj,aG hj,ax (λe=>hi (e.symm.trans hj))]
      · rw[ax hj,ax hj]
        by_cases dD:j%2=1
        · rw[aG dD,aG dD,fS];by_cases e:j=i
          · rw[aG e,aG (by rw[e])]
          · rw[ax e,ax (λq=>e (sD q (dD.trans h2.symm)))]
        · rw[ax dD,ax dD,ax (λe:j=i=>dD (e▸h2))]
    · rw[ax h2,ax h2,jh]
      by_cases hj:j=0
      · rw[aG hj,aG hj,ax (λe=>hi (e.symm.trans hj))]
      · rw[ax hj,ax hj]
        by_cases dD:j%2=1
        · rw[aG dD,aG dD,ax (λe:j=i=>h2 (e▸dD))]
        · rw[ax dD,ax dD,bP];by_cases e:j=i
          · rw[aG e,aG (by rw[e])]
          · rw[ax e,ax (λq=>e (Hq hj hi dD h2 q))]
def BW(t:BH)(n:Nat):Prop:=∀i,(i7 t i).isSome=true↔i<n
theorem BW.lf{n:Nat}(h:BW .lf n):n=0:=Nat.eq_zero_of_not_pos λp=>ft ((h 0).mpr p)
theorem BW.nd{o:aF}{l r:BH}{n:Nat}(h:BW (.nd o l r) n):0<n/\BW l (n/2)/\BW r ((n-1)/2):=by
 refine⟨(h 0).mp (by rw[jh];rfl),λi=>?_,λi=>?_⟩
 · have:=h (2*i+1)
   rw[jh,ax (Nat.succ_ne_zero _),aG (Nat.mul_add_mod 2 i 1),show(2*i+1)/2=i by clear this h;omega] at this
   rw[this];clear this h;omega
 · have:=h (2*i+2)
   rw[jh,ax (Nat.succ_ne_zero _),ax (by clear this h;omega),show(2*i+2)/2-1=i by clear this h;omega] at this
   rw[this];clear this h;omega
theorem XU(y:aF)(t:BH):∀{n:Nat},BW t n->∀j,i7 (oU y t n) j=if j=n then some y else i7 t j:=by
 induction t with
 |lf=>
  intro n h j
  rw[h.lf]
  show i7 (.nd y .lf .lf) j=_
  rw[jh]
  split
  · rfl
  · split<;>rfl
 |nd o l r fS bP=>
  intro n h j
  have w:=h.nd
  rw[V2,ax (Nat.ne_of_gt w.1),jh o l r j]
  by_cases h2:n%2=1
  · rw[aG h2,jh]
    by_cases hj:j=0
    · rw[aG hj,aG hj,ax λe=>Nat.ne_of_gt w.1 (e.symm.trans hj)]
    · rw[ax hj,ax hj]
      by_cases dD:j%2=1
      · rw[aG dD,aG dD,fS w.2.1];by_cases e:j=n
        · rw[aG e,aG (by rw[e])]
        · rw[ax e,ax (λq=>e (sD q (dD.trans h2.symm)))]
      · rw[ax dD,ax dD,ax (λe:j=n=>dD (e▸h2))]
  · rw[ax h2,jh]
    by_cases hj:j=0
    · rw[aG hj,aG hj,ax λe=>Nat.ne_of_gt w.1 (e.symm.trans hj)]
    · rw[ax hj,ax hj]
      by_cases dD:j%2=1
      · rw[aG dD,aG dD,ax (λe:j=n=>h2 (e▸dD))]
      · rw[ax dD,ax dD,BY w.1 h2,bP w.2.2];by_cases e:j=n
        · rw[aG e,aG (by rw[e];exact BY w.1 h2)]
        · rw[ax e,ax (λq=>e (Hq hj (Nat.ne_of_gt w.1) dD h2 (q.trans (BY w.1 h2).symm)))]
def HW(H:HT):Prop:=BW H.t H.n
theorem HW.lt{H:HT}(w:HW H){i:Nat}{o:aF}(e:gH H i=some o):i<H.n:=(w i).mp (by show(gH H i).isSome=true;rw[e];rfl)
theorem HW.some{H:HT}(w:HW H){i:Nat}(h:i<H.n):∃o,gH H i=.some o:=Option.isSome_iff_exists.mp ((w i).mpr h)
theorem qR(H:HT)(i:Nat)(o:aF)(j:Nat):gH (pH H i o) j=if j=i then(gH H i).map λ_=>o else gH H j:=QH o H.t i j
theorem HW.put{H:HT}(w:HW H)(i:Nat)(o:aF):HW (pH H i o):=λj=>by
 show(gH (pH H i o) j).isSome=true↔j<H.n
 rw[qR]
 by_cases e:j=i
 · rw[aG e,Option.isSome_map,e];exact w i
 · rw[ax e];exact w j
theorem HW.aget{H:HT}(w:HW H)(o:aF)(j:Nat):gH (aH H o) j=if j=H.n then .some o else gH H j:=XU o H.t w j
theorem HW.add{H:HT}(w:HW H)(o:aF):HW (aH H o):=λj=>by
 show(gH (aH H o) j).isSome=true↔j<H.n+1
 rw[w.aget]
 by_cases e:j=H.n
 · rw[aG e,e];exact⟨λ_=>Nat.lt_succ_self _,λ_=>rfl⟩
 · rw[ax e];exact(w j).trans ⟨λh=>Nat.lt_succ_of_lt h,λh=>Nat.lt_of_le_of_ne (Nat.le_of_lt_succ h) e⟩
theorem HW.old{H:HT}(w:HW H){o o':aF}{j:Nat}(e:gH H j=.some o'):gH (aH H o) j=.some o':=by rw[w.aget,ax (Nat.ne_of_lt (w.lt e))];exact e
theorem rE:HW hE:=λi=>⟨λh=>ft h,λh=>aV h (Nat.not_lt_zero i)⟩
theorem gk{α:Type}{l:List α}:gi l=true↔l.length<=4000:=by
 unfold gi;rw[bH,Nat.ble_eq]
theorem gn{n:Nat}(h:n<=4000):n<=sizeLine:=by rw[sizeLine_eq];omega
theorem dA{α:Type}(k:Nat)(v:α)(r:List (Nat×α))(x:Nat):au ((k,v)::r) x=if k=x then some v else au r x:=by
 show aa (Nat.beq k x) _ _=_
 by_cases h:k=x
 · subst h;simp[Nat.beq_refl,fF]
 · have:Nat.beq k x=false:=by cases e:Nat.beq k x with|false=>rfl|true=>exact aV (Nat.eq_of_beq_eq_true e) h
   rw[this,ax h];rfl
theorem bx{a b:Nat}:Nat.beq a b=true↔a=b:=⟨Nat.eq_of_beq_eq_true,λh=>h▸Nat.beq_refl a⟩
theorem ee{a b:Nat}:Nat.beq a b=false↔a≠b:=by
 rw[← Bool.not_eq_true,bx]
theorem oH{α:Type}(l:List (Nat×α))(x:Nat)(v:α)(y:Nat):au (kA l x v) y=if x=y then some v else au l y:=by
 induction l with
 |nil=>exact dA x v [] y
 |cons p r ih=>
  obtain⟨k,w⟩:=p
  show au (aa (Nat.beq k x) ((x,v)::r) ((k,w)::kA r x v)) y=_
  by_cases h:k=x
  · subst h
    rw[Nat.beq_refl,fF,dA,dA]
    by_cases hy:k=y<;>simp[hy]
  · rw[ee.mpr h,cW,dA,dA,ih]
    by_cases hk:k=y
    · subst hk;rw[aG rfl,ax (λe=>h e.symm)];simp
    · rw[ax hk,ax hk]
theorem fk:∀{a b:List Nat},seq a b=true↔a=b
 |[],[]=>by simp[seq]
 |[],_::_=>by simp[seq]
 |_::_,[]=>by simp[seq]
 |x::r,y::q=>by
  show aa (Nat.beq x y) (seq r q) false=true↔_
  by_cases h:x=y
  · subst h;rw[Nat.beq_refl,fF,fk];simp
  · rw[ee.mpr h];simp[h,cW]
theorem ku{a b:List Nat}(h:aW a=aW b):a=b:=by
 unfold aW at h
 have:=aq (λs:Str=>s.cps.toList) h
 simpa using this
section
variable{c:Cx}{X X':Addr->Prop}{μ av:Mu}{h h':Heap}
theorem Pn(v:V):∀{l:List Value},jw c X μ h v l↔ca v=true/\ay (ad c X μ h) (gz v) l:=by
 induction v with
 |nil=>exact⟨λe=>⟨rfl,(e)▸.nil⟩,λx=>by cases x.2;rfl⟩
 |cons p q _ ih=>exact⟨λ⟨_,_,e,h1,h2⟩=>⟨(ih.mp h2).1,e▸.cons h1 (ih.mp h2).2⟩,λx=>by cases x.2 with|cons h1 h2=>exact⟨_,_,rfl,h1,ih.mpr ⟨x.1,h2⟩⟩⟩
 |_=>exact⟨False.elim,λx=>ft x.1⟩
theorem hZ{v:V}(ht:ca v=true){x:Value}:ad c X μ h v x↔∃a its,x=.ref a/\h.IsTuple a its/\Lv X h a/\ay (ad c X μ h) (gz v) its.toList:=by
 have k:iJ X h (jw c X μ h v) x↔_:=⟨λr=>r.ex,iJ.mk⟩
 have e:ad c X μ h v x↔iJ X h (jw c X μ h v) x:=by cases v<;>first|exact Iff.rfl|exact ft ht
 exact(e.trans k).trans (fG λ_=>fG λ_=>cO (cO (cO ((Pn v).trans (and_iff_right ht)))))
theorem up(l:List V):ca (x9 l)=true:=by induction l with|nil=>rfl|cons x r ih=>exact ih
theorem rW(l:List V):gz (x9 l)=l:=by induction l with|nil=>rfl|cons x r ih=>exact aq (x:: ·) ih
def ce(μ av:Mu):Prop:=∀n p,aj μ n=some p->aj av n=some p
theorem ce.refl(μ:Mu):ce μ μ:=λ_ _ e=>e
theorem ce.trans{ao a9 jx:Mu}(a:ce ao a9)(b:ce a9 jx):ce ao jx:=λn p e=>b n p (a n p e)
theorem ce.app(μ:Mu)(l:Mu):ce μ (μ++l):=λn p e=>by
 rw[dj] at e ⊢
 rw[List.getElem?_append_left (List.getElem?_eq_some_iff.mp e).1];exact e
structure de(X X':Addr->Prop)(h h':Heap):Prop where
 tup:∀a its,h.IsTuple a its->Lv X h a->h'.IsTuple a its/\Lv X' h' a
 fn:∀a o fd,h.get? a=some o->o.cls=.type "function" ->o.data=.func fd->∃o',h'.get? a=some o'/\o'.cls=o.cls/\o'.data=o.data
 code:∀cd q,h.CodeRec cd q->h'.CodeRec cd q
theorem mZ.mono{a:Addr}{l:Lm}{fK:List (Nat×Nat)}(x:mZ c μ h a l fK)(s:de X X' h h')(e:ce μ av):mZ c av h' a l fK:=
 x.ex.elim λo x=>x.elim λfd x=>(s.fn a o fd x.c1 x.c2 x.c3).elim λo' g=>
  ⟨o',fd,g.1,g.2.1.trans x.c2,g.2.2.trans x.c3,x.c4,x.c5,x.c6,x.c7,x.c8,s.code _ _ x.c9,λy n hy=>(x.c10 y n hy).imp λ_ q=>⟨e _ _ q.1,q.2⟩,x.c11,x.c12,x.c13⟩
theorem iJ.mono{P P':List Value->Prop}{x:Value}(r:iJ X h P x)(s:de X X' h h')(k:∀l,P l->P' l):iJ X' h' P' x:=
 ⟨r.ex.imp λ_=>bf λ_ q=>⟨q.1,(s.tup _ _ q.2.1 q.2.2.1).1,(s.tup _ _ q.2.1 q.2.2.1).2,k _ q.2.2.2⟩⟩
theorem jP.mono{P P':Value->Prop}{Q Q':List Value->Prop}{l:List Value}(r:jP P Q l)(k:∀y,P y->P' y)(k':∀l,Q l->Q' l):jP P' Q' l:=
 r.imp λ_=>bf λ_ q=>⟨q.1,k _ q.2.1,k' _ q.2.2⟩
theorem NF(s:de X X' h h')(v:V):(∀x,(PV X h v).1 x->(PV X' h' v).1 x)/\(∀l,(PV X h v).2 l->(PV X' h' v).2 l):=by
 induction v with
 |nil=>exact⟨λ_ x=>x.mono s λ_ q=>q,λ_ x=>x⟩
 |cons p q hp hq=>exact⟨λ_ x=>x.mono s λ_ y=>y.mono hp.1 hq.2,λ_ y=>y.mono hp.1 hq.2⟩
 |_=>exact⟨λ_ x=>x,λ_ x=>x⟩
theorem we(v:V):(∀x,(PV X h v).1 x->ad c X μ h v x)/\(∀l,(PV X h v).2 l->jw c X μ h v l):=by
 induction v with
 |cons p q hp hq=>exact⟨λ_ x=>⟨x.ex.imp λ_=>bf λ_ y=>⟨y.1,y.2.1,y.2.2.1,y.2.2.2.mono hp.1 hq.2⟩⟩,λ_ y=>y.mono hp.1 hq.2⟩
 |none|bool|int|str|nil=>exact⟨λ_ x=>x,λ_ x=>x⟩
 |_=>exact⟨λ_ x=>x.elim,λ_ x=>x.elim⟩
theorem RM(s:de X X' h h')(e:ce μ av)(v:V):(∀x,ad c X μ h v x->ad c X' av h' v x)/\(∀l,jw c X μ h v l->jw c X' av h' v l):=by
 induction v with
 |nil=>exact⟨λ_ x=>x.mono s λ_ q=>q,λ_ x=>x⟩
 |cons p q hp hq=>exact⟨λ_ x=>x.mono s λ_ y=>y.mono hp.1 hq.2,λ_ y=>y.mono hp.1 hq.2⟩
 |loc=>exact⟨λ_ x=>x.imp λ_ q=>⟨e _ _ q.1,q.2⟩,λ_ x=>x⟩
 |clo=>exact⟨λ_ x=>x.imp λ_ q=>⟨q.1,q.2.mono s e⟩,λ_ x=>x⟩
 |atom n=>exact⟨(NF s (c.ρ n)).1,λ_ x=>x⟩
 |_=>exact⟨λ_ x=>x,λ_ x=>x⟩
theorem ad.mono{v:V}{x:Value}(r:ad c X μ h v x)(s:de X X' h h')(e:ce μ av):ad c X' av h' v x:=(RM s e v).1 x r
end
def mn(o:Obj):Prop:=∃vs,o.data=.fields vs/\(∀q t,vs[1]?≠some (.str q t))/\(o.cls=.type "traceback" \/(∃a,o.cls=.ref a)\/o.cls=.none)
def gx(o:Obj):Prop:=(∃es n,o.data=.dict es n)\/(o.cls=.type "list" /\∃xs n,o.data=.seq xs n)\/o.data=.plain\/∃v,o.data=.cell v
def fA(h h':Heap):Prop:=∀b o,h.get? b=some o->∃o',h'.get? b=some o'
theorem fA.refl(h:Heap):fA h h:=λ_ o e=>⟨o,e⟩
theorem fA.trans{h₁ bh cE:Heap}(a:fA h₁ bh)(b:fA bh cE):fA h₁ cE:=λx o e=>let⟨o',e'⟩:=a x o e;b x o' e'
theorem fA.none{h h':Heap}(a:fA h h'){b:Addr}(e:h'.get? b=none):h.get? b=none:=by
 cases q:h.get? b with
 |none=>rfl
 |some o=>obtain⟨o',z⟩:=a b o q;rw[e] at z;(first|with_reducible exact ns z|with_reducible exact sn z|with_reducible exact ft z|with_reducible exact tf z|(replace z:=af z;first|subst z|cases z)|cases z)
def i5(P:Addr->Prop)(Fs:List Addr)(h h':Heap):Prop:=
 fA h h'/\∀b o,h.get? b=some o->¬P b->¬mn o->(h'.get? b=some o\/(b∈Fs/\∃sl,h'.get? b=some {o with slots:=sl}))
def aY(S:Addr->Prop)(h h':Heap):Prop:=fA h h'/\∀b o,h.get? b=some o->¬S b->h'.get? b=some o
theorem aY.of{S:Addr->Prop}(k:∀b o,h.get? b=some o->h'.get? b=some o):aY S h h':=⟨λb o e=>⟨o,k b o e⟩,λb o e _=>k b o e⟩
theorem aY.at{S:Addr->Prop}{h h':Heap}(k:∀b o,h.get? b=some o->¬S b->h'.get? b=some o)(l:∀b,S b->∃o,h'.get? b=some o):aY S h h':=
 ⟨λb o e=>(Classical.em (S b)).elim (l b) λn=>⟨o,k b o e n⟩,k⟩
theorem aY.refl(S:Addr->Prop)(h:Heap):aY S h h:=⟨.refl _,λ_ _ e _=>e⟩
theorem aY.trans{S:Addr->Prop}{h₁ bh cE:Heap}(a:aY S h₁ bh)(b:aY S bh cE):aY S h₁ cE:=⟨a.1.trans b.1,λx o e n=>b.2 x o (a.2 x o e n) n⟩
theorem aY.mono{S T:Addr->Prop}(a:aY S h h')(k:∀b o,h.get? b=some o->S b->T b):aY T h h':=⟨a.1,λb o e n=>a.2 b o e λs=>n (k b o e s)⟩
theorem aY.push(S:Addr->Prop)(h:Heap)(o:Obj):aY S h (h.push o):=.of λ_ _ e=>d6 _ e
theorem aY.same(x:Heap.SameBut a h h')(e:h'.get? a=some o):aY (· =a) h h':=.at (λb o e n=>(x.2 b n).trans e) λb q=>⟨o,q▸e⟩
theorem aY.keepX{S:Addr->Prop}(x:aY S h h')(Fs:List Addr):i5 S Fs h h':=⟨x.1,λb o e n _=>.inl (x.2 b o e n)⟩
theorem i5.refl(P:Addr->Prop)(Fs:List Addr)(h:Heap):i5 P Fs h h:=⟨.refl _,λ_ _ e _ _=>.inl e⟩
theorem i5.mono{P Q:Addr->Prop}(a:i5 P Fs h h')(k:∀b o,h.get? b=some o->P b->Q b)(f:∀b o,h.get? b=some o->b∈Fs->b∈Gs):i5 Q Gs h h':=
 ⟨a.1,λb o e n v=>by
  rcases a.2 b o e (λp=>n (k b o e p)) v with q|⟨hf,r⟩
  · exact .inl q
  · exact .inr ⟨f b o e hf,r⟩⟩
theorem wX{P:Addr->Prop}(a:i5 P Fs h h')(e:h.get? t=some o)(n:¬P t)(v:¬mn o):∃sl,h'.get? t=some {o with slots:=sl}:=
 (a.2 t o e n v).elim (λq=>⟨o.slots,q⟩) λq=>q.2
theorem Ax(m:gx o){P:Prop}(h1:∀es n,o.data≠.dict es n)(h2:o.cls=.type "list" ->∀xs n,o.data≠.seq xs n)(h3:o.data≠.plain)(h4:∀v,o.data≠.cell v):P:=
 m.elim (λ⟨_,_,q⟩=>aV q (h1 _ _)) λm=>m.elim (λ⟨q,_,_,q'⟩=>aV q' (h2 q _ _)) λm=>m.elim (λq=>aV q h3) λ⟨_,q⟩=>aV q (h4 _)
theorem As(hc:o.cls=.type "tuple")(hd:o.data=.seq its n):¬gx o:=λm=>Ax m (λ_ _ q=>nomatch hd.symm.trans q) (λq=>aV (hc.symm.trans q) (by decide)) (λq=>nomatch hd.symm.trans q) λ_ q=>nomatch hd.symm.trans q
theorem EC(hd:o.data=.func fd):¬gx o:=λm=>Ax m (λ_ _ q=>nomatch hd.symm.trans q) (λ_ _ _ q=>nomatch hd.symm.trans q) (λq=>nomatch hd.symm.trans q) λ_ q=>nomatch hd.symm.trans q
theorem nK(hd:o.data=.fields vs):¬gx o:=λm=>Ax m (λ_ _ q=>nomatch hd.symm.trans q) (λ_ _ _ q=>nomatch hd.symm.trans q) (λq=>nomatch hd.symm.trans q) λ_ q=>nomatch hd.symm.trans q
theorem i5.stays{X X':Addr->Prop}{P:Addr->Prop}(a:i5 P Fs h h')(m:∀b o,h.get? b=some o->P b->gx o)
 (hX:∀b o,h.get? b=some o->X' b->X b):de X X' h h' where
 tup:=λt its x hn=>x.elim λo x=>x.2.2.elim λn hd=>
  (wX a x.1 (λp=>As x.2.1 hd (m t o x.1 p)) λq=>nomatch hd.symm.trans q.choose_spec.1).elim λsl q=>
   ⟨⟨_,q,x.2.1,n,hd⟩,λy=>hn.1 (hX t o x.1 y),_,q,hn.2.elim λo' e=>(bB x.1 e.1).symm▸e.2⟩
 fn:=λt o fd ho hc hd=>
  (wX a ho (λp=>EC hd (m t o ho p)) λq=>nomatch hd.symm.trans q.choose_spec.1).elim λsl q=>⟨_,q,rfl,rfl⟩
 code:=λcd q=>bf λt=>λx=>x.elim λo x=>x.elim λvs x=>x.elim λtk x=>
  (wX a x.2.1 (λp=>nK x.2.2.1 (m t o x.2.1 p)) λz=>z.elim λws z=>z.2.1 _ _ ((Data.fields.inj (x.2.2.1.symm.trans z.1))▸x.2.2.2)).elim λsl q=>⟨_,vs,tk,x.1,q,x.2.2⟩
def RO(c:Cx)(X:Addr->Prop)(μ:Mu)(h:Heap)(p:Addr×Addr):aF->Prop
 |.list xs=>p.2=p.1/\∃its,h.PlainList p.1 its/\ay (ad c X μ h) xs its.toList/\its.size<=4000
 |.dict bF=>p.2=p.1/\(p.1==sysModules)=false/\∃l,h.DictOf (strKind c.prog c.w) p.1 l/\ay (λa b=>b.1=aW a.1/\ad c X μ h a.2 b.2) bF l/\l.length<=4000
 |.inst k as=>h.get? p.1=some (instObj (c.clA k) p.2)/\∃m,h.Ns1 p.2 m/\(∀x v,au as x=some v->∃y,m (c.nm x)=some y/\ad c X μ h v y)/\(∀n y,m n=some y->∃x v,au as x=some v/\n=c.nm x)
 |.opq j=>p.2=p.1/\∃its,h.PlainList p.1 its/\ay (ad c X μ h) (c.seg j) its.toList/\its.size<=4000
 |.cell v=>p.2=p.1/\∃y,h.IsCell p.1 y/\(match v,y with|.none,none=>True|some v,some y=>ad c X μ h v y|_,_=>False)
 |.dead=>(∃ob,h.get? p.1=some ob/\gx ob)/\∃ob,h.get? p.2=some ob/\gx ob
def FF(base:Heap)(l:List Env)(h:Heap):Prop:=∀e∈l,e.scope.kind≠.module/\∃L o,e.frame=some L/\base.get? L=none/\h.get? L=some o/\∀vs,o.data≠.fields vs
theorem FF.funFrames:∀{l:List Env},FF base l h->h.FunFrames base l
 |[],_=>trivial
 |e::r,x=>⟨(x e (.head _)).1,(x e (.head _)).2,FF.funFrames λe' he=>x e' (.tail _ he)⟩
inductive fj(h:Heap)(nm:Str):List Value->Prop
 |nil:fj h nm []
 |cons (l k:Int) (a:Addr) (r:List Value):h.CodeRec (.ref a) nm->fj h nm r->fj h nm (rawInt l::rawInt k::.ref a::r)
def tT(nm:Str)(h:Heap)(q:Addr×Addr):Prop:=CodeHd h q.1 q.2/\∃ps,h.get? q.2=some (tabObj ps)/\fj h nm ps.toList
theorem fj.keep{l:List Value}(x:fj h nm l)(k:∀a,h.CodeRec (.ref a) nm->h'.CodeRec (.ref a) nm):fj h' nm l:=by
 induction x with
 |nil=>exact .nil
 |cons l j a r h1 _ ih=>exact .cons l j a r (k a h1) ih
def frs(l:List Env):List Addr:=l.filterMap (·.frame)
structure VD(μ:Mu)(H:HT):Prop where
 n:μ.length=H.n
 w:HW H
structure Ok(c:Cx)(X:Addr->Prop)(A:Around)(env:Env)(fr:Fr)(μ:Mu)(σ:Sg)(s:Shared):Prop where
 len:VD μ σ.H
 obj:∀n o,gH σ.H n=some o->∃p,aj μ n=some p/\RO c X μ s.heap p o
 apart:∀i j p q,aj μ i=some p->aj μ j=some q->i≠j->p.1≠q.1/\p.1≠q.2/\p.2≠q.1/\p.2≠q.2
 new:∀b,own μ b->c.base.get? b=none/\¬X b
 ns:∃m,s.heap.Ns env.locals m/\∀x v,au σ.r x=some v->∃y,m (c.nm x)=some y/\ad c X μ s.heap v y
 lout:¬own μ env.locals/\c.base.get? env.locals=none/\¬X env.locals
 cells:∀x l,au fr.g x=some l->∃p,aj μ l=some p/\env.cells.lookup (c.nm x)=some p.1
 stays:c.base.StaysIn s.heap
 frs:∃l,A.frames=some l/\FF c.base l s.heap/\∀b∈frs l,¬own μ b/\¬X b
 tabs:∀q∈c.tabs,tT (c.tq q.1) s.heap q
 xlt:∀b,X b->(∃o,s.heap.get? b=some o)/\c.base.get? b=none
section
variable{c:Cx}{X:Addr->Prop}{A:Around}{env:Env}{fr:Fr}{μ av:Mu}{σ:Sg}{s s':Shared}{h h':Heap}
theorem RO.at1(x:RO c X μ h p o):∃ob,h.get? p.1=some ob/\gx ob:=by
 cases o with
 |list xs=>obtain⟨_,its,⟨n,a⟩,_⟩:=x;exact⟨_,a,.inr (.inl ⟨rfl,_,_,rfl⟩)⟩
 |opq j=>obtain⟨_,its,⟨n,a⟩,_⟩:=x;exact⟨_,a,.inr (.inl ⟨rfl,_,_,rfl⟩)⟩
 |dead=>exact x.1
 |dict bF=>obtain⟨_,_,l,⟨ob,es,ep,a,b,d,_⟩,_⟩:=x;exact⟨ob,a,.inl ⟨_,_,d⟩⟩
 |inst k as=>exact⟨_,x.1,.inr (.inr (.inl rfl))⟩
 |cell v=>obtain⟨_,y,⟨ob,a,d⟩,_⟩:=x;exact⟨ob,a,.inr (.inr (.inr ⟨_,d⟩))⟩
theorem RO.at2(x:RO c X μ h p o):∃ob,h.get? p.2=some ob/\gx ob:=by
 cases o with
 |list xs=>exact x.1▸RO.at1 (o:=.list xs) x
 |opq j=>exact x.1▸RO.at1 (o:=.opq j) x
 |dead=>exact x.2
 |dict bF=>exact x.1▸RO.at1 (o:=.dict bF) x
 |inst k as=>exact x.2.elim λm y=>y.1.elim λob y=>y.elim λes y=>y.elim λep y=>⟨ob,y.1,.inl ⟨_,_,y.2.1⟩⟩
 |cell v=>exact x.1▸RO.at1 (o:=.cell v) x
theorem zQ{K:Type}[DecidableEq K]{knd:KeyKind prog w K}{l:List (K×Value)}(x:h.DictOf knd a l)(k:∀ob,h.get? a=some ob->h'.get? a=some ob):h'.DictOf knd a l:=
 x.imp λob=>bf λes=>bf λep y=>⟨k ob y.1,y.2⟩
theorem YZ(x:h.Ns1 a m)(k:∀ob,h.get? a=some ob->h'.get? a=some ob):h'.Ns1 a m:=
 x.imp λob=>bf λes=>bf λep y=>⟨k ob y.1,y.2⟩
theorem zO{X':Addr->Prop}(x:ay (ad c X μ h) xs l)(t:de X X' h h')(e:ce μ av):ay (ad c X' av h') xs l:=x.mono λ_ _ r=>r.mono t e
theorem RO.keep{X':Addr->Prop}(x:RO c X μ h p o)(k1:∀ob,h.get? p.1=some ob->h'.get? p.1=some ob)(k2:∀ob,h.get? p.2=some ob->h'.get? p.2=some ob)
 (t:de X X' h h')(e:ce μ av):RO c X' av h' p o:=by
 cases o with
 |list xs=>exact⟨x.1,x.2.imp λits y=>⟨y.1.imp λn a=>k1 _ a,zO y.2.1 t e,y.2.2⟩⟩
 |opq j=>exact⟨x.1,x.2.imp λits y=>⟨y.1.imp λn a=>k1 _ a,zO y.2.1 t e,y.2.2⟩⟩
 |dead=>exact⟨x.1.imp λob y=>⟨k1 _ y.1,y.2⟩,x.2.imp λob y=>⟨k2 _ y.1,y.2⟩⟩
 |dict bF=>exact⟨x.1,x.2.1,x.2.2.imp λl y=>⟨zQ y.1 k1,y.2.1.mono λ_ _ q=>⟨q.1,q.2.mono t e⟩,y.2.2⟩⟩
 |inst k as=>exact⟨k1 _ x.1,x.2.imp λm y=>⟨YZ y.1 k2,λx v hx=>(y.2.1 x v hx).imp λ_ q=>⟨q.1,q.2.mono t e⟩,y.2.2⟩⟩
 |cell v=>
  refine⟨x.1,x.2.imp λy z=>⟨z.1.imp λob q=>⟨k1 _ q.1,q.2⟩,?_⟩⟩
  have z:=z.2
  cases v<;>cases y<;>first|exact z|exact z.elim|exact ad.mono z t e
theorem iP{α:Type}{l:List α}{a:α}(e:aj l n=some a):n<l.length:=by rw[dj] at e;exact(List.getElem?_eq_some_iff.mp e).1
theorem vh{α:Type}{l:List α}{n:Nat}(e:n<l.length):∃a,aj l n=some a:=⟨l[n],by rw[dj];simp[e]⟩
theorem nk{α:Type}{l:List α}{n:Nat}{a:α}(e:aj l n=some a):a∈l:=by rw[dj] at e;exact List.mem_of_getElem? e
theorem Kk{α:Type}{l:List α}{a:α}(e:a∈l):∃n,aj l n=some a:=by
 obtain⟨n,h⟩:=List.mem_iff_getElem?.mp e;exact⟨n,by rw[dj];exact h⟩
theorem dR{b:Addr}:own μ b↔∃n p,aj μ n=some p/\(b=p.1\/b=p.2):=
 ⟨λ⟨p,hp,e⟩=>let⟨n,hn⟩:=Kk hp;⟨n,p,hn,e⟩,λ⟨_,p,hn,e⟩=>⟨p,nk hn,e⟩⟩
theorem Ok.own_mut(x:Ok c X A env fr μ σ s){b:Addr}(hb:own μ b):∃o,s.heap.get? b=some o/\gx o:=
 (dR.mp hb).elim λn hb=>hb.elim λp hb=>(x.len.w.some (x.len.n▸iP hb.1)).elim λo ho=>(x.obj n o ho).elim λp' r=>
  have e:=bB r.1 hb.1
  hb.2.elim (λw=>w.symm▸e▸r.2.at1) λw=>w.symm▸e▸r.2.at2
theorem Ok.loc_mut(x:Ok c X A env fr μ σ s):∃o,s.heap.get? env.locals=some o/\gx o:=
 x.ns.elim λm y=>y.1.imp λo y=>y.elim λes y=>y.elim λep y=>⟨y.1,.inl ⟨_,_,y.2.1⟩⟩
def lN(μ:Mu)(env:Env)(b:Addr):Prop:=own μ b\/b=env.locals
theorem Ok.mut(x:Ok c X A env fr μ σ s)(b:Addr)(o:Obj)(e:s.heap.get? b=some o)(p:lN μ env b):gx o:=
 p.elim (λp=>(x.own_mut p).elim λo' h=>bB h.1 e▸h.2) λp=>x.loc_mut.elim λo' h=>bB h.1 (p▸e)▸h.2
theorem zn(x:tT nm h q)(k:∀b o,h.get? b=some o->¬gx o->h'.get? b=some o):tT nm h' q:=
 ⟨x.1.imp λo=>bf λvs=>bf λfile=>bf λtf=>bf λflags=>bf λtg=>bf λrL=>bf λtext=>bf λtt y=>⟨k _ _ y.1 (nK y.2.2.1),y.2⟩,
  x.2.imp λps y=>⟨k _ _ y.1 (nK rfl),y.2.keep λa=>bf λt=>bf λo=>bf λvs=>bf λtk z=>⟨z.1,k _ _ z.2.1 (nK z.2.2.1),z.2.2⟩⟩⟩
theorem Ok.stays_of(x:Ok c X A env fr μ σ s){S:Addr->Prop}(k:aY S s.heap h')(hS:∀b o,s.heap.get? b=some o->S b->lN μ env b):de X X s.heap h':=
 (k.keepX []).stays (λb o e p=>x.mut b o e (hS b o e p)) λ_ _ _ p=>p
theorem Ok.base_of(x:Ok c X A env fr μ σ s){S:Addr->Prop}(k:aY S s.heap h')(hS:∀b o,s.heap.get? b=some o->S b->lN μ env b):c.base.StaysIn h':=λb o e=>
 k.2 b o (x.stays b o e) λp=>(hS b o (x.stays b o e) p).elim (λq=>cg e (x.new b q).1) λq=>cg e (q▸x.lout.2.1)
theorem Ok.tabs_of(x:Ok c X A env fr μ σ s){S:Addr->Prop}(k:aY S s.heap h')(hS:∀b o,s.heap.get? b=some o->S b->lN μ env b):∀q∈c.tabs,tT (c.tq q.1) h' q:=λq hq=>
 zn (x.tabs q hq) λb o e n=>k.2 b o e λp=>n (x.mut b o e (hS b o e p))
end
def Fs(A:Around):List Addr:=match A.frames with|some l=>frs l|none=>[]
structure aK(A:Around)(env:Env)(μ av:Mu)(s s':Shared):Prop where
 ext:ce μ av
 fresh:∀b,own av b->own μ b\/s.heap.get? b=none
 keep:i5 (lN μ env) (Fs A) s.heap s'.heap
 gens:s'.gens=s.gens
 os:s'.os=s.os
theorem aK.refl:aK A env μ μ s s:=⟨.refl _,λ_ h=>.inl h,.refl _ _ _,rfl,rfl⟩
theorem aK.trans{A:Around}{env:Env}{ao a9 jx:Mu}{s₁ aB dy:Shared}(a:aK A env ao a9 s₁ aB)(b:aK A env a9 jx aB dy):aK A env ao jx s₁ dy where
 ext:=a.ext.trans b.ext
 fresh:=λx h=>by
  rcases b.fresh x h with h|h
  · exact a.fresh x h
  · exact .inr (a.keep.1.none h)
 keep:=⟨a.keep.1.trans b.keep.1,λx o e n v=>by
  have n2:¬lN a9 env x:=λq=>by
   rcases q with q|q
   · rcases a.fresh x q with q|q
     · exact n (.inl q)
     · rw[q] at e;(first|with_reducible exact ns e|with_reducible exact sn e|with_reducible exact ft e|with_reducible exact tf e|(replace e:=af e;first|subst e|cases e)|cases e)
   · exact n (.inr q)
  rcases a.keep.2 x o e n v with q|⟨hf,sl,q⟩
  · exact b.keep.2 x o q n2 v
  · rcases b.keep.2 x _ q n2 v with q'|⟨_,CZ,q'⟩
    · exact .inr ⟨hf,sl,q'⟩
    · exact .inr ⟨hf,CZ,q'⟩⟩
 gens:=b.gens.trans a.gens
 os:=b.os.trans a.os
theorem aK.tok{A:Around}{env:Env}{μ av:Mu}{s s':Shared}(a:aK A env μ av s s')(t:Tok):aK A env μ av s {s' with toks:=t}:=⟨a.ext,a.fresh,a.keep,a.gens,a.os⟩
section
variable{c:Cx}{X:Addr->Prop}{A:Around}{env:Env}{fr:Fr}{μ av:Mu}{σ:Sg}{s s':Shared}{h h':Heap}
theorem Ok.tok(x:Ok c X A env fr μ σ s)(t:Tok):Ok c X A env fr μ σ {s with toks:=t}:=⟨x.len,x.obj,x.apart,x.new,x.ns,x.lout,x.cells,x.stays,x.frs,x.tabs,x.xlt⟩
theorem Ok.alive(x:Ok c X A env fr μ σ s)(hb:lN μ env b):∃o,s.heap.get? b=some o:=by
 rcases hb with hb|rfl
 · obtain⟨o,e,_⟩:=x.own_mut hb;exact⟨o,e⟩
 · obtain⟨o,e,_⟩:=x.loc_mut;exact⟨o,e⟩
theorem kL(hl:A.frames=some l):b∈Fs A↔b∈frs l:=by unfold Fs;rw[hl]
theorem FF.at{base:Heap}{l:List Env}(x:FF base l h){b:Addr}(hb:b∈frs l):∃o,h.get? b=some o/\∀vs,o.data≠.fields vs:=
 (List.mem_filterMap.mp hb).elim λe he=>(x e he.1).2.elim λL z=>z.elim λo z=>have e:=bB z.1 he.2;⟨o,e▸z.2.2.1,z.2.2.2⟩
theorem FF.keep(x:FF base l h)(k:∀b∈frs l,∀o,h.get? b=some o->(∀vs,o.data≠.fields vs)->∃o',h'.get? b=some o'/\∀vs,o'.data≠.fields vs):FF base l h':=
 λe he=>⟨(x e he).1,(x e he).2.elim λL z=>⟨L,z.elim λo z=>(k L (List.mem_filterMap.mpr ⟨e,he,z.1⟩) o z.2.2.1 z.2.2.2).elim λo' q=>⟨o',z.1,z.2.1,q⟩⟩⟩
theorem nh{X':Addr->Prop}(x:∃m,h.Ns L m/\∀y v,au r y=some v->∃z,m (c.nm y)=some z/\ad c X μ h v z)(k:∀m,h.Ns L m->h'.Ns L m)(t:de X X' h h')(e:ce μ av):
 ∃m,h'.Ns L m/\∀y v,au r y=some v->∃z,m (c.nm y)=some z/\ad c X' av h' v z:=
 x.imp λm y=>⟨k m y.1,λu v hu=>(y.2 u v hu).imp λ_ q=>⟨q.1,q.2.mono t e⟩⟩
theorem Ok.frame_alive(x:Ok c X A env fr μ σ s)(hb:b∈Fs A):∃o,s.heap.get? b=some o:=
 x.frs.elim λl y=>(y.2.1.at ((kL y.1).mp hb)).imp λ_ q=>q.1
theorem Ok.add(x:Ok c X A env fr μ σ s)(k:aY (λ_=>False) s.heap s'.heap):Ok c X A env fr μ σ s':=
 have st:=x.stays_of k λ_ _ _ f=>f.elim
 have kk:=λb o e=>k.2 b o e id
 ⟨x.len,λn o e=>(x.obj n o e).imp λp q=>⟨q.1,q.2.keep (λ_=>kk _ _) (λ_=>kk _ _) st (.refl _)⟩,x.apart,x.new,nh x.ns (λm a=>a.keeps kk) st (.refl _),x.lout,x.cells,x.base_of k λ_ _ _ f=>f.elim,
  x.frs.imp λl y=>⟨y.1,y.2.1.keep λb _ o e n=>⟨o,kk b o e,n⟩,y.2.2⟩,x.tabs_of k λ_ _ _ f=>f.elim,λb hb=>⟨(x.xlt b hb).1.elim λo e=>k.1 b o e,(x.xlt b hb).2⟩⟩
theorem aK.add(k:aY (λ_=>False) s.heap s'.heap)(hg:s'.gens=s.gens)(ho:s'.os=s.os):aK A env μ μ s s':=
 ⟨.refl _,λ_ q=>.inl q,(k.keepX _).mono (λ_ _ _ f=>f.elim) λ_ _ _ q=>q,hg,ho⟩
theorem Ok.put(x:Ok c X A env fr μ σ s)(hp:aj μ n=some p)(k:aY (λb=>b=p.1\/b=p.2) s.heap s'.heap)(r:RO c X μ s'.heap p o):
 Ok c X A env fr μ (Mine.put n o σ) s':=
 have ow:=λb e=>dR.mpr ⟨n,p,hp,e⟩
 have hS:=λb _ _ e=>.inl (ow b e)
 have st:=x.stays_of k hS
 have kk:∀b o,s.heap.get? b=some o->¬own μ b->s'.heap.get? b=some o:=λb o e q=>k.2 b o e λz=>q (ow b z)
 ⟨⟨x.len.n,x.len.w.put n o⟩,λi oi e=>by
  have e:gH (pH σ.H n o) i=some oi:=e
  rw[qR] at e
  by_cases hi:i=n
  · rw[aG hi] at e
    exact⟨p,hi▸hp,(Option.map_eq_some_iff.mp e).elim λ_ w=>w.2▸r⟩
  · rw[ax hi] at e
    exact(x.obj i oi e).imp λq y=>⟨y.1,y.2.keep (λob z=>k.2 _ _ z λw=>w.elim (λw=>(x.apart i n q p y.1 hp hi).1 w) λw=>(x.apart i n q p y.1 hp hi).2.1 w)
     (λob z=>k.2 _ _ z λw=>w.elim (λw=>(x.apart i n q p y.1 hp hi).2.2.1 w) λw=>(x.apart i n q p y.1 hp hi).2.2.2 w) st (.refl _)⟩,
  x.apart,x.new,nh x.ns (λm a=>a.at' λo e=>kk _ _ e x.lout.1) st (.refl _),x.lout,x.cells,x.base_of k hS,x.frs.imp λl y=>⟨y.1,y.2.1.keep λb hb o e n=>⟨o,kk b o e (y.2.2 b hb).1,n⟩,y.2.2⟩,
  x.tabs_of k hS,λb hb=>⟨(x.xlt b hb).1.elim λo e=>k.1 b o e,(x.xlt b hb).2⟩⟩
theorem aK.put(hp:aj μ n=some p)(k:aY (λb=>b=p.1\/b=p.2) s.heap s'.heap)(hg:s'.gens=s.gens)(ho:s'.os=s.os):aK A env μ μ s s':=
 ⟨.refl _,λ_ q=>.inl q,(k.keepX _).mono (λb _ _ e=>.inl (dR.mpr ⟨n,p,hp,e⟩)) λ_ _ _ q=>q,hg,ho⟩
theorem mF:own (μ++[p]) b↔own μ b\/b=p.1\/b=p.2:=by
 unfold own
 constructor
 · rintro⟨q,hq,e⟩
   rcases List.mem_append.mp hq with hq|hq
   · exact .inl ⟨q,hq,e⟩
   · rw[List.mem_singleton.mp hq] at e;exact .inr e
 · rintro (⟨q,hq,e⟩|e)
   · exact⟨q,List.mem_append_left _ hq,e⟩
   · exact⟨p,List.mem_append_right _ (.head _),e⟩
theorem qT{α:Type}{l:List α}{y a:α}(e:aj (l++[y]) n=some a):(n<l.length/\aj l n=some a)\/(n=l.length/\a=y):=by
 rw[dj] at e
 by_cases hn:n<l.length
 · rw[List.getElem?_append_left hn] at e;exact .inl ⟨hn,by rw[dj];exact e⟩
 · have hle:=(List.getElem?_eq_some_iff.mp e).1
   rw[List.length_append,List.length_singleton] at hle
   have:n=l.length:=by omega
   subst this
   rw[List.getElem?_append_right (Nat.le_refl _),Nat.sub_self] at e
   (first|with_reducible exact ns e|with_reducible exact sn e|with_reducible exact ft e|with_reducible exact tf e|(replace e:=af e;first|subst e|cases e)|cases e);exact .inr ⟨rfl,rfl⟩
theorem BF{α:Type}(l:List α)(y:α):aj (l++[y]) l.length=some y:=by rw[dj,List.getElem?_append_right (Nat.le_refl _),Nat.sub_self];rfl
theorem Ok.fresh(x:Ok c X A env fr μ σ s)(hb:s.heap.get? b=none):c.base.get? b=none/\¬X b:=
 ⟨Option.eq_none_iff_forall_ne_some.mpr λo q=>cg (x.stays b o q) hb,λq=>(x.xlt b q).1.elim λo e=>cg e hb⟩
theorem ib(l1:∃o,h.get? a=some o)(l2:h.get? b=none):a≠b:=λe=>l1.elim λo l1=>cg l1 (e▸l2)
theorem Ok.new1(x:Ok c X A env fr μ σ s){p:Addr×Addr}{o:aF}(k:aY (λ_=>False) s.heap s'.heap)(h1:s.heap.get? p.1=none)(h2:s.heap.get? p.2=none)
 (r:RO c X (μ++[p]) s'.heap p o):Ok c X A env fr (μ++[p]) ⟨aH σ.H o,σ.r⟩ s':=
 have y:=x.add (s':=s') k
 have e:=ce.app μ [p]
 have st:=(i5.refl (λ_=>False) [] _).stays (λ_ _ _ f=>f.elim) λ_ _ _ q=>q
 have a1:∀{n q},aj μ n=some q->∃o,s.heap.get? q.1=some o:=λhq=>x.alive (.inl (dR.mpr ⟨_,_,hq,.inl rfl⟩))
 have a2:∀{n q},aj μ n=some q->∃o,s.heap.get? q.2=some o:=λhq=>x.alive (.inl (dR.mpr ⟨_,_,hq,.inr rfl⟩))
 have no:∀b o,s.heap.get? b=some o->¬own μ b->¬own (μ++[p]) b:=λb o l n q=>(mF.mp q).elim n λq=>q.elim (λq=>cg l (q▸h1)) λq=>cg l (q▸h2)
 ⟨⟨by rw[List.length_append,x.len.n];rfl,x.len.w.add o⟩,
  λn oi hn=>by
   have hn:=hn
   rw[x.len.w.aget] at hn
   by_cases hi:n=σ.H.n
   · rw[aG hi] at hn;exact⟨p,by rw[hi,← x.len.n];exact BF _ _,af hn▸r⟩
   · rw[ax hi] at hn;exact(y.obj n oi hn).imp λq z=>⟨e _ _ z.1,z.2.keep (λ_ z=>z) (λ_ z=>z) st e⟩,
  λi j a b hi hj vt=>(qT hi).elim (λw=>(qT hj).elim (λv=>x.apart i j a b w.2 v.2 vt) λv=>v.2.symm▸⟨ib (a1 w.2) h1,ib (a1 w.2) h2,ib (a2 w.2) h1,ib (a2 w.2) h2⟩)
   λw=>(qT hj).elim (λv=>w.2.symm▸⟨(ib (a1 v.2) h1).symm,(ib (a2 v.2) h1).symm,(ib (a1 v.2) h2).symm,(ib (a2 v.2) h2).symm⟩) λv=>aV (w.1.trans v.1.symm) vt,
  λb hb=>(mF.mp hb).elim (x.new b) λq=>q.elim (λq=>q.symm▸x.fresh h1) λq=>q.symm▸x.fresh h2,
  nh y.ns (λm a=>a) st e,⟨(x.alive (.inr rfl:lN μ env env.locals)).elim λo l=>no _ o l x.lout.1,x.lout.2⟩,λn l hl=>(x.cells n l hl).imp λq z=>⟨e _ _ z.1,z.2⟩,y.stays,
  y.frs.imp λl z=>⟨z.1,z.2.1,λb hb=>⟨(x.frame_alive ((kL z.1).mpr hb)).elim λo q=>no b o q (z.2.2 b hb).1,(z.2.2 b hb).2⟩⟩,y.tabs,y.xlt⟩
theorem aK.new1(k:aY (λ_=>False) s.heap s'.heap)(h1:s.heap.get? p.1=none)(h2:s.heap.get? p.2=none)(hg:s'.gens=s.gens)(ho:s'.os=s.os):aK A env μ (μ++[p]) s s':=
 ⟨ce.app _ _,λb q=>(mF.mp q).imp id λe=>e.elim (λe=>e▸h1) (λe=>e▸h2),(k.keepX _).mono (λ_ _ _ f=>f.elim) λ_ _ _ q=>q,hg,ho⟩
theorem Ok.last(x:Ok c X A env fr μ σ s)(p:Addr×Addr):aj (μ++[p]) σ.H.n=some p:=x.len.n▸BF μ p
theorem Ok.locs(x:Ok c X A env fr μ σ s)(k:aY (· =env.locals) s.heap s'.heap)
 (hn:∃m,s'.heap.Ns env.locals m/\∀y v,au r' y=some v->∃z,m (c.nm y)=some z/\ad c X μ s.heap v z):Ok c X A env fr μ ⟨σ.H,r'⟩ s':=
 have hS:=λb _ _ e=>.inr e
 have st:=x.stays_of k hS
 ⟨x.len,λi oi e=>(x.obj i oi e).imp λq y=>⟨y.1,y.2.keep (λob z=>k.2 _ _ z λw=>x.lout.1 (w▸dR.mpr ⟨i,q,y.1,.inl rfl⟩)) (λob z=>k.2 _ _ z λw=>x.lout.1 (w▸dR.mpr ⟨i,q,y.1,.inr rfl⟩)) st (.refl _)⟩,
  x.apart,x.new,hn.imp λm y=>⟨y.1,λu v hu=>(y.2 u v hu).imp λ_ q=>⟨q.1,q.2.mono st (.refl _)⟩⟩,x.lout,x.cells,x.base_of k hS,
  x.frs.imp λl y=>⟨y.1,y.2.1.keep λb hb o e n=>(Classical.em (b=env.locals)).elim (λw=>hn.elim λm z=>z.1.elim λo' z=>z.elim λes z=>z.elim λep z=>⟨o',w.symm▸z.1,λvs q=>nomatch z.2.1.symm.trans q⟩) λw=>⟨o,k.2 b o e w,n⟩,y.2.2⟩,
  x.tabs_of k hS,λb hb=>⟨(x.xlt b hb).1.elim λo e=>k.1 b o e,(x.xlt b hb).2⟩⟩
theorem aK.locs(k:aY (· =env.locals) s.heap s'.heap)(hg:s'.gens=s.gens)(ho:s'.os=s.os):aK A env μ μ s s':=
 ⟨.refl _,λ_ q=>.inl q,(k.keepX _).mono (λb _ _ e=>.inr e) λ_ _ _ q=>q,hg,ho⟩
end
def h9:Nat->Value
 |0=>.builtin "len" |1=>.builtin "max" |2=>.type "int" |3=>.type "str" |4=>.type "tuple" |5=>.type "list" |6=>.type "range" |7=>.type "enumerate" |8=>.type "zip"
 |9=>.builtin "all" |10=>.type "dict" |11=>.builtin "sum" |12=>.builtin "sorted" |13=>.builtin "isinstance" |_=>.none
def dm(sc:List (Nat×Nat)):List Nat:=(sc.filter λp=>p.2==1).map (·.1)
def names(c:Cx)(sc:List (Nat×Nat)):List (Str×NameKind):=sc.map λp=>(c.nm p.1,kd p.2)
structure ZY(c:Cx)(k:Nat)(f:Fn)(o:Obj)(fd:FuncData)(args:List Arg)(j9:List Expr)(od:Option (Array Value)):Prop where
 f1:c.base.get? (c.fnA k)=some o
 f2:o.data=.func fd
 f3:fd.body=.stmts (cU c.nm f.body)
 f4:fd.scope.names=names c f.sc
 f5:fd.scope.kind=.function
 f6:fd.scope.isGenerator=false
 f7:fd.scope.isCoroutine=false
 f8:fd.globals=mainGlobals
 f9:fd.builtins=builtinsNs
 f10:fd.closure=[]
 f11:c.base.CodeRec fd.code fd.qualname
 f12:fd.params=⟨[],args,none,[],[],none,j9⟩
 f13:args.map (·.arg)=f.ps.map c.nm
 f14:∀M A E (s:Shared) (Q:Option (Array Value)->Shared->Prop),c.base.StaysIn s.heap->Q od s->wpAny M A (seqItems? fd.defaults) Q E s
 f15:∀X μ h,(∀b,X b->c.base.get? b=none)->c.base.StaysIn h->ay (ad c X μ h) f.df (od.getD #[]).toList
 f16:f.lm=true->∃cd P,fd.code=.ref cd/\(cd,P)∈c.tabs/\fd.qualname++ ".<locals>." ++ "<lambda>" =c.tq cd
structure B6(c:Cx)(k:Nat)(f:Fn):Prop where
 ex:∃o fd args j9 od,ZY c k f o fd args j9 od
 nd:f.ps.Nodup
 le:f.df.length<=f.ps.length
 cs:f.cs=dm f.sc
 sc:∀p∈f.sc,p.2<=3
structure bq(c:Cx)(K:Frag):Prop where
 kin:K.In c.base
 inj:∀i j,c.nm i=c.nm j->i=j
 nodebug:∀i,(c.nm i==("__debug__" :Str))=false
 noclass:∀i,(c.nm i==("__classdict__" :Str))=false
 nosuper:∀i,(c.nm i==("super" :Str))=false
 glob:∀x v,c.T.gl x=some v->∃mg mb y,c.base.Ns mainGlobals mg/\c.base.Ns builtinsNs mb/\(mg (c.nm x)=some y\/(mg (c.nm x)=none/\mb (c.nm x)=some y))/\∀X μ h,(∀b,X b->c.base.get? b=none)->c.base.StaysIn h->ad c X μ h v y
 attr:∀k cl a,c.T.cls k=some cl->lS cl.am a=true->plainGet K (c.clA k) (c.nm a)=true/\hasDictIn K (c.clA k)=true/\(∃at_,findIn K (.ref (c.clA k)) (c.nm a)=some at_/\noGet K at_=true)/\
  findIn K (.ref (c.clA k)) "__setattr__" =some (some (.builtin "object.__setattr__"))/\plainOver K (c.clA k)=true/\takerIn K (c.clA k) (c.nm a)=some none
 meth:∀k cl a f,c.T.cls k=some cl->au cl.meth a=some f->plainGet K (c.clA k) (c.nm a)=true/\findIn K (.ref (c.clA k)) (c.nm a)=some (some (.ref (c.fnA f)))/\typeIn K (.ref (c.fnA f))=some (.type "function")
 bi:∀k,k<14->c.biV k=h9 k
 opq:∀k,14<=k->handedIn (c.biV k)=true
 nolim:c.base.NoLimit
 bmain:∃mg bm ob,c.base.Ns mainGlobals mg/\mg "__builtins__" =some (.ref bm)/\bm≠builtinsNs/\bm≠mainGlobals/\c.base.get? bm=some ob/\ob.cls=.type "module" /\ob.dict=some builtinsNs/\ob.data=.plain
 tabB:∀q∈c.tabs,c.base.get? q.2=none
 tabI:∀q∈c.tabs,∀q'∈c.tabs,q.2=q'.2->q=q'
 fn:∀k f,c.T.fns k=some f->B6 c k f
 keepF:∀k,k<c.T.nfn->keepIn K (.ref (c.fnA k))=true
 make:∀k cl,c.T.cls k=some cl->keepIn K (.ref (c.clA k))=true/\makesIn K (c.clA k)=true/\findIn K (.ref (c.clA k)) "__init__" =some (some (.ref (c.fnA cl.init)))/\typeIn K (.ref (c.fnA cl.init))=some (.type "function")
structure aJ(c:Cx)(n:Nat)(A:Around)(env:Env)(fr:Fr):Prop where
 k0:∀x,au fr.sc x=some 0->env.kindOf (c.nm x)=some .local
 k1:∀x,au fr.sc x=some 1->env.kindOf (c.nm x)=some .cell
 k2:∀x,au fr.sc x=some 2->env.kindOf (c.nm x)=some .cell\/env.kindOf (c.nm x)=some .free
 k3:∀x,au fr.sc x=some 3->env.kindOf (c.nm x)=some .globalImplicit
 kl:∀x k,au fr.sc x=some k->k<=3
 kk:∀x,env.kindOf (c.nm x)=some .local->au fr.sc x=some 0
 kfun:env.scope.kind=.function
 globs:env.globals=mainGlobals
 bis:env.builtins=builtinsNs
 frame:∃e0 outer L,A.frames=some (e0::outer)/\e0.frame=some L/\env.frame=some L
 handled:A.handled=none
 code:fr.lm=true->∃cd P,env.code=.ref cd/\(cd,P)∈c.tabs/\env.qual++ "<lambda>" =c.tq cd
 depth:A.depth+2*n+4<=990
 units:A.units+12*n+400<=9000
structure zo(lo h:Heap)(e T:Addr)(oT:Obj)(ts:Array Value):Prop where
 t1:T≠e
 t2:lo.get? T=none
 t3:h.get? T=some oT
 t4:oT.cls=.type "traceback"
 t5:oT.data=.fields ts
 t6:3<ts.size
 t7:∀q t,ts[1]?≠some (.str q t)
structure pf(c:Cx)(X:Addr->Prop)(μ:Mu)(lo:Heap)(k:Nat)(m v:V)(e:Addr)(h:Heap)(oe:Obj)(vs:Array Value)(dx:Addr)(ms:Str->Option Value)(tb:Value):Prop where
 e1:h.get? e=some oe
 e2:oe.cls=.ref (c.clA k)
 e3:oe.dict=some dx
 e4:oe.data=.fields vs
 e5:4<vs.size
 e6:vs[1]?=some tb
 e7:∀q t,tb≠.str q t
 e8:tb=.none\/∃T oT ts,tb=.ref T/\zo lo h e T oT ts
 e9:lo.get? e=none
 e10:lo.get? dx=none
 e11:¬own μ dx
 e12:h.Ns dx ms
 e13:∃y,ms (c.nm 0)=some y/\ad c X μ h m y
 e14:∃y,ms (c.nm 1)=some y/\ad c X μ h v y
structure cD(c:Cx)(X:Addr->Prop)(μ:Mu)(lo:Heap)(k:Nat)(m v:V)(e:Addr)(h:Heap):Prop where
 ex:∃oe vs dx ms tb,pf c X μ lo k m v e h oe vs dx ms tb
section
variable(c:Cx)(X:Addr->Prop)(A:Around)(env:Env)(fr:Fr)
def ac{α β:Type}(D:Mu->Heap->α->β->Prop)(μ:Mu)(s:Shared)(r:R α)(Q:β->Shared->Prop)(E:Value->Shared->Prop):Prop:=
 R.rec (λa ba=>∀av s' y,aK A env μ av s s'->Ok c X A env fr av ba s'->D av s'.heap a y->Q y s')
  (λk m v ba=>∀av s' e,aK A env μ av s s'->Ok c X A env fr av ba s'->cD c X av s.heap k m v e s'.heap->E (.ref e) s') False r
end
abbrev DV(c:Cx)(X:Addr->Prop):Mu->Heap->V->Value->Prop:=λμ h v x=>ad c X μ h v x
abbrev DB:Mu->Heap->Bool->Bool->Prop:=λ_ _ a b=>a=b
abbrev DU{α β:Type}:Mu->Heap->α->β->Prop:=λ_ _ _ _=>True
abbrev DL(c:Cx)(X:Addr->Prop):Mu->Heap->List V->List Value->Prop:=λμ h v x=>ay (ad c X μ h) v x
def DF(c:Cx)(X:Addr->Prop):Mu->Heap->Fl->Flow->Prop:=λμ h f x=>match f,x with
 |.next,.next=>True
 |.ret v,.ret y=>ad c X μ h v y
 |_,_=>False
section
variable{c:Cx}{X:Addr->Prop}{A:Around}{env:Env}{fr:Fr}{μ av:Mu}{σ ba:Sg}{s s':Shared}{E:Value->Shared->Prop}{α dL β fT:Type}{D:Mu->Heap->α->β->Prop}{D':Mu->Heap->dL->fT->Prop}
theorem ac.ok{a:α}{Q:β->Shared->Prop}(h:ac c X A env fr D μ s (.ok a ba) Q E)(n:aK A env μ av s s')(o:Ok c X A env fr av ba s'){y:β}(d:D av s'.heap a y):Q y s':=h av s' y n o d
theorem cD.lower{lo MB:Heap}(x:cD c X μ lo k m v e h)(l:fA MB lo):cD c X μ MB k m v e h:=
 ⟨x.ex.imp λoe=>bf λvs=>bf λdx=>bf λms=>bf λtb x=>
  ⟨x.e1,x.e2,x.e3,x.e4,x.e5,x.e6,x.e7,x.e8.imp id (bf λT=>bf λoT=>bf λts z=>⟨z.1,z.2.t1,l.none z.2.t2,z.2.t3,z.2.t4,z.2.t5,z.2.t6,z.2.t7⟩),l.none x.e9,l.none x.e10,x.e11,x.e12,x.e13,x.e14⟩⟩
theorem ac.shift{Q:β->Shared->Prop}(h:ac c X A env fr D μ s r Q E)(n:aK A env μ av s s'):ac c X A env fr D av s' r Q E:=by
 cases r with
 |ok a ba=>exact λa9 aB y n2 o d=>h a9 aB y (n.trans n2) o d
 |exc k m v ba=>exact λa9 aB e n2 o d=>h a9 aB e (n.trans n2) o (d.lower n.keep.1)
 |stuck=>exact h
theorem ac.bind{Q:β->Shared->Prop}{Q':fT->Shared->Prop}(h:ac c X A env fr D μ s (r.bind f) Q E)
 (k:∀a aM ao y s₁,aK A env μ ao s s₁->Ok c X A env fr ao aM s₁->D' ao s₁.heap a y->ac c X A env fr D ao s₁ (f a aM) Q E->Q' y s₁):ac c X A env fr D' μ s r Q' E:=by
 cases r with
 |ok a ba=>exact λao s₁ y n o d=>k a ba ao y s₁ n o d (ac.shift (h) n)
 |exc k m v ba=>exact h
 |stuck=>exact h
theorem ac.imp{r:R α}{Q Q':β->Shared->Prop}(h:ac c X A env fr D μ s r Q E)(k:∀y s₁,Q y s₁->Q' y s₁):ac c X A env fr D μ s r Q' E:=by
 cases r with
 |ok a ba=>exact λao s₁ y n o d=>k _ _ (h ao s₁ y n o d)
 |exc=>exact h
 |stuck=>exact h
theorem bk{o:Option dL}{f:dL->R α}{Q:β->Shared->Prop}{G:Prop}(h:ac c X A env fr D μ s (aX o f) Q E)(k:∀a,o=some a->ac c X A env fr D μ s (f a) Q E->G):G:=by
 cases o with|none=>exact h.elim|some a=>exact k a rfl h
theorem fq{Q:β->Shared->Prop}{G:Prop}(h:ac c X A env fr D μ s (dF o f d) Q E)(k:∀a,o=some a->ac c X A env fr D μ s (f a) Q E->G)(k':ac c X A env fr D μ s d Q E->G):G:=by
 cases o with|none=>exact k' h|some a=>exact k a rfl h
theorem bA{b:Bool}{r:R α}{Q:β->Shared->Prop}{G:Prop}(h:ac c X A env fr D μ s (aa b r .stuck) Q E)(k:b=true->ac c X A env fr D μ s r Q E->G):G:=by
 cases b with|false=>exact h.elim|true=>exact k rfl h
theorem gK{Q:β->Shared->Prop}{G:Prop}(h:ac c X A env fr D μ s (aa b r r') Q E)(k:b=true->ac c X A env fr D μ s r Q E->G)(k':b=false->ac c X A env fr D μ s r' Q E->G):G:=by
 cases b with|false=>exact k' rfl h|true=>exact k rfl h
theorem pQ{Q:β->Shared->Prop}{G:Prop}(h:ac c X A env fr D μ s (jS σ o) Q E)(k:∀a,o=some a->ac c X A env fr D μ s (.ok a σ) Q E->G):G:=bk h k
theorem aK.stays(n:aK A env μ av s s')(o:Ok c X A env fr μ σ s):de X X s.heap s'.heap:=n.keep.stays (λb ob e p=>o.mut b ob e p) λ_ _ _ q=>q
theorem ad.nxt(r:ad c X μ s.heap v x)(o:Ok c X A env fr μ σ s)(n:aK A env μ av s s'):ad c X av s'.heap v x:=r.mono (n.stays o) n.ext
theorem ay.nxt(r:ay (ad c X μ s.heap) v x)(o:Ok c X A env fr μ σ s)(n:aK A env μ av s s'):ay (ad c X av s'.heap) v x:=r.mono λ_ _ q=>q.nxt o n
def SE(c:Cx)(n:Nat)(f:Mine.E->Fr->Sg->R V):Prop:=∀X A env fr μ σ s e Q E,aJ c n A env fr->Ok c X A env fr μ σ s->ac c X A env fr (DV c X) μ s (f e fr σ) Q E->wpAny c.M A (eval (an c.nm e) env) Q E s
def ST(c:Cx)(n:Nat)(f:Mine.E->Fr->Sg->R Bool):Prop:=∀X A env fr μ σ s e Q E,aJ c n A env fr->Ok c X A env fr μ σ s->ac c X A env fr DB μ s (f e fr σ) Q E->wpAny c.M A (isTrue (an c.nm e) env (eval (an c.nm e) env)) Q E s
def SS(c:Cx)(n:Nat)(f:S->Fr->Sg->R Fl):Prop:=∀X A env fr μ σ s e Q E,aJ c n A env fr->Ok c X A env fr μ σ s->ac c X A env fr (DF c X) μ s (f e fr σ) Q E->wpAny c.M A (exec (cT c.nm e) env) Q E s
def SW(c:Cx)(n:Nat)(f:Mine.E->List S->Fr->Sg->R Fl):Prop:=∀X A env fr μ σ s t b Q E,aJ c n A env fr->Ok c X A env fr μ σ s->ac c X A env fr (DF c X) μ s (f t b fr σ) Q E->
 codeAny c.M A (.whileLoop (an c.nm t) (cU c.nm b) [] env) (λr s'=>match r with|.ok f=>Q f s'|.error e=>cameBackBy c.M A env E e s') s
def lG(c:Cx)(A:Around)(f:Value)(xs:List Value)(Q:Value->Shared->Prop)(E:Value->Shared->Prop)(s:Shared):Prop:=
 codeAny c.M A (.call f ⟨xs,[]⟩) (λr s'=>match r with|.ok (.ret v)=>Q v s'|.ok _=>False|.error e=>E e s') s
def SC(c:Cx)(n:Nat)(f:Nat->List V->Sg->R V):Prop:=∀X A env fr μ σ s k vs xs Q E,aJ c n A env fr->Ok c X A env fr μ σ s->ay (ad c X μ s.heap) vs xs->ac c X A env fr (DV c X) μ s (f k vs σ) Q E->
 lG c A (.ref (c.fnA k)) xs Q E s
structure lw(c:Cx)(n:Nat)(e:Ev):Prop where
 call:SC c n e.call
 eE:SE c n e.eE
 eT:ST c n e.eT
 eS:SS c n e.eS
 eW:SW c n e.eW
theorem aJ.of_succ(x:aJ c (n+1) A env fr):aJ c n A env fr:=
 ⟨x.k0,x.k1,x.k2,x.k3,x.kl,x.kk,x.kfun,x.globs,x.bis,x.frame,x.handled,x.code,
  eX (Nat.add_le_add_right (Nat.add_le_add_left (Nat.mul_le_mul_left 2 (Nat.le_succ n)) _) _) x.depth,eX (Nat.add_le_add_right (Nat.add_le_add_left (Nat.mul_le_mul_left 12 (Nat.le_succ n)) _) _) x.units⟩
theorem Ok.base_ns(o:Ok c X A env fr μ σ s)(h:c.base.Ns a m):s.heap.Ns a m:=h.keeps o.stays
theorem NI(h:k<=3)(h0:k≠0)(h3:k≠3):k=1\/k=2:=(by decide:∀k:Fin 4,k.val≠0->k.val≠3->k.val=1\/k.val=2) ⟨k,Nat.lt_succ_of_le h⟩ h0 h3
theorem zy{K:Frag}(G:bq c K)(eo:aJ c n A env fr)(o:Ok c X A env fr μ σ s)(hk:au fr.sc x=some 3)(hv:c.T.gl x=some v){Q:Value->Shared->Prop}(q:∀y,ad c X μ s.heap v y->Q y s):
 wpAny c.M A' (eval (.Name (c.nm x) (aE p)) env) Q E s:=
 (G.glob x v hv).elim λmg g=>g.elim λmb g=>g.elim λy g=>
  Calls.Name_function_global eo.kfun (eo.k3 x hk) (g.2.2.1.elim (λg3=>Calls.loadGlobal_global (eo.globs▸o.base_ns g.1) g3 (q y (g.2.2.2 X μ s.heap (λb hb=>(o.xlt b hb).2) o.stays)))
   λg3=>Calls.loadGlobal_builtin (eo.globs▸o.base_ns g.1) g3.1 (eo.bis▸o.base_ns g.2.1) g3.2 (q y (g.2.2.2 X μ s.heap (λb hb=>(o.xlt b hb).2) o.stays))) (G.nodebug x)
theorem Fd(o:Ok c X A env fr μ σ s)(hl:au fr.g x=some l)(ho:gH σ.H l=some ob)(hv:rq ob=some v):
 ∃p,aj μ l=some p/\env.cells.lookup (c.nm x)=some p.1/\RO c X μ s.heap p (.cell v):=
 (o.cells x l hl).elim λp q=>(o.obj l ob ho).elim λp' r=>⟨p,q.1,q.2,by
  have e:=bB r.1 q.1
  cases ob with
  |cell w=>exact af hv▸e▸r.2
  |_=>exact ns hv⟩
theorem CH{K:Frag}(G:bq c K){Q:Value->Shared->Prop}(eo:aJ c n A env fr)(o:Ok c X A env fr μ σ s)(h:ac c X A env fr (DV c X) μ s (LB c.T fr x σ) Q E):
 wpAny c.M A (eval (an c.nm (.name x p)) env) Q E s:=
 bk h λk hk h=>gK h
  (λhb h=>pQ h λv hv h=>o.ns.elim λm z=>(z.2 x v hv).elim λy w=>wpAny_Name (wpAny_loadName_local eo.kfun (eo.k0 x (bx.mp hb▸hk)) z.1 w.1 (h.ok .refl o w.2)) (G.nodebug x))
  λh0 h=>gK h (λhb h=>pQ h λv hv h=>zy G eo o (bx.mp hb▸hk) hv λy r=>h.ok .refl o r)
  λh3 h=>bk h λl hl h=>bk h λob ho h=>bk h λv hv h=>pQ h λv hv2 h=>(Fd o hl ho hv).elim λpp q=>q.2.2.2.elim λy z=>by
   subst hv2
   cases y with
   |none=>exact z.2.elim
   |some y=>
    have q':=h.ok .refl o z.2
    exact(NI (eo.kl x k hk) (ee.mp h0) (ee.mp h3)).elim (λe=>wpAny_Name (wpAny_loadName_cell eo.kfun (eo.k1 x (e▸hk)) q.2.1 z.1 q') (G.nodebug x)) λe=>
     (eo.k2 x (e▸hk)).elim (λk2=>wpAny_Name (wpAny_loadName_cell eo.kfun k2 q.2.1 z.1 q') (G.nodebug x)) λk2=>wpAny_Name (wpAny_loadName_free eo.kfun k2 q.2.1 z.1 q' (G.noclass x)) (G.nodebug x)
end
end
section
open PySem PySem.W PyProof.Rows
open PySem.SeqAt
theorem cn{α:Type}{o:Option α}{r:α}(h:aa b .none o=some r):b=false/\o=some r:=by cases b with|true=>exact ns h|false=>exact⟨rfl,h⟩
theorem cs{α:Type}{b:Bool}{o:Option α}{r:α}(h:aa b o .none=some r):b=true/\o=some r:=by cases b with|true=>exact⟨rfl,h⟩|false=>exact ns h
theorem oe{α β:Type}{o:Option α}{f:α->Option β}{d:Option β}{r:β}{G:Prop}(h:a7 o f d=some r)(k:∀a,o=some a->f a=some r->G)(k':o=none->d=some r->G):G:=by
 cases o with|none=>exact k' rfl h|some a=>exact k a rfl h
theorem oa{α β:Type}{o:Option α}{f:α->Option β}{d:Option β}{r:β}{G:Prop}(h:a7 o f d=some r)(k:∀a,o=some a->f a=some r->G)(k':d=some r->G):G:=oe h k λ_=>k'
theorem nu{α:Type}{b:Bool}{x y:α}(h:b=true):aa b x y=x:=h▸rfl
theorem lW{α:Type}{b:Bool}{x y:α}(h:b=false):aa b x y=y:=h▸rfl
theorem on{α β:Type}{o:Option α}{f:α->Option β}{r:β}{G:Prop}(h:a7 o f .none=some r)(k:∀a,o=some a->f a=some r->G):G:=oa h k λe=>ns e
theorem LP{G:Prop}(h:yh a b=some r)(k:∀x y,a=some x->b=some y->r=(x&&y)->G):G:=by
 cases a with
 |none=>exact ns h
 |some x=>cases b with
  |none=>exact ns h
  |some y=>exact k x y rfl rfl ((af h).symm.trans (by cases x<;>rfl))
theorem We{r:Bool}(h:unlike a b=some r):r=false/\a≠0/\b≠0/\a≠b:=
 have p:=cn h;have q:=cn p.2;have w:=cn q.2
 ⟨(af w.2).symm,ee.mp p.1,ee.mp q.1,ee.mp w.1⟩
theorem qm{v:V}(h:eM v=some i):v=.int i:=by cases v<;>first|exact ns h|exact aq V.int (af h)
theorem pC{v:V}{i:Bool}(h:kY v=some i):v=.bool i:=by cases v<;>first|exact ns h|exact aq V.bool (af h)
theorem j5{v:V}(h:cR v=some i):v=.str i:=by cases v<;>first|exact ns h|exact aq V.str (af h)
theorem ya(h:ck v=some i):v=.loc i:=by cases v<;>first|exact ns h|exact aq V.loc (af h)
theorem qF{v:V}{i:Nat}(h:cu v=some i):v=.atom i:=by cases v<;>first|exact ns h|exact aq V.atom (af h)
theorem nQ{v:V}(h:isNone v=true):v=.none:=by cases v<;>first|exact ft h|rfl
theorem BV{l:List V}(h:cG v=some l):ca v=true/\gz v=l:=⟨(cs h).1,af (cs h).2⟩
theorem tK(h:mh o=some l):o=.list l:=by cases o<;>first|exact ns h|exact aq aF.list (af h)
theorem EU(h:xt o=some l):o=.dict l:=by cases o<;>first|exact ns h|exact aq aF.dict (af h)
theorem qV{α:Type}{f:aF->Option α}{H:HT}{v:V}{p:Nat×α}(h:ol f H v=some p):∃o,v=.loc p.1/\gH H p.1=some o/\f o=some p.2:=
 on h λn hn h=>on h λo ho h=>on h λx hx h=>af h▸⟨o,ya hn,ho,hx⟩
def zA(f:V->V->Bool->Prop)(us vs:List V)(es:List Bool):Prop:=
 es.length=min us.length vs.length/\∀(j:Nat) (a b:V) (e:Bool),us[j]?=some a->vs[j]?=some b->es[j]?=some e->f a b e
theorem D8(es:List Bool):(List.range es.length).all (λj=>es.getD j true)=es.all id:=by
 induction es with
 |nil=>rfl
 |cons e r ih=>
  rw[List.length_cons,List.range_succ_eq_map,List.all_cons,List.all_map]
  show(e&&(List.range r.length).all (λj=>r.getD j true))=_
  rw[ih];rfl
theorem A4{f:V->V->Option Bool}(xs:List V):∀{ys:List V} {r:Bool},lE f xs ys=some r->∃es,zA (λa b e=>f a b=some e) xs ys es/\r=(es.all id&&decide (xs.length=ys.length)):=by
 induction xs with
 |nil=>
  intro ys r h
  refine⟨[],⟨(Nat.zero_min _).symm,λj a b e h=>ns h⟩,?_⟩
  cases ys with
  |nil=>exact(af h).symm
  |cons=>exact(af h).symm
 |cons x p ih=>
  intro ys r h
  cases ys with
  |nil=>exact⟨[],⟨rfl,λj a b e _ h=>ns h⟩,(af h).symm⟩
  |cons y q=>
   exact LP h λa b h1 h2 e=>(ih h2).elim λes pw=>⟨a::es,⟨(aq (· +1) pw.1.1).trans (Nat.succ_min_succ _ _).symm,λj u v d=>Nat.casesOn j (λz1 z2 z3=>(af z1)▸(af z2)▸(af z3)▸h1) λj z1 z2 z3=>pw.1.2 j u v d z1 z2 z3⟩,by
    rw[e,pw.2,List.all_cons,Bool.and_assoc]
    exact aq (a&& ·) (aq (es.all id&& ·) (decide_eq_decide.mpr Nat.succ_inj.symm))⟩
section
variable{c:Cx}{X:Addr->Prop}{A:Around}{env:Env}{fr:Fr}{μ av:Mu}{σ ba:Sg}{s s':Shared}{E:Value->Shared->Prop}
theorem Zz{h:Heap}(p:h.IsTuple a x)(q:h.IsTuple a y):x=y:=
 p.elim λo p=>q.elim λo' q=>p.2.2.elim λn d=>q.2.2.elim λn' d'=>(Data.seq.inj ((d.symm.trans (aq Obj.data (bB p.1 q.1))).trans d')).1
@[elab_as_elim] theorem i8 {P:Value->Prop} {i:Int} (hv:eM v=some i) (r:ad c X μ h v x) (k:∀t,P (.int i t)):P x:=by
 have e:=qm hv;subst e;exact r.elim λt e=>e▸k t
@[elab_as_elim] theorem fZ {P:Value->Prop} {h:Heap} {v:V} {x:Value} {i:List Nat} (hv:cR v=some i) (r:ad c X μ h v x) (k:∀t,P (.str (aW i) t)):P x:=by
 have e:=j5 hv;subst e;exact r.elim λt e=>e▸k t
@[elab_as_elim] theorem jJ {P:Value->Prop} (hv:cG v=some l) (r:ad c X μ h v x) (k:∀a its,h.IsTuple a its->Lv X h a->ay (ad c X μ h) l its.toList->P (.ref a)):P x:=
 have t:=BV hv
 ((hZ t.1).mp r).elim λa q=>q.elim λits q=>q.1▸k a its q.2.1 q.2.2.1 (t.2▸q.2.2.2)
theorem A0{P:Value->Prop}{α:Type}{f:aF->Option α}{p:Nat×α}(o:Ok c X A env fr μ σ s)(hv:ol f σ.H v=some p)(r:ad c X μ s.heap v x)
 (k:∀ob q,gH σ.H p.1=some ob->f ob=some p.2->aj μ p.1=some q->RO c X μ s.heap q ob->P (.ref q.1)):P x:=
 (qV hv).elim λob w=>(w.1▸r).elim λq z=>(o.obj p.1 ob w.2.1).elim λq' y=>z.2▸k ob q w.2.1 w.2.2 z.1 (bB y.1 z.1▸y.2)
@[elab_as_elim] theorem fa {P:Value->Prop} {v:V} (o:Ok c X A env fr μ σ s) (hv:dn σ.H v=some p) (r:ad c X μ s.heap v x)
 (k:∀a its,gH σ.H p.1=some (.list p.2)->aj μ p.1=some (a,a)->s.heap.PlainList a its->ay (ad c X μ s.heap) p.2 its.toList->its.size<=4000->P (.ref a)):P x:=
 A0 o hv r λob q h1 h2 h3 ro=>by
  have e:=tK h2;subst e
  exact ro.2.elim λits z=>k q.1 its h1 (h3.trans (aq some (Prod.ext rfl ro.1))) z.1 z.2.1 z.2.2
@[elab_as_elim] theorem mi {P:Value->Prop} {v:V} (o:Ok c X A env fr μ σ s) (hv:iH σ.H v=some p) (r:ad c X μ s.heap v x)
 (k:∀a l,gH σ.H p.1=some (.dict p.2)->aj μ p.1=some (a,a)->(a==sysModules)=false->s.heap.DictOf (strKind c.prog c.w) a l->ay (λa b=>b.1=aW a.1/\ad c X μ s.heap a.2 b.2) p.2 l->l.length<=4000->P (.ref a)):P x:=
 A0 o hv r λob q h1 h2 h3 ro=>by
  have e:=EU h2;subst e
  exact ro.2.2.elim λl z=>k q.1 l h1 (h3.trans (aq some (Prod.ext rfl ro.1))) ro.2.1 z.1 z.2.1 z.2.2
theorem cB{its:Array Value}(z:ay (ad c X μ h) l its.toList):its.size=l.length:=Array.length_toList.symm.trans z.length
inductive zZ(H:HT)(n:Nat)(a b:V)(r:Bool):Prop
 |unlike (h1:fz H a≠0) (h2:fz H b≠0) (h3:fz H a≠fz H b) (e:r=false)
 |none (ea:a=.none) (eb:b=.none) (e:r=true)
 |bool (x y:Bool) (ea:a=.bool x) (eb:b=.bool y) (e:r=(x==y))
 |int (x y:Int) (ea:eM a=some x) (eb:eM b=some y) (e:r=(x==y))
 |str (x y:List Nat) (ea:cR a=some x) (eb:cR b=some y) (e:r=seq x y)
 |tup (xs ys:List V) (ea:cG a=some xs) (eb:cG b=some ys) (h:lE (eI H n) xs ys=some r)
 |same (i:Nat) (ea:a=.loc i) (eb:b=.loc i) (e:r=true)
 |atom (i j:Nat) (hn:20<n) (ea:a=.atom i) (eb:b=.atom j) (e:(i=j/\r=true)\/(i≠j/\yr i j=true/\r=false))
 |list (p q:Nat×List V) (ea:dn H a=some p) (eb:dn H b=some q) (ne:p.1≠q.1) (h:(p.2.length≠q.2.length/\r=false)\/(p.2.length=q.2.length/\lE (eI H n) p.2 q.2=some r))
theorem sh{H:HT}{n k:Nat}{a b:V}{r:Bool}(h:unlike k (fz H b)=some r)(e:k=fz H a):zZ H n a b r:=
 have q:=We (e▸h);.unlike q.2.1 q.2.2.1 q.2.2.2 q.1
theorem ZO{H:HT}{v:V}{l:List V}(h:cG v=some l):fz H v=4:=by
 have t:=(BV h).1
 cases v<;>first|exact ft t|rfl
theorem Af{H:HT}{i:Nat}{p:Nat×List V}(h:dn H (.loc i)=some p):p.1=i/\fz H (.loc i)=5:=
 (qV h).elim λo w=>by
  have e1:i=p.1:=aq (λv=>(ck v).getD 0) w.1
  have e:=tK w.2.2;subst e
  refine⟨e1.symm,?_⟩
  unfold fz;dsimp only;rw[e1,w.2.1]
theorem Oo{H:HT}{i:Nat}{b:V}{q:Nat×List V}(h:dn H b=some q)(e:i=q.1):qp i b=true:=
 (qV h).elim λo w=>by rw[w.1];exact bx.mpr e
theorem W3{i:Nat}{b:V}(h:qp i b=true):b=.loc i:=by
 cases b<;>first|exact ft h|exact aq V.loc (bx.mp h).symm
theorem Hc(H:HT)(n:Nat)(a b:V)(r:Bool)(h:eI H (n+1) a b=some r):zZ H n a b r:=by
 have tup:a7 (cG a) (λxs=>a7 (cG b) (λys=>lE (eI H n) xs ys) (unlike 4 (fz H b))) .none=some r->zZ H n a b r:=λh=>
  on h λxs hx h=>oa h (λys hy h=>.tup xs ys hx hy h) λh=>sh h (ZO hx).symm
 cases a with
 |none=>
  cases hb:isNone b with
  |true=>exact .none rfl (nQ hb) (af ((nu hb).symm.trans h)).symm
  |false=>exact sh (k:=1) ((lW hb).symm.trans h) rfl
 |bool x=>exact on h λy hy h=>.bool x y rfl (pC hy) ((af h).symm.trans (by cases x<;>cases y<;>rfl))
 |int x=>exact oa h (λy hy h=>.int x y rfl hy (af h).symm) λh=>sh h rfl
 |str x=>exact oa h (λy hy h=>.str x y rfl hy (af h).symm) λh=>sh h rfl
 |atom i=>exact on h λj hj h=>.atom i j (cH (cs h).1) rfl (qF hj) (by
  have h:=(cs h).2
  cases e:Nat.beq i j with
  |true=>exact .inl ⟨bx.mp e,(af ((nu e).symm.trans h)).symm⟩
  |false=>exact .inr ⟨ee.mp e,(cs ((lW e).symm.trans h)).1,(af (cs ((lW e).symm.trans h)).2).symm⟩)
 |loc i=>
  cases hb:qp i b with
  |true=>exact .same i rfl (W3 hb) (af ((nu hb).symm.trans h)).symm
  |false=>exact on ((lW hb).symm.trans h) λp hp h=>oa h (λq hq h=>.list p q hp hq (λe=>tf (((Oo hq ((Af hp).1.symm.trans e)).symm.trans hb))) (by
   rw[bH,bH] at h
   cases hl:Nat.beq p.2.length q.2.length with
   |true=>exact .inr ⟨bx.mp hl,(nu hl).symm.trans h⟩
   |false=>exact .inl ⟨ee.mp hl,(af ((lW hl).symm.trans h)).symm⟩)) λh=>sh h (Af hp).2.symm
 |nil=>exact tup h
 |cons p q=>exact tup h
 |_=>exact ns h
noncomputable def O8(h:Heap)(x:Value):Nat:=match x with|.none=>1|.int _ _=>2|.str _ _=>3|.ref a=>if (h.get? a).any (λo=>o.cls== .type "tuple")=true then 4 else 5|_=>0
inductive KX(h:Heap)(k:Nat)(x:Value):Prop
 |none (e:k=1) (ex:x=.none)
 |int (i:Int) (t:Tok) (e:k=2) (ex:x=.int i t)
 |str (p:Str) (t:Tok) (e:k=3) (ex:x=.str p t)
 |tup (a:Addr) (its:Array Value) (q:h.IsTuple a its) (e:k=4) (ex:x=.ref a)
 |list (a:Addr) (its:Array Value) (q:h.IsList a its) (e:k=5) (ex:x=.ref a)
theorem HY{h:Heap}(q:KX h k x):O8 h x=k:=by
 cases q with
 |none e ex=>rw[ex,e];rfl
 |int i t e ex=>rw[ex,e];rfl
 |str i t e ex=>rw[ex,e];rfl
 |tup a its q e ex=>rw[ex,e];exact q.elim λo q=>aG (by rw[q.1];exact beq_iff_eq.mpr q.2.1)
 |list a its q e ex=>rw[ex,e];exact q.elim λo q=>ax (by rw[q.1];show ¬(o.cls== .type "tuple")=true;rw[q.2.1];decide)
theorem xg(o:Ok c X A env fr μ σ s){a:V}(r:ad c X μ s.heap a x)(h:fz σ.H a≠0):KX s.heap (fz σ.H a) x:=by
 cases a with
 |none=>exact .none rfl r
 |int i=>exact r.elim λt e=>.int _ _ rfl e
 |str p=>exact r.elim λt e=>.str _ _ rfl e
 |nil=>exact r.ex.elim λa q=>q.elim λits q=>.tup a its q.2.1 rfl q.1
 |cons p q=>exact r.ex.elim λa q=>q.elim λits q=>.tup a its q.2.1 rfl q.1
 |loc n=>
  cases hl:dn σ.H (.loc n) with
  |none=>
   refine aV ?_ h
   unfold fz;dsimp only
   have hl:a7 (gH σ.H n) (λo=>a7 (mh o) (λx=>some (n,x)) none) none=none:=hl
   cases ho:gH σ.H n with
   |none=>rfl
   |some ob=>rw[ho] at hl;cases ob<;>first|rfl|exact sn hl
  |some p=>exact(Af hl).2.symm▸fa (P:=λx=>KX s.heap 5 x) o hl r λa its _ _ q _ _=>.list a its q.isList rfl rfl
 |_=>exact aV rfl h
theorem N2(h1:KX s.heap k x)(h2:KX s.heap j y)(iB:k≠j)(hu:A'.units<cLine):EqAt A' s x y false/\RcAt A' s x y false/\RcNeAt A' s x y true:=by
 cases h1 with
 |none e ex=>
  cases h2 with
  |none e'=>exact aV (e.trans e'.symm) iB
  |int i' t' _ ey=>exact ex▸ey▸⟨.none_int _ _,.none_int _ _,.none_int _ _⟩
  |str p' t' _ ey=>exact ex▸ey▸⟨.none_str _ _,.none_str _ _,.none_str _ _⟩
  |tup a' fB q' _ ey=>exact ex▸ey▸⟨.none_tuple q' hu,.none_tuple q' hu,.none_tuple q' hu⟩
  |list a' fB q' _ ey=>exact ex▸ey▸⟨.none_list q' hu,.none_list q' hu,.none_list q' hu⟩
 |int i t e ex=>
  cases h2 with
  |int i' t' e'=>exact aV (e.trans e'.symm) iB
  |none _ ey=>exact ex▸ey▸⟨.int_none _ _,.int_none _ _,.int_none _ _⟩
  |str p' t' _ ey=>exact ex▸ey▸⟨.int_str _ _ _ _,.int_str _ _ _ _,.int_str _ _ _ _⟩
  |tup a' fB q' _ ey=>exact ex▸ey▸⟨.int_tuple _ _ q' hu,.int_tuple _ _ q' hu,.int_tuple _ _ q' hu⟩
  |list a' fB q' _ ey=>exact ex▸ey▸⟨.int_list _ _ q' hu,.int_list _ _ q' hu,.int_list _ _ q' hu⟩
 |str p t e ex=>
  cases h2 with
  |str p' t' e'=>exact aV (e.trans e'.symm) iB
  |none _ ey=>exact ex▸ey▸⟨.str_none _ _,.str_none _ _,.str_none _ _⟩
  |int i' t' _ ey=>exact ex▸ey▸⟨.str_int _ _ _ _,.str_int _ _ _ _,.str_int _ _ _ _⟩
  |tup a' fB q' _ ey=>exact ex▸ey▸⟨.str_tuple _ _ q' hu,.str_tuple _ _ q' hu,.str_tuple _ _ q' hu⟩
  |list a' fB q' _ ey=>exact ex▸ey▸⟨.str_list _ _ q' hu,.str_list _ _ q' hu,.str_list _ _ q' hu⟩
 |tup a its q e ex=>
  cases h2 with
  |tup a' fB q' e'=>exact aV (e.trans e'.symm) iB
  |none _ ey=>exact ex▸ey▸⟨.tuple_none q hu,.tuple_none q hu,.tuple_none q hu⟩
  |int i' t' _ ey=>exact ex▸ey▸⟨.tuple_int _ _ q hu,.tuple_int _ _ q hu,.tuple_int _ _ q hu⟩
  |str p' t' _ ey=>exact ex▸ey▸⟨.tuple_str _ _ q hu,.tuple_str _ _ q hu,.tuple_str _ _ q hu⟩
  |list a' fB q' _ ey=>exact ex▸ey▸⟨.tuple_list q q' hu,.tuple_list q q' hu,.tuple_list q q' hu⟩
 |list a its q e ex=>
  cases h2 with
  |list a' fB q' e'=>exact aV (e.trans e'.symm) iB
  |none _ ey=>exact ex▸ey▸⟨.list_none q hu,.list_none q hu,.list_none q hu⟩
  |int i' t' _ ey=>exact ex▸ey▸⟨.list_int _ _ q hu,.list_int _ _ q hu,.list_int _ _ q hu⟩
  |str p' t' _ ey=>exact ex▸ey▸⟨.list_str _ _ q hu,.list_str _ _ q hu,.list_str _ _ q hu⟩
  |tup a' fB q' _ ey=>exact ex▸ey▸⟨.list_tuple q q' hu,.list_tuple q q' hu,.list_tuple q q' hu⟩
theorem Xj(o:Ok c X A env fr μ σ s){i j:Nat}(hp:aj μ i=some p)(hq:aj μ j=some q)(e:p.1=q.1):i=j:=
 (Classical.em (i=j)).elim id λh=>aV e (o.apart i j p q hp hq h).1
theorem Po{f:V->V->Bool->Prop}{us vs:List V}(pw:zA f us vs es)(hl:us.length=vs.length)(k:∀(j:Nat) a b e,us[j]?=some a->vs[j]?=some b->f a b e->e=true):es.all id=true:=
 List.all_eq_true.mpr λe he=>(List.mem_iff_getElem?.mp he).elim λj hj=>
  have lt:j<us.length:=by have:=(List.getElem?_eq_some_iff.mp hj).1;rw[pw.1,hl,Nat.min_self] at this;exact hl▸this
  have a1:=List.getElem?_eq_getElem lt
  have a2:=List.getElem?_eq_getElem (hl▸lt:j<vs.length)
  k j _ _ e a1 a2 (pw.2 j _ _ e a1 a2 hj)
theorem rS{h:Heap}{l:List V}(hv:cG v=some l)(r:ad c X μ h v x):∃a its,x=.ref a/\h.IsTuple a its/\Lv X h a/\ay (ad c X μ h) l its.toList:=
 have t:=BV hv;t.2▸(hZ t.1).mp r
theorem ZB(o:Ok c X A env fr μ σ s)(n:Nat):∀(a b:V) (r:Bool) (x:Value),eI σ.H n a b=some r->ad c X μ s.heap a x->ad c X μ s.heap b x->r=true:=by
 induction n with
 |zero=>exact λa b r x h=>ns h
 |succ n ih=>
  intro a b r x h ra rb
  cases Hc σ.H n a b r h with
  |unlike h1 h2 h3 e=>exact aV ((HY (xg o ra h1)).symm.trans (HY (xg o rb h2))) h3
  |none _ _ e=>exact e
  |bool p q ea eb e=>subst ea eb;exact e.trans (beq_iff_eq.mpr (Value.bool.inj ((ra).symm.trans rb)))
  |int p q ea eb e=>exact e.trans (beq_iff_eq.mpr ((qm ea▸ra:ad c X μ s.heap (.int p) x).elim λt e1=>(qm eb▸rb:ad c X μ s.heap (.int q) x).elim λu e2=>(Value.int.inj (e1.symm.trans e2)).1))
  |str p q ea eb e=>exact e.trans (fk.mpr ((j5 ea▸ra:ad c X μ s.heap (.str p) x).elim λt e1=>(j5 eb▸rb:ad c X μ s.heap (.str q) x).elim λu e2=>ku (Value.str.inj (e1.symm.trans e2)).1))
  |tup xs ys ea eb h=>
   exact(A4 xs h).elim λes pw=>(rS ea ra).elim λt z=>z.elim λits z=>(rS eb rb).elim λt' w=>w.elim λfB w=>by
    have e1:=Value.ref.inj (z.1.symm.trans w.1)
    have e2:=Zz z.2.1 (e1▸w.2.1)
    subst e2
    have hl:=z.2.2.2.length.symm.trans w.2.2.2.length
    rw[pw.2,decide_eq_true hl,Bool.and_true]
    exact Po pw.1 hl λj u v e h1 h2 h3=>(z.2.2.2.get j u h1).elim λy y1=>(w.2.2.2.get j v h2).elim λy' y2=>ih u v e y h3 y1.2 (bB y2.1 y1.1▸y2.2)
  |same _ _ _ e=>exact e
  |atom i j _ ea eb e=>
   subst ea eb
   exact e.elim And.right λw=>(c.ρd i j w.2.1 w.1).elim λp z=>z.elim λq z=>((z.1▸ra:(PV X s.heap (.str p)).1 x)).elim λt e1=>((z.2.1▸rb:(PV X s.heap (.str q)).1 x)).elim λu e2=>
    tf ((fk.mpr (ku (Value.str.inj (e1.symm.trans e2)).1)).symm.trans z.2.2)
  |list p q ea eb ne _=>
   exact(qV ea).elim λ_ w=>(qV eb).elim λ_ w'=>(w.1▸ra:ad c X μ s.heap (.loc p.1) x).elim λu z=>(w'.1▸rb:ad c X μ s.heap (.loc q.1) x).elim λu' z'=>aV (Xj o z.1 z'.1 (Value.ref.inj (z.2.symm.trans z'.2))) ne
theorem Kj{its:Array Value}(h:its.toList[j]?=some y)(hj:j<its.size):its[j]=y:=
 af ((Array.getElem?_eq_getElem hj).symm.trans (Array.getElem?_toList.symm.trans h))
theorem Ho{A':Around}(ih:∀(a b:V) (r:Bool) (x y:Value),eI σ.H n a b=some r->ad c X μ s.heap a x->ad c X μ s.heap b y->EqAt A' s x y r){its fB:Array Value}
 (l1:ay (ad c X μ s.heap) xs its.toList)(l2:ay (ad c X μ s.heap) ys fB.toList)(pw:zA (λa b e=>eI σ.H n a b=some e) xs ys es):∀j (h1:j<its.size) (h2:j<fB.size),EqAt A' s its[j] fB[j] (es.getD j true):=λj h1 h2=>by
 have a1:=List.getElem?_eq_getElem (cB l1▸h1)
 have a2:=List.getElem?_eq_getElem (cB l2▸h2)
 have hj:j<es.length:=by rw[pw.1,← cB l1,← cB l2];exact Nat.lt_min.mpr ⟨h1,h2⟩
 have a3:=List.getElem?_eq_getElem hj
 rw[List.getD_eq_getElem?_getD,a3]
 exact(l1.get j _ a1).elim λy y1=>(l2.get j _ a2).elim λz z1=>(Kj y1.1 h1).symm▸(Kj z1.1 h2).symm▸ih _ _ _ _ _ (pw.2 j _ _ _ a1 a2 a3) y1.2 z1.2
theorem DK(p q:List Nat):seq p q=(aW p==aW q):=Bool.eq_iff_iff.mpr (fk.trans ⟨λe=>beq_iff_eq.mpr (aq aW e),λe=>ku (beq_iff_eq.mp e)⟩)
theorem x5(o:Ok c X A env fr μ σ s)(n:Nat):∀(a b:V) (r:Bool) (x y:Value) (A':Around),eI σ.H n a b=some r->ad c X μ s.heap a x->ad c X μ s.heap b y->A'.units+n<9900->
 EqAt A' s x y r/\((∀i j,a=.loc i->b=.loc j->i≠j)->RcAt A' s x y r/\RcNeAt A' s x y (!r)):=by
 induction n using Nat.strongRecOn with
 |ind n ih=>
  intro a b r x y A' h ra rb hu
  cases n with
  |zero=>exact ns h
  |succ n=>
   have pW:=jQ (gJ _ _) hu
   have vu:=(Nat.succ_add A'.units n▸hu:A'.units.succ+n<9900)
   have yE:=λa b r x y h ra rb=>(ih n (Nat.lt_succ_self n) a b r x y A'.in1 h ra rb vu).1
   have two:∀l m:Addr,x=.ref l->y=.ref m->RcAt A' s x y r->EqAt A' s x y r:=λl m e1 e2 rc=>by
    subst e1 e2
    exact(Classical.em (l=m)).elim (λe=>by subst e;rw[ZB o (n+1) a b r _ h ra rb];exact .same _) λe=>.of_refs e rc
   cases Hc σ.H n a b r h with
   |unlike h1 h2 h3 e=>have u:=N2 (xg o ra h1) (xg o rb h2) h3 pW;subst e;exact⟨u.1,λ_=>u.2⟩
   |none ea eb e=>subst ea eb e;have e1:=ra;have e2:=rb;subst e1 e2;exact⟨.same _,λ_=>⟨.none_none,.none_none⟩⟩
   |bool p q ea eb e=>subst ea eb e;have e1:=ra;have e2:=rb;subst e1 e2;exact⟨.bool_bool p q,λ_=>⟨.bool_bool p q,.bool_bool p q⟩⟩
   |int p q ea eb e=>subst e;refine i8 ea ra λt=>?_;refine i8 eb rb λu=>?_;exact⟨.int_int p t q u,λ_=>⟨.int_int p t q u,.int_int p t q u⟩⟩
   |str p q ea eb e=>rw[e,DK];refine fZ ea ra λt=>?_;refine fZ eb rb λu=>?_;exact⟨.str_str _ t _ u,λ_=>⟨.str_str _ t _ u,.str_str _ t _ u⟩⟩
   |tup xs ys ea eb h=>
    obtain⟨es,pw⟩:=A4 xs h
    obtain⟨l,its,ex,i1,_,l1⟩:=rS ea ra
    obtain⟨m,fB,ey,i2,_,l2⟩:=rS eb rb
    have he:=Ho yE l1 l2 pw.1
    have vx:((List.range (min its.size fB.size)).all (λj=>es.getD j true)&&its.size==fB.size)=r:=by
     rw[pw.2,← D8 es,pw.1.1,cB l1,cB l2];rfl
    have rc:=ex▸ey▸vx▸RcAt.tuples i1 i2 pW he
    exact⟨two _ _ ex ey rc,λ_=>⟨rc,ex▸ey▸vx▸RcNeAt.tuples i1 i2 pW he⟩⟩
   |same i ea eb e=>
    subst ea eb e
    exact ra.elim λp z=>rb.elim λq w=>by
     rw[z.2,w.2,bB z.1 w.1]
     exact⟨.same _,λk=>aV rfl (k i i rfl rfl)⟩
   |atom i j hn ea eb e=>
    subst ea eb
    have q:eI σ.H 20 (c.ρ i) (c.ρ j)=some r:=e.elim (λw=>w.1▸w.2▸c.ρe i σ.H) λw=>w.2.2▸(c.ρd i j w.2.1 w.1).elim λp z=>z.elim λq z=>by rw[z.1,z.2.1];exact aq some z.2.2
    have z:=ih 20 (Nat.lt_succ_of_lt hn) _ _ _ _ _ A' q ((we _).1 x ra) ((we _).1 y rb) (Nat.lt_trans (Nat.add_lt_add_left (Nat.lt_succ_of_lt hn) _) hu)
    exact⟨z.1,λ_=>z.2 λi' j' q=>(q▸ra:(PV X s.heap (.loc i')).1 x).elim⟩
   |list p q ea eb ne h=>
    exact fa (P:=λx=>(∀l m:Addr,x=.ref l->y=.ref m->RcAt A' s x y r->EqAt A' s x y r)->EqAt A' s x y r/\((∀i j,a=.loc i->b=.loc j->i≠j)->RcAt A' s x y r/\RcNeAt A' s x y (!r))) o ea ra (λl its _ _ i1 l1 _=>
     fa (P:=λy=>(∀l' m:Addr,Value.ref l=.ref l'->y=.ref m->RcAt A' s (.ref l) y r->EqAt A' s (.ref l) y r)->EqAt A' s (.ref l) y r/\((∀i j,a=.loc i->b=.loc j->i≠j)->RcAt A' s (.ref l) y r/\RcNeAt A' s (.ref l) y (!r))) o eb rb λm fB _ _ i2 l2 _ two=>
     h.elim (λh=>by
      have cL:(its.size !=fB.size)=true:=by rw[cB l1,cB l2];exact bne_iff_ne.mpr h.1
      have rc:=h.2▸RcAt.lists_lengths i1.isList i2.isList cL pW
      exact⟨two _ _ rfl rfl rc,λ_=>⟨rc,h.2▸RcNeAt.lists_lengths i1.isList i2.isList cL pW⟩⟩)
      λh=>by
       obtain⟨es,pw⟩:=A4 p.2 h.2
       have he:=Ho yE l1 l2 pw.1
       have cL:its.size=fB.size:=by rw[cB l1,cB l2];exact h.1
       have vx:(List.range its.size).all (λj=>es.getD j true)=r:=by
        rw[pw.2,← D8 es,pw.1.1,cB l1,h.1,Nat.min_self,decide_eq_true rfl,Bool.and_true]
       have rc:=vx▸RcAt.lists i1.isList i2.isList cL pW he
       exact⟨two _ _ rfl rfl rc,λ_=>⟨rc,vx▸RcNeAt.lists i1.isList i2.isList cL pW he⟩⟩) two
end
section
variable{c:Cx}{X:Addr->Prop}{A:Around}{env:Env}{fr:Fr}{μ av:Mu}{σ ba:Sg}{s s':Shared}{E:Value->Shared->Prop}{n:Nat}
theorem lu(h:a+b<9900)(k:d<=b:=by decide):a+d<9900:=jQ (Nat.add_le_add_left k _) h
theorem wN(h:a+b<9900)(k:1+d<=b:=by decide):a+1+d<9900:=Nat.add_assoc a 1 d▸lu h k
theorem VO(l:List V):∀{r:Bool},yc H x l=some r->∃es,ay (λv e=>eI H iW v x=some e) l es/\r=es.any id:=by
 induction l with
 |nil=>exact λh=>⟨[],.nil,(af h).symm⟩
 |cons y q ih=>exact λh=>on h λa ha h=>on h λb hb h=>(ih hb).elim λes z=>⟨a::es,.cons ha z.1,by rw[← af h,z.2];cases a<;>rfl⟩
theorem mark{es:List Bool}{its:List Value}{p:Value->Bool->Prop}(k:∀(j:Nat) y e,its[j]?=some y->es[j]?=some e->p y e)(hl:es.length=its.length):∃f:Value->Bool,(∀y∈its,p y (f y))/\its.any f=es.any id:=by
 let P:=λy=>∃j:Nat,its[j]?=some y/\es[j]?=some true
 refine⟨λy=>@decide (P y) (Classical.propDecidable _),λy hy=>?_,Bool.eq_iff_iff.mpr ⟨λh=>?_,λh=>?_⟩⟩
 · show p y (@decide (P y) (Classical.propDecidable _))
   exact(List.mem_iff_getElem?.mp hy).elim λj hj=>(Classical.em (P y)).elim (λh=>(@decide_eq_true _ (Classical.propDecidable _) h).symm▸h.elim λi z=>k i y true z.1 z.2) λh=>(@decide_eq_false _ (Classical.propDecidable _) h).symm▸(by
    have lt:=hl▸(List.getElem?_eq_some_iff.mp hj).1
    have e:=List.getElem?_eq_getElem lt
    cases hb:es[j] with
    |true=>exact aV ⟨j,hj,hb▸e⟩ h
    |false=>exact k j y false hj (hb▸e))
 · exact(List.any_eq_true.mp h).elim λy z=>(@of_decide_eq_true _ (Classical.propDecidable _) z.2).elim λj w=>List.any_eq_true.mpr ⟨true,List.mem_of_getElem? w.2,rfl⟩
 · exact(List.any_eq_true.mp h).elim λe z=>(List.mem_iff_getElem?.mp z.1).elim λj hj=>by
    have lt:=hl▸(List.getElem?_eq_some_iff.mp hj).1
    have z2:=z.2
    exact List.any_eq_true.mpr ⟨its[j],List.getElem_mem lt,@decide_eq_true _ (Classical.propDecidable _) ⟨j,List.getElem?_eq_getElem lt,z2▸hj⟩⟩
theorem IS(o:Ok c X A env fr μ σ s){A':Around}{x:V}(hv:yc σ.H x l=some r)(rx:ad c X μ s.heap x xv)(hl:ay (ad c X μ s.heap) l its)(hu:A'.units+60<9900):
 ∃f:Value->Bool,(∀y∈its,EqAt A' s y xv (f y))/\its.any f=r:=
 (VO l hv).elim λes z=>z.2.symm▸mark (λj y e h1 h2=>(hl.get' j y h1).elim λv w=>(z.1.get j v w.1).elim λe' w'=>
  (x5 o iW v x e y xv A' (bB w'.1 h2▸w'.2) w.2 rx (lu hu)).1) (z.1.length.trans hl.length.symm)
theorem PJ{K:Type}[DecidableEq K](k:K)(v:Value)(l:List (K×Value))(x:K):valueAt ((k,v)::l) x=if k=x then some v else valueAt l x:=by
 unfold valueAt
 by_cases h:k=x
 · simp[h]
 · simp[List.find?_cons,h]
theorem Le(h:a≠k):seq a k=false:=Bool.eq_false_iff.mpr λq=>h (fk.mp q)
abbrev lB(c:Cx)(X:Addr->Prop)(μ:Mu)(h:Heap):List Nat×V->Str×Value->Prop:=λa b=>b.1=aW a.1/\ad c X μ h a.2 b.2
theorem qU{h:Heap}{bF:List (List Nat×V)}{l:List (Str×Value)}(z:ay (lB c X μ h) bF l)(k:List Nat):
 (∀v,jB bF k=some v->∃y,valueAt l (aW k)=some y/\ad c X μ h v y)/\(jB bF k=none->valueAt l (aW k)=none):=by
 induction z with
 |nil=>exact⟨λv e=>ns e,λ_=>rfl⟩
 | @cons a b r q e z ih=>
  have es:jB (a::r) k=aa (seq a.1 k) (some a.2) (jB r k):=rfl
  have ev:valueAt (b::q) (aW k)=if b.1=aW k then some b.2 else valueAt q (aW k):=PJ b.1 b.2 q _
  rw[es,ev]
  by_cases h:a.1=k
  · rw[fk.mpr h,aG (e.1.trans (aq aW h))]
    exact⟨λv w=>⟨_,rfl,af w▸e.2⟩,λw=>sn w⟩
  · rw[Le h,ax λw=>h (ku (e.1.symm.trans w))]
    exact ih
theorem aJ.un(e:aJ c n A env fr):A.units+400<=9000:=eX (Nat.add_le_add_right (gJ _ _) _) e.units
end
theorem jr(a:List Nat):(aW a).length=a.length:=List.size_toArray
theorem Bb(a b:List Nat):aW a++aW b=aW (a++b):=by
 show Str.append (aW a) (aW b)=_
 simp[aW,Str.append]
section
variable{c:Cx}{X:Addr->Prop}{A:Around}{env:Env}{fr:Fr}{μ av:Mu}{σ ba:Sg}{s s':Shared}{E:Value->Shared->Prop}{n:Nat}
theorem im(t:Tok):aK A env μ μ s {s with toks:=t}:=aK.refl.tok t
theorem k7{Q:Value->Shared->Prop}(o:Ok c X A env fr μ σ s)(h:ac c X A env fr (DV c X) μ s (bl b σ) Q E):Q (.bool b) s:=ac.ok h .refl o rfl
theorem HX{Q:Value->Shared->Prop}(o:Ok c X A env fr μ σ s)(h:ac c X A env fr (DV c X) μ s (bl b σ) Q E)(t:Tok):Q (.bool b) {s with toks:=t}:=ac.ok h (im t) (o.tok t) rfl
theorem Pc(o:Ok c X A env fr μ σ s)(hu:A'.units+50<9900)(z:ay (lB c X μ s.heap) ys lb)
 (w:ay (lB c X μ s.heap) xs la):∀{r:Bool},CC (eI σ.H iW) ys xs=some r->KeqHits A' s lb la r:=by
 induction w with
 |nil=>exact λh=>af h▸.nil
 | @cons a b r q e _ ih=>
  have eb:(aW a.1,b.2)=b:=Prod.ext e.1.symm rfl
  intro r h
  rw[← eb]
  exact oe h (λu hs h=>LP h λp q h1 h2 e'=>((qU z a.1).1 u hs).elim λy' s=>e'▸.hit s.1 (x5 o iW a.2 u p b.2 y' A' h1 e.2 s.2 (lu hu)).1 (ih h2))
   λhs h=>on h λ_ _ h=>af h▸.miss ((qU z a.1).2 hs)
def NU(c:Cx)(A:Around)(E:Value->Shared->Prop)(s:Shared)(r:Bool)(x y:Value):Prop:=
 (∀Q:Value->Shared->Prop,Q (.bool r) s->wpAny c.M A (compareOp .Eq x y) Q E s)/\(∀Q:Value->Shared->Prop,Q (.bool (!r)) s->wpAny c.M A (compareOp .NotEq x y) Q E s)
theorem Tj(H:HT)(a b:V):qy H a b=aa (Option.rec false (λi=>qp i b) (ck a)) .none
 (a7 (iH H a) (λp=>a7 (iH H b) (λq=>aa (Nat.beq (len p.2) (len q.2)) (CC (eI H iW) q.2 p.2) (some false)) .none) (eI H iW a b)):=by
 unfold qy iH ol
 cases ck a<;>rfl
theorem zt(o:Ok c X A env fr μ σ s)(h:qy σ.H a b=some r)(ra:ad c X μ s.heap a x)(rb:ad c X μ s.heap b y)(hu:A.units+100<9900):NU c A E s r x y:=
 have h1:=cn ((Tj _ _ _).symm.trans h)
 have vu:A.in1.units+50<9900:=wN hu
 have hA:=jQ (gJ _ _) hu
 oa h1.2 (λp hp h=>on h λq hq h=>by
  refine mi o hp ra λl la _ _ d1 e1 z1 _=>?_
  refine mi o hq rb λm lb _ _ d2 e2 z2 _=>?_
  rw[bH,bH,← z1.length,← z2.length] at h
  have e3:(la.length==lb.length&&r)=r/\(la.length=lb.length->KeqHits A.in1 s lb la r):=by
   cases hl:Nat.beq la.length lb.length with
   |true=>exact⟨by rw[beq_iff_eq.mpr (bx.mp hl),Bool.true_and],λ_=>Pc o vu z2 z1 ((nu hl).symm.trans h)⟩
   |false=>exact⟨by rw[beq_eq_false_iff_ne.mpr (ee.mp hl),Bool.false_and];exact af ((lW hl).symm.trans h),λe=>aV e (ee.mp hl)⟩
  exact⟨λQ q=>keq_eq d1 d2 e1 e2 hA e3.2 (e3.1.symm▸q),λQ q=>keq_ne d1 d2 e1 e2 hA e3.2 (e3.1.symm▸q)⟩)
  λh=>
   have w:=(x5 o iW a b r x y A h ra rb (lu hu)).2 λi j e1 e2 e=>by
    have h1:=h1.1
    rw[e1,e2] at h1
    exact tf ((bx.mpr e).symm.trans h1)
   ⟨λQ q=>w.1 c.prog c.w E Q q,λQ q=>w.2 c.prog c.w E Q q⟩
@[elab_as_elim] theorem kJ {P:Value->Value->Prop} {Q:Value->Shared->Prop} (h:ac c X A env fr (DV c X) μ s (j0 a b f) Q E) (ra:ad c X μ s.heap a x) (rb:ad c X μ s.heap b y)
 (k:∀i j t u,ac c X A env fr (DV c X) μ s (f i j) Q E->P (.int i t) (.int j u)):P x y:=
 bk h λi hi h=>bk h λj hj h=>i8 (P:=λx=>P x y) hi ra λt=>i8 (P:=λy=>P _ y) hj rb λu=>k i j t u h
theorem aO(h:aa a b false=true):a=true/\b=true:=by cases a with|true=>exact⟨rfl,h⟩|false=>exact ft h
theorem x3(e:AM a=some r)(ra:ad c X μ h a x):plainIs x .none=true/\(x== .none)=r:=by
 have no:∀{y:Value},x=y->plainIs y .none=true->y≠.none->some false=some r->plainIs x .none=true/\(x== .none)=r:=λq p n e=>q▸⟨p,af e▸beq_eq_false_iff_ne.mpr n⟩
 cases a with
 |none=>have q:=ra;subst q;exact⟨rfl,(rfl:(Value.none==Value.none)=true).trans (af e)⟩
 |bool i=>exact no ra rfl (λz=>nomatch z) e
 |int i=>exact ra.elim λt q=>no q rfl (λz=>nomatch z) e
 |str i=>exact ra.elim λt q=>no q rfl (λz=>nomatch z) e
 |nil=>exact ra.ex.elim λt q=>q.elim λ_ q=>no q.1 rfl (λz=>nomatch z) e
 |cons p q=>exact ra.ex.elim λt q=>q.elim λ_ q=>no q.1 rfl (λz=>nomatch z) e
 |loc i=>exact ra.elim λt q=>no q.2 rfl (λz=>nomatch z) e
 |fn k=>exact no ra rfl (λz=>nomatch z) e
 |cls k=>exact no ra rfl (λz=>nomatch z) e
 |clo k cs=>exact ra.elim λt q=>no q.1 rfl (λz=>nomatch z) e
 |atom n=>exact((hZ (c:=c) (μ:=μ) (c.ρt n (aO (cs e).1).1 (aO (cs e).1).2)).mp ((we (c:=c) (μ:=μ) _).1 x ra)).elim λt q=>q.elim λ_ q=>no q.1 rfl (λz=>nomatch z) (cs e).2
 |_=>exact ns e
theorem oM(e:isNone a=true)(ra:ad c X μ h a x):x=.none:=(nQ e▸ra:ad c X μ h .none x)
theorem L8(o:Ok c X A env fr μ σ s)(hu:A.units+100<9900){Q:Value->Shared->Prop}(ra:ad c X μ s.heap a x)(rb:ad c X μ s.heap b y)(h:ac c X A env fr (DV c X) μ s (zI a b σ f) Q E)
 (k1:∀{l:Addr} {bg:Array Value} (e:Value->Bool),s.heap.IsList l bg->(∀y,y∈bg->EqAt A.in1 s y x (e y))->Q (.bool (f (bg.any e))) s->wpAny c.M A (compareOp op x (.ref l)) Q E s)
 (k2:∀{l:Addr} {bg:Array Value} (e:Value->Bool),s.heap.IsTuple l bg->(∀y,y∈bg->EqAt A.in1 s y x (e y))->Q (.bool (f (bg.any e))) s->wpAny c.M A (compareOp op x (.ref l)) Q E s)
 (k3:∀{d:Addr} {g:Str->Option Value} {k:List Nat} {t:Tok},x=.str (aW k) t->(d==sysModules)=false->s.heap.MapOf (strKind c.prog c.w) d g->Q (.bool (f (g (aW k)).isSome)) {s with toks:=s.toks+1}->wpAny c.M A (compareOp op x (.ref d)) Q E s):
 wpAny c.M A (compareOp op x y) Q E s:=
 fq h (λp hp h=>bk h λr hr h=>by
  refine fa o hp rb λl its _ _ hl hz _=>?_
  exact(IS o hr ra hz (wN hu)).elim λe z=>k1 e hl.isList (λy hy=>z.1 y (Array.mem_toList_iff.mpr hy)) (by rw[← Array.any_toList,z.2];exact k7 o h))
  λh=>fq h (λp hp h=>bk h λk hk h=>by
   refine mi o hp rb λd l _ _ d1 e1 z1 _=>?_
   obtain⟨t,ex⟩:∃t,x=.str (aW k) t:=(j5 hk▸ra:ad c X μ s.heap (.str k) x)
   refine k3 ex d1 e1.mapOf ?_
   have e:(valueAt l (aW k)).isSome=(jB p.2 k).isSome:=by
    cases hs:jB p.2 k with
    |none=>rw[(qU z1 k).2 hs];rfl
    |some v=>exact((qU z1 k).1 v hs).elim λy w=>by rw[w.1];rfl
   rw[e];exact HX o h _)
  λh=>bk h λxs hx h=>bk h λr hr h=>by
   refine jJ hx rb λl its hl _ hz=>?_
   exact(IS o hr ra hz (wN hu)).elim λe z=>k2 e hl (λy hy=>z.1 y (Array.mem_toList_iff.mpr hy)) (by rw[← Array.any_toList,z.2];exact k7 o h)
theorem QQ(o:Ok c X A env fr μ σ s)(hu:A.units+100<9900){Q:Value->Shared->Prop}(ra:ad c X μ s.heap a x)(rb:ad c X μ s.heap b y)(hj:H4 a b=some j)
 (h:ac c X A env fr (DV c X) μ s (.ok (.atom j) σ) Q E):wpAny c.M A (compareOp .Eq x y) Q E s:=by
 have hj:a7 (cu a) (λi=>aa (Nat.ble 6000 i) (aa (Nat.blt i 7000) (a7 (eM b) (λy=>aa (decide (y=0)) (some (Nat.add i 1000)) .none) .none) .none) .none) .none=some j:=hj
 cases hi:cu a with
 |none=>rw[hi] at hj;exact ns hj
 |some i=>
  rw[hi] at hj
  have q1:=cs (hj)
  have q2:=cs q1.2
  cases hb:eM b with
  |none=>rw[hb] at q2;exact ns q2.2
  |some z=>
   rw[hb] at q2
   have q3:=cs (q2.2)
   have hz:=of_decide_eq_true q3.1
   have hjj:=af q3.2
   obtain⟨d,h1,h2⟩:=c.ρz i q1.1 q2.1
   rw[qF hi] at ra
   rw[qm hb,hz] at rb
   have ra':ad c X μ s.heap (.int d) x:=by
    have ra:(PV X s.heap (c.ρ i)).1 x:=ra
    rw[h1] at ra;exact ra
   have hr:qy σ.H (.int d) (.int 0)=some (decide (d=0)):=rfl
   refine(zt o hr ra' rb hu).1 Q (ac.ok h (y:=.bool (decide (d=0))) .refl o ?_)
   show(PV X s.heap (c.ρ j)).1 (.bool (decide (d=0)))
   rw[← hjj,h2];rfl
theorem J4(o:Ok c X A env fr μ σ s)(hu:A.units+100<9900){Q:Value->Shared->Prop}(ra:ad c X μ s.heap a x)(rb:ad c X μ s.heap b y)
 (h:ac c X A env fr (DV c X) μ s (LX op a b σ) Q E):wpAny c.M A (compareOp (Hy op) x y) Q E s:=by
 cases op with
 |eq=>exact fq h (λj hj h=>QQ o hu ra rb hj h) λh=>bk h λr hr h=>(zt o hr ra rb hu).1 Q (k7 o h)
 |ne=>exact bk h λr hr h=>(zt o hr ra rb hu).2 Q (k7 o h)
 |is=>exact bA h λhb h=>bk h λr hr h=>oM hb rb▸wpAny_is_plain (x3 hr ra).1 ((x3 hr ra).2.symm▸k7 o h)
 |isNot=>exact bA h λhb h=>bk h λr hr h=>oM hb rb▸wpAny_isNot_plain (x3 hr ra).1 ((x3 hr ra).2.symm▸k7 o h)
 |isin=>exact L8 (f:=id) o hu ra rb h (λe h1 h2 h3=>in_listAt e h1 h2 h3) (λe h1 h2 h3=>in_tupleAt e h1 h2 h3) λe h1 h2 h3=>e▸wpAny_in_of (strKind_is _ _ _ _) h1 h2 h3
 |notIn=>exact L8 (f:=not) o hu ra rb h (λe h1 h2 h3=>notIn_listAt e h1 h2 h3) (λe h1 h2 h3=>notIn_tupleAt e h1 h2 h3) λe h1 h2 h3=>e▸wpAny_notIn_of (strKind_is _ _ _ _) h1 h2 h3
 |lt=>exact kJ h ra rb λi j t u h=>P.lt_int (k7 o h)
 |gt=>exact kJ h ra rb λi j t u h=>P.gt_int (k7 o h)
 |ge=>exact kJ h ra rb λi j t u h=>P.ge_int (k7 o h)
 |le=>exact kJ h ra rb λi j t u h=>P.le_int (k7 o h)
end
end
section
open PySem PySem.W PyProof.Rows
section
variable{c:Cx}{X:Addr->Prop}{A:Around}{env:Env}{fr:Fr}{μ av:Mu}{σ ba:Sg}{s s':Shared}{E:Value->Shared->Prop}{n:Nat}{K:Frag}
theorem yj{α β:Type}{D:Mu->Heap->α->β->Prop}{r:R α}{Q:β->Shared->Prop}(h:ac c X A env fr D μ s (aa b r .stuck) Q E):b=true/\ac c X A env fr D μ s r Q E:=bA h And.intro
theorem dk(h:Heap):h.get? h.objs.size=none:=Heap.get?_none_of_le (Nat.le_refl _)
theorem mY(o:Ok c X A env fr μ σ s)(h:s.heap.get? a=none):¬X a:=λx=>(o.xlt a x).1.elim λob e=>cg e h
theorem Oj(o:Ok c X A env fr μ σ s)(k:aY (λ_=>False) s.heap h')(r:ay (ad c X μ s.heap) vs xs):ay (ad c X (μ++[p]) h') vs xs:=
 r.mono λ_ _ q=>q.mono (o.stays_of k λ_ _ _ f=>f.elim) (ce.app _ _)
theorem yl(o:Ok c X A env fr μ σ s){Q:Value->Shared->Prop}(z:ay (ad c X μ s.heap) vs its.toList)(h:ac c X A env fr (DV c X) μ s (.ok (x9 vs) σ) Q E)(k:aY (λ_=>False) s.heap s'.heap)
 (ha:s.heap.get? a=none)(hb:s'.heap.get? a=some {cls:=.type "tuple",data:=.seq its})(hg:s'.gens=s.gens)(ho:s'.os=s.os):Q (.ref a) s':=
 have nx:=aK.add k hg ho
 h.ok nx (o.add k) ((hZ (up vs)).mpr ⟨_,its,rfl,⟨_,hb,rfl,_,rfl⟩,⟨mY o ha,_,hb,rfl⟩,by rw[rW];exact z.nxt o nx⟩)
theorem vU(o:Ok c X A env fr μ σ s){Q:Value->Shared->Prop}(z:ay (ad c X μ s.heap) vs its.toList)(h:ac c X A env fr (DV c X) μ s (Cd (.list vs) σ) Q E)(hf:its.size<=4000)(k:aY (λ_=>False) s.heap s'.heap)
 (ha:s.heap.get? a=none)(hb:s'.heap.get? a=some {cls:=.type "list",data:=.seq its m})(hg:s'.gens=s.gens)(ho:s'.os=s.os):Q (.ref a) s':=
 h.ok (aK.new1 (p:=(a,a)) k ha ha hg ho) (o.new1 k ha ha ⟨rfl,its,⟨m,hb⟩,Oj o k z,hf⟩) ⟨(a,a),o.last _,rfl⟩
theorem xm(z:ay (ad c X μ h) vs xs)(hf:gi vs=true):xs.length<=4000:=z.length▸gk.mp hf
theorem ZS(o:Ok c X A env fr μ σ s){Q:Value->Shared->Prop}(r:ay (ad c X μ s.heap) vs xs)(h:ac c X A env fr (DV c X) μ s (nH vs σ) Q E):wpAny c.M A (newTuple xs) Q E s:=
 bA h λhf h=>wpAny_newTuple (yl o (its:=xs.toArray) (by rw[List.toList_toArray];exact r) h (aY.push _ _ _) (dk _) (d7 _ rfl) rfl rfl) (gn (xm r hf))
theorem YM(o:Ok c X A env fr μ σ s){Q:Value->Shared->Prop}(r:ay (ad c X μ s.heap) vs xs)(h:ac c X A env fr (DV c X) μ s (mo vs σ) Q E):wpAny c.M A (newList xs) Q E s:=
 bA h λhf h=>wpAny_newList (vU o (its:=xs.toArray) (by rw[List.toList_toArray];exact r) h (List.size_toArray▸xm r hf) (aY.push _ _ _) (dk _) (d7 _ rfl) rfl rfl) (gn (xm r hf))
theorem wg{Q:Value->Shared->Prop}{G:Prop}(h:ac c X A env fr (DV c X) μ s (pI l σ) Q E)(k:l.length<=4000->ac c X A env fr (DV c X) μ s (.ok (.str l) σ) Q E->G):G:=bA h λhf h=>k (gk.mp hf) h
theorem Ff(h:oQ y=true):Builtin.Int.intBits y<=64/\y.natAbs.log2<=60:=by
 have h':=dO h
 have k:y.natAbs.log2<=60:=by
  by_cases e:y.natAbs=0
  · rw[e];decide
  · exact Nat.le_of_lt ((Nat.log2_lt e (k:=60)).mpr (jQ h' (by decide)))
 refine⟨?_,k⟩
 unfold Builtin.Int.intBits
 split
 · exact Nat.zero_le _
 · exact eX (Nat.succ_le_succ k) (by decide)
theorem nD(o:Ok c X A env fr μ σ s){Q:Value->Shared->Prop}(h:ac c X A env fr (DV c X) μ s (.ok (.int i) σ) Q E):Q (.int i s.toks) {s with toks:=s.toks+1}:=h.ok (im _) (o.tok _) ⟨_,rfl⟩
theorem Yq(o:Ok c X A env fr μ σ s){xs ys:List V}{Q:Value->Shared->Prop}(ha:cG a=some xs)(hb:cG b=some ys)(ra:ad c X μ s.heap a x)(rb:ad c X μ s.heap b y)(h:ac c X A env fr (DV c X) μ s (nH (app xs ys) σ) Q E):
 wpAny c.M A (binaryOp .Add x y) Q E s:=by
 obtain⟨hf,h⟩:=yj h
 refine jJ ha ra λl its hi hx hz=>?_
 refine jJ hb rb λm gG MD C0 nU=>?_
 have hl:=gk.mp hf
 rw[cq,List.length_append,← cB hz,← cB nU] at hl
 obtain⟨⟨cls,dd,data,sl⟩,ho,hc,n1,hd⟩:=id hi
 obtain⟨⟨abS,C1,data2,C2⟩,mr,ME,n2,hd2⟩:=id MD
 simp only at hc hd ME hd2
 subst hc hd ME hd2
 have e1:its.isEmpty=true->its.toList=[]:=λe=>by rw[Array.isEmpty_iff.mp e]
 have e2:gG.isEmpty=true->gG.toList=[]:=λe=>by rw[Array.isEmpty_iff.mp e]
 have z3:=cq xs ys▸hz.append nU
 by_cases w1:its.isEmpty=true
 · refine concat_meets ⟨_,ho,rfl⟩ ⟨_,mr,rfl⟩ noFill_tuple_add seq_tuple_add PySem.F.slot_tuple_add PySem.F.entry_tuple_add (PySem.F.args_tuple_add_2 _ _) (tuple_addW0 l m its gG n1 n2 dd C1 sl C2 w1) ⟨ho,mr,?_⟩
   exact h.ok .refl o ((hZ (up _)).mpr ⟨m,gG,rfl,MD,C0,by rw[e1 w1] at z3;rw[rW];exact z3⟩)
 · by_cases w2:gG.isEmpty=true
   · refine concat_meets ⟨_,ho,rfl⟩ ⟨_,mr,rfl⟩ noFill_tuple_add seq_tuple_add PySem.F.slot_tuple_add PySem.F.entry_tuple_add (PySem.F.args_tuple_add_2 _ _) (tuple_addW1 l m its gG n1 n2 dd C1 sl C2 w1 w2) ⟨ho,mr,?_⟩
     exact h.ok .refl o ((hZ (up _)).mpr ⟨l,its,rfl,hi,hx,by rw[e2 w2,List.append_nil] at z3;rw[rW];exact z3⟩)
   · exact concat_meets ⟨_,ho,rfl⟩ ⟨_,mr,rfl⟩ noFill_tuple_add seq_tuple_add PySem.F.slot_tuple_add PySem.F.entry_tuple_add (PySem.F.args_tuple_add_2 _ _) (tuple_addW2 l m its gG n1 n2 dd C1 sl C2 w1 w2 (gn hl)) ⟨ho,mr,yl o (by rw[Array.toList_append];exact z3) h (aY.push _ _ _) (dk _) (d7 _ rfl) rfl rfl⟩
theorem NY(o:Ok c X A env fr μ σ s){p q:Nat×List V}{Q:Value->Shared->Prop}(ha:dn σ.H a=some p)(hb:dn σ.H b=some q)(ra:ad c X μ s.heap a x)(rb:ad c X μ s.heap b y)(h:ac c X A env fr (DV c X) μ s (mo (app p.2 q.2) σ) Q E):
 wpAny c.M A (binaryOp .Add x y) Q E s:=by
 obtain⟨hf,h⟩:=yj h
 refine fa o ha ra λl its _ _ i1 hz _=>?_
 refine fa o hb rb λm gG _ _ i2 nU _=>?_
 have hl:=gk.mp hf
 rw[cq,List.length_append,← cB hz,← cB nU] at hl
 exact i1.elim λn1 ho=>i2.elim λn2 mr=>concat_meets ⟨_,ho,rfl⟩ ⟨_,mr,rfl⟩ noFill_list_add seq_list_add PySem.F.slot_list_add PySem.F.entry_list_add (PySem.F.args_list_add_2 _ _) (list_addW l m its gG n1 n2 none none #[] #[] (gn hl))
  ⟨ho,mr,vU o (by rw[cq,Array.toList_append];exact hz.append nU) h (Array.size_append▸hl) (aY.push _ _ _) (dk _) (d7 _ rfl) rfl rfl⟩
theorem VI(o:Ok c X A env fr μ σ s){Q:Value->Shared->Prop}(ra:ad c X μ s.heap a x)(rb:ad c X μ s.heap b y)
 (h:ac c X A env fr (DV c X) μ s (sM op a b σ) Q E):wpAny c.M A (binaryOp (Fw op) x y) Q E s:=by
 cases op with
 |add=>
  exact fq h (λi hi h=>bk h λj hj h=>i8 hi ra λt=>i8 hj rb λu=>P.add_int (nD o h)) λh=>
   fq h (λi hi h=>bk h λj hj h=>wg h λhl h=>fZ hi ra λt=>fZ hj rb λu=>
    PyProof.Rows.add_str (λt' k=>Bb i j▸cq i j▸h.ok (im _) (o.tok _) ⟨_,rfl⟩) (by rw[jr,jr,← List.length_append,← cq];exact gn hl)) λh=>
   fq h (λp hp h=>bk h λq hq h=>NY o hp hq ra rb h) λh=>bk h λxs hx h=>bk h λys hy h=>Yq o hx hy ra rb h
 |sub=>exact kJ h ra rb λi j t u h=>P.sub_int (nD o h)
 |mul=>exact kJ h ra rb λi j t u h=>bA h λhs h=>P.mul_int (nD o h) (.of_right (Ff hs).1)
 |fdiv=>
  exact kJ h ra rb λi j t u h=>bA h λhs h=>bA h λhp h=>have hp:=of_decide_eq_true hp
   floordiv_int (Int.ne_of_gt hp) ((Int.fdiv_eq_ediv_of_nonneg i (Int.le_of_lt hp)).symm▸nD o h) (.inl (PyProof.noPylong_of_log2 (jQ (Ff hs).2 (by decide))))
 |mod=>
  exact kJ h ra rb λi j t u h=>bA h λhp h=>have hp:=of_decide_eq_true hp
   mod_int' (Int.ne_of_gt hp) ((Int.fmod_eq_emod_of_nonneg i (Int.le_of_lt hp)).symm▸nD o h)
 |pow=>
  exact kJ h ra rb λi j t u h=>bA h λhs h=>bA h λhp h=>of_decide_eq_true hs▸of_decide_eq_true hp▸PySem.AutoIntOps.pow_4 (by decide) (by decide) (by decide) (by decide) (by decide+kernel) (nD o h)
end
section
variable{c:Cx}{X:Addr->Prop}{A:Around}{env:Env}{fr:Fr}{μ av:Mu}{σ ba:Sg}{s s':Shared}{E:Value->Shared->Prop}{n:Nat}{K:Frag}
theorem BX(h:n<=4000):(n:Int)<2^63:=Int.lt_of_le_of_lt (Int.ofNat_le.mpr h) (by decide)
theorem Cy{α β:Type}{P:α->β->Prop}{l:List α}{m:List β}(z:ay P l m):m.isEmpty=l.isEmpty:=by cases z<;>rfl
theorem xp(o:Ok c X A env fr μ σ s){v:V}{x:Value}{Q:Bool->Shared->Prop}(r:ad c X μ s.heap v x)(h:x4 σ.H v=some b)(q:∀t,Q b {s with toks:=t}):wpAny c.M A (truthy x) Q E s:=
 have q0:=q s.toks
 oa h (λw hw h=>(pC hw▸r:ad c X μ s.heap (.bool w) x)▸wpAny_truthy_bool (af h▸q0))
  λh=>oa h (λi hi h=>i8 hi r λt=>P.truthy_int (by rw[← af h] at q0;exact(by by_cases z:i=0<;>simp[z]:(i !=0)= !decide (i=0)).symm▸q0))
  λh=>oa h (λxs hx h=>jJ hx r λa its ht _ hz=>truthy_tuple ht (BX (cB hz▸gk.mp (cs h).1)) (by
   rw[← Array.isEmpty_toList,Cy hz,af (cs h).2];exact q _))
  λh=>oa h (λp hp h=>fa o hp r λa its _ _ hl hz hs=>wpAny_truthy_list hl.isList (BX hs) (by
   rw[← Array.isEmpty_toList,Cy hz,af h];exact q _))
  λh=>oa h (λp hp h=>mi o hp r λa l _ _ d1 e1 z1 hs=>wpAny_truthy_dict d1 e1 (BX hs) (by rw[Cy z1,af h];exact q _))
  λh=>oM (cs h).1 r▸truthy_none (af (cs h).2▸q0)
theorem x6(h:qL i n=some k):k<n/\((i=(k:Int))\/(i<0/\ -(n:Int)<=i/\i+n=(k:Int))):=by
 cases i with
 |ofNat j=>have w:=cs h;have e:=af w.2;have l:=cH w.1;exact⟨e▸l,.inl (aq Int.ofNat e)⟩
 |negSucc j=>
  have w:=cs h
  have e:=af w.2
  have l:=cH w.1
  exact⟨by omega,.inr ⟨Int.negSucc_lt_zero j,by omega,by omega⟩⟩
theorem S3(h:qL i n=some k):seqIndex? i n=some k:=by
 have w:=x6 h
 have key:∀j:Int,j=(k:Int)->(if (decide (0<=j)&&decide (j<(n:Int)))=true then some j.toNat else none)=some k:=λj e=>by
  have:(decide (0<=j)&&decide (j<(n:Int)))=true:=by rw[e,decide_eq_true (Int.natCast_nonneg k),decide_eq_true (Int.ofNat_lt.mpr w.1)];rfl
  rw[aG this,e];rfl
 have e:(if i<0 then i+(n:Int) else i)=(k:Int):=w.2.elim (λe=>(ax (e▸Int.not_lt.mpr (Int.natCast_nonneg k))).trans e) λe=>(aG e.1).trans e.2.2
 unfold seqIndex?
 dsimp only
 exact key _ e
theorem zg(h:qL i n=some k)(hn:n<=4000): -(2^63)<=i/\i<2^63:=by
 have w:=x6 h
 rcases w.2 with e|e<;>omega
theorem VY(o:Ok c X A env fr μ σ s){Q:Value->Shared->Prop}(ra:ad c X μ s.heap a x)(rb:ad c X μ s.heap b y)
 (hs:∀o i,subscripted slice false o i=operate [o,i] (getItem o i))(h:ac c X A env fr (DV c X) μ s (K3 a b σ) Q E):wpAny c.M A (subscriptTail value slice x y) Q E s:=
 have at':∀{xs:List V} {its:Array Value} {k:Nat} {v:V},ay (ad c X μ s.heap) xs its.toList->aj xs k=some v->∃z,its[k]?=some z/\ad c X μ s.heap v z:=λhz hv=>(hz.get _ _ (dj _ _▸hv)).imp λz q=>⟨Array.getElem?_toList▸q.1,q.2⟩
 fq h (λp hp h=>bk h λj hj h=>bk h λk hk h=>pQ h λv hv h=>by
  refine fa o hp ra λl its _ _ hl hz cL=>?_
  refine i8 hj rb λt=>?_
  rw[bH,← cB hz] at hk
  obtain⟨z,z1,z2⟩:=at' hz hv
  have bd:=zg hk cL
  refine tail_any hl.isList.typeIs slot_list_getitem.lookup ?_ (hs _ _)
  rcases (x6 hk).2 with e|e
  · exact wpAny_getItem_list hl.isList (e▸Int.natCast_nonneg k) bd.2 (by rw[e];exact z1) (h.ok .refl o z2)
  · exact wpAny_getItem_list_neg hl.isList e.1 e.2.1 bd.1 (by rw[e.2.2];exact z1) (h.ok .refl o z2))
  λh=>fq h (λp hp h=>bk h λk hk h=>pQ h λv hv h=>by
   refine mi o hp ra λd l _ _ d1 e1 z1 _=>?_
   refine fZ hk rb λt=>?_
   exact((qU z1 k).1 v hv).elim λy w=>tail_any e1.typeIs slot_dict_getitem.lookup (wpAny_getItem_of (strKind_is _ _ _ _) e1.mapOf w.1 (h.ok (im _) (o.tok _) w.2)) (hs _ _))
  λh=>bk h λxs hx h=>bk h λj hj h=>bA h λhf h=>bk h λk hk h=>pQ h λv hv h=>by
   refine jJ hx ra λl its hi _ hz=>?_
   refine i8 hj rb λt=>?_
   rw[bH,← cB hz] at hk
   obtain⟨z,z1,z2⟩:=at' hz hv
   have bd:=zg hk (cB hz▸gk.mp hf)
   exact tail_any hi.typeIs slot_tuple_getitem.lookup (PyProof.Rows.getItem_tuple hi bd.1 bd.2 (S3 hk) z1 (h.ok .refl o z2)) (hs _ _)
theorem uW{h:Heap}(x:h.Ns a m)(nm:Str):∃od,h.get? a=some od/\lookIn nm od=some (m nm):=by
 obtain⟨od,es,ep,ho,hd,hk,hm⟩:=x
 refine⟨od,ho,?_⟩
 unfold lookIn
 rw[hd]
 dsimp only
 rw[← hm nm]
 unfold nsFind findBy
 rw[← Array.find?_toList]
 cases hf:es.toList.find? (·.key.isStr nm) with
 |some e=>rfl
 |none=>
  have:es.toList.any (·.refKey)=false:=by
   rw[List.any_eq_false]
   intro e he
   obtain⟨n,t,q⟩:=hk e (by simpa using he)
   simp[DictEntry.refKey,q]
  rw[this];rfl
theorem QY(r:(PV X h v).1 y):handedIn y=true:=by
 cases v with
 |none=>exact(r)▸rfl
 |bool=>exact(r)▸rfl
 |int=>exact r.elim λ_ e=>e▸rfl
 |str=>exact r.elim λ_ e=>e▸rfl
 |nil=>exact r.ex.elim λ_ e=>e.elim λ_ e=>e.1▸rfl
 |cons=>exact r.ex.elim λ_ e=>e.elim λ_ e=>e.1▸rfl
 |_=>exact r.elim
theorem rj(hb:∀k,14<=k->handedIn (c.biV k)=true)(r:ad c X μ h v y)(nb:ir v=true):handedIn y=true:=by
 cases v with
 |loc=>exact r.elim λ_ e=>e.2▸rfl
 |fn=>exact(r)▸rfl
 |cls=>exact(r)▸rfl
 |bi k=>exact(r)▸hb k (dO nb)
 |clo=>exact r.elim λ_ e=>e.1▸rfl
 |atom k=>exact QY (v:=c.ρ k) r
 |none=>exact(r)▸rfl
 |bool=>exact(r)▸rfl
 |int=>exact r.elim λ_ e=>e▸rfl
 |str=>exact r.elim λ_ e=>e▸rfl
 |nil=>exact r.ex.elim λ_ e=>e.elim λ_ e=>e.1▸rfl
 |cons=>exact r.ex.elim λ_ e=>e.elim λ_ e=>e.1▸rfl
theorem Ok.kin(G:bq c K)(o:Ok c X A env fr μ σ s):K.In s.heap:=G.kin.keeps λb ob e=>o.stays b ob e
theorem CB{p:Addr×Addr}(e:h.get? p.1=some (instObj (c.clA k) p.2))(f:h.get? p.2=some od):InstAt h p.1 (instObj (c.clA k) p.2) (c.clA k) (some od):=⟨e,rfl,rfl,f⟩
theorem Lh(h:yo o=some p):o=.inst p.1 p.2:=by cases o<;>first|exact ns h|exact af h▸rfl
@[elab_as_elim] theorem Be {P:Value->Prop} (o:Ok c X A env fr μ σ s) (hv:oC σ.H v=some p) (r:ad c X μ s.heap v x)
 (k:∀q m,gH σ.H p.1=some (.inst p.2.1 p.2.2)->aj μ p.1=some q->s.heap.get? q.1=some (instObj (c.clA p.2.1) q.2)->s.heap.Ns1 q.2 m->
  (∀x v,au p.2.2 x=some v->∃y,m (c.nm x)=some y/\ad c X μ s.heap v y)->(∀n y,m n=some y->∃x v,au p.2.2 x=some v/\n=c.nm x)->P (.ref q.1)):P x:=
 A0 o hv r λob q h1 h2 h3 ro=>by
  have e:=Lh h2;subst e
  exact ro.2.elim λm z=>k q m h1 h3 ro.1 z.1 z.2.1 z.2.2
theorem Pp(G:bq c K)(o:Ok c X A env fr μ σ s){a:V}{x:Value}{Q:Value->Shared->Prop}(ra:ad c X μ s.heap a x)
 (h:ac c X A env fr (DV c X) μ s (Mw c.T a at_ σ) Q E):wpAny c.M A (getAttr x (c.nm at_) expr) Q E s:=
 bk h λp hp h=>bk h λcl hc h=>bA h λhb h=>bk h λv hv h=>bA h λnb h=>by
  refine Be o hp ra λq m _ _ hx ns z1 _=>?_
  have g:=G.attr p.2.1 cl at_ hc hb
  exact(z1 at_ v hv).elim λy w=>(uW ns.ns (c.nm at_)).elim λod d=>g.2.2.1.elim λat1 g3=>
   get_value (o.kin G) (CB hx d.1) (plainGet_of g.1).1 (findObj_own g.2.1 g3.1 g3.2 (d.2.trans (aq some w.1))) (rj G.opq w.2 nb) (h.ok (im _) (o.tok _) w.2)
end
theorem AF(nm:Nat->Str)(e:Mine.E)(r:List Expr)(env:Env):starEach (an nm e::r) env=(false,eval (an nm e) env)::starEach r env:=by cases e<;>rfl
theorem Go(pos:Pos)(t:Sem Value)(r:List (Bool×Sem Value)):backTo pos ((false,t)::r)=(false,t)::backTo pos r:=rfl
section
variable{c:Cx}{X:Addr->Prop}{A:Around}{env:Env}{fr:Fr}{μ av:Mu}{σ ba:Sg}{s s':Shared}{E:Value->Shared->Prop}{n:Nat}{K:Frag}{ih:Ev}
theorem xA(S:SE c n ih.eE)(eo:aJ c n A env fr):∀(es:List Mine.E) {μ:Mu} {σ:Sg} {s:Shared} {Q:List Value->Shared->Prop},Ok c X A env fr μ σ s->ac c X A env fr (DL c X) μ s (jE ih fr es σ) Q E->
 wpAny c.M A (spliced (backTo pos (starEach (bC c.nm es) env))) Q E s
 |[],μ,σ,s,Q,o,h=>by
  exact Calls.spliced_nil (h.ok .refl o .nil)
 |e::r,μ,σ,s,Q,o,h=>by
  show wpAny c.M A (spliced (backTo pos (starEach (an c.nm e::bC c.nm r) env))) Q E s
  rw[AF,Go]
  refine Calls.spliced_cons (S X A env fr μ σ s e _ E eo o (ac.bind (D':=DV c X) h λv aM ao y s₁ n₁ aC bj h₁=>?_))
  exact xA S eo r aC (ac.bind (D':=DL c X) h₁ λvs σ₂ a9 ys aB bG bc dE bh=>bh.ok .refl bc (.cons (bj.nxt aC bG) dE))
theorem Uc(S:SE c n ih.eE)(eo:aJ c n A env fr)(o:Ok c X A env fr μ σ s){Q:Value->Shared->Prop}(h:ac c X A env fr (DV c X) μ s (H9 ih es fr σ) Q E):
 wpAny c.M A (eval (an c.nm (.tup es p)) env) Q E s:=by
 show wpAny c.M A (eval (.Tuple (bC c.nm es) 0 (aE p)) env) Q E s
 rw[arm_eval_Tuple]
 refine ah (gf (ah (xA S eo es o (ac.bind (D':=DL c X) h λvs aM ao ys s₁ n₁ aC bj h₁=>ZS aC bj h₁))))
theorem RX(S:SE c n ih.eE)(eo:aJ c n A env fr)(o:Ok c X A env fr μ σ s){Q:Value->Shared->Prop}(h:ac c X A env fr (DV c X) μ s (KK ih es fr σ) Q E):
 wpAny c.M A (eval (an c.nm (.lst es p)) env) Q E s:=by
 show wpAny c.M A (eval (.List (bC c.nm es) (aE p)) env) Q E s
 rw[arm_eval_List]
 refine ah (gf (ah (xA S eo es o (ac.bind (D':=DL c X) h λvs aM ao ys s₁ n₁ aC bj h₁=>YM aC bj h₁))))
theorem TC(S:SE c n ih.eE)(eo:aJ c n A env fr)(o:Ok c X A env fr μ σ s){Q:Value->Shared->Prop}(h:ac c X A env fr (DV c X) μ s (Jv ih op l r fr σ) Q E):
 wpAny c.M A (eval (an c.nm (.bin op l r p)) env) Q E s:=
 wpAny_BinOp (S X A env fr μ σ s l _ E eo o (ac.bind (D':=DV c X) h λv aM ao y s₁ n₁ aC bj h₁=>
  S X A env fr ao aM s₁ r _ E eo aC (ac.bind (D':=DV c X) h₁ λw σ₂ a9 z aB bG bc dE bh=>VI bc (bj.nxt aC bG) dE bh)))
theorem CK(eo:aJ c n A env fr):A.units+100<9900:=jQ (eX (Nat.add_le_add_left (by decide:100<=400) _) eo.un) (by decide)
theorem xn(nm:Nat->Str)(op:CmpOp)(e:Mine.E):behindInMarks op (an nm e)=false:=by cases e<;>rfl
theorem Q1(S:SE c n ih.eE)(eo:aJ c n A env fr)(o:Ok c X A env fr μ σ s){Q:Value->Shared->Prop}(h:ac c X A env fr (DV c X) μ s (Fk ih op l r fr σ) Q E):
 wpAny c.M A (eval (an c.nm (.cmp op l r p)) env) Q E s:=
 wpAny_Compare1 (S X A env fr μ σ s l _ E eo o (ac.bind (D':=DV c X) h λv aM ao y s₁ n₁ aC bj h₁=>
  S X A env fr ao aM s₁ r _ E eo aC (ac.bind (D':=DV c X) h₁ λw σ₂ a9 z aB bG bc dE bh=>J4 bc (CK eo) (bj.nxt aC bG) dE bh))) (xn ..)
theorem Jq(G:bq c K)(ob:Mine.E)(a:Nat)(env:Env)(whole:Sem Value):attributeBase (an c.nm ob) (c.nm a) env whole=whole:=by
 unfold attributeBase
 cases ob with
 |call f es q=>
  cases f with
  |name x q'=>
   cases es with
   |nil=>exact aG (by have:=G.nosuper x;simp only[bne,this];rfl)
   |cons _ _=>rfl
  |_=>rfl
 |_=>rfl
theorem PF(G:bq c K)(S:SE c n ih.eE)(eo:aJ c n A env fr)(o:Ok c X A env fr μ σ s){Q:Value->Shared->Prop}(h:ac c X A env fr (DV c X) μ s (LC c.T ih ob a fr σ) Q E):
 wpAny c.M A (eval (an c.nm (.attr ob a p)) env) Q E s:=by
 show wpAny c.M A (eval (.Attribute (an c.nm ob) (c.nm a) (aE p)) env) Q E s
 rw[arm_eval_Attribute,Jq G]
 refine ah (S X A env fr μ σ s ob _ E eo o (ac.bind (D':=DV c X) h λv aM ao y s₁ n₁ aC bj h₁=>?_))
 refine ah (gf (ah (d9 (Pp G aC bj (h₁.imp λy aB q=>?_)))))
 exact ah (wpAny_letTemporaryGo (aS q))
theorem KG(nm:Nat->Str)(e:Mine.E)(o i:Value):subscripted (an nm e) false o i=operate [o,i] (getItem o i):=by cases e<;>rfl
theorem O5(S:SE c n ih.eE)(eo:aJ c n A env fr)(o:Ok c X A env fr μ σ s){Q:Value->Shared->Prop}(h:ac c X A env fr (DV c X) μ s (Ex ih ob i fr σ) Q E):
 wpAny c.M A (eval (an c.nm (.sub ob i p)) env) Q E s:=
 PyProof.Rows.Subscript_ (S X A env fr μ σ s ob _ E eo o (ac.bind (D':=DV c X) h λv aM ao y s₁ n₁ aC bj h₁=>
  S X A env fr ao aM s₁ i _ E eo aC (ac.bind (D':=DV c X) h₁ λw σ₂ a9 z aB bG bc dE bh=>VY bc (bj.nxt aC bG) dE (KG c.nm i) bh)))
theorem PL(S:SE c n ih.eE)(eo:aJ c n A env fr)(o:Ok c X A env fr μ σ s){Q:Value->Shared->Prop}(h:ac c X A env fr (DV c X) μ s (D5 ih x fr σ) Q E):
 wpAny c.M A (eval (an c.nm (.not x p)) env) Q E s:=by
 show wpAny c.M A (eval (.UnaryOp .Not (an c.nm x) (aE p)) env) Q E s
 rw[arm_eval_UnaryOp]
 refine ah (S X A env fr μ σ s x _ E eo o (ac.bind (D':=DV c X) h λv aM ao y s₁ n₁ aC bj h₁=>?_))
 refine ah (gf (d9 ?_))
 unfold unaryOp
 exact bk h₁ λb hb h₁=>d9 (ah (xp aC bj hb λt=>aS (HX aC h₁ t)))
theorem Rn(S:SE c n ih.eE)(T:ST c n ih.eT)(eo:aJ c n A env fr)(o:Ok c X A env fr μ σ s){Q:Value->Shared->Prop}(h:ac c X A env fr (DV c X) μ s (Mx ih t b e fr σ) Q E):
 wpAny c.M A (eval (an c.nm (.ife t b e p)) env) Q E s:=by
 show wpAny c.M A (eval (.IfExp (an c.nm t) (an c.nm b) (an c.nm e) (aE p)) env) Q E s
 rw[arm_eval_IfExp]
 refine ah (T X A env fr μ σ s t _ E eo o (ac.bind (D':=DB) h λv aM ao y s₁ n₁ aC bj h₁=>?_))
 have e:=bj
 subst e
 cases v with
 |true=>exact S X A env fr ao aM s₁ b _ E eo aC h₁
 |false=>exact S X A env fr ao aM s₁ _ _ E eo aC h₁
theorem V0:boolOp pos (if a=true then BoolOp.And else BoolOp.Or) (evalEach (bC nm (e::e'::r)) env)=(do
 let v ← eval (an nm e) env
 standAt pos
 let t ← holding [v] (truthy v)
 aa (oW t a) (boolOp pos (if a=true then BoolOp.And else BoolOp.Or) (evalEach (bC nm (e'::r)) env)) (pure v)):=by
 show(do
  let v ← eval (an nm e) env
  standAt pos
  let t ← holding [v] (truthy v)
  match (if a=true then BoolOp.And else BoolOp.Or),t with
  |.And,false|.Or,true=>pure v
  |_,_=>boolOp pos (if a=true then BoolOp.And else BoolOp.Or) (evalEach (bC nm (e'::r)) env))=_
 refine aq _ (funext λv=>aq _ (funext λ_=>aq _ (funext λt=>?_)))
 cases a<;>cases t<;>rfl
theorem Sq(S:SE c n ih.eE)(eo:aJ c n A env fr)(es:List Mine.E):∀{μ:Mu} {σ:Sg} {s:Shared} {Q:Value->Shared->Prop},Ok c X A env fr μ σ s->ac c X A env fr (DV c X) μ s (Ay ih fr a es σ) Q E->
 wpAny c.M A (boolOp pos (if a then .And else .Or) (evalEach (bC c.nm es) env)) Q E s:=by
 induction es with
 |nil=>exact λ_ h=>h.elim
 |cons e r bP=>
  intro μ σ s Q o h
  cases r with
  |nil=>exact S X A env fr μ σ s e _ E eo o h
  |cons e' r=>
   rw[V0]
   refine ah (S X A env fr μ σ s e _ E eo o (ac.bind (D':=DV c X) h λv aM ao y s₁ n₁ aC bj h₁=>ah (gf (ah (d9 (bk h₁ λb ht h₁=>xp aC bj ht λt=>?_))))))
   exact gK h₁ (λe h₁=>(nu e).symm▸bP (aC.tok t) (h₁.shift (im t))) λe h₁=>(lW e).symm▸aS (h₁.ok (im t) (aC.tok t) bj)
theorem Ri(S:SE c n ih.eE)(eo:aJ c n A env fr)(o:Ok c X A env fr μ σ s){Q:Value->Shared->Prop}(h:ac c X A env fr (DV c X) μ s (Ay ih fr a es σ) Q E):
 wpAny c.M A (eval (an c.nm (.bop a es p)) env) Q E s:=by
 show wpAny c.M A (eval (.BoolOp (if a then .And else .Or) (bC c.nm es) (aE p)) env) Q E s
 rw[arm_eval_BoolOp]
 exact Sq S eo es o h
theorem Su:allTrue (if a then .And else .Or) (bC nm (e::r)) env=(do
 let b ← isTrue (an nm e) env (eval (an nm e) env)
 aa (oW b a) (allTrue (if a then .And else .Or) (bC nm r) env) (pure b)):=by
 show(do
  match (if a=true then BoolOp.And else BoolOp.Or),← isTrue (an nm e) env (eval (an nm e) env) with
  |.And,false=>pure false
  |.Or,true=>pure true
  |_,_=>allTrue (if a then .And else .Or) (bC nm r) env)=_
 refine aq _ (funext λt=>?_)
 cases a<;>cases t<;>rfl
theorem VW(T:ST c n ih.eT)(eo:aJ c n A env fr)(es:List Mine.E):∀{μ:Mu} {σ:Sg} {s:Shared} {Q:Bool->Shared->Prop},Ok c X A env fr μ σ s->ac c X A env fr DB μ s (EY ih fr a es σ) Q E->
 wpAny c.M A (allTrue (if a then .And else .Or) (bC c.nm es) env) Q E s:=by
 induction es with
 |nil=>exact λo h=>(by cases a<;>rfl:(pure a:Sem Bool)=allTrue (if a then .And else .Or) (bC c.nm []) env)▸aS (ac.ok h .refl o rfl)
 |cons e r bP=>
  intro μ σ s Q o h
  rw[Su]
  refine ah (T X A env fr μ σ s e _ E eo o (ac.bind (D':=DB) h λv aM ao y s₁ n₁ aC bj h₁=>?_))
  subst bj
  exact gK h₁ (λe h₁=>(nu e).symm▸bP aC h₁) λe h₁=>(lW e).symm▸aS (h₁.ok .refl aC rfl)
theorem Ly{Q:Bool->Shared->Prop}(hm:behindInMarks op r=false)
 (h:wpAny M A (eval (.Compare l [op] [r] pos) env) (λv s₁=>wpAny M A (truthy v) Q E s₁) E s):wpAny M A (isTrue (.Compare l [op] [r] pos) env whole) Q E s:=λΓ p MF=>by
 have h1:=h Γ p MF
 simp only[eval_Compare1,isTrue_Compare1,markedBehindIn_of_false hm,Sem.wp_bind',Sem.wp_holding,Sem.wp_cmd_standAt,Sem.wp_operate] at h1 ⊢
 exact Sem.wp_mono M Γ _ (λa abT s₁ h₁=>Sem.wp_mono M Γ _ (λb _ aB bh=>Sem.wp_mono M Γ _ (λc aag dy cE=>cE Γ aag MF) (λ_ _ _ h'=>h') _ _ bh)
  (λ_ _ _ h'=>h') _ _ h₁) (λ_ _ _ h'=>h') _ _ h1
def RE(e:Mine.E):Bool:=match e with|.not .. =>true|.bop .. =>true|.ife .. =>true|_=>false
theorem Zt(S:SE c n ih.eE)(eo:aJ c n A env fr)(o:Ok c X A env fr μ σ s){Q:Bool->Shared->Prop}
 (he:RE e=false)(h:ac c X A env fr DB μ s (fL ih e fr σ) Q E):wpAny c.M A (isTrue (an c.nm e) env (eval (an c.nm e) env)) Q E s:=by
 have h0:wpAny c.M A (eval (an c.nm e) env) (λv s₁=>wpAny c.M A (truthy v) Q E s₁) E s:=
  S X A env fr μ σ s e _ E eo o (ac.bind (D':=DV c X) h λv aM ao y s₁ n₁ aC bj h₁=>pQ h₁ λb hb h₁=>xp aC bj hb λt=>h₁.ok (im t) (aC.tok t) rfl)
 cases e with
 |not|bop|ife=>exact tf he
 |cmp op l r p=>exact Ly (xn ..) h0
 |_=>exact wpAny_isTrue_value h0
theorem Ps(S:SE c n ih.eE)(T:ST c n ih.eT)(eo:aJ c n A env fr)(o:Ok c X A env fr μ σ s){Q:Bool->Shared->Prop}(h:ac c X A env fr DB μ s (Cj ih e fr σ) Q E):
 wpAny c.M A (isTrue (an c.nm e) env (eval (an c.nm e) env)) Q E s:=by
 cases e with
 |not x p=>
  have h:=h
  refine ah (T X A env fr μ σ s x _ E eo o (ac.bind (D':=DB) h λv aM ao y s₁ n₁ aC bj h₁=>?_))
  exact aS (h₁.ok .refl aC (aq not bj))
 |bop a es p=>exact VW T eo es o h
 |ife t b d p=>
  have h:=h
  refine ah (T X A env fr μ σ s t _ E eo o (ac.bind (D':=DB) h λv aM ao y s₁ n₁ aC bj h₁=>?_))
  have e:=bj
  subst e
  cases v with
  |true=>exact T X A env fr ao aM s₁ b _ E eo aC h₁
  |false=>exact T X A env fr ao aM s₁ d _ E eo aC h₁
 |_=>exact Zt S eo o rfl h
end
theorem I1{a:Addr}{P:Prop}(h:Value.ref a=.type t):P:=nomatch h
def ml(o:Obj):Prop:=∃vs,o.data=.fields vs/\(∀q t,vs[1]?≠some (.str q t))/\(o.cls=.type "traceback" \/∃a,o.cls=.ref a)
def nF(Fs:List Addr)(h':Heap)(b:Addr)(o:Obj):Prop:=h'.get? b=some o\/(b∈Fs/\∃sl,h'.get? b=some {o with slots:=sl})
theorem nF.some{Fs:List Addr}{h':Heap}{b:Addr}{o:Obj}(x:nF Fs h' b o):∃sl,h'.get? b=some {o with slots:=sl}:=x.elim (λq=>⟨o.slots,q⟩) λq=>q.2
theorem nF.not{Fs:List Addr}(x:nF Fs h' b o)(n:b∉Fs):h'.get? b=Option.some o:=x.elim id λq=>aV q.1 n
def fw(S:Addr->Prop)(Fs:List Addr)(h h':Heap):Prop:=fA h h'/\∀b o,h.get? b=some o->¬S b->nF Fs h' b o
theorem fw.trans{S:Addr->Prop}{Fs:List Addr}{h₁ bh cE:Heap}(a:fw S Fs h₁ bh)(b:fw S Fs bh cE):fw S Fs h₁ cE:=
 ⟨a.1.trans b.1,λx o e n=>(a.2 x o e n).elim (λq=>b.2 x o q n) λq=>q.2.elim λsl w=>(b.2 x _ w n).some.elim λCZ z=>.inr ⟨q.1,CZ,z⟩⟩
theorem fw.of_only{S:Addr->Prop}{Fs:List Addr}(a:aY S h h'):fw S Fs h h':=⟨a.1,λb o e n=>.inl (a.2 b o e n)⟩
theorem fw.mono{S T:Addr->Prop}{Fs:List Addr}(a:fw S Fs h h')(k:∀b,S b->T b):fw T Fs h h':=⟨a.1,λb o e n=>a.2 b o e λq=>n (k b q)⟩
theorem w8{h h':Heap}(x:h.Ns a m)(k:∀o,h.get? a=some o->∃sl,h'.get? a=some {o with slots:=sl}):h'.Ns a m:=
 x.elim λo x=>x.elim λes x=>x.elim λep x=>(k o x.1).elim λsl q=>⟨_,es,ep,q,x.2⟩
section
variable{c:Cx}{X:Addr->Prop}{A:Around}{env:Env}{fr:Fr}{μ av:Mu}{σ ba:Sg}{s s':Shared}{E:Value->Shared->Prop}{n:Nat}{K:Frag}{lo:Heap}
theorem Pg{S:Addr->Prop}(k:fw S (Fs A) h h')(hS:∀b o,S b->h.get? b=some o->ml o):i5 (λ_=>False) (Fs A) h h':=
 ⟨k.1,λb o e _ v=>k.2 b o e λq=>v ((hS b o q e).imp λvs z=>⟨z.1,z.2.1,z.2.2.elim .inl λz=>.inr (.inl z)⟩)⟩
def sk(o:Obj):Prop:=∃vs,o.data=.fields vs/\(∀q t,vs[1]?≠some (.str q t))/\((∃T,o.cls=.type T/\T≠ "code")\/∃a,o.cls=.ref a)
theorem ml.sid(x:ml o):sk o:=x.imp λ_ z=>⟨z.1,z.2.1,z.2.2.imp (λe=>⟨_,e,by decide⟩) id⟩
theorem LQ(x:sk o)(e:o.data=d)(k:∀vs,d≠.fields vs){P:Prop}:P:=x.elim λvs z=>aV (e.symm.trans z.1) (k vs)
def kD(X:Addr->Prop)(b:Addr)(o:Obj):Prop:=sk o\/(X b/\o.cls=.type "tuple" /\∃its n,o.data=.seq its n)
theorem CG{b:Addr}(x:kD X b o)(m:gx o):False:=
 x.elim (λx=>x.elim λvs z=>nK z.1 m) λx=>x.2.2.elim λits z=>z.elim λn d=>As x.2.1 d m
theorem AZ{b:Addr}(x:kD X b o)(h:o.data=.fields vs):sk o:=x.elim id λx=>x.2.2.elim λits z=>z.elim λn d=>nomatch h.symm.trans d
theorem Kc{b:Addr}(x:kD X b o)(h:o.data=.fields vs):∀q t,vs[1]?≠some (.str q t):=λq t e=>(AZ x h).elim λws z=>z.2.1 q t (Data.fields.inj (h.symm.trans z.1)▸e)
theorem JA{h h':Heap}(x:h.CodeRec cd q)(k:∀t o vs,h.get? t=some o->o.data=.fields vs->(∃q t,vs[1]?=some (.str q t))->∃sl,h'.get? t=some {o with slots:=sl}):h'.CodeRec cd q:=
 x.elim λt x=>x.elim λo x=>x.elim λvs x=>x.elim λtk x=>(k t o vs x.2.1 x.2.2.1 ⟨_,_,x.2.2.2⟩).elim λsl z=>⟨t,_,vs,tk,x.1,z,x.2.2⟩
theorem Ec{X' S:Addr->Prop}{Fs:List Addr}(k:∀b o,h.get? b=some o->¬S b->nF Fs h' b o)(hS:∀b o,S b->h.get? b=some o->kD X b o)(le:∀b,X' b->X b):de X X' h h' where
 tup:=λt its x hn=>x.elim λo x=>x.2.2.elim λn hd=>
  (k t o x.1 λq=>(hS t o q x.1).elim (λw=>LQ w hd λ_ e=>nomatch e) λw=>hn.1 w.1).some.elim λsl q=>⟨⟨_,q,x.2.1,n,hd⟩,λw=>hn.1 (le _ w),_,q,hn.2.elim λo' e=>(bB x.1 e.1).symm▸e.2⟩
 fn:=λt o fd ho hc hd=>(k t o ho λq=>(hS t o q ho).elim (λw=>LQ w hd λ_ e=>nomatch e) λw=>aV (hc.symm.trans w.2.1) (by decide)).some.elim λsl q=>⟨_,q,rfl,rfl⟩
 code:=λcd q x=>JA x λt o vs ho hd e=>(k t o ho λw=>e.elim λq e=>e.elim λtk e=>Kc (hS t o w ho) hd q tk e).some
theorem Ok.exc0(x:Ok c X A env fr μ σ s){X' S:Addr->Prop}(k:∀b o,s.heap.get? b=some o->¬S b->nF (Fs A) s'.heap b o)(hS:∀b o,S b->s.heap.get? b=some o->kD X b o)(hB:∀b,S b->c.base.get? b=none)
 (le:∀b,X' b->X b)(xl:∀b,X' b->∃o,s'.heap.get? b=some o):Ok c X' A env fr μ σ s':=
 have st:=Ec k hS le
 x.frs.elim λl y=>
 have rL:∀{b},b∈Fs A->b∈Mine.frs l:=λq=>(kL y.1).mp q
 have exact1:=λb o e m=>(k b o e λq=>CG (hS b o q e) m).not
 have MG:∀{i q},aj μ i=some q->∀b,b=q.1\/b=q.2->∀ob,s.heap.get? b=some ob->s'.heap.get? b=some ob:=λhq b w ob e=>
  have ow:=dR.mpr ⟨_,_,hq,w⟩
  exact1 b ob e (x.mut b ob e (.inl ow)) λr=>(y.2.2 b (rL r)).1 ow
 have fld:=λb o vs e d n=>(k b o e n).not λq=>(y.2.1.at (rL q)).elim λo' z=>z.2 vs (bB e z.1▸d)
 ⟨x.len,λi oi e=>(x.obj i oi e).imp λq z=>⟨z.1,z.2.keep (MG z.1 _ (.inl rfl)) (MG z.1 _ (.inr rfl)) st (.refl _)⟩,x.apart,λb hb=>⟨(x.new b hb).1,λw=>(x.new b hb).2 (le b w)⟩,
  nh x.ns (λm a=>w8 a λo e=>(k _ o e λq=>CG (hS _ o q e) (x.mut env.locals o e (.inr rfl))).some) st (.refl _),⟨x.lout.1,x.lout.2.1,λw=>x.lout.2.2 (le _ w)⟩,x.cells,
  λb o e=>(k b o (x.stays b o e) λq=>cg e (hB b q)).not λq=>(List.mem_filterMap.mp (rL q)).elim λe' he=>(y.2.1 e' he.1).2.elim λL z=>z.elim λo' z=>cg e (bB z.1 he.2▸z.2.1),
  ⟨l,y.1,y.2.1.keep λb hb o e n=>(k b o e λq=>(hS b o q e).elim (λw=>w.elim λvs w=>n vs w.1) λw=>(y.2.2 b hb).2 w.1).some.elim λsl q=>⟨_,q,n⟩,λb hb=>⟨(y.2.2 b hb).1,λw=>(y.2.2 b hb).2 (le b w)⟩⟩,
  λq hq=>have t:=x.tabs q hq
   ⟨t.1.imp λo=>bf λvs=>bf λfile=>bf λtf=>bf λflags=>bf λtg=>bf λrL=>bf λtext=>bf λtt w=>
    ⟨fld _ o vs w.1 w.2.2.1 λu=>(AZ (hS _ o u w.1) w.2.2.1).elim λ_ v=>v.2.2.elim (λv=>v.elim λT v=>v.2 (Value.type.inj (v.1.symm.trans w.2.1))) λv=>v.elim λa v=>I1 (v.symm.trans w.2.1),w.2⟩,
    t.2.imp λps w=>⟨fld _ _ _ w.1 rfl λu=>(AZ (hS _ _ u w.1) rfl).elim λ_ v=>v.2.2.elim (λv=>v.elim λT v=>by have:=v.1;cases this) λv=>v.elim λa v=>(by cases v),
     w.2.keep λa z=>JA z λt o vs ho hd e=>⟨o.slots,fld t o vs ho hd λw=>e.elim λq e=>e.elim λtk e=>Kc (hS t o w ho) hd q tk e⟩⟩⟩,
  λb hb=>⟨xl b hb,(x.xlt b (le b hb)).2⟩⟩
theorem Ok.exc(x:Ok c X A env fr μ σ s){S:Addr->Prop}(k:fw S (Fs A) s.heap s'.heap)(hS:∀b o,S b->s.heap.get? b=some o->kD X b o)(hB:∀b,S b->c.base.get? b=none):Ok c X A env fr μ σ s':=
 x.exc0 k.2 hS hB (λ_ q=>q) λb hb=>let⟨o,e⟩:=(x.xlt b hb).1;k.1 b o e
theorem aK.exc{S:Addr->Prop}(k:fw S (Fs A) s.heap s'.heap)(hS:∀b o,S b->s.heap.get? b=some o->ml o)(hg:s'.gens=s.gens)(ho:s'.os=s.os):aK A env μ μ s s':=
 ⟨.refl _,λ_ q=>.inl q,(Pg k hS).mono (λ_ _ _ f=>f.elim) λ_ _ _ q=>q,hg,ho⟩
theorem Vp(h:e1.frame=e2.frame):PySem.frameOf e1=PySem.frameOf e2:=by unfold PySem.frameOf;rw[h]
theorem U5{S:List Addr}(x:Heap.SlotsOnly S h h'):fw (λ_=>False) S h h':=
 ⟨λb o e=>let⟨sl,q⟩:=x.2.2 b o e;⟨_,q⟩,λb o e _=>by
  by_cases hb:b∈S
  · exact .inr ⟨hb,x.2.2 b o e⟩
  · exact .inl ((x.2.1 b hb).trans e)⟩
structure kS(c:Cx)(lo:Heap)(k:Nat)(dx:Addr)(e:Addr)(h:Heap)(oe:Obj)(vs:Array Value)(tb:Value):Prop where
 s1:h.get? e=some oe
 s2:oe.cls=.ref (c.clA k)
 s3:oe.dict=some dx
 s4:oe.data=.fields vs
 s5:4<vs.size
 s6:vs[1]?=some tb
 s7:∀q t,tb≠.str q t
 s8:tb=.none\/∃T oT ts,tb=.ref T/\zo lo h e T oT ts
 s9:lo.get? e=none
def jV(h:Heap)(e:Addr):Prop:=∃oe vs T,h.get? e=some oe/\oe.data=.fields vs/\vs[1]?=some (.ref T)
theorem OT(f)(o:Obj):(Obj.mapFields f o).dict=o.dict:=by obtain⟨a,b,d,e⟩:=o;cases d<;>rfl
theorem kS.exo{oe:Obj}(x:kS c lo k dx e h oe vs tb):ml oe:=⟨vs,x.s4,λq t z=>x.s7 q t (bB x.s6 z),.inr ⟨_,x.s2⟩⟩
theorem pf.toS{oe:Obj}(x:pf c X μ lo k m v e h oe vs dx ms tb):kS c lo k dx e h oe vs tb:=⟨x.e1,x.e2,x.e3,x.e4,x.e5,x.e6,x.e7,x.e8,x.e9⟩
theorem pf.at{av:Mu}{h':Heap}{k:Nat}{m v:V}{e dx:Addr}{h:Heap}{oe oe':Obj}{vs vs':Array Value}{ms:Str->Option Value}{tb tb':Value}(x:pf c X μ lo k m v e h oe vs dx ms tb)(y:kS c lo k dx e h' oe' vs' tb')(no:¬own av dx)
 (hn:∀o,h.get? dx=some o->∃sl,h'.get? dx=some {o with slots:=sl})(r:∀v y,ad c X μ h v y->ad c X av h' v y):cD c X av lo k m v e h':=
 ⟨oe',vs',dx,ms,tb',y.s1,y.s2,y.s3,y.s4,y.s5,y.s6,y.s7,y.s8,y.s9,x.e10,no,w8 x.e12 hn,x.e13.imp λ_ q=>⟨q.1,r _ _ q.2⟩,x.e14.imp λ_ q=>⟨q.1,r _ _ q.2⟩⟩
theorem Et{k:Nat}{oe:Obj}(x:kS c lo k dx e h oe vs tb)(h1:tb=.ref T)(y:zo lo h e T oT ts)(v:Value):
 kS c lo k dx e (h.update T (Obj.mapFields (·.setIfInBounds 3 v))) oe vs tb/\fw (· =T) [] h (h.update T (Obj.mapFields (·.setIfInBounds 3 v)))/\ml oT:=
 have MH:=Heap.get?_update_self (Obj.mapFields (·.setIfInBounds 3 v)) y.t3 (Obj.isFreed_of_fields (Obj.data_mapFields y.t5 _))
 ⟨⟨(Heap.get?_update_other _ _ y.t1).trans x.s1,x.s2,x.s3,x.s4,x.s5,x.s6,x.s7,.inr ⟨T,_,_,h1,y.t1,y.t2,MH,(Obj.cls_mapFields _ _).trans y.t4,Obj.data_mapFields y.t5 _,Array.size_setIfInBounds.symm▸y.t6,λq t=>by rw[Array.getElem?_setIfInBounds_ne (by decide)];exact y.t7 q t⟩,x.s9⟩,
  fw.of_only (.at (λb o q n=>(Heap.get?_update_other _ _ (Ne.symm n)).trans q) λb q=>q.symm▸⟨_,MH⟩),⟨_,y.t5,y.t7,.inl y.t4⟩⟩
def wP(head:Value)(L:Addr)(pl:List Value):List Value:=[head,.ref L,.none,rawInt L,.none]++(if pl.isEmpty then List.replicate 6 .none else pl)
theorem HZ{k:Nat}{oe:Obj}{Q:Unit->Shared->Prop}(pX:A.frames=some (e0::l))(h0:e0.frame=some L)(hf:env.frame=some L)(ff:FF c.base (e0::l) s.heap)
 (x:kS c lo k dx e s.heap oe vs tb)(iC:fA lo s.heap)
 (hQ:∀h' oe' vs' T,kS c lo k dx e h' oe' vs' (.ref T)->fw (· =e) (Fs A) s.heap h'->Q () {s with heap:=h'}):
 wpAny c.M A (do let a ← PySem.frameOf env;let pl ← entryPlaceOf L b;let bb ← EntryCells.newEntry head a .none (rawInt L) .none pl;setField (.ref e) 1 bb) Q E s:=by
 have MI:=ff.funFrames
 have aah:=λhm=>(MI.mem hm).2.elim λob z=>z.2 vs (bB x.s1 z.1▸x.s4)
 rw[Vp (e1:=env) (e2:=e0) (hf.trans h0.symm)]
 refine ah (wpAny_frameOf_fun pX MI h0 λh₁ MJ=>?_)
 refine ah (wpAny_entryPlaceOf λpl C3=>?_)
 unfold EntryCells.newEntry newFields
 refine ah (wpAny_newObj_type ?_ (C3.sizeOk5 _ _ _ _ _))
 have rM:=(MJ.2.1 e aah).trans x.s1
 have ML:=d6 (h:=h₁) {cls:=.type "traceback",dict:=none,data:=.fields (wP head L pl).toArray} rM
 have cL:1<vs.size:=jQ (by decide) x.s5
 refine wpAny_setField ML x.s4 cL ?_
 have MM:h₁.objs.size≠e:=λq=>Nat.lt_irrefl _ (q▸Heap.lt_size rM)
 have MN:=Obj.data_mapFields x.s4 (·.setIfInBounds 1 (Value.ref h₁.objs.size))
 have MO:=Heap.get?_update_self (Obj.mapFields (·.setIfInBounds 1 (Value.ref h₁.objs.size))) ML (Obj.isFreed_of_fields MN)
 have aai:=(Heap.get?_update_other (h₁.push {cls:=.type "traceback",dict:=none,data:=.fields (wP head L pl).toArray})
  (Obj.mapFields (·.setIfInBounds 1 (Value.ref h₁.objs.size))) (Ne.symm MM)).trans (d7 h₁ rfl)
 have st:fw (λ_=>False) (Fs A) s.heap h₁:=(show Fs A=Mine.frs (e0::l) from by unfold Fs;rw[pX])▸U5 MJ
 exact hQ _ _ _ h₁.objs.size ⟨MO,(Obj.cls_mapFields _ _).trans x.s2,(OT _ _).trans x.s3,MN,Array.size_setIfInBounds.symm▸x.s5,Array.getElem?_setIfInBounds_self_of_lt cL,λq t z=>(nomatch z),
  .inr ⟨h₁.objs.size,_,_,rfl,MM,(iC.trans st.1).none (dk _),aai,rfl,rfl,by unfold wP;rw[List.size_toArray,List.length_append];exact Nat.lt_of_lt_of_le (by decide:3<5) (gJ _ _),λq t z=>by unfold wP at z;simp at z⟩,x.s9⟩
  ((st.mono λ_ f=>f.elim).trans (fw.of_only (.at (λbb ob q nn=>(Heap.get?_update_other _ _ (Ne.symm nn)).trans (d6 _ q)) λbb q=>q.symm▸⟨_,MO⟩)))
theorem WV(eo:aJ c n A env fr){k:Nat}{oe:Obj}{Q:Unit->Shared->Prop}(ff:∀l,A.frames=some l->FF c.base l s.heap)
 (x:kS c lo k dx e s.heap oe vs tb)(iC:fA lo s.heap)
 (hQ:∀h' oe' vs' T S,kS c lo k dx e h' oe' vs' (.ref T)->fw S (Fs A) s.heap h'->(∀b,S b->lo.get? b=none/\∃o,s.heap.get? b=some o/\ml o)->Q () {s with heap:=h'}):
 wpAny c.M A (noteFrame (.ref e) env) Q E s:=by
 obtain⟨e0,outer,L,pX,h0,hf⟩:=eo.frame
 have MP:lo.get? e=none/\∃o,s.heap.get? e=some o/\ml o:=⟨x.s9,oe,x.s1,x.exo⟩
 unfold noteFrame
 simp only[hf]
 refine ah (wpAny_field x.s1 x.s4 x.s6 ?_)
 rcases x.s8 with q|⟨T,oT,ts,q,y⟩
 · subst q
   rw[ax (by decide)]
   exact HZ pX h0 hf (ff _ pX) x iC λh' oe' vs' T x' st=>hQ h' oe' vs' T _ x' st λb q=>q.symm▸MP
 · subst q
   rw[aG (show(Value.ref T !=Value.none)=true from rfl)]
   refine ah (wpAny_field y.t3 y.t5 (Array.getElem?_eq_getElem y.t6) ?_)
   by_cases hm:(ts[3]'y.t6==rawInt L)=true
   · rw[aG hm]
     exact aS (hQ s.heap oe vs T (λ_=>False) x ⟨.refl _,λb o q _=>.inl q⟩ λb q=>q.elim)
   · rw[ax hm]
     have m:=Et x rfl y .none
     refine ah (wpAny_setField y.t3 y.t5 y.t6 ?_)
     have aaj:=(ff _ pX).keep λb hb o e n=>⟨o,(m.2.1.2 b o e λq=>n ts (bB y.t3 (q▸e)▸y.t5)).not (λq=>nomatch q),n⟩
     exact HZ (s:={s with heap:=s.heap.update T (Obj.mapFields (·.setIfInBounds 3 .none))}) pX h0 hf aaj m.1 (iC.trans m.2.1.1) λh' oe' vs' T' x' st=>
      hQ h' oe' vs' T' (λb=>b=e\/b=T) x' ⟨m.2.1.1.trans st.1,λb ob q nb=>st.2 b ob ((m.2.1.2 b ob q λz=>nb (.inr z)).not λq=>nomatch q) λz=>nb (.inl z)⟩
       λb q=>q.elim (λq=>q.symm▸MP) λq=>q.symm▸⟨y.t2,oT,y.t3,m.2.2⟩
theorem Ky(hb:c.base.StaysIn lo)(q:lo.get? b=none):c.base.get? b=none:=Option.eq_none_iff_forall_ne_some.mpr λob z=>cg (hb b ob z) q
theorem Jo{h:Heap}(x:h.Ns a m)(e:h.get? a=some o)(d:o.data=.fields vs){P:Prop}:P:=
 x.elim λo' x=>x.elim λes x=>x.elim λep x=>nomatch (bB e x.1▸d).symm.trans x.2.1
theorem Ad(eo:aJ c n A env fr)(o:Ok c X A env fr μ σ s){Q:Unit->Shared->Prop}(x:cD c X μ lo k m v e s.heap)(iC:fA lo s.heap)(hb:c.base.StaysIn lo)
 (hQ:∀s',aK A env μ μ s s'->Ok c X A env fr μ σ s'->cD c X μ lo k m v e s'.heap->jV s'.heap e->Q () s'):
 wpAny c.M A (noteFrame (.ref e) env) Q E s:=
 x.ex.elim λoe x=>x.elim λvs x=>x.elim λdx x=>x.elim λms x=>x.elim λtb x=>o.frs.elim λl fl=>
 WV eo (λl' hJ=>bB fl.1 hJ▸fl.2.1) x.toS iC λh' oe' vs' T S x' st hS=>
  have rN:=λb ob q e=>(hS b q).2.elim λo' z=>bB z.1 e▸z.2
  have nx:aK A env μ μ s {s with heap:=h'}:=aK.exc st rN rfl rfl
  hQ _ nx (o.exc st (λb ob q e=>.inl (rN b ob q e).sid) λb q=>Ky hb (hS b q).1) (x.at x' x.e11 (λob e=>(st.2 dx ob e λq=>(rN dx ob q e).elim λws z=>Jo x.e12 e z.1).some) λ_ _ r=>r.nxt o nx)
   ⟨oe',vs',T,x'.s1,x'.s4,x'.s6⟩
theorem r4(o:Ok c X A env fr μ σ s){k:Nat}{Q:Unit->Shared->Prop}(x:cD c X μ lo k m v e s.heap)(iC:fA lo s.heap)(hb:c.base.StaysIn lo)
 (hQ:∀s',aK A env μ μ s s'->Ok c X A env fr μ σ s'->cD c X μ lo k m v e s'.heap->(jV s.heap e->jV s'.heap e)->Q () s'):
 wpAny c.M A (setFlight (.ref e) f) Q E s:=by
 obtain⟨oe,vs,dx,ms,tb,x⟩:=x.ex
 unfold setFlight
 refine ah (wpAny_field x.e1 x.e4 x.e6 ?_)
 rcases x.e8 with q|⟨T,oT,ts,q,y⟩
 · subst q
   rw[ax (by decide)]
   exact aS (hQ s .refl o ⟨_,_,_,_,_,x⟩ λq=>q)
 · subst q
   rw[aG (show(Value.ref T !=Value.none)=true from rfl)]
   have m:=Et x.toS rfl y (f.elim .none λg=>rawInt g)
   refine wpAny_setField y.t3 y.t5 y.t6 ?_
   generalize s.heap.update T (Obj.mapFields (·.setIfInBounds 3 (f.elim .none λg=>rawInt g)))=h' at m ⊢
   have st:fw (· =T) (Fs A) s.heap h':=⟨m.2.1.1,λb ob q nn=>.inl ((m.2.1.2 b ob q nn).not λz=>nomatch z)⟩
   have rN:∀b ob,b=T->s.heap.get? b=some ob->ml ob:=λb ob q e=>bB y.t3 (q▸e)▸m.2.2
   have nx:aK A env μ μ s {s with heap:=h'}:=aK.exc st rN rfl rfl
   exact hQ _ nx (o.exc st (λb ob q e=>.inl (rN b ob q e).sid) λb q=>q.symm▸Ky hb y.t2) (x.at m.1 x.e11 (λob e=>(st.2 dx ob e λq=>Jo x.e12 (q▸y.t3) y.t5).some) λ_ _ r=>r.nxt o nx)
    λ_=>⟨oe,vs,T,m.1.s1,m.1.s4,m.1.s6⟩
end
section
variable{c:Cx}{X:Addr->Prop}{A:Around}{env:Env}{fr:Fr}{μ av:Mu}{σ ba:Sg}{s s':Shared}{E:Value->Shared->Prop}{n:Nat}{K:Frag}{ih:Ev}
theorem TM(eo:aJ c n A env fr)(o:Ok c X A env fr μ σ s){lo:Heap}(x:cD c X μ lo k m v e s.heap)(iC:fA lo s.heap)(hb:c.base.StaysIn lo)(ht:jV s.heap e)
 (hE:∀s',aK A env μ μ s s'->Ok c X A env fr μ σ s'->cD c X μ lo k m v e s'.heap->jV s'.heap e->E (.ref e) s'):cameBackBy c.M A env E (.ref e) s:=by
 obtain⟨oe,vs,T,h1,h2,h3⟩:=ht
 unfold cameBackBy
 refine ah (wpAny_field h1 h2 h3 ?_)
 rw[ax (show ¬(Value.ref T==Value.none)=true from by simp)]
 exact r4 o x iC hb λs' n' o' x' t'=>hE s' n' o' x' (t' ⟨oe,vs,T,h1,h2,h3⟩)
theorem J1(eo:aJ c n A env fr)(o:Ok c X A env fr μ σ s){lo:Heap}(x:cD c X μ lo k m v e s.heap)(iC:fA lo s.heap)(hb:c.base.StaysIn lo)
 (hE:∀s',aK A env μ μ s s'->Ok c X A env fr μ σ s'->cD c X μ lo k m v e s'.heap->jV s'.heap e->E (.ref e) s'):notedBy c.M A env E (.ref e) s:=
 Ad eo o x iC hb λs' n' o' x' t'=>hE s' n' o' x' t'
theorem ac.loopE(eo:aJ c n A env fr)(o:Ok c X A env fr μ σ s){α β:Type}{D:Mu->Heap->α->β->Prop}{r:R α}{Q:β->Shared->Prop}(h:ac c X A env fr D μ s r Q E):
 ac c X A env fr D μ s r Q (notedBy c.M A env (cameBackBy c.M A env E)):=by
 cases r with
 |ok a ba=>exact h
 |stuck=>exact h
 |exc k m v ba=>
  intro av s' e nx o' x
  refine J1 eo o' x nx.keep.1 o.stays λs₁ n₁ aC vy yF=>?_
  refine TM eo aC vy (nx.keep.1.trans n₁.keep.1) o.stays yF λaB bG bc lc _=>?_
  exact h av aB e (nx.trans (n₁.trans bG)) bc lc
@[elab_as_elim] theorem tM {P:Fl->Flow->Prop} (r:DF c X μ h f y) (k1:P .next .next) (k2:∀v w,ad c X μ h v w->P (.ret v) (.ret w)):P f y:=by
 cases f with
 |next=>cases y with
  |next=>exact k1
  |_=>exact r.elim
 |ret v=>cases y with
  |ret w=>exact k2 v w r
  |_=>exact r.elim
theorem ou(S:SS c n ih.eS)(eo:aJ c n A env fr)(b:List Mine.S):∀{μ:Mu} {σ:Sg} {s:Shared} {E:Value->Shared->Prop} {Q:Flow->Shared->Prop},Ok c X A env fr μ σ s->ac c X A env fr (DF c X) μ s (Mine.execs ih fr b σ) Q E->
 wpAny c.M A (PySem.execs (cU c.nm b) env) Q E s:=by
 induction b with
 |nil=>exact λo h=>wpAny_execs_nil (ac.ok h (y:=Flow.next) .refl o trivial)
 |cons st r bP=>
  intro μ σ s E Q o h
  refine wpAny_execs_cons (S X A env fr μ σ s st _ E eo o (ac.bind (D':=DF c X) h λf aM ao y s₁ n₁ aC bj h₁=>?_))
  revert h₁
  exact tM bj (λh₁=>bP aC h₁) λv w r h₁=>ac.ok h₁ (y:=Flow.ret w) .refl aC r
theorem TD(S:SS c n ih.eS)(T:ST c n ih.eT)(eo:aJ c n A env fr)(o:Ok c X A env fr μ σ s){Q:Flow->Shared->Prop}(h:ac c X A env fr (DF c X) μ s (FJ ih t b e fr σ) Q E):
 wpAny c.M A (exec (cT c.nm (.ifS t b e p)) env) Q E s:=by
 refine wpAny_If (T X A env fr μ σ s t _ E eo o (ac.bind (D':=DB) h λv aM ao y s₁ n₁ aC bj h₁=>?_))
 have e:=bj
 subst e
 cases v with
 |true=>exact ou S eo b aC h₁
 |false=>exact ou S eo _ aC h₁
theorem WD(S:SE c n ih.eE)(eo:aJ c n A env fr)(o:Ok c X A env fr μ σ s){Q:Flow->Shared->Prop}(h:ac c X A env fr (DF c X) μ s (KQ ih e fr σ) Q E):
 wpAny c.M A (exec (cT c.nm (.ret e p)) env) Q E s:=
 wpAny_Return_some (S X A env fr μ σ s e _ E eo o (ac.bind (D':=DV c X) h λv aM ao y s₁ n₁ aC bj h₁=>h₁.ok (y:=Flow.ret y) .refl aC bj))
theorem Tv(eo:aJ c n A env fr):interactive env=false:=by
 unfold interactive;rw[eo.kfun];rfl
theorem Yc(S:SE c n ih.eE)(eo:aJ c n A env fr)(o:Ok c X A env fr μ σ s){Q:Flow->Shared->Prop}(h:ac c X A env fr (DF c X) μ s (FP ih e fr σ) Q E):
 wpAny c.M A (exec (cT c.nm (.expr e p)) env) Q E s:=
 gK h (λ_ h=>h.elim) λhc h=>
  wpAny_Expr_any (S X A env fr μ σ s e _ E eo o (ac.bind (D':=DV c X) h λv aM ao y s₁ n₁ aC bj h₁=>h₁.ok (y:=Flow.next) .refl aC trivial)) (Tv eo) (by cases e<;>first|rfl|exact tf hc)
theorem SZ{body orelse:List Stmt}{R:Result->Shared->Prop}
 (turn:wpAny c.M A (isTrue test env (eval test env)) (λb aB=>
  if b then wpAny c.M A (PySem.execs body env) (λf dy=>match f with
   |.next|.cont=>codeAny c.M A (.whileLoop test body orelse env) R dy
   |.brk=>R (.ok .next) dy
   |.ret v=>R (.ok (.ret v)) dy) (notedBy c.M A env λe s'=>R (.error e) s') aB
  else wpAny c.M A (PySem.execs orelse env) (λf dy=>R (.ok f) dy) (notedBy c.M A env λe s'=>R (.error e) s') aB)
  (notedBy c.M A env λe s'=>R (.error e) s') s):codeAny c.M A (.whileLoop test body orelse env) R s:=by
 refine codeAny_of_tree ?_
 refine wpAny_noted ?_
 simp only[whileTurn]
 refine ah (wpAny_mono turn (λb aB bh=>?_) λ_ _ h'=>h')
 cases b with
 |false=>
  simp only[Bool.false_eq_true,if_false] at bh ⊢
  exact ah (wpAny_mono bh (λf dy cE=>aS cE) λ_ _ h'=>h')
 |true=>
  simp only[if_true] at bh ⊢
  refine ah (wpAny_mono bh (λf dy cE=>?_) λ_ _ h'=>h')
  cases f with
  |next=>exact aS ⟨rfl,cE⟩
  |cont=>exact aS ⟨rfl,cE⟩
  |brk=>exact aS cE
  |ret v=>exact aS cE
theorem Vo(S:SS c n ih.eS)(T:ST c n ih.eT)(W:SW c n ih.eW)(eo:aJ c n A env fr)(o:Ok c X A env fr μ σ s){t:Mine.E}{Q:Flow->Shared->Prop}(h:ac c X A env fr (DF c X) μ s (AU ih t b fr σ) Q E):
 codeAny c.M A (.whileLoop (an c.nm t) (cU c.nm b) [] env) (λr s'=>match r with|.ok f=>Q f s'|.error e=>cameBackBy c.M A env E e s') s:=by
 refine SZ (T X A env fr μ σ s t _ _ eo o ((ac.bind (D':=DB) h λv aM ao y s₁ n₁ aC bj h₁=>?_).loopE eo o))
 have e:=bj
 subst e
 cases v with
 |true=>
  refine ou S eo b aC ((ac.bind (D':=DF c X) h₁ λf σ₂ a9 y aB bG bc dE bh=>?_).loopE eo aC)
  revert bh
  exact tM dE (λbh=>W X A env fr a9 σ₂ aB t b Q E eo bc bh) λv w r bh=>ac.ok bh (y:=Flow.ret w) .refl bc r
 |false=>exact wpAny_execs_nil (ac.ok h₁ (y:=Flow.next) .refl aC trivial)
theorem TY(W:SW c n ih.eW)(eo:aJ c n A env fr)(o:Ok c X A env fr μ σ s){Q:Flow->Shared->Prop}(h:ac c X A env fr (DF c X) μ s (ih.eW t b fr σ) Q E):
 wpAny c.M A (exec (cT c.nm (.while t b p)) env) Q E s:=
 wpAny_While (W X A env fr μ σ s t b Q E eo o h)
end
section
variable{c:Cx}{X:Addr->Prop}{A:Around}{env:Env}{fr:Fr}{μ av:Mu}{σ ba:Sg}{s s':Shared}{E:Value->Shared->Prop}{n:Nat}{K:Frag}{ih:Ev}
theorem GW(inj:∀i j,c.nm i=c.nm j->i=j){m:Str->Option Value}{x:Nat}(z:∀u w,au r u=some w->∃y,m (c.nm u)=some y/\ad c X μ h w y)(rv:ad c X μ h v y):
 ∀u w,au (kA r x v) u=some w->∃z,(if c.nm u=c.nm x then some y else m (c.nm u))=some z/\ad c X μ h w z:=λu w hw=>by
 rw[oH] at hw
 by_cases e:x=u
 · rw[aG e] at hw;exact⟨y,aG (aq c.nm e.symm),af hw▸rv⟩
 · rw[ax e] at hw;rw[ax λq=>e (inj _ _ q).symm];exact z u w hw
theorem Ka{E':Value->Shared->Prop}(k0:∀x,au fr.sc x=some 0->env.kindOf (c.nm x)=some .local)(k1:∀x,au fr.sc x=some 1->env.kindOf (c.nm x)=some .cell)(kfun:env.scope.kind=.function)(o:Ok c X A env fr μ σ s){Q:Unit->Shared->Prop}(inj:∀i j,c.nm i=c.nm j->i=j)(rv:ad c X μ s.heap v y)
 (h:ac c X A env fr DU μ s (qG fr x v σ) Q E):wpAny c.M B (storeName env (c.nm x) y) Q E' s:=
 bk h λk hk h=>gK h
  (λhb h=>o.ns.elim λm z=>wpAny_storeName_local (k0 x (bx.mp hb▸hk)) z.1 (λh' bI sb=>(bI.imp λo x=>x.elim λes x=>x.elim λep x=>x.1:∃o,h'.get? env.locals=some o).elim λod e=>
   have k:=aY.same sb e
   ac.ok h (y:=()) (aK.locs (s':=⟨h',s.gens,s.drawn,s.toks+1,s.os⟩) k rfl rfl) (o.locs k ⟨_,bI,GW inj z.2 rv⟩) trivial) (by rw[kfun];rfl))
  λ_ h=>bA h λhb h=>bk h λl hl h=>bk h λob ho h=>bk h λu hu h=>(Fd o hl ho hu).elim λp q=>q.2.2.2.elim λy0 w=>
   wpAny_storeName_cell kfun (k1 x (bx.mp hb▸hk)) q.2.1 w.1 λh' hy' sb=>hy'.elim λoc e=>
    have k:=(aY.same sb e.1).mono λ_ _ _ q=>.inl q
    have nx:aK A env μ μ s ({s with heap:=h'}:Shared):=aK.put q.1 k rfl rfl
    ac.ok h (y:=()) nx (o.put q.1 k ⟨q.2.2.1,some y,⟨oc,e⟩,rv.nxt o nx⟩) trivial
theorem Kt(eo:aJ c n A env fr)(o:Ok c X A env fr μ σ s){Q:Unit->Shared->Prop}(inj:∀i j,c.nm i=c.nm j->i=j)(rv:ad c X μ s.heap v y)(h:ac c X A env fr DU μ s (qG fr x v σ) Q E):
 wpAny c.M A (storeName env (c.nm x) y) Q E s:=Ka eo.k0 eo.k1 eo.kfun o inj rv h
theorem GA:∀(es:List DictEntry) (l:List Str),(es.Pairwise λa b=>∀n,a.key.isStr n=true->b.key.isStr n=true->False)->(∀e∈es,∃n,e.key.isStr n=true/\n∈l)->es.length<=l.length
 |[],_,_,_=>Nat.zero_le _
 |e::r,l,pw,k=>by
  obtain⟨n,h1,h2⟩:=k e (.head _)
  rw[List.pairwise_cons] at pw
  have:=GA r (l.erase n) pw.2 λe' MQ=>by
   obtain⟨n',h3,h4⟩:=k e' (.tail _ MQ)
   exact⟨n',h3,(List.mem_erase_of_ne λq:n'=n=>pw.1 e' MQ n h1 (by rw[← q];exact h3)).mpr h4⟩
  rw[List.length_erase_of_mem h2] at this
  have:=List.length_pos_of_mem h2
  rw[List.length_cons];omega
theorem BO{h:Heap}(x:h.Ns1 a m){l:List Str}(hl:∀n y,m n=some y->n∈l):∃o es ep,h.get? a=some o/\o.data=.dict es ep/\es.size<=l.length:=by
 obtain⟨o,es,ep,ho,hd,hk,hu,hm⟩:=x
 refine⟨o,es,ep,ho,hd,?_⟩
 rw[← Array.length_toList]
 refine GA _ _ hu λe he=>?_
 obtain⟨n,t,q⟩:=hk e (Array.mem_toList_iff.mp he)
 have hn:e.key.isStr n=true:=by rw[q];exact beq_self_eq_true n
 refine⟨n,hn,?_⟩
 cases hf:nsFind es n with
 |some y=>exact hl n y ((hm n).symm.trans hf)
 |none=>
  unfold nsFind findBy at hf
  rw[Option.map_eq_none_iff,Array.find?_eq_none] at hf
  exact aV hn (hf e (Array.mem_toList_iff.mp he))
theorem Pr{w:V}(h:au l u=some w):c.nm u∈l.map λq=>c.nm q.1:=by
 induction l with
 |nil=>exact ns h
 |cons q r ih=>
  have h:=h
  rw[dA] at h
  by_cases e:q.1=u
  · exact e▸.head _
  · rw[ax e] at h;exact .tail _ (ih h)
theorem WB{m:Str->Option Value}{v:V}(z:∀n y,m n=some y->∃x v,au r x=some v/\n=c.nm x):
 ∀n w,(if n=c.nm x then some y else m n)=some w->∃u w',au (kA r x v) u=some w'/\n=c.nm u:=λn w hw=>by
 by_cases e:n=c.nm x
 · exact⟨x,v,by rw[oH,aG rfl],e⟩
 · exact(z n w ((ax e).symm.trans hw)).imp λu=>bf λw' q=>⟨by rw[oH,ax λq':x=u=>e (q.2.trans (q'▸rfl))];exact q.1,q.2⟩
theorem Pf{h:Heap}(hx:h.get? a=some (instObj k b))(x:h.Ns1 b m):a≠b:=λw=>by
 obtain⟨ob,_,_,e1,e2,_⟩:=x
 have e:=bB (w▸hx) e1
 subst e;cases e2
theorem XH(G:bq c K)(o:Ok c X A env fr μ σ s){a v:V}{x y:Value}{at_:Nat}{Q:Unit->Shared->Prop}(ra:ad c X μ s.heap a x)(rv:ad c X μ s.heap v y)(h:ac c X A env fr DU μ s (HV c.T a at_ v σ) Q E):
 wpAny c.M A (setAttr x (c.nm at_) y) Q E s:=
 bk h λp hp h=>bk h λcl hc h=>bA h λhb h=>bA h λaal h=>by
  refine Be o hp ra λq m _ hq hx vz z1 z2=>?_
  have g:=G.attr p.2.1 cl at_ hc hb
  obtain⟨od,d⟩:=uW vz.ns (c.nm at_)
  have I:=CB hx d.1
  obtain⟨cd,pY,kc⟩:=any_some g.2.1
  have kin:=(o.tok (s.toks+1)).kin G
  refine set_plain (o.kin G) I g.2.2.2.1 (osa_open (s:={s with toks:=s.toks+1}) kin I g.2.2.2.2.1 g.2.2.2.2.2 λb=>?_)
  refine ah (aS (ah (ah (wpAny_loadPart hx (ah ((looks_clsIn kin pY).here ?_))))))
  rw[kc]
  refine aS (a:=some q.2) (ah (aS (ah (wpAny_nsSet1 vz λh' bI sb=>?_))))
  have k2:=WB (x:=at_) (v:=v) (y:=y) z2
  obtain⟨oe,es,ep,e,dd,hs⟩:=BO (l:=(kA p.2.2 at_ v).map λq=>c.nm q.1) bI λnn w hw=>(k2 nn w hw).elim λu q=>q.elim λw' q=>q.2▸Pr q.1
  rw[List.length_map] at hs
  refine ah (wpAny_lookBehind e (by rw[dd];exact pastItsLine_dict (Nat.le_succ_of_le (gn (eX hs (gk.mp aal))))) (aS ?_))
  have ne:=Pf hx vz
  have kk:aY (λb=>b=q.1\/b=q.2) s.heap h':=(aY.same sb e).mono λ_ _ _ q=>.inr q
  have nx:aK A env μ μ s ({s with heap:=h',toks:=s.toks+1+1}:Shared):=aK.put hq kk rfl rfl
  exact ac.ok h (y:=()) nx (o.put hq kk ⟨(sb.2 _ ne).trans hx,_,bI,λu w hw=>(GW G.inj z1 rv u w hw).imp λz q=>⟨q.1,q.2.nxt o nx⟩,k2⟩) trivial
theorem Wf{K:Type}[DecidableEq K]{a:K}{l:List (K×Value)}(k:K)(v:Value)(nd:((a,b)::l).map (·.1) |>.Nodup):stored ((a,b)::l) k v=if a=k then(a,v)::l else(a,b)::stored l k v:=by
 unfold stored
 by_cases h:a=k
 · subst h
   have hn:∀q∈l,q.1≠a:=λq hq e=>(List.nodup_cons.mp nd).1 (e▸List.mem_map.mpr ⟨q,hq,rfl⟩)
   have hm:l.map (λkv=>if kv.1=a then(kv.1,v) else kv)=l:=(List.map_congr_left λq hq=>ax (hn q hq)).trans (List.map_id l)
   rw[aG rfl,aG (by simp),List.map_cons,aG rfl,hm]
 · rw[ax h,List.any_cons,decide_eq_false h,Bool.false_or,List.map_cons,ax h]
   split<;>rfl
theorem Wi{K:Type}[DecidableEq K]{knd:KeyKind prog w K}{h:Heap}{l:List (K×Value)}(x:h.DictOf knd a l):(l.map (·.1)).Nodup:=by obtain⟨_,_,_,_,_,_,_,_,nd⟩:=x;exact nd
theorem BI{h:Heap}{y:Value}{k:List Nat}(rv:ad c X μ h v y){l:List (Str×Value)}(z:ay (lB c X μ h) bF l):(l.map (·.1)).Nodup->ay (lB c X μ h) (mU bF k v) (stored l (aW k) y):=by
 induction z with
 |nil=>exact λ_=>.cons ⟨rfl,rv⟩ .nil
 | @cons a b r q e z ih=>
  intro nd
  have es:mU (a::r) k v=aa (seq a.1 k) ((a.1,v)::r) (a::mU r k v):=rfl
  have et:stored (b::q) (aW k) y=if b.1=aW k then(b.1,y)::q else b::stored q (aW k) y:=Wf (a:=b.1) (b:=b.2) _ _ nd
  rw[es,et]
  by_cases h:a.1=k
  · rw[fk.mpr h,aG (e.1.trans (aq aW h))]
    exact .cons ⟨e.1,rv⟩ z
  · rw[Le h,ax λq=>h (ku (e.1.symm.trans q))]
    exact .cons e (ih (List.nodup_cons.mp nd).2)
theorem Y3(o:Ok c X A env fr μ σ s){Q:Unit->Shared->Prop}(ra:ad c X μ s.heap a x)(ri:ad c X μ s.heap i j)(rv:ad c X μ s.heap v y)(h:ac c X A env fr DU μ s (Jf a i v σ) Q E):
 wpAny c.M A (setItem x j y) Q E s:=
 fq h (λp hp h=>bk h λw hw h=>bk h λk hk h=>bA h λhf h=>by
  refine fa o hp ra λl its _ hq hl0 hz cL=>?_
  refine i8 hw ri λt=>?_
  obtain⟨ep,hl⟩:=hl0
  rw[bH,← cB hz] at hk
  have bd:=zg hk cL
  have pl:=x6 hk
  have fm:∀kk,kk=k->Q () {s with heap:=s.heap.update l (Obj.mapSeq (·.setIfInBounds kk y))}:=λkk ek=>by
   subst ek
   have e:=IsL.update (n:=ep) hl (·.setIfInBounds kk y)
   have k1:aY (λb=>b=l\/b=l) s.heap (s.heap.update l (Obj.mapSeq (·.setIfInBounds kk y))):=(aY.same (Heap.SameBut.update ..) e).mono λ_ _ _ q=>.inl q
   have nx:aK A env μ μ s ({s with heap:=s.heap.update l (Obj.mapSeq (·.setIfInBounds kk y))}:Shared):=aK.put hq k1 rfl rfl
   exact ac.ok h (y:=()) nx (o.put hq k1 ⟨rfl,_,⟨_,e⟩,by rw[Array.toList_setIfInBounds,J7];exact(hz.nxt o nx).set kk v y (rv.nxt o nx),Array.size_setIfInBounds.symm▸cL⟩) trivial
  rcases pl.2 with e|e
  · exact ki_setAt (n:=ep) hl (e▸Int.natCast_nonneg k) bd.2 (e▸Int.ofNat_lt.mpr pl.1) (fm _ (e▸rfl))
  · exact ki_setBack (n:=ep) hl e.1 e.2.1 bd.1 (fm _ (e.2.2▸rfl)))
  λh=>bk h λp hp h=>bk h λk hk h=>bA h λhf h=>by
   refine mi o hp ra λd l _ hq d1 e1 z1 cL=>?_
   refine fZ hk ri λt=>?_
   refine wpAny_setItem_pairs (strKind_is _ _ _ _) e1 (λh' e sb=>?_) (gn cL)
   obtain⟨od,e0⟩:∃o,h'.get? d=some o:=e.imp λo x=>x.elim λes x=>x.elim λep x=>x.1
   have k1:aY (λb=>b=d\/b=d) s.heap h':=(aY.same sb e0).mono λ_ _ _ q=>.inl q
   have nx:aK A env μ μ s ({s with heap:=h',toks:=s.toks+1}:Shared):=aK.put hq k1 rfl rfl
   have z2:=BI (k:=k) (rv.nxt o nx) (z1.mono λ_ _ q=>⟨q.1,q.2.nxt o nx⟩) (Wi e1)
   exact ac.ok h (y:=()) nx (o.put hq k1 ⟨rfl,d1,_,e,z2,z2.length▸gk.mp hf⟩) trivial
end
section
variable{c:Cx}{X:Addr->Prop}{A:Around}{env:Env}{fr:Fr}{μ av:Mu}{σ ba:Sg}{s s':Shared}{E:Value->Shared->Prop}{n:Nat}{K:Frag}{ih:Ev}
def SA(c:Cx)(n:Nat)(f:Fr->Mine.E->V->Sg->R Unit):Prop:=∀X A env fr μ σ s t v y Q E,aJ c n A env fr->Ok c X A env fr μ σ s->ad c X μ s.heap v y->ac c X A env fr DU μ s (f fr t v σ) Q E->wpAny c.M A (PySem.assign (an c.nm t) env y) Q E s
theorem Bd(G:bq c K)(S:SE c n ih.eE):SA c n (uX c.T ih):=by
 intro X A env fr μ σ s t v y Q E eo o rv h
 cases t with
 |name x p=>exact assign_Name (Kt eo o G.inj rv h)
 |attr ob a p=>
  have h:=h
  show wpAny c.M A (PySem.assign (.Attribute (an c.nm ob) (c.nm a) (aE p)) env y) Q E s
  rw[arm_assign_Attribute]
  refine ah (d9 (S X A env fr μ σ s ob _ E eo o (ac.bind (D':=DV c X) h λw aM ao z s₁ n₁ aC bj h₁=>?_)))
  exact ah (gf (ah (d9 (XH G aC bj (rv.nxt o n₁) (h₁.imp λ_ _ q=>wpAny_release q)))))
 |sub ob i p=>
  have h:=h
  show wpAny c.M A (PySem.assign (.Subscript (an c.nm ob) (an c.nm i) (aE p)) env y) Q E s
  rw[arm_assign_Subscript]
  refine ah (d9 (S X A env fr μ σ s ob _ E eo o (ac.bind (D':=DV c X) h λw aM ao z s₁ n₁ aC bj h₁=>?_)))
  refine ah (d9 (S X A env fr ao aM s₁ i _ E eo aC (ac.bind (D':=DV c X) h₁ λw' σ₂ a9 z' aB bG bc dE bh=>?_)))
  exact ah (gf (ah (d9 (Y3 bc (bj.nxt aC bG) dE ((rv.nxt o n₁).nxt aC bG) (bh.imp λ_ _ q=>wpAny_release q)))))
 |_=>exact h.elim
theorem xr(nm:Nat->Str)(e:Mine.E)(r:List Expr)(env:Env):assignEach (an nm e::r) env=(false,PySem.assign (an nm e) env)::assignEach r env:=by cases e<;>rfl
theorem Xs(nm:Nat->Str)(env:Env)(es:List Mine.E):(assignEach (bC nm es) env).length=es.length:=by
 induction es with
 |nil=>rfl
 |cons e r ih=>exact(aq List.length (xr nm e (bC nm r) env)).trans (aq Nat.succ ih)
theorem Wq(nm:Nat->Str)(env:Env)(es:List Mine.E):(assignEach (bC nm es) env).findIdx? (·.1)=none:=by
 induction es with
 |nil=>rfl
 |cons e r ih=>show(assignEach (an nm e::bC nm r) env).findIdx? _=_;rw[xr,List.findIdx?_cons,ih];rfl
theorem Xb(F:SA c n f)(eo:aJ c n A env fr)(es:List Mine.E):∀{vs:List V} {ys:List Value} {μ:Mu} {σ:Sg} {s:Shared} {Q:Unit->Shared->Prop},
 Ok c X A env fr μ σ s->ay (ad c X μ s.heap) vs ys->ac c X A env fr DU μ s (r5 (f fr) es vs σ) Q E->wpAny c.M A (assignInOrder ((assignEach (bC c.nm es) env).map (·.2)) ys) Q E s:=by
 induction es with
 |nil=>
  intro vs ys μ σ s Q o z h
  cases z with
  |nil=>exact aS (h.ok (y:=()) .refl o trivial)
  |cons _ _=>exact h.elim
 |cons t r bP=>
  intro vs ys μ σ s Q o z h
  cases z with
  |nil=>exact h.elim
  |cons rv z=>
   show wpAny c.M A (assignInOrder ((assignEach (an c.nm t::bC c.nm r) env).map (·.2)) (_::_)) Q E s
   rw[xr,List.map_cons]
   exact wpAny_assignInOrder_more (F X A env fr μ σ s t _ _ _ E eo o rv (ac.bind (D':=DU) h λ_ aM ao y s₁ n₁ aC _ h₁=>bP aC (z.nxt o n₁) h₁))
theorem Ii(x:Heap.ExtBut h.objs.size h h'):aY (λ_=>False) h h':=.of λb o e=>x b o (Nat.ne_of_lt (Heap.lt_size e)) e
theorem FC(F:SA c n f)(eo:aJ c n A env fr)(o:Ok c X A env fr μ σ s){Q:Unit->Shared->Prop}(rv:ad c X μ s.heap v y)
 (h:ac c X A env fr DU μ s (uh (f fr) es v σ) Q E):wpAny c.M A (PySem.assign (an c.nm (.tup es p)) env y) Q E s:=
 bA h λht h=>bA h λhl h=>((hZ ht).mp rv).elim λa z=>z.elim λits z=>by
  have hn:(assignEach (bC c.nm es) env).length=its.size:=by
   rw[Xs,← Array.length_toList,z.2.2.2.length,← bH,← bH]
   exact bx.mp hl
  rw[z.1]
  exact wpAny_assign_Tuple eo.handled z.2.1 hn (Wq ..) λh' e=>
   have k:=Ii e
   have nx:aK A env μ μ s ({s with heap:=h'}:Shared):=aK.add k rfl rfl
   Xb F eo es (o.add k) (z.2.2.2.nxt o nx) (h.shift nx)
theorem ut(h:kX e=some es):∃p,e=.tup es p:=by cases e<;>first|exact ns h|exact⟨_,aq (E.tup · _) (af h)⟩
theorem Zu(G:bq c K)(S:SE c n ih.eE):SA c n (oZ c.T ih):=λX A env fr μ σ s t v y Q E eo o rv h=>
 fq h (λes he h=>(ut he).elim λp e=>e▸FC (f:=uX c.T ih) (Bd G S) eo o rv h) λh=>Bd G S X A env fr μ σ s _ v y Q E eo o rv h
theorem wD(G:bq c K)(S:SE c n ih.eE):SA c n (Mine.assign c.T ih):=λX A env fr μ σ s t v y Q E eo o rv h=>
 fq h (λes he h=>(ut he).elim λp e=>e▸FC (f:=oZ c.T ih) (Zu G S) eo o rv h) λh=>Bd G S X A env fr μ σ s _ v y Q E eo o rv h
theorem Ok.same_r(o:Ok c X A env fr μ σ s)(h:∀x v,au r x=some v->au σ.r x=some v):Ok c X A env fr μ ⟨σ.H,r⟩ s:=
 ⟨o.len,o.obj,o.apart,o.new,o.ns.imp λm y=>⟨y.1,λx v e=>y.2 x v (h x v e)⟩,o.lout,o.cells,o.stays,o.frs,o.tabs,o.xlt⟩
theorem IZ(k:∀e,f e=true->g (an nm e)=false)(es:List Mine.E):es.any f=true->(bC nm es).all g=false:=by
 induction es with
 |nil=>exact λh=>ft h
 |cons e r ih=>exact λh=>Bool.and_eq_false_iff.mpr ((Bool.or_eq_true_iff.mp h).imp (k e) ih)
theorem xW(G:bq c K)(h:sI e=true)(n:Nat):constantsAlone n (an c.nm e)=false:=by
 cases e<;>first|exact ft h|exact Nat.casesOn n rfl λ_=>rfl|exact Nat.casesOn n (G.nodebug _) λ_=>G.nodebug _
theorem UE(G:bq c K)(h:wu e=true):constantsAlone 8 (an c.nm e)=false:=by
 cases e with
 |sub o i p=>exact Bool.and_eq_false_iff.mpr (.inl (xW G h 7))
 |bin op l r p=>exact Bool.and_eq_false_iff.mpr (.inl (xW G h 7))
 |tup es p=>exact IZ (λe h=>xW G h 7) es h
 |_=>refine xW G ?_ 8;exact h
end
section
variable{c:Cx}{X:Addr->Prop}{A:Around}{env:Env}{fr:Fr}{μ av:Mu}{σ ba:Sg}{s s':Shared}{E:Value->Shared->Prop}{n:Nat}{K:Frag}{ih:Ev}
def oG(env:Env)(line:Nat):Expr->Option Str:=λ
 |.Name id pos=>if env.kindOf id==some .local&&pos.line==line then some id else none
 |_=>none
theorem wk{α:Type}{P:α->Prop}{x y:α}(hx:P x)(hy:b=false->P y):P (if b=true then x else y):=by
 cases b with|false=>exact hy rfl|true=>exact hx
def HB(env:Env)(ts:List Expr)(z:Sem (Option (List Str))):Prop:=z=pure none\/∃line,(ts.filterMap (oG env line)).length=ts.length/\z=pure (some (ts.filterMap (oG env line)))
theorem Pd{a b:Nat}(hc:vs.all (constantsAlone 8)=false):HB env ts (swappedStores [.Tuple ts a p] (.Tuple vs b q) env):=
 wk (P:=HB env ts) (Or.inl rfl) λ_=>wk (Or.inl rfl) λ_=>wk (Or.inl rfl) λh=>wk (Or.inl rfl) λ_=>Or.inr ⟨_,bne_eq_false_iff_eq.mp (Bool.or_eq_false_iff.mp h).1,ax (Bool.eq_false_iff.mp hc)⟩
abbrev uU(e:Mine.E)(x:Nat):Prop:=∃p,e=.name x p
theorem B0(h:uv e=some x):uU e x:=by cases e<;>first|exact ns h|exact⟨_,aq (E.name · _) (af h)⟩
theorem UZ(ts:List Mine.E):∀{xs:List Nat},wQ ts=some xs->ay uU ts xs:=by
 induction ts with
 |nil=>exact λh=>af h▸.nil
 |cons t r ih=>exact λh=>on h λx hx h=>on h λl hl h=>af h▸.cons (B0 hx) (ih hl)
theorem WM(h:(oG env line (.Name (c.nm x) (aE p))).isSome=true):oG env line (.Name (c.nm x) (aE p))=some (c.nm x)/\env.kindOf (c.nm x)=some .local:=by
 have e:oG env line (.Name (c.nm x) (aE p))=if env.kindOf (c.nm x)==some .local&&(aE p).line==line then some (c.nm x) else none:=rfl
 rw[e] at h ⊢
 cases hb:(env.kindOf (c.nm x)==some .local&&(aE p).line==line) with
 |true=>exact⟨rfl,beq_iff_eq.mp (Bool.and_eq_true_iff.mp hb).1⟩
 |false=>rw[hb] at h;exact ft h
theorem UH(z:ay uU ts xs):(∀e∈bC c.nm ts,(oG env line e).isSome=true)->(bC c.nm ts).filterMap (oG env line)=xs.map c.nm/\∀x∈xs,env.kindOf (c.nm x)=some .local:=by
 induction z with
 |nil=>exact λ_=>⟨rfl,λ_ h=>nomatch h⟩
 |cons e _ ih=>
  intro h
  obtain⟨p,e⟩:=e
  subst e
  have i:=ih λe he=>h e (.tail _ he)
  have w:=WM (h _ (.head _))
  exact⟨(List.filterMap_cons_some w.1).trans (aq _ i.1),bD ⟨w.2,i.2⟩⟩
theorem DX(eo:aJ c n A env fr)(hk:env.kindOf (c.nm x)=some .local)(v:V)(σ:Sg):qG fr x v σ=.ok () ⟨σ.H,kA σ.r x v⟩:=by
 unfold qG;rw[eo.kk x hk];rfl
theorem ct(h:aa b true x=false):b=false/\x=false:=by cases b with|true=>exact tf h|false=>exact⟨rfl,h⟩
theorem cf(h:aa b false x=true):b=false/\x=true:=by cases b with|true=>exact ft h|false=>exact⟨rfl,h⟩
noncomputable abbrev pe(r:List (Nat×V))(p:Nat×V):List (Nat×V):=kA r p.1 p.2
theorem aab(ps:List (Nat×V)):eN p.1 (ps.map (·.1))=false->au (ps.foldr (λq r=>pe r q) (pe r p)) y=if p.1=y then some p.2 else au (ps.foldr (λq r=>pe r q) r) y:=by
 induction ps with
 |nil=>exact λ_=>oH ..
 |cons q t ih=>
  intro h
  have h2:=ct (h)
  rw[List.foldr_cons,List.foldr_cons,oH,oH,ih h2.2]
  by_cases e:q.1=y
  · rw[aG e,aG e,ax λw=>ee.mp h2.1 (w.trans e.symm)]
  · rw[ax e,ax e]
theorem Zy(ps:List (Nat×V)):∀{r:List (Nat×V)},l7 (ps.map (·.1))=true->au (ps.foldl pe r) y=au (ps.foldr (λq r=>pe r q) r) y:=by
 induction ps with
 |nil=>exact λ_=>rfl
 |cons p t ih=>
  intro r h
  have h2:=cf (h)
  rw[List.foldl_cons,ih h2.2,aab t h2.1,List.foldr_cons,oH]
theorem Zv(G:bq c K)(eo:aJ c n A env fr){Q:Unit->Shared->Prop}:∀{ys:List Value} {μ:Mu} {σ:Sg} {s:Shared},(∀p∈ps,env.kindOf (c.nm p.1)=some .local)->Ok c X A env fr μ σ s->ay (λp y=>ad c X μ s.heap p.2 y) ps ys->
 (∀av s',aK A env μ av s s'->Ok c X A env fr av ⟨σ.H,ps.foldl pe σ.r⟩ s'->Q () s')->wpAny c.M A (assignInOrder ((ps.map λp=>c.nm p.1).map λn=>bindName env n) ys) Q E s:=by
 induction ps with
 |nil=>exact λhx o z hQ=>by cases z with|nil=>exact wpAny_assignInOrder_none (hQ _ _ .refl o)
 |cons p r bP=>
  intro ys μ σ s hx o z hQ
  cases z with
  |cons rv z=>
   exact wpAny_assignInOrder_more (wpAny_bindName (Kt eo o G.inj rv (by
    rw[DX eo (hx p (.head _))]
    exact λao s₁ _ n₁ aC _=>bP (λq hq=>hx q (.tail _ hq)) aC (z.mono λ_ _ q=>q.nxt o n₁) λa9 aB bG bc=>hQ a9 aB (n₁.trans bG) bc)))
theorem XE(eo:aJ c n A env fr)(z:ay uU ts xs):(∀x∈xs,env.kindOf (c.nm x)=some .local)->∀{vs:List V} {σ:Sg},xs.length=vs.length->r5 (oZ T ih fr) ts vs σ=.ok () ⟨σ.H,(xs.zip vs).foldl pe σ.r⟩:=by
 induction z with
 |nil=>intro _ vs σ h;cases vs with|nil=>rfl|cons=>exact nomatch h
 | @cons _ _ tr _ e _ yE=>
  intro hx vs σ h
  obtain⟨p,e⟩:=e
  subst e
  cases vs with
  |nil=>exact nomatch h
  |cons v r=>exact(aq (λz=>R.bind z λ_ s'=>r5 (oZ T ih fr) tr r s') (DX eo (hx _ (.head _)) v σ)).trans (yE (λx h=>hx x (.tail _ h)) (Nat.succ.inj h))
theorem ay.reverse{α β:Type}{P:α->β->Prop}{l:List α}{m:List β}(x:ay P l m):ay P l.reverse m.reverse:=by
 induction x with
 |nil=>exact .nil
 |cons p _ ih=>rw[List.reverse_cons,List.reverse_cons];exact ih.append (.cons p .nil)
theorem ay.zip{α β γ:Type}{P:α->β->Prop}{l:List α}{m:List β}(x:ay P l m):∀{k:List γ},k.length=l.length->ay (λp y=>P p.2 y) (k.zip l) m:=by
 induction x with
 |nil=>exact λ{k} h=>by rw[List.zip_nil_right];exact .nil
 |cons p _ ih=>exact λ{k} h=>by cases k with|nil=>exact nomatch h|cons=>exact .cons p (ih (Nat.succ.inj h))
theorem Re(G:bq c K)(eo:aJ c n A env fr)(o:Ok c X A env fr μ σ s){xs:List Nat}{ts:List Mine.E}{Q:Unit->Shared->Prop}(hv:xs.length=vs.length)
 (hd:l7 xs=true)(hx:∀x∈xs,env.kindOf (c.nm x)=some .local)(hts:ay uU ts xs)(z:ay (ad c X μ s.heap) vs ys)
 (h:ac c X A env fr DU μ s (r5 (oZ c.T ih fr) ts vs σ) Q E):wpAny c.M A (assignInOrder ((xs.map c.nm).reverse.map λn=>bindName env n) ys.reverse) Q E s:=by
 rw[XE eo hts hx hv] at h
 have e:(xs.map c.nm).reverse=(xs.zip vs).reverse.map λp=>c.nm p.1:=by
  rw[List.map_reverse];exact aq List.reverse ((aq (List.map c.nm) (List.map_fst_zip (Nat.le_of_eq hv)).symm).trans List.map_map)
 rw[e]
 refine Zv G eo (λp hp=>hx _ (List.of_mem_zip (List.mem_reverse.mp hp)).1) o (z.zip hv).reverse λao s₁ n₁ aC=>ac.ok h n₁ (aC.same_r λy v e=>?_) trivial
 rw[List.foldl_reverse,← Zy _ (by rw[List.map_fst_zip (Nat.le_of_eq hv)];exact hd)]
 exact e
end
section
variable{c:Cx}{X:Addr->Prop}{A:Around}{env:Env}{fr:Fr}{μ av:Mu}{σ ba:Sg}{s s':Shared}{E:Value->Shared->Prop}{n:Nat}{K:Frag}{ih:Ev}
theorem Od(h:kX t=none)(hl:(!Ge t)=true)(v:Expr):swappedStores [an c.nm t] v env=pure none:=by cases t<;>first|rfl|exact sn h|exact ft hl
theorem UL(h:kX v=none):swappedStores [.Tuple ts a p] (an c.nm v) env=pure none:=by cases v<;>first|rfl|exact sn h
theorem Xq(eo:aJ c n A env fr)(o:Ok c X A env fr μ σ s){Q:List Value->Shared->Prop}(ht:ca v=true)(rv:ad c X μ s.heap v y)(hk:k=(gz v).length)
 (hQ:∀s' ys,aK A env μ μ s s'->Ok c X A env fr μ σ s'->ay (ad c X μ s'.heap) (gz v) ys->Q ys s'):wpAny c.M A (unpackItems y k none) Q E s:=
 ((hZ ht).mp rv).elim λa z=>z.elim λits z=>z.1▸hk▸z.2.2.2.length▸wpAny_unpackItems_tuple eo.handled z.2.1 λh' e=>
  have k:=Ii e
  have nx:aK A env μ μ s ({s with heap:=h'}:Shared):=aK.add k rfl rfl
  hQ _ _ nx (o.add k) (z.2.2.2.nxt o nx)
theorem CU(G:bq c K)(S:SE c n ih.eE)(eo:aJ c n A env fr)(o:Ok c X A env fr μ σ s){Q:Flow->Shared->Prop}(fo:wK t v=true)(hs:swapsWithSole [an c.nm t] (an c.nm v) (aE p).line env=pure false)
 (ev:∀{Q E},ac c X A env fr (DV c X) μ s r Q E->wpAny c.M A (eval (an c.nm v) env) Q E s)
 (h:ac c X A env fr (DF c X) μ s (r.bind λx s=>(Mine.assign c.T ih fr t x s).bind λ_ s=>.ok .next s) Q E):wpAny c.M A (exec (cT c.nm (.assign t v p)) env) Q E s:=by
 have plain:=λhw=>
  wpAny_Assign_stores (ev (ac.bind (D':=DV c X) h λx aM ao y s₁ n₁ aC bj h₁=>by
   rw[xr]
   exact wD G S X A env fr ao aM s₁ t x y _ E eo aC bj (ac.bind (D':=DU) h₁ λ_ σ₂ a9 _ aB bG bc _ bh=>bh.ok (y:=Flow.next) .refl bc trivial))) hs hw
 unfold wK at fo
 cases ht:kX t with
 |none=>rw[ht] at fo;exact plain (Od ht fo _)
 |some ts=>
  obtain⟨p1,e1⟩:=ut ht
  subst e1
  cases hv:kX v with
  |none=>exact plain (UL hv)
  |some vs=>
   obtain⟨p2,e2⟩:=ut hv
   subst e2
   have fo:aa (vs.any wu) (Option.rec false l7 (wQ ts)) false=true:=fo
   cases hh:vs.any wu with
   |false=>rw[hh] at fo;exact ft fo
   |true=>
    rw[hh] at fo
    cases hx:wQ ts with
    |none=>rw[hx] at fo;exact ft fo
    |some xs=>
     rw[hx] at fo
     have z:=UZ ts hx
     refine(Pd (env:=env) (ts:=bC c.nm ts) (a:=0) (b:=0) (p:=aE p1) (q:=aE p2) (IZ (λe h=>UE G h) vs hh)).elim plain λw=>w.elim λline w=>?_
     have k:=UH z (List.filterMap_length_eq_length.mp w.1)
     have w2:=w.2
     rw[k.1] at w2
     refine Assign_Tuple_swapped (ev (ac.bind (D':=DV c X) h λx aM ao y s₁ n₁ aC bj h₁=>?_)) hs w2
     have h₁:ac c X A env fr (DF c X) ao s₁ ((uh (oZ c.T ih fr) ts x aM).bind λ_ s=>.ok .next s) Q E:=h₁
     unfold uh at h₁
     cases ht:ca x with
     |false=>rw[ht] at h₁;exact h₁.elim
     |true=>
      cases hn:Nat.beq (len ts) (len (gz x)) with
      |false=>rw[ht,hn] at h₁;exact h₁.elim
      |true=>
       rw[ht,hn] at h₁
       have hn:=z.length.trans (bH ts▸bH (gz x)▸bx.mp hn)
       rw[List.length_map]
       exact Xq eo aC ht bj hn λaB ys bG bc w=>
        Re G eo bc hn fo k.2 z w (ac.bind (D':=DU) (h₁.shift bG) λ_ yG jx _ dy lg hM _ cE=>cE.ok (y:=Flow.next) .refl hM trivial)
theorem YT(h:xZ v=false):swapsWithSole [an c.nm t] (an c.nm v) l env=pure false:=by cases v<;>first|rfl|exact tf h
theorem VG(G:bq c K)(S:SE c n ih.eE)(eo:aJ c n A env fr)(o:Ok c X A env fr μ σ s){Q:Flow->Shared->Prop}(hc:xZ v=false)
 (h:ac c X A env fr (DF c X) μ s (Ca c.T ih t v fr σ) Q E):wpAny c.M A (exec (cT c.nm (.assign t v p)) env) Q E s:=
 bA h λfo h=>CU G S eo o (r:=ih.eE v fr σ) fo (YT hc) (λ{Q E} h=>S X A env fr μ σ s v Q E eo o h) (by unfold Ed at h;rw[hc] at h;exact h)
end
def SV(c:Cx)(n:Nat)(f:V->List V->Sg->R V):Prop:=∀X A env fr μ σ s fv vs x xs Q E,aJ c (n+1) A env fr->Ok c X A env fr μ σ s->ad c X μ s.heap fv x->ay (ad c X μ s.heap) vs xs->ac c X A env fr (DV c X) μ s (f fv vs σ) Q E->
 (∃k,(k=Keeper.frame\/k=Keeper.machine\/k=Keeper.boundFrame)/\Looks c.M s.heap (keeperOf x) k)/\wpAny c.M A (PySem.call x xs) Q E s
structure nS(c:Cx)(A:Around)(x:Value)(name:Str)(f:Value)(first:List Value)(s:Shared):Prop where
 get:∀pl Q E,Q (f,first) s->wpAny c.M A (getMethod x name pl) Q E s
section
variable{c:Cx}{X:Addr->Prop}{A:Around}{env:Env}{fr:Fr}{μ av:Mu}{σ ba:Sg}{s s':Shared}{E:Value->Shared->Prop}{n:Nat}{K:Frag}{ih:Ev}
theorem FA(nm:Nat->Str)(env:Env)(pos:Pos)(es:List Mine.E):(backTo pos (starEach (bC nm es) env)).any (·.1)=false:=by
 induction es with
 |nil=>rfl
 |cons e r ih=>show(backTo pos (starEach (an nm e::bC nm r) env)).any _=_;rw[AF];exact ih
theorem Rq(nm:Nat->Str)(es:List Mine.E):(bC nm es).length=es.length:=by induction es with|nil=>rfl|cons e r ih=>exact aq (· +1) ih
theorem sY(S:SE c n ih.eE)(eo:aJ c n A env fr)(o:Ok c X A env fr μ σ s){Q:Value->Shared->Prop}
 (h:ac c X A env fr (DL c X) μ s (jE ih fr es σ) (λys s₁=>(∃k,(k=Keeper.frame\/k=Keeper.machine\/k=Keeper.boundFrame)/\Looks c.M s₁.heap (keeperOf f) k)/\wpAny c.M A (PySem.call f (first++ys)) Q E s₁) E):
 wpAny c.M A (callWith pos f first (backTo pos (starEach (bC c.nm es) env)) []) Q E s:=by
 refine callWith_of (P:=λh=>∃k,(k=Keeper.frame\/k=Keeper.machine\/k=Keeper.boundFrame)/\Looks c.M h (keeperOf f) k) (by rw[FA];rfl) (λ_ x=>x) ?_
 cases es with
 |nil=>exact evalArgs_nil3 (h.ok .refl o .nil)
 |cons e r=>
  have q:=xA (pos:=pos) S eo (e::r) o h
  have e1:backTo pos (starEach (bC c.nm (e::r)) env)=(false,eval (an c.nm e) env)::backTo pos (starEach (bC c.nm r) env):=by
   show backTo pos (starEach (an c.nm e::bC c.nm r) env)=_
   rw[AF,Go]
  rw[e1] at q ⊢
  exact Calls.evalArgs_plain q
theorem Sk(S:SE c n ih.eE)(C:SV c n (yz c.T ih))(eo:aJ c (n+1) A env fr)(o:Ok c X A env fr μ σ s){Q:Value->Shared->Prop}(hf:IB f=none)
 (h:ac c X A env fr (DV c X) μ s (KI c.T ih f es fr σ) Q E):wpAny c.M A (eval (an c.nm (.call f es p)) env) Q E s:=by
 refine Call_ (S X A env fr μ σ s f _ E eo.of_succ o (ac.bind (D':=DV c X) h λfv aM ao x s₁ n₁ aC bj h₁=>?_)) (by cases f<;>first|rfl|exact sn hf)
 exact sY S eo.of_succ aC (ac.bind (D':=DL c X) h₁ λvs σ₂ a9 ys aB bG bc dE bh=>C X A env fr a9 σ₂ aB fv vs x ys Q E eo bc (bj.nxt aC bG) dE bh)
theorem Ln(S:SE c n ih.eE)(eo:aJ c n A env fr)(o:Ok c X A env fr μ σ s){Q:Value->Shared->Prop}
 (hl:Nat.beq (aE p).endLine (aE q).line=true)(hn:Nat.blt (len es) 30=true)(M:nS c A x (c.nm a) f first s)
 (h:ac c X A env fr (DL c X) μ s (jE ih fr es σ) (λys s₁=>(∃k,(k=Keeper.frame\/k=Keeper.machine\/k=Keeper.boundFrame)/\Looks c.M s₁.heap (keeperOf f) k)/\wpAny c.M A (PySem.call f (first++ys)) Q E s₁) E):
 wpAny c.M A (methodCall (an c.nm ob) (c.nm a) (aE p) (aE q) env x ((bC c.nm es).length+([]:List Keyword).length) (backTo (aE q) (starEach (bC c.nm es) env)) (backToKw (aE q) (keywordEach [] env))) Q E s:=by
 have C4:methodCallForm ((bC c.nm es).length+([]:List Keyword).length) (backTo (aE q) (starEach (bC c.nm es) env)) (backToKw (aE q) (keywordEach [] env))=true:=by
  have h1:(backTo (aE q) (starEach (bC c.nm es) env)).all (λx=> !x.1)=true:=List.all_eq_true.mpr λt ht=>by rw[Bool.eq_false_iff.mpr (List.any_eq_false.mp (FA c.nm env (aE q) es) t ht)];rfl
  have h2:(bC c.nm es).length+0<30:=by rw[Rq,← bH];exact cH hn
  unfold methodCallForm
  rw[h1]
  exact decide_eq_true h2
 have C5:methodCallPos true (an c.nm ob) env (aE p) (aE q)=pure (aE q):=by
  unfold methodCallPos
  rw[beq_iff_eq.mpr (bx.mp hl)];rfl
 unfold methodCall
 rw[C4]
 refine ah (d9 (M.get _ _ _ ?_))
 refine ah (wpAny_of_eq C5 ?_)
 exact sY S eo o h
theorem KH(G:bq c K)(o:Ok c X A env fr μ σ s)(hk:Nat.blt k c.T.nfn=true):∃j,(j=Keeper.frame\/j=Keeper.machine\/j=Keeper.boundFrame)/\Looks c.M s.heap (keeperOf (.ref (c.fnA k))) j:=
 keeps_K (G.keepF k (cH hk)) _ (o.kin G)
end
def pR(slots:List (Str×Value))(p:Str×Value):List (Str×Value):=if (slots.lookup p.1).isNone=true then slots++[p] else slots
theorem W2(l:List (Str×Value))(p:Str×Value)(x:Str):(l++[p]).lookup x=(l.lookup x).or ([p].lookup x):=by
 induction l with
 |nil=>rfl
 |cons a r ih=>rw[List.cons_append,fy,fy,ih];cases x==a.1<;>rfl
theorem XI(sl:List (Str×Value))(p:Str×Value)(x:Str):(pR sl p).lookup x=(sl.lookup x).or ([p].lookup x):=by
 unfold pR
 cases h:sl.lookup p.1 with
 |none=>exact W2 ..
 |some y=>
  show sl.lookup x=_
  cases hx:sl.lookup x with
  |some _=>rfl
  |none=>
   rw[Option.none_or,fy,beq_false_of_ne (λe=>cg h (by rw[← e];exact hx):x≠p.1)];rfl
theorem NM(x:Str)(l:List (Str×Value)):∀sl,(l.foldl pR sl).lookup x=(sl.lookup x).or (l.lookup x):=by
 induction l with
 |nil=>exact λsl=>(Option.or_none).symm
 |cons p r ih=>
  intro sl
  rw[List.foldl_cons,ih,XI,Option.or_assoc,fy,fy];cases x==p.1<;>rfl
theorem P3(l:List Str):∀{k:Nat} {ys:List Value},k<=ys.length->x∈l.take k->((l.zip ys).lookup x).isSome=true:=by
 induction l with
 |nil=>exact λ{k ys} _ h=>by rw[List.take_nil] at h;exact nomatch h
 |cons a l ih=>
  intro k ys hk h
  cases k with
  |zero=>exact nomatch h
  |succ k=>
   cases ys with
   |nil=>exact nomatch hk
   |cons y ys=>
    rw[List.zip_cons_cons,fy]
    cases e:x==a with
    |true=>rfl
    |false=>exact ih (Nat.le_of_succ_le_succ hk) ((List.mem_cons.mp h).resolve_left λw=>Bool.eq_false_iff.mp e (beq_iff_eq.mpr w))
abbrev l6(l1 l2:List (Str×Value))(n:Str):Option (Str×Value):=((l1.lookup n).or (l2.lookup n)).map (n,·)
theorem Iu(l:List Str)(h:∀n∈l,f n=g n):l.filterMap f=l.filterMap g:=by
 induction l with
 |nil=>rfl
 |cons a l ih=>rw[List.filterMap_cons,List.filterMap_cons,h a (.head _),ih λn hn=>h n (.tail _ hn)]
theorem Bh{r:List (Str×Value)}(nd:a∉l)(h1:f a=some (a,v))(h2:∀n,(n==a)=false->f n=g n)(ih:l.filterMap g=r):(a::l).filterMap f=(a,v)::r:=by
 rw[List.filterMap_cons_some h1,Iu l λn hn=>h2 n (beq_false_of_ne λe=>nd (e▸hn)),ih]
theorem SI(l:List Str):∀{k:Nat} {ys ds:List Value},l.Nodup->ds.length+k=l.length->k<=ys.length->ys.length<=l.length->l.filterMap (l6 (l.zip ys) ((l.drop k).zip ds))=l.zip (ys++ds.drop (ys.length-k)):=by
 induction l with
 |nil=>exact λ_ _ _ _=>rfl
 |cons a l ih=>
  intro k ys ds nd h1 h2 h3
  have nd:=List.nodup_cons.mp nd
  cases ys with
  |nil=>
   cases k with
   |succ k=>exact nomatch h2
   |zero=>
    cases ds with
    |nil=>exact nomatch h1
    |cons d ds=>exact Bh nd.1 (by unfold l6;rw[List.drop_zero,List.zip_cons_cons,fy,beq_self_eq_true];rfl) (λn e=>by unfold l6;rw[List.drop_zero,List.zip_cons_cons,fy,e,List.zip_nil_right,List.zip_nil_right,List.drop_zero]) (ih (k:=0) (ys:=[]) (ds:=ds) nd.2 (Nat.succ.inj h1) (Nat.le_refl _) (Nat.zero_le _))
  |cons y ys=>
   have hy:∀L,l6 ((a::l).zip (y::ys)) L a=some (a,y):=λL=>by unfold l6;rw[List.zip_cons_cons,fy,beq_self_eq_true];rfl
   have hn:∀L n,(n==a)=false->l6 ((a::l).zip (y::ys)) L n=l6 (l.zip ys) L n:=λL n e=>by unfold l6;rw[List.zip_cons_cons,fy,e]
   have h3:=Nat.le_of_succ_le_succ h3
   cases k with
   |succ k=>exact(Bh nd.1 (hy _) (hn _) (ih nd.2 (Nat.succ.inj h1) (Nat.le_of_succ_le_succ h2) h3)).trans (by rw[List.length_cons,Nat.succ_sub_succ];rfl)
   |zero=>
    cases ds with
    |nil=>exact nomatch h1
    |cons d ds=>exact Bh nd.1 (hy _) (λn e=>(hn _ n e).trans (by unfold l6;rw[List.drop_zero,List.zip_cons_cons,fy,e];rfl)) (ih (k:=0) nd.2 (Nat.succ.inj h1) (Nat.zero_le _) h3)
section
variable{M:Model}{A:Around}{E:Value->Shared->Prop}{s:Shared}
theorem QF(l:List (Str×Value)):∀{sl:List (Str×Value)} {Q:List (Str×Value)->Shared->Prop},Q (l.foldl pR sl) s->
 wpAny M A (forIn l sl λx r=>if (r.lookup x.1).isNone=true then pure (ForInStep.yield (r++[x])) else pure (ForInStep.yield r)) Q E s:=by
 induction l with
 |nil=>exact λh=>aS h
 |cons p r ih=>
  intro sl Q h
  rw[List.forIn_cons]
  have e:(if (sl.lookup p.1).isNone=true then pure (ForInStep.yield (sl++[p])) else pure (ForInStep.yield sl):Sem (ForInStep (List (Str×Value))))=pure (ForInStep.yield (pR sl p)):=by unfold pR;split<;>rfl
  rw[e]
  exact ah (aS (ih h))
theorem uL{β:Type}{p:Prop}[Decidable p]{x y:Sem β}{Q:β->Shared->Prop}(h:¬p)(k:wpAny M A y Q E s):wpAny M A (ite p x y) Q E s:=(ax h).symm▸k
theorem Td{fd:FuncData}{Q:List (Str×Value)->Shared->Prop}(hL:args.map (·.arg)=L)
 (C6:(od.getD #[]).toList=ds)(hd:∀Q,Q od s->wpAny M A (seqItems? fd.defaults) Q E s)(nd:L.Nodup)(h1:ds.length+k=L.length)(h2:k<=ys.length)(h3:ys.length<=L.length)
 (hQ:Q (L.zip (ys++ds.drop (ys.length-k))) s):wpAny M A (bindArgs {fd with params:=⟨[],args,none,[],[],none,j9⟩} ⟨ys,[]⟩) Q E s:=by
 have e1:ds.drop (ds.length-L.length)=ds:=by rw[← h1,Nat.sub_eq_zero_of_le (gJ ..)];rfl
 have e2:L.length-ds.length=k:=by rw[← h1];exact Nat.add_sub_cancel_left ..
 have g1:¬(decide (ys.length>L.length)&&true)=true:=λh=>Nat.not_lt_of_le h3 (of_decide_eq_true (Bool.and_eq_true_iff.mp h).1)
 have g2:¬(!((L.take (L.length-(ds.drop (ds.length-L.length)).length)).filter (λn=>((L.zip ys).lookup n).isNone)).isEmpty)=true:=by
  rw[e1,e2,List.filter_eq_nil_iff.mpr λn hn w=>(Option.isSome_iff_exists.mp (P3 L h2 hn)).elim λy hy=>cg hy (Option.isNone_iff_eq_none.mp w)];exact λh=>ft h
 have g3:(L++([]:List Str)).filterMap (λn=>((((L.drop (L.length-(ds.drop (ds.length-L.length)).length)).zip (ds.drop (ds.length-L.length))).foldl pR (L.zip ys)).lookup n).map (n,·))=L.zip (ys++ds.drop (ys.length-k)):=by
  rw[e1,e2,List.append_nil,← SI L nd h1 h2 h3]
  exact Iu L λn _=>aq _ (NM ..)
 subst C6 hL
 refine ah (aS (ah (hd _ (uL g1 (uL g2 (ah (QF _ (ah (aS (uL (λh=>ft h) ?_))))))))))
 exact aS (g3.symm▸hQ)
theorem x0(hp:fd.params=⟨[],args,none,[],[],none,j9⟩){Q:List (Str×Value)->Shared->Prop}(hL:args.map (·.arg)=L)
 (C6:(od.getD #[]).toList=ds)(hd:∀Q,Q od s->wpAny M A (seqItems? fd.defaults) Q E s)(nd:L.Nodup)(h1:ds.length+k=L.length)(h2:k<=ys.length)(h3:ys.length<=L.length)
 (hQ:Q (L.zip (ys++ds.drop (ys.length-k))) s):wpAny M A (bindArgs fd ⟨ys,[]⟩) Q E s:=
 by
 have e:fd={fd with params:=⟨[],args,none,[],[],none,j9⟩}:=aq (λp=>({fd with params:=p}:FuncData)) hp
 rw[e]
 exact Td hL C6 hd nd h1 h2 h3 hQ
end
structure wZ(A:Around)(env:Env)(μ:Mu)(s:Shared)(A':Around)(env':Env)(ao:Mu)(s₁:Shared):Prop where
 only:aY (λ_=>False) s.heap s₁.heap
 ext:ce μ ao
 fresh:∀b,own ao b->own μ b\/s.heap.get? b=none
 loc:s.heap.get? env'.locals=none
 fs:∀l',A'.frames=some l'->∃l,A.frames=some l/\∀e∈l,e∈l'
 fsub:∀b∈Fs A',b=env'.locals\/b∈Fs A
 gens:s₁.gens=s.gens
 os:s₁.os=s.os
section
variable{c:Cx}{X:Addr->Prop}{A A' B:Around}{env env':Env}{fr cY:Fr}{μ ao a9:Mu}{σ aM σ₂:Sg}{s s₁ aB:Shared}{E:Value->Shared->Prop}{n:Nat}{K:Frag}{ih:Ev}{α β:Type}{D:Mu->Heap->α->β->Prop}
theorem de.trans{X X' MR:Addr->Prop}{h h' MS:Heap}(a:de X X' h h')(b:de X' MR h' MS):de X MR h MS:=
 ⟨λt its x y=>(a.tup t its x y).elim λp q=>b.tup t its p q,λt ob fd p q r=>(a.fn t ob fd p q r).elim λo1 z=>(b.fn t o1 fd z.1 (z.2.1.trans q) (z.2.2.trans r)).imp λo2 w=>⟨w.1,w.2.1.trans z.2.1,w.2.2.trans z.2.2⟩,
  λcd q x=>b.code cd q (a.code cd q x)⟩
theorem Ok.loc_data(o:Ok c X A env fr μ σ s):∃ob es n,s.heap.get? env.locals=some ob/\ob.data=.dict es n:=o.ns.elim λm y=>y.1.imp λob=>bf λes=>bf λep y=>⟨y.1,y.2.1⟩
theorem Ok.loc_nv(o:Ok c X A env fr μ σ s)(e:s.heap.get? env.locals=some ob):¬mn ob:=λv=>o.loc_data.elim λC7 z=>z.elim λes z=>z.elim λn z=>v.elim λvs w=>nomatch (z.2.symm.trans (aq Obj.data (bB z.1 e))).trans w.1
theorem wZ.back(En:wZ A env μ s A' env' ao s₁)(o:Ok c X A env fr μ σ s)(aC:Ok c X A' env' cY ao aM s₁)(nx:aK A' env' ao a9 s₁ aB)(bc:Ok c X A' env' cY a9 σ₂ aB):
 aK A env μ a9 s aB/\Ok c X A env fr a9 ⟨σ₂.H,σ.r⟩ aB:=
 have kp:=λb ob e=>En.only.2 b ob e id
 have nm:=λb ob e no q=>q.elim (λq=>(En.fresh b q).elim no λq=>cg e q) λq=>cg e (q▸En.loc)
 have step:∀b ob,s.heap.get? b=some ob->¬own μ b->¬mn ob->nF (Fs A) aB.heap b ob:=λb ob e no nv=>
  (nx.keep.2 b ob (kp b ob e) (nm b ob e no) nv).imp id λq=>⟨(En.fsub b q.1).elim (λw=>cg e (w▸En.loc)) id,q.2⟩
 have st:=(o.stays_of En.only λ_ _ _ f=>f.elim).trans (nx.stays aC)
 have ex:=En.ext.trans nx.ext
 have aao:=λb ob e no q=>(nx.fresh b q).elim (λq=>nm b ob e no (.inl q)) λq=>cg (kp b ob e) q
 ⟨⟨ex,λb q=>(nx.fresh b q).elim (En.fresh b) λq=>.inr (En.only.1.none q),⟨En.only.1.trans nx.keep.1,λb ob e no nv=>step b ob e (λq=>no (.inl q)) nv⟩,nx.gens.trans En.gens,nx.os.trans En.os⟩,
  bc.len,bc.obj,bc.apart,bc.new,o.ns.imp λm y=>⟨w8 y.1 λob e=>(step _ ob e o.lout.1 (o.loc_nv e)).some,λu v hu=>(y.2 u v hu).imp λ_ q=>⟨q.1,q.2.mono st ex⟩⟩,
  ⟨o.loc_mut.elim λob z=>aao _ ob z.1 o.lout.1,o.lout.2⟩,λx l hl=>(o.cells x l hl).imp λp q=>⟨ex _ _ q.1,q.2⟩,bc.stays,
  bc.frs.elim λl' z=>(En.fs l' z.1).imp λl w=>⟨w.1,λe he=>z.2.1 e (w.2 e he),λb hb=>z.2.2 b ((List.mem_filterMap.mp hb).elim λe q=>List.mem_filterMap.mpr ⟨e,w.2 e q.1,q.2⟩)⟩,bc.tabs,bc.xlt⟩
theorem ac.enter{Q:β->Shared->Prop}(h:ac c X A env fr D μ s (ju σ.r r) Q E)(En:wZ A env μ s A' env' ao s₁)(o:Ok c X A env fr μ σ s)(aC:Ok c X A' env' cY ao aM s₁):ac c X A' env' cY D ao s₁ r Q E:=by
 cases r with
 |ok a σ₂=>exact λa9 aB y nx bc d=>(En.back o aC nx bc).elim λn2 k2=>h a9 aB y n2 k2 d
 |exc k m v σ₂=>exact λa9 aB e nx bc d=>(En.back o aC nx bc).elim λn2 k2=>h a9 aB e n2 k2 (d.lower En.only.1)
 |stuck=>exact h.elim
theorem ac.leaveE(eo:aJ c n A env fr)(o:Ok c X A env fr μ σ s){Q:β->Shared->Prop}{E2:Value->Shared->Prop}(h:ac c X A env fr D μ s r Q E):
 ac c X A env fr D μ s r Q (λe s'=>wpAny c.M A (leaving env e) (λ_ vA=>E e vA) E2 s'):=by
 cases r with
 |ok a ba=>exact h
 |stuck=>exact h
 |exc k m v ba=>exact λav s' e nx o' x=>ah (Ad eo o' x nx.keep.1 o.stays λs₁ n₁ aC vy yF=>
  r4 aC vy (nx.keep.1.trans n₁.keep.1) o.stays λaB bG bc lc _=>h av aB e (nx.trans (n₁.trans bG)) bc lc)
theorem Ok.frame(o:Ok c X A env fr μ σ s)(k:aY (λ_=>False) s.heap s₁.heap)(hn:s₁.heap.Ns env'.locals λ_=>none)(hL:s.heap.get? env'.locals=none):Ok c X A env' ⟨sc,[],lm⟩ μ ⟨σ.H,[]⟩ s₁:=
 have y:=o.add (s':=s₁) k
 ⟨y.len,y.obj,y.apart,y.new,⟨_,hn,λx v h=>Mine.ns h⟩,⟨λq=>(o.own_mut q).elim λob z=>cg z.1 hL,o.fresh hL⟩,(λx l h=>Mine.ns h),y.stays,y.frs,y.tabs,y.xlt⟩
theorem Ok.setg(o:Ok c X A env fr μ σ s)(h:∀x l,au g x=some l->∃p,aj μ l=some p/\env.cells.lookup (c.nm x)=some p.1):Ok c X A env ⟨fr.sc,g,fr.lm⟩ μ σ s:=
 ⟨o.len,o.obj,o.apart,o.new,o.ns,o.lout,h,o.stays,o.frs,o.tabs,o.xlt⟩
def nT(c:Cx)(μ:Mu)(g:List (Nat×Nat))(cl:List (Str×Addr)):Prop:=∀x l,au g x=some l->∃p,aj μ l=some p/\cl.lookup (c.nm x)=some p.1
theorem yf(k:Nat):(kd k==NameKind.cell)=(k==1):=Nat.casesOn k rfl λk=>Nat.casesOn k rfl λk=>Nat.casesOn k rfl λ_=>rfl
structure T8(c:Cx)(X:Addr->Prop)(A:Around)(env':Env)(sc:List (Nat×Nat))(lm:Bool)(μ:Mu)(s:Shared)(p:HT×List (Nat×Nat))(h:Heap)(acc:List (Str×Addr))(av:Mu):Prop where
 ok:Ok c X A env' ⟨sc,[],lm⟩ av ⟨p.1,[]⟩ {s with heap:=h}
 rel:nT c av p.2 acc
 ext:ce μ av
 fresh:∀b,own av b->own μ b\/s.heap.get? b=none
 only:aY (λ_=>False) s.heap h
abbrev wW:Obj:={cls:=.type "cell",data:=.cell none}
theorem nT.cons(inj:∀i j,c.nm i=c.nm j->i=j)(h:nT c μ g acc)(x:Nat)(hp:aj ao l=some p)(e:ce μ ao):nT c ao ((x,l)::g) ((c.nm x,p.1)::acc):=λy k hy=>by
 rw[dA] at hy
 rw[fy]
 by_cases e1:x=y
 · rw[aG e1] at hy
   rw[beq_iff_eq.mpr (aq c.nm e1.symm)]
   exact⟨p,af hy▸hp,rfl⟩
 · rw[ax e1] at hy
   rw[beq_false_of_ne λq=>e1 (inj _ _ q).symm]
   exact(h y k hy).imp λq z=>⟨e _ _ z.1,z.2⟩
theorem IO(G:bq c K)(sc:List (Nat×Nat)):∀{μ:Mu} {H:HT} {g:List (Nat×Nat)} {acc:List (Str×Addr)} {s:Shared},Ok c X A env' ⟨sc0,[],lm⟩ μ ⟨H,[]⟩ s->nT c μ g acc->
 ∃av,T8 c X A env' sc0 lm μ s (eB (dm sc) H g) (pushCells s.heap (names c sc)) (cellsFrom s.heap.objs.size (names c sc) acc) av:=by
 induction sc with
 |nil=>exact λ{μ H g acc s} o hc=>⟨μ,o,hc,.refl _,λ_ q=>.inl q,.refl _ _⟩
 |cons p r ih=>
  intro μ H g acc s o hc
  cases hk:p.2==1 with
  |true=>
   have e1:dm (p::r)=p.1::dm r:=aq (List.map λq:Nat×Nat=>q.1) (List.filter_cons_of_pos (p:=λq:Nat×Nat=>q.2==1) hk)
   have vB:=(yf _).trans hk
   have e2:pushCells s.heap (names c (p::r))=pushCells (s.heap.push wW) (names c r):=aG vB
   have e3:cellsFrom s.heap.objs.size (names c (p::r)) acc=cellsFrom (s.heap.push wW).objs.size (names c r) ((c.nm p.1,s.heap.objs.size)::acc):=(aG vB).trans (by rw[Heap.size_push];rfl)
   have k1:aY (λ_=>False) s.heap (s.heap.push wW):=aY.push _ _ _
   have o':=o.new1 (s':={s with heap:=s.heap.push wW}) (p:=(s.heap.objs.size,s.heap.objs.size)) (o:=.cell none) k1 (dk _) (dk _) ⟨rfl,none,⟨_,d7 _ rfl,rfl⟩,trivial⟩
   have hlen:aj (μ++[(s.heap.objs.size,s.heap.objs.size)]) H.n=some (s.heap.objs.size,s.heap.objs.size):=o.last _
   rw[e1,e2,e3]
   exact(ih o' (hc.cons G.inj p.1 hlen (ce.app _ _))).imp λav w=>⟨w.ok,w.rel,(ce.app _ _).trans w.ext,λb q=>(w.fresh b q).elim (λq=>(mF.mp q).imp id λq=>q.elim (λe=>e▸dk _) λe=>e▸dk _) λq=>.inr (k1.1.none q),k1.trans w.only⟩
  |false=>
   have e1:dm (p::r)=dm r:=aq (List.map λq:Nat×Nat=>q.1) (List.filter_cons_of_neg (p:=λq:Nat×Nat=>q.2==1) (Bool.eq_false_iff.mp hk))
   have vB:=Bool.eq_false_iff.mp ((yf _).trans hk)
   have e2:pushCells s.heap (names c (p::r))=pushCells s.heap (names c r):=ax vB
   have e3:cellsFrom s.heap.objs.size (names c (p::r)) acc=cellsFrom s.heap.objs.size (names c r) acc:=ax vB
   rw[e1,e2,e3]
   exact ih o hc
theorem JG{E':Value->Shared->Prop}(inj:∀i j,c.nm i=c.nm j->i=j)(k0:∀x,au fr.sc x=some 0->env.kindOf (c.nm x)=some .local)(k1:∀x,au fr.sc x=some 1->env.kindOf (c.nm x)=some .cell)(kfun:env.scope.kind=.function){Q:Shared->Prop}
 (bs:List (Nat×V)):∀{ys:List Value} {μ:Mu} {σ:Sg} {s:Shared},Ok c X A env fr μ σ s->ay (λb y=>ad c X μ s.heap b.2 y) bs ys->ac c X A env fr DU μ s (rK fr bs σ) (λ(_:Unit)=>Q) E->
  wpAny c.M B (forIn ((bs.map λb=>c.nm b.1).zip ys) PUnit.unit λx _=>do storeName env x.1 x.2;pure (.yield ⟨⟩)) (λ_=>Q) E' s:=by
 induction bs with
 |nil=>exact λo z h=>aS (ac.ok h (y:=()) .refl o trivial)
 |cons b r ih=>
  intro ys μ σ s o z h
  cases z with
  |cons rv z=>
   rw[List.map_cons,List.zip_cons_cons,List.forIn_cons]
   exact ah (ah (Ka k0 k1 kfun o inj rv (ac.bind (D':=DU) h λ_ aM ao _ s₁ n₁ aC _ h₁=>aS (ih aC (z.mono λ_ _ q=>q.nxt o n₁) h₁))))
end
section
variable{c:Cx}{X:Addr->Prop}{A A' B:Around}{env env':Env}{fr cY:Fr}{μ ao a9:Mu}{σ aM σ₂:Sg}{s s₁ aB:Shared}{E:Value->Shared->Prop}{n:Nat}{K:Frag}{ih:Ev}
theorem G7(h:xH ps vs=some bs):ps.length=vs.length/\ps.zip vs=bs:=⟨bH ps▸bH vs▸bx.mp (cs h).1,(Mz ps vs).symm.trans (af (cs h).2)⟩
theorem wq(inj:∀i j,c.nm i=c.nm j->i=j)(sc:List (Nat×Nat))(x:Nat):(names c sc).lookup (c.nm x)=(au sc x).map kd:=by
 induction sc with
 |nil=>rfl
 |cons p r ih=>
  show List.lookup (c.nm x) ((c.nm p.1,kd p.2)::names c r)=(au ((p.1,p.2)::r) x).map kd
  rw[fy,dA,ih]
  by_cases e:p.1=x
  · rw[aG e,beq_iff_eq.mpr (aq c.nm e.symm)];rfl
  · rw[ax e,beq_false_of_ne λq=>e (inj _ _ q).symm]
theorem Fi(hs:∀p∈sc,p.2<=3)(h:au sc x=some k):k<=3:=by
 induction sc with
 |nil=>exact ns h
 |cons p r ih=>
  have h:=h
  rw[dA] at h
  have w:=ug hs
  by_cases e:p.1=x
  · exact bB (aG e) h▸w.1
  · exact ih w.2 ((ax e).symm.trans h)
structure Kb(c:Cx)(env:Env)(sc:List (Nat×Nat)):Prop where
 k0:∀x,au sc x=some 0->env.kindOf (c.nm x)=some .local
 k1:∀x,au sc x=some 1->env.kindOf (c.nm x)=some .cell
 k2:∀x,au sc x=some 2->env.kindOf (c.nm x)=some .free
 k3:∀x,au sc x=some 3->env.kindOf (c.nm x)=some .globalImplicit
 kl:∀x k,au sc x=some k->k<=3
 kk:∀x,env.kindOf (c.nm x)=some .local->au sc x=some 0
theorem zL(k:Nat):kd k=.local->k=0:=Nat.casesOn k (λ_=>rfl) λk=>Nat.casesOn k (λh=>NameKind.noConfusion h) λk=>Nat.casesOn k (λh=>NameKind.noConfusion h) λ_ h=>NameKind.noConfusion h
theorem E8(inj:∀i j,c.nm i=c.nm j->i=j)(h:env.scope.names=names c sc)(hs:∀p∈sc,p.2<=3):Kb c env sc:=
 have e:=λx=>(aq (List.lookup (c.nm x)) h).trans (wq inj sc x)
 have m:=λx k q=>(e x).trans (aq (Option.map kd) q)
 ⟨λx=>m x 0,λx=>m x 1,λx=>m x 2,λx=>m x 3,λx k q=>Fi hs q,λx q=>(Option.map_eq_some_iff.mp ((e x).symm.trans q)).elim λk w=>zL k w.2▸w.1⟩
theorem Ok.deeper(o:Ok c X A env fr μ σ s)(hf:env.frame=some env.locals)(hk:env.scope.kind=.function):Ok c X (A.deeper env) env fr μ σ s:=
 ⟨o.len,o.obj,o.apart,o.new,o.ns,o.lout,o.cells,o.stays,o.frs.elim λl y=>⟨env::l,aq (Option.map (env:: ·)) y.1,
  bD ⟨⟨λe=>ScopeKind.noConfusion (hk.symm.trans e),o.loc_data.elim λob z=>z.elim λes z=>z.elim λn z=>⟨env.locals,ob,hf,o.lout.2.1,z.1,λvs q=>nomatch z.2.symm.trans q⟩⟩,y.2.1⟩,
  λb hb=>(List.mem_filterMap.mp hb).elim λe q=>(List.mem_cons.mp q.1).elim (λw=>bB hf (w▸q.2)▸⟨o.lout.1,o.lout.2.2⟩) λw=>y.2.2 b (List.mem_filterMap.mpr ⟨e,w,q.2⟩)⟩,o.tabs,o.xlt⟩
structure y6(c:Cx)(sc:List (Nat×Nat))(lm:Bool)(env':Env)(L:Addr)(cells:List (Str×Addr)):Prop where
 loc:env'.locals=L
 cel:env'.cells=cells
 kd:Kb c env' sc
 fn:env'.scope.kind=.function
 gl:env'.globals=mainGlobals
 bi:env'.builtins=builtinsNs
 fr:env'.frame=some env'.locals
 code:lm=true->∃cd P,env'.code=.ref cd/\(cd,P)∈c.tabs/\env'.qual++ "<lambda>" =c.tq cd
theorem UC(hl:A.frames=some l)(hf:env'.frame=some env'.locals)(hb:b∈Fs (A.deeper env')):b=env'.locals\/b∈Fs A:=
 (List.mem_filterMap.mp ((kL (A:=A.deeper env') (aq (Option.map (env':: ·)) hl)).mp hb)).elim λe q=>(List.mem_cons.mp q.1).imp (λw=>(bB hf (w▸q.2)).symm) λw=>(kL hl).mpr (List.mem_filterMap.mpr ⟨e,w,q.2⟩)
theorem Gx(h:j<=k):a+j+k*n+d<=a+k*(n+1)+d:=by
 rw[Nat.mul_succ,Nat.add_assoc a j,Nat.add_comm j];exact Nat.add_le_add_right (Nat.add_le_add_left (Nat.add_le_add_left h _) _) _
theorem aJ.inner(eo:aJ c (n+1) A env fr)(W:y6 c sc lm env' L cells):aJ c n (A.deeper env') env' ⟨sc,g,lm⟩:=
 ⟨W.kd.k0,W.kd.k1,λx q=>.inr (W.kd.k2 x q),W.kd.k3,W.kd.kl,W.kd.kk,W.fn,W.gl,W.bi,eo.frame.elim λe0 z=>z.elim λl z=>z.elim λ_ z=>⟨env',e0::l,env'.locals,aq (Option.map (env':: ·)) z.1,W.fr,W.fr⟩,eo.handled,W.code,
  eX (Gx (j:=1) (k:=2) (by decide)) eo.depth,eX (Gx (j:=3) (k:=12) (by decide)) eo.units⟩
theorem Xl(G:bq c K)(eo:aJ c (n+1) A env fr)(o:Ok c X A env fr μ σ s)(W:y6 c sc lm env' s.heap.objs.size (cellsFrom (s.heap.push o0).objs.size (names c sc) cl))(pZ:nT c μ g0 cl)
 (hn:(s.heap.push o0).Ns s.heap.objs.size λ_=>none)(z:ay (λb y=>ad c X μ s.heap b.2 y) bs ys){tail:Sg->R V}{Q:Value->Shared->Prop}{Q':Shared->Prop}{E2 E':Value->Shared->Prop}
 (h:ac c X A env fr (DV c X) μ s (ju σ.r ((rK ⟨sc,(eB (dm sc) σ.H g0).2,lm⟩ bs ⟨(eB (dm sc) σ.H g0).1,[]⟩).bind λ_ s1=>tail s1)) Q E)
 (k:∀a9 σ₂ aB,aJ c n (A.deeper env') env' ⟨sc,(eB (dm sc) σ.H g0).2,lm⟩->Ok c X (A.deeper env') env' ⟨sc,(eB (dm sc) σ.H g0).2,lm⟩ a9 σ₂ aB->
  ac c X (A.deeper env') env' ⟨sc,(eB (dm sc) σ.H g0).2,lm⟩ (DV c X) a9 aB (tail σ₂) Q (λe s'=>wpAny c.M (A.deeper env') (leaving env' e) (λ_ vA=>E e vA) E2 s')->Q' aB):
 wpAny c.M B (forIn ((bs.map λb=>c.nm b.1).zip ys) PUnit.unit λx _=>do storeName env' x.1 x.2;pure (.yield ⟨⟩)) (λ_=>Q') E' {s with heap:=pushCells (s.heap.push o0) (names c sc)}:=
 have k1:=aY.push _ _ _
 have hL:=W.loc▸dk _
 have o1:=o.frame (env':=env') (sc:=sc) (lm:=lm) (s₁:={s with heap:=s.heap.push o0}) k1 (W.loc▸hn) hL
 (IO G sc o1 pZ).elim λao C=>
  have o2:=(C.ok.setg (g:=(eB (dm sc) σ.H g0).2) λx l hl=>W.cel▸C.rel x l hl).deeper W.fr W.fn
  have kk:=k1.trans C.only
  have cN:=eo.inner W
  have en:=o.frs.elim λl y=>
   ⟨kk,C.ext,λb q=>(C.fresh b q).imp id λq=>k1.1.none q,hL,λl' hJ=>⟨l,y.1,λe he=>bB (aq (Option.map (env':: ·)) y.1) hJ▸.tail _ he⟩,λb hb=>UC y.1 W.fr hb,rfl,rfl⟩
  JG G.inj W.kd.k0 W.kd.k1 W.fn bs o2 (z.mono λ_ _ q=>q.mono (o.stays_of kk λ_ _ _ f=>f.elim) C.ext)
   (ac.bind (D':=DU) (ac.leaveE (E2:=E2) cN o2 (ac.enter h en o o2)) λ_ σ₂ a9 _ aB bG bc _ bh=>k a9 σ₂ aB cN bc bh)
theorem IP(G:bq c K)(eo:aJ c (n+1) A env fr)(o:Ok c X A env fr μ σ s)(kg:scope.names=names c sc)(hk:scope.kind=.function)(hs:∀p∈sc,p.2<=3)(pZ:nT c μ g0 cl)
 {code:Value}(hc:lm=true->∃cd P,code=.ref cd/\(cd,P)∈c.tabs/\qual++ "<lambda>" =c.tq cd)(z:ay (λb y=>ad c X μ s.heap b.2 y) bs ys)
 {tail:Sg->R V}{Q:Value->Shared->Prop}{Q':Env->Shared->Prop}{E2 E':Value->Shared->Prop}
 (h:ac c X A env fr (DV c X) μ s (ju σ.r ((rK ⟨sc,(eB (dm sc) σ.H g0).2,lm⟩ bs ⟨(eB (dm sc) σ.H g0).1,[]⟩).bind λ_ s1=>tail s1)) Q E)
 (k:∀env' a9 σ₂ aB,aJ c n (A.deeper env') env' ⟨sc,(eB (dm sc) σ.H g0).2,lm⟩->Ok c X (A.deeper env') env' ⟨sc,(eB (dm sc) σ.H g0).2,lm⟩ a9 σ₂ aB->
  ac c X (A.deeper env') env' ⟨sc,(eB (dm sc) σ.H g0).2,lm⟩ (DV c X) a9 aB (tail σ₂) Q (λe s'=>wpAny c.M (A.deeper env') (leaving env' e) (λ_ vA=>E e vA) E2 s')->Q' env' aB):
 wpAny c.M B (newFunctionEnv scope mainGlobals cl ((bs.map λb=>c.nm b.1).zip ys) qual func code none builtinsNs) Q' E' s:=by
 refine ah (wpAny_alloc (ah (wpAny_layCells _ (λ_ _ _=>rfl) _ _ _ _ ?_)))
 rw[kg]
 refine ah (wpAny_mono (Xl (B:=B) (env':=newEnv scope s.heap.objs.size mainGlobals _ qual func code none builtinsNs) G eo o ⟨rfl,rfl,E8 G.inj kg hs,hk,rfl,rfl,rfl,hc⟩ pZ (Heap.Ns.new s.heap _) z h (k _)) (λ_ aB bh=>aS bh) λ_ _ e=>e)
end
section
variable{c:Cx}{X:Addr->Prop}{A A' B:Around}{env env':Env}{fr cY:Fr}{μ ao a9:Mu}{σ aM σ₂:Sg}{s s₁ aB:Shared}{E:Value->Shared->Prop}{n:Nat}{K:Frag}{ih:Ev}
theorem NoLimit.stays{h h':Heap}(x:h.NoLimit)(k:h.StaysIn h'):h'.NoLimit:=x.imp λmc z=>⟨z.1.keeps k,z.2⟩
theorem CodeRec.stays{h h':Heap}(x:h.CodeRec cd q)(k:h.StaysIn h'):h'.CodeRec cd q:=x.imp λt=>bf λo=>bf λvs=>bf λtk z=>⟨z.1,k _ _ z.2.1,z.2.2⟩
theorem DY(inj:∀i j,c.nm i=c.nm j->i=j){l:List Nat}(h:l.Nodup):(l.map c.nm).Nodup:=List.pairwise_map.mpr (h.imp λne e=>ne (inj _ _ e))
theorem aJ.deep(eo:aJ c (n+1) A env fr):A.depth<recursionLimit:=jQ (eX (eX (gJ _ _) (gJ _ _)) eo.depth) (by decide)
theorem JK(f:List Nat)(vs:List V)(h:f.length=vs.length):f.map c.nm=(f.zip vs).map λb=>c.nm b.1:=(aq (List.map c.nm) (List.map_fst_zip (Nat.le_of_eq h)).symm).trans List.map_map
theorem Vg(hk:d+k=n)(h:n=v+(d-(v-k))):k<=v/\v<=n:=
 ⟨(Nat.le_total k v).elim id λw=>by
  rw[Nat.sub_eq_zero_of_le w,← hk,Nat.add_comm v] at h
  exact Nat.le_of_eq (Nat.add_left_cancel h),h▸gJ ..⟩
theorem G3(G:bq c K)(S:SS c n ih.eS)(eo:aJ c (n+1) A env fr)(o:Ok c X A env fr μ σ s){k:Nat}(hf:c.T.fns k=some f)(z:ay (ad c X μ s.heap) vs xs){Q:Value->Shared->Prop}
 (h:ac c X A env fr (DV c X) μ s (nz ih f vs σ) Q E):lG c A (.ref (c.fnA k)) xs Q E s:=
 have FO:=G.fn k f hf
 FO.ex.elim λob w=>w.elim λfd w=>w.elim λargs w=>w.elim λj9 w=>w.elim λod w=>bk h λbs hb h=>by
  have b:=G7 hb
  have zd:=w.f15 X μ s.heap (λb hb=>(o.xlt b hb).2) o.stays
  have ef:sX f.ps f.df vs=vs++f.df.drop (vs.length-(f.ps.length-f.df.length)):=VB _ _ _
  have hk:=Nat.add_sub_of_le FO.le
  have lk:=Vg hk (by have e:=b.1;rw[ef,List.length_append,List.length_drop] at e;exact e)
  have lx:=z.length
  have lp:(f.ps.map c.nm).length=f.ps.length:=List.length_map ..
  refine codeAny_call_function eo.deep (o.stays _ _ w.f1) w.f2 w.f7 w.f6 w.f3 (CodeRec.stays w.f11 o.stays) ?_
  refine x0 (k:=f.ps.length-f.df.length) w.f12 w.f13 rfl (λQ q=>w.f14 _ _ _ s Q o.stays q) (DY G.inj FO.nd) (by rw[zd.length,hk,lp]) (lx▸lk.1) (by rw[lx,lp];exact lk.2) ?_
  have z2:ay (ad c X μ s.heap) (sX f.ps f.df vs) (xs++(od.getD #[]).toList.drop (xs.length-(f.ps.length-f.df.length))):=by rw[ef,lx];exact z.append (zd.drop _)
  rw[w.f10,w.f8,w.f9,JK f.ps _ b.1,b.2]
  refine IP (lm:=f.lm) (E2:=E) G eo o w.f4 w.f5 FO.sc (g0:=[]) (λx l q=>Mine.ns q) (λq=>(w.f16 q).imp λcd=>bf λP z=>z) (b.2▸z2.zip b.1) (FO.cs▸h) λenv' a9 σ₂ aB cN bc bh=>⟨NoLimit.stays G.nolim bc.stays,codeAny_func ?_⟩
  exact ou S cN f.body bc (ac.bind (D':=DF c X) bh λfl yG jx y dy lg hM C8 cE=>by
   revert cE
   exact tM C8 (λcE=>ac.ok cE (y:=Value.none) .refl hM rfl) λv y r cE=>ac.ok cE (y:=y) .refl hM r)
def qS(c:Cx):Prop:=∀n k vs H m r,c.T.O k vs H=some (m,r)->m<=n->∀X A env fr μ σ s xs Q E,σ.H=H->aJ c (n+1) A env fr->Ok c X A env fr μ σ s->ay (ad c X μ s.heap) vs xs->
 ac c X A env fr (DV c X) μ s (R0.rec (λv H=>.ok v ⟨H,σ.r⟩) (λc m v H=>.exc c m v ⟨H,σ.r⟩) r) Q E->lG c A (.ref (c.fnA k)) xs Q E s
theorem Uv(G:bq c K)(Or:qS c)(S:SS c n ih.eS):SC c (n+1) (jm c.T ih n):=λX A env fr μ σ s k vs xs Q E eo o z h=>
 fq h (λx hx h=>bA h λhm h=>Or n k vs σ.H x.1 x.2 hx (dO hm) X A env fr μ σ s xs Q E rfl eo o z h) λh=>bk h λf hf h=>G3 G S eo o hf z h
end
section
variable{c:Cx}{X:Addr->Prop}{A A' B:Around}{env env':Env}{fr cY:Fr}{μ ao a9:Mu}{σ aM σ₂:Sg}{s s₁ aB:Shared}{E:Value->Shared->Prop}{n:Nat}{K:Frag}{ih:Ev}{α β:Type}{D:Mu->Heap->α->β->Prop}
theorem Ok.under(o:Ok c X A env fr μ σ s)(h:A'.frames=A.frames):Ok c X A' env fr μ σ s:=
 ⟨o.len,o.obj,o.apart,o.new,o.ns,o.lout,o.cells,o.stays,h▸o.frs,o.tabs,o.xlt⟩
theorem aK.under(o:aK A env μ av s s')(h:A'.frames=A.frames):aK A' env μ av s s':=
 have e:Fs A'=Fs A:=by unfold Fs;rw[h]
 ⟨o.ext,o.fresh,e▸o.keep,o.gens,o.os⟩
theorem ac.under{Q:β->Shared->Prop}(t:ac c X A env fr D μ s r Q E)(h:A'.frames=A.frames):ac c X A' env fr D μ s r Q E:=by
 cases r with
 |ok a ba=>exact λav s' y nx o d=>t av s' y (nx.under h.symm) (o.under h.symm) d
 |exc k m v ba=>exact λav s' e nx o d=>t av s' e (nx.under h.symm) (o.under h.symm) d
 |stuck=>exact t
theorem Gu(hb:b<=a+j)(hj:j<=k)(h:a+k*(n+1)+d<=l):b+k*n+d<=l:=
 eX (Nat.add_le_add_right (by rw[Nat.mul_succ,Nat.add_comm (k*n),← Nat.add_assoc];exact Nat.add_le_add_right (eX hb (Nat.add_le_add_left hj _)) _) _) h
theorem aJ.under(eo:aJ c (n+1) A env fr)(h:A'.frames=A.frames)(hh:A'.handled=A.handled)(hd:A'.depth<=A.depth+2)(hu:A'.units<=A.units+12):aJ c n A' env fr:=
 ⟨eo.k0,eo.k1,eo.k2,eo.k3,eo.kl,eo.kk,eo.kfun,eo.globs,eo.bis,h▸eo.frame,hh.trans eo.handled,eo.code,Gu hd (Nat.le_refl _) eo.depth,Gu hu (Nat.le_refl _) eo.units⟩
theorem Ub(C:SC c n ih.call)(eo:aJ c (n+1) A env fr)(o:Ok c X A env fr μ σ s){cl:Cl}(z:ay (ad c X μ s.heap) vs xs){Q:Value->Shared->Prop}(e1:A'.frames=A.frames)(e2:A'.handled=A.handled)
 (e3:A'.depth<=A.depth+2)(e4:A'.units<=A.units+12)(k1:aY (λ_=>False) s.heap s₁.heap)(ha:s.heap.get? a=none)(hb:s.heap.get? b=none)(d2:s₁.heap.get? a=some (instObj (c.clA k) b))(n1:s₁.heap.Ns1 b λ_=>none)(hg:s₁.gens=s.gens)(ho:s₁.os=s.os)
 (h:ac c X A env fr (DV c X) μ s ((ih.call cl.init (.loc (σ.H.n)::vs) ⟨aH σ.H (.inst k []),σ.r⟩).bind λv s'=>aa (isNone v) (.ok (.loc (σ.H.n)) s') .stuck) Q E):
 lG c A' (.ref (c.fnA cl.init)) (.ref a::xs) (λv s'=>v=.none/\Q (.ref a) s') E s₁:=
 have nx:=aK.new1 k1 ha hb hg ho
 have o1:Ok c X A env fr (μ++[(a,b)]) ⟨aH σ.H (.inst k []),σ.r⟩ s₁:=o.new1 k1 ha hb ⟨d2,_,n1,(λx v q=>Mine.ns q),(λx y q=>Mine.ns q)⟩
 have r1:=⟨(a,b),o.last _,rfl⟩
 C X A' env fr _ _ _ cl.init (.loc (σ.H.n)::vs) (.ref a::xs) _ E (eo.under e1 e2 e3 e4) (o1.under e1) (.cons r1 (z.nxt o nx))
  ((ac.bind (D':=DV c X) (h.shift nx) λv aM ao y aB n₁ aC aaq h₁=>bA h₁ λhv h₁=>⟨oM hv aaq,ac.ok h₁ .refl aC (r1.nxt o1 n₁)⟩).under e1)
theorem WG(G:bq c K)(C:SC c n ih.call)(eo:aJ c (n+1) A env fr)(o:Ok c X A env fr μ σ s){vs:List V}(z:ay (ad c X μ s.heap) vs xs){Q:Value->Shared->Prop}
 (h:ac c X A env fr (DV c X) μ s (LY c.T ih k vs σ) Q E):lG c A (.ref (c.clA k)) xs Q E s:=
 bk h λcl hc h=>by
  have g:=G.make k cl hc
  refine make_core (makes_of (o.kin G) g.2.1) (looks_findIn (o.kin G) g.2.2.1) (λself=>bind_fn (o.kin G) self g.2.2.2) (.inl rfl) ?_
  have hs:(s.heap.push emptyDict).objs.size=s.heap.objs.size+1:=Heap.size_push ..
  refine codeAny_mono (Ub (A':=A.under (.builtin "type.__call__" ⟨.ref (c.clA k)::xs,[]⟩)) (s₁:=⟨(s.heap.push emptyDict).push (instObj (c.clA k) s.heap.objs.size),s.gens,s.drawn,s.toks,s.os⟩) C eo o z rfl rfl (Nat.le_succ _) (gJ _ 11:A.units+1<=A.units+1+11)
   ((aY.push _ _ _).trans (aY.push _ _ _)) (Heap.get?_none_of_le (Nat.le_succ _)) (dk _) (hs▸d7 _ rfl) (Heap.Ns1.of_empty ⟨_,_,_,d6 _ (d7 _ rfl),rfl,(λe he=>aV he (Array.not_mem_empty _)),λ_=>rfl⟩) rfl rfl h) λr s' w=>?_
  rcases r with e|(v|_|_|_)<;>exact w
end
end
section
open PySem PySem.W PyProof.Rows
open PySem.SeqAt PySem.MeetsSeq
def hV:Nat->Str
 |0=> "append" |1=> "extend" |2=> "pop" |3=> "count" |4=> "get" |_=> "join"
noncomputable def dG(k:Nat)(v:V):String:=
 match k with
 |0=> "list.append" |1=> "list.extend" |2=> "list.pop"
 |3=>Option.rec "tuple.count" (λ_=> "list.count") (ck v)
 |4=> "dict.get" |_=> "str.join"
theorem Og{P:Nat->Prop}(h:Nat.blt k 4=true)(p0:P 0)(p1:P 1)(p2:P 2)(p3:P 3):P k:=by
 rcases k with _|_|_|_|k
 · exact p0
 · exact p1
 · exact p2
 · exact p3
 · exact ft h
theorem ob{α:Type}{o:Option α}{f:α->Bool}{G:Prop}(h:Option.rec d f o=true)(k:∀a,o=some a->f a=true->G)(k':d=true->G):G:=by
 cases o with|none=>exact k' h|some a=>exact k a rfl h
theorem fi{P:Nat->Prop}{k m:Nat}(h:Nat.beq k m=true)(p:P m):P k:=bx.mp h▸p
section
variable{c:Cx}{X:Addr->Prop}{A A' B:Around}{env env':Env}{fr cY:Fr}{μ ao a9:Mu}{σ aM σ₂:Sg}{s s₁ aB:Shared}{E:Value->Shared->Prop}{n:Nat}{K:Frag}{ih:Ev}{α β:Type}{D:Mu->Heap->α->β->Prop}
@[elab_as_elim] theorem Bt {P:Value->Prop} (o:Ok c X A env fr μ σ s) (h:bg σ.H v=some xs) (rv:ad c X μ s.heap v x)
 (k1:∀a its n,s.heap.get? a=some {cls:=.type "list",data:=.seq its n}->ay (ad c X μ s.heap) xs its.toList->its.size<=4000->P (.ref a)) (k2:∀a its,s.heap.IsTuple a its->Lv X s.heap a->ay (ad c X μ s.heap) xs its.toList->P (.ref a)):P x:=
 oa h (λp hp h=>fa (P:=P) o hp rv λa its _ hq hl hz cL=>hl.elim λn e=>k1 a its n e (af h▸hz) cL) λh=>jJ (P:=P) h rv k2
theorem EF{α:Type}{f:aF->Option α}{p:Nat×α}(h:ol f H v=some p):ck v=some p.1:=(qV h).elim λ_ w=>aq ck w.1
theorem GM(h:cG v=some xs):ck v=none:=by cases v<;>first|rfl|exact ns h
theorem ZQ(o:Ok c X A env fr μ σ s){k:Nat}{v:V}(rv:ad c X μ s.heap v x)(h:AL σ.H k v=true):nS c A x (hV k) (.builtin (dG k v)) [x] s:=by
 refine ob h (λp hp h=>?_) λh=>ob h (λp hp h=>?_) λh=>ob h (λp hp h=>?_) λh=>ob h (λxs hx h=>?_) λh=>ft h
 · refine fa o hp rv λa its _ _ hl _ _=>hl.elim λn hl=>⟨λpl Q E=>?_⟩
   have T:s.TypeIs (.ref a) "list" :=⟨_,hl,rfl⟩
   have hd:∀b,Value.ref a=.ref b->∃o,s.heap.get? b=some o/\o.dict=none:=λb e=>⟨_,Value.ref.inj e▸hl,rfl⟩
   have e3:dG 3 v= "list.count" :=by show(Option.rec "tuple.count" (λ_=> "list.count") (ck v):String)=_;rw[EF hp]
   refine Og (P:=λk=>Q (.builtin (dG k v),[.ref a]) s->wpAny c.M A (getMethod (.ref a) (hV k) pl) Q E s) h (getMethod_builtin T PySem.F.plainAttrs_list PySem.F.slot_list_append PySem.F.type_list_append hd)
    (getMethod_builtin T PySem.F.plainAttrs_list PySem.F.slot_list_extend PySem.F.type_list_extend hd) (getMethod_builtin T PySem.F.plainAttrs_list PySem.F.slot_list_pop PySem.F.type_list_pop hd) ?_
   rw[e3]
   exact getMethod_builtin T PySem.F.plainAttrs_list PySem.F.slot_list_count PySem.F.type_list_count hd
 · exact mi (P:=λx=>nS c A x (hV k) (.builtin (dG k v)) [x] s) o hp rv λa l _ _ _ e1 _ _=>fi (P:=λk=>nS c A (.ref a) (hV k) (.builtin (dG k v)) [.ref a] s) h
    ⟨λpl Q E q=>getMethod_builtin e1.typeIs PySem.F.plainAttrs_dict PySem.F.slot_dict_get PySem.F.type_dict_get (λb e=>e1.elim λod z=>z.elim λ_ z=>z.elim λ_ z=>⟨od,Value.ref.inj e▸z.1,z.2.1.2.1⟩) q⟩
 · exact fZ (P:=λx=>nS c A x (hV k) (.builtin (dG k v)) [x] s) hp rv λt=>fi (P:=λk=>nS c A (.str (aW p) t) (hV k) (.builtin (dG k v)) [.str (aW p) t] s) h
    ⟨λpl Q E q=>getMethod_builtin (typeIs_str _ _ _) PySem.F.plainAttrs_str PySem.F.slot_str_join PySem.F.type_str_join (λa e=>nomatch e) q⟩
 · have e3:dG 3 v= "tuple.count" :=by show(Option.rec "tuple.count" (λ_=> "list.count") (ck v):String)=_;rw[GM hx]
   refine jJ hx rv λa its hi hl _=>fi (P:=λk=>nS c A (.ref a) (hV k) (.builtin (dG k v)) [.ref a] s) h ?_
   rw[e3]
   exact⟨λpl Q E q=>getMethod_builtin hi.typeIs PySem.F.plainAttrs_tuple PySem.F.slot_tuple_count PySem.F.type_tuple_count (λb e=>Value.ref.inj e▸hl.2) q⟩
def jp(x:Value):Option Str:=match x with|.str s _=>some s|_=>none
theorem V9(o:Ok c X A env fr μ σ s)(h:J2 a b=some r)(ra:ad c X μ s.heap a x)(rb:ad c X μ s.heap b y)(hu:A'.units+iW<9900):EqAt A' s x y r/\r=(jp x==jp y):=by
 suffices w:eI σ.H iW a b=some r/\r=(jp x==jp y) from⟨(x5 o iW a b r x y A' w.1 ra rb hu).1,w.2⟩
 refine oa h (λp hp h1=>?_) λh1=>(cs h1).elim λhn h2=>?_
 · refine fZ hp ra λt=>oa h1 (λq hq h2=>?_) λh2=>(cs h2).elim λhn h3=>?_
   · refine fZ hq rb λu=>⟨?_,(af h2).symm.trans (DK p q)⟩
     rw[j5 hp,j5 hq];exact h2
   · rw[oM hn rb];refine⟨?_,(af h3).symm⟩
     rw[j5 hp,nQ hn];exact h3
 · rw[oM hn ra];refine oa h2 (λq hq h3=>?_) λh3=>(cs h3).elim λhm h4=>?_
   · refine fZ hq rb λu=>⟨?_,(af h3).symm⟩
     rw[nQ hn,j5 hq];exact h3
   · rw[oM hm rb];refine⟨?_,(af h4).symm⟩
     rw[nQ hn,nQ hm];exact h4
theorem aaa(o:Ok c X A env fr μ σ s)(rx:ad c X μ s.heap x xv)(hu:A.units+100<9900)(hl:ay (ad c X μ s.heap) l its):∀{n:Nat},xe x l=some n->
 (∀y∈its,EqAt A.in1 s y xv (jp y==jp xv))/\its.countP (λy=>jp y==jp xv)=n:=by
 induction hl with
 |nil=>exact λh=>⟨λ_ h=>(nomatch h),af h⟩
 |cons r _ ih=>
  intro n h
  refine on h λa ha h=>on h λm hm h=>?_
  have w:=V9 (A':=A.in1) o ha r rx (wN hu)
  have i:=ih hm
  refine⟨bD ⟨w.2▸w.1,i.1⟩,?_⟩
  rw[List.countP_cons,i.2,← w.2,← af h]
  cases a<;>rfl
theorem Rx{a S n p b:Nat}(g:S+n<=b+p):a+S+(n+p)<=a+(p+b)+p:=by
 rw[Nat.add_assoc a S,← Nat.add_assoc S,Nat.add_assoc a,Nat.add_comm p b];exact Nat.add_le_add_left (Nat.add_le_add_right g p) a
theorem U0{h:Heap}(z:ay (ad c X μ h) l its):∀{out:List Nat},zJ sep l=some out->∃ys:List Str,StrsAre its ys/\Txt.join (aW sep) ys=aW out/\(ys.map (·.length)).sum+ys.length*(aW sep).length<=out.length+sep.length:=by
 induction z with
 |nil=>exact λh=>⟨[],.nil,af h▸rfl,by rw[List.length_nil,Nat.zero_mul];exact Nat.zero_le _⟩
 | @cons v x r q rv z ih=>
  intro out h
  refine on h λa ha h=>?_
  refine fZ ha rv λt=>?_
  cases z with
  |nil=>
   have e:=af h
   subst e
   exact⟨[aW a],.cons _ t .nil,by show PySem.Builtin.Str.glued _ _=_;rw[StrLaws.glued_eq_join];rfl,by rw[jr];exact Nat.le_of_eq (by show(aW a).length+0+1*sep.length=_;rw[jr,Nat.one_mul];rfl)⟩
  |cons rb z=>
   refine on h λb hb h=>(ih hb).elim λys g=>?_
   have e:=af h
   subst e
   refine⟨aW a::ys,.cons _ t g.1,?_,?_⟩
   · have g2:Str.join (aW sep) ys=aW b:=by rw[← StrLaws.glued_eq_join];exact g.2.1
     show PySem.Builtin.Str.glued _ _=_
     rw[StrLaws.glued_eq_join]
     cases g.1 with
     |cons y t' g1=>
      show aW a++aW sep++Str.join (aW sep) _=_
      rw[g2,Bb,Bb,cq,cq,List.append_assoc]
   · show(aW a).length+(ys.map (·.length)).sum+(ys.length+1)*(aW sep).length<=_
     rw[Nat.succ_mul,cq,cq,List.length_append,List.length_append,jr a,← jr sep]
     exact Rx (jr sep▸g.2.2)
end
section
variable{c:Cx}{X:Addr->Prop}{A A':Around}{env:Env}{fr:Fr}{μ av:Mu}{σ:Sg}{s s':Shared}{E:Value->Shared->Prop}{n:Nat}{K:Frag}{ih:Ev}{α β:Type}
theorem KS{Q:Value->Shared->Prop}{G:Prop}(h:ac c X A env fr (DV c X) μ s ((qf i ys σ).bind λ_ s=>.ok v s) Q E)(k:ys.length<=4000->ac c X A env fr (DV c X) μ s (.ok v (put i (.list ys) σ)) Q E->G):G:=by
 unfold qf at h
 cases hf:gi ys with
 |false=>rw[hf] at h;exact h.elim
 |true=>rw[hf] at h;exact k (gk.mp hf) h
theorem BC(o:Ok c X A env fr μ σ s)(hp:aj μ i=some (a,a))(sb:Heap.SameBut a s.heap s'.heap)(hl:s'.heap.get? a=some {cls:=.type "list",data:=.seq its m})(hg:s'.gens=s.gens)(ho:s'.os=s.os)
 (hz:ay (ad c X μ s.heap) ys its.toList)(hf:ys.length<=4000){Q:Value->Shared->Prop}(h:ac c X A env fr (DV c X) μ s (.ok v (put i (.list ys) σ)) Q E)(rv:ad c X μ s.heap v y):Q y s':=
 have k:=(aY.same sb hl).mono λ_ _ _ q=>.inl q
 have nx:=aK.put hp k hg ho
 h.ok nx (o.put hp k ⟨rfl,its,⟨m,hl⟩,hz.nxt o nx,cB hz▸hf⟩) (rv.nxt o nx)
theorem Lx{its:Array Value}(eo:aJ c n A env fr)(o:Ok c X A env fr μ σ s)(rx:ad c X μ s.heap x xv)(hz:ay (ad c X μ s.heap) l its.toList){Q:Value->Shared->Prop}
 (h:ac c X A env fr (DV c X) μ s (aX (xe x l) λm=>mK m σ) Q E){G:Prop}(k:(∀y,y∈its->EqAt A.in1 s y xv (jp y==jp xv))->Q (.int (its.toList.countP λy=>jp y==jp xv) s.toks) {s with toks:=s.toks+1}->G):G:=
 bk h λm hm h=>by
  have w:=aaa o rx (CK eo) hz hm
  refine k (λy hy=>w.1 y (Array.mem_toList_iff.mpr hy)) ?_
  rw[w.2];exact nD o h
theorem SP(eo:aJ c n A env fr)(o:Ok c X A env fr μ σ s){a:Addr}(hw:ck w=some i)(hp:aj μ i=some (a,a))(hl:s.heap.PlainList a its)(hz:ay (ad c X μ s.heap) ys its.toList)(cL:its.size<=4000)
 (z:ay (ad c X μ s.heap) vs xs){Q:Value->Shared->Prop}(h:ac c X A env fr (DV c X) μ s (E3 k i ys vs σ) Q E):wpAny c.M A (PySem.call (.builtin (dG k w)) (.ref a::xs)) Q E s:=
 hl.elim λn0 e0=>by
 have le:=gn cL
 cases z with
 |nil=>
  refine bA h λhk h=>bk h λv hv h=>fi (P:=λk=>wpAny c.M A (PySem.call (.builtin (dG k w)) [.ref a]) Q E s) hk ?_
  rw[List.getLast?_eq_getElem?,← cB hz] at hv
  refine(hz.get _ _ hv).elim λy y1=>?_
  rw[Array.getElem?_toList] at y1
  have z2:ay (ad c X μ s.heap) ys.dropLast (its.eraseIdxIfInBounds (its.size-1)).toList:=by
   rw[Array.toList_eraseIdxIfInBounds,← Array.length_toList,List.eraseIdx_length_sub_one,List.dropLast_eq_take,List.dropLast_eq_take,hz.length];exact hz.take _
  show wpAny c.M A (PySem.call (.builtin "list.pop") [.ref a]) Q E s
  exact call_meets PySem.F.slot_list_pop ⟨_,e0,rfl⟩ PySem.F.entry_list_pop (PySem.F.args_list_pop_1 _) (list_pop_last a its n0 y y1.1 le)
   ⟨e0,BC (s':={s with heap:=s.heap.update a (Obj.mapSeq λxs=>xs.eraseIdxIfInBounds (its.size-1))}) o hp (Heap.SameBut.update ..) (IsL.update e0 λxs=>xs.eraseIdxIfInBounds (its.size-1)) rfl rfl z2 (eX (List.length_dropLast▸Nat.sub_le ..) (cB hz▸cL)) h y1.2⟩
 | @cons v x vs xs rv z=>cases z with
  |cons=>exact h.elim
  |nil=>
   refine gK h (λhk h=>?_) λ_ h=>gK h (λhk h=>?_) λ_ h=>bA h λhk h=>?_
   · refine KS h λhf h=>fi (P:=λk=>wpAny c.M A (PySem.call (.builtin (dG k w)) [.ref a,x]) Q E s) hk ?_
     exact wpAny_list_append_plain ⟨n0,e0⟩ (λh' hJ sb=>hJ.elim λm e=>BC (s':={s with heap:=h'}) o hp sb e rfl rfl (by rw[cq,Array.toList_push];exact hz.append (.cons rv .nil)) hf h rfl) le
   · refine bk h λzs hi h=>on hi λp hq e=>KS h λhf h=>fi (P:=λk=>wpAny c.M A (PySem.call (.builtin (dG k w)) [.ref a,x]) Q E s) hk ?_
     refine fa o hq rv λb gG _ _ mu z2 _=>mu.elim λn2 hb=>?_
     have e:=af e
     subst e
     have sz:its.size+gG.size<=4000:=by rw[cB hz,cB z2,← List.length_append,← cq];exact hf
     show wpAny c.M A (PySem.call (.builtin "list.extend") [.ref a,.ref b]) Q E s
     exact call_meets PySem.F.slot_list_extend ⟨_,e0,rfl⟩ PySem.F.entry_list_extend (PySem.F.args_list_extend_2 _ _) (AutoSeq1.list_extend_list_list_0 a its n0 b gG n2 (extend_door (gn sz)) (gn (eX (gJ ..) sz)) (Nat.le_succ_of_le (gn sz)))
      ⟨e0,hb,BC (s':={s with heap:=s.heap.update a (Obj.mapSeq λx=>x++gG)}) o hp (Heap.SameBut.update ..) (IsL.update e0 λx=>x++gG) rfl rfl (by rw[cq,Array.toList_append];exact hz.append z2) hf h rfl⟩
   · refine fi (P:=λk=>wpAny c.M A (PySem.call (.builtin (dG k w)) [.ref a,x]) Q E s) hk ?_
     have e3:dG 3 w= "list.count" :=by show(Option.rec "tuple.count" (λ_=> "list.count") (ck w):String)=_;rw[hw]
     rw[e3]
     exact Lx eo o rv hz h λhe q=>call_meets PySem.F.slot_list_count ⟨_,e0,rfl⟩ PySem.F.entry_list_count (PySem.F.args_list_count_2 _ _) (list_countAt a its n0 none #[] x _) ⟨e0,he,q⟩
theorem AP{α:Type}{vs:List V}{xs:List Value}{f:V->R α}{D:Mu->Heap->α->β->Prop}{Q:β->Shared->Prop}{P:List Value->Prop}(h:ac c X A env fr D μ s (one vs f) Q E)(z:ay (ad c X μ s.heap) vs xs)(k:∀v x,ad c X μ s.heap v x->ac c X A env fr D μ s (f v) Q E->P [x]):P xs:=by
 cases z with
 |nil=>exact h.elim
 |cons r z=>cases z with|nil=>exact k _ _ r h|cons=>exact h.elim
theorem Qg(o:Ok c X A env fr μ σ s){k:Nat}{w:V}{bF:List (List Nat×V)}{vs:List V}{xs:List Value}{a:Addr}{l:List (Str×Value)}(hsm:(a==sysModules)=false)(e1:s.heap.DictOf (strKind c.prog c.w) a l)(z1:ay (lB c X μ s.heap) bF l)(z:ay (ad c X μ s.heap) vs xs){Q:Value->Shared->Prop}
 (h:ac c X A env fr (DV c X) μ s (JI k bF vs σ) Q E):wpAny c.M A (PySem.call (.builtin (dG k w)) (.ref a::xs)) Q E s:=
 AP (P:=λxs=>wpAny c.M A (PySem.call (.builtin (dG k w)) (.ref a::xs)) Q E s) h z λv x rv h=>bk h λx hx h=>bA h λhk h=>fi (P:=λk=>wpAny c.M A (PySem.call (.builtin (dG k w)) [.ref a,_]) Q E s) hk (by
  refine fZ hx rv λt=>?_
  show wpAny c.M A (PySem.call (.builtin "dict.get") _) Q E s
  refine call_meetsIn PySem.F.slot_dict_get e1.mapOf.typeIs PySem.F.entry_dict_get (PySem.F.args_dict_get_2 _ _) (meets_dict_get _ a (strKind_is _ _ _ _) hsm) ⟨_,e1.mapOf,?_⟩
  have sl:=qU z1 x
  cases hv:jB bF x with
  |none=>rw[hv] at h;rw[sl.2 hv];exact ac.ok h (im _) (o.tok _) rfl
  |some v=>rw[hv] at h;exact(sl.1 v hv).elim λy y1=>by rw[y1.1];exact ac.ok h (im _) (o.tok _) y1.2)
theorem YY(o:Ok c X A env fr μ σ s){cs:List Nat}(z:ay (ad c X μ s.heap) vs xs){Q:Value->Shared->Prop}
 (h:ac c X A env fr (DV c X) μ s (Lb k cs vs σ) Q E):wpAny c.M A (PySem.call (.builtin (dG k w)) (.str (aW cs) t::xs)) Q E s:=
 AP (P:=λxs=>wpAny c.M A (PySem.call (.builtin (dG k w)) (.str (aW cs) t::xs)) Q E s) h z λv x r h=>bA h λhk h=>bA h λhc h=>bk h λus hi h=>bk h λout hj h=>wg h λhf h=>fi (P:=λk=>wpAny c.M A (PySem.call (.builtin (dG k w)) [.str (aW cs) t,_]) Q E s) hk (by
  have fm:∀its:Array Value,ay (ad c X μ s.heap) us its.toList->∃ys:List Str,StrsAre its.toList ys/\(ys.map (·.length)).sum+ys.length*(aW cs).length<=16777216/\∀t' k,Q (.str (Txt.join (aW cs) ys) t') {s with toks:=k}:=λits z=>
   (U0 z hj).imp λys g=>⟨g.1,eX g.2.2 (eX (Nat.add_le_add hf (gk.mp hc)) (by decide)),λt' k=>by rw[g.2.1];exact ac.ok h (im _) (o.tok _) ⟨_,rfl⟩⟩
  exact Bt o hi r (λa its n ha z _=>(fm its z).elim λys g=>join_list ⟨_,ha,rfl,n,rfl⟩ g.1 g.2.1 g.2.2) λa its ha _ z=>(fm its z).elim λys g=>join_tuple ha g.1 g.2.1 g.2.2)
theorem WP(eo:aJ c n A env fr)(o:Ok c X A env fr μ σ s){us:List V}{x:Value}(hw:cG w=some us)(rv:ad c X μ s.heap w x)(z:ay (ad c X μ s.heap) vs xs){Q:Value->Shared->Prop}
 (h:ac c X A env fr (DV c X) μ s (GO k us vs σ) Q E):wpAny c.M A (PySem.call (.builtin (dG k w)) (x::xs)) Q E s:=
 AP (P:=λxs=>wpAny c.M A (PySem.call (.builtin (dG k w)) (x::xs)) Q E s) h z λv y r h=>bA h λhk h=>fi (P:=λk=>wpAny c.M A (PySem.call (.builtin (dG k w)) [x,y]) Q E s) hk (by
  have e3:dG 3 w= "tuple.count" :=by show(Option.rec "tuple.count" (λ_=> "list.count") (ck w):String)=_;rw[GM hw]
  rw[e3]
  refine jJ hw rv λa its hi hl hz=>hi.elim λob w=>?_
  obtain⟨oc,od,odt,osl⟩:=ob
  obtain⟨ha,hc,n',hd⟩:=w
  simp only at hc hd
  subst hc hd
  exact Lx eo o r hz h λhe q=>call_meets PySem.F.slot_tuple_count ⟨_,ha,rfl⟩ PySem.F.entry_tuple_count (PySem.F.args_tuple_count_2 _ _) (tuple_countAt a its n' od osl _ _) ⟨ha,he,q⟩)
theorem Qw(eo:aJ c n A env fr)(o:Ok c X A env fr μ σ s)(rv:ad c X μ s.heap v x)(z:ay (ad c X μ s.heap) vs xs){Q:Value->Shared->Prop}
 (h:ac c X A env fr (DV c X) μ s (DN k v vs σ) Q E):wpAny c.M A (PySem.call (.builtin (dG k v)) (x::xs)) Q E s:=
 fq h (λp hp h=>by refine fa o hp rv λa its _ hq hl hz cL=>SP eo o (EF hp) hq hl hz cL z h)
  λh=>fq h (λp hp h=>by refine mi o hp rv λa l _ _ hm e1 z1 _=>Qg o hm e1 z1 z h)
  λh=>fq h (λp hp h=>by refine fZ hp rv λt=>YY o z h) λh=>bk h λus hu h=>WP eo o hu rv z h
end
end
section
open PySem PySem.W PyProof.Rows
section
variable{c:Cx}{X:Addr->Prop}{A A':Around}{env:Env}{fr:Fr}{μ av:Mu}{σ:Sg}{s s':Shared}{E:Value->Shared->Prop}{n:Nat}{K:Frag}{ih:Ev}{α β:Type}
theorem sT{Q:Value->Shared->Prop}(h:lG c A f xs Q E s):wpAny c.M A (PySem.call f xs) Q E s:=wpAny_call h
theorem DZ(id:String)(h:Heap):∃k,(k=Keeper.frame\/k=Keeper.machine\/k=Keeper.boundFrame)/\Looks c.M h (keeperOf (.builtin id)) k:=⟨.machine,.inr (.inl rfl),.now⟩
theorem ZV(id:String)(h:Heap):∃k,(k=Keeper.frame\/k=Keeper.machine\/k=Keeper.boundFrame)/\Looks c.M h (keeperOf (.type id)) k:=⟨.machine,.inr (.inl rfl),.now⟩
theorem PZ(h:AL H k v=true):k<6:=
 ob h (λ_ _ h=>Nat.lt_trans (cH h) (by decide)) λh=>ob h (λ_ _ h=>fi (P:=λk=>k<6) h (by decide)) λh=>ob h (λ_ _ h=>fi (P:=λk=>k<6) h (by decide)) λh=>ob h (λ_ _ h=>fi (P:=λk=>k<6) h (by decide)) λh=>ft h
theorem Ym(h:CP T H o a=some kb)(hb:kb.2=true):∃p cl,oC H o=some p/\au p.2.2 a=none/\T.cls p.2.1=some cl/\au cl.meth a=some kb.1:=by
 unfold CP at h
 cases hi:oC H o with
 |none=>rw[hi] at h;exact ft ((aq Prod.snd (af h)).trans hb)
 |some p=>
  rw[hi] at h
  have h:(Option.rec (a7 (T.cls p.2.1) (λcl=>a7 (au cl.meth a) (λk=>some (k,true)) .none) .none) (λ_=>.none) (au p.2.2 a):Option (Nat×Bool))=some kb:=h
  cases ha:au p.2.2 a with
  |some _=>rw[ha] at h;exact ns h
  |none=>
   rw[ha] at h
   exact on h λcl hc h=>on h λk hk h=>⟨p,cl,rfl,ha,hc,hk.trans (aq some (aq Prod.fst (af h)))⟩
theorem Rv(G:bq c K)(o:Ok c X A env fr μ σ s)(hp:oC σ.H v=some p)(rv:ad c X μ s.heap v x)(hn:au p.2.2 a=none)(hc:c.T.cls p.2.1=some cl)(hf:au cl.meth a=some f):
 nS c A x (c.nm a) (.ref (c.fnA f)) [x] s:=by
 refine Be o hp rv λq m _ _ hx vz z1 z2=>⟨λpl Q E w=>?_⟩
 have g:=G.meth p.2.1 cl a f hc hf
 refine(uW vz.ns (c.nm a)).elim λod d=>?_
 have e:=Option.eq_none_iff_forall_ne_some.mpr λy hm=>(z2 _ _ hm).elim λb z=>z.elim λv z=>cg (G.inj _ _ z.2▸z.1) hn
 exact method_fn (o.kin G) (CB hx d.1) (plainGet_of g.1).1 (plainGet_of g.1).2 g.2.1 g.2.2 (by show(lookIn (c.nm a) od).map _=_;rw[d.2,e];rfl) w
def qH(c:Cx):Prop:=∀a k,c.mc a=some k->k<6->c.nm a=hV k
theorem R2(G:bq c K)(lh:qH c)(S:SE c n ih.eE)(C:SC c n ih.call)(eo:aJ c n A env fr)(o:Ok c X A env fr μ σ s){ob:Mine.E}{Q:Value->Shared->Prop}
 (hl:Nat.beq (aE p).endLine (aE q).line=true)(hn:Nat.blt (len es) 30=true)
 (h:ac c X A env fr (DV c X) μ s (DP c.T ih c.mc ob a es fr σ) Q E):wpAny c.M A (eval (an c.nm (.call (.attr ob a p) es q)) env) Q E s:=by
 show wpAny c.M A (do
  let ov ← attributeBase (an c.nm ob) (c.nm a) env (eval (an c.nm ob) env)
  standAt (aE p).atName
  methodCall (an c.nm ob) (c.nm a) (aE p) (aE q) env ov ((bC c.nm es).length+([]:List Keyword).length) (backTo (aE q) (starEach (bC c.nm es) env)) (backToKw (aE q) (keywordEach [] env))) Q E s
 rw[Jq G]
 exact ah (S X A env fr μ σ s ob _ E eo o (ac.bind (D':=DV c X) h λov aM ao x s₁ n₁ aC bj h₁=>ah (gf (bk h₁ λkb hm h₁=>gK h₁
  (λhb h₁=>bA h₁ λhk h₁=>(Ym hm hb).elim λp w=>w.elim λcl w=>Ln S eo aC hl hn (Rv G aC w.1 bj w.2.1 w.2.2.1 w.2.2.2)
   (ac.bind (D':=DL c X) h₁ λvs σ₂ a9 ys aB bG bc dE bh=>⟨KH G bc hk,sT (C X A env fr a9 σ₂ aB kb.1 _ _ Q E eo bc (.cons (bj.nxt aC bG) dE) bh)⟩))
  λ_ h₁=>bk h₁ λk hk h₁=>bA h₁ λhf h₁=>Ln S eo aC hl hn (lh a k hk (PZ hf)▸ZQ aC bj hf)
   (ac.bind (D':=DL c X) h₁ λvs σ₂ a9 ys aB bG bc dE bh=>⟨DZ _ _,Qw eo bc (bj.nxt aC bG) dE bh⟩)))))
end
section
variable{c:Cx}{X:Addr->Prop}{A A':Around}{env:Env}{fr:Fr}{μ av:Mu}{σ:Sg}{s s':Shared}{E:Value->Shared->Prop}{n:Nat}{K:Frag}{ih:Ev}{α β:Type}
theorem Za{h h':Heap}(hk:∀b ob,h.get? b=some ob->h'.get? b=some ob):h.get? h'.objs.size=none:=Option.eq_none_iff_forall_ne_some.mpr λob e=>cg (hk _ _ e) (dk _)
theorem Qi(o:Ok c X A env fr μ σ s){v:V}(rv:ad c X μ s.heap v x){Q:Value->Shared->Prop}
 (h:ac c X A env fr (DV c X) μ s (aX (bg σ.H v) λxs=>nH xs σ) Q E):wpAny c.M A (PySem.call (.type "tuple") [x]) Q E s:=
 bk h λxs hi h=>bA h λhf h=>by
  refine Bt o hi rv (λa its n ha z hz=>?_) λa its ht hl z=>?_
  · exact call_tuple_list ⟨_,ha,rfl,n,rfl⟩ (λh' hk=>yl o z h (.of λb ob e=>d6 _ (hk b ob e)) (Za hk) (d7 _ rfl) rfl rfl) (gn hz)
  · exact call_tuple_same ht (h.ok .refl o ((hZ (up xs)).mpr ⟨a,its,rfl,ht,hl,by rw[rW];exact z⟩))
theorem W0(h:AW v=true):∃j,v=.atom j/\ca (c.ρ j)=true:=bV h λj hj h=>⟨j,qF hj,c.ρt j (MT h).1 (MT h).2⟩
where
 MT {a b:Bool} (h:aa a b false=true):a=true/\b=true:=by cases a with|true=>exact⟨rfl,h⟩|false=>exact ft h
 bV {α:Type} {o:Option α} {f:α->Bool} {G:Prop} (h:Option.rec false f o=true) (k:∀a,o=some a->f a=true->G):G:=by cases o with|none=>exact ft h|some a=>exact k a rfl h
theorem Op(o:Ok c X A env fr μ σ s)(rv:ad c X μ s.heap v x){Q:Value->Shared->Prop}(hv:AW v=true)(h:ac c X A env fr (DV c X) μ s (.ok v σ) Q E):wpAny c.M A (PySem.call (.type "tuple") [x]) Q E s:=
 (W0 hv).elim λj w=>((hZ (c:=c) (μ:=μ) w.2).mp ((we (c:=c) (μ:=μ) _).1 x (w.1▸rv:ad c X μ s.heap (.atom j) x))).elim λa z=>z.elim λits z=>z.1.symm▸call_tuple_same z.2.1 (z.1▸h.ok .refl o rv)
theorem Q6(o:Ok c X A env fr μ σ s)(rv:ad c X μ s.heap v x){Q:Value->Shared->Prop}
 (h:ac c X A env fr (DV c X) μ s (aX (bg σ.H v) λxs=>mo xs σ) Q E):wpAny c.M A (PySem.call (.type "list") [x]) Q E s:=
 bk h λxs hi h=>bA h λhf h=>by
  have go:∀(a:Addr) (its:Array Value) (T:String) (ob:Obj) (m:Nat),(T= "list" \/T= "tuple")->s.heap.get? a=some ob->ob.cls=.type T->ob.data=.seq its m->ay (ad c X μ s.heap) xs its.toList->wpAny c.M A (PySem.call (.type "list") [.ref a]) Q E s:=λa its T ob m hT h1 h2 h3 z=>
   have hz:=cB z▸gk.mp hf
   call_list_seq a hT h1 h2 h3 (λh' c' hk hb=>vU o z h hz (.of hk) (dk _) hb rfl rfl) (gn hz)
  exact Bt o hi rv (λa its n ha z hz=>go a its _ _ n (.inl rfl) ha rfl rfl z) λa its ht _ z=>ht.elim λob w=>w.2.2.elim λm e=>go a its _ _ m (.inr rfl) w.1 w.2.1 e z
theorem vR(o:Ok c X A env fr μ σ s){Q:Value->Shared->Prop}(h:ac c X A env fr (DV c X) μ s (mK n σ) Q E)(e:m=n):Q (.int (Int.ofNat m) t) {s with toks:=s.toks+1+1}:=e▸ac.ok h (im _) (o.tok _) ⟨_,rfl⟩
theorem Xw(o:Ok c X A env fr μ σ s)(rv:ad c X μ s.heap v x){Q:Value->Shared->Prop}
 (h:ac c X A env fr (DV c X) μ s (Fj v σ) Q E):wpAny c.M A (PySem.call (.builtin "len") [x]) Q E s:=
 have sm:∀{k:Nat},k<=4000->(k:Int)<2^63:=λh=>Int.lt_of_le_of_lt (Int.ofNat_le.mpr h) (by decide)
 fq h (λcs hc h=>bA h λhf h=>by
  refine fZ hc rv λt=>?_
  exact P.len_str (by rw[jr];exact Int.not_le.mpr (sm (gk.mp hf))) (vR o h ((jr _).trans (bH _).symm)))
  λh=>fq h (λp hp h=>by
   refine fa o hp rv λa its _ _ hl hz cL=>?_
   exact Calls.call_len_list hl.isList (sm cL) (vR o h ((cB hz).trans (bH _).symm)))
  λh=>fq h (λp hp h=>by
   refine mi o hp rv λa l _ _ hs hd z hz=>?_
   exact call_len_dict hs hd (sm hz) (vR o h (z.length.trans (bH _).symm)))
  λh=>bk h λxs hx h=>bA h λhf h=>by
   refine jJ hx rv λa its hi _ z=>?_
   exact len_tuple hi (by rw[cB z];exact sm (gk.mp hf)) (vR o h ((cB z).trans (bH _).symm))
theorem QE:∀k:Nat,k<10->Str.ofString (toString (Int.ofNat k))=aW [48+k]:=by decide+kernel
theorem Xn(o:Ok c X A env fr μ σ s)(rv:ad c X μ s.heap v x){Q:Value->Shared->Prop}
 (h:ac c X A env fr (DV c X) μ s (aX (Ix v) λx=>pI x σ) Q E):wpAny c.M A (PySem.call (.type "str") [x]) Q E s:=
 bk h λcs hs h=>wg h λ_ h=>oa hs (λw hw e=>by
  have e:=af e
  subst e
  refine fZ hw rv λt=>?_
  exact P.str_of_str (ac.ok h .refl o ⟨t,rfl⟩))
  λhs=>on hs λi hi e=>by
   have e:=Mine.cs e
   refine i8 hi rv λt=>?_
   cases i with
   |negSucc=>exact ft e.1
   |ofNat k=>
    have hk:=cH e.1
    have e2:[48+k]=cs:=af e.2
    subst e2
    exact P.str_of_int (jQ (Nat.log2_le_self _) (Nat.lt_trans hk (by decide))) (ac.ok h (im _) (o.tok _) ⟨s.toks,by rw[← QE k hk]⟩)
theorem N8(z:ay (ad c X μ h) l its):∀{b:Bool},zK l=some b->∃bs:List Bool,its=bs.map .bool/\bs.all id=b:=by
 induction z with
 |nil=>exact λh=>⟨[],rfl,af h⟩
 |cons r _ ih=>exact λh=>on h λx hx h=>on h λy hy h=>(ih hy).elim λbs w=>⟨x::bs,List.cons_eq_cons.mpr ⟨(pC hx▸r:ad c X μ _ (.bool x) _),w.1⟩,by rw[← af h,List.all_cons,w.2];cases x<;>rfl⟩
theorem RH(bs:List Bool):((List.range bs.length).all λi=>(bs[i]?).getD true)=bs.all id:=by
 induction bs with
 |nil=>rfl
 |cons b r ih=>rw[List.length_cons,List.range_succ_eq_map,List.all_cons,List.all_map,List.all_cons,← ih];rfl
theorem S8(hh:A.handled=none)(o:Ok c X A env fr μ σ s)(rv:ad c X μ s.heap v x){Q:Value->Shared->Prop}
 (h:ac c X A env fr (DV c X) μ s (aX (u6 σ.H v) λxs=>aX (zK xs) λb=>bl b σ) Q E):wpAny c.M A (PySem.call (.builtin "all") [x]) Q E s:=
 bk h λxs hi h=>bk h λb hb h=>on hi λp hp e=>by
  refine fa o hp rv λa its _ _ hl z _=>hl.elim λm ha=>(N8 (af e▸z) hb).elim λbs w=>?_
  have hl:s.heap.IsList a its:=⟨_,ha,rfl,m,rfl⟩
  have hn:its.size=bs.length:=by rw[← Array.length_toList,w.1,List.length_map]
  refine call_all_walk (wpAny_pyIter_list hl ?_)
  refine⟨s.heap.objs.size,[s.heap.objs.size,a],[s.heap.objs.size],its.size,_,_,λi=>(bs[i]?).getD true,rfl,Walks.list (A:=A.in1) hh _ a (Nat.ne_of_lt (Heap.lt_size ha)) its,
   ⟨⟨_,d7 _ rfl,rfl,rfl⟩,hl.push _⟩,λi v s' Q' E' hP hQ=>?_,λh' tk hk=>?_⟩
  · have hP:its[i]?=some v:=hP
    rw[← Array.getElem?_toList,w.1,List.getElem?_map] at hP
    exact(Option.map_eq_some_iff.mp hP).elim λb q=>q.2▸wpAny_truthy_bool (by have hQ:Q' ((bs[i]?).getD true) s':=hQ;rw[q.1] at hQ;exact hQ)
  · rw[hn,RH,w.2]
    have k:aY (λ_=>False) s.heap h':=.of λb ob e=>hk b ob (λhm=>aV (Heap.lt_size e) (List.mem_singleton.mp hm▸Nat.lt_irrefl _)) (d6 _ e)
    exact ac.ok h ((aK.add (s':={s with heap:=h'}) k rfl rfl).tok tk) ((o.add (s':={s with heap:=h'}) k).tok tk) rfl
theorem ZM(hh:A.handled=none)(o:Ok c X A env fr μ σ s){Q:Value->Shared->Prop}
 (h:ac c X A env fr (DV c X) μ s (.ok (.int (aa (decide (a<b)) b a)) σ) Q E):wpAny c.M A (PySem.call (.builtin "max") [.int a t,.int b u]) Q E s:=
 max_two_ints hh λh' tk hk=>by
  have k:aY (λ_=>False) s.heap h':=.of hk
  have q:∀y,ad c X μ h' (.int (aa (decide (a<b)) b a)) y->Q y {s with heap:=h',toks:=tk}:=λy r=>h.ok ((aK.add (s':={s with heap:=h'}) k rfl rfl).tok tk) ((o.add (s':={s with heap:=h'}) k).tok tk) r
  by_cases yH:a<b
  · rw[aG yH];exact q _ ⟨u,by rw[decide_eq_true yH];rfl⟩
  · rw[ax yH];exact q _ ⟨t,by rw[decide_eq_false yH];rfl⟩
def pS(c:Cx):Prop:=∀X A env fr μ σ s v x Q E n,aJ c n A env fr->Ok c X A env fr μ σ s->ad c X μ s.heap v x->
 ac c X A env fr (DV c X) μ s (aX (u6 σ.H v) λxs=>aX (wc [] xs) λbF=>uI bF σ) Q E->wpAny c.M A (PySem.call (.type "dict") [x]) Q E s
def Bi(c:Cx)(A:Around)(Q E:Value->Shared->Prop)(s:Shared)(xs:List Value)(k:Nat):Prop:=k<14/\wpAny c.M A (PySem.call (h9 k) xs) Q E s
theorem N7(D:pS c)(eo:aJ c n A env fr)(o:Ok c X A env fr μ σ s)(rv:ad c X μ s.heap v x){Q:Value->Shared->Prop}
 (h:ac c X A env fr (DV c X) μ s (b1 k v σ) Q E):Bi c A Q E s [x] k:=
 gK h (λe h=>fi e ⟨by decide,Xw o rv h⟩) λ_ h=>gK h (λe h=>fi e ⟨by decide,gK h (λe h=>Op o rv e h) λ_ h=>Qi o rv h⟩) λ_ h=>gK h (λe h=>fi e ⟨by decide,Q6 o rv h⟩) λ_ h=>
 gK h (λe h=>fi e ⟨by decide,Xn o rv h⟩) λ_ h=>gK h (λe h=>fi e ⟨by decide,bk h λb hb h=>by
  rw[(pC hb▸rv:ad c X μ s.heap (.bool b) x)]
  exact call_int_bool (ac.ok h (im _) (o.tok _) ⟨s.toks,by cases b<;>rfl⟩)⟩) λ_ h=>
 gK h (λe h=>fi e ⟨by decide,S8 eo.handled o rv h⟩) λ_ h=>bA h λe h=>fi e ⟨by decide,D X A env fr μ σ s v x Q E n eo o rv h⟩
theorem Qj(D:pS c)(eo:aJ c n A env fr)(o:Ok c X A env fr μ σ s)(z:ay (ad c X μ s.heap) vs xs){Q:Value->Shared->Prop}
 (h:ac c X A env fr (DV c X) μ s (builtin k vs σ) Q E):Bi c A Q E s xs k:=by
 cases z with
 |nil=>exact h.elim
 |cons r z=>cases z with
  |nil=>exact N7 D eo o r h
  |cons r2 z=>cases z with
   |cons=>exact h.elim
   |nil=>exact bA h λhk h=>fi hk ⟨by decide,by refine kJ h r r2 λa b t u h=>ZM eo.handled o h⟩
def UN(v:Value):Bool:=match v with|.builtin _=>true|.type _=>true|_=>false
theorem Cq(k:Nat)(hk:k<14)(h:Heap):∃j,(j=Keeper.frame\/j=Keeper.machine\/j=Keeper.boundFrame)/\Looks c.M h (keeperOf (h9 k)) j:=by
 have e:=(by decide:∀k:_root_.Fin 14,UN (h9 k.val)=true) ⟨k,hk⟩
 cases hv:h9 k with
 |builtin id=>exact DZ id h
 |type id=>exact ZV id h
 |_=>rw[hv] at e;exact ft e
end
section
variable{c:Cx}{X:Addr->Prop}{A A' B:Around}{env env':Env}{fr cY:Fr}{μ ao a9:Mu}{σ aM σ₂:Sg}{s s₁ aB:Shared}{E:Value->Shared->Prop}{n:Nat}{K:Frag}{ih:Ev}
theorem iz(h:aa b x false=true):b=true/\x=true:=by cases b with|true=>exact⟨rfl,h⟩|false=>exact ft h
structure SQ(p:Nat×Nat)(r:List (Nat×Nat)):Prop where
 n1:Nat.beq p.2 1=false
 le:p.2<=3
 ok:k8 r=true
 one:∀k,au r p.1=some k->k=p.2
theorem GF(h:k8 (p::r)=true):SQ p r:=
 have h1:=cf (h)
 have h2:=iz h1.2
 ob h2.2 (λk hk h=>⟨h1.1,dO h2.1,(iz h).2,λj hj=>bB hk hj▸bx.mp (iz h).1⟩) λh=>(by
  cases hk:au r p.1 with
  |none=>exact⟨h1.1,dO h2.1,h,λj hj=>ns (hk.symm.trans hj)⟩
  |some k=>have w:=h2.2;rw[hk] at w;exact⟨h1.1,dO h2.1,h,λj hj=>bB hk hj▸bx.mp (iz w).1⟩)
theorem ZD:k8 sc=true->∀p∈sc,au sc p.1=some p.2:=by
 induction sc with
 |nil=>exact λ_ p hp=>nomatch hp
 |cons q r ih=>
  intro h p hp
  have w:=GF h
  refine(dA q.1 q.2 r p.1).trans ?_
  refine(List.mem_cons.mp hp).elim (λe=>aG (e▸rfl) |>.trans (e▸rfl)) λhp=>?_
  have e:=ih w.ok p hp
  by_cases e1:q.1=p.1
  · rw[aG e1,w.one p.2 (e1▸e)]
  · rw[ax e1];exact e
theorem BK:k8 sc=true->(∀p∈sc,p.2<=3)/\dm sc=[]:=by
 induction sc with
 |nil=>exact λ_=>⟨λp hp=>(nomatch hp),rfl⟩
 |cons p r ih=>
  intro h
  have w:=GF h
  have i:=ih w.ok
  exact⟨bD ⟨w.le,i.1⟩,(aq (List.map λq:Nat×Nat=>q.1) (List.filter_cons_of_neg (p:=λq:Nat×Nat=>q.2==1) λq=>ee.mp w.n1 (beq_iff_eq.mp q))).trans i.2⟩
theorem Rd(G:bq c K)(S:SE c n ih.eE)(eo:aJ c (n+1) A env fr)(o:Ok c X A env fr μ σ s){cs:List (Nat×Nat)}(C:mZ c μ s.heap a l cs)(z:ay (ad c X μ s.heap) vs xs){Q:Value->Shared->Prop}
 (h:ac c X A env fr (DV c X) μ s (yz c.T ih (.clo l cs) vs σ) Q E):lG c A (.ref a) xs Q E s:=
 C.ex.elim λob w=>w.elim λfd w=>w.c11.elim λargs wa=>bk h λbs hb h=>by
  have b:=G7 hb
  have sc:=BK w.c4
  have em:eB (dm l.sc) σ.H cs=(σ.H,cs):=by rw[sc.2];rfl
  have lx:xs.length=(l.ps.map c.nm).length:=z.length.trans (b.1.symm.trans (List.length_map ..).symm)
  refine kla_callFunE eo.deep w.c1 w.c3 (w.c6▸rfl) (w.c6▸rfl) w.c5 w.c9 ?_
  refine x0 (k:=xs.length) (od:=none) (ds:=[]) wa.1 wa.2 rfl (λQ q=>by rw[w.c12];exact aS q) w.c13 (by rw[← lx];exact dY _) (Nat.le_refl _) (Nat.le_of_eq lx) ?_
  rw[w.c7,w.c8,List.drop_nil,List.append_nil,JK l.ps vs b.1,b.2]
  refine IP (lm:=false) (E2:=E) (tail:=λs1=>ih.eE l.body ⟨l.sc,cs,false⟩ s1) G eo o (sc:=l.sc) (w.c6▸rfl) (w.c6▸rfl) sc.1 (g0:=cs) w.c10 (λq=>ft q) (b.2▸z.zip b.1) (by rw[em];exact h) λenv' a9 σ₂ aB cN bc bh=>⟨NoLimit.stays G.nolim bc.stays,kla_codeExpr ?_⟩
  rw[em] at cN bc bh
  exact S X (A.deeper env') env' _ a9 σ₂ aB l.body _ _ cN bc bh
theorem QR(G:bq c K)(D:pS c)(S:SE c n ih.eE)(C:SC c n ih.call):SV c n (yz c.T ih):=by
 intro X A env fr μ σ s fv vs x xs Q E eo o rf z h
 cases fv with
 |fn k=>
  have e:=rf
  subst e
  exact bA h λhk h=>⟨KH G o hk,sT (C X A env fr μ σ s k vs xs Q E eo.of_succ o z h)⟩
 |cls k=>
  have e:=rf
  subst e
  exact bk h λcl hc _=>⟨keeps_K (G.make k cl hc).1 _ (o.kin G),sT (WG G C eo o z h)⟩
 |bi k=>
  have e:=rf
  have w:=Qj D eo o z h
  rw[e,G.bi k w.1]
  exact⟨Cq k w.1 _,w.2⟩
 |clo l cs=>
  refine rf.elim λa w=>?_
  rw[w.1]
  refine⟨w.2.ex.elim λob y=>y.elim λfd y=>⟨.frame,.inl rfl,?_⟩,sT (Rd G S eo o w.2 z h)⟩
  refine(Looks.ld (part:=none) y.c1).andThen ?_
  rw[y.c3]
  exact .now
 |_=>exact h.elim
end
theorem EJ{v:V}(h:Ae v=true):v=.nil:=by cases v<;>first|rfl|exact ft h
theorem F4{v:V}{p:V×V}(h:wo v=some p):v=.cons p.1 p.2:=by cases v<;>first|exact ns h|exact af h▸rfl
theorem qZ{v:V}{k:Nat}(h:dX v=some k):v=.bi k:=by cases v<;>first|exact ns h|exact aq V.bi (af h)
theorem bV{α:Type}{o:Option α}{f:α->Bool}{G:Prop}(h:Option.rec false f o=true)(k:∀a,o=some a->f a=true->G):G:=ob h k λh=>ft h
theorem UX{x y:Bool}(h:aa x y (!y)=true):x=y:=by cases x<;>cases y<;>first|rfl|exact ft h
theorem HN(a:V):∀{b:V},V.beq a b=true->a=b:=by
 induction a with
 |none=>exact λh=>(nQ h).symm
 |bool x=>exact λh=>bV h λy hy h=>(pC hy).symm▸aq V.bool (UX h)
 |int x=>exact λh=>bV h λy hy h=>(qm hy).symm▸aq V.int (of_decide_eq_true h)
 |str x=>exact λh=>bV h λy hy h=>(j5 hy).symm▸aq V.str (fk.mp h)
 |nil=>exact λh=>(EJ h).symm
 |cons p q CW CX=>exact λh=>bV h λy hy h=>(F4 hy).symm▸(CW (iz h).1▸CX (iz h).2▸rfl)
 |loc n=>exact λh=>bV h λy hy h=>(ya hy).symm▸aq V.loc (bx.mp h)
 |bi n=>exact λh=>bV h λy hy h=>(qZ hy).symm▸aq V.bi (bx.mp h)
 |atom n=>exact λh=>bV h λy hy h=>(qF hy).symm▸aq V.atom (bx.mp h)
 |_=>exact λh=>ft h
theorem Wp(a:List V):∀{b:List V},uF a b=true->a=b:=by
 induction a with
 |nil=>exact λ{b} h=>by cases b with|nil=>rfl|cons=>exact ft h
 |cons x r ih=>exact λ{b} h=>by cases b with|nil=>exact ft h|cons y q=>exact List.cons_eq_cons.mpr ⟨HN x (iz h).1,ih (iz h).2⟩
theorem TJ{H:HT}{lk:List (Nat×List V)}:fe H lk=true->∀p∈lk,gH H p.1=some (.list p.2):=by
 induction lk with
 |nil=>exact λ_ p hp=>nomatch hp
 |cons q r ih=>exact λh=>bV h λo ho h=>bV h λys hy h=>bD ⟨ho.trans (aq some ((tK hy).trans (aq aF.list (Wp _ (iz h).1).symm))),ih (iz h).2⟩
section
variable{c:Cx}{X X':Addr->Prop}{A A' B:Around}{env env':Env}{fr cY:Fr}{μ ao a9 be:Mu}{σ aM σ₂ eP:Sg}{s s₁ aB sb:Shared}{E:Value->Shared->Prop}{n:Nat}{K:Frag}{ih:Ev}{α dL β fT:Type}
 {D:Mu->Heap->α->β->Prop}{D':Mu->Heap->dL->fT->Prop}
theorem Yj(le:∀b,X b->X' b):de X' X h h:=⟨λa its x l=>⟨x,λq=>l.1 (le a q),l.2⟩,λa o fd e _ _=>⟨o,e,rfl,rfl⟩,λ_ _ x=>x⟩
theorem Ok.less(o:Ok c X' A env fr μ σ s)(le:∀b,X b->X' b):Ok c X A env fr μ σ s:=
 o.exc0 (S:=λ_=>False) (λb ob e _=>.inl e) (λ_ _ f=>f.elim) (λ_ f=>f.elim) le λb hb=>(o.xlt b (le b hb)).1
theorem ad.less(r:ad c X' μ h v x)(le:∀b,X b->X' b):ad c X μ h v x:=r.mono (Yj le) (.refl _)
theorem cD.less{lo h:Heap}(x:cD c X' μ lo k m v e h)(le:∀b,X b->X' b):cD c X μ lo k m v e h:=
 ⟨x.ex.imp λ_=>bf λ_=>bf λ_=>bf λ_=>bf λ_ x=>⟨x.e1,x.e2,x.e3,x.e4,x.e5,x.e6,x.e7,x.e8,x.e9,x.e10,x.e11,x.e12,x.e13.imp λ_ q=>⟨q.1,q.2.less le⟩,x.e14.imp λ_ q=>⟨q.1,q.2.less le⟩⟩⟩
theorem ac.bindX{Q:β->Shared->Prop}{Q':fT->Shared->Prop}(h:ac c X A env fr D be sb (r.bind f) Q E)(le:∀b,X b->X' b)(n:aK A env be μ sb s)
 (k:∀a aM ao y s₁,aK A env μ ao s s₁->Ok c X' A env fr ao aM s₁->D' ao s₁.heap a y->ac c X A env fr D be sb (f a aM) Q E->Q' y s₁):ac c X' A env fr D' μ s r Q' E:=by
 cases r with
 |ok a ba=>exact λao s₁ y nx o d=>k a ba ao y s₁ nx o d h
 |exc k m v ba=>exact λao s₁ e nx o d=>h ao s₁ e (n.trans nx) (o.less le) ((d.lower n.keep.1).less le)
 |stuck=>exact h.elim
structure eO(c:Cx)(X X':Addr->Prop)(A:Around)(target:Expr)(it:Value)(wr:List Addr)(bg:List V)(lk:List (Nat×List V))(be:Mu)(sb:Shared)(St:Nat->Heap->Prop):Prop where
 le:∀b,X b->X' b
 out:∀b∈wr,¬X b
 fresh:∀b∈wr,sb.heap.get? b=none
 side:∀i h,St i h->∀b∈wr,∃o,h.get? b=some o/\kD X' b o/\¬mn o
 keep:∀i h h',St i h->(∀b∈wr,∀o,h.get? b=some o->h'.get? b=some o)->St i h'
 self:∀i (s:Shared) (Q:Value->Shared->Prop) (E':Value->Shared->Prop),St i s.heap->Q it s->wpAny c.M A (pyIter it) Q E' s
 item:∀i env fr μ σ s v (Q:Value->Shared->Prop) (E':Value->Shared->Prop),bg[i]?=some v->ce be μ->de X X sb.heap s.heap->Ok c X' A env fr μ σ s->fe σ.H lk=true->St i s.heap->
  (∀y h' tk,aY (· ∈wr) s.heap h'->St (i+1) h'->ad c X' μ h' v y->Q y {s with heap:=h',toks:=tk})->
  ∀P:Option Value->Shared->Prop,(∀y s₁,wpAny c.M A (letOwnedTupleGo target it y) (λ_ aB=>Q y aB) E' s₁->P (some y) s₁)->wpAny c.M A (pyNext it) P E' s
 done:∀env fr μ σ s (Q:Shared->Prop) (E':Value->Shared->Prop),ce be μ->de X X sb.heap s.heap->Ok c X' A env fr μ σ s->fe σ.H lk=true->St bg.length s.heap->
  (∀h' tk,(∀b o,s.heap.get? b=some o->b∉wr->h'.get? b=some o)->Q {s with heap:=h',toks:=tk})->∀P:Option Value->Shared->Prop,(∀s₁,Q s₁->P none s₁)->wpAny c.M A (pyNext it) P E' s
section
variable{target:Expr}{it:Value}{wr:List Addr}{bg:List V}{lk:List (Nat×List V)}{St:Nat->Heap->Prop}
theorem CF(hf:∀b∈wr,sb.heap.get? b=none)(n:aK A env be μ sb s)(k:∀b o,s.heap.get? b=some o->b∉wr->h'.get? b=some o)(tk:Tok):aK A env be μ sb {s with heap:=h',toks:=tk}:=
 have nb:=λb o e q=>cg e (hf b q)
 ⟨n.ext,n.fresh,⟨λb o e=>(n.keep.1 b o e).imp λo' e'=>k b o' e' (nb b o e),λb o e nm nv=>(n.keep.2 b o e nm nv).imp (λq=>k b o q (nb b o e)) λq=>⟨q.1,q.2.imp λsl q=>k b _ q (nb b o e)⟩⟩,n.gens,n.os⟩
theorem eO.bases(T:eO c X X' A target it wr bg lk be sb St)(ob:c.base.StaysIn sb.heap)(hb:b∈wr):c.base.get? b=none:=
 Option.eq_none_iff_forall_ne_some.mpr λo e=>cg (ob b o e) (T.fresh b hb)
theorem eO.side'(T:eO c X X' A target it wr bg lk be sb St)(st:St i h)(hb:b∈wr)(e:h.get? b=some o):kD X' b o/\¬mn o:=(T.side i _ st b hb).elim λo' w=>bB w.1 e▸w.2
theorem eO.ok(T:eO c X X' A target it wr bg lk be sb St)(ob:c.base.StaysIn sb.heap)(o:Ok c X' A env fr μ σ s){i:Nat}(st:St i s.heap){h':Heap}(k:aY (· ∈wr) s.heap h')(tk:Tok):Ok c X' A env fr μ σ {s with heap:=h',toks:=tk}:=
 (o.exc (s':={s with heap:=h'}) (.of_only k) (λb ob hb e=>(T.side' st hb e).1) λb hb=>T.bases ob hb).tok tk
theorem eO.okEnd(T:eO c X X' A target it wr bg lk be sb St)(ob:c.base.StaysIn sb.heap)(o:Ok c X' A env fr μ σ s)(st:St i s.heap)(k:∀b o,s.heap.get? b=some o->b∉wr->h'.get? b=some o)(tk:Tok):Ok c X A env fr μ σ {s with heap:=h',toks:=tk}:=
 (o.exc0 (s':={s with heap:=h'}) (S:=(· ∈wr)) (λb ob e nb=>.inl (k b ob e nb)) (λb ob hb e=>(T.side' st hb e).1) (λb hb=>T.bases ob hb) T.le λb hb=>(o.xlt b (T.le b hb)).1.imp λC7 e=>k b C7 e λq=>T.out b q hb).tok tk
theorem eO.stays(T:eO c X X' A target it wr bg lk be sb St)(o:Ok c X' A env fr μ σ s)(st:St i s.heap)(n:aK A env μ ao s s₁):St i s₁.heap:=
 T.keep i _ _ st λb hb ob e=>
  have w:=T.side' st hb e
  (n.keep.2 b ob e (λm=>CG w.1 (o.mut b ob e m)) w.2).elim id λhf=>o.frs.elim λl y=>
   have hf:=(kL y.1).mp hf.1
   w.1.elim (λq=>q.elim λvs q=>(y.2.1.at hf).elim λo' z=>aV q.1 (bB z.1 e▸z.2 vs)) λq=>aV q.1 (y.2.2 b hf).2
structure tD(c:Cx)(X X':Addr->Prop)(A:Around)(env:Env)(fr:Fr)(D:Mu->Heap->α->β->Prop)(bg:List V)(lk:List (Nat×List V))(be:Mu)(sb:Shared)(St:Nat->Heap->Prop)(loop:List V->Sg->R α)(Q:β->Shared->Prop)(E:Value->Shared->Prop)(s:Shared)(pre rest:List V)(μ:Mu)(σ:Sg):Prop where
 eq:pre++rest=bg
 nx:aK A env be μ sb s
 ok:Ok c X' A env fr μ σ s
 st:St pre.length s.heap
 lo:fe σ.H lk=true
 th:ac c X A env fr D be sb (loop rest σ) Q E
structure AN(c:Cx)(X X':Addr->Prop)(A:Around)(env:Env)(fr:Fr)(D:Mu->Heap->α->β->Prop)(bg:List V)(lk:List (Nat×List V))(be:Mu)(sb:Shared)(St:Nat->Heap->Prop)(loop:List V->Sg->R α)(Q:β->Shared->Prop)(E:Value->Shared->Prop)(k:Nat)(s:Shared):Prop where
 ex:∃pre rest μ σ,k=rest.length/\tD c X X' A env fr D bg lk be sb St loop Q E s pre rest μ σ
structure xz(c:Cx)(X:Addr->Prop)(A:Around)(env:Env)(wr:List Addr)(gj:Mu)(dS:Shared)(be:Mu)(sb:Shared):Prop where
 ext:ce gj be
 fr:∀b∈wr,sb.heap.get? b=none
 st:∀μ s,aK A env be μ sb s->de X X dS.heap s.heap
 bs:c.base.StaysIn dS.heap
theorem XT(pre:List V)(v:V)(r:List V):(pre++v::r)[pre.length]?=some v:=by rw[List.getElem?_append_right (Nat.le_refl _),Nat.sub_self];rfl
theorem tD.item{Q:β->Shared->Prop}(L:tD c X X' A env fr D bg lk be sb St loop Q E s pre (v::r) μ σ)(T:eO c X X' A target it wr bg lk gj dS St)(B:xz c X A env wr gj dS be sb){Q':Value->Shared->Prop}{E':Value->Shared->Prop}
 (k:∀y s₁,aK A env be μ sb s₁->Ok c X' A env fr μ σ s₁->ad c X' μ s₁.heap v y->(∀a9 σ₂ aB,aK A env μ a9 s₁ aB->Ok c X' A env fr a9 σ₂ aB->fe σ₂.H lk=true->ac c X A env fr D be sb (loop r σ₂) Q E->∃m,m<r.length+1/\AN c X X' A env fr D bg lk be sb St loop Q E m aB)->Q' y s₁)
 (P:Option Value->Shared->Prop)(hP:∀y s₁,wpAny c.M A (letOwnedTupleGo target it y) (λ_ aB=>Q' y aB) E' s₁->P (some y) s₁):wpAny c.M A (pyNext it) P E' s:=
 T.item pre.length env fr μ σ s v Q' E' (L.eq▸XT pre v r) (B.ext.trans L.nx.ext) (B.st μ s L.nx) L.ok L.lo L.st (λy h' tk kk mv ry=>
  have n1:=CF B.fr L.nx kk.2 tk
  have o1:=T.ok B.bs L.ok L.st kk tk
  k y _ n1 o1 ry λa9 σ₂ aB bG bc lo h=>⟨r.length,Nat.lt_succ_self _,pre++[v],r,a9,σ₂,rfl,(List.append_assoc ..).trans L.eq,n1.trans bG,bc,by rw[List.length_append];exact T.stays o1 mv bG,lo,h⟩) P hP
theorem tD.done{Q:β->Shared->Prop}(L:tD c X X' A env fr D bg lk be sb St loop Q E s pre [] μ σ)(T:eO c X X' A target it wr bg lk gj dS St)(B:xz c X A env wr gj dS be sb){E':Value->Shared->Prop}
 (P:Option Value->Shared->Prop)(hP:∀s₁,aK A env be μ sb s₁->Ok c X A env fr μ σ s₁->P none s₁):wpAny c.M A (pyNext it) P E' s:=
 have e:=(List.append_nil pre).symm.trans L.eq
 T.done env fr μ σ s (P none) E' (B.ext.trans L.nx.ext) (B.st μ s L.nx) L.ok L.lo (e▸L.st) (λh' tk k=>hP _ (CF B.fr L.nx k tk) (T.okEnd B.bs L.ok L.st k tk)) P λ_ h=>h
theorem WW(G:bq c K)(S:SE c n ih.eE)(vC:SS c n ih.eS)(eo:aJ c n A env fr)(T:eO c X X' A (an c.nm t) it wr bg lk be sb St)(ob:Ok c X A env fr be eP sb){Q:Flow->Shared->Prop}
 (n0:aK A env be μ sb s)(o:Ok c X' A env fr μ σ s)(st:St 0 s.heap)(lo:fe σ.H lk=true)(h:ac c X A env fr (DF c X) be sb (wn c.T ih fr t b lk bg σ) Q E):
 codeAny c.M A (.forLoop (an c.nm t) it (cU c.nm b) [] env) (λr s'=>match r with|.ok f=>Q f s'|.error e=>cameBackBy c.M A env E e s') s:=by
 refine codeAny_forLoop_any (AN c X X' A env fr (DF c X) bg lk be sb St (wn c.T ih fr t b lk) Q E) (λk s La=>La.ex.elim λpre w=>w.elim λrest w=>w.elim λμ w=>w.elim λσ w=>?_) bg.length ⟨[],bg,μ,σ,rfl,rfl,n0,o,st,lo,h⟩
 obtain⟨e,L⟩:=w
 have B:xz c X A env wr be sb be sb:=⟨.refl _,T.fresh,λμ s n=>n.stays ob,ob.stays⟩
 cases rest with
 |nil=>exact L.done T B _ λs₁ n₁ aC=>wpAny_execs_nil (ac.ok (y:=Flow.next) L.th n₁ aC trivial)
 |cons v r=>
  subst e
  refine L.item T B (Q':=λy s₁=>_) (λy s₁ n1 o1 ry nxt=>?_) _ λy s₁ h=>h
  exact wD G S X' A env fr μ σ _ t v y _ _ eo o1 ry ((ac.bindX (D':=DU) L.th T.le n1 λ_ aM ao _ aB n₁ aC _ h₁=>
   ou vC eo b aC ((ac.bindX (D':=DF c X') h₁ T.le (n1.trans n₁) λf σ₂ a9 y dy bG bc dE bh=>by
    revert bh
    exact tM dE (λbh=>bA bh λvD bh=>nxt a9 σ₂ dy (n₁.trans bG) bc vD bh) λv w r bh=>ac.ok (y:=Flow.ret w) bh (n1.trans (n₁.trans bG)) (bc.less T.le) (ad.less r T.le)).loopE eo aC)).loopE eo o1)
end
end
section
variable{c:Cx}{X X':Addr->Prop}{A A' B:Around}{env env':Env}{fr cY:Fr}{μ ao a9 be:Mu}{σ aM σ₂ eP:Sg}{s s₁ aB sb:Shared}{E:Value->Shared->Prop}{n:Nat}{K:Frag}{ih:Ev}{α dL β fT:Type}
 {target:Expr}{bg:List V}{lk:List (Nat×List V)}
def CQ:List String:=["enumerate","zip","dict_itemiterator","dict_reverseitemiterator","odict_iterator","itertools.zip_longest","itertools.pairwise"]
theorem NV{Q:Unit->Shared->Prop}(ho:s.heap.get? I=some o)(hc:o.cls=.type cls)(hd:o.data=.fields vs)(hn:CQ.contains cls=false)(q:Q () s):
 wpAny M A (letOwnedTupleGo target (.ref I) y) Q E s:=by
 have key:wpAny M A (do
  let (.ref r,.ref a):=(Value.ref I,y)|return
  let o ← load r
  match o.cls,o.data with
  |.type n,.fields vs=>
   if CQ.contains n&&vs[0]? ==some (rawInt a) then
    rule "for.unpacks-the-owned-tuple"
    updateField r 0 .none
  |_,_=>pure ()) Q E s:=by
  cases y with
  |ref a=>
   refine ah (wpAny_load ho ?_)
   rw[hc,hd]
   exact uL (λh=>by rw[hn] at h;exact ft h) (aS q)
  |_=>exact aS q
 cases target with
 |Tuple|List=>exact key
 |_=>exact aS q
structure nG(I:Addr)(h:Heap)(o:Obj)(cls:String)(vs:Array Value):Prop where
 at1:h.get? I=some o
 cl:o.cls=.type cls
 da:o.data=.fields vs
 no:∀q t,vs[1]?≠some (.str q t)
 n1:cls≠ "code"
 n2:cls≠ "traceback"
theorem nG.sid(x:nG I h o cls vs):sk o/\¬mn o:=
 ⟨⟨vs,x.da,x.no,.inl ⟨_,x.cl,x.n1⟩⟩,λv=>v.elim λws z=>z.2.2.elim (λz=>x.n2 (Value.type.inj (x.cl.symm.trans z))) λz=>z.elim (λz=>z.elim λa z=>I1 (z.symm.trans x.cl)) λz=>nomatch x.cl.symm.trans z⟩
theorem Jg{S:Addr->Prop}(k:aY S h h')(hS:∀b o,S b->h.get? b=some o->kD X b o):de X X h h':=Ec (Fs:=[]) (λb o e nb=>.inl (k.2 b o e nb)) hS λ_ q=>q
theorem AI(ob:Ok c X A env fr be eP sb)(hI:sb.heap.get? I=none){St:Nat->Heap->Prop}(io:∀i h,St i h->∃o cls vs,nG I h o cls vs/\CQ.contains cls=false)(kp:∀i h h',St i h->(∀o,h.get? I=some o->h'.get? I=some o)->St i h')
 (self:∀i (s:Shared) (Q:Value->Shared->Prop) (E':Value->Shared->Prop),St i s.heap->Q (.ref I) s->wpAny c.M A (pyIter (.ref I)) Q E' s)
 (item:∀i env fr μ σ s v (Q:Option Value->Shared->Prop) (E':Value->Shared->Prop),bg[i]?=some v->ce be μ->de X X sb.heap s.heap->Ok c X A env fr μ σ s->fe σ.H lk=true->St i s.heap->
  (∀y h' tk,Heap.SameBut I s.heap h'->St (i+1) h'->ad c X μ s.heap v y->Q (some y) {s with heap:=h',toks:=tk})->wpAny c.M A (pyNext (.ref I)) Q E' s)
 (done:∀env fr μ σ s (Q:Option Value->Shared->Prop) (E':Value->Shared->Prop),ce be μ->de X X sb.heap s.heap->Ok c X A env fr μ σ s->fe σ.H lk=true->St bg.length s.heap->
  (∀h',(∀b o,b≠I->s.heap.get? b=some o->h'.get? b=some o)->Q none {s with heap:=h'})->wpAny c.M A (pyNext (.ref I)) Q E' s):
 eO c X X A target (.ref I) [I] bg lk be sb St where
 le:=λ_ q=>q
 out:=λb hb=>List.mem_singleton.mp hb▸mY ob hI
 fresh:=λb hb=>List.mem_singleton.mp hb▸hI
 side:=λi h st b hb=>List.mem_singleton.mp hb▸(io i h st).elim λo w=>w.elim λcls w=>w.elim λvs w=>⟨o,w.1.at1,.inl w.1.sid.1,w.1.sid.2⟩
 keep:=λi h h' st k=>kp i h h' st (k I (.head _))
 self:=self
 item:=λi env fr μ σ s v Q E' hv ex sy o lo st hQ P hP=>item i env fr μ σ s v P E' hv ex sy o lo st λy h' tk sb' mv ry=>(io _ _ mv).elim λo' w=>w.elim λcls w=>w.elim λvs w=>
  have kk:=(aY.same sb' w.1.at1).mono λb _ _ q=>List.mem_singleton.mpr q
  hP y _ (NV w.1.at1 w.1.cl w.1.da w.2 (hQ y h' tk kk mv (ry.mono (Jg kk λb o2 hb e=>(io _ _ st).elim λo3 w=>w.elim λcls w=>w.elim λvs w=>.inl (bB w.1.at1 (List.mem_singleton.mp hb▸e)▸w.1.sid.1)) (.refl _))))
 done:=λenv fr μ σ s Q E' ex sy o lo st hQ P hP=>done env fr μ σ s P E' ex sy o lo st λh' k=>hP _ (hQ h' s.toks λb o e nb=>k b o (λq=>nb (List.mem_singleton.mpr q)) e)
theorem nq(o:Ok c X A env fr μ σ s)(e:ce be μ)(lo:fe σ.H lk=true)(hm:p∈lk)(hp:aj be p.1=some (a,a)):
 ∃its,s.heap.IsList a its/\ay (ad c X μ s.heap) p.2 its.toList:=
 (o.obj p.1 _ (TJ lo p hm)).elim λq z=>z.2.2.imp λits w=>by rw[bB z.1 (e _ _ hp)] at w;exact⟨w.1.isList,w.2.1⟩
theorem rU{its:Array Value}{i:Nat}(h:its.toList[i]?=some x):its[i]?=some x:=Array.getElem?_toList.symm.trans h
theorem uP{its:Array Value}(z:ay (ad c X μ h) l its.toList):its[l.length]?=none:=Array.getElem?_eq_none (Nat.le_of_eq (cB z))
theorem y7(n1:cls≠ "code")(n2:cls≠ "traceback")(e:h.get? I=some o)(hc:o.cls=.type cls)(hd:o.data=.fields #[.ref a,.int i 0]):nG I h o cls #[.ref a,.int i 0]:=⟨e,hc,hd,(λq t e=>nomatch af e),n1,n2⟩
theorem Sp(hh:A.handled=none)(ob:Ok c X A env fr be eP sb){p:Nat×List V}{a:Addr}(hm:p∈lk)(hp:aj be p.1=some (a,a)):
 eO c X X A target (.ref sb.heap.objs.size) [sb.heap.objs.size] p.2 lk be sb (λi h=>h.IsListIter sb.heap.objs.size a i):=
 AI ob (dk _) (λi h st=>st.elim λo w=>⟨o,_,_,y7 (by decide) (by decide) w.1 w.2.1 w.2.2,by decide⟩) (λi h h' st k=>st.at k) (λi s Q E' st q=>wpAny_pyIter_listiter st q)
  (λi env fr μ σ s v Q E' hv ex sy o lo st hQ=>(nq o ex lo hm hp).elim λits w=>(w.2.get i v hv).elim λx y=>wpAny_pyNext_list_item st w.1 (rU y.1) λh' nV k=>hQ x h' s.toks k nV y.2)
  λenv fr μ σ s Q E' ex sy o lo st hQ=>(nq o ex lo hm hp).elim λits w=>wpAny_pyNext_list_end hh st w.1 (uP w.2) λh' k=>hQ h' k
theorem WE(hh:A.handled=none)(ob:Ok c X A env fr be eP sb){a:Addr}{its:Array Value}(ht:sb.heap.IsTuple a its)(hl:Lv X sb.heap a)(z:ay (ad c X be sb.heap) bg its.toList):
 eO c X X A target (.ref sb.heap.objs.size) [sb.heap.objs.size] bg lk be sb (λi h=>h.IsTupleIter sb.heap.objs.size a i):=
 AI ob (dk _) (λi h st=>st.elim λo w=>⟨o,_,_,y7 (by decide) (by decide) w.1 w.2.1 w.2.2,by decide⟩) (λi h h' st k=>st.imp λo w=>⟨k o w.1,w.2⟩) (λi s Q E' st q=>wpAny_pyIter_tupleiter st q)
  (λi env fr μ σ s v Q E' hv ex sy o lo st hQ=>((zO z sy ex).get i v hv).elim λx y=>wpAny_pyNext_tuple_item st (sy.tup a its ht hl).1 (rU y.1) λh' nV k=>hQ x h' s.toks k nV y.2)
  λenv fr μ σ s Q E' ex sy o lo st hQ=>wpAny_pyNext_tuple_end hh st (sy.tup a its ht hl).1 (uP z) λh' k=>hQ h' k
theorem Ts(m:Nat):∀{a i:Nat} {v:V},(tn a m)[i]?=some v->i<m/\v=.int ((a+i:Nat):Int):=by
 induction m with
 |zero=>exact λh=>ns h
 |succ m ih=>exact λ{a i v}=>Nat.casesOn i (λh=>⟨Nat.succ_pos _,(af h).symm⟩) λi h=>⟨Nat.succ_lt_succ (ih h).1,(ih h).2.trans (by rw[Nat.add_assoc,Nat.add_comm 1])⟩
theorem Ot(m:Nat):∀a,(tn a m).length=m:=by induction m with|zero=>exact λ_=>rfl|succ m ih=>exact λa=>aq Nat.succ (ih _)
theorem Q7(hh:A.handled=none)(ob:Ok c X A env fr be eP sb)(hI:sb.heap.get? I=none)(m:Nat):
 eO c X X A target (.ref I) [I] (tn 0 m) lk be sb (λi h=>IsRangeIter h I (i:Int) ((m:Int)-i) 1):=
 AI ob hI (λi h st=>⟨_,"range_iterator",_,⟨st,rfl,rfl,(λq t e=>nomatch af e),by decide,by decide⟩,by decide⟩) (λi h h' st k=>k _ st) (λi s Q E' st q=>wpAny_pyIter_rangeiter st q)
  (λi env fr μ σ s v Q E' hv ex sy o lo st hQ=>by
   have w:=Ts m hv
   have e2:(m:Int)-i-1=(m:Int)-((i+1:Nat):Int):=Int.sub_sub ..
   refine wpAny_pyNext_range_item st (Int.sub_pos_of_lt (Int.ofNat_lt.mpr w.1)) λh' nV k=>?_
   rw[e2] at nV
   exact hQ _ h' (s.toks+1) k nV (w.2▸⟨s.toks,by rw[dY]⟩))
  λenv fr μ σ s Q E' ex sy o lo st hQ=>by
   rw[Ot] at st
   exact wpAny_pyNext_range_end hh st (Int.le_of_eq (Int.sub_self _)) λh' k=>hQ h' k
end
theorem qX{P:Addr->Prop}(h1:P a)(h2:P b):∀x∈[a,b],P x:=bD ⟨h1,λx h=>List.mem_singleton.mp h▸h2⟩
theorem FV{P:Addr->Prop}(h1:P a)(h2:P b)(h3:P d)(h4:P e)(h5:P f):∀x∈[a,b,d,e,f],P x:=bD ⟨h1,bD ⟨h2,bD ⟨h3,qX h4 h5⟩⟩⟩
section
variable{c:Cx}{X X':Addr->Prop}{A A' B:Around}{env env':Env}{fr cY:Fr}{μ ao a9 be:Mu}{σ aM σ₂ eP:Sg}{s s₁ aB sb:Shared}{E:Value->Shared->Prop}{n:Nat}{K:Frag}{ih:Ev}{α dL β fT:Type}
 {target:Expr}{bg:List V}{lk:List (Nat×List V)}
abbrev pU(X:Addr->Prop)(h:Heap)(b:Addr):Prop:=∃o,h.get? b=some o/\kD X b o/\¬mn o
theorem nG.side(x:nG I h o cls vs):pU X h I:=⟨o,x.at1,.inl x.sid.1,x.sid.2⟩
theorem uT(st:h.IsListIter I a i):pU X h I:=st.elim λo w=>(y7 (by decide) (by decide) w.1 w.2.1 w.2.2).side
theorem Aq(st:IsEnum h e it i old):pU X h e:=nG.side ⟨st,rfl,rfl,(λq t e=>nomatch af e),by decide,by decide⟩
theorem L7{wr:List Addr}(k:aY (· ∈wr) h h')(hS:∀b∈wr,pU X h b):de X X h h':=Jg k λb o hb e=>(hS b hb).elim λo' w=>bB w.1 e▸w.2.1
theorem HG{wr:List Addr}(k:∀b o,h.get? b=some o->b∉wr->h'.get? b=some o)(l:∀b∈wr,pU X h' b):aY (· ∈wr) h h':=.at k λb hb=>(l b hb).imp λ_ w=>w.1
theorem Ll(hT:h.get? T=some {cls:=.type "tuple",data:=.seq #[x,y]})(nx:¬X T)(ru:ad c X μ h u x)(rv:ad c X μ h v y):ad c X μ h (.cons u (.cons v .nil)) (.ref T):=
 (hZ rfl).mpr ⟨T,#[x,y],rfl,⟨_,hT,rfl,_,rfl⟩,⟨nx,_,hT,rfl⟩,.cons ru (.cons rv .nil)⟩
theorem XO(xs:List V):∀{a i:Nat} {v:V},(yu a xs)[i]?=some v->∃x,xs[i]?=some x/\v=.cons (.int ((a+i:Nat):Int)) (.cons x .nil):=by
 induction xs with
 |nil=>exact λh=>ns h
 |cons x r ih=>exact λ{a i v}=>Nat.casesOn i (λh=>⟨x,rfl,(af h).symm⟩) λi h=>(ih h).imp λy w=>⟨w.1,w.2.trans (by rw[Nat.add_assoc,Nat.add_comm 1])⟩
theorem Y7(xs:List V):∀a,(yu a xs).length=xs.length:=by induction xs with|nil=>exact λ_=>rfl|cons x r ih=>exact λa=>aq Nat.succ (ih _)
theorem Qe(hh:A.handled=none)(ob:Ok c X A env fr be eP sb){elts:List Expr}(hm:p∈lk)(hp:aj be p.1=some (a,a))(he:sb.heap.get? e=none)(hit:sb.heap.get? it=none)(iB:e≠it):
 eO c X X A (.Tuple elts k0 pos) (.ref e) [e,it] (yu 0 p.2) lk be sb (λi h=>(∃old,IsEnum h e it (i:Int) old)/\h.IsListIter it a i) where
 le:=λ_ q=>q
 out:=qX (mY ob he) (mY ob hit)
 fresh:=qX he hit
 side:=λi h st=>qX (st.1.elim λ_ w=>Aq w) (uT st.2)
 keep:=λi h h' st k=>⟨st.1.imp λold w=>k e (.head _) _ w,st.2.at λo e1=>k it (.tail _ (.head _)) o e1⟩
 self:=λi s Q E' st q=>st.1.elim λ_ w=>wpAny_pyIter_enum w q
 item:=λi env fr μ σ s v Q E' hv ex sy o lo st hQ P hP=>st.1.elim λold iy=>(XO p.2 hv).elim λx w=>(nq o ex lo hm hp).elim λits z=>(z.2.get i x w.1).elim λy r=>by
  refine wpAny_pyNext_enum_item iy st.2 z.1 (rU r.1) iB λh' a1 a2 a3 _ a5=>hP _ _ (wpAny_letOwnedTupleGo_enum a1 λh2 b1 b2=>?_)
  have hi:h2.IsListIter it a (i+1):=a2.imp λo z=>⟨(b2.2 it (λq=>iB q.symm)).trans z.1,z.2⟩
  have hT:=(b2.2 _ (Nat.ne_of_gt (Heap.lt_size iy))).trans a3
  have kk:=HG (X:=X) (λb ob eb nb=>(b2.2 b (λq=>nb (q▸.head _))).trans (a5 b ob (λq=>nb (q▸.head _)) (λq=>nb (q▸.tail _ (.head _))) eb)) (qX (Aq b1) (uT hi))
  have mv:de X X s.heap h2:=L7 kk (qX (Aq iy) (uT st.2))
  rw[w.2,dY] at hQ
  exact hQ _ h2 (s.toks+1) kk ⟨⟨y,b1⟩,hi⟩ (Ll hT (mY o (dk _)) ⟨s.toks,rfl⟩ (r.2.mono mv (.refl _)))
 done:=λenv fr μ σ s Q E' ex sy o lo st hQ P hP=>st.1.elim λold iy=>(nq o ex lo hm hp).elim λits z=>by
  rw[Y7] at iy st
  exact wpAny_pyNext_enum_end hh iy st.2 z.1 (uP z.2) λh' k=>hP _ (hQ h' s.toks λb ob e nb=>k b ob (λq=>nb (q▸.tail _ (.head _))) e)
theorem XS(xs:List V):∀{ys:List V} {i:Nat} {v:V},(r8 xs ys)[i]?=some v->∃x y,xs[i]?=some x/\ys[i]?=some y/\v=.cons x (.cons y .nil):=by
 induction xs with
 |nil=>exact λh=>ns h
 |cons x r ih=>exact λ{ys i v}=>by cases ys with|nil=>exact λh=>ns h|cons y q=>exact Nat.casesOn i (λh=>⟨x,y,rfl,rfl,(af h).symm⟩) λi h=>ih h
theorem Z1(xs:List V):∀ys:List V,(r8 xs ys).length=xs.length\/(r8 xs ys).length=ys.length:=by
 induction xs with
 |nil=>exact λ_=>.inl rfl
 |cons x r ih=>exact λys=>by cases ys with|nil=>exact .inr rfl|cons y q=>exact(ih q).imp (aq Nat.succ) (aq Nat.succ)
def zx(X:Addr->Prop)(TI TO:Addr)(b:Addr):Prop:=X b\/b=TI\/b=TO
structure xh(z TI TO i1 i2 a1 a2:Addr)(i:Nat)(h:Heap):Prop where
 z:IsZip h z TI TO .none
 pi:IsPair h TI (.ref i1) (.ref i2)
 po:∃a b,IsPair h TO a b
 l1:h.IsListIter i1 a1 i
 l2:h.IsListIter i2 a2 i
theorem Eb(p:IsPair h T x y)(hX:X T):pU X h T:=⟨_,p,.inr ⟨hX,rfl,_,_,rfl⟩,λv=>v.elim λ_ z=>nomatch z.1⟩
theorem xh.side{z TI TO i1 i2 a1 a2:Addr}(x:xh z TI TO i1 i2 a1 a2 i h):∀b∈[z,TI,TO,i1,i2],pU (zx X TI TO) h b:=
 FV (nG.side ⟨x.z,rfl,rfl,(λq t e=>nomatch af e),by decide,by decide⟩) (Eb x.pi (.inr (.inl rfl))) (x.po.elim λ_ w=>w.elim λ_ w=>Eb w (.inr (.inr rfl))) (uT x.l1) (uT x.l2)
theorem RZ(hh:A.handled=none)(ob:Ok c X A env fr be eP sb){elts:List Expr}(MU:p∈lk)(MV:aj be p.1=some (a1,a1))(MW:q∈lk)(yI:aj be q.1=some (a2,a2))
 (D:ZipApart z TI TO i1 i2 a1 a2)(hf:∀b∈[z,TI,TO,i1,i2],sb.heap.get? b=none):eO c X (zx X TI TO) A (.Tuple elts k0 pos) (.ref z) [z,TI,TO,i1,i2] (r8 p.2 q.2) lk be sb (xh z TI TO i1 i2 a1 a2) where
 le:=λ_ q=>.inl q
 out:=λb hb=>mY ob (hf b hb)
 fresh:=hf
 side:=λi h x=>x.side
 keep:=λi h h' x k=>⟨k z (.head _) _ x.z,k TI (.tail _ (.head _)) _ x.pi,x.po.imp λa=>bf λb w=>k TO (.tail _ (.tail _ (.head _))) _ w,x.l1.at λo e=>k i1 (.tail _ (.tail _ (.tail _ (.head _)))) o e,x.l2.at λo e=>k i2 (.tail _ (.tail _ (.tail _ (.tail _ (.head _))))) o e⟩
 self:=λi s Q E' st q=>wpAny_pyIter_zip st.z q
 item:=λi env fr μ σ s v Q E' hv ex sy0 o lo st hQ P hP=>(XS p.2 hv).elim λx w=>w.elim λy w=>(nq o ex lo MU MV).elim λits z1=>(nq o ex lo MW yI).elim λgG z2=>
  (z1.2.get i x w.1).elim λx' r1=>(z2.2.get i y w.2.1).elim λy' r2=>st.po.elim λa po=>po.elim λb po=>by
  refine wpAny_pyNext_zip_item D st.z st.pi po st.l1 st.l2 z1.1 z2.1 (rU r1.1) (rU r2.1) λh' b1 b2 b3 b4 b5 _ b7=>hP _ _ (wpAny_letOwnedTupleGo_zip b1 λh2 c1 c2=>?_)
  have mv:xh z TI TO i1 i2 a1 a2 (i+1) h2:=⟨c1,c2.extBut _ _ D.TIz (b7 _ _ D.TIz D.TITO D.TIi1 D.TIi2 st.pi),⟨_,_,c2.extBut _ _ D.TOz b2⟩,b3.extBut c2.extBut D.i1z,b4.extBut c2.extBut D.i2z⟩
  have kk:=HG (X:=zx X TI TO) (λb ob eb nb=>
   have n1:=λq=>nb (q▸.head _)
   c2.extBut _ _ n1 (b7 b ob n1 (λq=>nb (q▸.tail _ (.tail _ (.head _)))) (λq=>nb (q▸.tail _ (.tail _ (.tail _ (.head _))))) (λq=>nb (q▸.tail _ (.tail _ (.tail _ (.tail _ (.head _)))))) eb)) mv.side
  have hT:=c2.extBut _ _ (Nat.ne_of_gt (Heap.lt_size st.z)) b5
  have sy:de (zx X TI TO) (zx X TI TO) s.heap h2:=L7 kk st.side
  rw[w.2.2] at hQ
  exact hQ _ h2 s.toks kk mv (Ll hT (mY o (dk _)) (r1.2.mono sy (.refl _)) (r2.2.mono sy (.refl _)))
 done:=λenv fr μ σ s Q E' ex sy0 o lo st hQ P hP=>(nq o ex lo MU MV).elim λits z1=>(nq o ex lo MW yI).elim λgG z2=>st.po.elim λa po=>po.elim λb po=>
  wpAny_pyNext_zip_end hh D st.z st.pi po st.l1 st.l2 z1.1 z2.1 ((Z1 p.2 q.2).elim (λe=>.inl (by rw[e];exact uP z1.2)) λe=>.inr (by rw[e];exact uP z2.2)) λh' k=>hP _ (hQ h' s.toks λb ob e nb=>
   k b ob (λq=>nb (q▸.head _)) (λq=>nb (q▸.tail _ (.tail _ (.head _)))) (λq=>nb (q▸.tail _ (.tail _ (.tail _ (.head _))))) (λq=>nb (q▸.tail _ (.tail _ (.tail _ (.tail _ (.head _)))))) e)
theorem Ok.more(o:Ok c X A env fr μ σ s)(k:aY (λ_=>False) s.heap s'.heap){X':Addr->Prop}(hx:∀b,X' b->X b\/s.heap.get? b=none)(xl:∀b,X' b->(∃o,s'.heap.get? b=some o)/\c.base.get? b=none):Ok c X' A env fr μ σ s':=
 have y:=o.add k
 have nx:=λb ob e q=>(hx b q).resolve_right λw=>cg e w
 have kk:=λb ob e=>k.2 b ob e id
 have st:=(k.keepX []).stays (λ_ _ _ f=>f.elim) nx
 ⟨y.len,λi oi e=>(o.obj i oi e).imp λq z=>⟨z.1,z.2.keep (λ_=>kk _ _) (λ_=>kk _ _) st (.refl _)⟩,y.apart,λb hb=>⟨(o.new b hb).1,λq=>(o.own_mut hb).elim λob w=>(o.new b hb).2 (nx b ob w.1 q)⟩,
  nh o.ns (λm a=>a.keeps kk) st (.refl _),⟨o.lout.1,o.lout.2.1,λq=>o.loc_mut.elim λob w=>o.lout.2.2 (nx _ ob w.1 q)⟩,y.cells,y.stays,
  y.frs.elim λl w=>⟨l,w.1,w.2.1,λb hb=>⟨(w.2.2 b hb).1,λq=>(o.frame_alive ((kL w.1).mpr hb)).elim λob e=>(w.2.2 b hb).2 (nx b ob e q)⟩⟩,y.tabs,xl⟩
end
section
variable{c:Cx}{X X':Addr->Prop}{A A' B:Around}{env env':Env}{fr cY:Fr}{μ ao a9 be:Mu}{σ aM σ₂ eP:Sg}{s s₁ aB sb:Shared}{E:Value->Shared->Prop}{n:Nat}{K:Frag}{ih:Ev}{α dL β fT:Type}
 {D:Mu->Heap->α->β->Prop}
theorem xw(h:glob c.T fr x=some v):au fr.sc x=some 3/\c.T.gl x=some v:=
 on (h) λk hk h=>⟨hk.trans (aq some (bx.mp (cs h).1)),(cs h).2⟩
theorem Hw(G:bq c K)(eo:aJ c n A env fr)(o:Ok c X A env fr μ σ s)(h:glob c.T fr x=some v){Q:Value->Shared->Prop}(q:∀y,ad c X μ s.heap v y->Q y s):wpAny c.M A (eval (.Name (c.nm x) (aE p)) env) Q E s:=
 zy G eo o (xw h).1 (xw h).2 q
theorem ac.args1{r:R V}{Q:β->Shared->Prop}{Q':List Value->Shared->Prop}(h:ac c X A env fr D μ s (r.bind f) Q E)
 (k:∀v aM ao y s₁,aK A env μ ao s s₁->Ok c X A env fr ao aM s₁->ad c X ao s₁.heap v y->ac c X A env fr D ao s₁ (f v aM) Q E->Q' [y] s₁):ac c X A env fr (DL c X) μ s (r.bind λv s=>.ok [v] s) Q' E:=by
 cases r with
 |ok a ba=>
  intro ao s₁ ys nx o d
  cases d with
  |cons d1 d2=>cases d2 with|nil=>exact k a ba ao _ s₁ nx o d1 (ac.shift (h) nx)
 |exc k m v ba=>exact h
 |stuck=>exact h.elim
theorem pJ{γ:Type}{o:Option γ}{f:γ->R dL}{Q:β->Shared->Prop}{G:Prop}(h:ac c X A env fr D μ s ((aX o f).bind g) Q E)(k:∀a,o=some a->ac c X A env fr D μ s ((f a).bind g) Q E->G):G:=by
 cases o with|none=>exact h.elim|some a=>exact k a rfl h
theorem og{r r':R dL}{Q:β->Shared->Prop}{G:Prop}(h:ac c X A env fr D μ s ((aa b r r').bind g) Q E)(k:b=true->ac c X A env fr D μ s (r.bind g) Q E->G)(k':b=false->ac c X A env fr D μ s (r'.bind g) Q E->G):G:=by
 cases b with|false=>exact k' rfl h|true=>exact k rfl h
theorem AE{γ:Type}{o:Option γ}{f:γ->R dL}{Q:β->Shared->Prop}{G:Prop}(h:ac c X A env fr D μ s ((dF o f d).bind g) Q E)(k:∀a,o=some a->ac c X A env fr D μ s ((f a).bind g) Q E->G)(k':ac c X A env fr D μ s (d.bind g) Q E->G):G:=by
 cases o with|none=>exact k' h|some a=>exact k a rfl h
structure PX(c:Cx)(X:Addr->Prop)(A:Around)(env:Env)(fr:Fr)(D:Mu->Heap->α->β->Prop)(t:Mine.E)(f:(List V×List (Nat×List V)×Bool)->Sg->R α)(Q:β->Shared->Prop)(E:Value->Shared->Prop)(μ:Mu)(s:Shared)(it:Value)(aB:Shared)
 (X':Addr->Prop)(wr:List Addr)(bg:List V)(lk:List (Nat×List V))(own:Bool)(aM:Sg)(ao:Mu)(s₁:Shared)(St:Nat->Heap->Prop):Prop where
 nx:aK A env μ ao s s₁
 o1:Ok c X A env fr ao aM s₁
 T:eO c X X' A (an c.nm t) it wr bg lk ao s₁ St
 only:aY (λ_=>False) s₁.heap aB.heap
 gens:aB.gens=s₁.gens
 os:aB.os=s₁.os
 o2:Ok c X' A env fr ao aM aB
 st:St 0 aB.heap
 lo:fe aM.H lk=true
 th:ac c X A env fr D ao s₁ (f (bg,lk,own) aM) Q E
structure nM(c:Cx)(X:Addr->Prop)(A:Around)(env:Env)(fr:Fr)(D:Mu->Heap->α->β->Prop)(t:Mine.E)(f:(List V×List (Nat×List V)×Bool)->Sg->R α)(Q:β->Shared->Prop)(E:Value->Shared->Prop)(μ:Mu)(s:Shared)(it:Value)(aB:Shared):Prop where
 ex:∃X' wr bg lk own aM ao s₁ St,PX c X A env fr D t f Q E μ s it aB X' wr bg lk own aM ao s₁ St
theorem nM.shift{Q:β->Shared->Prop}(x:nM c X A env fr D t f Q E ao s₁ it aB)(n:aK A env μ ao s s₁):nM c X A env fr D t f Q E μ s it aB:=
 ⟨x.ex.imp λ_=>bf λ_=>bf λ_=>bf λ_=>bf λ_=>bf λ_=>bf λ_=>bf λ_=>bf λ_ a=>⟨n.trans a.nx,a.o1,a.T,a.only,a.gens,a.os,a.o2,a.st,a.lo,a.th⟩⟩
noncomputable abbrev kP(t:Mine.E)(f:(List V×List (Nat×List V)×Bool)->Sg->R α)(it:List V×List (Nat×List V)×Bool)(s:Sg):R α:=aa (rt it t s) (f it s) .stuck
theorem uS{bg:List V}{own:Bool}{Q:β->Shared->Prop}{G:Prop}(h:ac c X A env fr D μ s (R.bind (.ok (bg,lk,own) σ) (kP t f)) Q E)
 (k:Cu own t=true->fe σ.H lk=true->ac c X A env fr D μ s (f (bg,lk,own) σ) Q E->G):G:=bA h λh1 h=>k (iz h1).1 (iz h1).2 h
theorem Sr{E':Value->Shared->Prop}(hh:A.handled=none)(o:Ok c X A env fr μ σ s){t:Mine.E}{f:(List V×List (Nat×List V)×Bool)->Sg->R α}{Q:β->Shared->Prop}(rv:ad c X μ s.heap v x)
 (h:ac c X A env fr D μ s ((GC v σ).bind (kP t f)) Q E):wpAny c.M A (pyIter x) (λit aB=>nM c X A env fr D t f Q E μ s it aB) E' s:=
 AE h (λp hp h=>uS h λ_ lo h=>by
  refine fa o hp rv λa its _ hq hl _ _=>?_
  have k:aY (λ_=>False) s.heap (s.heap.push {cls:=.type "list_iterator",data:=.fields #[.ref a,.int 0 0]}):=aY.push _ _ _
  exact wpAny_pyIter_list hl.isList ⟨X,_,_,_,_,σ,μ,s,_,.refl,o,Sp hh o (.head _) hq,k,rfl,rfl,o.add k,⟨_,d7 _ rfl,rfl,rfl⟩,lo,h⟩)
  λh=>pJ h λxs hx h=>uS h λ_ lo h=>by
   refine jJ hx rv λa its ht hl z=>?_
   have k:aY (λ_=>False) s.heap (s.heap.push {cls:=.type "tuple_iterator",data:=.fields #[.ref a,.int 0 0]}):=aY.push _ _ _
   exact wpAny_pyIter_tuple ht ⟨X,_,_,_,_,σ,μ,s,_,.refl,o,WE hh o ht hl z,k,rfl,rfl,o.add k,⟨_,d7 _ rfl,rfl,rfl⟩,lo,h⟩
theorem lF{γ:Type}(r:R dL)(f:dL->Sg->R γ)(g:γ->Sg->R α):(r.bind f).bind g=r.bind λa s=>(f a s).bind g:=by cases r<;>rfl
theorem ac.args2{f:V->V->Sg->R α}{Q:β->Shared->Prop}{Q':List Value->Shared->Prop}(h:ac c X A env fr D μ s ((ih.eE a fr σ).bind λv s=>(ih.eE b fr s).bind λw s=>f v w s) Q E)
 (k:∀v w aM ao y z s₁,aK A env μ ao s s₁->Ok c X A env fr ao aM s₁->ad c X ao s₁.heap v y->ad c X ao s₁.heap w z->ac c X A env fr D ao s₁ (f v w aM) Q E->Q' [y,z] s₁):ac c X A env fr (DL c X) μ s (jE ih fr [a,b] σ) Q' E:=by
 show ac c X A env fr (DL c X) μ s ((ih.eE a fr σ).bind λv s=>((ih.eE b fr s).bind λw s=>.ok [w] s).bind λvs s=>.ok (v::vs) s) Q' E
 cases hr:ih.eE a fr σ with
 |ok v ba=>
  rw[hr] at h
  have h:ac c X A env fr D μ s ((ih.eE b fr ba).bind λw s=>f v w s) Q E:=h
  show ac c X A env fr (DL c X) μ s (((ih.eE b fr ba).bind λw s=>.ok [w] s).bind λvs s=>.ok (v::vs) s) Q' E
  cases C9:ih.eE b fr ba with
  |ok w σ2=>
   rw[C9] at h
   intro ao s₁ ys nx o d
   cases d with
   |cons d1 d2=>cases d2 with
    |cons d2 d3=>cases d3 with|nil=>exact k v w σ2 ao _ _ s₁ nx o d1 d2 (ac.shift (h) nx)
  |exc=>rw[C9] at h;exact h
  |stuck=>rw[C9] at h;exact h.elim
 |exc=>rw[hr] at h;exact h
 |stuck=>rw[hr] at h;exact h.elim
theorem Eu(h:Cu true t=true):∃es p,t=.tup es p:=ob (h) (λes he _=>⟨es,ut he⟩) λh=>ft h
theorem R5(h:Gl v=some m):eM v=some (.ofNat m):=on h λi hi h=>by cases i with|ofNat k=>exact af h▸hi|negSucc k=>exact ns h
theorem YI{E':Value->Shared->Prop}(hh:A.handled=none)(o:Ok c X A env fr μ σ s){t:Mine.E}{f:(List V×List (Nat×List V)×Bool)->Sg->R α}{Q:β->Shared->Prop}(rv:ad c X μ s.heap v x)
 (h:ac c X A env fr D μ s ((K8 v σ).bind (kP t f)) Q E):wpAny c.M A (PySem.call (.type "range") [x]) (λx s'=>wpAny c.M A (pyIter x) (λit aB=>nM c X A env fr D t f Q E μ s it aB) E' s') E s:=
 pJ h λm hm h=>og h (λhb h=>uS h λ_ lo h=>by
  refine i8 (R5 hm) rv λtk=>call_range_1 ?_
  have hb:=dO hb
  refine wpAny_pyIter_range (IsRange.new ..) (small_one (by decide) (by decide) (Int.le_trans (by decide) (Int.natCast_nonneg m)) (Int.le_trans (b:=4001) (Int.ofNat_le.mpr (Nat.succ_le_succ hb)) (by decide))) ?_
  have k1:aY (λ_=>False) s.heap (s.heap.push {cls:=.type "range",data:=.fields #[.int 0 s.toks,.int m tk,.int 1 (s.toks+1)]}):=aY.push _ _ _
  have k:aY (λ_=>False) s.heap ((s.heap.push {cls:=.type "range",data:=.fields #[.int 0 s.toks,.int m tk,.int 1 (s.toks+1)]}).push {cls:=.type "range_iterator",data:=.fields #[rawInt 0,rawInt (Builtin.Range.rangeSize 0 m 1),rawInt 1]}):=k1.trans (aY.push _ _ _)
  have e:Builtin.Range.rangeSize 0 m 1=(m:Int)-((0:Nat):Int):=by
   rw[rangeSize_one];split<;>omega
  refine⟨X,_,_,[],_,σ,μ,s,_,.refl,o,Q7 hh o (k1.1.none (dk _)) m,k,rfl,rfl,(o.add (s':={s with heap:=_}) k).tok _,?_,lo,h⟩
  rw[← e]
  exact d7 _ rfl) λ_ h=>h.elim
theorem QL{E':Value->Shared->Prop}(hh:A.handled=none)(o:Ok c X A env fr μ σ s){t:Mine.E}{f:(List V×List (Nat×List V)×Bool)->Sg->R α}{Q:β->Shared->Prop}{v:V}(rv:ad c X μ s.heap v x)
 (h:ac c X A env fr D μ s ((Hb v σ).bind (kP t f)) Q E):
 wpAny c.M A (PySem.call (.type "enumerate") [x]) (λx s'=>wpAny c.M A (pyIter x) (λit aB=>nM c X A env fr D t f Q E μ s it aB) E' s') E s:=
 pJ h λp hp h=>uS h λht lo h2=>(Eu ht).elim λes e=>e.elim λq e=>by
  subst e
  refine fa o hp rv λa its _ hq hl _ _=>call_enumerate_list hl.isList λh' he hit _ hk=>wpAny_pyIter_enum he ?_
  have k:aY (λ_=>False) s.heap h':=.of hk
  exact⟨X,_,_,_,_,σ,μ,s,_,.refl,o,Qe hh o (.head _) hq (Heap.get?_none_of_le (Nat.le_succ _)) (dk _) (Nat.succ_ne_self _),k,rfl,rfl,o.add (s':={s with heap:=h'}) k,⟨⟨.none,he⟩,hit⟩,lo,h2⟩
theorem UF(h1:a<m)(h2:b<m):ZipApart (m+4) (m+2) (m+3) m (m+1) a b:=
 have ne:∀i j:Nat,i≠j->m+i≠m+j:=λi j n e=>n (Nat.add_left_cancel e)
 have la:∀i:Nat,m+i≠a:=λi e=>aV (e▸h1) (Nat.not_lt_of_le (gJ ..))
 have lb:∀i:Nat,m+i≠b:=λi e=>aV (e▸h2) (Nat.not_lt_of_le (gJ ..))
 ⟨ne 2 4 (by decide),ne 3 4 (by decide),ne 0 4 (by decide),ne 1 4 (by decide),ne 2 3 (by decide),ne 2 0 (by decide),ne 2 1 (by decide),ne 3 0 (by decide),ne 3 1 (by decide),ne 0 1 (by decide),(la 4).symm,(la 3).symm,(la 0).symm,(la 1).symm,(lb 4).symm,(lb 3).symm,(lb 0).symm,(lb 1).symm⟩
theorem SG{E':Value->Shared->Prop}(hh:A.handled=none)(o:Ok c X A env fr μ σ s){t:Mine.E}{f:(List V×List (Nat×List V)×Bool)->Sg->R α}{Q:β->Shared->Prop}{v w:V}(rv:ad c X μ s.heap v x)(rw':ad c X μ s.heap w y)
 (h:ac c X A env fr D μ s ((vQ v w σ).bind (kP t f)) Q E):
 wpAny c.M A (PySem.call (.type "zip") [x,y]) (λx s'=>wpAny c.M A (pyIter x) (λit aB=>nM c X A env fr D t f Q E μ s it aB) E' s') E s:=
 pJ h λp hp h=>pJ h λq hq h=>uS h λht lo h2=>(Eu ht).elim λes e=>e.elim λpp e=>by
  subst e
  refine fa o hp rv λa its _ hqa hl _ _=>?_
  refine fa o hq rw' λb gG _ hqb mu _ _=>?_
  refine call_zip_2 hl.isList mu.isList λh' z1 z2 z3 z4 z5 _ hk=>wpAny_pyIter_zip z1 ?_
  have k:aY (λ_=>False) s.heap h':=.of hk
  have fr:∀j,s.heap.get? (s.heap.objs.size+j)=none:=λj=>Heap.get?_none_of_le (gJ _ _)
  have bn:=λj=>(o.fresh (fr j)).1
  exact⟨zx X (s.heap.objs.size+2) (s.heap.objs.size+3),_,_,_,_,σ,μ,s,_,.refl,o,RZ hh o (.head _) hqa (.tail _ (.head _)) hqb (UF (hl.elim λ_ e=>Heap.lt_size e) (mu.elim λ_ e=>Heap.lt_size e)) (FV (fr 4) (fr 2) (fr 3) (fr 0) (fr 1)),k,rfl,rfl,
   o.more (s':={s with heap:=h'}) k (λb hb=>hb.imp id λhb=>hb.elim (λe=>e▸fr 2) λe=>e▸fr 3) (λb hb=>hb.elim (λhb=>⟨(o.xlt b hb).1.imp λob e=>hk b ob e,(o.xlt b hb).2⟩) λhb=>hb.elim (λe=>e▸⟨⟨_,z2⟩,bn 2⟩) λe=>e▸⟨⟨_,z3⟩,bn 3⟩),⟨z1,z2,⟨_,_,z3⟩,z4,z5⟩,lo,h2⟩
end
section
variable{c:Cx}{X X':Addr->Prop}{A A' B:Around}{env env':Env}{fr cY:Fr}{μ ao a9 be:Mu}{σ aM σ₂ eP:Sg}{s s₁ aB sb:Shared}{E:Value->Shared->Prop}{n:Nat}{K:Frag}{ih:Ev}{α dL β fT:Type}
 {D:Mu->Heap->α->β->Prop}
theorem Rc(h:J5 i=some r):∃q p,i=.call (.name r.1 q) r.2 p:=by
 cases i with
 |call f es p=>exact on (h) λx hx h=>(B0 hx).elim λq e=>⟨q,p,by rw[e,← af h]⟩
 |_=>exact ns h
theorem RK(h:Jc c.T fr i=some b):∃x q p,i=.call (.name x q) b.2 p/\glob c.T fr x=some (.bi b.1):=
 on h λr hr h=>on h λv hv h=>on h λk hk h=>(Rc hr).elim λq w=>w.elim λp w=>by
  have e:=af h
  subst e
  exact⟨r.1,q,p,w,qZ hk▸hv⟩
theorem GI{γ:Type}{es:List γ}{f:γ->R dL}{Q:β->Shared->Prop}{P:List γ->Prop}(h:ac c X A env fr D μ s ((one es f).bind g) Q E)(k:∀a,ac c X A env fr D μ s ((f a).bind g) Q E->P [a]):P es:=by
 cases es with|nil=>exact h.elim|cons a r=>cases r with|nil=>exact k a h|cons=>exact h.elim
theorem Vy{γ:Type}{es:List γ}{f:γ->γ->R dL}{Q:β->Shared->Prop}{P:List γ->Prop}(h:ac c X A env fr D μ s ((two es f).bind g) Q E)(k:∀a b,ac c X A env fr D μ s ((f a b).bind g) Q E->P [a,b]):P es:=by
 cases es with|nil=>exact h.elim|cons a r=>cases r with|nil=>exact h.elim|cons b r=>cases r with|nil=>exact k a b h|cons=>exact h.elim
theorem zu(G:bq c K)(S:SE c n ih.eE)(eo:aJ c n A env fr)(o:Ok c X A env fr μ σ s)(hk:k<14)(hg:glob c.T fr x=some (.bi k)){Q:Value->Shared->Prop}
 (h:ac c X A env fr (DL c X) μ s (jE ih fr es σ) (λys s₁=>wpAny c.M A (PySem.call (h9 k) ys) Q E s₁) E):wpAny c.M A (eval (an c.nm (.call (.name x q) es p)) env) Q E s:=
 Call_ (Hw G eo o hg λy ry=>by
  rw[show y=c.biV k from ry,G.bi k hk]
  exact sY S eo o (first:=[]) (h.imp λys s₁ w=>⟨Cq k hk _,w⟩)) rfl
abbrev iU(c:Cx)(X:Addr->Prop)(A:Around)(env:Env)(fr:Fr)(D:Mu->Heap->α->β->Prop)(t:Mine.E)(f:(List V×List (Nat×List V)×Bool)->Sg->R α)(Q:β->Shared->Prop)(E:Value->Shared->Prop)(μ:Mu)(s:Shared):Value->Shared->Prop:=
 λx s'=>wpAny c.M A (pyIter x) (λit aB=>nM c X A env fr D t f Q E μ s it aB) E s'
theorem iU.shift{Q:β->Shared->Prop}(h:wpAny c.M A m (iU c X A env fr D t f Q E ao s₁) E s₁)(n:aK A env μ ao s s₁):wpAny c.M A m (iU c X A env fr D t f Q E μ s) E s₁:=
 wpAny_mono h (λx s' q=>wpAny_mono q (λit aB st=>st.shift n) λ_ _ e=>e) λ_ _ e=>e
theorem Ag(G:bq c K)(S:SE c n ih.eE)(eo:aJ c n A env fr)(o:Ok c X A env fr μ σ s){i t:Mine.E}{f:(List V×List (Nat×List V)×Bool)->Sg->R α}{Q:β->Shared->Prop}
 (h:ac c X A env fr D μ s ((xa c.T ih fr i σ).bind (kP t f)) Q E):wpAny c.M A (eval (an c.nm i) env) (iU c X A env fr D t f Q E μ s) E s:=
 have hh:=eo.handled
 have plain:=λh=>
  S X A env fr μ σ s i _ E eo o (ac.bind (D':=DV c X) (lF .. ▸h) λv aM ao x s₁ n₁ aC bj h₁=>wpAny_mono (Sr hh aC bj h₁) (λit aB st=>st.shift n₁) λ_ _ e=>e)
 AE h (λb hb h=>(RK hb).elim λx w=>w.elim λq w=>w.elim λp w=>
  og h (λe h=>w.1▸GI (P:=λes=>wpAny c.M A (eval (an c.nm (.call (.name x q) es p)) env) (iU c X A env fr D t f Q E μ s) E s) h λa h=>
   zu G S eo o (k:=7) (by decide) (bx.mp e▸w.2) (ac.args1 (lF .. ▸h) λv aM ao y s₁ n₁ aC bj h₁=>iU.shift (QL hh aC bj h₁) n₁)) λ_ h=>
  og h (λe h=>w.1▸Vy (P:=λes=>wpAny c.M A (eval (an c.nm (.call (.name x q) es p)) env) (iU c X A env fr D t f Q E μ s) E s) h λa b h=>by
   rw[lF,show(λv s=>((ih.eE b fr s).bind λw s=>vQ v w s).bind (kP t f))=λv s=>(ih.eE b fr s).bind λw s=>(vQ v w s).bind (kP t f) from funext λv=>funext λs=>lF ..] at h
   exact zu G S eo o (k:=8) (by decide) (bx.mp e▸w.2) (ac.args2 h λv w aM ao y z s₁ n₁ aC bj dE h₁=>iU.shift (SG hh aC bj dE h₁) n₁)) λ_ h=>
  og h (λe h=>w.1▸GI (P:=λes=>wpAny c.M A (eval (an c.nm (.call (.name x q) es p)) env) (iU c X A env fr D t f Q E μ s) E s) h λa h=>
   zu G S eo o (k:=6) (by decide) (bx.mp e▸w.2) (ac.args1 (lF .. ▸h) λv aM ao y s₁ n₁ aC bj h₁=>iU.shift (YI hh aC bj h₁) n₁)) λ_ h=>plain h) plain
theorem Vm(h:Er i=some x):∃p,i=.ife x.1 x.2.1 x.2.2 p:=by cases i<;>first|exact ns h|exact af h▸⟨_,rfl⟩
theorem B7(G:bq c K)(S:SE c n ih.eE)(T:ST c n ih.eT)(eo:aJ c n A env fr)(o:Ok c X A env fr μ σ s){Q:β->Shared->Prop}
 (h:ac c X A env fr D μ s ((qt c.T ih fr i σ).bind (kP t f)) Q E):wpAny c.M A (eval (an c.nm i) env) (iU c X A env fr D t f Q E μ s) E s:=
 AE h (λx hx h=>(Vm hx).elim λp e=>by
  rw[lF] at h
  rw[e]
  show wpAny c.M A (eval (.IfExp (an c.nm x.1) (an c.nm x.2.1) (an c.nm x.2.2) (aE p)) env) _ E s
  rw[arm_eval_IfExp]
  refine ah (T X A env fr μ σ s x.1 _ E eo o (ac.bind (D':=DB) h λv aM ao y s₁ n₁ aC bj h₁=>?_))
  have e:=bj
  subst e
  exact og h₁ (λe h₁=>by rw[e];exact iU.shift (Ag G S eo aC h₁) n₁) λe h₁=>by rw[e];exact iU.shift (Ag G S eo aC h₁) n₁) λh=>Ag G S eo o h
theorem zE(e:Mine.E)(x:Value):foldedSetIterable (an c.nm e) env x=pure x:=by cases e<;>rfl
theorem WL(G:bq c K)(S:SE c n ih.eE)(T:ST c n ih.eT)(vC:SS c n ih.eS)(eo:aJ c n A env fr)(o:Ok c X A env fr μ σ s){Q:Flow->Shared->Prop}
 (h:ac c X A env fr (DF c X) μ s (F3 c.T ih t i b fr σ) Q E):wpAny c.M A (exec (cT c.nm (.forS t i b p)) env) Q E s:=
 wpAny_For (wpAny_mono (B7 G S T eo o (t:=t) (f:=λit s=>wn c.T ih fr t b it.2.1 it.1 s) h) (λx s₁ h₁=>wpAny_mono h₁ (λit aB st=>
  st.ex.elim λX' w=>w.elim λwr w=>w.elim λbg w=>w.elim λlk w=>w.elim λown w=>w.elim λaM w=>w.elim λao w=>w.elim λdy w=>w.elim λSt a=>WW G S vC eo a.T a.o1 (aK.add a.only a.gens a.os) a.o2 a.st a.lo a.th) λ_ _ e=>e) λ_ _ e=>e) (zE i)
end
def rG(env:Env)(target:Expr)(pos:Pos)(ifs:List Expr)(em:Sem Fin->Sem Fin)(it:Value)(code:Code):Sem Fin:=do
 standAt pos
 match ← pyNext it with
 |none=>pure (.done .next)
 |some v=>
  letOwnedTupleGo target it v
  PySem.assign target env v
  let mut ok:=true
  for c in ifs do
   if ok then ok ← isTrue c env (eval c env)
  if ok then em (again code) else again code
def uf(elt:Expr)(acc:Value)(env:Env)(k:Sem Fin):Sem Fin:=
 ((eval elt env >>= λx=>PySem.call (.builtin "list.append") [acc,x] >>= λ_=>pure ()):Sem Unit) >>= λ_=>k
def wY(e:Expr)(i2:Expr)(acc:Value)(env:Env)(k:Sem Fin):Sem Fin:=do
 let x ← eval i2 env
 standAt i2.pos
 let x ← foldedSetIterable i2 env x
 let it ← holding [x] (pyIter x)
 let _ ← runOwn (.compStart e 1 it acc env) env
 k
theorem Fo(elt t i:Expr)(ifs:List Expr)(sc:Scope)(pos:Pos)(it acc:Value)(env:Env):
 compTurn (.ListComp elt [⟨t,i,ifs,0⟩] sc pos) 0 it acc env=rG env t i.pos ifs (uf elt acc env) it (.compLoop (.ListComp elt [⟨t,i,ifs,0⟩] sc pos) 0 it acc env):=by rfl
theorem Li(elt t i t2 i2:Expr)(sc:Scope)(pos:Pos)(it acc:Value)(env:Env):
 compTurn (.ListComp elt [⟨t,i,[],0⟩,⟨t2,i2,[],0⟩] sc pos) 0 it acc env=
  rG env t i.pos [] (wY (.ListComp elt [⟨t,i,[],0⟩,⟨t2,i2,[],0⟩] sc pos) i2 acc env) it (.compLoop (.ListComp elt [⟨t,i,[],0⟩,⟨t2,i2,[],0⟩] sc pos) 0 it acc env):=by rfl
theorem Vz(elt t i t2 i2:Expr)(sc:Scope)(pos:Pos)(it acc:Value)(env:Env):
 compTurn (.ListComp elt [⟨t,i,[],0⟩,⟨t2,i2,[],0⟩] sc pos) 1 it acc env=
  rG env t2 i2.pos [] (uf elt acc env) it (.compLoop (.ListComp elt [⟨t,i,[],0⟩,⟨t2,i2,[],0⟩] sc pos) 1 it acc env):=by rfl
section
variable{prog:Program}{w:World}{A:Around}{E:Value->Shared->Prop}{R:Result->Shared->Prop}{s:Shared}{env:Env}
theorem HQ(hg:gens[d]?=some g)(ha:g.is_async=0)
 (h0:codeAny (model prog w) A (.compLoop (.ListComp elt gens sc pos) d it acc env) R s)(hi:∀(Q:Value->Shared->Prop) (E':Value->Shared->Prop),Q it s->wpAny (model prog w) A (pyIter it) Q E' s):
 codeAny (model prog w) A (.compStart (.ListComp elt gens sc pos) d it acc env) R s:=by
 refine codeAny_of_tree ?_
 refine wpAny_notedAt ?_
 unfold compStart
 show wpAny _ _ (if (gens[d]?.elim false λx=>x.is_async !=0)=true then _ else _) _ _ s
 rw[hg]
 show wpAny _ _ (if (g.is_async !=0)=true then _ else _) _ _ s
 rw[ha]
 refine ah (wpAny_askSetting (wpAny_ite ?_))
 split
 · first
    |exact ah (aS (aS (And.intro rfl h0)))
    |exact aS (And.intro rfl h0)
 · refine ah (wpAny_rule ?_)
   have fm:wpAny (model prog w) A (pyIter it >>= λnV=>again (.compLoop (.ListComp elt gens sc pos) d nV acc env)) (λfm s'=>match fm with|.done f=>R (.ok f) s'|.again c'=>c'.quiet=true/\codeAny (model prog w) A c' R s') (notedBy (model prog w) A env λx s'=>R (.error x) s') s:=
    ah (hi _ _ (aS ⟨rfl,h0⟩))
   have e:(clausesOf (.ListComp elt gens sc pos))[d]?=some g:=hg
   dsimp only
   rw[e]
   exact ah (gf fm)
end
section
variable{c:Cx}{X X':Addr->Prop}{A A' B:Around}{env env':Env}{fr cY:Fr}{μ ao a9 be gj:Mu}{σ aM σ₂ eP:Sg}{s s₁ aB sb dS:Shared}{E:Value->Shared->Prop}{n:Nat}{K:Frag}{ih:Ev}{α dL β fT:Type}
 {D:Mu->Heap->α->β->Prop}{wr:List Addr}{bg:List V}{lk:List (Nat×List V)}{St:Nat->Heap->Prop}
theorem Yo(T:ST c n ih.eT)(eo:aJ c n A env fr)(o:Ok c X A env fr μ σ s){Q:Bool->Shared->Prop}(h:ac c X A env fr DB μ s (KT ih fr tsts σ) Q E):
 wpAny c.M A (forIn (bC c.nm tsts) true λc r=>if r=true then do let ok ← isTrue c env (eval c env);pure (ForInStep.yield ok) else pure (ForInStep.yield r)) Q E s:=by
 cases tsts with
 |nil=>exact wpAny_tests_nil (ac.ok h .refl o rfl)
 |cons e r=>cases r with
  |nil=>exact wpAny_tests_one (T X A env fr μ σ s e Q E eo o h)
  |cons=>exact h.elim
theorem Ik(G:bq c K)(S:SE c n ih.eE)(T:ST c n ih.eT)(eo:aJ c n A env fr){Rr:Result->Shared->Prop}
 (vE:compTurn (.ListComp nW gens nX kh) d it acc env=rG env (an c.nm t) pos (bC c.nm tsts) emS it (.compLoop (.ListComp nW gens nX kh) d it acc env))
 (Tn:eO c X X' A (an c.nm t) it wr bg lk gj dS St)(B:xz c X A env wr gj dS be sb)
 (EM:∀μ σ s (Q:Shared->Prop) (E:Value->Shared->Prop) (k:Sem Fin) (Qf:Fin->Shared->Prop),ce be μ->Ok c X' A env fr μ σ s->ac c X' A env fr DU μ s (emit σ) (λ(_:Unit) s'=>Q s') E->(∀s',Q s'->wpAny c.M A k Qf E s')->wpAny c.M A (emS k) Qf E s)
 (hE:∀{α β:Type} {D:Mu->Heap->α->β->Prop} {r:R α} {Q:β->Shared->Prop} {μ σ s},Ok c X' A env fr μ σ s->ac c X' A env fr D μ s r Q E->ac c X' A env fr D μ s r Q (notedBy c.M A env λe s'=>Rr (.error e) s'))
 (n0:aK A env be μ sb s)(o:Ok c X' A env fr μ σ s)(st:St 0 s.heap)(lo:fe σ.H lk=true)(h:ac c X A env fr DU be sb (jK c.T ih fr t tsts emit lk bg σ) (λ(_:Unit) s'=>Rr (.ok .next) s') E):
 codeAny c.M A (.compLoop (.ListComp nW gens nX kh) d it acc env) Rr s:=by
 refine codeAny_loop rfl (AN c X X' A env fr DU bg lk be sb St (jK c.T ih fr t tsts emit lk) (λ(_:Unit) s'=>Rr (.ok .next) s') E) (λk s La=>La.ex.elim λpre w=>w.elim λrest w=>w.elim λμ w=>w.elim λσ w=>?_) bg.length ⟨[],bg,μ,σ,rfl,rfl,n0,o,st,lo,h⟩
 obtain⟨e,L⟩:=w
 refine wpAny_noted ?_
 rw[vE]
 refine ah (gf (ah ?_))
 cases rest with
 |nil=>exact L.done Tn B _ λs₁ n₁ aC=>aS (ac.ok (y:=()) L.th n₁ aC trivial)
 |cons v r=>
  subst e
  refine L.item Tn B (Q':=λy s₁=>_) (λy s₁ n1 o1 ry nxt=>?_) _ λy s₁ h=>ah h
  refine ah (wD G S X' A env fr μ σ _ t v y _ _ eo o1 ry (hE o1 (ac.bindX (D':=DU) L.th Tn.le n1 λ_ aM ao _ s₁ n₁ aC _ h₁=>
   ah (Yo T eo aC (hE aC (ac.bindX (D':=DB) h₁ Tn.le (n1.trans n₁) λb σ₂ a9 b' aB bG bc dE bh=>?_))))))
  have e:=dE
  subst e
  refine og bh (λe bh=>?_) λe bh=>?_
  · rw[e]
    exact EM a9 σ₂ aB _ _ _ _ (n1.trans (n₁.trans bG)).ext bc (hE bc (ac.bindX (D':=DU) bh Tn.le (n1.trans (n₁.trans bG)) λ_ yG jx _ dy lg hM _ cE=>bA cE λvD cE=>nxt jx yG dy (n₁.trans (bG.trans lg)) hM vD cE)) λs' q=>aS ⟨rfl,q⟩
  · rw[e]
    exact bA bh λvD bh=>aS ⟨rfl,nxt a9 σ₂ aB (n₁.trans bG) bc vD bh⟩
end
section
variable{c:Cx}{X X':Addr->Prop}{A A' B:Around}{env env' dz:Env}{fr cY mw:Fr}{μ mx ao a9 be gj av:Mu}{σ aM σ₂ eP ba:Sg}{s ll s₁ aB sb dS s':Shared}{E:Value->Shared->Prop}{n:Nat}{K:Frag}{ih:Ev}{α dL β fT:Type}
 {D:Mu->Heap->α->β->Prop}
noncomputable def jC(sc:List (Nat×Nat)):List Nat:=List.rec [] (λp _ ih=>aa (Nat.beq p.2 2) (p.1::ih) ih) sc
theorem IY(h:Nat.beq p.2 2=true):jC (p::r)=p.1::jC r:=nu (x:=p.1::jC r) h
theorem E6(h:Nat.beq p.2 2=false):jC (p::r)=jC r:=lW (x:=p.1::jC r) h
theorem UP:∀{g':List (Nat×Nat)},fK g sc=some g'->(∀x∈jC sc,∃l,au g x=some l)/\∀x l,au g' x=some l->au g x=some l/\x∈jC sc:=by
 induction sc with
 |nil=>exact λ{g'} h=>⟨λx q=>(nomatch q),λx l q=>by rw[← af h] at q;exact ns q⟩
 |cons p r ih=>
  intro g' h
  have h:aa (Nat.beq p.2 2) (a7 (au g p.1) (λl=>a7 (fK g r) (λq=>some ((p.1,l)::q)) .none) .none) (fK g r)=some g':=h
  cases hb:Nat.beq p.2 2 with
  |false=>rw[hb] at h;rw[E6 hb];exact ih h
  |true=>
   rw[hb] at h
   refine on h λl hl h=>on h λq hq h=>?_
   have i:=ih hq
   rw[IY hb,← af h]
   refine⟨bD ⟨⟨l,hl⟩,i.1⟩,λx l' hx=>?_⟩
   rw[dA] at hx
   by_cases e:p.1=x
   · rw[aG e] at hx;exact e▸⟨hl.trans hx,.head _⟩
   · rw[ax e] at hx;exact⟨(i.2 x l' hx).1,.tail _ (i.2 x l' hx).2⟩
theorem PE(k:Nat):(kd k==NameKind.free)=Nat.beq k 2:=Nat.casesOn k rfl λk=>Nat.casesOn k rfl λk=>Nat.casesOn k rfl λ_=>rfl
theorem Xm{a:Nat->Addr}(sc:List (Nat×Nat)):∀{acc:List (Str×Addr)},(∀x∈jC sc,env.cells.lookup (c.nm x)=some (a x))->
 (forIn (names c sc) acc λx cs=>if (x.2==NameKind.free)=true then(do let b ← cellOf env x.1;pure (.yield ((x.1,b)::cs))) else pure (.yield cs):Sem (List (Str×Addr)))=pure ((jC sc).foldl (λacc x=>(c.nm x,a x)::acc) acc):=by
 induction sc with
 |nil=>exact λ_=>rfl
 |cons p r ih=>
  intro acc h
  rw[show names c (p::r)=(c.nm p.1,kd p.2)::names c r from rfl,List.forIn_cons]
  rw[PE]
  cases hb:Nat.beq p.2 2 with
  |true=>
   rw[IY hb] at h ⊢
   have w:=ug h
   rw[aG rfl]
   unfold cellOf
   rw[w.1]
   exact ih w.2
  |false=>
   rw[E6 hb] at h ⊢
   exact ih h
theorem Qv(inj:∀i j,c.nm i=c.nm j->i=j){a:Nat->Addr}(xs:List Nat):∀{acc:List (Str×Addr)},x∈xs\/acc.lookup (c.nm x)=some (a x)->(xs.foldl (λacc x=>(c.nm x,a x)::acc) acc).lookup (c.nm x)=some (a x):=by
 induction xs with
 |nil=>exact λh=>h.elim (λq=>nomatch q) id
 |cons y r ih=>
  intro acc h
  refine ih (acc:=(c.nm y,a y)::acc) ?_
  by_cases e:x=y
  · exact .inr (by rw[fy,beq_iff_eq.mpr (aq c.nm e),e])
  · exact h.imp (λq=>(List.mem_cons.mp q).resolve_left e) λq=>by rw[fy,beq_false_of_ne λw=>e (inj _ _ w)];exact q
theorem I2(inj:∀i j,c.nm i=c.nm j->i=j)(o:Ok c X A env fr μ σ s)(h:fK fr.g sc=some g'):∃cl,closureFor (dW c.nm sc) env=pure cl/\∀av,ce μ av->nT c av g' cl:=
 have w:=UP h
 have hc:=λx l hl=>(o.cells x l hl).elim λp q=>by rw[q.2];rfl
 ⟨_,aq (λm=>m >>= λcs=>pure cs) (Xm (c:=c) (env:=env) (a:=λx=>(env.cells.lookup (c.nm x)).getD 0) (acc:=[]) sc λx hx=>(w.1 x hx).elim λl hl=>hc x l hl),
  λav ex x l hx=>(o.cells x l (w.2 x l hx).1).imp λp q=>⟨ex _ _ q.1,(Qv inj (jC sc) (.inl (w.2 x l hx).2)).trans (by rw[q.2];rfl)⟩⟩
theorem VC(env:Env)(l:List (Str×NameKind))(y:Str):
 (l.map λ(n,k)=>if (k==NameKind.free&&env.scope.kind== .function&&env.kindOf n==some .cell) then(n,NameKind.cell) else(n,k)).lookup y=(l.lookup y).map λk=>if (k==NameKind.free&&env.scope.kind== .function&&env.kindOf y==some .cell) then .cell else k:=by
 induction l with
 |nil=>rfl
 |cons p r ih=>
  show List.lookup y ((if (p.2==NameKind.free&&env.scope.kind== .function&&env.kindOf p.1==some .cell)=true then(p.1,NameKind.cell) else(p.1,p.2))::_)=(List.lookup y ((p.1,p.2)::r)).map _
  have e0:∀b:Bool,(if b=true then(p.1,NameKind.cell) else(p.1,p.2))=(p.1,if b=true then NameKind.cell else p.2):=λb=>by cases b<;>rfl
  rw[e0,fy,fy]
  cases hx:y==p.1 with
  |true=>rw[beq_iff_eq.mp hx];rfl
  |false=>exact ih
theorem Qu(G:bq c K)(eo:aJ c n A env fr)(hs:k8 sc=true)(cl:List (Str×Addr))(L:Addr):aJ c n A (compEnvC (dW c.nm sc) cl L env) ⟨sc,g,false⟩:=
 have h1:=(BK hs).1
 have e:∀x,(compEnvC (dW c.nm sc) cl L env).kindOf (c.nm x)=(au sc x).map λk=>if (kd k==NameKind.free&&env.scope.kind== .function&&env.kindOf (c.nm x)==some .cell) then .cell else kd k:=λx=>
  (VC env (names c sc) (c.nm x)).trans (by rw[wq G.inj,Option.map_map];rfl)
 have m:∀x k,au sc x=some k->(compEnvC (dW c.nm sc) cl L env).kindOf (c.nm x)=some (if (kd k==NameKind.free&&env.scope.kind== .function&&env.kindOf (c.nm x)==some .cell) then .cell else kd k):=λx k q=>by rw[e,q];rfl
 ⟨λx=>m x 0,λx=>m x 1,λx q=>by rw[m x 2 q];exact Bool.rec (.inr rfl) (.inl rfl) (kd 2==NameKind.free&&env.scope.kind== .function&&env.kindOf (c.nm x)==some .cell),λx=>m x 3,λx k q=>Fi h1 q,
  λx q=>(Option.map_eq_some_iff.mp ((e x).symm.trans q)).elim λk w=>by
   have h2:=w.2
   cases hb:(kd k==NameKind.free&&env.scope.kind== .function&&env.kindOf (c.nm x)==some .cell) with
   |true=>rw[hb] at h2;exact NameKind.noConfusion h2
   |false=>rw[hb] at h2;exact zL k h2▸w.1,
  rfl,eo.globs,eo.bis,eo.frame,eo.handled,(λq=>ft q),eo.depth,eo.units⟩
end
section
variable{c:Cx}{X X':Addr->Prop}{A A' B:Around}{env env' dz:Env}{fr cY mw:Fr}{μ mx ao a9 be gj av:Mu}{σ aM σ₂ eP ba:Sg}{s ll s₁ aB sb dS s':Shared}{E:Value->Shared->Prop}{n:Nat}{K:Frag}{ih:Ev}{α dL β fT:Type}
 {D:Mu->Heap->α->β->Prop}
structure dh(c:Cx)(X:Addr->Prop)(A:Around)(env:Env)(μ:Mu)(h:Heap)(L:Addr):Prop where
 ns:∃m,h.Ns L m
 own:¬own μ L
 loc:L≠env.locals
 base:c.base.get? L=none
 x:¬X L
 fs:L∉Fs A
theorem zz(aC:Ok c X A env fr ao aM s₁)(f:s₁.heap.get? L=none)(An:∃m,h.Ns L m)(no:¬own μ L):dh c X A env μ h L:=
 ⟨An,no,λe=>aC.loc_mut.elim λob w=>cg w.1 (e▸f),(aC.fresh f).1,(aC.fresh f).2,λq=>(aC.frame_alive q).elim λob e=>cg e f⟩
theorem dh.dict{L:Addr}{h:Heap}(j:dh c X A env μ h L):∃o es ep,h.get? L=some o/\o.data=.dict es ep:=j.ns.elim λm=>bf λo=>bf λes=>bf λep w=>⟨w.1,w.2.1⟩
theorem dh.ne(j:dh c X A env μ h L){ob:Obj}(e:h.get? b=some ob)(n:∀es ep,ob.data≠.dict es ep):b≠L:=λq=>j.dict.elim λo w=>w.elim λes w=>w.elim λep w=>n es ep (bB w.1 (q▸e)▸w.2)
theorem dh.mut(j:dh c X A env μ h L){ob:Obj}(e:h.get? b=some ob)(n:¬gx ob):b≠L:=j.ne e λes ep d=>n (.inl ⟨es,ep,d⟩)
theorem dh.stays(j:dh c X A env μ h L)(k:∀b ob,h.get? b=some ob->b≠L->h'.get? b=some ob):de X X h h' where
 tup:=λt its x hn=>x.elim λo x=>x.2.2.elim λn hd=>
  have q:=k t o x.1 (j.mut x.1 (As x.2.1 hd))
  ⟨⟨_,q,x.2.1,n,hd⟩,hn.1,_,q,hn.2.elim λo' e=>(bB x.1 e.1).symm▸e.2⟩
 fn:=λt o fd ho hc hd=>⟨o,k t o ho (j.mut ho (EC hd)),rfl,rfl⟩
 code:=λcd q=>bf λt=>bf λo=>bf λvs=>bf λtk x=>⟨x.1,k t o x.2.1 (j.mut x.2.1 (nK x.2.2.1)),x.2.2⟩
theorem dh.ok{L:Addr}(j:dh c X A env μ s.heap L)(o:Ok c X A env fr μ σ s){h':Heap}(k:∀b ob,s.heap.get? b=some ob->b≠L->h'.get? b=some ob):Ok c X A env fr μ σ {s with heap:=h'}:=
 have st:=j.stays k
 ⟨o.len,λi oi e=>(o.obj i oi e).imp λp z=>⟨z.1,z.2.keep (λob w=>k _ _ w λq=>j.own (dR.mpr ⟨i,p,z.1,.inl q.symm⟩)) (λob w=>k _ _ w λq=>j.own (dR.mpr ⟨i,p,z.1,.inr q.symm⟩)) st (.refl _)⟩,o.apart,o.new,
  nh o.ns (λm a=>a.at' λob e=>k _ _ e λq=>j.loc q.symm) st (.refl _),o.lout,o.cells,λb ob e=>k _ _ (o.stays b ob e) λq=>cg e (q▸j.base),
  o.frs.imp λl y=>⟨y.1,y.2.1.keep λb hb ob e n=>⟨ob,k b ob e λq=>j.fs ((kL y.1).mpr (q▸hb)),n⟩,y.2.2⟩,λq hq=>zn (o.tabs q hq) λb ob e nm=>k b ob e (j.mut e nm),λb hb=>⟨(o.xlt b hb).1.imp λob e=>k _ _ e λq=>j.x (q▸hb),(o.xlt b hb).2⟩⟩
theorem dh.nxt(f:s₁.heap.get? L=none)(nx:aK A env ao μ s₁ s)(k:∀b ob,s.heap.get? b=some ob->b≠L->h'.get? b=some ob):aK A env ao μ s₁ {s with heap:=h'}:=
 CF (wr:=[L]) (λb hb=>List.mem_singleton.mp hb▸f) nx (λb o e n=>k b o e λq=>n (List.mem_singleton.mpr q)) s.toks
theorem dh.step(j:dh c X A env μ s.heap L)(nx:aK A env μ av s s'):dh c X A env av s'.heap L:=
 ⟨j.ns.imp λm hm=>w8 hm λob e=>wX nx.keep e (λq=>q.elim j.own j.loc) λv=>v.elim λvs w=>j.ne e (λes ep d=>nomatch w.1.symm.trans d) rfl,
  λq=>(nx.fresh L q).elim j.own λq=>j.dict.elim λo w=>w.elim λes w=>w.elim λep w=>cg w.1 q,j.loc,j.base,j.x,j.fs⟩
theorem cD.junk{lo h h':Heap}(x:cD c X μ lo k m v e h)(hL:∃o,lo.get? L=some o)(st:de X X h h')(kk:∀b ob,h.get? b=some ob->b≠L->h'.get? b=some ob):cD c X μ lo k m v e h':=
 have ne:∀b,lo.get? b=none->b≠L:=λb f=>(ib hL f).symm
 x.ex.elim λoe x=>x.elim λvs x=>x.elim λdx x=>x.elim λms x=>x.elim λtb x=>x.at (oe':=oe) (vs':=vs) (tb':=tb) ⟨kk _ _ x.e1 (ne _ x.e9),x.e2,x.e3,x.e4,x.e5,x.e6,x.e7,x.e8.imp id (bf λT=>bf λoT=>bf λts z=>⟨z.1,z.2.t1,z.2.t2,kk _ _ z.2.t3 (ne _ z.2.t2),z.2.t4,z.2.t5,z.2.t6,z.2.t7⟩),x.e9⟩
  x.e11 (λo w=>⟨o.slots,kk _ _ w (ne _ x.e10)⟩) λ_ _ r=>r.mono st (.refl _)
theorem GG{α:Type}(o:Ok c X A env fr μ σ s){lo:Heap}(x:cD c X μ lo k m v e s.heap)(iC:fA lo s.heap)(hb:c.base.StaysIn lo)(ht:jV s.heap e){Q:α->Shared->Prop}
 (hE:∀s',aK A env μ μ s s'->Ok c X A env fr μ σ s'->cD c X μ lo k m v e s'.heap->E (.ref e) s'):wpAny c.M A (PySem.passOn w (.ref e) dz:Sem α) Q E s:=
 ht.elim λoe z=>z.elim λvs z=>z.elim λT z=>ah (wpAny_field z.1 z.2.1 z.2.2 (uL (λh=>nomatch (beq_iff_eq.mp h:Value.ref T=.none)) (ah (r4 o x iC hb λs' n' o' x' _=>wpAny_throw (hE s' n' o' x')))))
theorem Q4(aC:Ok c X A env fr ao aM s₁)(f:s₁.heap.get? L=none)(nx:aK A env ao μ s₁ s)(o:Ok c X A env fr μ σ s)(j:dh c X A env μ s.heap L){lo:Heap}(x:cD c X μ lo k m v e s.heap)
 (hL:∃o,lo.get? L=some o)(hl:fA s₁.heap lo)(ht:jV s.heap e){Q:Value->Shared->Prop}
 (hE:∀av s' e,aK A env ao av s₁ s'->Ok c X A env fr av σ s'->cD c X av s₁.heap k m v e s'.heap->E (.ref e) s'):compPost c.M A E use Q acc L (.error (.ref e)) s:=by
 have main:∃m,s.heap.Ns L m/\∀h',Heap.SameBut L s.heap h'->∀dz:Env,dz.locals=L->wpAny c.M A (PySem.passOn "comprehension.variables-let-go" (.ref e) dz:Sem Value) (λ_ _=>False) E {s with heap:=h'}:=
  j.ns.imp λm' hm=>⟨hm,λh' sb dz _=>
   have kk:=λb ob e ne=>(sb.2 b ne).trans e
   have n':=dh.nxt f nx kk
   have ne:=x.ex.elim λ_ x=>x.elim λ_ x=>x.elim λ_ x=>x.elim λ_ x=>x.elim λ_ x=>(ib hL x.e9).symm
   GG (j.ok o kk) ((x.junk hL (j.stays kk) kk).lower hl) n'.keep.1 aC.stays (ht.imp λoe=>bf λvs=>bf λT z=>⟨kk _ _ z.1 ne,z.2⟩) λs' n2 o2 x2=>hE _ _ _ (n'.trans n2) o2 x2⟩
 cases use<;>exact main
end
section
variable{c:Cx}{X X':Addr->Prop}{A A' B:Around}{env env' dz:Env}{fr cY mw:Fr}{μ mx ao a9 be gj av:Mu}{σ aM σ₂ eP ba:Sg}{s ll s₁ aB sb dS s':Shared}{E:Value->Shared->Prop}{n:Nat}{K:Frag}{ih:Ev}{α dL β fT:Type}
 {D:Mu->Heap->α->β->Prop}
theorem ac.notedT(eo:aJ c n A env fr)(o:Ok c X A env fr μ σ s){Q:β->Shared->Prop}{P:Value->Shared->Prop}(h:ac c X A env fr D μ s r Q (λe s'=>(∀a,e=.ref a->jV s'.heap a)->P e s')):ac c X A env fr D μ s r Q (notedBy c.M A env P):=by
 cases r with
 |ok a ba=>exact h
 |stuck=>exact h
 |exc k m v ba=>exact λav s' e nx o' x=>J1 eo o' x nx.keep.1 o.stays λs₁ n₁ aC vy yF=>h av s₁ e (nx.trans n₁) aC vy λa q=>Value.ref.inj q▸yF
def xO(c:Cx)(n:Nat)(emit:Nat->Fr->Sg->R Unit)(emS:Value->Env->Sem Fin->Sem Fin):Prop:=
 ∀X A env fr μ σ s N a (Q:Shared->Prop) (E:Value->Shared->Prop) (k:Sem Fin) (Qf:Fin->Shared->Prop),aJ c n A env fr->Ok c X A env fr μ σ s->aj μ N=some (a,a)->
  ac c X A env fr DU μ s (emit N fr σ) (λ(_:Unit) s'=>Q s') E->(∀s',Q s'->wpAny c.M A k Qf E s')->wpAny c.M A (emS (.ref a) env k) Qf E s
theorem Ve(h:k8 sc=true):∀y∈(dW c.nm sc).names,y.2≠.cell:=λy hy e=>(List.mem_map.mp hy).elim λp hp=>
 have e1:=(yf p.2).symm.trans (beq_iff_eq.mpr ((aq Prod.snd hp.2).trans e))
 have m:p.1∈dm sc:=List.mem_map.mpr ⟨p,List.mem_filter.mpr ⟨hp.1,e1⟩,rfl⟩
 nomatch (BK h).2▸m
theorem Tw(G:bq c K)(h:k8 sc=true):∀y∈(dW c.nm sc).names,y.2=.local->(dW c.nm sc).names.lookup y.1=some .local:=λy hy e=>(List.mem_map.mp hy).elim λp hp=>
 hp.2▸(wq G.inj sc p.1).trans (by rw[ZD h p hp.1,zL p.2 ((aq Prod.snd hp.2).trans e)];rfl)
theorem Qp(w:HW H){ob:aF}:fe H lk=true->fe (aH H ob) lk=true:=by
 induction lk with
 |nil=>exact id
 |cons p r ih=>
  intro h
  refine bV h λo ho h=>bV h λys hy h=>?_
  show Option.rec false (λo=>Option.rec false (λys=>aa (uF p.2 ys) (fe (aH H ob) r) false) (mh o)) (gH (aH H ob) p.1)=true
  rw[w.old ho]
  show Option.rec false (λys=>aa (uF p.2 ys) (fe (aH H ob) r) false) (mh o)=true
  rw[hy]
  show aa (uF p.2 ys) (fe (aH H ob) r) false=true
  rw[(iz h).1,ih (iz h).2];rfl
theorem Ox(G:bq c K)(S:SE c n ih.eE)(T:ST c n ih.eT){bg:List V}{St:Nat->Heap->Prop}
 (vE:compTurn (.ListComp nW gens nX kh) 0 it (.ref a) dz=rG dz (an c.nm t) pos (bC c.nm tsts) (emS (.ref a) dz) it (.compLoop (.ListComp nW gens nX kh) 0 it (.ref a) dz))
 (EM:xO c n emit emS)(Da:aJ c n A dz ⟨sc,g',false⟩)(o1:Ok c X A env fr ao aM s₁)(Tn:eO c X X' A (an c.nm t) it wr bg lk ao s₁ St)(o4:Ok c X' A dz ⟨sc,g',false⟩ (ao++[(a,a)]) ⟨aH aM.H (.list []),[]⟩ s)
 (k14:aY (λ_=>False) s₁.heap s.heap)(hg:s.gens=s₁.gens)(ho:s.os=s₁.os)(MX:s₁.heap.get? a=none)(vF:s₁.heap.get? dz.locals=none)(qh:St 0 s.heap)(lo:fe aM.H lk=true){Q:β->Shared->Prop}{Qk:Value->Shared->Prop}
 (h:ac c X A env fr D ao s₁ ((wG (λs'=>jK c.T ih ⟨sc,g',false⟩ t tsts (emit (aM.H.n) ⟨sc,g',false⟩) lk bg s') aM).bind g) Q E)
 (fm:∀v ba av a s' L,aK A env ao av s₁ s'->Ok c X A env fr av ba s'->s₁.heap.get? L=none->dh c X A env av s'.heap L->ad c X av s'.heap v (.ref a)->ac c X A env fr D ao s₁ (g v ba) Q E->compPost c.M A E use Qk (.ref a) L (.ok .next) s'):
 codeAny c.M A (.compLoop (.ListComp nW gens nX kh) 0 it (.ref a) dz) (compPost c.M A E use Qk (.ref a) dz.locals) s:=
 have MY:=o1.last _
 have hid:=λb obj e nb=>hideAll_get wr e nb
 have ob:=Tn.okEnd o1.stays o4 qh hid s.toks
 have En:wZ A env ao s₁ A dz (ao++[(a,a)]) {s with heap:=hideAll s.heap wr}:=
  ⟨.of λb obj e=>hid b obj (k14.2 b obj e id) λq=>cg e (Tn.fresh b q),ce.app _ _,λb q=>(mF.mp q).imp id λe=>e.elim (λe=>e▸MX) λe=>e▸MX,vF,λl' hJ=>⟨l',hJ,λ_ q=>q⟩,λb q=>.inr q,hg,ho⟩
 have nb4:=⟨.refl _,λ_ q=>.inl q,⟨λb obj e=>⟨obj,of_hideAll wr e⟩,λb obj e _ _=>.inl (of_hideAll wr e)⟩,rfl,rfl⟩
 have iy:=o1.stays_of En.only λ_ _ _ f=>f.elim
 have vu:ac c X A dz ⟨sc,g',false⟩ DU (ao++[(a,a)]) {s with heap:=hideAll s.heap wr} (jK c.T ih ⟨sc,g',false⟩ t tsts (emit (aM.H.n) ⟨sc,g',false⟩) lk bg ⟨aH aM.H (.list []),[]⟩)
  (λ(_:Unit) s'=>compPost c.M A E use Qk (.ref a) dz.locals (.ok .next) s') (λe s'=>(∀a,e=.ref a->jV s'.heap a)->compPost c.M A E use Qk (.ref a) dz.locals (.error e) s'):=by
  have h:ac c X A env fr D ao s₁ ((ju aM.r ((jK c.T ih ⟨sc,g',false⟩ t tsts (emit (aM.H.n) ⟨sc,g',false⟩) lk bg ⟨aH aM.H (.list []),[]⟩).bind λ_ s'=>.ok (.loc (aM.H.n)) s')).bind g) Q E:=h
  cases hr:jK c.T ih ⟨sc,g',false⟩ t tsts (emit (aM.H.n) ⟨sc,g',false⟩) lk bg ⟨aH aM.H (.list []),[]⟩ with
  |stuck=>rw[hr] at h;exact h.elim
  |ok u aaB=>
   rw[hr] at h
   exact λav s' y nx o' _=>(En.back o1 ob nx o').elim λn2 k2=>fm (.loc (aM.H.n)) _ av _ s' _ n2 k2 vF (zz o1 vF (o'.ns.imp λ_ w=>w.1) o'.lout.1) ⟨_,nx.ext _ _ MY,rfl⟩ h
  |exc k m v aaB=>
   rw[hr] at h
   exact λav s' e nx o' x ht=>(En.back o1 ob nx o').elim λn2 k2=>Q4 o1 vF n2 k2 (zz o1 vF (o'.ns.imp λ_ w=>w.1) o'.lout.1) x (ob.loc_mut.imp λ_ w=>w.1) En.only.1 (ht e rfl) h
 Ik G S T Da vE Tn ⟨ce.app _ _,λb hb=>hideAll_none wr hb,λμ s' nx=>iy.trans (nx.stays ob),o1.stays⟩ (λμ σ s Q' E' k Qf ex o' h' kk=>EM X' A dz _ μ σ s _ _ Q' E' k Qf Da o' (ex _ _ MY) h' kk) (λo' h'=>ac.notedT Da o' h') nb4 o4 qh (Qp o1.len.w lo) vu
theorem wL(G:bq c K)(S:SE c n ih.eE)(T:ST c n ih.eT)(eo:aJ c n A env fr)(o:Ok c X A env fr μ σ s)
 (vE:∀it acc env,compTurn (.ListComp nW (⟨an c.nm t,an c.nm i,bC c.nm tsts,0⟩::rest) (dW c.nm sc) kh) 0 it acc env=rG env (an c.nm t) pos (bC c.nm tsts) (emS acc env) it (.compLoop (.ListComp nW (⟨an c.nm t,an c.nm i,bC c.nm tsts,0⟩::rest) (dW c.nm sc) kh) 0 it acc env))
 (EM:xO c n emit emS){Q:β->Shared->Prop}{Qk:Value->Shared->Prop}
 (h:ac c X A env fr D μ s ((comp c.T ih t i tsts sc emit fr σ).bind g) Q E)
 (fm:∀v ba ao s₁ av a s' L,aK A env ao av s₁ s'->Ok c X A env fr av ba s'->s₁.heap.get? L=none->dh c X A env av s'.heap L->ad c X av s'.heap v (.ref a)->ac c X A env fr D ao s₁ (g v ba) Q E->compPost c.M A E use Qk (.ref a) L (.ok .next) s'):
 wpAny c.M A (comprehension (.ListComp nW (⟨an c.nm t,an c.nm i,bC c.nm tsts,0⟩::rest) (dW c.nm sc) kh) (dW c.nm sc) env pos' (newList []) false (eval (an c.nm i) env) use) Qk E s:=
 og h (λkg h=>pJ h λg' hc h=>(I2 G.inj o hc).elim λcl w=>by
  have e0:(((qt c.T ih fr i σ).bind λit s=>aa (rt it t s) (wG (λs'=>jK c.T ih ⟨sc,g',false⟩ t tsts (emit (s.H.n) ⟨sc,g',false⟩) it.2.1 it.1 s') s) .stuck).bind g)=
   (qt c.T ih fr i σ).bind (kP t λit s=>(wG (λs'=>jK c.T ih ⟨sc,g',false⟩ t tsts (emit (s.H.n) ⟨sc,g',false⟩) it.2.1 it.1 s') s).bind g):=
   (lF ..).trans (aq _ (funext λit=>funext λs=>(by show R.bind (aa _ _ _) g=aa _ _ _;cases rt it t s<;>rfl)))
  rw[e0] at h
  refine wpAny_comprehension_free rfl (λx=>zE i x) w.1 rfl (Tw G kg) (wpAny_mono (B7 G S T eo o h) (λx s' h'=>wpAny_mono h' (λit aB st=>?_) λ_ _ e=>e) λ_ _ e=>e)
  refine st.ex.elim λX' z=>z.elim λwr z=>z.elim λbg z=>z.elim λlk z=>z.elim λown z=>z.elim λaM z=>z.elim λao z=>z.elim λs₁ z=>z.elim λSt B=>?_
  refine wpAny_newObj_type (wpAny_newFunctionEnv (Ve kg) (λy hy=>nomatch hy) (λh₁ Db Dc=>?_) rfl)
  dsimp only at Db Dc ⊢
  generalize MZ:aB.heap.push {cls:=.type "list",dict:=none,data:=.seq ([]:List Value).toArray}=H2 at Db Dc ⊢
  have Dd:aY (λ_=>False) aB.heap H2:=MZ▸aY.push _ _ _
  have De:H2.get? H2.objs.size=none:=dk _
  have M0:aY (λ_=>False) H2 h₁:=.of λb ob e=>Dc.extBut b ob (λq=>cg (q▸e) De) (d6 _ e)
  have Df:=Dd.trans M0
  have Dg:aB.heap.get? aB.heap.objs.size=none:=dk _
  have o3:Ok c X' A env fr (ao++[(aB.heap.objs.size,aB.heap.objs.size)]) ⟨aH aM.H (.list []),aM.r⟩ {aB with heap:=H2}:=
   B.o2.new1 (s':={aB with heap:=H2}) Dd Dg Dg ⟨rfl,#[],⟨_,MZ▸d7 _ rfl⟩,.nil,Nat.zero_le _⟩
  refine HQ rfl rfl (Ox (s:={aB with heap:=h₁,toks:=aB.toks+([]:List (Str×Value)).length}) G S T (vE ..) EM (Qu G eo kg cl H2.objs.size) B.o1 B.T ?_ (B.only.trans Df) B.gens B.os (B.only.1.none Dg) ((B.only.trans Dd).1.none De)
   (B.T.keep 0 _ _ B.st λb hb ob e=>Df.2 b ob e id) B.lo B.th λv ba av a s' L=>fm v ba ao s₁ av a s' L) λQ' E' q=>B.T.self 0 _ _ _ (B.T.keep 0 _ _ B.st λb hb ob e=>Df.2 b ob e id) q
  exact(Ok.setg (fr:=⟨sc,[],false⟩) (o3.frame (s₁:={aB with heap:=h₁}) (env':=compEnvC (dW c.nm sc) cl H2.objs.size env) M0 Db De) λx l hx=>w.2 _ (B.nx.ext.trans (ce.app _ _)) x l hx).tok _) λ_ h=>h.elim
end
section
variable{c:Cx}{X X':Addr->Prop}{A A' B:Around}{env env' dz:Env}{fr cY mw:Fr}{μ mx ao a9 be gj av:Mu}{σ aM σ₂ eP ba:Sg}{s ll s₁ aB sb dS s':Shared}{E:Value->Shared->Prop}{n:Nat}{K:Frag}{ih:Ev}{α dL β fT:Type}
 {D:Mu->Heap->α->β->Prop}
theorem B1(S:SE c n ih.eE)(elt:Mine.E):xO c n (λN fr s=>rV ih elt N fr s) (λacc env k=>uf (an c.nm elt) acc env k):=λX A env fr μ σ s N a Q E k Qf eo o hN h hk=>
 ah (ah (S X A env fr μ σ s elt _ E eo o (ac.bind (D':=DV c X) h λv aM ao y s₁ n₁ aC bj h₁=>ah (bk h₁ λob ho h₁=>bk h₁ λys hy h₁=>bA h₁ λhf bh=>(aC.obj N ob ho).elim λp w=>by
  have Dh:=n₁.ext _ _ hN
  have e1:=tK hy
  have e2:=bB w.1 Dh
  subst e1 e2
  exact w.2.2.elim λits z=>z.1.elim λn0 e0=>wpAny_list_append_plain ⟨n0,e0⟩ (λh' hJ sb=>hJ.elim λm e=>
   have kk:=(aY.same sb e).mono λ_ _ _ q=>.inl q
   have nx:aK A env ao ao s₁ ({s₁ with heap:=h'}:Shared):=aK.put Dh kk rfl rfl
   have hz:ay (ad c X ao s₁.heap) (app ys [v]) (its.push y).toList:=by rw[cq,Array.toList_push];exact z.2.1.append (.cons bj .nil)
   aS (hk _ ((bh).ok (y:=()) nx (aC.put (o:=.list (app ys [v])) Dh kk ⟨rfl,_,⟨m,e⟩,hz.nxt aC nx,cB hz▸gk.mp hf⟩) trivial))) (gn z.2.2)))))
theorem JQ(G:bq c K)(S:SE c n ih.eE)(T:ST c n ih.eT)(elt t i t2 i2:Mine.E)(nX:Scope)(kh:Pos):xO c n (λN fr s=>z7 c.T ih elt t2 i2 N fr s)
 (λacc env k=>wY (.ListComp (an c.nm elt) [⟨an c.nm t,an c.nm i,[],0⟩,⟨an c.nm t2,an c.nm i2,[],0⟩] nX kh) (an c.nm i2) acc env k):=λX A env fr μ σ s N a Q E k Qf eo o hN h hk=>
 ah (wpAny_mono (B7 G S T eo o (t:=t2) (f:=λit s=>jK c.T ih fr t2 [] (rV ih elt N fr) it.2.1 it.1 s) h) (λx s' h'=>ah (gf (ah (wpAny_of_eq (zE i2 x) (ah (d9 (wpAny_mono h' (λit aB st=>
  st.ex.elim λX' z=>z.elim λwr z=>z.elim λbg z=>z.elim λlk z=>z.elim λown z=>z.elim λaM z=>z.elim λao z=>z.elim λs₁ z=>z.elim λSt B=>
   ah (wpAny_runOwn (HQ (A:=A.mark none) rfl rfl (Ik G S T eo (Vz (an c.nm elt) (an c.nm t) (an c.nm i) (an c.nm t2) (an c.nm i2) nX kh it (.ref a) env) B.T ⟨.refl _,B.T.fresh,λμ s' nx=>nx.stays B.o1,B.o1.stays⟩
    (λμ σ s Q' E' k' Qf' ex o' h' kk=>B1 S elt X' A env fr μ σ s N a Q' E' k' Qf' eo o' (ex _ _ (B.nx.ext _ _ hN)) h' kk) (λo' h'=>ac.loopE eo o' h') (aK.add B.only B.gens B.os) B.o2 B.st B.lo (B.th.imp λ_ s' q=>hk s' q)) λQ' E' q=>B.T.self 0 _ _ _ B.st q))) λ_ _ e=>e))))))) λ_ _ e=>e)
theorem Lo(r:R α):(r.bind λv s=>.ok v s)=r:=by cases r<;>rfl
theorem Fe{Q:Value->Shared->Prop}(v:V)(ba:Sg)(ao:Mu)(s₁:Shared)(av:Mu)(a:Addr)(s':Shared)(L:Addr)(nx:aK A env ao av s₁ s')(o':Ok c X A env fr av ba s')(f:s₁.heap.get? L=none)(j:dh c X A env av s'.heap L)(rv:ad c X av s'.heap v (.ref a))
 (h:ac c X A env fr (DV c X) ao s₁ (.ok v ba) Q E):compPost c.M A E none Q (.ref a) L (.ok .next) s':=by
 exact j.ns.imp λm hm=>⟨hm,λh' sb=>
  have kk:=λb ob e ne=>(sb.2 b ne).trans e
  h.ok (dh.nxt f nx kk) (j.ok o' kk) (rv.mono (j.stays kk) (.refl _))⟩
theorem El(G:bq c K)(S:SE c n ih.eE)(T:ST c n ih.eT)(eo:aJ c n A env fr)(o:Ok c X A env fr μ σ s){Q:Value->Shared->Prop}
 (h:ac c X A env fr (DV c X) μ s (w5 c.T ih elt t i tsts sc fr σ) Q E):wpAny c.M A (eval (an c.nm (.comp elt t i tsts sc p)) env) Q E s:=by
 have h:ac c X A env fr (DV c X) μ s ((comp c.T ih t i tsts sc (λn fr=>rV ih elt n fr) fr σ).bind λv s=>.ok v s) Q E:=by rw[Lo];exact h
 show wpAny _ A (eval (.ListComp (an c.nm elt) [⟨an c.nm t,an c.nm i,bC c.nm tsts,0⟩] (dW c.nm sc) (aE p)) env) _ _ _
 rw[eval_ListComp]
 exact wL G S T eo o (pos:=(an c.nm i).pos) (emS:=λacc env k=>uf (an c.nm elt) acc env k) (λit acc env=>Fo ..) (B1 S elt) h Fe
theorem Gj(G:bq c K)(S:SE c n ih.eE)(T:ST c n ih.eT)(eo:aJ c n A env fr)(o:Ok c X A env fr μ σ s){Q:Value->Shared->Prop}
 (h:ac c X A env fr (DV c X) μ s (v3 c.T ih elt t i t2 i2 sc fr σ) Q E):wpAny c.M A (eval (an c.nm (.comp2 elt t i t2 i2 sc p)) env) Q E s:=by
 have h:ac c X A env fr (DV c X) μ s ((comp c.T ih t i [] sc (λn fr=>z7 c.T ih elt t2 i2 n fr) fr σ).bind λv s=>.ok v s) Q E:=by rw[Lo];exact h
 show wpAny _ A (eval (.ListComp (an c.nm elt) [⟨an c.nm t,an c.nm i,[],0⟩,⟨an c.nm t2,an c.nm i2,[],0⟩] (dW c.nm sc) (aE p)) env) _ _ _
 rw[eval_ListComp]
 exact wL (tsts:=[]) G S T eo o (pos:=(an c.nm i).pos) (emS:=λacc env k=>wY (.ListComp (an c.nm elt) [⟨an c.nm t,an c.nm i,[],0⟩,⟨an c.nm t2,an c.nm i2,[],0⟩] (dW c.nm sc) (aE p)) (an c.nm i2) acc env k)
  (λit acc env=>Li ..) (JQ G S T elt t i t2 i2 _ _) h Fe
end
section
variable{c:Cx}{X X':Addr->Prop}{A A' B:Around}{env env' dz:Env}{fr cY mw:Fr}{μ mx ao a9 be gj av:Mu}{σ aM σ₂ eP ba:Sg}{s ll s₁ aB sb dS s':Shared}{E:Value->Shared->Prop}{n:Nat}{K:Frag}{ih:Ev}{α dL β fT:Type}
 {D:Mu->Heap->α->β->Prop}
theorem Jp(G:bq c K)(S:SE c n ih.eE)(eo:aJ c n A env fr){Q:Flow->Shared->Prop}(v:V)(ba:Sg)(ao:Mu)(s₁:Shared)(av:Mu)(a:Addr)(s':Shared)(L:Addr)(nx:aK A env ao av s₁ s')(o':Ok c X A env fr av ba s')(f:s₁.heap.get? L=none)(j:dh c X A env av s'.heap L)(rv:ad c X av s'.heap v (.ref a))
 (h:ac c X A env fr (DF c X) ao s₁ ((Mine.assign c.T ih fr t v ba).bind λ_ s=>.ok .next s) Q E):compPost c.M A E (some (PySem.assign (an c.nm t) env)) (λ_ s'=>Q .next s') (.ref a) L (.ok .next) s':=by
 refine wD G S X A env fr av ba s' t v (.ref a) _ E eo o' rv (ac.bindX (D':=DU) h (λ_ q=>q) nx λ_ σ₂ a9 _ aB bG bc _ bh=>?_)
 have j2:=j.step bG
 exact j2.ns.imp λm hm=>⟨hm,λh' sb=>
  have kk:=λb ob e ne=>(sb.2 b ne).trans e
  ac.ok (y:=Flow.next) bh (dh.nxt f (nx.trans bG) kk) (j2.ok bc kk) trivial⟩
theorem YJ(h:uv t=none):swapsWithSole [an c.nm t] (.ListComp elt gens sc p) l env=pure false:=by cases t<;>first|rfl|exact sn h
theorem Mb(G:bq c K)(S:SE c n ih.eE)(eo:aJ c n A env fr)(o:Ok c X A env fr μ σ s){Q:Flow->Shared->Prop}(hv:an c.nm v=.ListComp elt gens sc ps)(fo:wK t v=true)
 (ev:∀{Q E},ac c X A env fr (DV c X) μ s r Q E->wpAny c.M A (eval (an c.nm v) env) Q E s)
 (use:ac c X A env fr (DF c X) μ s (r.bind λx s=>(Mine.assign c.T ih fr t x s).bind λ_ s=>.ok .next s) Q E->
  wpAny c.M A (comprehension (.ListComp elt gens sc ps) sc env (firstIterPos gens ps) (newList []) (firstAsync gens) (firstIter gens env) (some (PySem.assign (an c.nm t) env))) (λ_ s'=>Q .next s') E s)
 (h:ac c X A env fr (DF c X) μ s (r.bind λx s=>(Mine.assign c.T ih fr t x s).bind λ_ s=>.ok .next s) Q E):wpAny c.M A (exec (cT c.nm (.assign t v p)) env) Q E s:=by
 cases hx:uv t with
 |none=>exact CU G S eo o fo (hv▸YJ hx) ev h
 |some x=>
  refine(B0 hx).elim λq e=>?_
  subst e
  have hb:∃b,swapsWithSole [.Name (c.nm x) (aE q)] (.ListComp elt gens sc ps) (aE p).line env=pure b:=⟨_,rfl⟩
  obtain⟨b,hb⟩:=hb
  cases b with
  |false=>exact CU G S eo o fo (hv▸hb) ev h
  |true=>
   show wpAny _ A (exec (.Assign [.Name (c.nm x) (aE q)] (an c.nm v) (aE p)) env) _ _ _
   have hb:swapsWith (.ListComp elt gens sc ps) (some (.Name (c.nm x) (aE q))) (aE p).line env=pure true:=hb
   rw[hv,exec_Assign_Name_used _ _ _ _ hb]
   refine ah (gf (ah ?_))
   rw[arm_evalThenUse_ListComp]
   exact ah (wpAny_mono (use h) (λ_ s' hq=>aS (aS hq)) λ_ _ e=>e)
theorem Uu(G:bq c K)(S:SE c n ih.eE)(T:ST c n ih.eT)(eo:aJ c n A env fr)(o:Ok c X A env fr μ σ s){Q:Flow->Shared->Prop}(h:ac c X A env fr (DF c X) μ s (Ca c.T ih t v fr σ) Q E):
 wpAny c.M A (exec (cT c.nm (.assign t v p)) env) Q E s:=by
 cases v with
 |comp elt t1 i tsts sc q=>
  exact bA h λfo h=>Mb G S eo o (v:=.comp elt t1 i tsts sc q) (r:=w5 c.T ih elt t1 i tsts sc fr σ) rfl fo (λh=>El G S T eo o h)
   (λh=>wL G S T eo o (pos:=(an c.nm i).pos) (emS:=λacc env k=>uf (an c.nm elt) acc env k) (λit acc env=>Fo ..) (B1 S elt) h (Jp G S eo)) h
 |comp2 elt t1 i t2 i2 sc q=>
  exact bA h λfo h=>Mb G S eo o (v:=.comp2 elt t1 i t2 i2 sc q) (r:=v3 c.T ih elt t1 i t2 i2 sc fr σ) rfl fo (λh=>Gj G S T eo o h)
   (λh=>wL (tsts:=[]) G S T eo o (pos:=(an c.nm i).pos) (emS:=λacc env k=>wY (.ListComp (an c.nm elt) [⟨an c.nm t1,an c.nm i,[],0⟩,⟨an c.nm t2,an c.nm i2,[],0⟩] (dW c.nm sc) (aE q)) (an c.nm i2) acc env k)
    (λit acc env=>Li ..) (JQ G S T elt t1 i t2 i2 _ _) h (Jp G S eo)) h
 |_=>exact VG G S eo o rfl h
end
section
variable{M:Model}{prog:Program}{w:World}{A:Around}{E:Value->Shared->Prop}{s:Shared}
theorem A3{T id:String}{Q:Value->Shared->Prop}(hT:s.TypeIs o T)
 (hl:typeLookup (.type T) "__getitem__" =pure (some (.builtin id)))(h:wpAny (model prog w) A (getItem o i) Q E s)
 (hs:subscripted slice false o i=operate ops (getItem o i)):wpAny (model prog w) A (subscriptTail value slice o i) Q E s:=by
 unfold subscriptTail
 refine ah ?_
 rw[getitemInPython_of_ne hT.not_modules]
 refine ah (wpAny_specialOf hT hl ?_)
 have fm:wpAny (model prog w) A (subscripted slice false o i) (λr dy=>wpAny (model prog w) A (letTemporaryGo value o r >>= λ_=>pure r) Q E dy) E s:=by
  rw[hs]
  exact wpAny_operating (wpAny_mono h (λr dy cE=>ah (wpAny_letTemporaryGo (aS cE))) λ_ _ x=>x)
 first
  |exact aS (ah fm)
  |exact ah (aS (ah fm))
  |exact ah fm
theorem FD(h:IsPart v p){Q:Option Int->Shared->Prop}(q:Q p s):wpAny (model prog w) A (Builtin.Slice.slicePartIndex v) Q E s:=by
 cases h with
 |none=>exact slicePart_none q
 |int i t=>exact slicePart_int q
theorem XC(n:Nat)(v:Int):(if v<0 then max (v+(n:Int)) 0 else min v (n:Int))=((clipAt n v:Nat):Int):=by
 rw[clipAt_cast]
 split<;>omega
theorem Xv(p q:Option Int)(n:Nat):Builtin.Slice.sliceAdjust p q 1 (n:Int)=(((p.elim 0 (clipAt n):Nat):Int),((q.elim n (clipAt n):Nat):Int)):=by
 unfold Builtin.Slice.sliceAdjust
 have h1:¬((1:Int)<0):=by omega
 simp only[h1,if_false]
 cases p<;>cases q<;>simp[XC]
theorem Ob(a b:Nat):Builtin.Slice.slicePlaces (a:Int) (b:Int) 1=b-a:=by
 unfold Builtin.Slice.slicePlaces
 have h1:(1:Int)>0:=by omega
 simp only[h1,if_true,Int.ediv_one]
 split<;>omega
theorem Ux{Q:Int×Int×Nat->Shared->Prop}(hs:s.heap.IsSliceOf sl y z .none)(hp:IsPart y p)(hq:IsPart z q)(h:Q (((p.elim 0 (clipAt n):Nat):Int),1,q.elim n (clipAt n)-p.elim 0 (clipAt n)) s):
 wpAny (model prog w) A (Builtin.Slice.sliceApplied (.ref sl) (pure (n:Int))) Q E s:=by
 obtain⟨os,vG,hcs,yJ⟩:=id hs
 unfold Builtin.Slice.sliceApplied Builtin.Slice.sliceFields
 refine ah (ah (wpAny_field vG yJ (x:=y) rfl (ah (wpAny_field vG yJ (x:=z) rfl (ah (wpAny_field vG yJ (x:=.none) rfl (aS ?_)))))))
 refine ah (slicePart_none ?_)
 rw[ax (by decide)]
 refine ah (FD hp (ah (FD hq (ah (aS ?_)))))
 show wpAny _ _ (match Builtin.Slice.sliceAdjust p q 1 (n:Int) with|(lo,hi)=>pure (lo,(1:Int),Builtin.Slice.slicePlaces lo hi 1)) _ _ s
 rw[Xv p q n]
 show wpAny _ _ (pure (((p.elim 0 (clipAt n):Nat):Int),(1:Int),Builtin.Slice.slicePlaces _ _ 1)) _ _ s
 rw[Ob]
 exact aS h
theorem PW(xs:Array Value)(a k:Nat):((List.range k).filterMap λ(k:Nat)=>xs[((a:Int)+(k:Int)*1).toNat]?)=(xs.toList.drop a).take k:=by
 have e:(λ(k:Nat)=>xs[((a:Int)+(k:Int)*1).toNat]?)=λk=>xs[a+k]?:=by
  funext k
  have:((a:Int)+(k:Int)*1).toNat=a+k:=by omega
  rw[this]
 rw[e,← pick_run xs a k,List.filterMap_map];rfl
theorem RT{bg:Array Value}{Q:Value->Shared->Prop}(ht:IsTup s.heap t bg)(hs:s.heap.IsSliceOf sl y z .none)(hp:IsPart y p)(hq:IsPart z q)(ha:p.elim 0 (clipAt bg.size)=a)(hb:q.elim bg.size (clipAt bg.size)=b)
 (h1:a=0->b-a=bg.size->Q (.ref t) s)(h2:Q (.ref s.heap.objs.size) {s with heap:=s.heap.push {cls:=.type "tuple",data:=.seq ((bg.toList.drop a).take (b-a)).toArray}})
 (cL:bg.size<=sizeLine:=by size_fits):wpAny (model prog w) A (getItem (.ref t) (.ref sl)) Q E s:=by
 have yK:sizeOk (.seq ((bg.toList.drop a).take (b-a)).toArray):=by
  show((bg.toList.drop a).take (b-a)).toArray.size<=sizeLine
  rw[List.size_toArray,List.length_take,List.length_drop,Array.length_toList]
  omega
 obtain⟨os,vG,hcs,yJ⟩:=id hs
 have hTs:s.TypeIs (.ref sl) "slice" :=⟨os,vG,hcs⟩
 unfold getItem
 try with_reducible refine d9 ?_
 first|refine ah (aS ?_)|skip
 refine ah (wpAny_sequenceKey ht.typeIs (by decide) ?_)
 refine ah (wpAny_callSpecial?_slot (name:=Str.ofString "__getitem__") ht.typeIs slot_tuple_getitem
  (wpAny_call_entry slot_tuple_getitem ht.typeIs entry_tuple_getitem ?_ (args_tuple_getitem _ _)))
 show wpAny _ _ (Builtin.Tuple.tupleItemsOf (.ref t) >>= _) _ _ s
 refine ah (tupleItemsOf_ ht ?_)
 refine ah (wpAny_typeOf hTs ?_)
 rw[aG (by decide)]
 refine ah (Ux hs hp hq ?_)
 show wpAny _ _ (if (((p.elim 0 (clipAt bg.size):Nat):Int)==0&&(1:Int)==1&&(q.elim bg.size (clipAt bg.size)-p.elim 0 (clipAt bg.size))==bg.size)=true then _ else _) _ _ s
 rw[ha,hb]
 by_cases hw:(((a:Nat):Int)==0&&(1:Int)==1&&(b-a)==bg.size)=true
 · rw[aG hw]
   simp only[Bool.and_eq_true,beq_iff_eq] at hw
   have q:=h1 (by omega) hw.2
   refine ah (ah (wpAny_typeOf ht.typeIs (aS ?_)))
   rw[aG (by decide)]
   refine ah (wpAny_rule (ah (aS (aS ⟨_,rfl,?_⟩))))
   first|exact aS q|exact q
 · rw[ax hw,PW]
   first
    |exact ah (m:=Builtin.Tuple.tupleExact _) (wpAny_newObj_type (aS ⟨_,rfl,aS h2⟩) yK)
    |exact ah (m:=Builtin.Tuple.tupleExact _) (wpAny_newObj_type (ah (aS (aS ⟨_,rfl,aS h2⟩))) yK)
    |exact ah (ah (m:=Builtin.Tuple.tupleExact _) (wpAny_newObj_type (aS (aS ⟨_,rfl,aS h2⟩)) yK))
    |exact ah (ah (m:=Builtin.Tuple.tupleExact _) (wpAny_newObj_type (aS ⟨_,rfl,aS h2⟩) yK))
theorem Ss(p q:Option Int)(n:Nat):Builtin.Str.strSliceIndices p q 1 n=(List.range (q.elim n (clipAt n)-p.elim 0 (clipAt n))).map (p.elim 0 (clipAt n)+ ·):=by
 rw[← sliceRange_one]
 unfold Builtin.Str.strSliceIndices
 have h1:(1:Int)>0:=by omega
 simp only[h1,if_true]
 cases p<;>cases q<;>simp[clipAt_cast]
end
section
variable{c:Cx}{X X':Addr->Prop}{A A' B:Around}{env env' dz:Env}{fr cY mw:Fr}{μ mx ao a9 be gj av:Mu}{σ aM σ₂ eP ba:Sg}{s ll s₁ aB sb dS s':Shared}{E:Value->Shared->Prop}{n:Nat}{K:Frag}{ih:Ev}{α dL β fT:Type}
 {D:Mu->Heap->α->β->Prop}
def DO(c:Cx)(X:Addr->Prop):Mu->Heap->Option V->Value->Prop:=λμ h o y=>Option.rec (y=.none) (λv=>ad c X μ h v y) o
theorem IV(S:SE c n ih.eE)(eo:aJ c n A env fr)(o:Ok c X A env fr μ σ s){Q:Value->Shared->Prop}(h:ac c X A env fr (DO c X) μ s (zR ih fr l σ) Q E):wpAny c.M A (evalPart (BQ c.nm l) env) Q E s:=by
 cases l with
 |nil=>exact aS ((h).ok (y:=Value.none) .refl o rfl)
 |cons e r=>exact S X A env fr μ σ s e _ E eo o (ac.bind (D':=DV c X) h λv aM ao y s₁ n₁ aC bj h₁=>h₁.ok .refl aC bj)
theorem DO.nxt(r:DO c X μ s.heap a y)(o:Ok c X A env fr μ σ s)(n:aK A env μ av s s'):DO c X av s'.heap a y:=by
 cases a with
 |none=>exact r
 |some a=>exact ad.nxt (v:=a) r o n
theorem Qm(j n:Nat):min j n=aa (Nat.ble j n) j n:=by
 cases e:Nat.ble j n with
 |true=>exact Nat.min_eq_left (dO e)
 |false=>exact Nat.min_eq_right (Nat.le_of_not_le λq=>tf ((Nat.ble_eq_true_of_le q).symm.trans e))
structure Au(y:Value)(d n k:Nat)(l:Option (Int×Tok)):Prop where
 e:y=partValue l
 k:(l.map (·.1)).elim d (clipAt n)=k
theorem IG(r:DO c X μ h ov y)(hb:bound d n ov=some k):∃l,Au y d n k l:=by
 cases ov with
 |none=>exact⟨none,r,af hb⟩
 |some v=>
  cases v with
  |none=>exact⟨none,r,af hb⟩
  |int i=>
   refine(r).elim λt e=>⟨some (i,t),e,?_⟩
   cases i with
   |ofNat j=>exact(clipAt_nat n j).trans ((Qm j n).trans (af hb))
   |negSucc j=>exact(clipAt_neg n (j+1) (Nat.succ_pos j)).trans (af hb)
  |_=>exact ns hb
theorem wm(l:Option (Int×Tok)):IsPart (partValue l) (l.map (·.1)):=by
 cases l with
 |none=>exact .none
 |some q=>exact .int _ _
theorem BL{Q:Value->Shared->Prop}{G:Prop}(ry:DO c X μ h' a y)(rz:DO c X μ h' b z)(h:ac c X A env fr (DV c X) μ s (pA m a b f) Q E)
 (k:∀ka kb la lb,Au y 0 m ka la->Au z m m kb lb->ac c X A env fr (DV c X) μ s (f ka kb) Q E->G):G:=
 bk h λka ha h=>bk h λkb hb h=>(IG ry ha).elim λla wa=>(IG rz hb).elim λlb wb=>k ka kb la lb wa wb h
theorem Lz{α:Type}(w:List α)(h0:ka=0)(h1:kb-ka=w.length):cut w ka kb=w:=by
 subst h0;exact(vp w 0 kb).trans (List.take_of_length_le (Nat.le_of_eq h1.symm))
theorem QS(o:Ok c X A env fr μ σ s){Q:Value->Shared->Prop}(hx:cG u=some xs)(hfu:gi xs=true)(jy:s.heap.IsSliceOf sl y z .none)
 (ru:ad c X μ s.heap u x)(ry:DO c X μ s.heap a y)(rz:DO c X μ s.heap b z)(hs:subscripted slice false x (.ref sl)=operate ops (getItem x (.ref sl)))(h:ac c X A env fr (DV c X) μ s (pA (len xs) a b λa b=>nH (cut xs a b) σ) Q E):wpAny c.M A (subscriptTail value slice x (.ref sl)) Q E s:=by
 revert hs
 refine jJ hx ru λl its hi lv hz hs=>BL ry rz h λka kb la lb wa wb h=>?_
 have hn:=(bH xs).trans (cB hz).symm
 rw[hn] at wa wb
 have z2:=(vp _ _ _).symm▸(hz.drop ka).take (kb-ka)
 obtain⟨hf,h⟩:=yj h
 rw[wa.e,wb.e] at jy
 refine A3 hi.typeIs slot_tuple_getitem.lookup (RT (a:=ka) (b:=kb) hi jy (wm la) (wm lb) wa.k wb.k (λe1 e2=>h.ok .refl o ((hZ (up _)).mpr ⟨l,its,rfl,hi,lv,?_⟩)) ?_ (gn (cB hz▸gk.mp hfu))) hs
 · rw[Lz xs e1 (e2.trans (cB hz)),rW];exact hz
 · exact yl o (its:=((its.toList.drop ka).take (kb-ka)).toArray) (by rw[List.toList_toArray];exact z2) h (aY.push _ _ _) (dk _) (d7 _ rfl) rfl rfl
theorem Q3(o:Ok c X A env fr μ σ s){Q:Value->Shared->Prop}(hx:dn σ.H u=some p)(jy:s.heap.IsSliceOf sl y z .none)
 (ru:ad c X μ s.heap u x)(ry:DO c X μ s.heap a y)(rz:DO c X μ s.heap b z)(hs:subscripted slice false x (.ref sl)=operate ops (getItem x (.ref sl)))(h:ac c X A env fr (DV c X) μ s (pA (len p.2) a b λa b=>mo (cut p.2 a b) σ) Q E):wpAny c.M A (subscriptTail value slice x (.ref sl)) Q E s:=by
 revert hs
 refine fa o hx ru λl its _ _ hl hz cL hs=>BL ry rz h λka kb la lb wa wb h=>?_
 have hn:=(bH p.2).trans (cB hz).symm
 rw[hn] at wa wb
 have z2:=(vp _ _ _).symm▸(hz.drop ka).take (kb-ka)
 obtain⟨hf,h⟩:=yj h
 rw[wa.e,wb.e] at jy
 have C3:slicePick its (la.map (·.1)) (lb.map (·.1)) none=((its.toList.drop ka).take (kb-ka)).toArray:=by rw[slicePick_plain,wa.k,wb.k]
 refine A3 hl.isList.typeIs list_getitem_lookup (wpAny_getItem_list_slice hl.isList jy (wm la) (wm lb) .none (λq=>nomatch q) ?_ (gn cL)) hs
 rw[C3]
 exact vU o (by rw[List.toList_toArray];exact z2) h (by rw[List.size_toArray];exact xm z2 hf) (aY.push _ _ _) (dk _) (d7 _ rfl) rfl rfl
theorem Zd(w:Nat)(q:Option Int):q.elim w (clipAt w)<=w:=by
 cases q with
 |none=>exact Nat.le_refl _
 |some i=>have:=clipAt_cast w i;show clipAt w i<=w;omega
theorem TS(o:Ok c X A env fr μ σ s){Q:Value->Shared->Prop}(hx:cR u=some w)(jy:s.heap.IsSliceOf sl y z .none)
 (ru:ad c X μ s.heap u x)(ry:DO c X μ s.heap a y)(rz:DO c X μ s.heap b z)(hs:subscripted slice false x (.ref sl)=operate ops (getItem x (.ref sl)))(h:ac c X A env fr (DV c X) μ s (pA (len w) a b λa b=>pI (cut w a b) σ) Q E):wpAny c.M A (subscriptTail value slice x (.ref sl)) Q E s:=by
 revert hs
 refine fZ hx ru λt hs=>BL ry rz h λka kb la lb wa wb h=>wg h λhl h=>?_
 rw[bH] at wa wb
 rw[wa.e,wb.e] at jy
 have M1:slicePicked (aW w) la lb none=(List.range (kb-ka)).map (ka+ ·):=by
  show Builtin.Str.strSliceIndices (la.map (·.1)) (lb.map (·.1)) 1 (aW w).length=_
  rw[jr,Ss,wa.k,wb.k]
 have aaF:((slicePicked (aW w) la lb none).filterMap ((aW w).cps[·]?)).toArray=(aW (cut w ka kb)).cps:=by
  rw[M1,pick_run,vp];rfl
 refine A3 (typeIs_str _ _ _) PySem.F.slot_str_getitem.lookup (wpAny_getItem_str_slice (l:=la) (u:=lb) (st:=none) jy rfl ?_) hs
 unfold sliceMade
 split
 · rename_i hw
   refine h.ok .refl o ⟨t,?_⟩
   rw[M1] at hw
   simp only[Bool.and_eq_true,beq_iff_eq,List.length_map,List.length_range,jr] at hw
   have h0:=hw.2
   have hkb:kb<=w.length:=wb.k▸Zd w.length (lb.map (·.1))
   have e:cut w ka kb=w:=by
    rcases Nat.eq_zero_or_pos w.length with e|e
    · have:=List.length_eq_zero_iff.mp e
      subst this;exact((vp _ _ _).trans (List.take_eq_nil_iff.mpr (.inr List.drop_nil)))
    · exact Lz w (by omega) h0
   rw[e]
 · rw[aaF];exact⟨by rw[jr];exact gn hl,h.ok (aK.tok .refl _) (o.tok _) ⟨_,rfl⟩⟩
theorem ZC(o:Ok c X A env fr μ σ s){Q:Value->Shared->Prop}(jy:s.heap.IsSliceOf sl y z .none)
 (ru:ad c X μ s.heap u x)(ry:DO c X μ s.heap a y)(rz:DO c X μ s.heap b z)(hs:subscripted slice false x (.ref sl)=operate ops (getItem x (.ref sl)))(h:ac c X A env fr (DV c X) μ s (GQ u a b σ) Q E):wpAny c.M A (subscriptTail value slice x (.ref sl)) Q E s:=
 fq h (λ_ hx h=>TS o hx jy ru ry rz hs h) λh=>fq h (λ_ hx h=>Q3 o hx jy ru ry rz hs h) λh=>bk h λ_ hx h=>bA h λhf h=>QS o hx hf jy ru ry rz hs h
theorem PQ(S:SE c n ih.eE)(eo:aJ c n A env fr)(o:Ok c X A env fr μ σ s){ob:Mine.E}{lo hi:List Mine.E}{Q:Value->Shared->Prop}(h:ac c X A env fr (DV c X) μ s (EN ih ob lo hi fr σ) Q E):
 wpAny c.M A (eval (an c.nm (.slice ob lo hi p q)) env) Q E s:=
 PyProof.Rows.Subscript_ (S X A env fr μ σ s ob _ E eo o (ac.bind (D':=DV c X) h λv aM ao x s₁ n₁ aC bj h₁=>
  wpAny_Slice (IV S eo aC (ac.bind (D':=DO c X) h₁ λa σ₂ a9 y aB bG bc dE bh=>IV S eo bc (ac.bind (D':=DO c X) bh λb yG jx z dy lg hM C8 cE=>aS
   (have k1:=aY.push _ _ _
   have n4:aK A env jx jx dy {dy with heap:=dy.heap.push {cls:=.type "slice",data:=.fields #[y,z,.none]}}:=aK.add k1 rfl rfl
   have o4:=hM.add (s':={dy with heap:=_}) k1
   ZC o4 (Heap.IsSliceOf.new dy.heap y z .none) (((ad.nxt bj aC bG).nxt bc lg).nxt hM n4) ((DO.nxt dE bc lg).nxt hM n4) (DO.nxt C8 hM n4) rfl (cE.shift n4)))))))
end
section
variable{c:Cx}{X X':Addr->Prop}{A A' B:Around}{env env' dz:Env}{fr cY mw:Fr}{μ mx ao a9 be gj av:Mu}{σ aM σ₂ eP ba:Sg}{s ll s₁ aB sb dS s':Shared}{E:Value->Shared->Prop}{n:Nat}{K:Frag}{ih:Ev}{α dL β fT:Type}
 {D:Mu->Heap->α->β->Prop}
theorem VL(S:SE c n ih.eE)(eo:aJ c n A env fr)(o:Ok c X A env fr μ σ s){Q:Value->Shared->Prop}(h:ac c X A env fr (DV c X) μ s (Ea ih x fr σ) Q E):
 wpAny c.M A (eval (an c.nm (.neg x p)) env) Q E s:=
 wpAny_UnaryOp (S X A env fr μ σ s x _ E eo o (ac.bind (D':=DV c X) h λv aM ao y s₁ n₁ aC bj h₁=>bk h₁ λi hi h₁=>i8 hi bj λt=>PyProof.Rows.neg_int (nD aC h₁)))
theorem oF(o:Ok c X A env fr μ σ s){Q:Value->Shared->Prop}:
 (∀p,ac c X A env fr (DV c X) μ s (.ok .none σ) Q E->wpAny c.M A (eval (an c.nm (.none p)) env) Q E s)/\(∀b p,ac c X A env fr (DV c X) μ s (.ok (.bool b) σ) Q E->wpAny c.M A (eval (an c.nm (.bool b p)) env) Q E s)/\
 (∀i p,ac c X A env fr (DV c X) μ s (.ok (.int (.ofNat i)) σ) Q E->wpAny c.M A (eval (an c.nm (.int i p)) env) Q E s)/\(∀k p,ac c X A env fr (DV c X) μ s (.ok (.str k) σ) Q E->wpAny c.M A (eval (an c.nm (.str k p)) env) Q E s):=
 ⟨λp h=>wpAny_Constant_none (h.ok .refl o rfl),λb p h=>wpAny_Constant_bool (h.ok .refl o rfl),λi p h=>wpAny_Constant_int (h.ok (aK.tok .refl _) (o.tok _) ⟨_,rfl⟩),λk p h=>wpAny_Constant_str (h.ok (aK.tok .refl _) (o.tok _) ⟨_,rfl⟩)⟩
theorem Gb(G:bq c K)(o:Ok c X A env fr μ σ s):(s.heap.objs.size==sysModules)=false:=
 G.nolim.elim λmc w=>w.1.elim λob w=>w.elim λ_ w=>w.elim λ_ w=>beq_eq_false_iff_ne.mpr λq=>aV (Nat.lt_of_lt_of_eq (Heap.lt_size (o.stays _ _ w.1)) q) (by decide)
theorem HR:∀{l:List (Str×Value)},(l.map (·.1)).Nodup->((stored l k v).map (·.1)).Nodup:=λ{l} nd=>by
 unfold stored
 split
 · have:(l.map λkv=>if kv.1=k then(kv.1,v) else kv).map (·.1)=l.map (·.1):=by
    rw[List.map_map]
    refine List.map_congr_left λkv _=>?_
    simp only[Function.comp]
    split<;>rfl
   rw[this];exact nd
 · rename_i h
   rw[List.map_append,List.nodup_append]
   refine⟨nd,by simp,λa ha b hb e=>h ?_⟩
   obtain⟨kv,hkv,e1⟩:=List.mem_map.mp ha
   have e2:b=k:=by simpa using hb
   exact List.any_eq_true.mpr ⟨kv,hkv,by rw[decide_eq_true_eq,e1,e,e2]⟩
theorem dh.same(j:dh c X A env μ s.heap L){ob:Obj}(e:s.heap.get? L=some ob)(nx:aK A env μ av s s'):s'.heap.get? L=some ob:=
 (nx.keep.2 L _ e (λq=>q.elim j.own j.loc) λv=>v.elim λvs w=>j.ne e (λes ep d=>nomatch w.1.symm.trans d) rfl).elim id λq=>aV q.1 j.fs
theorem dh.adopt(j:dh c X A env μ s.heap L)(o:Ok c X A env fr μ σ s)(k:∀b ob,s.heap.get? b=some ob->b≠L->h'.get? b=some ob){ob:aF}(r:RO c X (μ++[(L,L)]) h' (L,L) ob):
 Ok c X A env fr (μ++[(L,L)]) ⟨aH σ.H ob,σ.r⟩ {s with heap:=h',toks:=tk}:=
 have y:=(j.ok o k).tok tk
 have e:=ce.app μ [(L,L)]
 have st:=(i5.refl (λ_=>False) [] _).stays (λ_ _ _ f=>f.elim) λ_ _ _ q=>q
 have no:∀b,b≠L->¬Mine.own μ b->¬Mine.own (μ++[(L,L)]) b:=λb nb n q=>(mF.mp q).elim n λq=>nb (q.elim id id)
 have a1:∀{n q},aj μ n=some q->q.1≠L:=λhq w=>j.own (dR.mpr ⟨_,_,hq,.inl w.symm⟩)
 have a2:∀{n q},aj μ n=some q->q.2≠L:=λhq w=>j.own (dR.mpr ⟨_,_,hq,.inr w.symm⟩)
 ⟨⟨by rw[List.length_append,o.len.n];rfl,o.len.w.add ob⟩,
  λn oi hn=>by
   have hn:=hn
   rw[o.len.w.aget] at hn
   by_cases hi:n=σ.H.n
   · rw[aG hi] at hn;exact⟨(L,L),by rw[hi,← o.len.n];exact BF _ _,af hn▸r⟩
   · rw[ax hi] at hn;exact(y.obj n oi hn).imp λq z=>⟨e _ _ z.1,z.2.keep (λ_ z=>z) (λ_ z=>z) st e⟩,
  λi j a b hi hj vt=>(qT hi).elim (λw=>(qT hj).elim (λv=>o.apart i j a b w.2 v.2 vt) λv=>v.2.symm▸⟨a1 w.2,a1 w.2,a2 w.2,a2 w.2⟩)
   λw=>(qT hj).elim (λv=>w.2.symm▸⟨(a1 v.2).symm,(a2 v.2).symm,(a1 v.2).symm,(a2 v.2).symm⟩) λv=>aV (w.1.trans v.1.symm) vt,
  λb hb=>(mF.mp hb).elim (o.new b) λq=>(q.elim id id:b=L).symm▸⟨j.base,j.x⟩,
  nh y.ns (λm a=>a) st e,⟨no _ j.loc.symm o.lout.1,o.lout.2⟩,λn l hl=>(o.cells n l hl).imp λq z=>⟨e _ _ z.1,z.2⟩,y.stays,
  y.frs.imp λl z=>⟨z.1,z.2.1,λb hb=>⟨no b (λq=>j.fs ((kL z.1).mpr (q▸hb))) (z.2.2 b hb).1,(z.2.2 b hb).2⟩⟩,y.tabs,y.xlt⟩
structure Gg(c:Cx)(X:Addr->Prop)(A:Around)(env:Env)(fr:Fr)(be:Mu)(sb:Shared)(D0:Addr)(od:Obj)(μ:Mu)(σ:Sg)(s:Shared)(acc:List (List Nat×V))(l:List (Str×Value))(pre:List (Value×Value)):Prop where
 nx:aK A env be μ sb s
 o:Ok c X A env fr μ σ s
 j:dh c X A env μ s.heap D0
 e:s.heap.get? D0=some od
 z:ay (lB c X μ s.heap) acc (merged [] l)
 nd:((merged [] l).map (·.1)).Nodup
 hc:Carries (strKind c.prog c.w) pre l
theorem Hg{K:Type}[DecidableEq K]{knd:KeyKind c.prog c.w K}{k:K}(h:knd.is k key=true):∀{a:List (Value×Value)} {b:List (K×Value)},Carries knd a b->Carries knd (a++[(key,v)]) (b++[(k,v)])
 |[],[],_=>⟨h,rfl,trivial⟩
 |[],_::_,h=>h.elim
 |(_,_)::_,[],h=>h.elim
 |(_,_)::_,(_,_)::_,⟨a,b,d⟩=>⟨a,b,Hg h d⟩
theorem Lw(S:SE c n ih.eE)(eo:aJ c n A env fr){pos:Pos}{D0:Addr}{g:List (List Nat×V)->Sg->R V}{P:List (Value×Value)->Shared->Prop}{Q:Value->Shared->Prop}:
 ∀(ks vs:List Mine.E) (acc:List (List Nat×V)) (l:List (Str×Value)) {μ:Mu} {σ:Sg} {s:Shared} (pre:List (Value×Value)),Gg c X A env fr be sb D0 od μ σ s acc l pre->
  ac c X A env fr (DV c X) be sb ((vY ih fr ks vs acc σ).bind g) Q E->
  (∀ps l acc μ σ s,Gg c X A env fr be sb D0 od μ σ s acc l (pre++ps)->ac c X A env fr (DV c X) be sb (g acc σ) Q E->P ps s)->
  wpAny c.M A (evalPairs (pairTrees (uj c.nm ks) (bC c.nm vs) env pos)) P E s
 |[],[],acc,l,μ,σ,s,pre,p,h,hP=>pairTrees_nil_walk (hP [] l acc μ σ s ((List.append_nil pre).symm▸p) h)
 |[],_::_,_,_,_,_,_,_,_,h,_=>h.elim
 |_::_,[],_,_,_,_,_,_,_,h,_=>h.elim
 |k::ks,v::vs,acc,l,μ,σ,s,pre,p,h,hP=>by
  have h:ac c X A env fr (DV c X) be sb (((ih.eE k fr σ).bind λkv s=>(ih.eE v fr s).bind λvv s=>aX (cR kv) λx=>vY ih fr ks vs (mU acc x vv) s).bind g) Q E:=h
  rw[lF] at h
  refine pairTrees_cons_walk (S X A env fr μ σ s k _ E eo p.o (ac.bindX (D':=DV c X) h (λ_ q=>q) p.nx λkv aM ao y s₁ n₁ aC bj h₁=>?_))
  rw[lF] at h₁
  refine S X A env fr ao aM s₁ v _ E eo aC (ac.bindX (D':=DV c X) h₁ (λ_ q=>q) (p.nx.trans n₁) λvv σ₂ a9 w aB bG bc dE bh=>?_)
  refine pJ bh λx hx bh=>fZ hx bj λt=>?_
  have yL:=n₁.trans bG
  have em:merged [] (l++[(aW x,w)])=stored (merged [] l) (aW x) w:=List.foldl_append ..
  exact Lw S eo ks vs (mU acc x vv) (l++[(aW x,w)]) (pre++[(.str (aW x) t,w)])
   ⟨p.nx.trans yL,bc,p.j.step yL,p.j.same p.e yL,em▸BI dE (p.z.mono λ_ _ q=>⟨q.1,q.2.nxt p.o yL⟩) p.nd,em▸HR p.nd,Hg (strKind_is _ _ _ _) p.hc⟩ bh
   λps l acc μ σ s q h=>hP ((.str (aW x) t,w)::ps) l acc μ σ s ((show pre++[(Value.str (aW x) t,w)]++ps=pre++((.str (aW x) t,w)::ps) from List.append_assoc ..)▸q) h
theorem Gn(nm:Nat->Str):∀l:List Mine.E,(bC nm l).length=l.length
 |[]=>rfl
 |e::r=>aq (· +1) (Gn nm r)
theorem BD(nm:Nat->Str):∀l:List Mine.E,(uj nm l).length=l.length/\(uj nm l).all (·.isSome)=true
 |[]=>⟨rfl,rfl⟩
 |e::r=>⟨aq (· +1) (BD nm r).1,(BD nm r).2⟩
theorem NO(G:bq c K)(S:SE c n ih.eE)(eo:aJ c n A env fr)(o:Ok c X A env fr μ σ s){Q:Value->Shared->Prop}(h:ac c X A env fr (DV c X) μ s (KZ ih ks vs fr σ) Q E):
 wpAny c.M A (eval (an c.nm (.dct ks vs p)) env) Q E s:=by
 refine bA h λyM h=>bA h λhl h=>?_
 have yM:=dO yM
 rw[bH] at yM
 have hl:=bx.mp hl
 rw[bH,bH] at hl
 have Di:=Gb G o
 have k1:aY (λ_=>False) s.heap (s.heap.push {cls:=.type "dict",data:=.dict #[]}):=aY.push _ _ _
 have hD:=dk s.heap
 have j1:=zz o hD ⟨_,Heap.Ns.new s.heap (.type "dict")⟩ λq=>(o.own_mut q).elim λob e=>cg e.1 hD
 have e1:(s.heap.push {cls:=.type "dict",data:=.dict #[]}).get? s.heap.objs.size=some {cls:=.type "dict",data:=.dict #[]}:=d7 _ rfl
 have new:=Heap.DictOf.new (knd:=strKind c.prog c.w) s.heap
 generalize M2:s.heap.objs.size=D0 at hD j1 e1 Di new
 have M3:∀h:Heap,h.get? D0=some {cls:=.type "dict",data:=.dict #[]}->h.DictOf (strKind c.prog c.w) D0 []:=λh e=>zQ new λob q=>bB e1 q▸e
 cases ks with
 |nil=>
  cases vs with
  |cons=>exact aV hl (λq=>nomatch q)
  |nil=>exact wpAny_Dict_empty (M2.symm▸bA (show ac c X A env fr (DV c X) μ s (uI [] σ) Q E from h) λ_ h=>h.ok (aK.new1 (s':={s with heap:=_}) (p:=(D0,D0)) k1 hD hD rfl rfl) (o.new1 (s':={s with heap:=_}) (o:=.dict []) (p:=(D0,D0)) k1 hD hD ⟨rfl,Di,[],M3 _ e1,.nil,Nat.zero_le _⟩) (⟨(D0,D0),o.last _,rfl⟩))
 |cons k ks=>
  have my:=BD c.nm (k::ks)
  refine wpAny_Dict_walk (knd:=strKind c.prog c.w) my.2 (my.1.trans (hl.trans (Gn c.nm vs).symm)) (λq=>nomatch q) (my.1▸yM) ?_
  rw[M2]
  refine Lw S eo (D0:=D0) (g:=λbF s=>uI bF s) (k::ks) vs [] [] [] ⟨aK.add k1 rfl rfl,o.add (s':={s with heap:=_}) k1,j1,e1,.nil,List.nodup_nil,trivial⟩ h λps l acc a9 σ₂ aB p bh=>⟨l,p.hc,M3 _ p.e,λh' hd sb=>bA bh λhf bh=>?_⟩
  have kk:∀b ob,aB.heap.get? b=some ob->b≠D0->h'.get? b=some ob:=λb ob e ne=>(sb.2 b ne).trans e
  have n2:=(dh.nxt (s₁:=s) hD p.nx kk).tok (aB.toks+ps.length)
  exact bh.ok ⟨n2.ext.trans (ce.app _ _),λb q=>((mF (p:=(D0,D0))).mp q).elim (n2.fresh b) λq=>.inr ((q.elim id id)▸hD),n2.keep,n2.gens,n2.os⟩
   (p.j.adopt p.o (ob:=.dict acc) kk ⟨rfl,Di,_,hd,p.z.mono λ_ _ q=>⟨q.1,q.2.mono (p.j.stays kk) (ce.app _ _)⟩,p.z.length▸gk.mp hf⟩) ⟨(D0,D0),p.o.last _,rfl⟩
end
abbrev wx(nm:Nat->Str)(ps:List (Nat×Nat)):Arguments:=⟨[],ps.map λq=>⟨nm q.1,none,aE q.2⟩,none,[],[],none,[]⟩
theorem YC(nm:Nat->Str)(ps:List (Nat×Nat))(body:Mine.E)(sc:List (Nat×Nat))(p:Nat):an nm (.lam ps body sc p)=.Lambda (wx nm ps) (an nm body) (dW nm sc) (aE p):=by rfl
theorem fj.ok{h:Heap}{nm:Str}{l:List Value}(x:fj h nm l):TriplesOk l:=by
 induction x with
 |nil=>trivial
 |cons l k a r _ _ ih=>exact ih
theorem Ui{α:Type}{x y r:α}{o:Option α}{G:Prop}(e:(if b=true then some x else o)=some r)(k:x=r->G)(k':o=some r->G):G:=by
 cases b with
 |true=>exact k (af e)
 |false=>exact k' e
theorem fj.found{nm:Str}{l:List Value}(x:fj h nm l):codeAmong pos l=some cv->∃a,cv=.ref a/\h.CodeRec (.ref a) nm:=by
 induction x with
 |nil=>exact λe=>ns e
 |cons l k a r h1 _ ih=>exact λe=>Ui (b:=l==(pos.line:Int)&&k==(pos.col:Int)) (x:=Value.ref a) (y:=.none) e (λe=>⟨a,e.symm,h1⟩) ih
theorem fj.snoc(x:fj h nm l)(c:h.CodeRec (.ref a) nm):fj h nm (l++[rawInt i,rawInt j,.ref a]):=by
 induction x with
 |nil=>exact .cons _ _ _ _ c .nil
 |cons l k a r h1 _ ih=>exact .cons _ _ _ _ h1 ih
theorem fj.two(x:fj h nm l)(q:Str)(t:Tok):l[1]?≠some (.str q t):=by
 cases x<;>exact λe=>nomatch e
theorem fj.vs{h:Heap}{nm:Str}{ps:Array Value}(x:fj h nm ps.toList)(q:Str)(t:Tok):ps[1]?≠some (.str q t):=λe=>x.two q t (Array.getElem?_toList.trans e)
section
variable{c:Cx}{X X':Addr->Prop}{A A' B:Around}{env env' dz:Env}{fr cY mw:Fr}{μ mx ao a9 be gj av:Mu}{σ aM σ₂ eP ba:Sg}{s ll s₁ aB sb dS s':Shared}{E:Value->Shared->Prop}{n:Nat}{K:Frag}{ih:Ev}{α dL β fT:Type}
 {D:Mu->Heap->α->β->Prop}
structure OR(c:Cx)(X:Addr->Prop)(A:Around)(env:Env)(fr:Fr)(μ:Mu)(σ:Sg)(s:Shared)(h':Heap):Prop where
 ok:Ok c X A env fr μ σ {s with heap:=h'}
 nx:aK A env μ μ s {s with heap:=h'}
theorem GL{h h':Heap}{ps:Array Value}(e0:h.get? P=some (tabObj ps))(tr:fj h nm ps.toList)(k:∀b ob,h.get? b=some ob->b≠P->h'.get? b=some ob)(cd:Value)(q:Str):h.CodeRec cd q->h'.CodeRec cd q:=
 bf λt=>bf λob=>bf λvs=>bf λtk x=>⟨x.1,k _ _ x.2.1 λw=>tr.vs q tk ((Data.fields.inj ((aq Obj.data (bB e0 (w▸x.2.1))).trans x.2.2.1)).symm▸x.2.2.2),x.2.2⟩
theorem Ok.table(G:bq c K)(o:Ok c X A env fr μ σ s){cd P:Addr}(hm:(cd,P)∈c.tabs)(k:∀b ob,s.heap.get? b=some ob->b≠P->h'.get? b=some ob){ps Dj:Array Value}(e0:s.heap.get? P=some (tabObj ps))(M4:fj s.heap (c.tq cd) ps.toList)
 (hP:h'.get? P=some (tabObj Dj))(tr:fj h' (c.tq cd) Dj.toList):OR c X A env fr μ σ s h':=
 have rO:∀b ob,s.heap.get? b=some ob->(∀vs,ob.data≠.fields vs)->b≠P:=λb ob e n q=>n ps (aq Obj.data (bB (q▸e) e0))
 have Dk:∀b,(∃ob,s.heap.get? b=some ob/\gx ob)->b≠P:=λb w q=>w.elim λob w=>nK (o:=tabObj ps) rfl (bB (q▸w.1) e0▸w.2)
 have M5:=GL e0 M4 k
 have st:=⟨λa its x lv=>x.elim λob x=>x.2.2.elim λnn hd=>
  have q:=k a ob x.1 (rO a ob x.1 λvs e=>nomatch hd.symm.trans e)
  ⟨⟨ob,q,x.2.1,nn,hd⟩,lv.1,ob,q,lv.2.elim λo' l=>bB l.1 x.1▸l.2⟩,
  λa ob fd ho hc hd=>⟨ob,k _ _ ho (rO a ob ho λvs e=>nomatch hd.symm.trans e),rfl,rfl⟩,M5⟩
 have live:=λb ob e=>(Classical.em (b=P)).elim (λw=>⟨_,w▸hP⟩) λw=>⟨ob,k b ob e w⟩
 ⟨⟨o.len,λi oi e=>(o.obj i oi e).imp λp z=>⟨z.1,z.2.keep (λob w=>k _ _ w (Dk _ (o.own_mut (dR.mpr ⟨i,p,z.1,.inl rfl⟩)))) (λob w=>k _ _ w (Dk _ (o.own_mut (dR.mpr ⟨i,p,z.1,.inr rfl⟩)))) st (.refl _)⟩,o.apart,o.new,
  nh o.ns (λm a=>a.at' λob e=>k _ _ e (Dk _ o.loc_mut)) st (.refl _),o.lout,o.cells,λb ob e=>k _ _ (o.stays b ob e) λq=>cg e (q▸G.tabB _ hm),
  o.frs.imp λl y=>⟨y.1,y.2.1.keep λb hb ob e n=>⟨ob,k b ob e (rO b ob e n),n⟩,y.2.2⟩,
  λq hq=>⟨(o.tabs q hq).1.imp λob=>bf λvs=>bf λfile=>bf λtf=>bf λflags=>bf λtg=>bf λrL=>bf λtext=>bf λtt y=>
   ⟨k _ _ y.1 (λw=>aV ((aq Obj.cls (bB e0 (w▸y.1))).trans y.2.1:Value.none=.type "code") λq=>nomatch q),y.2⟩,
   (Classical.em (q.2=P)).elim (λw=>have e:=G.tabI q hq (cd,P) hm w;⟨Dj,w▸hP,e▸tr⟩) λw=>(o.tabs q hq).2.imp λpK y=>⟨k _ _ y.1 w,y.2.keep λa=>M5 _ _⟩⟩,
  λb hb=>⟨(o.xlt b hb).1.elim (live b),(o.xlt b hb).2⟩⟩,
  .refl _,λ_ q=>.inl q,⟨live,λb ob e nm nv=>.inl (k b ob e λw=>nv (bB e0 (w▸e)▸⟨ps,rfl,M4.vs,.inr (.inr rfl)⟩))⟩,rfl,rfl⟩
theorem TQ{α:Type}(l:List α)(h:l.length<=1):l.Nodup:=match l,h with
 |[],_=>.nil
 |[_],_=>.cons (λ_ h=>nomatch h) .nil
theorem Qy(G:bq c K)(eo:aJ c n A env fr)(o:Ok c X A env fr μ σ s){ps:List (Nat×Nat)}{body:Mine.E}{Q:Value->Shared->Prop}(h:ac c X A env fr (DV c X) μ s (EW ps body sc fr σ) Q E):
 wpAny c.M A (eval (an c.nm (.lam ps body sc p)) env) Q E s:=
 bA h λhlm h=>bA h λkg h=>bA h λhps h=>bk h λcs hc h=>(I2 G.inj o hc).elim λcl pZ=>(eo.code hlm).elim λcd w=>w.elim λP w=>(o.tabs _ w.2.1).2.elim λM6 hT=>
 G.bmain.elim λmg g=>g.elim λbm g=>g.elim λob g=>by
 rw[YC]
 refine kla_eval rfl ?_
 have hg:=o.base_ns g.1
 have M7:=o.stays _ _ g.2.2.2.2.1
 have hP:=hT.1
 have tr:=hT.2
 have rO:∀b ob,s.heap.get? b=some ob->(∀vs,ob.data≠.fields vs)->b≠P:=λb ob e n q=>n M6 (aq Obj.data (bB (q▸e) hP))
 have hB:s.heap.BuiltinsAt mg P:=⟨bm,ob,g.2.1,g.2.2.1,g.2.2.2.1,rO bm ob M7 (λvs e=>nomatch g.2.2.2.2.2.2.2.symm.trans e),M7,g.2.2.2.2.2⟩
 have hgP:=hg.elim λo' z=>z.elim λes z=>z.elim λep z=>rO _ o' z.1 λvs e=>nomatch z.2.1.symm.trans e
 have hq:=w.2.2
 generalize (env.qual++ "<lambda>" :Str)=qn at hq ⊢
 have clo:∀{h':Heap} {a:Addr} {cv vH pm:Value},h'.get? a=some {cls:=.type "function",data:=.func (kla_fn "<lambda>" qn (wx c.nm ps) (an c.nm body) (dW c.nm sc) cl pm cv vH)}->
  h'.CodeRec cv (c.tq cd)->mZ c μ h' a ⟨ps.map (·.1),sc,body⟩ cs:=λe hr=>
  ⟨_,_,e,rfl,rfl,kg,rfl,rfl,rfl,rfl,hq.symm▸hr,pZ.2 μ (.refl _),⟨_,rfl,by rw[List.map_map];exact(List.map_map (f:=Prod.fst) (g:=c.nm)).symm⟩,rfl,TQ _ (by rw[List.length_map,List.length_map,← bH];exact dO hps)⟩
 cases hf:codeAmong (aE p) M6.toList with
 |some cv=>
  refine(tr.found hf).elim λa z=>?_
  have z1:=z.1
  subst z1
  refine kla_makeFunctionHit (mg:=mg) pZ.1 eo.globs hg w.1 (o.tabs _ w.2.1).1 hP tr.ok hf hB λvH h' tk keep size=>?_
  have k:aY (λ_=>False) s.heap (h'.push {cls:=.type "function",data:=.func (kla_fn "<lambda>" qn (wx c.nm ps) (an c.nm body) (dW c.nm sc) cl ((mg "__name__").getD .none) (.ref a) vH)}):=.of λb ob e=>d6 _ (keep b ob e)
  exact h.ok ((aK.add (s':={s with heap:=_}) k rfl rfl).tok _) ((o.add (s':={s with heap:=_}) k).tok _) (⟨_,rfl,clo (d7 _ rfl) (z.2.keeps λb ob e=>k.2 b ob e id)⟩)
 |none=>
  refine kla_makeFunction (mg:=mg) pZ.1 eo.globs hg w.1 (o.tabs _ w.2.1).1 hP tr.ok hf hgP hB λc' vH h' tk hx hge hlt aaK htb=>?_
  have hr:=hq▸aaK
  have kx:=λb ob e ne=>hx b ob ne e
  have T:=o.table G w.2.1 kx hP tr htb (by rw[Array.toList_append];exact(tr.keep λa=>GL hP tr kx _ _).snoc hr)
  have k:aY (λ_=>False) h' (h'.push (kla_obj "<lambda>" qn (wx c.nm ps) (an c.nm body) (dW c.nm sc) cl ((mg "__name__").getD .none) c' vH)):=aY.push _ _ _
  exact h.ok ((T.nx.trans (aK.add (s:={s with heap:=h'}) (s':={s with heap:=_}) k rfl rfl)).tok _) ((T.ok.add (s':={s with heap:=_}) k).tok _) (⟨_,rfl,clo (d7 _ rfl) (hr.push _)⟩)
end
def xL(c:Cx):Prop:=∀n (ih:Ev),SE c n ih.eE->∀X A env fr μ σ s k es pn pc p Q E,aJ c n A env fr->Ok c X A env fr μ σ s->ac c X A env fr (DF c X) μ s (LE c.T ih k es fr σ) Q E->wpAny c.M A (exec (cT c.nm (.raise k es pn pc p)) env) Q E s
def ye(c:Cx):Prop:=∀n (ih:Ev),SS c n ih.eS->∀X A env fr μ σ s b hs p Q E,aJ c n A env fr->Ok c X A env fr μ σ s->ac c X A env fr (DF c X) μ s (IU c.T ih b hs fr σ) Q E->wpAny c.M A (exec (cT c.nm (.tryS b hs p)) env) Q E s
section
variable{c:Cx}{n:Nat}{K:Frag}{ih:Ev}
theorem ZE(G:bq c K)(lh:qH c)(D:pS c)(H:lw c n ih):SE c (n+1) (Bk c.T ih c.mc):=by
 intro X A env fr μ σ s e Q E eo o h
 have cN:=eo.of_succ
 have S:=H.eE
 cases e with
 |none p=>exact(oF o).1 p h
 |bool b p=>exact(oF o).2.1 b p h
 |int i p=>exact(oF o).2.2.1 i p h
 |str k p=>exact(oF o).2.2.2 k p h
 |name x p=>exact CH G eo o h
 |attr ob a p=>exact PF G S cN o h
 |sub ob i p=>exact O5 S cN o h
 |slice ob lo hi p q=>exact PQ S cN o h
 |bin op l r p=>exact TC S cN o h
 |cmp op l r p=>exact Q1 S cN o h
 |bop a es p=>exact Ri S cN o h
 |not x p=>exact PL S cN o h
 |neg x p=>exact VL S cN o h
 |ife t b e p=>exact Rn S H.eT cN o h
 |tup es p=>exact Uc S cN o h
 |lst es p=>exact RX S cN o h
 |dct ks vs p=>exact NO G S cN o h
 |comp elt t i tsts sc p=>exact El G S H.eT cN o h
 |comp2 elt t i t2 i2 sc p=>exact Gj G S H.eT cN o h
 |lam ps body sc p=>exact Qy G cN o h
 |call f es q=>
  cases f with
  |attr ob a p=>exact bA (h) λhl h=>bA h λhn h=>R2 G lh S H.call cN o hl hn h
  |_=>exact Sk S (QR G D S H.call) eo o rfl h
theorem IK(G:bq c K)(Rz:xL c)(Tr:ye c)(H:lw c n ih):SS c (n+1) (xf c.T ih):=by
 intro X A env fr μ σ s e Q E eo o h
 have cN:=eo.of_succ
 have S:=H.eE
 cases e with
 |expr e p=>exact Yc S cN o h
 |assign t v p=>exact Uu G S H.eT cN o h
 |forS t i b p=>exact WL G S H.eT H.eS cN o h
 | «while» t b p=>exact TY H.eW cN o h
 |ifS t b e p=>exact TD H.eS H.eT cN o h
 |ret e p=>exact WD S cN o h
 |raise k es pn pc p=>exact Rz n ih S X A env fr μ σ s k es pn pc p Q E cN o h
 |tryS b hs p=>exact Tr n ih H.eS X A env fr μ σ s b hs p Q E cN o h
 |pass p=>exact wpAny_Pass ((h).ok (y:=Flow.next) .refl o trivial)
theorem T7(G:bq c K)(lh:qH c)(D:pS c)(Or:qS c)(Rz:xL c)(Tr:ye c)(H:lw c n ih):
 lw c (n+1) ⟨jm c.T ih n,Bk c.T ih c.mc,Cj ih,xf c.T ih,AU ih⟩ where
 call:=Uv G Or H.eS
 eE:=ZE G lh D H
 eT:=λX A env fr μ σ s e Q E eo o h=>Ps H.eE H.eT eo.of_succ o h
 eS:=IK G Rz Tr H
 eW:=λX A env fr μ σ s t b Q E eo o h=>Vo H.eS H.eT H.eW eo.of_succ o h
theorem JD(G:bq c K)(lh:qH c)(D:pS c)(Or:qS c)(Rz:xL c)(Tr:ye c):∀n,lw c n (ev c.T c.mc n)
 |0=>⟨λ_ _ _ _ _ _ _ _ _ _ _ _ _ _ _ h=>h.elim,λ_ _ _ _ _ _ _ _ _ _ _ _ h=>h.elim,λ_ _ _ _ _ _ _ _ _ _ _ _ h=>h.elim,λ_ _ _ _ _ _ _ _ _ _ _ _ h=>h.elim,λ_ _ _ _ _ _ _ _ _ _ _ _ _ h=>h.elim⟩
 |n+1=>T7 G lh D Or Rz Tr (JD G lh D Or Rz Tr n)
end
def A8(c:Cx):Prop:=∀k d b,c.T.sub k d=some b->∀(A:Around) (E:Value->Shared->Prop) (s:Shared) e oe (Q:Bool->Shared->Prop),c.base.StaysIn s.heap->s.heap.get? e=some oe->oe.cls=.ref (c.clA k)->Q b s->wpAny c.M A (excMatches (.ref e) (.ref (c.clA d))) Q E s
def sP(c:Cx):Prop:=∀k d b,c.T.sub k d=some b->∀a,a<=1->∀(A:Around) (E:Value->Shared->Prop) (s:Shared) e oe dx ms y (Q:Value->Shared->Prop) ex,c.base.StaysIn s.heap->s.heap.get? e=some oe->oe.cls=.ref (c.clA k)->oe.dict=some dx->(∃vs,oe.data=.fields vs)->s.heap.Ns dx ms->ms (c.nm a)=some y->handedIn y=true->(∀tk,Q y {s with toks:=tk})->
 wpAny c.M A (getAttr (.ref e) (c.nm a) ex) Q E s
section
variable{c:Cx}{X X':Addr->Prop}{A A' B:Around}{env env' dz:Env}{fr cY mw:Fr}{μ mx ao a9 be gj av:Mu}{σ aM σ₂ eP ba:Sg}{s ll s₁ aB sb dS s':Shared}{E:Value->Shared->Prop}{n:Nat}{K:Frag}{ih:Ev}{α dL β fT:Type}
 {D:Mu->Heap->α->β->Prop}
theorem Mo(r:List (Nat×V))(x y:Nat)(v:V):au (r.filter λq=> !Nat.beq q.1 x) y=some v->y≠x/\au r y=some v:=by
 induction r with
 |nil=>exact λh=>ns h
 |cons p r ih=>
  rw[List.filter_cons]
  cases hb:Nat.beq p.1 x with
  |true=>exact λh=>(ih h).imp id λh2=>(dA p.1 p.2 r y).trans ((ax λq=>(ih h).1 (q.symm.trans (bx.mp hb))).trans h2)
  |false=>
   intro h
   have h:au ((p.1,p.2)::r.filter λq=> !Nat.beq q.1 x) y=some v:=h
   rw[dA] at h ⊢
   by_cases e:p.1=y
   · rw[aG e] at h ⊢;exact⟨λq=>ee.mp hb (e.trans q),h⟩
   · rw[ax e] at h ⊢;exact ih h
theorem KB(h:CV fr x=true):au fr.sc x=some 0:=bV h λk hk h=>hk.trans (aq some (bx.mp h))
theorem pf.pick{lo h:Heap}{oe:Obj}(x:pf c X μ lo k m v e h oe vs dx ms tb):∀{a:Nat},Nat.ble a 1=true->∃y,ms (c.nm a)=some y/\ad c X μ h (uY a m v) y
 |0,_=>x.e13
 |1,_=>x.e14
 |_+2,h=>ft h
theorem Y6(G:bq c K)(XA:sP c)(eo:aJ c n A env fr){lo:Heap}{hd:Hd}(rP:c.T.sub k d=some b)(hx:CV fr hd.x=true)(ha:Nat.ble hd.a 1=true)(nb:ir (uY hd.a m v)=true){Q:Flow->Shared->Prop}
 (o:Ok c X A env fr μ σ s)(x:cD c X μ lo k m v e s.heap)(hL:∃o,lo.get? env.locals=some o)(hm:s.heap.Ns env.locals m0)(hme:m0 (c.nm hd.x)=some (.ref e)){E':Value->Shared->Prop}
 (hQ:∀y s',aK A env μ μ s s'->Ok c X A env fr μ σ s'->cD c X μ lo k m v e s'.heap->s'.heap.Ns env.locals m0->ad c X μ s'.heap (.cons (.str hd.tag) (.cons (uY hd.a m v) .nil)) y->Q (.ret y) s'):
 wpAny c.M A' (PySem.execs [.Return (some (.Tuple [.Constant (.str (aW hd.tag)) 0 (aE hd.ps),.Attribute (.Name (c.nm hd.x) (aE hd.px)) (c.nm hd.a) (aE hd.pa)] 0 (aE hd.pt))) (aE hd.pr)] env) Q E' s:=
 x.ex.elim λoe z=>z.elim λvs z=>z.elim λdx z=>z.elim λms z=>z.elim λtb z=>(z.pick ha).elim λy g=>by
 refine wpAny_execs_cons (wpAny_Return_some ?_)
 rw[arm_eval_Tuple]
 refine ah (gf (ah ?_))
 show wpAny c.M A' (spliced [(false,eval (.Constant (.str (aW hd.tag)) 0 (aE hd.ps)) env),(false,eval (.Attribute (.Name (c.nm hd.x) (aE hd.px)) (c.nm hd.a) (aE hd.pa)) env)]) _ _ s
 refine Calls.spliced_cons (wpAny_Constant_str (Calls.spliced_cons ?_))
 have base:∀whole,attributeBase (.Name (c.nm hd.x) (aE hd.px)) (c.nm hd.a) env whole=whole:=λ_=>rfl
 rw[arm_eval_Attribute,base]
 have kp:aY (λ_=>False) s.heap (s.heap.push {cls:=.type "tuple",data:=.seq [Value.str (aW hd.tag) s.toks,y].toArray}):=aY.push _ _ _
 have nx:aK A env μ μ s {s with heap:=s.heap.push {cls:=.type "tuple",data:=.seq [Value.str (aW hd.tag) s.toks,y].toArray}}:=aK.add kp rfl rfl
 exact ah (wpAny_Name (wpAny_loadName_local eo.kfun (eo.k0 _ (KB hx)) hm hme (ah (gf (ah (d9 (XA k d b rP hd.a (dO ha) A' _ _ e oe dx ms y _ _ o.stays z.e1 z.e2 z.e3 ⟨vs,z.e4⟩ z.e12 g.1 (rj G.opq g.2 nb) λtk=>
  ah (wpAny_letTemporaryGo (aS (Calls.spliced_nil (wpAny_newTuple (hQ _ _ (nx.tok tk) ((o.add (s':={s with heap:=_}) kp).tok tk) (x.junk hL (nx.stays o) λb ob e _=>kp.2 b ob e id) (hm.keeps λb ob e=>kp.2 b ob e id)
   ((hZ rfl).mpr ⟨_,_,rfl,⟨_,d7 _ rfl,rfl,_,rfl⟩,⟨mY o (dk _),_,d7 _ rfl,rfl⟩,.cons ⟨_,rfl⟩ (.cons (g.2.nxt o (nx.tok tk)) .nil)⟩)))))))))))) (G.nodebug hd.x))
structure ZK(c:Cx)(X:Addr->Prop)(A:Around)(env:Env)(fr:Fr)(μ:Mu)(H:HT)(r:List (Nat×V))(s s':Shared)(m:Str->Option Value):Prop where
 nx:aK A env μ μ s s'
 ok:Ok c X A env fr μ ⟨H,r⟩ s'
 z:∀y v,au r y=some v->∃z,m (c.nm y)=some z/\ad c X μ s'.heap v z
theorem BN(G:bq c K)(o:Ok c X A env fr μ ⟨H,r⟩ s)(hr:∀y v,au r y=some v->y≠x){m:Str->Option Value}
 (hz:∀y v,au r y=some v->∃z,m (c.nm y)=some z/\ad c X μ s.heap v z)(hn:h'.Ns env.locals (λz=>if z=c.nm x then u else m z))(sb:Heap.SameBut env.locals s.heap h')(tk:Tok):
 ZK c X A env fr μ H r s {s with heap:=h',toks:=tk} (λz=>if z=c.nm x then u else m z):=
 have k:=hn.elim λod w=>w.elim λ_ w=>w.elim λ_ w=>aY.same sb w.1
 have nx:=aK.locs (s':={s with heap:=h'}) k rfl rfl
 have nU:=λy v hy=>(hz y v hy).imp λz q=>⟨(ax λe=>hr y v hy (G.inj _ _ e)).trans q.1,q.2⟩
 ⟨nx.tok _,(o.locs (s':={s with heap:=h'}) (r':=r) k ⟨_,hn,nU⟩).tok _,λy v hy=>(nU y v hy).imp λz q=>⟨q.1,q.2.nxt o (nx.tok tk)⟩⟩
theorem Sb(G:bq c K)(XA:sP c)(eo:aJ c n A env fr){Q:Flow->Shared->Prop}(o:Ok c X A env fr μ σ s){hd:Hd}(rP:c.T.sub k d=some b)(nx:aK A env μ ao s s₁)(aC:Ok c X A env fr ao aM s₁)(x:cD c X ao s.heap k m v e s₁.heap)
 (h:ac c X A env fr (DF c X) μ s (JO fr hd (uY hd.a m v) aM) Q E){R:Except Value Flow->Shared->Prop}
 (hR:∀y mz,wpAny c.M A (do bindName env (c.nm hd.x) .none;unbindBehindTheSuite env (c.nm hd.x) (aE hd.ph)) (λ_ Dl=>Q (.ret y) Dl) E mz->R (.ok (.ret y)) mz):
 codeAny c.M (A.mark (some (.ref e))) (.handlers (.ref e) [.ExceptHandler none (some (c.nm hd.x)) [.Return (some (.Tuple [.Constant (.str (aW hd.tag)) 0 (aE hd.ps),.Attribute (.Name (c.nm hd.x) (aE hd.px)) (c.nm hd.a) (aE hd.pa)] 0 (aE hd.pt))) (aE hd.pr)] (aE hd.ph)] env) R s₁:=
 bA h λhx h=>bA h λha h=>bA h λnb h=>by
 have hA:(A.mark (some (.ref e))).frames=A.frames:=rfl
 have hk:=eo.k0 _ (KB hx)
 have hp:(env.scope.kind== .class||(env.scope.kind== .module&&env.locals !=env.globals))=false:=by rw[eo.kfun];rfl
 have hL:=o.loc_mut.imp λ_ w=>w.1
 refine codeAny_handlers_suite_as (r4 (aC.under hA) x nx.keep.1 o.stays λaB bG bc lc _=>?_)
 have bG:=bG.under (A':=A) hA.symm
 have bc:=bc.under (A':=A) hA.symm
 have Dm:Ok c X A env fr ao ⟨aM.H,aM.r.filter λq=> !Nat.beq q.1 hd.x⟩ aB:=bc.same_r λy v hy=>(Mo _ _ _ _ hy).2
 have hr:∀y v,au (aM.r.filter λq=> !Nat.beq q.1 hd.x) y=some v->y≠hd.x:=λy v hy=>(Mo _ _ _ _ hy).1
 refine Dm.ns.elim λm1 w=>wpAny_storeName_local hk w.1 (λcE M8 M9=>?_) hp
 have L3:=BN G Dm hr w.2 M8 M9 (aB.toks+1)
 refine Y6 G XA eo rP hx ha nb L3.ok (lc.junk hL (L3.nx.stays Dm) λb ob e ne=>(M9.2 b ne).trans e) hL M8 (aG rfl) λy mz Do vJ abX abY aaN=>hR y mz ?_
 refine vJ.ns.elim λm4 w4=>ah (wpAny_bindName (wpAny_storeName_local hk w4.1 (λabZ Na aaO=>?_) hp))
 have L5:=BN G vJ hr w4.2 Na aaO (mz.toks+1)
 refine wpAny_onRaise (wpAny_unbindName_local hk Na (aG rfl) hp λab0 u aaP aaQ=>?_)
 have L6:=BN G L5.ok hr L5.z aaP aaQ (mz.toks+1)
 exact h.ok (y:=Flow.ret y) (nx.trans (bG.trans (L3.nx.trans (Do.trans (L5.nx.trans L6.nx))))) L6.ok ((ad.nxt aaN vJ L5.nx).nxt L5.ok L6.nx)
theorem Cv(h:wC v=some i):v=.cls i:=by cases v<;>first|exact ns h|exact aq V.cls (af h)
theorem QV(G:bq c K)(SO:A8 c)(XA:sP c)(eo:aJ c n A env fr){Q:Flow->Shared->Prop}(o:Ok c X A env fr μ σ s)(nx:aK A env μ ao s s₁)(aC:Ok c X A env fr ao aM s₁)(x:cD c X ao s.heap k m v e s₁.heap)(ht:jV s₁.heap e)(hs:List Hd):
 ac c X A env fr (DF c X) μ s (xu c.T fr k m v hs aM) Q E->wpAny c.M A (handleBy (.ref e) env (hs.map (DQ c.nm))) Q E s₁:=by
 induction hs with
 |nil=>exact λh=>GG aC x nx.keep.1 o.stays ht λs' n' o' x'=>(h) ao s' e (nx.trans n') o' x'
 |cons hd r bP=>
  intro h
  refine bk h λw hg h=>bk h λd kc h=>bk h λb rP h=>wpAny_handleBy_cons (codeAny_handlers_test (zy G eo aC (xw hg).1 (xw hg).2 λy ry=>?_)) (λq=>nomatch q)
  have ry:=(Cv kc▸ry:ad c X ao s₁.heap (.cls d) y)
  subst ry
  refine x.ex.elim λoe z=>z.elim λvs z=>z.elim λdx z=>z.elim λms z=>z.elim λtb z=>SO k d b rP _ _ s₁ e oe _ aC.stays z.e1 z.e2 ?_
  cases b with
  |false=>exact bP h
  |true=>exact Sb G XA eo o rP nx aC x h λy mz q=>q
theorem Js(G:bq c K)(SO:A8 c)(XA:sP c):ye c:=by
 intro n ih vC X A env fr μ σ s b hs p Q E eo o h
 cases hs with
 |nil=>exact h.elim
 |cons hd r=>
  have h:ac c X A env fr (DF c X) μ s (R.rec (λf s=>.ok f s) (λk m v s=>xu c.T fr k m v (hd::r) s) .stuck (Mine.execs ih fr b σ)) Q E:=h
  refine wpAny_Try_except (ou vC eo b o ?_)
  cases hr:Mine.execs ih fr b σ with
  |stuck=>rw[hr] at h;exact h.elim
  |ok f aM=>
   rw[hr] at h
   refine λao s₁ y nx aC bj=>?_
   have q:=(h).ok nx aC bj
   cases y with
   |next=>exact wpAny_execs_nil q
   |ret y=>exact q
   |_=>cases f<;>exact bj.elim
  |exc k m v aM=>
   rw[hr] at h
   exact λao s₁ e nx aC x=>Ad eo aC x nx.keep.1 o.stays λaB bG bc lc aaR=>r4 bc lc (nx.trans bG).keep.1 o.stays λdy lg hM aaS aaT=>QV G SO XA eo o (nx.trans (bG.trans lg)) hM aaS (aaT aaR) (hd::r) h
end
structure mQ(c:Cx)(K:Frag):Prop where
 keep:∀k d b,c.T.sub k d=some b->keepIn K (.ref (c.clA k))=true
 cls:∀k d b,c.T.sub k d=some b->∃oc cd,c.base.get? (c.clA d)=some oc/\oc.data=.cls cd
 sub:∀k d b,c.T.sub k d=some b->mroIn K (c.clA d) (.type "BaseException")=some true/\mroIn K (c.clA k) (.type "BaseException")=some true/\typeIn K (.ref (c.clA d))=some (.type "type")/\mroIn K (c.clA k) (.ref (c.clA d))=some b
 attr:∀k d b,c.T.sub k d=some b->∀a,a<=1->findIn K (.ref (c.clA k)) "__getattribute__" =some (some (.builtin "BaseException.__getattribute__"))/\findIn K (.ref (c.clA k)) "__getattr__" =some none/\hasDictIn K (c.clA k)=true/\∃at_,findIn K (.ref (c.clA k)) (c.nm a)=some at_/\noGet K at_=true
section
variable{c:Cx}{K:Frag}{A:Around}{E:Value->Shared->Prop}{s:Shared}
theorem Jr(G:bq c K)(XK:mQ c K):A8 c:=by
 intro k d b hs A E s e oe Q stays he hc q
 have X:=G.kin.keeps λb ob e=>stays b ob e
 obtain⟨m1,m0,t1,m2⟩:=XK.sub k d b hs
 have L1:=looks_typeIn (M:=c.M) X t1
 have L2:=looks_mroIn (M:=c.M) X m1
 have L3:=looks_mroIn (M:=c.M) X m2
 have k0:∀b o,s.heap.get? b=some o->s.heap.get? b=some o:=λ_ _ h=>h
 unfold excMatches isInstance
 refine ah (ah (L1 A _ E s k0 ?_))
 refine wpAny_of_eq tc_notTuple ?_
 rw[ax (by decide)]
 refine ah (aS ?_)
 dsimp only
 obtain⟨oc,cd,ec,dc⟩:=XK.cls k d b hs
 have ec:=stays _ _ ec
 have E1:∀(Q:Bool->Shared->Prop),Q true s->wpAny c.M A (isExcClass (.ref (c.clA d))) Q E s:=λQ q=>by
  unfold isExcClass isType
  refine ah (ah (wpAny_loadPart ec ?_))
  rw[dc]
  refine aS ?_
  rw[aG rfl]
  exact L2 A _ E s k0 q
 simp only[List.forIn_cons,List.forIn_nil]
 refine ah (ah (ah (E1 _ ?_)))
 refine aS ?_
 refine aS ?_
 have T1:∀(Q:Value->Shared->Prop),Q (.ref (c.clA k)) s->wpAny c.M A (typeOf (.ref e)) Q E s:=λQ q=>by
  unfold typeOf
  refine ah (wpAny_loadPart he ?_)
  rw[hc];exact aS q
 refine ah (T1 _ ?_)
 refine ah (ah (ah (L3 A _ E s k0 ?_)))
 cases b with
 |true=>exact aS (aS (aS q))
 |false=>exact aS (aS (aS q))
theorem Ms(G:bq c K)(XK:mQ c K):sP c:=by
 intro k d b hs a ha A E s e oe dx ms y Q ex stays he hc hd ⟨vs,dv⟩ ns hy hh q
 have X:=G.kin.keeps λb ob e=>stays b ob e
 obtain⟨g1,g2,g3,at1,g4,g5⟩:=XK.attr k d b hs a ha
 obtain⟨_,m0,_,_⟩:=XK.sub k d b hs
 obtain⟨od,d1,d2⟩:=uW ns (c.nm a)
 rw[hy] at d2
 have I:InstAt s.heap e oe (c.clA k) (some od):=⟨he,hc,by unfold notCls;rw[dv],by rw[hd];exact d1⟩
 have hf:=findObj_own g3 g4 g5 d2
 have L0:=I.type (M:=c.M)
 have L1:=looks_findIn (M:=c.M) X g1
 have L2:=looks_findIn (M:=c.M) X g2
 have L3:=looks_mroIn (M:=c.M) X m0
 have L4:=looks_find (M:=c.M) X I hf
 obtain⟨yN,g,dr,t,os⟩:=s
 have k0:∀b o,yN.get? b=some o->yN.get? b=some o:=λ_ _ h=>h
 unfold getAttr getAttrBy
 refine ah (wpAny_mkText (d9 (ah (L0.at (ah (L1.at ?_))))))
 have C0:(onTheHeap (Value.ref (c.clA k))&&Value.builtin "BaseException.__getattribute__" ==Value.builtin "object.__getattribute__")=false:=by
  rw[show(Value.builtin "BaseException.__getattribute__" ==Value.builtin "object.__getattribute__")=false from by decide+kernel];rfl
 dsimp only
 rw[C0,ax (by decide)]
 unfold getAttrByItsOwn hookBefore
 rw[aG (show onTheHeap (Value.ref (c.clA k))=true from rfl)]
 refine ah (L2.at ?_)
 refine ah (wpAny_attempt (d9 ?_))
 have hx0:(ex&&onTheHeap (Value.builtin "BaseException.__getattribute__"))=false:=by cases ex<;>rfl
 unfold callGetattribute boundAndCalled
 rw[hx0,ax (by decide)]
 refine ah (wpAny_of_eq (PySem.F.attr_Exception.ga.bind (.ref e)) ?_)
 refine wpAny_call (codeAny_call_builtin PySem.F.attr_Exception.ga.plain PySem.F.entry_bexc_ga ?_)
 have hk:builtinKind "BaseException.__getattribute__" =some .slot:=by decide+kernel
 have aaV:splitId "BaseException.__getattribute__" =some ("BaseException","__getattribute__"):=by decide+kernel
 have ab1:=PySem.F.args_bexc_ga (.ref e) (.str (c.nm a) t)
 have jz:∀{A':Around} {E':Value->Shared->Prop} {Q':Unit->Shared->Prop},Q' () ⟨yN,g,dr,t+1,os⟩->wpAny c.M A' (checkBuiltinCall "BaseException.__getattribute__" ⟨[.ref e,.str (c.nm a) t],[]⟩) Q' E' ⟨yN,g,dr,t+1,os⟩:=λq'=>by
  simp only[checkBuiltinCall,hk,aaV]
  refine ah ?_
  unfold isInstance
  refine ah (L0.at (L3.at ?_))
  repeat (first|wp_step)
  exact q'
 refine jz ?_
 refine ah (aS (ah (aS (ah (L0.at (ah (L4.at ?_)))))))
 refine aS ?_
 show wpAny _ _ (handedOut y) _ _ _
 rw[handedOut_of hh];exact aS (q _)
end
structure K6(c:Cx)(X:Addr->Prop)(μ:Mu)(lo:Heap)(k:Nat)(m v:V)(e:Addr)(h:Heap):Prop where
 ex:cD c X μ lo k m v e h
 nw:∃oe vs,h.get? e=some oe/\oe.data=.fields vs/\vs[1]?=some .none
def Ew(c:Cx):Prop:=∀k,c.T.sub k k=some true->∀n X A env fr μ σ s (m v:V) x y (Q:Value->Shared->Prop) E,aJ c n A env fr->Ok c X A env fr μ σ s->ad c X μ s.heap m x->ad c X μ s.heap v y->
 (∀s' e,aK A env μ μ s s'->Ok c X A env fr μ σ s'->K6 c X μ s.heap k m v e s'.heap->Q (.ref e) s')->lG c A (.ref (c.clA k)) [x,y] Q E s
section
variable{c:Cx}{X X':Addr->Prop}{A A' B:Around}{env env' dz:Env}{fr cY mw:Fr}{μ mx ao a9 be gj av:Mu}{σ aM σ₂ eP ba:Sg}{s ll s₁ aB sb dS s':Shared}{E:Value->Shared->Prop}{n:Nat}{K:Frag}{ih:Ev}
theorem I8{α β:Type}{P:α->β->Prop}{a b:α}{l:List β}(x:ay P [a,b] l):∃x y,l=[x,y]/\P a x/\P b y:=by
 cases x with|cons h1 r=>cases r with|cons h2 r=>cases r with|nil=>exact⟨_,_,rfl,h1,h2⟩
theorem Z6{α β:Type}{D:Mu->Heap->α->β->Prop}{vs:List V}{f:V->V->R α}{Q:β->Shared->Prop}{G:Prop}(h:ac c X A env fr D μ s (two vs f) Q E)(k:∀v w,vs=[v,w]->ac c X A env fr D μ s (f v w) Q E->G):G:=by
 match vs,h with
 |[v,w],h=>exact k v w rfl h
 |[],h=>exact h.elim
 |[_],h=>exact h.elim
 |_::_::_::_,h=>exact h.elim
theorem Wc{m:Sem Value}{Q:Flow->Shared->Prop}(h:wpAny c.M A m (λv s=>wpAny c.M A (raiseStmt env (some (pure v)) none) Q E s) E s):wpAny c.M A (raiseStmt env (some m) none) Q E s:=
 ah (wpAny_mono h (λv s h=>h) λ_ _ e=>e)
theorem XF(G:bq c K)(XK:mQ c K){j:Nat}{b:Bool}(hs:c.T.sub j j=some b)(hh:A.handled=none){lo:Heap}(o:Ok c X A env fr μ σ s)(x:K6 c X μ lo j m v e s.heap){Q:Flow->Shared->Prop}(h:E (.ref e) s):
 wpAny c.M A (raiseStmt env (some (pure (.ref e))) none) Q E s:=
 x.ex.ex.elim λoe z=>z.elim λfs z=>z.elim λdx z=>z.elim λms z=>z.elim λtb z=>x.nw.elim λoe' y=>y.elim λvs' y=>by
 have hd:=Data.fields.inj (z.e4.symm.trans (bB y.1 z.e1▸y.2.1))
 have hn:=y.2.2
 subst hd
 have L3:=looks_mroIn (M:=c.M) (o.kin G) (XK.sub j j b hs).2.1
 have t1:=looks_typeIn (M:=c.M) (o.kin G) (XK.sub j j b hs).2.2.1
 have T1:∀(Q:Value->Shared->Prop),Q (.ref (c.clA j)) s->wpAny c.M A (typeOf (.ref e)) Q E s:=λQ q=>ah (wpAny_loadPart z.e1 (z.e2.symm▸aS q))
 have T2:∀(Q:Bool->Shared->Prop),Q false s->wpAny c.M A (isType (.ref e)) Q E s:=λQ q=>ah (wpAny_loadPart z.e1 (z.e4.symm▸aS q))
 unfold raiseStmt
 refine ah (aS (ah (aS (ah (d9 ?_)))))
 unfold excFromValue isExcClass
 refine ah (ah (T2 _ ?_))
 rw[ax (by decide)]
 refine aS ?_
 rw[ax (by decide)]
 unfold isInstance
 refine ah (ah (T1 _ (L3.here ?_)))
 rw[aG rfl]
 refine aS ?_
 dsimp only
 refine ah (T2 _ ?_)
 rw[ax (by decide)]
 unfold raisedInstance
 refine ah (ah (T1 _ (ah (t1.here ?_))))
 rw[aG (by rfl)]
 refine aS ?_
 unfold setFlight
 refine ah (ah (wpAny_field z.e1 z.e4 hn ?_))
 rw[ax (by decide)]
 exact aS (wpAny_raiseNew_none hh h)
theorem IF(G:bq c K)(XK:mQ c K)(MK:Ew c):xL c:=λn ih S X A env fr μ σ s k es pn pc p Q E eo o h=>
 bk h λw hg h=>bk h λj hj h=>bk h λb hs h=>bA h λhb h=>by
  subst hb
  show wpAny c.M A (exec (.Raise (some (.Call (.Name (c.nm k) (aE pn)) (bC c.nm es) [] (aE pc))) none (aE p)) env) Q E s
  rw[arm_exec_Raise]
  refine ah (gf ?_)
  refine Wc (ah (Call_ (Hw G eo o hg λy ry=>?_) rfl))
  have ry:=(Cv hj▸ry:ad c X μ s.heap (.cls j) y)
  subst ry
  refine sY S eo o (ac.bind (D':=DL c X) h λvs aM ao ys s₁ n₁ aC bj h₁=>⟨keeps_K (XK.keep j j true hs) _ (aC.kin G),Z6 h₁ λm v e h₁=>?_⟩)
  subst e
  refine(I8 bj).elim λx q=>q.elim λy q=>?_
  rw[q.1]
  exact sT (MK j hs n X A env fr ao aM s₁ m v x y _ E eo aC q.2.1 q.2.2 λaB e bG bc lc=>ah (gf (aS (XF G XK hs eo.handled bc lc ((h₁) ao aB e bG bc lc.ex)))))
end
end
section
open PySem PySem.W
section
variable{prog:Program}{w:World}{A:Around}{R:Result->Shared->Prop}{E:Value->Shared->Prop}{h:Heap}{g:Array GenState}{d:Drawn}{t:Nat}{os:OsState}
variable{nm q:Str}{C N:Addr}{bs bm Dp:List Value}{hdct:Bool}{sn:List Str}{sub:List Value}{ab:Bool}{col:Option Bool}{dd:Option Addr}{k0 k1 k2 k3 k5:Option Value}{B newId initId:String}
theorem NK(F:ExcBaseFacts B newId initId Dp)(c1:bm.contains (.type B)=true){Q:Unit->Shared->Prop}(hC:h.get? C=some (excClassObj nm q C N bs bm hdct sn sub ab col dd k0 k1 k2 k3 k5 newId))
 (hq:Q () ⟨h,g,d,t,os⟩):wpAny M A (checkBuiltinCall newId ⟨.ref C::rest,[]⟩) Q E ⟨h,g,d,t,os⟩:=by
 have aaW:(Value.ref C::bm).contains (.type B)=true:=by rw[List.contains_cons,c1,Bool.or_true]
 have ab2:=F.noStar
 simp only[checkBuiltinCall,F.newKind,F.newSplit,F.newRow]
 repeat (first|refine wpAny_loadPart_at hC ?_|(refine wpAny_isSubtype_exc hC ?_;rw[aaW])|refine wpAny_staticBase_exc hC ?_|refine wpAny_madeBy_exc hC ?_|simp only[bne_self_eq_false,Bool.false_eq_true,if_false]|wp_step)
 exact hq
theorem YG(F:ExcBaseFacts B newId initId Dp)(c1:bm.contains (.type B)=true)(c2:bm.contains (.type "AttributeError")=false)(c3:bm.contains (.type "NameError")=false)(hC:h.get? C=some (excClassObj nm q C N bs bm hdct sn sub ab col dd k0 k1 k2 k3 k5 newId))
 (hq:R (.ok (.ret (.ref (h.objs.size+1)))) ⟨(h.push {cls:=.type "tuple",data:=.seq rest.toArray}).push
  {cls:=.ref C,data:=.fields #[.ref h.objs.size,.none,.none,.none,.bool false,.none]},g,d,t,os⟩)(Nb:rest.length<=sizeLine:=by size_fits):
 codeAny (model prog w) A (.builtin newId ⟨.ref C::rest,[]⟩) R ⟨h,g,d,t,os⟩:=by
 have ab3:=F.ends
 have hcB:(Value.ref C::bm).contains (.type B)=true:=by rw[List.contains_cons,c1,Bool.or_true]
 have hcA:(Value.ref C::bm).contains (.type "AttributeError")=false:=by rw[List.contains_cons,c2];rfl
 have hcN:(Value.ref C::bm).contains (.type "NameError")=false:=by rw[List.contains_cons,c3];rfl
 refine codeAny_builtinAt F.entry ?_
 unfold Builtin.«BaseException.__new__»
 refine wpAt_bind ?_
 refine wpAt_bind (wpAt_stack λp below=>wpAt_of_wpAny ?_)
 wp_walk
 refine wpAt_of_wpAny ?_
 rw[F.owner]
 repeat (first|with_reducible refine wpAny_madeHere_exc F.canon hC ?_|with_reducible refine wpAny_loadPart_at hC ?_|(with_reducible refine wpAny_isSubtype_exc hC ?_;first|rw[hcB]|rw[hcA]|rw[hcN])|wp_step)
 rw[Heap.size_push]
 exact hq
theorem O6(F:ExcBaseFacts B newId initId Dp)(c1:bm.contains (.type B)=true)(c2:bm.contains (.type "AttributeError")=false)(c3:bm.contains (.type "NameError")=false)(hC:h.get? C=some (excClassObj nm q C N bs bm hdct sn sub ab col dd k0 k1 k2 k3 k5 newId))
 (hi:Looks (model prog w) h (typeLookup (.ref C) "__init__") (some (.ref fI)))(hb:∀self,Looks (model prog w) h (bindSpecial (.ref fI) self) (.ref fI,[self]))
 (hq:codeAny (model prog w) (A.under (.builtin "type.__call__" ⟨.ref C::rest,[]⟩)) (.call (.ref fI) ⟨.ref (h.objs.size+1)::rest,[]⟩) (InitBack (h.objs.size+1) R)
  ⟨(h.push {cls:=.type "tuple",data:=.seq rest.toArray}).push {cls:=.ref C,data:=.fields #[.ref h.objs.size,.none,.none,.none,.bool false,.none]},g,d,t,os⟩)(Nb:rest.length<=sizeLine:=by size_fits):
 codeAny (model prog w) A (.call (.ref C) ⟨rest,[]⟩) R ⟨h,g,d,t,os⟩:=by
 have f1:=tc_lookup
 have f2:=PySem.tc_bind (.ref C)
 have hT:(⟨h,g,d,t,os⟩:Shared).TypeIs (.ref C) "type" :=⟨_,hC,rfl⟩
 refine codeAny_of_tree ?_
 repeat (any_goals (first|assumption|with_reducible refine wpAny_loadPart_at hC ?_|wp_step))
 refine⟨rfl,?_⟩
 refine codeAny_call_builtin_at (Code.quiet_builtin _ (by decide+kernel)) entry_typeCall (wpAny_check_type_call_sub hC ?_)
 repeat (first|with_reducible refine wpAny_loadPart_at hC ?_|with_reducible refine wpAny_madeBy_exc hC ?_|wp_step)
 refine codeAny_call_builtin_code (Code.quiet_builtin _ F.quiet) (NK F c1 hC ?_)
 refine YG F c1 c2 c3 hC ?_ Nb
 have aa0:=d6 {cls:=.ref C,data:=.fields #[.ref h.objs.size,.none,.none,.none,.bool false,.none]}
  (d6 {cls:=.type "tuple",data:=.seq rest.toArray} hC)
 have aj:((h.push {cls:=.type "tuple",data:=.seq rest.toArray}).push
  {cls:=.ref C,data:=.fields #[.ref h.objs.size,.none,.none,.none,.bool false,.none]}).get? (h.objs.size+1)=some
  {cls:=.ref C,data:=.fields #[.ref h.objs.size,.none,.none,.none,.bool false,.none]}:=by heap_get
 have hcC:(Value.ref C::bm).contains (.ref C)=true:=by simp
 have k:∀b o,h.get? b=some o->((h.push {cls:=.type "tuple",data:=.seq rest.toArray}).push {cls:=.ref C,data:=.fields #[.ref h.objs.size,.none,.none,.none,.bool false,.none]}).get? b=some o:=λb o e=>d6 _ (d6 _ e)
 have i1:=hi.keeps k
 have b1:=(hb (.ref (h.objs.size+1))).keeps k
 have t1:Looks (model prog w) ((h.push {cls:=.type "tuple",data:=.seq rest.toArray}).push {cls:=.ref C,data:=.fields #[.ref h.objs.size,.none,.none,.none,.bool false,.none]}) (typeOf (.ref (h.objs.size+1))) (.ref C):=(Looks.ld aj).andThen .now
 unfold isInstance
 repeat (first|with_reducible refine wpAny_loadPart_at aj ?_|wp_step)
 refine wpAny_isSubtype_exc aa0 ?_
 rw[hcC]
 rw[ax (by decide)]
 unfold callSpecial? specialOf
 refine ah (d9 (ah (ah (t1.at (i1.at ?_)))))
 refine d9 (ah (b1.at (ah (wpAny_call ?_))))
 refine codeAny_mono hq λr s' z=>?_
 rcases r with e|(v|_|_|_)<;>first|exact z|exact z.elim|skip
 obtain⟨rfl,z⟩:=z
 exact aS (aS z)
end
end
section
open PySem PySem.W PyProof.Rows
section
variable{prog:Program}{w:World}{K:Frag}{A:Around}{E:Value->Shared->Prop}{s:Shared}{C e:Addr}{name:Str}{v:Value}{ob:Obj}{vs:Array Value}{Q:Unit->Shared->Prop}
def yZ:List Value->Bool
 |.ref _::r=>yZ r
 |[.type a,.type b,.type d]=>a== "Exception" &&b== "BaseException" &&d== "object"
 |_=>false
theorem Vq(self:Value):refuseLoop self "__setattr__" [.type "Exception",.type "BaseException",.type "object"]=pure ():=by kernel_rfl
theorem NH:yZ l=true->l.contains (.type "object")=true/\∀self,refuseLoop self "__setattr__" l=pure ():=by
 induction l with
 |nil=>exact λh=>ft h
 |cons x r ih=>
  cases x with
  |ref a=>exact λh=>⟨by rw[List.contains_cons,(ih h).1,Bool.or_true],λself=>(refuseLoop_ref self _ a r).trans ((ih h).2 self)⟩
  |type a=>
   intro h
   cases r with
   |nil=>exact ft h
   |cons b r=>cases b with
    |type b=>cases r with
     |nil=>exact ft h
     |cons d r=>cases d with
      |type d=>cases r with
       |nil=>
        have h:=Bool.and_eq_true_iff.mp h
        have h1:=Bool.and_eq_true_iff.mp h.1
        rw[beq_iff_eq.mp h1.1,beq_iff_eq.mp h1.2,beq_iff_eq.mp h.2]
        exact⟨by simp[List.contains_cons],Vq⟩
       |cons=>exact ft h
      |_=>exact ft h
    |_=>exact ft h
  |_=>exact λh=>ft h
def xo(K:Frag)(C:Addr):Bool:=(clsIn K C).any λcd=>yZ cd.mro
theorem LM{R:Result->Shared->Prop}(X:K.In s.heap)(I:InstAt s.heap x ox C od)(hp:xo K C=true)(ht:takerIn K C name=some none)
 (h:∀b,wpAny (model prog w) A.in1 (Builtin.ObjectAttr.storeInOwnDict (.ref x) (.ref C) (.str name tk) name v b)
  (λfm s'=>match fm with|.done f=>R (.ok f) s'|.again c'=>c'.quiet=true/\codeAny (model prog w) A c' R s') (λe s'=>R (.error e) s') s):
 codeAny (model prog w) A (.call (.builtin "object.__setattr__") ⟨[.ref x,.str name tk,v],[]⟩) R s:=by
 obtain⟨cd,hc,ho⟩:=any_some hp
 obtain⟨aa2,aa3⟩:=NH ho
 have ne:¬cd.mro.isEmpty=true:=λq=>by rw[List.isEmpty_iff.mp q] at ho;exact ft ho
 have over:mroIn K C (.type "object")=some true:=by unfold mroIn;rw[hc,Option.bind_some,ax ne,aa2]
 have F:=PySem.F.store_object
 refine codeAny_call_builtin F.slot.plain F.entry (@check_slot (model prog w) _ _ s "object.__setattr__" "object" "__setattr__" (.ref x) [.str name tk,v] [] _ F.kind F.split (I.type.andThen (looks_mroIn X over)) (F.args (.ref x) (.str name tk) v) ?_)
 obtain⟨attr,ha,hr⟩:=Option.bind_eq_some_iff.mp ht
 have taker:Looks (model prog w) s.heap (Builtin.ObjectAttr.storeTaker? attr) none:=by
  cases attr with
  |none=>exact .now
  |some a=>
   obtain⟨b,hb,nY⟩:=Option.map_eq_some_iff.mp hr
   cases b with
   |true=>exact sn nY
   |false=>exact(looks_takesIn X hb).andThen .now
 rw[osa_eq,refuse_eq]
 refine ah (ah (I.type.here (ah (((looks_clsIn X hc).andThen .now:Looks (model prog w) s.heap (mroOf (.ref C)) cd.mro).here ?_))))
 rw[aa3]
 exact aS (ah (I.type.here (ah ((looks_findIn X ha).here (ah (taker.here (h _)))))))
structure o9(K:Frag)(C:Addr)(name:Str):Prop where
 s:findIn K (.ref C) "__setattr__" =some (some (.builtin "object.__setattr__"))
 o:xo K C=true
 t:takerIn K C name=some none
 d:hasDictIn K C=true
theorem TV(X:K.In s.heap)(F:o9 K C name)(he:s.heap.get? e=some ob)(hc:ob.cls=.ref C)(hv:ob.data=.fields vs)(hd:ob.dict=none)
 (h:∀h' tk,h'.get? e=some {ob with dict:=some s.heap.objs.size}->h'.Ns1 s.heap.objs.size (λx=>if x=name then some v else none)->(∀b o,b≠e->s.heap.get? b=some o->h'.get? b=some o)->Q () {s with heap:=h',toks:=tk}):
 wpAny (model prog w) A (setAttr (.ref e) name v) Q E s:=by
 have I:InstAt s.heap e ob C none:=⟨he,hc,by unfold notCls;rw[hv],by rw[hd];trivial⟩
 obtain⟨cd,pY,kc⟩:=any_some F.d
 have k0:∀b o,s.heap.get? b=some o->s.heap.get? b=some o:=λ_ _ h=>h
 refine set_plain X I F.s (LM (s:={s with toks:=s.toks+1}) X I F.o F.t λb=>?_)
 refine ah (aS (ah ?_))
 show wpAny _ _ (instanceDict e true) _ _ _
 unfold instanceDict
 refine ah (wpAny_loadPart he ?_)
 rw[hc]
 refine ah (looks_clsIn X pY _ _ _ _ k0 ?_)
 rw[kc,hd,ax (by decide)]
 dsimp only
 rw[ax (λq=>by(first|with_reducible exact ns q|with_reducible exact sn q|with_reducible exact ft q|with_reducible exact tf q|(replace q:=af q;first|subst q|cases q)|cases q)),hv]
 dsimp only
 have Nc:=d6 (h:=s.heap) {cls:=.type "dict",data:=.dict #[]} he
 refine ah (wpAny_alloc ?_)
 have he2:=Heap.get?_update_self (λo=>{o with dict:=some s.heap.objs.size}) Nc (by unfold Obj.isFreed;rw[hv])
 refine ah (wpAny_update Nc ?_)
 refine ah (aS (aS ?_))
 dsimp only
 have iB:=Nat.ne_of_lt (Heap.lt_size he)
 have hD:((s.heap.push {cls:=.type "dict",data:=.dict #[]}).update e λo=>{o with dict:=some s.heap.objs.size}).get? s.heap.objs.size=some {cls:=.type "dict",data:=.dict #[]}:=
  (Heap.get?_update_other _ _ iB).trans (d7 _ rfl)
 have n0:((s.heap.push {cls:=.type "dict",data:=.dict #[]}).update e λo=>{o with dict:=some s.heap.objs.size}).Ns1 s.heap.objs.size λ_=>none:=
  Heap.Ns1.of_empty ⟨_,_,_,hD,rfl,(λe he=>by simp at he),λ_=>rfl⟩
 refine ah (aS (ah (wpAny_nsSet1 n0 λh' bI sb=>?_)))
 obtain⟨oe,es,ep,e1,dd,hs⟩:=BO (l:=[name]) bI λnn w hw=>by
  by_cases q:nn=name
  · exact q▸.head _
  · (first|with_reducible exact cg hw (ax q)|with_reducible exact cg (ax q) hw|(replace hw:=bB (ax q) hw;first|subst hw|cases hw)|(rw[ax q] at hw;(first|with_reducible exact ns hw|with_reducible exact sn hw|with_reducible exact ft hw|with_reducible exact tf hw|(replace hw:=af hw;first|subst hw|cases hw)))|cases hw)
 refine ah (wpAny_lookBehind e1 (by rw[dd];exact pastItsLine_dict (by rw[sizeLine_eq];exact eX hs (show 1<=16777216+1 by decide))) (aS ?_))
 refine h h' _ ((sb.2 e iB).trans he2) bI λb o nb eb=>?_
 have lb:=Heap.lt_size eb
 exact(sb.2 b (Nat.ne_of_lt lb)).trans ((Heap.get?_update_other _ _ nb.symm).trans (d6 _ eb))
theorem QP(X:K.In s.heap)(F:o9 K C name)(he:s.heap.get? e=some ob)(hc:ob.cls=.ref C)(hv:ob.data=.fields vs)(hd:ob.dict=some D)(hn:s.heap.Ns1 D m){l:List Str}(hl:∀n y,m n=some y->n∈l)(hlen:l.length<=100)
 (h:∀h' tk,h'.Ns1 D (λx=>if x=name then some v else m x)->Heap.SameBut D s.heap h'->Q () {s with heap:=h',toks:=tk}):
 wpAny (model prog w) A (setAttr (.ref e) name v) Q E s:=by
 obtain⟨od,d1,_⟩:=uW hn.ns name
 have I:InstAt s.heap e ob C (some od):=⟨he,hc,by unfold notCls;rw[hv],by rw[hd];exact d1⟩
 obtain⟨cd,pY,kc⟩:=any_some F.d
 have k0:∀b o,s.heap.get? b=some o->s.heap.get? b=some o:=λ_ _ h=>h
 refine set_plain X I F.s (LM (s:={s with toks:=s.toks+1}) X I F.o F.t λb=>?_)
 refine ah (aS (ah ?_))
 show wpAny _ _ (instanceDict e true) _ _ _
 unfold instanceDict
 refine ah (wpAny_loadPart he ?_)
 rw[hc]
 refine ah (looks_clsIn X pY _ _ _ _ k0 ?_)
 rw[kc,hd,ax (by decide)]
 dsimp only
 refine aS ?_
 refine ah (aS (ah (wpAny_nsSet1 hn λh' bI sb=>?_)))
 obtain⟨oe,es,ep,e1,dd,hs⟩:=BO (l:=name::l) bI λnn w hw=>by
  by_cases q:nn=name
  · exact q▸.head _
  · rw[ax q] at hw;exact .tail _ (hl nn w hw)
 refine ah (wpAny_lookBehind e1 (by rw[dd];exact pastItsLine_dict (by rw[sizeLine_eq];rw[List.length_cons] at hs;omega)) (aS ?_))
 exact h h' _ bI sb
end
theorem Pl{E:Value->Shared->Prop}{K:Frag}{Q:Value×List Value->Shared->Prop}(X:K.In s.heap)(ht:typeOf (.type T)=pure (.type "type"))(hs:Manifest.isStub T=false)
 (e:findCls K (.type T) (.type "type") name=some (.val v))(hh:handedIn v=true)(h:Q (v,[]) {s with toks:=s.toks+1}):wpAny (model prog w) A (getMethod (.type T) name pl) Q E s:=by
 have aa5:opaqueClassAbove (.type T)=pure none:=by unfold opaqueClassAbove;dsimp only;rw[hs];rfl
 have L0:Looks (model prog w) s.heap (typeOf (.type T)) (.type "type"):=Looks.of_pure ht
 have hg:findIn K (.type "type") "__getattribute__" =some (some (.builtin "type.__getattribute__")):=type_tga
 unfold getMethod specialOf
 refine ah (ah (L0.here ((looks_findIn X hg).here ?_)))
 dsimp only
 rw[aG canon_tga]
 refine ah (wpAny_mono (Q:=λv=>Q (v,[])) (E:=E) ?_ (λ_ _ z=>aS z) λ_ _ z=>z)
 have LO:Looks (model prog w) s.heap (opaqueClassAbove (.type T)) none:=Looks.of_pure aa5
 refine cls_open X LO L0 hg (looks_hook X (r:=none) (by rfl)) (by rfl) e
  (aS (by show wpAny _ _ (handedOut v) _ _ _;rw[handedOut_of hh];exact aS h))
theorem OS:findCls [] (.type "Exception") (.type "type") "__init__" =some (.val (.builtin "Exception.__init__")):=by kernel_rfl
theorem S7:typeOf (.type "Exception")=pure (.type "type"):=by kernel_rfl
section
variable{prog:Program}{w:World}{A:Around}{E:Value->Shared->Prop}{s:Shared}{K:Frag}{C e:Addr}{x:Value}{t0:Addr}{Q:Value->Shared->Prop}
theorem NJ(hC:s.heap.get? C=some oc)(dC:oc.data=.cls cd)(X:K.In s.heap)(hb:mroIn K C (.type "Exception")=some true)(he:s.heap.get? e=some {cls:=.ref C,data:=.fields #[.ref t0,.none,.none,.none,.bool false,.none]})
 (h:∀h',h'.get? e=some {cls:=.ref C,data:=.fields #[.ref s.heap.objs.size,.none,.none,.none,.bool false,.none]}->(∀b o,b≠e->s.heap.get? b=some o->h'.get? b=some o)->Q .none {s with heap:=h'}):
 wpAny (model prog w) A (PySem.call (.builtin "Exception.__init__") [.ref e,x]) Q E s:=by
 have F:=PySem.F.excBase_Exception
 have T1:Looks (model prog w) s.heap (typeOf (.ref e)) (.ref C):=(Looks.ld he).andThen .now
 have L1:=looks_mroIn (M:=model prog w) X hb
 have hlt:=Heap.lt_size he
 have jz:∀{A':Around} {E':Value->Shared->Prop} {Q':Unit->Shared->Prop},Q' () s->wpAny (model prog w) A' (checkBuiltinCall "Exception.__init__" ⟨[.ref e,x],[]⟩) Q' E' s:=λq'=>by
  simp only[checkBuiltinCall,F.initKind,F.initSplit,F.initRow]
  unfold isInstance
  refine ah (ah (T1.here (L1.here ?_)))
  rw[ax (by decide)]
  have ab4:=F.noStar
  obtain⟨hp,g,d,tk,os⟩:=s
  repeat (first|(with_reducible refine wpAny_load (s:=⟨hp,g,d,tk,os⟩) hC ?_;rw[dC])|wp_step)
  exact q'
 refine wpAny_call (codeAny_call_builtin F.init.plain F.initEntry (jz ?_))
 unfold Builtin.«BaseException.__init__»
 dsimp only
 rw[ax (by simp)]
 unfold newTuple Builtin.BaseException.bexcPut
 have rM:=d6 (h:=s.heap) {cls:=.type "tuple",data:=.seq [x].toArray} he
 refine ah (wpAny_newObj_type (ah (ah (wpAny_field rM rfl (x:=.ref t0) rfl (ah (wpAny_setField rM rfl (Nat.succ_pos _) ?_))))) (by size_fits))
 refine wpAny_letGo (aS ?_)
 have e1:((s.heap.push {cls:=.type "tuple",data:=.seq [x].toArray}).update e (Obj.mapFields (·.setIfInBounds 0 (.ref s.heap.objs.size)))).get? e=some {cls:=.ref C,data:=.fields #[.ref s.heap.objs.size,.none,.none,.none,.bool false,.none]}:=by
  rw[Heap.get?_update_self _ rM rfl];rfl
 refine h _ e1 λb o nb eb=>?_
 exact(Heap.get?_update_other _ _ nb.symm).trans (d6 _ eb)
end
noncomputable def Jy(sl xE aI:Nat)(p:Nat->Nat):List S:=
 [.expr (.call (.attr (.name xE (p 0)) aI (p 1)) [.name sl (p 2),.name 0 (p 3)] (p 4)) (p 5),.assign (.attr (.name sl (p 6)) 0 (p 7)) (.name 0 (p 8)) (p 9),.assign (.attr (.name sl (p 10)) 1 (p 11)) (.name 1 (p 12)) (p 13)]
section
variable{c:Cx}{K:Frag}{A:Around}{E:Value->Shared->Prop}{s:Shared}{env:Env}{e C:Addr}{x y:Value}{mL:Str->Option Value}{sl xE aI:Nat}
structure r9(c:Cx)(env:Env)(sl xE aI:Nat):Prop where
 kf:env.scope.kind=.function
 ks:env.kindOf (c.nm sl)=some .local
 k0:env.kindOf (c.nm 0)=some .local
 k1:env.kindOf (c.nm 1)=some .local
 kE:env.kindOf (c.nm xE)=some .globalImplicit
 gl:env.globals=mainGlobals
 bi:env.builtins=builtinsNs
 gE:∃mg mb,c.base.Ns mainGlobals mg/\c.base.Ns builtinsNs mb/\mg (c.nm xE)=none/\mb (c.nm xE)=some (.type "Exception")
 nI:c.nm aI= "__init__"
theorem xB(G:bq c K)(F:r9 c env sl xE aI)(hk:env.kindOf (c.nm a)=some .local)(hn:s.heap.Ns env.locals mL)(hv:mL (c.nm a)=some v){Q:Value->Shared->Prop}(q:Q v s):wpAny c.M A (eval (.Name (c.nm a) (aE p)) env) Q E s:=
 wpAny_Name (wpAny_loadName_local F.kf hk hn hv q) (G.nodebug a)
theorem OL:Manifest.isStub "Exception" =false:=by decide+kernel
theorem XB:handedIn (.builtin "Exception.__init__")=true:=by decide+kernel
theorem Qb(h:Heap):Frag.In [] h:=λa o q=>nomatch q
theorem Om{Q:Value×List Value->Shared->Prop}(h:Q (.builtin "Exception.__init__",[]) {s with toks:=s.toks+1}):wpAny c.M A (getMethod (.type "Exception") "__init__" pl) Q E s:=
 Pl (K:=[]) (T:= "Exception") (name:= "__init__") (v:=.builtin "Exception.__init__") (Qb _) S7 OL OS XB h
theorem QA(G:bq c K)(F:r9 c env sl xE aI)(hl:Nat.beq (aE p1).endLine (aE p4).line=true)(stays:c.base.StaysIn s.heap)(hn:s.heap.Ns env.locals mL)(h1:mL (c.nm sl)=some (.ref e))(h2:mL (c.nm 0)=some x){Q:Flow->Shared->Prop}
 (h:wpAny c.M A (PySem.call (.builtin "Exception.__init__") [.ref e,x]) (λ_ s'=>Q .next s') E {s with toks:=s.toks+1}):
 wpAny c.M A (exec (cT c.nm (.expr (.call (.attr (.name xE p0) aI p1) [.name sl p2,.name 0 p3] p4) p5)) env) Q E s:=by
 obtain⟨mg,mb,g1,g2,g3,g4⟩:=F.gE
 have g1:=g1.keeps stays
 have g2:=g2.keeps stays
 refine wpAny_Expr_any ?_ (by unfold interactive;rw[F.kf];rfl) rfl
 show wpAny c.M A (do
  let ov ← attributeBase (.Name (c.nm xE) (aE p0)) (c.nm aI) env (eval (.Name (c.nm xE) (aE p0)) env)
  standAt (aE p1).atName
  methodCall (.Name (c.nm xE) (aE p0)) (c.nm aI) (aE p1) (aE p4) env ov 2 (backTo (aE p4) (starEach [.Name (c.nm sl) (aE p2),.Name (c.nm 0) (aE p3)] env)) (backToKw (aE p4) (keywordEach [] env))) _ E s
 have base:∀whole,attributeBase (.Name (c.nm xE) (aE p0)) (c.nm aI) env whole=whole:=λ_=>rfl
 rw[base]
 refine ah (Calls.Name_function_global F.kf F.kE (Calls.loadGlobal_builtin (F.gl▸g1) g3 (F.bi▸g2) g4 ?_) (G.nodebug xE))
 refine ah (gf ?_)
 unfold methodCall
 have C4:methodCallForm 2 (backTo (aE p4) (starEach [.Name (c.nm sl) (aE p2),.Name (c.nm 0) (aE p3)] env)) (backToKw (aE p4) (keywordEach [] env))=true:=rfl
 have C5:methodCallPos true (.Name (c.nm xE) (aE p0)) env (aE p1) (aE p4)=pure (aE p4):=by
  unfold methodCallPos
  have:=beq_iff_eq.mpr (bx.mp hl)
  simp[this]
 rw[C4,F.nI]
 refine ah (d9 (Om ?_))
 refine ah (wpAny_of_eq C5 ?_)
 refine callWith_of (P:=λ_=>True) rfl (λ_ _=>⟨.machine,.inr (.inl rfl),.now⟩) ?_
 refine Calls.evalArgs_plain ?_
 have nZ:({s with toks:=s.toks+1}:Shared).heap.Ns env.locals mL:=hn
 refine Calls.spliced_cons (xB G F F.ks nZ h1 (Calls.spliced_cons (xB G F F.k0 nZ h2 (Calls.spliced_nil ⟨trivial,?_⟩))))
 exact h
theorem EX(G:bq c K)(F:r9 c env sl xE aI)(ha:env.kindOf (c.nm a)=some .local)(hn:s.heap.Ns env.locals mL)(h1:mL (c.nm sl)=some (.ref e))(h2:mL (c.nm a)=some x){Q:Flow->Shared->Prop}
 (h:wpAny c.M A (setAttr (.ref e) (c.nm a) x) (λ_ s'=>Q .next s') E s):
 wpAny c.M A (exec (cT c.nm (.assign (.attr (.name sl p6) a p7) (.name a p8) p9)) env) Q E s:=by
 refine wpAny_Assign_stores (xB G F ha hn h2 ?_) rfl rfl
 show wpAny c.M A (PySem.assign (.Attribute (.Name (c.nm sl) (aE p6)) (c.nm a) (aE p7)) env x) _ E s
 rw[arm_assign_Attribute]
 refine ah (d9 (xB G F F.ks hn h1 ?_))
 exact ah (gf (ah (d9 (wpAny_mono h (λ_ _ q=>wpAny_release q) λ_ _ z=>z))))
end
section
variable{c:Cx}{K:Frag}{A:Around}{E:Value->Shared->Prop}{s:Shared}{env:Env}{e C:Addr}{x y:Value}{mL:Str->Option Value}{sl xE aI:Nat}
theorem ur{h:Heap}(eb:h.get? e=none):∀b o,h.get? b=some o->b≠e:=λb o q w=>cg q (w▸eb)
theorem tW{h h':Heap}(k:∀o,h.get? e=some o->∃o',h'.get? e=some o')(q:h'.get? e=none):h.get? e=none:=Option.eq_none_iff_forall_ne_some.mpr λo z=>(k o z).elim λo' w=>cg w q
structure Ey(C e:Addr)(x y:Value)(n0 n1:Str)(h h':Heap)(D t1:Addr)(m:Str->Option Value):Prop where
 q1:h'.get? e=some {cls:=.ref C,dict:=some D,data:=.fields #[.ref t1,.none,.none,.none,.bool false,.none]}
 q2:h'.Ns D m
 q3:m n0=some x
 q4:m n1=some y
 q5:h.get? D=none
 q6:∀b o,b≠e->h.get? b=some o->h'.get? b=some o
theorem Rp(G:bq c K)(F:r9 c env sl xE aI){p:Nat->Nat}(hl:Nat.beq (aE (p 1)).endLine (aE (p 4)).line=true)(hC:c.base.get? C=some oc)(dC:oc.data=.cls cd)(hb:mroIn K C (.type "Exception")=some true)(F0:o9 K C (c.nm 0))(F1:o9 K C (c.nm 1))
 (stays:c.base.StaysIn s.heap)(hn:s.heap.Ns env.locals mL)(h1:mL (c.nm sl)=some (.ref e))(h2:mL (c.nm 0)=some x)(h3:mL (c.nm 1)=some y)(he:s.heap.get? e=some {cls:=.ref C,data:=.fields #[.ref t0,.none,.none,.none,.bool false,.none]})
 (eL:env.locals≠e)(eb:c.base.get? e=none){Q:Flow->Shared->Prop}
 (h:∀h' tk D t1 m,Ey C e x y (c.nm 0) (c.nm 1) s.heap h' D t1 m->Q .next {s with heap:=h',toks:=tk}):
 wpAny c.M A (PySem.execs (cU c.nm (Jy sl xE aI p)) env) Q E s:=by
 have nb:=ur eb
 refine wpAny_execs_cons (QA G F hl stays hn h1 h2 (NJ (s:={s with toks:=s.toks+1}) (stays _ _ hC) dC (G.kin.keeps λb ob e=>stays b ob e) hb he λha e1 k1=>?_))
 have s1:=λb o q=>k1 b o (nb b o q) (stays b o q)
 have nZ:=hn.at' λo q=>k1 _ o eL q
 refine wpAny_execs_cons (EX (a:=0) G F F.k0 (s:={s with heap:=ha,toks:=s.toks+1}) nZ h1 h2 (TV (s:={s with heap:=ha,toks:=s.toks+1}) (G.kin.keeps λb ob e=>s1 b ob e) F0 e1 rfl rfl rfl λNd so e2 n2 k2=>?_))
 have hn2:=nZ.at' λo q=>k2 _ o eL q
 refine wpAny_execs_cons (EX (a:=1) G F F.k1 (s:={s with heap:=Nd,toks:=so}) hn2 h1 h3 (QP (s:={s with heap:=Nd,toks:=so}) (G.kin.keeps λb ob e=>k2 b ob (nb b ob e) (s1 b ob e)) F1 e2 rfl rfl rfl n2 (l:=[c.nm 0]) (λn y hy=>?_) (show 1<=100 by decide) λhc kW n3 sb=>?_))
 · by_cases q:n=c.nm 0
   · exact q▸.head _
   · exact cg hy (ax q)
 have iB:=Nat.ne_of_lt (Heap.lt_size e1)
 have hD:=tW (λo q=>⟨o,k1 _ o iB.symm q⟩) (dk ha)
 exact wpAny_execs_nil (h hc kW ha.objs.size _ _ ⟨(sb.2 e iB).trans e2,n3.ns,(ax λq=>aV (G.inj 0 1 q) (by decide)).trans (aG rfl),aG rfl,hD,λb o ne q=>(sb.2 b (ur hD b o q)).trans (k2 b o ne (k1 b o ne q))⟩)
theorem Bj{r:List (Str×Value)}:List.lookup k ((k,v)::r)=some v:=by rw[fy,beq_self_eq_true]
theorem za{r:List (Str×Value)}(h:k≠j):List.lookup k ((j,v)::r)=List.lookup k r:=by rw[fy,beq_false_of_ne h]
structure E4 where
 ini:Nat
 f:Fn
 sl:Nat
 xE:Nat
 aI:Nat
 p:Nat->Nat
 nm:Str
 q:Str
 N:Addr
 bs:List Value
 bm:List Value
 hdct:Bool
 sn:List Str
 sub:List Value
 ab:Bool
 col:Option Bool
 dd:Option Addr
 k0:Option Value
 k1:Option Value
 k2:Option Value
 k3:Option Value
 k5:Option Value
structure G0(c:Cx)(K:Frag)(k:Nat)(D:E4):Prop where
 hC:c.base.get? (c.clA k)=some (excClassObj D.nm D.q (c.clA k) D.N D.bs D.bm D.hdct D.sn D.sub D.ab D.col D.dd D.k0 D.k1 D.k2 D.k3 D.k5 "Exception.__new__")
 c1:D.bm.contains (.type "Exception")=true
 c2:D.bm.contains (.type "AttributeError")=false
 c3:D.bm.contains (.type "NameError")=false
 hi:findIn K (.ref (c.clA k)) "__init__" =some (some (.ref (c.fnA D.ini)))
 ht:typeIn K (.ref (c.fnA D.ini))=some (.type "function")
 hf:c.T.fns D.ini=some D.f
 hps:D.f.ps=[D.sl,0,1]
 hbody:D.f.body=Jy D.sl D.xE D.aI D.p
 hcs:D.f.cs=[]
 a0:au D.f.sc D.sl=some 0
 a1:au D.f.sc 0=some 0
 a2:au D.f.sc 1=some 0
 a3:au D.f.sc D.xE=some 3
 hl:Nat.beq (aE (D.p 1)).endLine (aE (D.p 4)).line=true
 F0:o9 K (c.clA k) (c.nm 0)
 F1:o9 K (c.clA k) (c.nm 1)
 hb:mroIn K (c.clA k) (.type "Exception")=some true
 gE:∃mg mb,c.base.Ns mainGlobals mg/\c.base.Ns builtinsNs mb/\mg (c.nm D.xE)=none/\mb (c.nm D.xE)=some (.type "Exception")
 nI:c.nm D.aI= "__init__"
def wj(c:Cx)(K:Frag)(k:Nat):Prop:=∃D,G0 c K k D
theorem TE(G:bq c K){X:Addr->Prop}{k:Nat}(M:G0 c K k D)
 (stays:c.base.StaysIn s.heap)(xb:∀b,X b->c.base.get? b=none)(dep:A.depth<1000){t0:Addr}(he:s.heap.get? e=some {cls:=.ref (c.clA k),data:=.fields #[.ref t0,.none,.none,.none,.bool false,.none]})(eb:c.base.get? e=none){R:Result->Shared->Prop}
 (h:∀h' tk D1 t1 m,Ey (c.clA k) e x y (c.nm 0) (c.nm 1) s.heap h' D1 t1 m->R (.ok (.ret .none)) {s with heap:=h',toks:=tk}):
 codeAny c.M A (.call (.ref (c.fnA D.ini)) ⟨[.ref e,x,y],[]⟩) R s:=
 have FO:=G.fn D.ini D.f M.hf
 FO.ex.elim λob z=>z.elim λfd z=>z.elim λargs z=>z.elim λj9 z=>z.elim λod z=>by
 have hA:args.map (·.arg)=[c.nm D.sl,c.nm 0,c.nm 1]:=z.f13.trans (aq (List.map c.nm) M.hps)
 have Dq:=M.hps▸FO.nd
 have d1:D.sl≠0:=λq=>(List.nodup_cons.mp Dq).1 (q▸.head _)
 have d2:D.sl≠1:=λq=>(List.nodup_cons.mp Dq).1 (q▸.tail _ (.head _))
 have n1:=λq=>d1 (G.inj _ _ q)
 have n2:=λq=>d2 (G.inj _ _ q)
 have n3:c.nm 0≠c.nm 1:=λq=>aV (G.inj 0 1 q) (by decide)
 have nd:=DY G.inj Dq
 have hlen:(od.getD #[]).toList.length+(3-(od.getD #[]).toList.length)=3:=Nat.add_sub_cancel' (((z.f15 X [] _ xb λ_ _ e=>e).length▸eX FO.le (Nat.le_of_eq (aq List.length M.hps))))
 refine codeAny_call_function dep (stays _ _ z.f1) z.f2 z.f7 z.f6 z.f3 (CodeRec.stays z.f11 stays) (x0 z.f12 hA rfl (λQ q=>z.f14 _ _ _ _ Q stays q) nd hlen (Nat.sub_le _ _) (Nat.le_refl 3) ?_)
 have aa7:[c.nm D.sl,c.nm 0,c.nm 1].zip ([.ref e,x,y]++(od.getD #[]).toList.drop ([Value.ref e,x,y].length-(3-(od.getD #[]).toList.length)))=[(c.nm D.sl,.ref e),(c.nm 0,x),(c.nm 1,y)]:=rfl
 rw[aa7,z.f10,z.f8,z.f9]
 have hk:∀z' j,au D.f.sc z'=some j->fd.scope.names.lookup (c.nm z')=some (kd j):=λz' j hz=>by rw[z.f4,wq G.inj,hz];rfl
 refine wpAny_newFunctionEnv (λz' hz e=>?_) (λz' hz=>?_) (λh2 hn Nf=>?_) z.f5
 · rw[z.f4] at hz
   exact(List.mem_map.mp hz).elim λw hw=>
    have m:=List.mem_map.mpr ⟨w,List.mem_filter.mpr ⟨hw.1,(yf w.2).symm.trans (beq_iff_eq.mpr ((aq Prod.snd hw.2).trans e))⟩,rfl⟩
    aV ((M.hcs.symm.trans FO.cs).symm▸m:w.1∈([]:List Nat)) (λh=>nomatch h)
 · exact(List.mem_cons.mp hz).elim (λq=>q▸hk D.sl 0 M.a0) λhz=>(List.mem_cons.mp hz).elim (λq=>q▸hk 0 0 M.a1) λhz=>(List.mem_singleton.mp hz)▸hk 1 0 M.a2
 dsimp only at hn Nf ⊢
 have yO:∀b o',s.heap.get? b=some o'->h2.get? b=some o':=λb o' e=>(Nf.2 b (Nat.ne_of_lt (Heap.lt_size e))).trans (d6 _ e)
 have qr:=λb o' e=>yO b o' (stays b o' e)
 refine⟨NoLimit.stays G.nolim qr,codeAny_func ?_⟩
 rw[M.hbody]
 have F:r9 c (newEnv fd.scope s.heap.objs.size mainGlobals [] (fd.qualname++ ".<locals>.") (some (c.fnA D.ini)) fd.code none builtinsNs) D.sl D.xE D.aI:=⟨z.f5,hk D.sl 0 M.a0,hk 0 0 M.a1,hk 1 0 M.a2,hk D.xE 3 M.a3,rfl,rfl,M.gE,M.nI⟩
 refine Rp (x:=x) (y:=y) G F M.hl M.hC rfl M.hb M.F0 M.F1 (s:={heap:=h2,gens:=s.gens,drawn:=s.drawn,toks:=_,os:=s.os}) qr hn ((za n2).trans ((za n1).trans Bj)) ((za n3).trans Bj) Bj (yO _ _ he) (Nat.ne_of_gt (Heap.lt_size he)) eb λh3 tk D1 t1 mm w=>?_
 exact h h3 tk D1 t1 mm ⟨w.q1,w.q2,w.q3,w.q4,tW (λo q=>⟨o,yO _ o q⟩) w.q5,λb o ne q=>w.q6 b o ne (yO b o q)⟩
theorem F5(G:bq c K)(XK:mQ c K)(MK:∀k,c.T.sub k k=some true->wj c K k):Ew c:=λk hs n X A env fr μ σ s m v x y Q E eo o rm rv hQ=>
 (MK k hs).elim λD0 M=>by
 have st:=o.stays
 have X0:=o.kin G
 obtain⟨hh,g,d,t,os⟩:=s
 refine O6 PySem.F.excBase_Exception M.c1 M.c2 M.c3 (st _ _ M.hC) (looks_findIn X0 M.hi) (λself=>bind_fn X0 self M.ht) ?_
 have kp:∀b o',hh.get? b=some o'->((hh.push {cls:=.type "tuple",data:=.seq [x,y].toArray}).push {cls:=.ref (c.clA k),data:=.fields #[.ref hh.objs.size,.none,.none,.none,.bool false,.none]}).get? b=some o':=λb o' e=>d6 _ (d6 _ e)
 have he:((hh.push {cls:=.type "tuple",data:=.seq [x,y].toArray}).push {cls:=.ref (c.clA k),data:=.fields #[.ref hh.objs.size,.none,.none,.none,.bool false,.none]}).get? (hh.objs.size+1)=some {cls:=.ref (c.clA k),data:=.fields #[.ref hh.objs.size,.none,.none,.none,.bool false,.none]}:=by heap_get
 have e0:hh.get? (hh.objs.size+1)=none:=Heap.get?_none_of_le (Nat.le_succ _)
 refine TE G M (X:=X) (s:=⟨_,g,d,t,os⟩) (λb o' e=>kp b o' (st b o' e)) (λb hb=>(o.xlt b hb).2) (jQ (eX (Nat.add_le_add_left (by decide:1<=4) _) (eX (Nat.add_le_add_right (gJ _ _) _) eo.depth)) (by decide)) he (tW (λo' z=>⟨o',st _ _ z⟩) e0) λh3 tk D t1 mm w=>?_
 have k3:aY (λ_=>False) hh h3:=.of λb o' e=>w.q6 b o' (ur e0 b o' e) (kp b o' e)
 have hD:=tW (λo' z=>⟨o',kp _ _ z⟩) w.q5
 have nx:aK A env μ μ (⟨hh,g,d,t,os⟩:Shared) {heap:=h3,gens:=g,drawn:=d,toks:=tk,os:=os}:=(aK.add (s:=⟨hh,g,d,t,os⟩) (s':=⟨h3,g,d,t,os⟩) k3 rfl rfl).tok tk
 exact⟨rfl,hQ _ _ nx ((o.add (s':=⟨h3,g,d,t,os⟩) k3).tok tk) ⟨⟨_,_,D,mm,.none,w.q1,rfl,rfl,rfl,(show 4<6 by decide),rfl,(λ_ _ z=>nomatch z),.inl rfl,e0,hD,λw=>(o.own_mut w).elim λo' z=>cg z.1 hD,w.q2,⟨x,w.q3,rm.nxt o nx⟩,⟨y,w.q4,rv.nxt o nx⟩⟩,_,_,w.q1,rfl,rfl⟩⟩
end
end
section
open PySem
section
variable{prog:Program}{w:World}{A:Around}{E:Value->Shared->Prop}{s:Shared}
theorem VQ:typeLookup (.type "list") "keys" =pure none:=am_miss_of_fast (by decide+kernel)
theorem SU{Q:Option Value->Shared->Prop}(hx:s.heap.get? a=some {cls:=.type "list",dict:=none,data:=.seq xs k,slots:=sl})(hA:A.handled=none)
 (h:∀h' tk,(∀b o,s.heap.get? b=some o->h'.get? b=some o)->Q none {s with heap:=h',toks:=tk}):wpAny (model prog w) A (getAttr? (.ref a) "keys") Q E s:=by
 obtain⟨hp,g,d,tk,os⟩:=s
 have hT:∀Ng,(⟨hp,g,d,Ng,os⟩:Shared).TypeIs (.ref a) "list" :=λ_=>⟨_,hx,rfl⟩
 have f1:=sub_AttributeError
 have f3:=F.slot_list_getattribute.lookup
 have f4:=F.slot_list_getattribute.bind (.ref a)
 have f5:=am_list_getattr_none
 have cL:("keys" :Str).length+100<=sizeLine:=by rw[ofString_length,sizeLine_eq];decide
 have aa8:(["__module__","__name__","__qualname__","__doc__","__annotations__"]:List Str).contains "keys" =false:=by decide+kernel
 unfold getAttr? getAttrBy? getAttrBy
 repeat (any_goals (first|assumption|exact hT _|((with_reducible show wpAny _ _ (call (Value.builtin "list.__getattribute__") _ _) _ _ _);refine call_meets F.slot_list_getattribute (hT _) am_entry_list_getattribute (F.args_list_getattribute_2 _ _) (meets_getattribute_miss_list a xs k sl "keys" _ VQ aa8 cL) ⟨hx,hA,λh' Ng e yP=>?_⟩)|wp_step))
 obtain⟨t',u',he⟩:=yP.there
 unfold getattributeRaised
 repeat (any_goals (first|assumption|wp_step))
 exact h _ _ yP.keeps
end
theorem DM:entryFor table "dict.update.loop" =some Builtin.«dict.update.loop» :=entryFor_of_tree (by kernel_rfl)
section
variable{prog:Program}{w:World}{A:Around}{E:Value->Shared->Prop}{R:Result->Shared->Prop}
def kq(prog:Program)(w:World)(h:Heap):List Value->List (Str×Value)->Prop
 |[],[]=>True
 |x::xs,(k,v)::l=>(∃a t,x=.ref a/\h.IsTuple a #[.str k t,v])/\kq prog w h xs l
 |_,_=>False
theorem kq.keeps(k:∀b o,(∃its n,o.data=.seq its n/\o.cls=.type "tuple")->h.get? b=some o->h'.get? b=some o):∀{xs:List Value} {l:List (Str×Value)},kq prog w h xs l->kq prog w h' xs l
 |[],[],_=>trivial
 |x::xs,(k',v)::l,⟨⟨a,t,e,o,ho,hc,n,hd⟩,r⟩=>⟨⟨a,t,e,o,k a o ⟨_,n,hd,hc⟩ ho,hc,n,hd⟩,kq.keeps k r⟩
 |[],_::_,x=>x.elim
 |_::_,[],x=>x.elim
theorem JL(hh:A.handled=none)(rQ:D≠I)(Nh:l≠D)(Ni:l≠I):∀(rem:List Value) (bF:List (Str×Value)) (acc:List (Str×Value)) (i:Nat) {s:Shared},
 its.toList.drop i=rem->s.heap.IsListIter I l i->s.heap.IsList l its->s.heap.DictOf (strKind prog w) D acc->kq prog w s.heap rem bF->acc.length+bF.length<=4000->
 (∀h' tk,h'.DictOf (strKind prog w) D (merged acc bF)->(∀b o,b≠D->b≠I->s.heap.get? b=some o->h'.get? b=some o)->R (.ok (.ret .none)) {s with heap:=h',toks:=tk})->
 codeAny (model prog w) A (.builtin "dict.update.loop" ⟨[.ref D,.ref I,rawInt i,.none],[]⟩) R s
 |[],bF,acc,i,s,yQ,hit,hl,hd,hp,hlen,h=>by
  cases bF with
  |cons=>exact hp.elim
  |nil=>
  refine codeAny_builtin DM ?_
  unfold Builtin.«dict.update.loop»
  have aa9:its[i]?=none:=by
   rw[← Array.getElem?_toList]
   have:=aq (·[0]?) yQ
   simp only[List.getElem?_drop,Nat.add_zero] at this
   simpa using this
  refine ah (wpAny_pyNext_list_end (by exact hh) hit hl aa9 λh' ex=>?_)
  refine ah (aS (aS ?_))
  exact h h' s.toks (hd.extBut ex rQ) λb o _ nb e=>ex b o nb e
 |x::rem,bF,acc,i,s,yQ,hit,hl,hd,hp,hlen,h=>by
  match bF,hp with
  |(k,v)::bF,⟨⟨a,t,hx,ht⟩,hp0⟩=>
  subst hx
  refine codeAny_builtin DM ?_
  unfold Builtin.«dict.update.loop»
  have abb:its[i]?=some (.ref a):=by
   rw[← Array.getElem?_toList]
   have:=aq (·[0]?) yQ
   simpa [List.getElem?_drop] using this
  refine ah (wpAny_pyNext_list_item hit hl abb λh1 abd yR=>?_)
  have ht1:h1.IsTuple a #[.str k t,v]:=by
   obtain⟨o,ho,hc,n,Ds⟩:=ht
   refine⟨o,(yR.2 a λq=>?_).trans ho,hc,n,Ds⟩
   obtain⟨oi,Dt,Du,_⟩:=hit
   rw[q,Dt] at ho;(first|with_reducible exact ns ho|with_reducible exact sn ho|with_reducible exact ft ho|with_reducible exact tf ho|(replace ho:=af ho;first|subst ho|cases ho)|cases ho);rw[Du] at hc;exact aV hc (by decide)
  have hd1:=hd.extBut yR.extBut rQ
  have my:=hl.extBut yR.extBut Ni
  obtain⟨o,ho,hc,n,Ds⟩:=ht1
  have hT:({s with heap:=h1}:Shared).TypeIs (.ref a) "tuple" :=⟨o,ho,hc⟩
  refine ah (d9 (ah (m:=(tryCatch (Builtin.Dict.pairItems (.ref a)) _:Sem (List Value))) (wpAny_tryCatch ?_)))
  unfold Builtin.Dict.pairItems
  refine ah (wpAny_typeOf hT ?_)
  rw[aG (by decide)]
  refine ah (wpAny_seqItems ho Ds (aS ?_))
  have cL:acc.length<=sizeLine:=by rw[sizeLine_eq];rw[List.length_cons] at hlen;omega
  refine d9 (wpAny_dictSet_pairs (strKind_is _ _ _ _) hd1 (λh2 hd2 Dv=>?_) (cL))
  refine aS (a:=Fin.again _) ⟨Code.quiet_builtin _ (by decide+kernel),?_⟩
  have hI2:=abd.extBut Dv.extBut rQ.symm
  have mu:=my.extBut Dv.extBut Nh
  have keep:∀b o,b≠D->b≠I->s.heap.get? b=some o->h2.get? b=some o:=λb o n1 n2 e=>(Dv.2 b n1).trans ((yR.2 b n2).trans e)
  have yI:kq prog w h2 rem bF:=by
   refine kq.keeps (λb o ⟨ys,m,ys1,yS⟩ e=>keep b o (λq=>?_) (λq=>?_) e) hp0
   · obtain⟨od,_,_,g1,g2,_⟩:=hd
     rw[q,g1] at e;(first|with_reducible exact ns e|with_reducible exact sn e|with_reducible exact ft e|with_reducible exact tf e|(replace e:=af e;first|subst e|cases e)|cases e);rw[g2.1] at yS;exact aV yS (by decide)
   · obtain⟨oi,Dt,Du,_⟩:=hit
     rw[q,Dt] at e;(first|with_reducible exact ns e|with_reducible exact sn e|with_reducible exact ft e|with_reducible exact tf e|(replace e:=af e;first|subst e|cases e)|cases e);rw[Du] at yS;exact aV yS (by decide)
  have abh:(stored acc k v).length+bF.length<=4000:=by
   have:=stored_length_le acc k v
   rw[List.length_cons] at hlen;omega
  have abi:its.toList.drop (i+1)=rem:=by
   rw[← List.drop_drop,yQ];rfl
  have q:=JL hh rQ Nh Ni rem bF (stored acc k v) (i+1) (s:={s with heap:=h2,toks:=s.toks+1}) abi hI2 mu hd2 yI abh λh' tk kc kk=>h h' tk kc λb o n1 n2 e=>kk b o n1 n2 (keep b o n1 n2 e)
  exact q
end
end
section
open PySem PySem.W PyProof.Rows
section
variable{c:Cx}{X:Addr->Prop}{μ:Mu}{h:Heap}
theorem ZN(h':FN v=some p)(r:ad c X μ h v y):∃a t u,y=.ref a/\h.IsTuple a #[.str (aW p.1) t,u]/\ad c X μ h p.2 u:=
 on h' λl hl h'=>by
  match l,h' with
  |[k,w],h'=>
   refine on h' λx hx h'=>(rS hl r).elim λa z=>z.elim λits z=>(I8 z.2.2.2).elim λy1 q=>q.elim λu q=>?_
   have e:=af h'
   subst e
   refine(fZ (P:=λy1=>∃t,y1=.str (aW x) t) hx q.2.1 λt=>⟨t,rfl⟩).elim λt e=>⟨a,t,u,z.1,?_,q.2.2⟩
   exact(Array.toList_inj.mp (q.1.trans (by rw[e])):its=#[.str (aW x) t,u])▸z.2.1
  |[],h'=>exact ns h'
  |[_],h'=>exact ns h'
  |_::_::_::_,h'=>exact ns h'
structure TT(c:Cx)(X:Addr->Prop)(μ:Mu)(h:Heap)(its:List Value)(bF:List (List Nat×V))(l0 l:List (Str×Value)):Prop where
 at_:kq c.prog c.w h its l
 rel:ay (lB c X μ h) bF (merged l0 l)
 len:l.length=its.length
theorem Ye(z:ay (ad c X μ h) xs its):∀{Dx bF:List (List Nat×V)} {l0:List (Str×Value)},wc Dx xs=some bF->ay (lB c X μ h) Dx l0->(l0.map (·.1)).Nodup->∃l,TT c X μ h its bF l0 l:=by
 induction z with
 |nil=>exact λe z0 nd=>⟨[],trivial,af e▸z0,rfl⟩
 |cons r _ ih=>exact λ{Dx bF l0} e z0 nd=>on e λp hp e=>(ZN hp r).elim λa w=>w.elim λt w=>w.elim λu w=>
  (ih (l0:=stored l0 (aW p.1) u) e (BI w.2.2 z0 nd) (HR nd)).elim λl q=>⟨(aW p.1,u)::l,⟨⟨a,t,w.1,w.2.1⟩,q.at_⟩,q.rel,aq (· +1) q.len⟩
theorem Sm{K:Frag}(G:bq c K):pS c:=λX A env fr μ σ s v x Q E n eo o rv h=>
 bk h λxs hv h=>bk h λbF hp h=>on hv λpv hpv hv=>fa (P:=λx=>wpAny c.M A (PySem.call (.type "dict") [x]) Q E s) o hpv rv λa its _ _ ⟨ep,hl⟩ hz cL=>(Ye (af hv▸hz) hp .nil List.nodup_nil).elim λl W=>bA h λhf h=>by
  have hD:=dk s.heap
  have hh:=eo.handled
  refine callType_codes (Q₁:=λobj s₁=>obj=.ref s.heap.objs.size/\s₁={s with heap:=s.heap.push {cls:=.type "dict",data:=.dict #[]}}) F.kt_called_dict (F.kt_typeCall_dict_1 _) F.entry_dict_init (kt_code_dict_new _ ⟨rfl,rfl⟩) ?_
  rintro obj s₁ ⟨rfl,rfl⟩
  have yT:(s.heap.push {cls:=.type "dict",data:=.dict #[]}).DictOf (strKind c.prog c.w) s.heap.objs.size []:=Heap.DictOf.new s.heap
  have my:=d6 (h:=s.heap) {cls:=.type "dict",data:=.dict #[]} hl
  have hT:({s with heap:=s.heap.push {cls:=.type "dict",data:=.dict #[]}}:Shared).TypeIs (.ref a) "list" :=⟨_,my,rfl⟩
  refine⟨yT.typeIs,F.args_dict_init_2 _ _,?_⟩
  unfold Builtin.«dict.__init__»
  refine ah ?_
  unfold Builtin.Dict.selfAndRest
  refine ah (wpAny_notOrdered_dict yT.typeIs ?_)
  refine aS ?_
  show wpAny _ _ (Builtin.Dict.updateFrom "dict.__init__" s.heap.objs.size (.ref a) [] .none) _ _ _
  unfold Builtin.Dict.updateFrom
  refine ah (wpAny_typeOf hT ?_)
  rw[aG (by decide)]
  refine ah (SU my hh λh1 lT k1=>?_)
  rw[aG (by rfl)]
  have mu:=k1 _ _ my
  refine ah (wpAny_rule (ah (wpAny_pyIter_list ⟨_,mu,rfl,ep,rfl⟩ (aS (a:=Fin.again _) ⟨Code.quiet_builtin _ (by decide+kernel),?_⟩))))
  have kI:∀b o',h1.get? b=some o'->(h1.push {cls:=.type "list_iterator",data:=.fields #[.ref a,.int 0 0]}).get? b=some o':=λb o' e=>d6 _ e
  have hd2:=zQ yT λob e=>kI _ _ (k1 _ _ e)
  have old:∀b o',s.heap.get? b=some o'->(h1.push {cls:=.type "list_iterator",data:=.fields #[.ref a,.int 0 0]}).get? b=some o':=λb o' e=>kI _ _ (k1 _ _ (d6 _ e))
  have hIn:=tW (λo' z=>⟨o',k1 _ _ (d6 _ z)⟩) (dk h1)
  have Nj:=ur hIn
  have rQ:=yT.elim λod w=>w.elim λ_ w=>w.elim λ_ w=>Nat.ne_of_lt (Heap.lt_size (k1 _ _ w.1))
  refine JL (its:=its) (l:=a) (by exact eo.handled) rQ (Nat.ne_of_lt (Heap.lt_size hl)) (Nj _ _ hl) its.toList l [] 0 (by rw[List.drop_zero]) ⟨_,d7 _ rfl,rfl,rfl⟩ ⟨_,kI _ _ mu,rfl,ep,rfl⟩ hd2 (kq.keeps (λb o' _ e=>old b o' e) W.at_) (by rw[List.length_nil,W.len,Array.length_toList,dY];exact cL) λh' tk kc kk=>?_
  have k3:aY (λ_=>False) s.heap h':=.of λb o' e=>kk b o' (ur hD b o' e) (Nj b o' e) (old b o' e)
  exact⟨rfl,h.ok ((aK.new1 (s:=s) (s':={s with heap:=h'}) (p:=(s.heap.objs.size,s.heap.objs.size)) k3 hD hD rfl rfl).tok tk) ((Ok.new1 (x:=o) (o:=.dict bF) (s':={s with heap:=h'}) (p:=(s.heap.objs.size,s.heap.objs.size)) k3 hD hD ⟨rfl,Gb G o,_,kc,W.rel.mono λ_ _ q=>⟨q.1,q.2.mono (o.stays_of k3 λ_ _ _ f=>f.elim) (ce.app _ _)⟩,W.rel.length▸gk.mp hf⟩).tok tk)
   (⟨(s.heap.objs.size,s.heap.objs.size),o.last _,rfl⟩)⟩
end
theorem O7{K:Frag}(G:bq c K)(XK:mQ c K)(MK:∀k,c.T.sub k k=some true->wj c K k)(lh:qH c)(Or:qS c):∀n,lw c n (ev c.T c.mc n):=
 JD G lh (Sm G) Or (IF G XK (F5 G XK MK)) (Js G (Jr G XK) (Ms G XK))
structure Mt where
 is:List (Nat×Nat)
 hid:List (Nat×V)
def eV(l:List (Nat×Nat))(i b:Nat):Bool:=List.rec false (λp _ ih=>aa (Nat.beq p.1 i) (aa (Nat.beq p.2 b) true ih) ih) l
def dB(v:V):Bool:=V.rec true (λ_=>true) (λ_=>true) (λ_=>true) true (λ_ _ a b=>aa a b false) (λ_=>false) (λ_=>false) (λ_=>false) (λ_=>false) (λ_ _=>false) (λ_=>false) v
def F7(v:V):Option Nat:=V.rec .none (λ_=>.none) (λ_=>.none) (λ_=>.none) .none (λ_ _ _ _=>.none) (λ_=>.none) (λk=>some k) (λ_=>.none) (λ_=>.none) (λ_ _=>.none) (λ_=>.none) v
def dM(o:Option Nat)(k:Nat):Bool:=Option.rec false (λi=>Nat.beq i k) o
def b9(m:Mt)(b:V):V->Bool:=
 V.rec (motive:=λ_=>V->Bool) isNone (λx a=>Option.rec false (λy=>aa x y (!y)) (kY a)) (λi a=>Option.rec false (λj=>decide (i=j)) (eM a)) (λs a=>Option.rec false (λt=>seq s t) (cR a)) Ae
  (λ_ q hp hq a=>Option.rec false (λr=>aa (hp r.1) (Option.rec (hq r.2) (λ_=>false) (cu q)) false) (wo a))
  (λn a=>Option.rec (Option.rec false (λk=>aa (Nat.ble 14 k) (Option.rec false (λw=>dM (ck w) n) (au m.hid k)) false) (dX a)) (λi=>eV m.is i n) (ck a))
  (λk a=>dM (F7 a) k) (λk a=>dM (wC a) k) (λk a=>aa (Nat.blt k 14) (dM (dX a) k) (Option.rec false (λj=>aa (Nat.ble 14 j) (Option.rec false (λw=>dM (dX w) k) (au m.hid j)) false) (dX a))) (λ_ _ _=>false)
  (λn a=>dM (cu a) n) b
def dp{α β:Type}(f:α->β->Bool)(l:List α):List β->Bool:=
 List.rec (λk=>List.rec true (λ_ _ _=>false) k) (λx _ ih k=>List.rec false (λy q _=>aa (f x y) (ih q) false) k) l
def PY(o:aF):Option Nat:=aF.rec (λ_=>.none) (λ_=>.none) (λ_ _=>.none) (λ_=>.none) (λj=>some j) .none o
def pO(o:aF):Bool:=aF.rec (λ_=>false) (λ_=>false) (λ_ _=>false) (λ_=>false) (λ_=>false) true o
def Id{α β:Type}(f:α->β->Bool)(o:Option α)(p:Option β):Bool:=Option.rec (Option.rec true (λ_=>false) p) (λx=>Option.rec false (λy=>f x y) p) o
def iZ(m:Mt)(o:aF):aF->Bool:=
 aF.rec (motive:=λ_=>aF->Bool) (λxs o=>Option.rec false (λys=>dp (b9 m) xs ys) (mh o)) (λxs o=>Option.rec false (λys=>dp (λx y=>aa (seq x.1 y.1) (b9 m x.2 y.2) false) xs ys) (xt o))
  (λk xs o=>Option.rec false (λy=>aa (Nat.beq k y.1) (dp (λx y=>aa (Nat.beq x.1 y.1) (b9 m x.2 y.2) false) xs y.2) false) (yo o))
  (λv o=>Option.rec false (λw=>Id (b9 m) v w) (rq o))
  (λj o=>dM (PY o) j) pO o
structure qD(c0 c:Cx)(m:Mt)(hU μ:Mu):Prop where
 loc:∀i b,eV m.is i b=true->∃p,aj hU i=some p/\aj μ b=some p
 hid:∀k b,14<=k->au m.hid k=some (.loc b)->∃p,aj μ b=some p/\c0.biV k=.ref p.1
 hib:∀k j,14<=k->14<=j->au m.hid k=some (.bi j)->c0.biV k=c.biV j
 bi:∀k,k<14->c0.biV k=c.biV k
 rho:c0.ρ=c.ρ
 seg:c0.seg=c.seg
 sp:∀j,∀v∈c.seg j,dB v=true
 fn:c0.fnA=c.fnA
 cl:c0.clA=c.clA
 nm:c0.nm=c.nm
 prog:c0.prog=c.prog
 w:c0.w=c.w
section
variable{c0 c:Cx}{X:Addr->Prop}{hU μ:Mu}{m:Mt}{h:Heap}
theorem CN(v:V):dB v=true->(∀x,ad c X μ h v x↔(PV X h v).1 x)/\(∀l,jw c X μ h v l↔(PV X h v).2 l):=by
 induction v with
 |none|bool|int|str|nil=>exact λ_=>⟨λ_=>Iff.rfl,λ_=>Iff.rfl⟩
 |cons p q hp hq=>
  intro e
  have e:=aO e
  have k:∀l,jw c X μ h (.cons p q) l↔(PV X h (.cons p q)).2 l:=λl=>fG λ_=>fG λ_=>cO (and_congr ((hp e.1).1 _) ((hq e.2).2 _))
  exact⟨λx=>⟨λr=>⟨r.ex.imp λ_=>bf λ_ z=>⟨z.1,z.2.1,z.2.2.1,(k _).mp z.2.2.2⟩⟩,λr=>⟨r.ex.imp λ_=>bf λ_ z=>⟨z.1,z.2.1,z.2.2.1,(k _).mpr z.2.2.2⟩⟩⟩,k⟩
 |_=>exact λe=>ft e
theorem l9(e:dM o k=true):o=some k:=bV e λi hi e=>hi.trans (aq some (bx.mp e))
theorem UV(h:F7 v=some k):v=.fn k:=by cases v<;>first|exact ns h|exact aq V.fn (af h)
theorem HA{P Q:List Value->Prop}(k:∀l,P l↔Q l)(x:Value):iJ X h P x↔iJ X h Q x:=
 ⟨λr=>⟨r.ex.imp λ_=>bf λ_ z=>⟨z.1,z.2.1,z.2.2.1,(k _).mp z.2.2.2⟩⟩,λr=>⟨r.ex.imp λ_=>bf λ_ z=>⟨z.1,z.2.1,z.2.2.1,(k _).mpr z.2.2.2⟩⟩⟩
theorem JX{P P':Value->Prop}{Q Q':List Value->Prop}(k:∀y,P y↔P' y)(k':∀l,Q l↔Q' l)(l:List Value):jP P Q l↔jP P' Q' l:=fG λ_=>fG λ_=>cO (and_congr (k _) (k' _))
theorem lR(C:qD c0 c m hU μ)(b:V):∀{a:V},b9 m b a=true->(∀x,ad c0 X hU h a x↔ad c X μ h b x)/\(cu b=none->∀l,jw c0 X hU h a l↔jw c X μ h b l):=by
 induction b with
 |none=>exact λe=>(nQ e).symm▸⟨λ_=>Iff.rfl,λ_ _=>Iff.rfl⟩
 |bool x=>
  exact λe=>bV e λy hy e=>by
   have q:x=y:=by revert e;cases x<;>cases y<;>first|exact λ_=>rfl|exact λe=>ft e
   exact(pC hy).symm▸q.symm▸⟨λ_=>Iff.rfl,λ_ _=>Iff.rfl⟩
 |int x=>exact λe=>bV e λy hy e=>(qm hy).symm▸(of_decide_eq_true e:x=y)▸⟨λ_=>Iff.rfl,λ_ _=>Iff.rfl⟩
 |str x=>exact λe=>bV e λy hy e=>(j5 hy).symm▸(fk.mp e:x=y)▸⟨λ_=>Iff.rfl,λ_ _=>Iff.rfl⟩
 |nil=>exact λe=>(EJ e).symm▸⟨λ_=>Iff.rfl,λ_ _=>Iff.rfl⟩
 |cons p q hp hq=>
  exact λe=>bV e λr hr e=>by
   have e:=aO e
   rw[F4 hr]
   cases gN:cu q with
   |some _=>exact ft ((by rw[gN]:Option.rec (b9 m q r.2) (λ_=>false) (cu q)=false).symm.trans e.2)
   |none=>
    have e2:=(by rw[gN]:Option.rec (b9 m q r.2) (λ_=>false) (cu q)=b9 m q r.2).symm.trans e.2
    have k:=JX (hp e.1).1 ((hq e2).2 gN)
    exact⟨HA k,λ_=>k⟩
 |loc n=>
  exact λ{a} e=>by
   cases hl:ck a with
   |some i=>
    have e:Option.rec (Option.rec false (λk=>aa (Nat.ble 14 k) (Option.rec false (λw=>dM (ck w) n) (au m.hid k)) false) (dX a)) (λi=>eV m.is i n) (ck a)=true:=e
    rw[hl] at e
    rw[ya hl]
    refine(C.loc i n e).elim λp w=>⟨λx=>⟨λr=>r.elim λq z=>⟨p,w.2,(bB w.1 z.1).symm▸z.2⟩,λr=>r.elim λq z=>⟨p,w.1,(bB w.2 z.1).symm▸z.2⟩⟩,λ_ _=>Iff.rfl⟩
   |none=>
    have e:Option.rec (Option.rec false (λk=>aa (Nat.ble 14 k) (Option.rec false (λw=>dM (ck w) n) (au m.hid k)) false) (dX a)) (λi=>eV m.is i n) (ck a)=true:=e
    rw[hl] at e
    refine bV e λk hk e=>?_
    have e:=aO e
    rw[qZ hk]
    refine bV e.2 λw hw e2=>?_
    exact(C.hid k n (dO e.1) (ya (l9 e2)▸hw)).elim λp w=>⟨λx=>⟨λr=>⟨p,w.1,(r).trans w.2⟩,λr=>r.elim λq z=>z.2.trans ((bB w.1 z.1)▸w.2.symm:Value.ref q.1=c0.biV k)⟩,λ_ _=>Iff.rfl⟩
 |fn k=>exact λe=>(UV (l9 e)).symm▸⟨λx=>by show x=.ref (c0.fnA k)↔x=.ref (c.fnA k);rw[C.fn],λ_ _=>Iff.rfl⟩
 |cls k=>exact λe=>(Cv (l9 e)).symm▸⟨λx=>by show x=.ref (c0.clA k)↔x=.ref (c.clA k);rw[C.cl],λ_ _=>Iff.rfl⟩
 |bi k=>
  exact λ{a} e=>by
   have e:aa (Nat.blt k 14) (dM (dX a) k) (Option.rec false (λj=>aa (Nat.ble 14 j) (Option.rec false (λw=>dM (dX w) k) (au m.hid j)) false) (dX a))=true:=e
   cases hk:Nat.blt k 14 with
   |true=>
    rw[hk] at e
    exact(qZ (l9 e)).symm▸⟨λx=>by show x=c0.biV k↔x=c.biV k;rw[C.bi k (cH hk)],λ_ _=>Iff.rfl⟩
   |false=>
    rw[hk] at e
    refine bV e λj hj e=>?_
    have e:=aO e
    refine bV e.2 λw hw e2=>?_
    exact(qZ hj).symm▸⟨λx=>by show x=c0.biV j↔x=c.biV k;rw[C.hib j k (dO e.1) (Nat.le_of_not_lt λq=>ft (hk.symm.trans (mG q))) (qZ (l9 e2)▸hw)],λ_ _=>Iff.rfl⟩
 |clo=>exact λe=>ft e
 |atom n=>exact λ{a} e=>(qF (l9 e)).symm▸⟨λx=>by show(PV X h (c0.ρ n)).1 x↔(PV X h (c.ρ n)).1 x;rw[C.rho],λ_ _=>Iff.rfl⟩
theorem VZ{α β:Type}{f:α->β->Bool}{P:β->Value->Prop}{Q:α->Value->Prop}(k:∀x y,f x y=true->∀z,P y z↔Q x z)(l:List α):∀{l0:List β},dp f l l0=true->∀its,ay P l0 its↔ay Q l its:=by
 induction l with
 |nil=>exact λ{l0} e its=>by cases l0 with|nil=>exact⟨λz=>by cases z;exact .nil,λz=>by cases z;exact .nil⟩|cons=>exact ft e
 |cons x r ih=>
  intro l0 e its
  cases l0 with
  |nil=>exact ft e
  |cons y q=>
   have e:=aO e
   exact⟨λz=>by cases z with|cons a b=>exact .cons ((k x y e.1 _).mp a) ((ih e.2 _).mp b),λz=>by cases z with|cons a b=>exact .cons ((k x y e.1 _).mpr a) ((ih e.2 _).mpr b)⟩
theorem Uj{α β γ:Type}{f:α->β->Bool}{P:β->γ->Prop}{Q:α->γ->Prop}(k:∀x y,f x y=true->∀z,P y z↔Q x z)(l:List α):∀{l0:List β},dp f l l0=true->∀its,ay P l0 its↔ay Q l its:=by
 induction l with
 |nil=>exact λ{l0} e its=>by cases l0 with|nil=>exact⟨λz=>by cases z;exact .nil,λz=>by cases z;exact .nil⟩|cons=>exact ft e
 |cons x r ih=>
  intro l0 e its
  cases l0 with
  |nil=>exact ft e
  |cons y q=>
   have e:=aO e
   exact⟨λz=>by cases z with|cons a b=>exact .cons ((k x y e.1 _).mp a) ((ih e.2 _).mp b),λz=>by cases z with|cons a b=>exact .cons ((k x y e.1 _).mpr a) ((ih e.2 _).mpr b)⟩
theorem Z2(l:List (Nat×V)):∀{l0:List (Nat×V)},dp (λx y=>aa (Nat.beq x.1 y.1) (b9 m x.2 y.2) false) l l0=true->
 (∀x v,au l x=some v->∃v0,au l0 x=some v0/\b9 m v v0=true)/\(∀x v0,au l0 x=some v0->∃v,au l x=some v/\b9 m v v0=true):=by
 induction l with
 |nil=>exact λ{l0} e=>by cases l0 with|nil=>exact⟨λx v q=>ns q,λx v q=>ns q⟩|cons=>exact ft e
 |cons p r ih=>
  intro l0 e
  cases l0 with
  |nil=>exact ft e
  |cons q r0=>
   obtain⟨x1,v1⟩:=p
   obtain⟨x2,v2⟩:=q
   have e:=aO e
   have e1:=aO e.1
   have ex:=bx.mp e1.1
   subst ex
   refine⟨λx v w=>?_,λx v w=>?_⟩
   · rw[dA] at w ⊢
     by_cases hx:x1=x
     · rw[aG hx] at w ⊢;exact⟨v2,rfl,af w▸e1.2⟩
     · rw[ax hx] at w ⊢;exact(ih e.2).1 x v w
   · rw[dA] at w ⊢
     by_cases hx:x1=x
     · rw[aG hx] at w ⊢;exact⟨v1,rfl,af w▸e1.2⟩
     · rw[ax hx] at w ⊢;exact(ih e.2).2 x v w
theorem UK(h:rq o=some v):o=.cell v:=by cases o<;>first|exact ns h|exact aq aF.cell (af h)
theorem yB(l:List V)(e:∀v∈l,dB v=true):∀its:List Value,ay (ad c X μ h) l its↔ay (λv x=>(PV X h v).1 x) l its:=by
 induction l with
 |nil=>exact λits=>⟨λz=>by cases z;exact .nil,λz=>by cases z;exact .nil⟩
 |cons v r ih=>
  have w:=ug e
  exact λits=>⟨λz=>by cases z with|cons a b=>exact .cons (((CN v w.1).1 _).mp a) ((ih w.2 _).mp b),λz=>by cases z with|cons a b=>exact .cons (((CN v w.1).1 _).mpr a) ((ih w.2 _).mpr b)⟩
theorem IR(C:qD c0 c m hU μ){l l0:List V}(e:dp (b9 m) l l0=true)(its:List Value):ay (ad c0 X hU h) l0 its↔ay (ad c X μ h) l its:=
 VZ (P:=ad c0 X hU h) (Q:=ad c X μ h) (λx y e z=>(lR (X:=X) (h:=h) C x e).1 z) l e its
theorem CO(C:qD c0 c m hU μ){p:Addr×Addr}(e:iZ m o o0=true):RO c0 X hU h p o0↔RO c X μ h p o:=by
 cases o with
 |list xs=>
  refine bV e λys hy e=>?_
  rw[tK hy]
  exact cO (fG λits=>cO (and_congr_left' (IR C e _)))
 |dict bF=>
  refine bV e λys hy e=>?_
  rw[EU hy]
  have k:=Uj (P:=λ(a:List Nat×V) (b:Str×Value)=>b.1=aW a.1/\ad c0 X hU h a.2 b.2) (Q:=λ(a:List Nat×V) (b:Str×Value)=>b.1=aW a.1/\ad c X μ h a.2 b.2) (λx y e z=>by
   have e:=aO e
   rw[fk.mp e.1,(lR (X:=X) (h:=h) C x.2 e.2).1 z.2]) bF e
  show _/\_/\(∃l,h.DictOf (strKind c0.prog c0.w) _ l/\_/\_)↔_
  rw[C.prog,C.w]
  exact cO (cO (fG λl=>cO (and_congr_left' (k l))))
 |inst k as=>
  refine bV e λy hy e=>?_
  have e:=aO e
  rw[Lh hy,← bx.mp e.1]
  have a:=Z2 (m:=m) as e.2
  show(h.get? p.1=some (instObj (c0.clA k) p.2)/\∃n:Str->Option Value,h.Ns1 p.2 n/\(∀x v,au y.2 x=some v->∃z,n (c0.nm x)=some z/\ad c0 X hU h v z)/\(∀n' z,n n'=some z->∃x v,au y.2 x=some v/\n'=c0.nm x))↔_
  rw[C.cl,C.nm]
  refine cO (fG λn=>cO (and_congr ⟨λq x v hv=>?_,λq x v hv=>?_⟩ ⟨λq n' z hz=>?_,λq n' z hz=>?_⟩))
  · exact(a.1 x v hv).elim λv0 w=>(q x v0 w.1).imp λz u=>⟨u.1,((lR C v w.2).1 z).mp u.2⟩
  · exact(a.2 x v hv).elim λv1 w=>(q x v1 w.1).imp λz u=>⟨u.1,((lR C v1 w.2).1 z).mpr u.2⟩
  · exact(q n' z hz).imp λx=>λu=>u.elim λv u=>(a.2 x v u.1).imp λv1 w=>⟨w.1,u.2⟩
  · exact(q n' z hz).imp λx=>λu=>u.elim λv u=>(a.1 x v u.1).imp λv1 w=>⟨w.1,u.2⟩
 |cell v=>
  refine bV e λw hw e=>?_
  rw[UK hw]
  refine cO (fG λy=>cO ?_)
  cases v with
  |none=>cases w with|none=>cases y<;>exact Iff.rfl|some _=>exact ft e
  |some v=>cases w with
   |none=>exact ft e
   |some w=>cases y with|none=>exact Iff.rfl|some y=>exact(lR C v e).1 y
 |opq j=>
  have q:=l9 e
  cases o0 with
  |opq i=>
   have q:=af q
   subst q
   refine cO (fG λits=>cO (and_congr_left' ?_))
   rw[C.seg]
   exact(yB _ (C.sp i) _).trans (yB _ (C.sp i) _).symm
  |_=>exact ns q
 |dead=>
  have q:=e
  cases o0 with
  |dead=>exact Iff.rfl
  |_=>exact ft q
end
def Cx.wit(c:Cx)(T:Tb)(b:Nat->Value):Cx:={c with T:=T,biV:=b}
def db(bs:List Nat):Nat->List (Nat×Nat):=List.rec (λ_=>[]) (λb _ ih i=>(i,b)::ih (Nat.succ i)) bs
def jH(r:List (Nat×V)):List (Nat×V):=r.map λp=>(p.1,aa (ir p.2) (.bi (1000+p.1)) p.2)
section
variable{c:Cx}{X:Addr->Prop}{A:Around}{env:Env}{fr:Fr}{μ hU:Mu}{σ:Sg}{s:Shared}{n:Nat}
theorem t9(i b:Nat)(l:List (Nat×Nat))(j d:Nat):eV ((i,b)::l) j d=true↔(i=j/\b=d)\/eV l j d=true:=by
 show aa (Nat.beq i j) (aa (Nat.beq b d) true (eV l j d)) (eV l j d)=true↔_
 by_cases h1:i=j
 · rw[bx.mpr h1,fF]
   by_cases h2:b=d
   · rw[bx.mpr h2,fF];exact⟨λ_=>.inl ⟨h1,h2⟩,λ_=>rfl⟩
   · rw[ee.mpr h2,cW];exact⟨.inr,λq=>q.elim (λq=>aV q.2 h2) id⟩
 · rw[ee.mpr h1,cW];exact⟨.inr,λq=>q.elim (λq=>aV q.1 h1) id⟩
theorem D4(bs:List Nat):∀{k i b:Nat},eV (db bs k) i b=true->∃j,i=k+j/\aj bs j=some b:=by
 induction bs with
 |nil=>exact λe=>ft e
 |cons d r ih=>exact λ{k i b} e=>((t9 k d (db r (Nat.succ k)) i b).mp e).elim (λw=>⟨0,w.1.symm,aq some w.2⟩) λw=>(ih w).elim λj z=>⟨j+1,z.1.trans (by omega),z.2⟩
theorem Tx(bs:List Nat):∀{k j b:Nat},aj bs j=some b->eV (db bs k) (k+j) b=true:=by
 induction bs with
 |nil=>exact λe=>ns e
 |cons d r ih=>
  intro k j b e
  refine(t9 k d (db r (Nat.succ k)) (k+j) b).mpr ?_
  cases j with
  |zero=>exact .inl ⟨rfl,af e⟩
  |succ j=>exact .inr ((by omega:Nat.succ k+j=k+(j+1))▸ih e)
theorem Bv{α β:Type}(f:α->β)(l:List α)(i:Nat):aj (l.map f) i=(aj l i).map f:=by rw[dj,dj,List.getElem?_map]
theorem wI(r:List (Nat×V))(x:Nat):au (jH r) x=(au r x).map λv=>aa (ir v) (.bi (1000+x)) v:=by
 induction r with
 |nil=>rfl
 |cons p q ih=>
  obtain⟨k,v⟩:=p
  show au ((k,aa (ir v) (.bi (1000+k)) v)::jH q) x=_
  rw[dA,dA,ih]
  by_cases e:k=x
  · rw[aG e,aG e,e];rfl
  · rw[ax e,ax e]
theorem aJ.wit{T:Tb}{b:Nat->Value}(x:aJ c n A env fr){g:List (Nat×Nat)}:aJ (c.wit T b) n A env ⟨fr.sc,g,fr.lm⟩:=
 ⟨x.k0,x.k1,x.k2,x.k3,x.kl,x.kk,x.kfun,x.globs,x.bis,x.frame,x.handled,x.code,x.depth,x.units⟩
noncomputable def zj(c:Cx)(μ:Mu)(v:V):Value:=match v with|.loc b=>((aj μ b).map λp=>Value.ref p.1).getD .none|.bi j=>if 14<=j then c.biV j else .none|_=>.none
noncomputable def fE(c:Cx)(hid:List (Nat×V))(μ:Mu)(mm:Str->Option Value)(k:Nat):Value:=
 if k<14 then c.biV k else(au hid k).elim (((mm (c.nm (k-1000))).filter λy=>handedIn y).getD .none) λv=>zj c μ v
theorem xU(h:k<14):fE c hid μ mm k=c.biV k:=aG h
theorem SJ(hh:∀k,14<=k->handedIn (c.biV k)=true)(h:14<=k):handedIn (fE c hid μ mm k)=true:=by
 unfold fE
 rw[ax (Nat.not_lt.mpr h)]
 cases au hid k with
 |none=>
  cases e:(mm (c.nm (k-1000))).filter λy=>handedIn y with
  |none=>rfl
  |some y=>exact(Option.filter_eq_some_iff.mp e).2
 |some v=>
  show handedIn (zj c μ v)=true
  unfold zj
  cases v with
  |loc b=>dsimp only;cases aj μ b<;>rfl
  |bi j=>exact(Nat.lt_or_ge j 14).elim (λq=>by show handedIn (if 14<=j then c.biV j else .none)=true;rw[ax (Nat.not_le.mpr q)];rfl) λq=>by show handedIn (if 14<=j then c.biV j else .none)=true;rw[aG q];exact hh j q
  |_=>rfl
structure gB(c:Cx)(m:Mt)(bs:List Nat)(H0 H:HT):Prop where
 is:m.is=db bs 0
 n:bs.length=H0.n
 w:HW H0
 nd:bs.Nodup
 obj:∀i o0,gH H0 i=some o0->∃b o,aj bs i=some b/\gH H b=some o/\iZ m o o0=true
 hid:∀k v,au m.hid k=some v->k<1000/\∀b,v=.loc b->(gH H b).isSome=true
 sp:∀j,∀v∈c.seg j,dB v=true
noncomputable def dH(μ:Mu)(bs:List Nat):Mu:=bs.map λb=>(aj μ b).getD (0,0)
theorem pV{bs:List Nat}{i b:Nat}{p:Addr×Addr}(h:aj bs i=some b)(e:aj μ b=some p):aj (dH μ bs) i=some p:=by unfold dH;rw[Bv,h];exact aq some (show(aj μ b).getD (0,0)=p by rw[e];rfl)
theorem Ok.at_mu(o:Ok c X A env fr μ σ s){ob:aF}(e:gH σ.H b=some ob):∃p,aj μ b=some p:=(o.obj b ob e).imp λ_ w=>w.1
theorem gB.cor{m:Mt}{bs:List Nat}{H0:HT}(K:gB c m bs H0 σ.H)(o:Ok c X A env fr μ σ s){T:Tb}{mm:Str->Option Value}:qD (c.wit T (fE c m.hid μ mm)) c m (dH μ bs) μ where
 loc:=λi b e=>(D4 bs (K.is▸e)).elim λj w=>by
  have e:=w.1.trans (dY j)
  subst e
  exact(K.w.some (K.n▸iP w.2)).elim λo0 h0=>(K.obj i o0 h0).elim λb' z=>z.elim λob z=>by
   have q:=bB w.2 z.1
   subst q
   exact(o.at_mu z.2.1).imp λp hp=>⟨pV z.1 hp,hp⟩
 hid:=λk b hk e=>(Option.isSome_iff_exists.mp ((K.hid k _ e).2 b rfl)).elim λob ho=>(o.at_mu ho).imp λp hp=>⟨hp,by
  show fE c m.hid μ mm k=_
  unfold fE
  rw[ax (Nat.not_lt.mpr hk),e]
  show((aj μ b).map λp=>Value.ref p.1).getD .none=_
  rw[hp];rfl⟩
 hib:=λk j hk hj e=>by
  show fE c m.hid μ mm k=_
  unfold fE
  rw[ax (Nat.not_lt.mpr hk),e]
  exact aG hj
 bi:=λk h=>xU h
 rho:=rfl
 seg:=rfl
 sp:=K.sp
 fn:=rfl
 cl:=rfl
 nm:=rfl
 prog:=rfl
 w:=rfl
theorem xN(h:ir v=false):∃k,v=.bi k/\k<14:=by
 cases v<;>first|exact tf h|exact⟨_,rfl,Nat.lt_of_not_le λq=>tf ((Nat.ble_eq_true_of_le q).symm.trans h)⟩
theorem j6(hb:∀i b,aj bs i=some b->∃p,aj μ b=some p)(h:own (dH μ bs) b):own μ b:=by
 obtain⟨i,p,e,w⟩:=dR.mp h
 unfold dH at e
 rw[Bv] at e
 obtain⟨d,e1,e2⟩:=Option.map_eq_some_iff.mp e
 obtain⟨q,hq⟩:=hb i d e1
 rw[hq] at e2
 have e2:q=p:=e2
 exact dR.mpr ⟨d,q,hq,e2▸w⟩
theorem mD(hb:∀i b,aj bs i=some b->∃p,aj μ b=some p)(e:aj (dH μ bs) i=some p):∃b,aj bs i=some b/\aj μ b=some p:=by
 unfold dH at e
 rw[Bv] at e
 obtain⟨d,e1,e2⟩:=Option.map_eq_some_iff.mp e
 obtain⟨q,hq⟩:=hb i d e1
 rw[hq] at e2
 have e2:=e2
 exact⟨d,e1,e2▸hq⟩
theorem gB.at{m:Mt}{bs:List Nat}{H0:HT}(K:gB c m bs H0 σ.H)(o:Ok c X A env fr μ σ s):∀i b,aj bs i=some b->∃p,aj μ b=some p:=λi b e=>
 (K.w.some (K.n▸iP e)).elim λo0 h0=>(K.obj i o0 h0).elim λb' z=>z.elim λob z=>(bB e z.1).symm▸o.at_mu z.2.1
theorem v7(nd:bs.Nodup)(hi:aj bs i=some b)(hj:aj bs j=some b):i=j:=by
 rw[dj] at hi hj
 have li:=(List.getElem?_eq_some_iff.mp hi)
 have lj:=(List.getElem?_eq_some_iff.mp hj)
 exact(List.getElem_inj (h₀:=li.1) (h₁:=lj.1) nd).mp (li.2.trans lj.2.symm)
theorem gB.ok{m:Mt}{bs:List Nat}{H0:HT}(K:gB c m bs H0 σ.H)(o:Ok c X A env fr μ σ s)(hh:∀k,14<=k->handedIn (c.biV k)=true){T:Tb}{mm:Str->Option Value}(hm:s.heap.Ns env.locals mm)(hr:∀x v,au σ.r x=some v->∃y,mm (c.nm x)=some y/\ad c X μ s.heap v y):
 Ok (c.wit T (fE c m.hid μ mm)) X A env ⟨fr.sc,[],fr.lm⟩ (dH μ bs) ⟨H0,jH σ.r⟩ s:=
 have C:=K.cor o (T:=T) (mm:=mm)
 have B:=K.at o
 { len:=⟨by unfold dH;rw[List.length_map];exact K.n,K.w⟩
   obj:=λi o0 h0=>(K.obj i o0 h0).elim λb z=>z.elim λob z=>(o.obj b ob z.2.1).elim λp w=>⟨p,pV z.1 w.1,(CO C z.2.2).mpr w.2⟩
   apart:=λi j p q hi hj ne=>(mD B hi).elim λa u=>(mD B hj).elim λb w=>o.apart a b p q u.2 w.2 λe=>ne (v7 K.nd u.1 (e.symm▸w.1))
   new:=λb hb=>o.new b (j6 B hb)
   ns:=⟨mm,hm,λx v0 h0=>by
    rw[wI] at h0
    obtain⟨v,hv,e⟩:=Option.map_eq_some_iff.mp h0
    refine(hr x v hv).imp λy w=>⟨w.1,?_⟩
    subst e
    cases hb:ir v with
    |true=>
     show y=fE c m.hid μ mm (1000+x)
     unfold fE
     rw[ax (by omega)]
     cases hk:au m.hid (1000+x) with
     |some b=>exact aV (K.hid _ b hk).1 (by omega)
     |none=>
      rw[Nat.add_sub_cancel_left,w.1,Option.filter_some,aG (rj hh w.2 hb)];rfl
    |false=>
     obtain⟨k,e,lt⟩:=xN hb
     subst e
     exact(w.2).trans (xU lt).symm⟩
   lout:=⟨λq=>o.lout.1 (j6 B q),o.lout.2⟩
   cells:=λx l q=>ns q
   stays:=o.stays
   frs:=o.frs.imp λl y=>⟨y.1,y.2.1,λb hb=>⟨λq=>(y.2.2 b hb).1 (j6 B q),(y.2.2 b hb).2⟩⟩
   tabs:=o.tabs
   xlt:=o.xlt}
end
section
variable{c:Cx}{X:Addr->Prop}{A:Around}{env:Env}{fr:Fr}{μ eQ:Mu}{σ:Sg}{s s':Shared}{n:Nat}
structure ic(m m':Mt)(bs ns:List Nat)(eA H H':HT):Prop where
 w:HW H'
 n:H'.n=H.n+ns.length
 nd:ns.Nodup
 lo:∀i∈ns,bs.length<=i/\i<eA.n
 hid:m'.hid=m.hid
 is:∀i b,eV m'.is i b=true->aj bs i=some b\/∃j,aj ns j=some i/\b=H.n+j
 obj:∀b ob,gH H' b=some ob->(b<H.n/\(∀i,aj bs i≠some b)/\gH H b=some ob)\/(∃i o0,eV m'.is i b=true/\gH eA i=some o0/\(pO ob=true\/iZ m' ob o0=true))
noncomputable def xc(μ eQ:Mu)(ns:List Nat):Mu:=μ++dH eQ ns
theorem yg{α:Type}{l k:List α}{i:Nat}{a:α}(h:aj l i=some a):aj (l++k) i=some a:=by
 rw[dj] at h ⊢
 rw[List.getElem?_append_left (List.getElem?_eq_some_iff.mp h).1];exact h
theorem Ma{α:Type}{l k:List α}{j:Nat}:aj (l++k) (l.length+j)=aj k j:=by
 rw[dj,dj,List.getElem?_append_right (gJ _ _),Nat.add_sub_cancel_left]
theorem uq{α:Type}{l k:List α}{i:Nat}{a:α}(h:aj (l++k) i=some a):aj l i=some a\/∃j,i=l.length+j/\aj k j=some a:=by
 by_cases hi:i<l.length
 · rw[dj,List.getElem?_append_left hi] at h;exact .inl ((dj _ _).trans h)
 · exact .inr ⟨i-l.length,(by omega),by rw[dj] at h ⊢;rw[List.getElem?_append_right (by omega)] at h;exact h⟩
theorem se{μ ν:Mu}{b:Addr}(h:own (μ++ν) b):own μ b\/own ν b:=h.elim λp w=>(List.mem_append.mp w.1).imp (λq=>⟨p,q,w.2⟩) λq=>⟨p,q,w.2⟩
theorem ic.cor{m m':Mt}{bs ns:List Nat}{H0 eA H':HT}(K:gB c m bs H0 σ.H)(G:ic m m' bs ns eA σ.H H')(o:Ok c X A env fr μ σ s){T:Tb}{mm:Str->Option Value}{r0:List (Nat×V)}{lq:Fr}(nx:aK A env (dH μ bs) eQ s s')
 (o':Ok (c.wit T (fE c m.hid μ mm)) X A env lq eQ ⟨eA,r0⟩ s'):qD (c.wit T (fE c m.hid μ mm)) c m' eQ (xc μ eQ ns):=
 have C:=K.cor o (T:=T) (mm:=mm)
 { loc:=λi b e=>(G.is i b e).elim (λh=>(K.at o i b h).imp λp hp=>⟨nx.ext _ _ (pV h hp),yg hp⟩) λh=>h.elim λj w=>(vh (l:=eQ) (o'.len.n▸(G.lo i (nk w.1)).2)).imp λp hp=>⟨hp,by
    rw[w.2,← o.len.n];exact Ma.trans (pV w.1 hp)⟩
   hid:=λk b hk e=>(C.hid k b hk (G.hid▸e)).imp λp w=>⟨yg w.1,w.2⟩
   hib:=λk j hk hj e=>C.hib k j hk hj (G.hid▸e)
   bi:=C.bi
   rho:=rfl
   seg:=rfl
   sp:=K.sp
   fn:=rfl
   cl:=rfl
   nm:=rfl
   prog:=rfl
   w:=rfl}
theorem VU{o:Obj}(m:gx o):¬mn o:=λv=>v.elim λvs w=>nK w.1 m
theorem ic.at{m m':Mt}{bs ns:List Nat}{H eA H':HT}(G:ic m m' bs ns eA H H'){c0:Cx}{lq:Fr}{r0:List (Nat×V)}(o':Ok c0 X A env lq eQ ⟨eA,r0⟩ s'):∀i b,aj ns i=some b->∃p,aj eQ b=some p:=
 λi b e=>vh (l:=eQ) (o'.len.n▸(G.lo b (nk e)).2)
theorem ic.fresh{m m':Mt}{bs ns:List Nat}{H0 eA H':HT}(K:gB c m bs H0 σ.H)(G:ic m m' bs ns eA σ.H H')(o:Ok c X A env fr μ σ s){c0:Cx}{r0:List (Nat×V)}{lq:Fr}(nx:aK A env (dH μ bs) eQ s s')
 (o':Ok c0 X A env lq eQ ⟨eA,r0⟩ s'){b:Addr}(hb:own (dH eQ ns) b):s.heap.get? b=none:=by
 obtain⟨j,p,hj,hp⟩:=dR.mp hb
 obtain⟨i,hi,Nk⟩:=mD (G.at o') hj
 refine(nx.fresh b (dR.mpr ⟨i,p,Nk,hp⟩)).elim (λq=>?_) id
 obtain⟨d,q,hd,hq⟩:=dR.mp q
 have ld:d<bs.length:=by have:=iP hd;unfold dH at this;rwa [List.length_map] at this
 have ne:d≠i:=λe=>aV (G.lo i (nk hi)).1 (e▸Nat.not_le.mpr ld)
 have ap:=o'.apart d i q p (nx.ext _ _ hd) Nk ne
 exact hp.elim (λe1=>hq.elim (λe2=>aV (e2.symm.trans e1) ap.1) λe2=>aV (e2.symm.trans e1) ap.2.2.1) λe1=>hq.elim (λe2=>aV (e2.symm.trans e1) ap.2.1) λe2=>aV (e2.symm.trans e1) ap.2.2.2
theorem ic.nxt{m m':Mt}{bs ns:List Nat}{H0 eA H':HT}(K:gB c m bs H0 σ.H)(G:ic m m' bs ns eA σ.H H')(o:Ok c X A env fr μ σ s){c0:Cx}{r0:List (Nat×V)}{lq:Fr}(nx:aK A env (dH μ bs) eQ s s')
 (o':Ok c0 X A env lq eQ ⟨eA,r0⟩ s'):aK A env μ (xc μ eQ ns) s s':=
 ⟨ce.app _ _,λb hb=>(se hb).imp id λq=>G.fresh K o nx o' q,nx.keep.mono (λb ob e w=>w.imp (j6 (K.at o)) id) λ_ _ _ q=>q,nx.gens,nx.os⟩
theorem gB.keep1{m:Mt}{bs:List Nat}{H0:HT}(K:gB c m bs H0 σ.H)(o:Ok c X A env fr μ σ s)(nx:aK A env (dH μ bs) eQ s s'){b:Nat}{p:Addr×Addr}(hb:aj μ b=some p)(hn:∀i,aj bs i≠some b){a:Addr}(ha:a=p.1\/a=p.2){ob:Obj}(e:s.heap.get? a=some ob):s'.heap.get? a=some ob:=by
 have ow:=dR.mpr ⟨b,p,hb,ha⟩
 have mt:=(o.own_mut ow).elim λo' w=>bB w.1 e▸w.2
 have nm:¬lN (dH μ bs) env a:=λq=>q.elim (λq=>by
  obtain⟨i,q,hi,hq⟩:=dR.mp q
  obtain⟨d,hd,hdq⟩:=mD (K.at o) hi
  have ne:d≠b:=λw=>hn i (w▸hd)
  have ap:=o.apart d b q p hdq hb ne
  exact ha.elim (λe1=>hq.elim (λe2=>ap.1 (e2.symm.trans e1)) λe2=>ap.2.2.1 (e2.symm.trans e1)) λe1=>hq.elim (λe2=>ap.2.1 (e2.symm.trans e1)) λe2=>ap.2.2.2 (e2.symm.trans e1)) λq=>o.lout.1 (q▸ow)
 exact(nx.keep.2 a ob e nm (VU mt)).elim id λq=>aV ow (o.frs.elim λl y=>(y.2.2 a ((kL y.1).mp q.1)).1)
theorem Vj{c0:Cx}{hU:Mu}{h:Heap}{p:Addr×Addr}{ob o0:aF}(d:pO ob=true)(x:RO c0 X hU h p o0):RO c X μ h p ob:=by
 cases ob with
 |dead=>exact⟨x.at1,x.at2⟩
 |_=>exact ft d
theorem ic.ok{m m':Mt}{bs ns:List Nat}{H0 eA H':HT}(K:gB c m bs H0 σ.H)(G:ic m m' bs ns eA σ.H H')(o:Ok c X A env fr μ σ s)(hh:∀k,14<=k->handedIn (c.biV k)=true){T:Tb}{mm:Str->Option Value}{lq:Fr}
 (hr:∀x v,au σ.r x=some v->∃y,mm (c.nm x)=some y/\ad c X μ s.heap v y)(o0:Ok (c.wit T (fE c m.hid μ mm)) X A env lq (dH μ bs) ⟨H0,jH σ.r⟩ s)(nx:aK A env (dH μ bs) eQ s s')
 (o':Ok (c.wit T (fE c m.hid μ mm)) X A env lq eQ ⟨eA,jH σ.r⟩ s'):Ok c X A env fr (xc μ eQ ns) ⟨H',σ.r⟩ s':=
 have C:=G.cor K o nx o'
 have st:=nx.stays o0
 have ex:=ce.app _ _
 have al:∀{i p},aj μ i=some p->∀{a},(a=p.1\/a=p.2)->∃ob,s.heap.get? a=some ob:=λ{i p} h {a} w=>(o.own_mut (dR.mpr ⟨_,_,h,w⟩)).imp λ_ z=>z.1
 have cY:∀{j p},aj (dH eQ ns) j=some p->∀{a},(a=p.1\/a=p.2)->s.heap.get? a=none:=λ{j p} h {a} w=>G.fresh K o nx o' (dR.mpr ⟨_,_,h,w⟩)
 have lr:∀{i j:Nat} {p q:Addr×Addr},aj μ i=some p->aj (dH eQ ns) j=some q->p.1≠q.1/\p.1≠q.2/\p.2≠q.1/\p.2≠q.2:=λh k=>
  ⟨ib (al h (.inl rfl)) (cY k (.inl rfl)),ib (al h (.inl rfl)) (cY k (.inr rfl)),ib (al h (.inr rfl)) (cY k (.inl rfl)),ib (al h (.inr rfl)) (cY k (.inr rfl))⟩
 { len:=⟨by unfold xc dH;rw[List.length_append,List.length_map,o.len.n,G.n],G.w⟩
   obj:=λb ob hb=>(G.obj b ob hb).elim
    (λw=>(o.obj b ob w.2.2).imp λp z=>⟨ex _ _ z.1,z.2.keep (λ_ e=>K.keep1 o nx z.1 w.2.1 (.inl rfl) e) (λ_ e=>K.keep1 o nx z.1 w.2.1 (.inr rfl) e) st ex⟩)
    λw=>by
     obtain⟨i,q,w1,w2,w3⟩:=w
     obtain⟨p,z1,z2⟩:=o'.obj i q w2
     obtain⟨p',u1,u2⟩:=C.loc i b w1
     have e:=bB u1 z1
     exact⟨p',u2,w3.elim (λd=>Vj d (e▸z2)) λw3=>(CO C w3).mp (e▸z2)⟩
   apart:=λi j p q hi hj ne=>(uq hi).elim (λh=>(uq hj).elim (λk=>o.apart i j p q h k ne) λk=>k.elim λd k=>lr h k.2)
    λh=>h.elim λd h=>(uq hj).elim (λk=>⟨(lr k h.2).1.symm,(lr k h.2).2.2.1.symm,(lr k h.2).2.1.symm,(lr k h.2).2.2.2.symm⟩) λk=>k.elim λd' k=>
     (mD (G.at o') h.2).elim λa u=>(mD (G.at o') k.2).elim λb w=>o'.apart a b p q u.2 w.2 λe=>ne (by rw[h.1,k.1,v7 G.nd u.1 (e.symm▸w.1)])
   new:=λb hb=>(se hb).elim (o.new b) λq=>o'.new b (j6 (G.at o') q)
   ns:=o'.ns.imp λm1 y=>⟨y.1,λx v hv=>by
    have h0:au (jH σ.r) x=some (aa (ir v) (.bi (1000+x)) v):=by rw[wI,hv];rfl
    refine(y.2 x _ h0).imp λz w=>⟨w.1,?_⟩
    cases hb:ir v with
    |true=>
     have w2:z=fE c m.hid μ mm (1000+x):=by have:=w.2;rw[hb] at this;exact this
     obtain⟨y0,h1,h2⟩:=hr x v hv
     have e:fE c m.hid μ mm (1000+x)=y0:=by
      unfold fE
      rw[ax (by omega)]
      cases hk:au m.hid (1000+x) with
      |some b=>exact aV (K.hid _ b hk).1 (by omega)
      |none=>
       rw[Nat.add_sub_cancel_left,h1,Option.filter_some,aG (rj hh h2 hb)];rfl
     rw[w2,e]
     exact h2.mono st ex
    |false=>
     obtain⟨k,e,lt⟩:=xN hb
     have w2:=w.2
     rw[hb] at w2
     subst e
     exact(w2).trans (xU lt)⟩
   lout:=⟨λq=>(se q).elim o.lout.1 λq=>o'.lout.1 (j6 (G.at o') q),o'.lout.2⟩
   cells:=λx l h=>(o.cells x l h).imp λp w=>⟨ex _ _ w.1,w.2⟩
   stays:=o'.stays
   frs:=by
    obtain⟨l,y1,y2,y3⟩:=o.frs
    obtain⟨l',z1,z2,z3⟩:=o'.frs
    have e:=bB z1 y1
    subst e
    exact⟨l',z1,z2,λb hb=>⟨λq=>(se q).elim (y3 b hb).1 λq=>(z3 b hb).1 (j6 (G.at o') q),(z3 b hb).2⟩⟩
   tabs:=o'.tabs
   xlt:=o'.xlt}
end
def jI(c:Cx)(k:Nat)(vs:List V)(H:HT)(r:R0)(m:Nat):Prop:=∀n,m<=n->∀X A env fr μ σ s xs Q E,σ.H=H->aJ c (n+1) A env fr->Ok c X A env fr μ σ s->ay (ad c X μ s.heap) vs xs->
 ac c X A env fr (DV c X) μ s (R0.rec (λv H=>.ok v ⟨H,σ.r⟩) (λk m v H=>.exc k m v ⟨H,σ.r⟩) r) Q E->lG c A (.ref (c.fnA k)) xs Q E s
theorem Bc(h:∀k vs H m r,c.T.O k vs H=some (m,r)->jI c k vs H r m):qS c:=λn k vs H m r e hm X A env fr μ σ s xs Q E q eo o z t=>h k vs H m r e n hm X A env fr μ σ s xs Q E q eo o z t
inductive w7(m:Mt)(bs:List Nat)(H:HT):R0->R0->Prop
 |ok {m' ns v0 v eA H'}:ic m m' bs ns eA H H'->b9 m' v v0=true->w7 m bs H (.ok v0 eA) (.ok v H')
 |exc {m' ns k a0 a v0 v eA H'}:ic m m' bs ns eA H H'->b9 m' a a0=true->b9 m' v v0=true->w7 m bs H (.exc k a0 v0 eA) (.exc k a v H')
theorem PS(hh:∀k,14<=k->handedIn (c.biV k)=true)(K:gB c m bs H0 H)(az:dp (b9 m) vs Dy=true)(R:HW H->w7 m bs H r0 r)
 (h0:∀b:Nat->Value,(∀k,k<14->b k=c.biV k)->(∀k,14<=k->handedIn (b k)=true)->jI (c.wit T b) k Dy H0 r0 d):jI c k vs H r d:=by
 intro n hn X A env fr μ σ s xs Q E q eo o z t
 subst q
 obtain⟨mm,hm,hr⟩:=o.ns
 have o0:=K.ok o hh (T:=T) hm hr
 have C:=K.cor o (T:=T) (mm:=mm)
 refine h0 (fE c m.hid μ mm) (λk h=>xU h) (λk h=>SJ hh h) n hn X A env ⟨fr.sc,[],fr.lm⟩ (dH μ bs) ⟨H0,jH σ.r⟩ s xs Q E rfl eo.wit o0 ((IR C az xs).mpr z) ?_
 cases R o.len.w with
 |ok G e=>exact λav s' y nx o' dv=>t _ s' y (G.nxt K o nx o') (G.ok K o hh hr o0 nx o') (((lR (G.cor K o nx o') _ e).1 y).mp dv)
 |exc G e1 e2=>
  refine λav s' e nx o' x=>t _ s' e (G.nxt K o nx o') (G.ok K o hh hr o0 nx o') ?_
  have C':=G.cor K o nx o'
  obtain⟨oe,ws,dx,ms,tb,x⟩:=x.ex
  exact⟨oe,ws,dx,ms,tb,x.e1,x.e2,x.e3,x.e4,x.e5,x.e6,x.e7,x.e8,x.e9,x.e10,
   λq=>(se q).elim (λq=>(o.own_mut q).elim λob w=>cg w.1 x.e10) λq=>x.e11 (j6 (G.at o') q),x.e12,
   x.e13.imp λy w=>⟨w.1,((lR C' _ e1).1 y).mp w.2⟩,x.e14.imp λy w=>⟨w.1,((lR C' _ e2).1 y).mp w.2⟩⟩
noncomputable def k6(x:R V):Option R0:=R.rec (λv s=>some (.ok v s.H)) (λk m v s=>some (.exc k m v s.H)) none x
noncomputable def Fv(r:R0)(l:List (Nat×V)):R V:=R0.rec (λv H=>.ok v ⟨H,l⟩) (λk m v H=>.exc k m v ⟨H,l⟩) r
theorem aJ.le(h:m<=n)(x:aJ c n A env fr):aJ c m A env fr:=by
 induction h with
 |refl=>exact x
 |step _ ih=>exact ih x.of_succ
theorem Z0(h:k6 (ju [] x)=some r):ju l x=Fv r l:=by
 cases x with
 |ok a s=>exact af h▸rfl
 |exc=>exact af h▸rfl
 |stuck=>exact ns h
theorem Xg(l:List (Nat×V))(h:k6 (jm T ih n k vs ⟨H,[]⟩)=some r):jm T ih n k vs ⟨H,l⟩=Fv r l:=by
 unfold jm at h ⊢
 cases e:T.O k vs H with
 |some x=>
  have h:k6 (yn n ⟨H,[]⟩ x)=some r:=by rw[e] at h;exact h
  show yn n ⟨H,l⟩ x=_
  unfold yn at h ⊢
  cases hb:Nat.ble x.1 n with
  |false=>rw[hb] at h;exact ns h
  |true=>
   rw[hb] at h
   obtain⟨x1,x2⟩:=x
   cases x2 with
   |ok v H'=>exact af h▸rfl
   |exc a b c H'=>exact af h▸rfl
 |none=>
  have h:k6 (aX (T.fns k) λf=>nz ih f vs ⟨H,[]⟩)=some r:=by rw[e] at h;exact h
  cases ef:T.fns k with
  |none=>rw[ef] at h;exact ns h
  |some f=>
   rw[ef] at h
   have h:k6 (nz ih f vs ⟨H,[]⟩)=some r:=h
   show nz ih f vs ⟨H,l⟩=_
   unfold nz at h ⊢
   cases hb:xH f.ps (sX f.ps f.df vs) with
   |none=>rw[hb] at h;exact ns h
   |some bs=>rw[hb] at h;exact Z0 h
theorem WI(S:SC c (m+1) (jm c.T (ev c.T c.mc m) m))(h:k6 (jm c.T (ev c.T c.mc m) m k vs ⟨H,[]⟩)=some r):jI c k vs H r m:=by
 intro n hn X A env fr μ σ s xs Q E q eo o z t
 subst q
 exact S X A env fr μ σ s k vs xs Q E (eo.le (Nat.succ_le_succ hn)) o z ((Xg σ.r h).symm▸t)
structure cc where
 ρ:Nat->V
 seg:Nat->List V
 ρe:∀i H,eI H 20 (ρ i) (ρ i)=some true
 ρd:∀i j,yr i j=true->i≠j->∃a b,ρ i=.str a/\ρ j=.str b/\seq a b=false
 ρt:∀i,Nat.ble 64 i=true->Nat.blt i 128=true->ca (ρ i)=true
 ρz:∀i,Nat.ble 6000 i=true->Nat.blt i 7000=true->∃d:Int,ρ i=.int d/\ρ (i+1000)=.bool (decide (d=0))
 sp:∀j,∀v∈seg j,dB v=true
def Cx.vw(c:Cx)(T:Tb)(b:Nat->Value)(v:cc):Cx:={c with T:=T,biV:=b,ρ:=v.ρ,seg:=v.seg,ρe:=v.ρe,ρd:=v.ρd,ρt:=v.ρt,ρz:=v.ρz}
structure gr(c:Cx)(b:Nat->Value):Prop where
 lt:∀k,k<14->b k=c.biV k
 ge:∀k,14<=k->handedIn (b k)=true
def CT(c:Cx)(v:cc)(k:Nat)(vs:List V)(H:HT)(r:R0)(d:Nat):Prop:=∀T b,gr c b->jI (c.vw T b v) k vs H r d
section
variable{c:Cx}{v:cc}{X:Addr->Prop}{A:Around}{env:Env}{fr:Fr}{μ:Mu}{σ:Sg}{s:Shared}{h:Heap}
theorem Jx(x:mZ (c.vw T b v) μ h a l cp):mZ (c.vw T' b v) μ h a l cp:=
 x.ex.elim λo x=>x.elim λfd x=>⟨o,fd,x.c1,x.c2,x.c3,x.c4,x.c5,x.c6,x.c7,x.c8,x.c9,x.c10,x.c11,x.c12,x.c13⟩
theorem Ug(a:V):RV (c.vw T b v) X μ h a=RV (c.vw T' b v) X μ h a:=by
 induction a with
 |cons p q hp hq=>show(iJ X h (jP (RV _ X μ h p).1 (RV _ X μ h q).2),jP (RV _ X μ h p).1 (RV _ X μ h q).2)=_;rw[hp,hq];rfl
 |clo l cp=>exact Prod.ext (funext λx=>propext (fG λa=>cO ⟨Jx,Jx⟩)) rfl
 |_=>rfl
theorem jo:ad (c.vw T b v) X μ h=ad (c.vw T' b v) X μ h:=by
 funext a x;show(RV _ X μ h a).1 x=_;rw[Ug a (T':=T')];rfl
theorem VN(o:aF):RO (c.vw T b v) X μ h p o=RO (c.vw T' b v) X μ h p o:=by
 cases o with
 |list xs=>show(_/\∃its,h.PlainList p.1 its/\ay (ad (c.vw T b v) X μ h) xs its.toList/\_)=_;rw[jo (T':=T')];rfl
 |dict bF=>show(_/\_/\∃l,h.DictOf (strKind c.prog c.w) p.1 l/\ay (λa z=>z.1=aW a.1/\ad (c.vw T b v) X μ h a.2 z.2) bF l/\_)=_;rw[jo (T':=T')];rfl
 |inst k as=>show(_/\∃m,h.Ns1 p.2 m/\(∀x w,au as x=some w->∃y,m (c.nm x)=some y/\ad (c.vw T b v) X μ h w y)/\(∀n y,m n=some y->∃x w,au as x=some w/\n=c.nm x))=_;rw[jo (T':=T')];rfl
 |opq j=>show(_/\∃its,h.PlainList p.1 its/\ay (ad (c.vw T b v) X μ h) (v.seg j) its.toList/\_)=_;rw[jo (T':=T')];rfl
 |cell w=>
  refine propext (cO (fG λy=>cO ?_))
  cases w with
  |none=>cases y<;>exact Iff.rfl
  |some w=>cases y with
   |none=>exact Iff.rfl
   |some y=>show ad (c.vw T b v) X μ h w y↔ad (c.vw T' b v) X μ h w y;rw[jo (T':=T')]
 |dead=>rfl
theorem Ok.tbl(o:Ok (c.vw T b v) X A env fr μ σ s):Ok (c.vw T' b v) X A env fr μ σ s:=
 ⟨o.len,λn ob h=>(o.obj n ob h).imp λp w=>⟨w.1,VN (T':=T') ob▸w.2⟩,o.apart,o.new,o.ns.imp λm y=>⟨y.1,λx w h=>(y.2 x w h).imp λz u=>⟨u.1,jo (T:=T) (T':=T') (c:=c) (v:=v)▸u.2⟩⟩,o.lout,o.cells,o.stays,o.frs,o.tabs,o.xlt⟩
theorem aJ.tbl(x:aJ (c.vw T b v) n A env fr):aJ (c.vw T' b v) n A env fr:=
 ⟨x.k0,x.k1,x.k2,x.k3,x.kl,x.kk,x.kfun,x.globs,x.bis,x.frame,x.handled,x.code,x.depth,x.units⟩
theorem cD.tbl{lo:Heap}(x:cD (c.vw T b v) X μ lo k m w e h):cD (c.vw T' b v) X μ lo k m w e h:=
 x.ex.elim λoe y=>y.elim λvs y=>y.elim λdx y=>y.elim λms y=>y.elim λtb y=>⟨oe,vs,dx,ms,tb,y.e1,y.e2,y.e3,y.e4,y.e5,y.e6,y.e7,y.e8,y.e9,y.e10,y.e11,y.e12,
  y.e13.imp λ_ u=>⟨u.1,jo (T:=T) (T':=T') (c:=c) (v:=v)▸u.2⟩,y.e14.imp λ_ u=>⟨u.1,jo (T:=T) (T':=T') (c:=c) (v:=v)▸u.2⟩⟩
theorem jI.tbl(x:jI (c.vw T b v) k vs H r d):jI (c.vw T' b v) k vs H r d:=by
 intro n hn X A env fr μ σ s xs Q E q eo o z t
 refine x n hn X A env fr μ σ s xs Q E q eo.tbl o.tbl (jo (T:=T') (T':=T) (c:=c) (v:=v)▸z) ?_
 cases r with
 |ok a H'=>exact λav s' y nx o' dv=>t av s' y nx o'.tbl (by show ad (c.vw T' b v) X av s'.heap a y;rw[jo (T':=T)];exact dv)
 |exc k' m w H'=>exact λav s' e nx o' x'=>t av s' e nx o'.tbl x'.tbl
end
theorem KC(K:∀c:Cx,(∀j,∀v∈c.seg j,dB v=true)->gB c m bs H0 H)(az:dp (b9 m) vs Dy=true)(R:HW H->w7 m bs H r0 r)(h0:CT c v k Dy H0 r0 d):CT c v k vs H r d:=
 λT b hb=>PS (c:=c.vw T b v) hb.ge (K _ v.sp) az R (T:=T) λb' h1 h2=>h0 T b' ⟨λk hk=>(h1 k hk).trans (hb.lt k hk),h2⟩
structure AC(c:Cx)(tb:(Nat->List V->HT->Option (Nat×R0))->Tb):Prop where
 o:∀O,(tb O).O=O
 s:∀O b v,gr c b->qS (c.vw (tb O) b v)->∀n,lw (c.vw (tb O) b v) n (ev (tb O) c.mc n)
theorem Mq(F:AC c tb)(hO:∀k vs H m r,O k vs H=some (m,r)->CT c v k vs H r m)
 (h:k6 (jm (tb O) (ev (tb O) c.mc m) m k vs ⟨H,[]⟩)=some r):CT c v k vs H r m:=λT b hb=>
 have S:=F.s O b v hb (Bc λk vs H m r e=>hO k vs H m r ((dK (dK (dK (F.o O) k) vs) H).symm.trans e) _ _ hb) (m+1)
 jI.tbl (T:=tb O) (WI (c:=c.vw (tb O) b v) S.call h)
def kR(H:HT)(l:List aF):HT:=List.rec (motive:=λ_=>HT->HT) (λH=>H) (λo _ ih H=>ih (aH H o)) l H
def lz(H:HT)(l:List (Nat×aF)):HT:=List.rec (motive:=λ_=>HT->HT) (λH=>H) (λp _ ih H=>ih (pH H p.1 p.2)) l H
def co(a:Nat)(k:Nat):List Nat:=Nat.rec (motive:=λ_=>Nat->List Nat) (λ_=>[]) (λ_ ih a=>a::ih (Nat.succ a)) k a
def aD{α β:Type}(o:Option α)(f:α->Option β):Option β:=a7 o f .none
def iO(m:Mt)(a:V):Option V:=
 V.rec (some .none) (λb=>some (.bool b)) (λi=>some (.int i)) (λs=>some (.str s)) (some .nil) (λ_ q hp hq=>Option.rec (aD hp λx=>aD hq λy=>some (.cons x y)) (λ_=>.none) (cu q))
  (λn=>aD (au m.is n) λb=>some (.loc b)) (λk=>some (.fn k)) (λk=>some (.cls k))
  (λk=>aa (Nat.blt k 14) (some (.bi k)) (aD (au m.hid k) λw=>Option.rec (aD (dX w) λj=>aa (Nat.blt j 14) .none (some (.bi j))) (λb=>some (.loc b)) (ck w))) (λ_ _=>.none) (λn=>some (.atom n)) a
def aN{α β:Type}(f:α->Option β)(l:List α):Option (List β):=List.rec (some []) (λx _ ih=>aD (f x) λy=>aD ih λr=>some (y::r)) l
def Cr(m:Mt)(o:aF):Option aF:=
 aF.rec (λxs=>aD (aN (iO m) xs) λys=>some (.list ys)) (λxs=>aD (aN (λp=>aD (iO m p.2) λv=>some (p.1,v)) xs) λys=>some (.dict ys))
  (λk xs=>aD (aN (λp=>aD (iO m p.2) λv=>some (p.1,v)) xs) λys=>some (.inst k ys)) (λv=>Option.rec (some (.cell .none)) (λv=>aD (iO m v) λw=>some (.cell (some w))) v) (λj=>some (.opq j)) (some .dead) o
theorem vT(l:List aF):∀{H:HT},HW H->HW (kR H l)/\(kR H l).n=H.n+l.length/\∀j,gH (kR H l) j=if j<H.n then gH H j else aj l (j-H.n):=by
 induction l with
 |nil=>exact λ{H} w=>⟨w,rfl,λj=>by
  show gH H j=_
  by_cases hj:j<H.n
  · rw[aG hj]
  · rw[ax hj]
    cases e:gH H j with
    |none=>rfl
    |some o=>exact aV (w.lt e) hj⟩
 |cons o r ih=>
  intro H w
  obtain⟨a,b,d⟩:=ih (w.add o)
  refine⟨a,b.trans (by show H.n+1+r.length=H.n+(r.length+1);omega),λj=>(d j).trans ?_⟩
  show(if j<H.n+1 then gH (aH H o) j else aj r (j-(H.n+1)))=_
  rw[w.aget]
  by_cases h1:j<H.n
  · rw[aG h1,aG (by omega),ax (by omega)]
  · rw[ax h1]
    by_cases h2:j=H.n
    · subst h2;rw[aG (by omega),aG rfl,Nat.sub_self];rfl
    · rw[ax (by omega),show j-H.n=(j-(H.n+1))+1 by omega];rfl
theorem wJ(l:List aF):HW (hL l)/\(hL l).n=l.length/\∀j,gH (hL l) j=aj l j:=by
 obtain⟨a,b,d⟩:=vT l rE
 exact⟨a,b.trans (dY _),λj=>(d j).trans (ax (Nat.not_lt_zero j))⟩
theorem Sy(l:List (Nat×aF)):∀{H:HT},HW H->HW (lz H l)/\(lz H l).n=H.n:=by
 induction l with
 |nil=>exact λw=>⟨w,rfl⟩
 |cons p r ih=>exact λw=>⟨(ih (w.put p.1 p.2)).1,(ih (w.put p.1 p.2)).2⟩
theorem jc:∀(k a j:Nat),aj (co a k) j=if j<k then some (a+j) else none
 |0,a,j=>by rw[ax (Nat.not_lt_zero j)];rfl
 |k+1,a,0=>by rw[aG (Nat.succ_pos k)];rfl
 |k+1,a,j+1=>by
  show aj (co (a+1) k) j=_
  rw[jc k (a+1) j]
  by_cases h:j<k
  · rw[aG h,aG (Nat.succ_lt_succ h)];exact aq some (by omega)
  · rw[ax h,ax (by omega)]
theorem qi:∀(k a:Nat),(co a k).length=k
 |0,_=>rfl
 |k+1,a=>aq (· +1) (qi k (a+1))
theorem Sx(h:i∈co a k):a<=i/\i<a+k:=by
 obtain⟨j,hj⟩:=Kk h
 rw[jc] at hj
 by_cases hk:j<k
 · rw[aG hk] at hj;have:=af hj;omega
 · rw[ax hk] at hj;exact ns hj
theorem ZA(h:∀i j b,aj l i=some b->aj l j=some b->i=j):l.Nodup:=by
 refine List.pairwise_iff_getElem.mpr λi j hi hj lt e=>Nat.ne_of_lt lt (h i j l[i] (by rw[dj];exact List.getElem?_eq_getElem hi) (by rw[dj,List.getElem?_eq_getElem hj];exact aq some e.symm))
theorem Yt(a k:Nat):(co a k).Nodup:=ZA λi j b hi hj=>by
 rw[jc] at hi hj
 by_cases h1:i<k
 · by_cases h2:j<k
   · rw[aG h1] at hi;rw[aG h2] at hj;have:=af hi;have:=af hj;omega
   · rw[ax h2] at hj;exact ns hj
 · rw[ax h1] at hi;exact ns hi
theorem lL:eN x l=true↔x∈l:=by
 induction l with
 |nil=>exact⟨λh=>ft h,λh=>nomatch h⟩
 |cons y r ih=>
  show aa (Nat.beq x y) true (eN x r)=true↔_
  by_cases h:x=y
  · subst h;rw[bx.mpr rfl];exact⟨λ_=>.head _,λ_=>rfl⟩
  · rw[ee.mpr h,cW,ih];exact⟨.tail _,λq=>(List.mem_cons.mp q).elim (λq=>aV q h) id⟩
theorem xG(h:l7 l=true):l.Nodup:=by
 induction l with
 |nil=>exact .nil
 |cons x r ih=>
  have h:=cf (h)
  exact List.nodup_cons.mpr ⟨λq=>tf ((lL.mpr q).symm.trans h.1),ih h.2⟩
theorem YB(l:List (Nat×Nat)):au l i=some b->eV l i b=true:=by
 induction l with
 |nil=>exact λe=>ns e
 |cons p r ih=>
  obtain⟨j,d⟩:=p
  intro e
  rw[dA] at e
  refine(t9 j d r i b).mpr ?_
  by_cases h:j=i
  · rw[aG h] at e;exact .inl ⟨h,af e⟩
  · rw[ax h] at e;exact .inr (ih e)
theorem bp{α β:Type}{o:Option α}{f:α->Option β}{b:β}{G:Prop}(h:aD o f=some b)(k:∀a,o=some a->f a=some b->G):G:=by cases o with|none=>exact ns h|some a=>exact k a rfl h
theorem sJ(k:Nat):dM (some k) k=true:=Nat.beq_refl k
theorem yk(a:List Nat):seq a a=true:=fk.mpr rfl
theorem WT{m:Mt}{a b:V}(h:iO m a=some b)(k:cu a=none):cu b=none:=by
 cases a with
 |cons p q=>
  have h:Option.rec (aD (iO m p) λx=>aD (iO m q) λy=>some (.cons x y)) (λ_=>.none) (cu q)=some b:=h
  cases hq:cu q with
  |some _=>rw[hq] at h;exact ns h
  |none=>rw[hq] at h;exact bp h λx _ h=>bp h λy _ h=>af h▸rfl
 |loc n=>exact bp (h) λx _ h=>af h▸rfl
 |bi j=>
  have h:aa (Nat.blt j 14) (some (.bi j)) (aD (au m.hid j) λw=>Option.rec (aD (dX w) λj=>aa (Nat.blt j 14) .none (some (.bi j))) (λb=>some (.loc b)) (ck w))=some b:=h
  cases hj:Nat.blt j 14 with
  |true=>rw[hj] at h;exact af h▸rfl
  |false=>
   rw[hj] at h
   refine bp h λw _ h=>?_
   cases hl:ck w with
   |some _=>rw[hl] at h;exact af h▸rfl
   |none=>
    rw[hl] at h
    refine bp (h) λj' _ h=>?_
    cases Nl:Nat.blt j' 14 with
    |true=>rw[Nl] at h;exact ns h
    |false=>rw[Nl] at h;exact af h▸rfl
 |clo=>exact ns h
 |atom=>exact sn k
 |_=>exact af h▸rfl
theorem pB{m:Mt}(a:V):∀{b:V},iO m a=some b->b9 m b a=true:=by
 induction a with
 |none|nil=>exact λh=>af h▸rfl
 |bool x=>exact λh=>af h▸by cases x<;>rfl
 |int i=>exact λh=>af h▸decide_eq_true rfl
 |str s=>exact λh=>af h▸yk s
 |fn k|cls k|atom k=>exact λh=>af h▸sJ k
 |clo=>exact λh=>ns h
 |loc n=>exact λ{b} h=>bp (h) λx hx h=>af h▸YB _ hx
 |cons p q hp hq=>
  intro b h
  have h:Option.rec (aD (iO m p) λx=>aD (iO m q) λy=>some (.cons x y)) (λ_=>.none) (cu q)=some b:=h
  cases gN:cu q with
  |some _=>rw[gN] at h;exact ns h
  |none=>
   rw[gN] at h
   refine bp h λx hx h=>bp h λy hy h=>af h▸?_
   show aa (b9 m x p) (Option.rec (b9 m y q) (λ_=>false) (cu y)) false=true
   rw[hp hx,WT hy gN]
   exact hq hy
 |bi j=>
  intro b h
  have h:aa (Nat.blt j 14) (some (.bi j)) (aD (au m.hid j) λw=>Option.rec (aD (dX w) λj=>aa (Nat.blt j 14) .none (some (.bi j))) (λb=>some (.loc b)) (ck w))=some b:=h
  cases hj:Nat.blt j 14 with
  |true=>
   rw[hj] at h
   refine af h▸?_
   show aa (Nat.blt j 14) (dM (some j) j) _=true
   rw[hj];exact sJ j
  |false=>
   rw[hj] at h
   have hle:=Nat.ble_eq_true_of_le (Nat.le_of_not_lt λq=>ft (hj.symm.trans (mG q)))
   refine bp h λw hw h=>?_
   cases hl:ck w with
   |some n=>
    rw[hl] at h
    refine af h▸?_
    show aa (Nat.ble 14 j) (Option.rec false (λw=>dM (ck w) n) (au m.hid j)) false=true
    rw[hle,hw]
    show dM (ck w) n=true
    rw[hl];exact sJ n
   |none=>
    rw[hl] at h
    refine bp (h) λk hk h=>?_
    cases Dz:Nat.blt k 14 with
    |true=>rw[Dz] at h;exact ns h
    |false=>
     rw[Dz] at h
     refine af h▸?_
     show aa (Nat.blt k 14) (dM (some j) k) (aa (Nat.ble 14 j) (Option.rec false (λw=>dM (dX w) k) (au m.hid j)) false)=true
     rw[Dz,hle,hw]
     show dM (dX w) k=true
     rw[hk];exact sJ k
structure BJ(m m':Mt):Prop where
 is:∀i b,eV m.is i b=true->eV m'.is i b=true
 hid:m'.hid=m.hid
theorem Uk(L:BJ m m')(b:V):∀{a:V},b9 m b a=true->b9 m' b a=true:=by
 induction b with
 |cons p q hp hq=>
  exact λ{a} e=>bV (e) λr hr e=>by
   have e:=aO e
   show Option.rec false (λr:V×V=>aa (b9 m' p r.1) (Option.rec (b9 m' q r.2) (λ_=>false) (cu q)) false) (wo a)=true
   rw[hr]
   show aa (b9 m' p r.1) (Option.rec (b9 m' q r.2) (λ_=>false) (cu q)) false=true
   rw[hp e.1]
   have e2:=e.2
   cases gN:cu q with
   |some _=>rw[gN] at e2;exact ft e2
   |none=>rw[gN] at e2;exact hq e2
 |loc n=>
  intro a e
  have e:Option.rec (Option.rec false (λk=>aa (Nat.ble 14 k) (Option.rec false (λw=>dM (ck w) n) (au m.hid k)) false) (dX a)) (λi=>eV m.is i n) (ck a)=true:=e
  show Option.rec (Option.rec false (λk=>aa (Nat.ble 14 k) (Option.rec false (λw=>dM (ck w) n) (au m'.hid k)) false) (dX a)) (λi=>eV m'.is i n) (ck a)=true
  rw[L.hid]
  cases hl:ck a with
  |some i=>rw[hl] at e;exact L.is i n e
  |none=>rw[hl] at e;exact e
 |bi k=>
  intro a e
  have e:=e
  show aa (Nat.blt k 14) (dM (dX a) k) (Option.rec false (λj=>aa (Nat.ble 14 j) (Option.rec false (λw=>dM (dX w) k) (au m'.hid j)) false) (dX a))=true
  rw[L.hid];exact e
 |_=>exact λe=>e
theorem Bn{α β:Type}{f g:α->β->Bool}(k:∀x y,f x y=true->g x y=true)(l:List α):∀{l0:List β},dp f l l0=true->dp g l l0=true:=by
 induction l with
 |nil=>exact λe=>e
 |cons x r ih=>
  intro l0 e
  cases l0 with
  |nil=>exact ft e
  |cons y q=>
   have e:=aO e
   show aa (g x y) (dp g r q) false=true
   rw[k x y e.1];exact ih e.2
theorem Xi{m m':Mt}(L:BJ m m')(e:iZ m o o0=true):iZ m' o o0=true:=by
 have kk:∀x y,b9 m x y=true->b9 m' x y=true:=λx y=>Uk L x
 cases o with
 |list xs=>
  refine bV e λys hy e=>?_
  show Option.rec false (λys=>dp (b9 m') xs ys) (mh o0)=true
  rw[hy];exact Bn kk xs e
 |dict xs=>
  refine bV e λys hy e=>?_
  show Option.rec false (λys=>dp (λx y=>aa (seq x.1 y.1) (b9 m' x.2 y.2) false) xs ys) (xt o0)=true
  rw[hy]
  exact Bn (λx y e=>by have e:=aO e;rw[e.1];exact kk _ _ e.2) xs e
 |inst k xs=>
  refine bV e λy hy e=>?_
  show Option.rec false (λy=>aa (Nat.beq k y.1) (dp (λx y=>aa (Nat.beq x.1 y.1) (b9 m' x.2 y.2) false) xs y.2) false) (yo o0)=true
  rw[hy]
  have e:=aO e
  show aa _ _ _=true
  rw[e.1]
  exact Bn (λx y e=>by have e:=aO e;rw[e.1];exact kk _ _ e.2) xs e.2
 |cell v=>
  refine bV e λw hw e=>?_
  show Option.rec false (λw=>Id (b9 m') v w) (rq o0)=true
  rw[hw]
  cases v with
  |none=>exact e
  |some v=>cases w with
   |none=>exact e
   |some w=>exact kk v w e
 |opq j=>exact e
 |dead=>exact e
theorem v5{α β:Type}{f:α->Option β}{g:β->α->Bool}(k:∀x y,f x=some y->g y x=true)(l:List α):∀{r:List β},aN f l=some r->dp g r l=true:=by
 induction l with
 |nil=>exact λe=>af e▸rfl
 |cons x q ih=>
  intro r e
  refine bp (e) λy hy e=>bp e λr' hr e=>af e▸?_
  show aa (g y x) (dp g r' q) false=true
  rw[k x y hy];exact ih hr
theorem G9{m:Mt}{o o':aF}(h:Cr m o=some o'):iZ m o' o=true:=by
 cases o with
 |list xs=>exact bp (h) λys hy e=>af e▸v5 (λx y=>pB x) xs hy
 |dict xs=>
  refine bp (h) λys hy e=>af e▸?_
  exact v5 (g:=λx y=>aa (seq x.1 y.1) (b9 m x.2 y.2) false) (λx y e=>bp e λw hw e=>af e▸by rw[yk];exact pB _ hw) xs hy
 |inst k xs=>
  refine bp (h) λys hy e=>af e▸?_
  show aa (Nat.beq k k) (dp (λx y=>aa (Nat.beq x.1 y.1) (b9 m x.2 y.2) false) ys xs) false=true
  rw[Nat.beq_refl]
  exact v5 (g:=λx y=>aa (Nat.beq x.1 y.1) (b9 m x.2 y.2) false) (λx y e=>bp e λw hw e=>af e▸by rw[Nat.beq_refl];exact pB _ hw) xs hy
 |cell v=>
  cases v with
  |none=>exact af h▸rfl
  |some v=>exact bp (h) λw hw e=>af e▸(pB v hw:b9 m w v=true)
 |opq j=>exact af h▸sJ j
 |dead=>exact af h▸rfl
inductive gF|arg (j:Nat)|at (p f:Nat)|tup (q:gF) (j:Nat)
inductive Rz|ok (v:V)|exc (k:Nat) (m v:V)
def Rz.at(r:Rz)(H:HT):R0:=Rz.rec (λv=>.ok v H) (λk m v=>.exc k m v H) r
structure En where
 k:Nat
 vs:List V
 l0:List aF
 pl:List gF
 hd:List (Nat×gF)
 d:Nat
 r:Rz
 ch:List (Nat×aF)
 nw:List aF
 np:List gF
def En.end(e:En):HT:=kR (lz (hL e.l0) e.ch) e.nw
def Um(o:aF)(f:Nat):Option V:=aF.rec (λxs=>aj xs f) (λbF=>a7 (aj bF f) (λp=>some p.2) .none) (λ_ as=>au as f) (λv=>v) (λ_=>.none) .none o
def Iv(vs:List V)(H:HT)(p:gF)(bs:List Nat):Option V:=
 gF.rec (λj=>aj vs j) (λp f=>a7 (aj bs p) (λb=>a7 (gH H b) (λo=>Um o f) .none) .none) (λ_ j ih=>a7 ih (λv=>a7 (cG v) (λl=>aj l j) .none) .none) p
def qs(vs:List V)(H:HT)(pl:List gF):List Nat->Option (List Nat):=
 List.rec (λbs=>some bs) (λp _ ih bs=>a7 (Iv vs H p bs) (λv=>a7 (ck v) (λb=>ih (app bs [b])) .none) .none) pl
def Zl(vs:List V)(H:HT)(bs:List Nat)(hd:List (Nat×gF)):Option (List (Nat×V)):=
 List.rec (some []) (λp _ ih=>a7 (Iv vs H p.2 bs) (λv=>a7 ih (λl=>some ((p.1,v)::l)) .none) .none) hd
def Fh(H:HT)(hid:List (Nat×V)):Bool:=List.rec true (λp _ ih=>aa (Nat.blt p.1 1000) (aa (Option.rec true (λb=>(gH H b).isSome) (ck p.2)) ih false) false) hid
def uz(m:Mt)(bs:List Nat)(l0:List aF)(H:HT):Bool:=
 aa (l7 bs) (aa (Fh H m.hid) (dp (λb o0=>Option.rec false (λo=>iZ m o o0) (gH H b)) bs l0) false) false
def Ft(m:Mt)(bs:List Nat)(ch:List (Nat×aF)):Option (List (Nat×aF)):=aN (λp=>aD (aj bs p.1) λb=>aD (Cr m p.2) λo=>some (b,o)) ch
def WA(m:Mt)(r:Rz):Option Rz:=Rz.rec (λv=>aD (iO m v) λw=>some (.ok w)) (λk a v=>aD (iO m a) λb=>aD (iO m v) λw=>some (.exc k b w)) r
def Rj(e:En)(bs:List Nat)(H:HT)(m:Mt):Option (Nat×R0):=
 aD (Ft m bs e.ch) λch=>aD (aN (Cr m) e.nw) λnw=>aD (WA m e.r) λr=>some (e.d,r.at (kR (lz H ch) nw))
def Sj(e:En)(vs:List V)(H:HT)(bs:List Nat)(hid:List (Nat×V)):Option (Nat×R0):=
 aa (aa (uz ⟨db bs 0,hid⟩ bs e.l0 H) (dp (b9 ⟨db bs 0,hid⟩) vs e.vs) false) (Rj e bs H ⟨db (app bs (co H.n (len e.nw))) 0,hid⟩) .none
def sG(e:En)(vs:List V)(H:HT):Option (Nat×R0):=aD (qs vs H e.pl []) λbs=>aD (Zl vs H bs e.hd) λhid=>Sj e vs H bs hid
def lZ(es:List En)(k:Nat)(vs:List V)(H:HT):Option (Nat×R0):=
 List.rec .none (λe _ ih=>aa (Nat.beq e.k k) (Option.rec ih (λx=>some x) (sG e vs H)) ih) es
def bU(c:Cx)(v:cc)(e:En):Prop:=CT c v e.k e.vs (hL e.l0) (e.r.at e.end) e.d
theorem yw{α β:Type}{f:α->β->Bool}{l:List α}:∀{l0:List β},dp f l l0=true->l.length=l0.length/\∀i y,aj l0 i=some y->∃x,aj l i=some x/\f x y=true:=by
 induction l with
 |nil=>exact λ{l0} e=>by cases l0 with|nil=>exact⟨rfl,λi y q=>ns q⟩|cons=>exact ft e
 |cons x r ih=>
  intro l0 e
  cases l0 with
  |nil=>exact ft e
  |cons y q=>
   have e:=aO e
   exact⟨aq (· +1) (ih e.2).1,λi z hz=>by
    cases i with
    |zero=>exact⟨x,rfl,af hz▸e.1⟩
    |succ i=>exact(ih e.2).2 i z hz⟩
theorem o6{α:Type}{l:List (Nat×α)}{v:α}(h:au l k=some v):(k,v)∈l:=by
 induction l with
 |nil=>exact ns h
 |cons p r ih=>
  obtain⟨j,w⟩:=p
  rw[dA] at h
  by_cases e:j=k
  · rw[aG e] at h;exact e▸af h▸.head _
  · rw[ax e] at h;exact .tail _ (ih h)
theorem Pe(h:Fh H hid=true):∀p∈hid,p.1<1000/\∀b,p.2=.loc b->(gH H b).isSome=true:=by
 induction hid with
 |nil=>exact λp q=>nomatch q
 |cons p r ih=>
  have h:=aO (h)
  have h2:=aO h.2
  refine bD ⟨⟨cH h.1,λb e=>?_⟩,ih h2.2⟩
  have:=h2.1
  rw[e] at this
  exact this
theorem BG{bs:List Nat}{hid:List (Nat×V)}{l0:List aF}(h:uz ⟨db bs 0,hid⟩ bs l0 H=true)(c:Cx)(sp:∀j,∀v∈c.seg j,dB v=true):gB c ⟨db bs 0,hid⟩ bs (hL l0) H:=
 have h1:=aO h
 have h2:=aO h1.2
 have h3:=yw h2.2
 { is:=rfl
   n:=h3.1.trans (wJ l0).2.1.symm
   w:=(wJ l0).1
   nd:=xG h1.1
   obj:=λi o0 e=>(h3.2 i o0 ((wJ l0).2.2 i▸e)).elim λb w=>ob w.2 (λo ho e=>⟨b,o,w.1,ho,e⟩) λe=>ft e
   hid:=λk v e=>Pe h2.1 (k,v) (o6 e)
   sp:=sp}
structure ny(m:Mt)(bs:List Nat)(H kn Ht:HT):Prop where
 w0:HW kn
 w:HW Ht
 n0:kn.n=bs.length
 n:Ht.n=H.n
 rel:∀i b,aj bs i=some b->∃o0 o,gH kn i=some o0/\gH Ht b=some o/\iZ m o o0=true
 out:∀b,(∀i,aj bs i≠some b)->gH Ht b=gH H b
theorem ny.put(S:ny m bs H kn Ht)(nd:bs.Nodup)(hb:aj bs i=some b)(e:iZ m o' o=true):ny m bs H (pH kn i o) (pH Ht b o') where
 w0:=S.w0.put i o
 w:=S.w.put b o'
 n0:=S.n0
 n:=S.n
 rel:=λj d hd=>by
  obtain⟨o1,o2,h1,h2,h3⟩:=S.rel j d hd
  rw[qR,qR]
  by_cases ej:j=i
  · subst ej
    have ed:=bB hb hd
    subst ed
    rw[aG rfl,aG rfl,h1,h2]
    exact⟨o,o',rfl,rfl,e⟩
  · rw[ax ej,ax λq:d=b=>ej (v7 nd hd (q▸hb))]
    exact⟨o1,o2,h1,h2,h3⟩
 out:=λd hd=>by
  rw[qR,ax λq:d=b=>hd i (q▸hb)]
  exact S.out d hd
theorem ny.puts(nd:bs.Nodup)(l:List (Nat×aF)):∀{kn Ht:HT} {l':List (Nat×aF)},ny m bs H kn Ht->Ft m bs l=some l'->ny m bs H (lz kn l) (lz Ht l'):=by
 induction l with
 |nil=>exact λS e=>af e▸S
 |cons p r ih=>
  exact λ{kn Ht l'} S e=>bp (e) λy hy e=>bp e λr' hr e=>af e▸
   bp hy λb hb hy=>bp hy λo ho hy=>by
    obtain rfl:=af hy
    exact ih (Ht:=pH Ht b o) (l':=r') (S.put nd hb (G9 ho)) hr
theorem BM(h:eV (db bs 0) i b=true):aj bs i=some b:=(D4 bs h).elim λj w=>by rw[w.1,dY];exact w.2
theorem A9(h:aj bs i=some b):eV (db bs 0) i b=true:=by have:=Tx bs (k:=0) h;rwa [dY] at this
theorem OY{bs:List Nat}{hid:List (Nat×V)}(S:ny ⟨db (bs++co H.n nw.length) 0,hid⟩ bs H kn Ht)(hn:dp (iZ ⟨db (bs++co H.n nw.length) 0,hid⟩) DA nw=true):
 ic ⟨db bs 0,hid⟩ ⟨db (bs++co H.n nw.length) 0,hid⟩ bs (co bs.length nw.length) (kR kn nw) H (kR Ht DA):=by
 obtain⟨a1,a2,a3⟩:=vT nw S.w0
 obtain⟨b1,b2,b3⟩:=vT DA S.w
 have hl:=(yw hn).1
 refine⟨b1,by rw[b2,S.n,hl,qi],Yt _ _,λi hi=>?_,rfl,λi b h=>?_,λb ob h=>?_⟩
 · have:=Sx hi;rw[a2,S.n0];exact this
 · refine(uq (BM h)).imp id λw=>w.elim λj w=>⟨j,?_,?_⟩
   · have h2:=w.2
     rw[jc] at h2 ⊢
     by_cases q:j<nw.length
     · rw[aG q,w.1]
     · rw[ax q] at h2;exact ns h2
   · have h2:=w.2
     rw[jc] at h2
     by_cases q:j<nw.length
     · rw[aG q] at h2;exact(af h2).symm
     · rw[ax q] at h2;exact ns h2
 · rw[b3,S.n] at h
   by_cases hb:b<H.n
   · rw[aG hb] at h
     by_cases hx:∃i,aj bs i=some b
     · obtain⟨i,hi⟩:=hx
       obtain⟨o0,o,h1,h2,h3⟩:=S.rel i b hi
       refine .inr ⟨i,o0,A9 (yg hi),?_,.inr (bB h2 h▸h3)⟩
       rw[a3,aG (S.n0▸iP hi)];exact h1
     · exact .inl ⟨hb,λi q=>hx ⟨i,q⟩,S.out b (λi q=>hx ⟨i,q⟩)▸h⟩
   · rw[ax hb] at h
     have lt:=iP h
     obtain⟨o0,h0⟩:=vh (l:=nw) (hl▸lt)
     obtain⟨o1,h1,h2⟩:=(yw hn).2 _ o0 h0
     refine .inr ⟨bs.length+(b-H.n),o0,A9 ?_,?_,.inr (bB h1 h▸h2)⟩
     · rw[Ma,jc,aG (hl▸lt)];exact aq some (by omega)
     · rw[a3,S.n0,ax (by omega),Nat.add_sub_cancel_left];exact h0
theorem Gq(E:bU c v e)(h:sG e vs H=some (d,r)):CT c v e.k vs H r d:=
 bp h λbs _ h=>bp h λhid _ h=>by
  have h:=cs (h)
  have h1:=aO h.1
  have h2:=h.2
  rw[cq,bH] at h2
  have K:=BG h1.1
  refine bp h2 λch hch h2=>bp h2 λnw hnw h2=>bp h2 λr' hr h2=>?_
  have ed:=aq Prod.fst (af h2)
  have er:=aq Prod.snd (af h2)
  subst ed;subst er
  refine KC K h1.2 (λw=>?_) E
  have L:BJ ⟨db bs 0,hid⟩ ⟨db (bs++co H.n e.nw.length) 0,hid⟩:=⟨λi b q=>A9 (yg (BM q)),rfl⟩
  have Kd:gB (c.vw c.T c.biV v) ⟨db bs 0,hid⟩ bs (hL e.l0) H:=K _ v.sp
  have S:ny ⟨db (bs++co H.n e.nw.length) 0,hid⟩ bs H (hL e.l0) H:=⟨Kd.w,w,Kd.n.symm,rfl,λi b q=>by
   obtain⟨o0,ho⟩:=Kd.w.some (Kd.n▸iP q)
   obtain⟨b',o,z1,z2,z3⟩:=Kd.obj i o0 ho
   exact⟨o0,o,ho,bB z1 q▸z2,Xi L z3⟩,λb _=>rfl⟩
  have G:=OY (S.puts Kd.nd e.ch hch) (v5 (λx y=>G9) e.nw hnw)
  revert hr
  cases e.r with
  |ok v=>exact λhr=>bp hr λx hx hr=>af hr▸.ok G (pB v hx)
  |exc k a v=>exact λhr=>bp hr λx hx hr=>bp hr λy hy hr=>af hr▸.exc G (pB a hx) (pB v hy)
theorem u3(h:∀e∈es,bU c v e)(q:lZ es k vs H=some (d,r)):CT c v k vs H r d:=by
 induction es with
 |nil=>exact ns q
 |cons e l ih=>
  have w:=ug h
  have q:aa (Nat.beq e.k k) (Option.rec (lZ l k vs H) (λx=>some x) (sG e vs H)) (lZ l k vs H)=some (d,r):=q
  cases hk:Nat.beq e.k k with
  |false=>rw[hk] at q;exact ih w.2 q
  |true=>
   rw[hk] at q
   cases hu:sG e vs H with
   |none=>rw[hu] at q;exact ih w.2 q
   |some x=>rw[hu] at q;exact bx.mp hk▸Gq w.1 (hu.trans q)
def nR(bs:List Nat):Nat->List (Nat×Nat):=List.rec (λ_=>[]) (λb _ ih i=>(b,i)::ih (Nat.succ i)) bs
def zG(k:Nat):Nat->List (Nat×V):=Nat.rec (λ_=>[]) (λ_ ih a=>(a,.bi a)::ih (Nat.succ a)) k
def iS:List (Nat×V):=zG 26 14
def LK(m:Mt)(ob o1:aF):Bool:=aa (pO ob) true (iZ m ob o1)
def Qr(m:Mt)(G H1:HT)(b i:Nat):Bool:=Option.rec false (λob=>Option.rec false (λo1=>LK m ob o1) (gH H1 i)) (gH G b)
def IA(a n:Nat)(l:List Nat):Bool:=List.rec true (λi _ ih=>aa (Nat.ble a i) (aa (Nat.blt i n) ih false) false) l
def Hx(e:En)(qa:List V)(H1:HT)(vs:List V)(full:List Nat):Bool:=
 aa (l7 full) (aa (Nat.beq (len full) (Nat.add (len e.l0) (len e.nw))) (aa (IA (len e.l0) H1.n (nL (len e.l0) full)) (aa (dp (Qr ⟨nR full 0,iS⟩ e.end H1) (co 0 (len full)) full) (dp (b9 ⟨nR full 0,iS⟩) vs qa) false) false) false) false
def Ml(e:En)(qa:List V)(H1:HT)(vs:List V):Bool:=Option.rec false (λfull=>Hx e qa H1 vs full) (qs qa H1 e.np (co 0 (len e.l0)))
def GK(e:En)(r1:R0):Bool:=
 R0.rec (λv1 H1=>Rz.rec (λv=>Ml e [v1] H1 [v]) (λ_ _ _=>false) e.r) (λk1 m1 v1 H1=>Rz.rec (λ_=>false) (λk m v=>aa (Nat.beq k k1) (Ml e [m1,v1] H1 [m,v]) false) e.r) r1
def Zs(e:En)(r1:R0):Bool:=
 aa (uz ⟨db (co 0 (len e.l0)) 0,iS⟩ (co 0 (len e.l0)) e.l0 (hL e.l0)) (aa (dp (b9 ⟨db (co 0 (len e.l0)) 0,iS⟩) e.vs e.vs) (GK e r1) false) false
def fV(T:Tb)(mc:Nat->Option Nat)(e:En):Bool:=Option.rec false (λr1=>Zs e r1) (k6 (jm T (ev T mc e.d) e.d e.k e.vs ⟨hL e.l0,[]⟩))
theorem Vc(bs:List Nat):∀{k i b:Nat},eV (nR bs k) i b=true->∃j,b=k+j/\aj bs j=some i:=by
 induction bs with
 |nil=>exact λe=>ft e
 |cons d r ih=>exact λ{k i b} e=>((t9 d k (nR r (Nat.succ k)) i b).mp e).elim (λw=>⟨0,w.2.symm,aq some w.1⟩) λw=>(ih w).elim λj z=>⟨j+1,z.1.trans (by omega),z.2⟩
theorem Yu(bs:List Nat):∀{k j i:Nat},aj bs j=some i->eV (nR bs k) i (k+j)=true:=by
 induction bs with
 |nil=>exact λe=>ns e
 |cons d r ih=>
  intro k j i e
  refine(t9 d k (nR r (Nat.succ k)) i (k+j)).mpr ?_
  cases j with
  |zero=>exact .inl ⟨af e,rfl⟩
  |succ j=>exact .inr ((by omega:Nat.succ k+j=k+(j+1))▸ih e)
theorem oD{α β:Type}{o:Option α}{f:α->Option β}{b:β}{G:Prop}(h:a7 o f none=some b)(k:∀a,o=some a->f a=some b->G):G:=by cases o with|none=>exact ns h|some a=>exact k a rfl h
theorem RB{vs:List V}{H:HT}(pl:List gF):∀{bs full:List Nat},qs vs H pl bs=some full->∃l,full=bs++l:=by
 induction pl with
 |nil=>exact λe=>⟨[],by rw[List.append_nil];exact(af e).symm⟩
 |cons p r ih=>
  exact λ{bs full} e=>oD (e) λv _ e=>oD e λb _ e=>(ih e).elim λl w=>⟨b::l,by rw[w,cq,List.append_assoc];rfl⟩
theorem Yg(h:IA a n l=true):∀i∈l,a<=i/\i<n:=by
 induction l with
 |nil=>exact λi q=>nomatch q
 |cons x r ih=>
  have h:=aO (h)
  have h2:=aO h.2
  exact bD ⟨⟨dO h.1,cH h2.1⟩,ih h2.2⟩
theorem VM(w:aj (co 0 n) b=some i):aj (co 0 n) i=some b:=by
 rw[jc] at w
 by_cases q:b<n
 · rw[aG q,dY] at w
   obtain rfl:=af w
   rw[jc,aG q,dY]
 · rw[ax q] at w;exact ns w
theorem Pt{ob o1:aF}(h:LK m ob o1=true):pO ob=true\/iZ m ob o1=true:=by
 have h:aa (pO ob) true (iZ m ob o1)=true:=h
 cases e:pO ob with
 |true=>exact .inl rfl
 |false=>rw[e] at h;exact .inr h
theorem EH(hp:qs qa H1 e.np (co 0 (len e.l0))=some full)(h:Hx e qa H1 vs full=true):
 ic ⟨db (co 0 (len e.l0)) 0,iS⟩ ⟨nR full 0,iS⟩ (co 0 (len e.l0)) (nL (len e.l0) full) H1 (hL e.l0) e.end/\dp (b9 ⟨nR full 0,iS⟩) vs qa=true:=by
 have h1:=aO h
 have h2:=aO h1.2
 have h3:=aO h2.2
 have h4:=aO h3.2
 obtain⟨l,hl⟩:=RB e.np hp
 have hd:nL (len e.l0) full=l:=by rw[xX,hl,List.drop_left' (qi _ _)]
 have w0:=wJ e.l0
 have w1:=Sy e.ch w0.1
 have w2:=vT e.nw w1.1
 have hn:e.end.n=e.l0.length+e.nw.length:=by show(kR (lz (hL e.l0) e.ch) e.nw).n=_;rw[w2.2.1,w1.2,w0.2.1]
 have hf:full.length=e.l0.length+e.nw.length:=by have:=bx.mp h2.1;rw[bH,bH,bH] at this;exact this
 have hll:l.length=e.nw.length:=by have:=hf;rw[hl,List.length_append,qi,bH] at this;omega
 refine⟨⟨w2.1,?_,?_,λi hi=>?_,rfl,λi b q=>?_,λb ob q=>?_⟩,h4.2⟩
 · rw[hn,w0.2.1,hd,hll]
 · rw[hd];have:=xG h1.1;rw[hl] at this;exact(List.nodup_append.mp this).2.1
 · rw[qi];exact Yg h3.1 i hi
 · obtain⟨j,hj,hg⟩:=Vc full q
   rw[dY] at hj
   subst hj
   rw[hl] at hg
   refine(uq hg).imp (λw=>VM w) λw=>w.elim λd w=>⟨d,by rw[hd];exact w.2,?_⟩
   have:=w.1
   rw[qi,bH] at this
   rw[w0.2.1];exact this
 · have hb:b<full.length:=by rw[hf,← hn];exact w2.1.lt q
   obtain⟨i,hi⟩:=vh (l:=full) hb
   obtain⟨b',nY,ho⟩:=(yw h4.1).2 b i hi
   rw[jc,bH,aG hb,dY] at nY
   obtain rfl:=af nY
   refine bV (ho) λC7 h5 h6=>bV h6 λo1 h7 h8=>?_
   have e1:=bB h5 q
   subst e1
   exact .inr ⟨i,o1,by have:=Yu full (k:=0) hi;rwa [dY] at this,h7,Pt h8⟩
theorem F8(h:dp f [a,b] [x,y]=true):f a x=true/\f b y=true:=⟨(aO h).1,(aO (aO h).2).1⟩
theorem qo(F:AC c tb)(hO:∀k vs H m r,O k vs H=some (m,r)->CT c v k vs H r m)
 (h:fV (tb O) c.mc e=true):bU c v e:=by
 refine bV (h) λr1 hr h=>?_
 have C:=Mq F hO hr
 have h1:=aO h
 have h2:=aO h1.2
 refine KC (BG h1.1) h2.1 (λ_=>?_) C
 have h3:=h2.2
 revert h3
 unfold GK
 cases r1 with
 |ok v1 H1=>cases e.r with
  |ok v=>exact λh=>bV (h) λfull hp h=>let G:=EH hp h;.ok G.1 (aO G.2).1
  |exc=>exact λh=>ft h
 |exc k1 m1 v1 H1=>cases e.r with
  |ok=>exact λh=>ft h
  |exc k m v=>
   intro h
   have h:=aO (h)
   obtain rfl:=bx.mp h.1
   exact bV (h.2) λfull hp h=>let G:=EH hp h;.exc G.1 (F8 G.2).1 (F8 G.2).2
structure jL(c c':Cx):Prop where
 prog:c'.prog=c.prog
 w:c'.w=c.w
 base:c'.base=c.base
 nm:c'.nm=c.nm
 fn:c'.fnA=c.fnA
 cl:c'.clA=c.clA
 tabs:c'.tabs=c.tabs
 tq:c'.tq=c.tq
def VE(c c':Cx)(a a':V):Prop:=∀X μ h x,ad c X μ h a x↔ad c' X μ h a' x
def OE(c c':Cx)(o o':aF):Prop:=∀X μ h p,RO c X μ h p o↔RO c' X μ h p o'
structure HE(c c':Cx)(H H':HT):Prop where
 n:H'.n=H.n
 w:HW H
 w':HW H'
 o:∀i o,gH H i=some o->∃o',gH H' i=some o'/\OE c c' o o'
section
variable{c c':Cx}{X:Addr->Prop}{A:Around}{env:Env}{fr:Fr}{μ:Mu}{σ:Sg}{s:Shared}{h:Heap}{H H':HT}
theorem OE.symm(x:OE c c' a a'):OE c' c a' a:=λX μ h y=>(x X μ h y).symm
theorem HE.symm(x:HE c c' H H'):HE c' c H' H:=⟨x.n.symm,x.w',x.w,λi o' e=>(x.w.some (x.n▸x.w'.lt e)).elim λo q=>(x.o i o q).elim λo1 z=>⟨o,q,bB z.1 e▸z.2.symm⟩⟩
theorem jL.symm(K:jL c c'):jL c' c:=⟨K.prog.symm,K.w.symm,K.base.symm,K.nm.symm,K.fn.symm,K.cl.symm,K.tabs.symm,K.tq.symm⟩
theorem HE.put(x:HE c c' H H')(i:Nat){o o':aF}(e:OE c c' o o'):HE c c' (pH H i o) (pH H' i o'):=⟨x.n,x.w.put i o,x.w'.put i o',λj o1 h=>by
 rw[qR] at h ⊢
 by_cases q:j=i
 · rw[aG q] at h ⊢
   obtain⟨o2,h2,h3⟩:=Option.map_eq_some_iff.mp h
   obtain⟨o3,h4,_⟩:=x.o i o2 h2
   rw[h4];exact⟨o',rfl,h3▸e⟩
 · rw[ax q] at h ⊢;exact x.o j o1 h⟩
theorem HE.add(x:HE c c' H H'){o o':aF}(e:OE c c' o o'):HE c c' (aH H o) (aH H' o'):=⟨aq (· +1) x.n,x.w.add o,x.w'.add o',λj o1 h=>by
 rw[x.w.aget] at h
 rw[x.w'.aget,x.n]
 by_cases q:j=H.n
 · rw[aG q] at h ⊢;exact⟨o',rfl,af h▸e⟩
 · rw[ax q] at h ⊢;exact x.o j o1 h⟩
theorem HE.adds(z:ay (OE c c') l l'):∀{H H':HT},HE c c' H H'->HE c c' (kR H l) (kR H' l'):=by
 induction z with
 |nil=>exact λx=>x
 |cons a _ ih=>exact λx=>ih (x.add a)
theorem HE.puts(z:ay (λp q=>p.1=q.1/\OE c c' p.2 q.2) l l'):∀{H H':HT},HE c c' H H'->HE c c' (lz H l) (lz H' l'):=by
 induction z with
 |nil=>exact λx=>x
 |cons a _ ih=>exact λx=>ih (a.1▸x.put _ a.2)
theorem HE.nil:HE c c' hE hE:=⟨rfl,rE,rE,λi o e=>aV (rE.lt e) (Nat.not_lt_zero i)⟩
theorem HE.list(z:ay (OE c c') l l'):HE c c' (hL l) (hL l'):=HE.nil.adds z
theorem Ok.turn(K:jL c c')(x:HE c c' σ.H H')(k:∀n v',au r' n=some v'->∃v,au σ.r n=some v/\VE c c' v v')(o:Ok c X A env fr μ σ s):Ok c' X A env fr μ ⟨H',r'⟩ s where
 len:=⟨o.len.n.trans x.n.symm,x.w'⟩
 obj:=λn ob h=>(x.symm.o n ob h).elim λo1 q=>(o.obj n o1 q.1).imp λp w=>⟨w.1,(q.2 X μ s.heap p).mpr w.2⟩
 apart:=o.apart
 new:=λb h=>K.base▸o.new b h
 ns:=o.ns.imp λm y=>⟨y.1,λn v' h=>(k n v' h).elim λv q=>(y.2 n v q.1).imp λz w=>⟨K.nm▸w.1,(q.2 X μ s.heap z).mp w.2⟩⟩
 lout:=K.base▸o.lout
 cells:=λn l h=>(o.cells n l h).imp λp w=>⟨w.1,K.nm▸w.2⟩
 stays:=K.base▸o.stays
 frs:=K.base▸o.frs
 tabs:=K.tabs▸K.tq▸o.tabs
 xlt:=K.base▸o.xlt
theorem aJ.turn(K:jL c c')(x:aJ c n A env fr):aJ c' n A env fr:=
 ⟨K.nm▸x.k0,K.nm▸x.k1,K.nm▸x.k2,K.nm▸x.k3,x.kl,K.nm▸x.kk,x.kfun,x.globs,x.bis,x.frame,x.handled,λq=>K.tabs▸K.tq▸x.code q,x.depth,x.units⟩
theorem cD.turn(K:jL c c'){lo:Heap}(hm:VE c c' m m')(hw:VE c c' w w')(x:cD c X μ lo k m w e h):cD c' X μ lo k m' w' e h:=
 x.ex.elim λoe y=>y.elim λvs y=>y.elim λdx y=>y.elim λms y=>y.elim λtb y=>⟨oe,vs,dx,ms,tb,y.e1,K.cl▸y.e2,y.e3,y.e4,y.e5,y.e6,y.e7,y.e8,y.e9,y.e10,y.e11,y.e12,
  y.e13.imp λ_ u=>⟨K.nm▸u.1,(hm _ _ _ _).mp u.2⟩,y.e14.imp λ_ u=>⟨K.nm▸u.1,(hw _ _ _ _).mp u.2⟩⟩
theorem Uo(z:ay (VE c c') vs vs'):∀{xs:List Value},ay (ad c' X μ h) vs' xs->ay (ad c X μ h) vs xs:=by
 induction z with
 |nil=>exact λy=>by cases y;exact .nil
 |cons a _ ih=>exact λy=>by cases y with|cons p q=>exact .cons ((a _ _ _ _).mpr p) (ih q)
end
def kT(b b1:Nat->Value):Prop:=∀k,k<1000->b1 k=b k
def VV(c:Cx)(v v':cc)(a a':V):Prop:=∀T b b1,kT b b1->VE (c.vw T b1 v) (c.vw T b v') a a'
def HH(c:Cx)(v v':cc)(H H':HT):Prop:=∀T b b1,kT b b1->HE (c.vw T b1 v) (c.vw T b v') H H'
inductive RR(c:Cx)(v v':cc):R0->R0->Prop
 |ok {a a' H H'}:VV c v v' a a'->HH c v v' H H'->RR c v v' (.ok a H) (.ok a' H')
 |exc {k m m' a a' H H'}:VV c v v' m m'->VV c v v' a a'->HH c v v' H H'->RR c v v' (.exc k m a H) (.exc k m' a' H')
noncomputable def jb(b:Nat->Value)(nm:Nat->Str)(mm:Str->Option Value)(k:Nat):Value:=if k<1000 then b k else((mm (nm (k-1000))).filter λy=>handedIn y).getD .none
theorem OM(h:gr c b):gr c (jb b nm mm):=⟨λk hk=>(aG (Nat.lt_trans hk (by decide))).trans (h.lt k hk),λk hk=>by
 unfold jb
 by_cases q:k<1000
 · rw[aG q];exact h.ge k hk
 · rw[ax q]
   cases e:(mm (nm (k-1000))).filter λy=>handedIn y with
   |none=>rfl
   |some y=>exact(Option.filter_eq_some_iff.mp e).2⟩
theorem GY(h:mm (nm x)=some y)(k:handedIn y=true):jb b nm mm (1000+x)=y:=by
 unfold jb
 rw[ax (by omega),Nat.add_sub_cancel_left,h,Option.filter_some,aG k];rfl
theorem wi(c:Cx)(T:Tb)(b b1:Nat->Value)(v v':cc):jL (c.vw T b1 v) (c.vw T b v'):=⟨rfl,rfl,rfl,rfl,rfl,rfl,rfl,rfl⟩
theorem CT.turn(zv:∀T b b1,kT b b1->ay (VE (c.vw T b1 v) (c.vw T b v')) vs vs')(zh:HH c v v' H H')(zr:RR c v v' r r')(x:CT c v k vs H r d):CT c v' k vs' H' r' d:=by
 intro T b hb n hn X A env fr μ σ s xs Q E q eo o z t
 subst q
 obtain⟨mm,hm,hr⟩:=o.ns
 have ag:kT b (jb b c.nm mm):=λk hk=>aG hk
 have hb1:=OM hb (nm:=c.nm) (mm:=mm)
 have K:=wi c T b (jb b c.nm mm) v v'
 have zh0:=zh T b (jb b c.nm mm) ag
 have o0:Ok (c.vw T (jb b c.nm mm) v) X A env fr μ ⟨H,jH σ.r⟩ s:=
  { (o.turn K.symm zh0.symm (r':=[]) λn v h=>ns h) with
    ns:=⟨mm,hm,λx v0 h0=>by
     rw[wI] at h0
     obtain⟨w,hw,e⟩:=Option.map_eq_some_iff.mp h0
     refine(hr x w hw).imp λy u=>⟨u.1,?_⟩
     subst e
     cases hn:ir w with
     |true=>exact(GY (nm:=c.nm) u.1 (rj (c:=c.vw T b v') hb.ge u.2 hn)).symm
     |false=>
      obtain⟨k,e,lt⟩:=xN hn
      subst e
      exact(u.2).trans (ag k (Nat.lt_trans lt (by decide))).symm⟩}
 have back:∀{av s' Hr DC},aK A env μ av s s'->Ok (c.vw T (jb b c.nm mm) v) X A env fr av ⟨Hr,jH σ.r⟩ s'->HE (c.vw T (jb b c.nm mm) v) (c.vw T b v') Hr DC->Ok (c.vw T b v') X A env fr av ⟨DC,σ.r⟩ s':=λ{av s' Hr DC} nx o' eh=>
  { (o'.turn K eh (r':=[]) λn v h=>ns h) with
    ns:=o'.ns.imp λm1 y=>⟨y.1,λx w hv=>by
     have h0:au (jH σ.r) x=some (aa (ir w) (.bi (1000+x)) w):=by rw[wI,hv];rfl
     refine(y.2 x _ h0).imp λz u=>⟨u.1,?_⟩
     obtain⟨y0,h1,h2⟩:=hr x w hv
     cases hn:ir w with
     |true=>
      have u2:z=jb b c.nm mm (1000+x):=by have:=u.2;rw[hn] at this;exact this
      rw[u2,GY (nm:=c.nm) h1 (rj (c:=c.vw T b v') hb.ge h2 hn)]
      exact h2.mono (nx.stays o) nx.ext
     |false=>
      obtain⟨k,e,lt⟩:=xN hn
      have u2:=u.2
      rw[hn] at u2
      subst e
      exact(u2).trans (ag k (Nat.lt_trans lt (by decide)))⟩}
 refine x T (jb b c.nm mm) hb1 n hn X A env fr μ ⟨H,jH σ.r⟩ s xs Q E rfl (eo.turn K.symm) o0 (Uo (zv T b _ ag) z) ?_
 cases zr with
 |ok ev eh=>exact λav s' y nx o' dv=>t av s' y nx (back nx o' (eh T b _ ag)) ((ev T b _ ag _ _ _ _).mp dv)
 |exc em ev eh=>exact λav s' e nx o' x'=>t av s' e nx (back nx o' (eh T b _ ag)) (x'.turn K (em T b _ ag) (ev T b _ ag))
def ai(θ:Nat->Option V)(a:V):Option V:=
 V.rec (some .none) (λb=>some (.bool b)) (λi=>some (.int i)) (λs=>some (.str s)) (some .nil) (λ_ q hp hq=>Option.rec (aD hp λx=>aD hq λy=>some (.cons x y)) (λ_=>.none) (cu q))
  (λn=>some (.loc n)) (λk=>some (.fn k)) (λk=>some (.cls k)) (λk=>aa (Nat.blt k 1000) (some (.bi k)) .none) (λ_ _=>.none) (λn=>θ n) a
def bz(θ:Nat->Option V)(sg:Nat->Option (List V))(o:aF):Option aF:=
 aF.rec (λxs=>aD (aN (ai θ) xs) λys=>some (.list ys)) (λxs=>aD (aN (λp=>aD (ai θ p.2) λv=>some (p.1,v)) xs) λys=>some (.dict ys))
  (λk xs=>aD (aN (λp=>aD (ai θ p.2) λv=>some (p.1,v)) xs) λys=>some (.inst k ys)) (λv=>Option.rec (some (.cell .none)) (λv=>aD (ai θ v) λw=>some (.cell (some w))) v)
  (λj=>aD (sg j) λl=>some (.list l)) (some .dead) o
def fH(θ:Nat->Option V)(r:Rz):Option Rz:=Rz.rec (λv=>aD (ai θ v) λw=>some (.ok w)) (λk a v=>aD (ai θ a) λb=>aD (ai θ v) λw=>some (.exc k b w)) r
structure gh where
 k:Nat
 vs:List V
 l0:List aF
 d:Nat
 r:Rz
 ch:List (Nat×aF)
 nw:List aF
def ja(θ:Nat->Option V)(sg:Nat->Option (List V))(e:En):Option gh:=
 aD (aN (ai θ) e.vs) λvs=>aD (aN (bz θ sg) e.l0) λl0=>aD (fH θ e.r) λr=>aD (aN (λp=>aD (bz θ sg p.2) λo=>some (p.1,o)) e.ch) λch=>aD (aN (bz θ sg) e.nw) λnw=>some ⟨e.k,vs,l0,e.d,r,ch,nw⟩
structure b6(v:cc)(θ:Nat->Option V)(sg:Nat->Option (List V)):Prop where
 a:∀n w,θ n=some w->v.ρ n=w/\dB w=true
 s:∀j l,sg j=some l->v.seg j=l
section
variable{c:Cx}{v v':cc}{θ a6:Nat->Option V}{sg cF:Nat->Option (List V)}{X:Addr->Prop}{μ:Mu}{h:Heap}{T:Tb}{b b1:Nat->Value}
theorem lA(O:b6 v θ sg)(v':cc)(ag:kT b b1)(a:V):∀{w:V},ai θ a=some w->(∀x,ad (c.vw T b1 v) X μ h a x↔ad (c.vw T b v') X μ h w x)/\(cu a=none->∀l,jw (c.vw T b1 v) X μ h a l↔jw (c.vw T b v') X μ h w l):=by
 induction a with
 |none|bool|int|str|nil|loc|fn|cls=>exact λe=>af e▸⟨λ_=>Iff.rfl,λ_ _=>Iff.rfl⟩
 |clo=>exact λe=>ns e
 |bi k=>
  exact λ{w} e=>by
   have e:=cs (e)
   have q:=cH e.1
   exact af e.2▸⟨λx=>by show x=b1 k↔x=b k;rw[ag k q],λ_ _=>Iff.rfl⟩
 |atom n=>
  exact λ{w} e=>by
   obtain⟨h1,h2⟩:=O.a n w e
   exact⟨λx=>(by show(PV X h (v.ρ n)).1 x↔_;rw[h1];exact((CN w h2).1 x).symm),λz=>sn z⟩
 |cons p q hp hq=>
  intro w e
  have e:Option.rec (aD (ai θ p) λx=>aD (ai θ q) λy=>some (.cons x y)) (λ_=>.none) (cu q)=some w:=e
  cases gN:cu q with
  |some _=>rw[gN] at e;exact ns e
  |none=>
   rw[gN] at e
   exact bp e λx hx e=>bp e λy hy e=>af e▸
    have k:=JX (hp hx).1 ((hq hy).2 gN)
    ⟨HA k,λ_=>k⟩
theorem tQ(O:b6 v θ sg)(O':b6 v' a6 cF)(e:ai θ a=some w)(e':ai a6 a'=some w):VV c v v' a a':=λT b b1 ag X μ h x=>
 ((lA O v' ag a e).1 x).trans ((lA O' v' (λ_ _=>rfl) a' e').1 x).symm
theorem jW{α β:Type}{f:α->Option β}{P:α->β->Prop}(k:∀x y,f x=some y->P x y)(l:List α):∀{r:List β},aN f l=some r->ay P l r:=by
 induction l with
 |nil=>exact λe=>af e▸.nil
 |cons x q ih=>exact λ{r} e=>bp (e) λy hy e=>bp e λr' hr e=>af e▸.cons (k x y hy) (ih hr)
theorem ay.meet{α β γ:Type}{P:α->γ->Prop}{Q:β->γ->Prop}{R:α->β->Prop}{l:List α}{n:List γ}(p:ay P l n):∀{m:List β},ay Q m n->(∀x y z,P x z->Q y z->R x y)->ay R l m:=by
 induction p with
 |nil=>exact λq _=>by cases q;exact .nil
 |cons a _ ih=>exact λq k=>by cases q with|cons b r=>exact .cons (k _ _ _ a b) (ih r k)
theorem Oh(O:b6 v θ sg)(v':cc)(ag:kT b b1)(z:ay (λp q=>p.1=q.1/\ai θ p.2=some q.2) xs ys)(l:List (Str×Value)):
 ay (λ(a:List Nat×V) (z:Str×Value)=>z.1=aW a.1/\ad (c.vw T b1 v) X μ h a.2 z.2) xs l↔ay (λ(a:List Nat×V) (z:Str×Value)=>z.1=aW a.1/\ad (c.vw T b v') X μ h a.2 z.2) ys l:=by
 induction z generalizing l with
 |nil=>exact⟨λq=>by cases q;exact .nil,λq=>by cases q;exact .nil⟩
 |cons e _ ih=>exact⟨λq=>by cases q with|cons a r=>exact .cons ⟨e.1▸a.1,((lA O v' ag _ e.2).1 _).mp a.2⟩ ((ih _).mp r),λq=>by cases q with|cons a r=>exact .cons ⟨e.1▸a.1,((lA O v' ag _ e.2).1 _).mpr a.2⟩ ((ih _).mpr r)⟩
theorem U9(O:b6 v θ sg)(v':cc)(ag:kT b b1)(z:ay (λx y=>ai θ x=some y) xs ys)(its:List Value):ay (ad (c.vw T b1 v) X μ h) xs its↔ay (ad (c.vw T b v') X μ h) ys its:=by
 induction z generalizing its with
 |nil=>exact⟨λq=>by cases q;exact .nil,λq=>by cases q;exact .nil⟩
 |cons e _ ih=>exact⟨λq=>by cases q with|cons a r=>exact .cons (((lA O v' ag _ e).1 _).mp a) ((ih _).mp r),λq=>by cases q with|cons a r=>exact .cons (((lA O v' ag _ e).1 _).mpr a) ((ih _).mpr r)⟩
theorem RS(e:∀x∈l,dB x=true)(its:List Value):ay (ad (c.vw T b1 v) X μ h) l its↔ay (ad (c.vw T b v') X μ h) l its:=(yB l e its).trans (yB l e its).symm
theorem B4(O:b6 v θ sg)(v':cc)(ag:kT b b1)(z:ay (λp q=>p.1=q.1/\ai θ p.2=some q.2) xs ys):
 (∀x w,au xs x=some w->∃w',au ys x=some w'/\ai θ w=some w')/\(∀x w',au ys x=some w'->∃w,au xs x=some w/\ai θ w=some w'):=by
 induction z with
 |nil=>exact⟨λx w q=>ns q,λx w q=>ns q⟩
 | @cons p q r r' e _ ih=>
  obtain⟨x1,v1⟩:=p
  obtain⟨x2,v2⟩:=q
  obtain rfl:x1=x2:=e.1
  refine⟨λx w k=>?_,λx w k=>?_⟩
  · rw[dA] at k ⊢
    by_cases hx:x1=x
    · rw[aG hx] at k ⊢;exact⟨v2,rfl,af k▸e.2⟩
    · rw[ax hx] at k ⊢;exact ih.1 x w k
  · rw[dA] at k ⊢
    by_cases hx:x1=x
    · rw[aG hx] at k ⊢;exact⟨v1,rfl,af k▸e.2⟩
    · rw[ax hx] at k ⊢;exact ih.2 x w k
theorem wE{α:Type}{xs ys:List (α×V)}(e:aN (λp=>aD (ai θ p.2) λv=>some (p.1,v)) xs=some ys):ay (λp q=>p.1=q.1/\ai θ p.2=some q.2) xs ys:=
 jW (λx y e=>bp e λw hw e=>by obtain rfl:=af e;exact⟨rfl,hw⟩) xs e
theorem Fu(O:b6 v θ sg)(v':cc)(ag:kT b b1){p:Addr×Addr}(e:bz θ sg o=some w):RO (c.vw T b1 v) X μ h p o↔RO (c.vw T b v') X μ h p w:=by
 cases o with
 |list xs=>
  refine bp (e) λys hy e=>af e▸?_
  exact cO (fG λits=>cO (and_congr_left' (U9 O v' ag (jW (λ_ _ e=>e) xs hy) _)))
 |dict xs=>
  refine bp (e) λys hy e=>af e▸?_
  have z:=wE hy
  refine cO (cO (fG λl=>cO (and_congr_left' ?_)))
  exact Oh O v' ag z l
 |inst k xs=>
  refine bp (e) λys hy e=>af e▸?_
  have a:=B4 O v' ag (wE hy)
  show(_/\∃n:Str->Option Value,h.Ns1 p.2 n/\(∀x w,au xs x=some w->∃z,n (c.nm x)=some z/\ad (c.vw T b1 v) X μ h w z)/\(∀n' z,n n'=some z->∃x w,au xs x=some w/\n'=c.nm x))↔
   (_/\∃n:Str->Option Value,h.Ns1 p.2 n/\(∀x w,au ys x=some w->∃z,n (c.nm x)=some z/\ad (c.vw T b v') X μ h w z)/\(∀n' z,n n'=some z->∃x w,au ys x=some w/\n'=c.nm x))
  refine cO (fG λn=>cO (and_congr ⟨λq x w hw=>?_,λq x w hw=>?_⟩ ⟨λq n' z hz=>?_,λq n' z hz=>?_⟩))
  · exact(a.2 x w hw).elim λw0 u=>(q x w0 u.1).imp λz y=>⟨y.1,((lA O v' ag w0 u.2).1 z).mp y.2⟩
  · exact(a.1 x w hw).elim λw1 u=>(q x w1 u.1).imp λz y=>⟨y.1,((lA O v' ag w u.2).1 z).mpr y.2⟩
  · exact(q n' z hz).imp λx=>λu=>u.elim λw u=>(a.1 x w u.1).imp λw1 y=>⟨y.1,u.2⟩
  · exact(q n' z hz).imp λx=>λu=>u.elim λw u=>(a.2 x w u.1).imp λw1 y=>⟨y.1,u.2⟩
 |cell u=>
  cases u with
  |none=>
   refine af e▸cO (fG λy=>cO ?_)
   cases y<;>exact Iff.rfl
  |some u=>
   refine bp (e) λx hx e=>af e▸cO (fG λy=>cO ?_)
   cases y with
   |none=>exact Iff.rfl
   |some y=>exact(lA O v' ag u hx).1 y
 |opq j=>
  refine bp (e) λl hl e=>af e▸?_
  have q:=O.s j l hl
  refine cO (fG λits=>cO (and_congr_left' ?_))
  show ay _ (v.seg j) _↔_
  rw[q]
  exact RS (q▸v.sp j) _
 |dead=>exact af e▸Iff.rfl
theorem rY(O:b6 v θ sg)(O':b6 v' a6 cF)(ag:kT b b1)(e:bz θ sg o=some w)(e':bz a6 cF o'=some w):OE (c.vw T b1 v) (c.vw T b v') o o':=λX μ h p=>
 (Fu O v' ag e).trans (Fu O' v' (λ_ _=>rfl) e').symm
theorem gp{e e':En}{z:gh}(O:b6 v θ sg)(O':b6 v' a6 cF)(h:ja θ sg e=some z)(h':ja a6 cF e'=some z)(E:bU c v e):bU c v' e':=by
 refine bp h λvs a1 h=>bp h λl0 a2 h=>bp h λr a3 h=>bp h λch a4 h=>bp h λnw a5 h=>?_
 refine bp h' λvs' g1 h'=>bp h' λNm g2 h'=>bp h' λr' g3 h'=>bp h' λch' g4 h'=>bp h' λDA g5 h'=>?_
 have q:=af (h.trans h'.symm)
 have q1:=aq gh.k q
 have q2:=aq gh.vs q
 have q3:=aq gh.l0 q
 have q4:=aq gh.d q
 have q5:=aq gh.r q
 have q6:=aq gh.ch q
 have q7:=aq gh.nw q
 dsimp only at q1 q2 q3 q4 q5 q6 q7
 subst q2;subst q3;subst q5;subst q6;subst q7
 have m1:=jW (λ_ _ e=>e) _ a1
 have m2:=jW (λ_ _ e=>e) _ g1
 have m3:=jW (λ_ _ e=>e) _ a2
 have m4:=jW (λ_ _ e=>e) _ g2
 have m5:=jW (λ_ _ e=>e) _ a5
 have m6:=jW (λ_ _ e=>e) _ g5
 have pr:∀{l:List (Nat×aF)} {θ:Nat->Option V} {sg:Nat->Option (List V)} {m},aN (λp=>aD (bz θ sg p.2) λo=>some (p.1,o)) l=some m->ay (λp q=>p.1=q.1/\bz θ sg p.2=some q.2) l m:=λ{l θ sg m} e=>
  jW (λx y e=>bp e λw hw e=>by obtain rfl:=af e;exact⟨rfl,hw⟩) l e
 have m7:=pr a4
 have m8:=pr g4
 have hv:=λT b b1 ag=>m1.meet m2 (λx y z p q=>(tQ O O' p q:VV c v v' x y) T b b1 ag)
 have hl:=λT b b1 ag=>HE.list (m3.meet m4 (λx y z p q=>(rY O O' ag p q:OE (c.vw T b1 v) (c.vw T b v') x y)))
 have he:=λT b b1 ag=>((hl T b b1 ag).puts (m7.meet m8 (λx y z p q=>⟨p.1.trans q.1.symm,(rY O O' ag p.2 q.2:OE (c.vw T b1 v) (c.vw T b v') x.2 y.2)⟩))).adds (m5.meet m6 (λx y z p q=>(rY O O' ag p q:OE (c.vw T b1 v) (c.vw T b v') x y)))
 show CT c v' e'.k e'.vs (hL e'.l0) (e'.r.at e'.end) e'.d
 refine q1▸q4▸CT.turn hv hl ?_ E
 revert a3 g3
 cases e.r with
 |ok a=>
  cases e'.r with
  |ok a'=>
   intro a3 g3
   refine bp a3 λw hw a3=>bp g3 λw' rR g3=>?_
   have this:=af (a3.trans g3.symm)
   injection this with this
   exact .ok (tQ O O' hw (this▸rR)) he
  |exc=>exact λa3 g3=>bp a3 λw hw a3=>bp g3 λw' rR g3=>bp g3 λw' rR g3=>nomatch af (a3.trans g3.symm)
 |exc k m a=>
  cases e'.r with
  |ok=>exact λa3 g3=>bp a3 λw hw a3=>bp a3 λw hw a3=>bp g3 λw' rR g3=>nomatch af (a3.trans g3.symm)
  |exc k' m' a'=>
   intro a3 g3
   refine bp a3 λx hx a3=>bp a3 λw hw a3=>bp g3 λx' yP g3=>bp g3 λw' rR g3=>?_
   have this:=af (a3.trans g3.symm)
   injection this with t1 t2 t3
   subst t1
   exact .exc (tQ O O' hx (t2▸yP)) (tQ O O' hw (t3▸rR)) he
end
def bw(v:V):Nat->Bool:=
 V.rec (motive:=λ_=>Nat->Bool) (λn=>Nat.blt 0 n) (λ_ n=>Nat.blt 0 n) (λ_ n=>Nat.blt 0 n) (λ_ n=>Nat.blt 0 n) (λn=>Nat.blt 0 n) (λ_ q hp hq n=>aa (hp (Nat.pred n)) (aa (hq n) (ca q) false) false)
  (λ_ _=>false) (λ_ _=>false) (λ_ _=>false) (λ_ _=>false) (λ_ _ _=>false) (λ_ _=>false) v
def gq(nm:Nat->List Nat×List Nat)(tp:Nat->V)(z:Nat->Int)(rs:Nat->V)(i:Nat):V:=
 aa (Nat.blt i 64) (.str (aa (Nat.beq (Nat.mod i 2) 0) (nm (Nat.div i 2)).1 (nm (Nat.div i 2)).2)) (aa (Nat.blt i 128) (tp i)
  (aa (aa (Nat.ble 6000 i) (Nat.blt i 7000) false) (.int (z i)) (aa (aa (Nat.ble 7000 i) (Nat.blt i 8000) false) (.bool (decide (z (i-1000)=0))) (rs i))))
theorem iQ(v:V):∀{n:Nat},bw v n=true->dB v=true:=by
 induction v with
 |none|bool|int|str|nil=>exact λ_=>rfl
 |cons p q hp hq=>
  intro n h
  have h1:=aO (h)
  show aa (dB p) (dB q) false=true
  rw[hp h1.1];exact hq (aO h1.2).1
 |_=>exact λh=>ft h
theorem V7(h:a=some true)(k:b=some true):yh a b=some true:=by rw[h,k];rfl
theorem Lr:∀{l:List V},(∀v∈l,f v v=some true)->lE f l l=some true
 |[],_=>rfl
 |x::r,h=>V7 (h x (.head _)) (Lr λv hv=>h v (.tail _ hv))
theorem YE(v:V):∀{n:Nat},bw v (n+1)=true->∀x∈gz v,bw x n=true:=by
 induction v with
 |cons p q hp hq=>
  intro n h
  have h1:=aO (h)
  exact bD ⟨h1.1,hq (aO h1.2).1⟩
 |_=>exact λ_ x hx=>nomatch hx
theorem Fb(v:V)(h:bw v 0=true):False:=by
 induction v with
 |cons p q hp hq=>exact hp (aO (h)).1
 |_=>exact ft h
theorem Wu(H:HT):∀(m n:Nat) (v:V),bw v n=true->n<=m->eI H m v v=some true:=by
 intro m
 induction m with
 |zero=>exact λn v h q=>(Fb v ((Nat.le_zero.mp q)▸h)).elim
 |succ m ih=>
  intro n v h q
  cases v with
  |none=>rfl
  |bool b=>cases b<;>rfl
  |int i=>show some (decide (i=i))=some true;rw[decide_eq_true rfl]
  |str s=>show some (seq s s)=some true;rw[yk]
  |nil=>rfl
  |cons p r=>
   cases n with
   |zero=>exact(Fb _ h).elim
   |succ n=>
    have ht:ca (.cons p r)=true:=(aO (aO (h)).2).2
    have e:cG (.cons p r)=some (gz (.cons p r)):=by show aa (ca (.cons p r)) _ _=_;rw[ht];rfl
    show a7 (cG (.cons p r)) (λxs=>a7 (cG (.cons p r)) (λys=>lE (eI H m) xs ys) (unlike 4 (fz H (.cons p r)))) none=some true
    rw[e]
    exact Lr λx hx=>ih n x (YE _ h x hx) (by omega)
  |_=>exact ft h
section
variable{nm:Nat->List Nat×List Nat}{tp:Nat->V}{z:Nat->Int}{rs:Nat->V}
theorem FB(yU:∀i,ca (tp i)=true/\bw (tp i) 20=true)(DE:∀i,bw (rs i) 20=true)(i:Nat):bw (gq nm tp z rs i) 20=true:=by
 unfold gq
 cases Nat.blt i 64 with
 |true=>rfl
 |false=>
  rw[cW]
  cases Nat.blt i 128 with
  |true=>exact(yU i).2
  |false=>
   rw[cW]
   cases aa (Nat.ble 6000 i) (Nat.blt i 7000) false with
   |true=>rfl
   |false=>
    rw[cW]
    cases aa (Nat.ble 7000 i) (Nat.blt i 8000) false with
    |true=>rfl
    |false=>exact DE i
theorem Ud{i j:Nat}(h:i/2=j/2)(k:i<64):j<64:=(Nat.div_lt_iff_lt_mul (by decide)).mp (h▸(Nat.div_lt_iff_lt_mul (k:=2) (y:=32) (by decide)).mpr k)
noncomputable def GT(nm:Nat->List Nat×List Nat)(tp:Nat->V)(z:Nat->Int)(rs:Nat->V)(seg:Nat->List V)(hn:∀i,seq (nm i).1 (nm i).2=false)(yU:∀i,ca (tp i)=true/\bw (tp i) 20=true)(DE:∀i,bw (rs i) 20=true)
 (hs:∀j,∀v∈seg j,dB v=true):cc where
 ρ:=gq nm tp z rs
 seg:=seg
 ρe:=λi H=>Wu H 20 20 _ (FB yU DE i) (Nat.le_refl _)
 ρd:=λi j h ne=>by
  have h:=aO (h)
  have hd:i/2=j/2:=bx.mp h.2
  have hi:=cH h.1
  have hj:Nat.blt j 64=true:=mG (Ud hd hi)
  have sw:seq (nm (Nat.div i 2)).2 (nm (Nat.div i 2)).1=false:=by
   cases e:seq (nm (Nat.div i 2)).2 (nm (Nat.div i 2)).1 with
   |false=>rfl
   |true=>have:=hn (Nat.div i 2);rw[fk.mp e,yk] at this;exact tf this
  refine⟨_,_,by unfold gq;rw[h.1];rfl,by unfold gq;rw[hj];rfl,?_⟩
  rw[show Nat.div j 2=Nat.div i 2 from hd.symm]
  by_cases e:i%2=0
  · rw[show Nat.beq (Nat.mod i 2) 0=true from bx.mpr e,show Nat.beq (Nat.mod j 2) 0=false from ee.mpr (show j%2≠0 from λq=>ne (sD hd (e.trans q.symm)))]
    exact hn _
  · rw[show Nat.beq (Nat.mod i 2) 0=false from ee.mpr e,show Nat.beq (Nat.mod j 2) 0=true from bx.mpr (show j%2=0 from(Nat.mod_two_eq_zero_or_one j).resolve_right λq=>ne (sD hd (((Nat.mod_two_eq_zero_or_one i).resolve_left e).trans q.symm)))]
    exact sw
 ρt:=λi h1 h2=>by
  have:Nat.blt i 64=false:=by
   have:=dO h1
   cases e:Nat.blt i 64 with
   |false=>rfl
   |true=>have:=cH e;omega
  unfold gq
  rw[this,h2];exact(yU i).1
 ρz:=λi h1 h2=>by
  have a:=dO h1
  have b:=cH h2
  have n:∀{x y:Nat},y<=x->Nat.blt x y=false:=λ{x y} q=>by
   cases e:Nat.blt x y with
   |false=>rfl
   |true=>have:=cH e;omega
  refine⟨z i,?_,?_⟩
  · unfold gq
    rw[n (by omega),n (by omega),h1,h2];rfl
  · unfold gq
    rw[n (by omega),n (by omega),show Nat.ble 6000 (i+1000)=true from Nat.ble_eq_true_of_le (by omega),n (x:=i+1000) (y:=7000) (by omega),show Nat.ble 7000 (i+1000)=true from Nat.ble_eq_true_of_le (by omega),show Nat.blt (i+1000) 8000=true from mG (by omega),Nat.add_sub_cancel]
    rfl
 sp:=hs
end
section
variable{θ:Nat->Option V}{sg:Nat->Option (List V)}
theorem ig(v:V):dB v=true->ai θ v=some v:=by
 induction v with
 |none|bool|int|str|nil=>exact λ_=>rfl
 |cons p q hp hq=>
  intro h
  have h:=aO (h)
  show(Option.rec (motive:=λ_=>Option V) (aD (ai θ p) λx=>aD (ai θ q) λy=>some (.cons x y)) (λ_=>.none) (cu q))=_
  have:cu q=none:=by cases q<;>first|rfl|exact ft h.2
  rw[this,hp h.1,hq h.2];rfl
 |_=>exact λh=>ft h
theorem cK{p q x y:V}(ht:cu q=none)(h1:ai θ p=some x)(h2:ai θ q=some y):ai θ (.cons p q)=some (.cons x y):=by
 show(Option.rec (motive:=λ_=>Option V) (aD (ai θ p) λx=>aD (ai θ q) λy=>some (.cons x y)) (λ_=>.none) (cu q))=_
 rw[ht,h1,h2];rfl
theorem aT{α β:Type}{f:α->Option β}:aN f []=some []:=rfl
theorem ae{α β:Type}{f:α->Option β}{x:α}{l:List α}{y:β}{r:List β}(h1:f x=some y)(h2:aN f l=some r):aN f (x::l)=some (y::r):=by
 show aD (f x) (λy=>aD (aN f l) λr=>some (y::r))=_
 rw[h1,h2];rfl
theorem uK{α β:Type}{f:α->Option β}{l m:List α}{r s:List β}(h1:aN f l=some r)(h2:aN f m=some s):aN f (l++m)=some (r++s):=by
 induction l generalizing r with
 |nil=>obtain rfl:=af h1;exact h2
 |cons x q ih=>
  refine bp (h1) λy hy h1=>bp h1 λr' hr h1=>?_
  obtain rfl:=af h1
  exact ae hy (ih hr)
theorem jg(l:List V)(h:∀v∈l,dB v=true):aN (ai θ) l=some l:=by
 induction l with
 |nil=>rfl
 |cons x r ih=>have w:=ug h;exact ae (ig x w.1) (ih w.2)
theorem bX{l r:List V}(h:aN (ai θ) l=some r):bz θ sg (.list l)=some (.list r):=by
 show aD (aN (ai θ) l) (λys=>some (aF.list ys))=_
 rw[h];rfl
theorem bQ{k:Nat}{v w:V}{l r:List (Nat×V)}(h1:ai θ v=some w)(h2:aN (λp=>aD (ai θ p.2) λv=>some (p.1,v)) l=some r):aN (λp=>aD (ai θ p.2) λv=>some (p.1,v)) ((k,v)::l)=some ((k,w)::r):=
 ae (f:=λp:Nat×V=>aD (ai θ p.2) λv=>some (p.1,v)) (by rw[h1];rfl) h2
theorem lM(h:aN (λp=>aD (ai θ p.2) λv=>some (p.1,v)) l=some r):bz θ sg (.inst k l)=some (.inst k r):=by
 show aD (aN (λp=>aD (ai θ p.2) λv=>some (p.1,v)) l) (λys=>some (aF.inst k ys))=_
 rw[h];rfl
theorem A1(h:aN (λp=>aD (ai θ p.2) λv=>some (p.1,v)) l=some r):bz θ sg (.dict l)=some (.dict r):=by
 show aD (aN (λp=>aD (ai θ p.2) λv=>some (p.1,v)) l) (λys=>some (aF.dict ys))=_
 rw[h];rfl
theorem rg(h:sg j=some l):bz θ sg (.opq j)=some (.list l):=by
 show aD (sg j) (λl=>some (aF.list l))=_
 rw[h];rfl
theorem hG{v w:V}(h:ai θ v=some w):fH θ (.ok v)=some (.ok w):=by
 show aD (ai θ v) (λw=>some (Rz.ok w))=_
 rw[h];rfl
theorem qd(h1:ai θ m=some m')(h:ai θ v=some w):fH θ (.exc k m v)=some (.exc k m' w):=by
 show aD (ai θ m) (λb=>aD (ai θ v) λw=>some (Rz.exc k b w))=_
 rw[h1,h];rfl
theorem FG{k:Nat}{o o':aF}{l r:List (Nat×aF)}(h1:bz θ sg o=some o')(h2:aN (λp=>aD (bz θ sg p.2) λo=>some (p.1,o)) l=some r):aN (λp=>aD (bz θ sg p.2) λo=>some (p.1,o)) ((k,o)::l)=some ((k,o')::r):=
 ae (f:=λp:Nat×aF=>aD (bz θ sg p.2) λo=>some (p.1,o)) (by rw[h1];rfl) h2
theorem dQ{e:En}{vs:List V}{l0:List aF}{r:Rz}{ch:List (Nat×aF)}{nw:List aF}(h1:aN (ai θ) e.vs=some vs)(h2:aN (bz θ sg) e.l0=some l0)(h3:fH θ e.r=some r)(h4:aN (λp=>aD (bz θ sg p.2) λo=>some (p.1,o)) e.ch=some ch)(h5:aN (bz θ sg) e.nw=some nw):
 ja θ sg e=some ⟨e.k,vs,l0,e.d,r,ch,nw⟩:=by
 show aD (aN (ai θ) e.vs) (λvs=>aD (aN (bz θ sg) e.l0) λl0=>aD (fH θ e.r) λr=>aD (aN (λp=>aD (bz θ sg p.2) λo=>some (p.1,o)) e.ch) λch=>aD (aN (bz θ sg) e.nw) λnw=>some (⟨e.k,vs,l0,e.d,r,ch,nw⟩:gh))=_
 rw[h1,h2,h3,h4,h5];rfl
end
noncomputable def jO(t:Tr (List Nat))(conv:List Nat->Str)(i:Nat):Str:=Option.rec (aW [Nat.add 5000000 i]) conv (dq t i)
noncomputable def sO(l:List Nat):Str:=Str.ofString (String.ofList (l.map Char.ofNat))
noncomputable def aZ{α β:Type}(f:α->β)(l:List α):List β:=List.rec [] (λx _ ih=>f x::ih) l
noncomputable def rX{α β:Type}(l:List α):List β->List (α×β):=List.rec (λ_=>[]) (λx _ ih m=>List.rec [] (λy q _=>(x,y)::ih q) m) l
section
variable(n:Nat->Str)
noncomputable def Bo(ps ds:List Nat)(df:List Expr):Arguments:=⟨[],aZ (λp=>⟨n p.1,none,aE p.2⟩) (rX ps ds),none,[],[],none,df⟩
noncomputable def gg(k:ScopeKind)(l:List (Nat×Nat))(more:List Nat):Scope:={kind:=k,names:=aZ (λp=>(n p.1,kd p.2)) l,isGenerator:=false,isCoroutine:=false,more:=aZ (λx=>(n 2,.str (n x))) more}
noncomputable def Ov(x:Nat)(a:Arguments)(b:List Stmt)(s:Scope)(p:Nat):Stmt:=.FunctionDef (n x) a b [] none [] s none (n x) (aE p)
noncomputable def ip(x:Nat)(bs:List E)(b:List Stmt)(s:Scope)(sa:List Nat)(p:Nat):Stmt:=.ClassDef (n x) (bC n bs) [] b [] [] s none (n x) (aZ n sa) (aE p)
noncomputable def F6(b:List Stmt)(names:List (Nat×Nat))(file:Nat):Program:=
 { main:={body:=b,scope:=gg n .module names [],futureAnnotations:=false,file:=n file,more:=[]},modules:=[],parses:=[],absent:=[],harvested:=[],
   given:={argv:=[],stdin:=[],environ:=some [([76,67,95,65,76,76],[67,46,85,84,70,45,56])]}}
end
noncomputable abbrev Py:=PySem.W.SL.s7174869446012820540x8
noncomputable abbrev QT:=PySem.W.SL.s5856160107412720595x4
noncomputable abbrev Xp:=PySem.W.SL.s2766695959194262286x5
noncomputable abbrev gX:=PySem.W.SL.s17162191345867700912x4
noncomputable abbrev bW:=PySem.W.SL.s14018661285674007319x4
noncomputable abbrev S6:=PySem.W.SL.s658472552662922059x5
noncomputable abbrev iw:=PySem.W.SL.s4290257624100764138x5
noncomputable abbrev fJ:=PySem.W.SL.s14755015743595814543x17
noncomputable abbrev dw:=PySem.W.SL.s11030030927630378310x26
noncomputable abbrev cQ:=PySem.W.SL.s2742458400755230247x6
noncomputable abbrev fg:=PySem.W.SL.s5946037652744460706x9
noncomputable abbrev iu:=PySem.W.SL.s4278001404047624695x13
noncomputable abbrev lI:=PySem.W.SL.s5160863994218179198x17
noncomputable abbrev k9:=PySem.W.SL.s10220274742760427390x26
noncomputable abbrev Ei:=PySem.W.SL.s7097527257260152453x26
noncomputable abbrev l8:=PySem.W.SL.s6511155373996960695x17
noncomputable abbrev lX:=PySem.W.SL.s12411053484034534018x21
noncomputable abbrev ii:=PySem.W.SL.s4860613602091757760x24
noncomputable abbrev me:=PySem.W.SL.s11443829558043349243x14
noncomputable abbrev iA:=PySem.W.SL.s10062305145149207511x16
noncomputable def Bq(nm ql:Str)(a:Arguments)(b:List Stmt)(s:Scope)(df md:Value)(cd:Nat):Obj:=
 {cls:=.type Py,data:=.func {name:=nm,qualname:=ql,params:=a,body:=.stmts b,scope:=s,globals:=3,closure:=[],defaults:=df,kwdefaults:=.none,pyModule:=md,code:=.ref cd}}
noncomputable def Xf(c:Value)(nm ql:Str)(a:Arguments)(b:List Stmt)(s:Scope)(df:Value):Obj:=
 {cls:=c,data:=.func {name:=nm,qualname:=ql,params:=a,body:=.stmts b,scope:=s,globals:=0,closure:=[],defaults:=df,kwdefaults:=.none}}
noncomputable def ak(l:List Value):Obj:={cls:=.type Xp,data:=.seq ⟨l⟩}
noncomputable def aw(c:Value)(l:List Value):Obj:={cls:=c,data:=.fields ⟨l⟩}
noncomputable def Qa(c:Value)(l:List (Option Value)):Obj:={cls:=c,slots:=⟨l⟩}
noncomputable def gd(cd:ClassData)(l:List (Option Value)):Obj:={cls:=.type gX,data:=.cls cd,slots:=⟨l⟩}
noncomputable def bT(c:Value)(l:List DictEntry)(k:Nat):Obj:={cls:=c,data:=.dict ⟨l⟩ k}
noncomputable def aU(P:Params)(s:Str)(t:Nat)(v:Value):DictEntry:={hash:=PyData.keyHash P s,key:=.str s t,val:=v}
noncomputable def tB(f:Nat->Obj)(m:Nat)(d:Nat):Nat->Nat->BT:=Nat.rec (λ_ _=>.nil) (λ_ ih a b=>aa (Nat.blt b m) (.node (f b) (ih (Nat.mul 2 a) (Nat.add a b)) (ih (Nat.mul 2 a) (Nat.add (Nat.mul 2 a) b))) .nil) d
noncomputable def sB(a:Nat)(o:Obj)(t:BT):BT:=t.set a λ_=>o
noncomputable def Z3(l:List Obj)(a:Nat):Obj:=Option.rec default (λo=>o) (aj l a)
noncomputable def bv(t:Tr (Params->List Obj))(P:Params)(a:Nat):Obj:=Option.rec default (λl=>Z3 (l P) (Nat.mod a 16)) (dq t (Nat.div a 16))
noncomputable def SH(f:Params->BT)(m k:Nat)(w:World)(os:OsState):SharedT:={tree:=f w.params,n:=m,life:={},gens:=#[],drawn:={},toks:=k,os:=os}
noncomputable abbrev fQ:=PySem.W.Fast.tw10110043849684766642 PySem.W.Fast.tw14364793385576792824
theorem SF{k:Nat}(h:Nat.blt k 55296=true):(Char.ofNat k).toNat=k:=by
 have h':k<55296:=dO h
 have v:k.isValidChar:=.inl h'
 unfold Char.ofNat
 rw[dif_pos v]
 rfl
theorem Va(l:List Nat)(h:l.all (λk=>Nat.blt k 55296)=true):sO l=aW l:=by
 unfold sO aW
 rw[PySem.W.Fast.ofString_ofList,List.map_map]
 refine aq (λx:List Nat=>(⟨x.toArray⟩:Str)) ?_
 refine(List.map_congr_left λk hk=>?_).trans (List.map_id l)
 exact SF (List.all_eq_true.mp h k hk)
noncomputable def oV{α:Type}(p:α->Bool)(t:Tr α):Bool:=Tr.rec true (λ_ _ v _ fS bP=>aa (p v) (aa fS bP false) false) t
theorem SX{α:Type}{p:α->Bool}{i:Nat}{v:α}:∀(t:Tr α),oV p t=true->dq t i=some v->p v=true:=by
 intro t
 induction t with
 |lf=>exact λ_ h=>nomatch h
 |nd l k w r fS bP=>
  intro h g
  have h:aa (p w) (aa (oV p l) (oV p r) false) false=true:=h
  have g:aa (Nat.beq i k) (some w) (aa (Nat.blt i k) (dq l i) (dq r i))=some v:=g
  cases hp:p w with
  |false=>rw[hp] at h;cases h
  |true=>
   rw[hp] at h
   have h:aa (oV p l) (oV p r) false=true:=h
   cases hl:oV p l with
   |false=>rw[hl] at h;cases h
   |true=>
    rw[hl] at h
    cases hb:Nat.beq i k with
    |true=>rw[hb] at g;exact af g▸hp
    |false=>
     rw[hb] at g
     have g:aa (Nat.blt i k) (dq l i) (dq r i)=some v:=g
     cases hc:Nat.blt i k with
     |true=>rw[hc] at g;exact fS hl g
     |false=>rw[hc] at g;exact bP h g
theorem Wo{t:Tr (List Nat)}(h:oV (λl=>l.all λk=>Nat.blt k 55296) t=true):jO t sO=jO t aW:=by
 funext i
 unfold jO
 cases e:dq t i with
 |none=>rfl
 |some l=>exact Va l (SX (p:=λl=>l.all λk=>Nat.blt k 55296) t h e)
theorem Zw:segRunT treeTable=fQ:=congr PySem.W.Fast.te10110043849684766642 PySem.W.Fast.te14364793385576792824
noncomputable abbrev B9:=PySem.W.Fast.tw14374325043358763698 PySem.W.Fast.tw14364793385576792824
theorem RA:segRun treeTable=B9:=congr PySem.W.Fast.te14374325043358763698 PySem.W.Fast.te14364793385576792824
noncomputable abbrev G2:=PySem.W.Fast.tw14082659384304107361 PySem.W.Fast.tw14364793385576792824
theorem PU:topRun treeTable=G2:=congr PySem.W.Fast.te14082659384304107361 PySem.W.Fast.te14364793385576792824
noncomputable abbrev Co:=PySem.W.Fast.tw15667345088766844465 PySem.W.Fast.tw14364793385576792824
theorem Of:topGo treeTable=Co:=congr PySem.W.Fast.te15667345088766844465 PySem.W.Fast.te14364793385576792824
noncomputable abbrev BU:=PySem.W.Fast.tw11892475500146522536 PySem.W.Fast.tw14364793385576792824
theorem Sh:denote treeTable=BU:=congr PySem.W.Fast.te11892475500146522536 PySem.W.Fast.te14364793385576792824
section
variable{p:Program}{w:World}{m0:Nat}{ann:Option Value}{env:Env}{q:Pos}
theorem gw{k N:Nat}{S S':SharedT}{r:Shared}{l rest:List Stmt}{c:Code}{pos p':Pos}(h:fQ p w m0 ann 1 k S (piecesOf l env c pos [topFrame q])=some (.next,S',c,p'))
 (kk:topRun treeTable p w m0 ann N S'.abs (restOf rest env c p' [topFrame q])=some r):topRun treeTable p w m0 ann (k+N) S.abs (restOf (l++rest) env c pos [topFrame q])=some r:=
 piece_app (segRun_of (Zw▸h)) kk
theorem QI{N:Nat}{s r:Shared}{b b':List Stmt}{c:Code}{pos:Pos}(e:b=b')(kk:topRun treeTable p w m0 ann N s (restOf b' env c pos [topFrame q])=some r):topRun treeTable p w m0 ann N s (restOf b env c pos [topFrame q])=some r:=e▸kk
theorem Xc{N:Nat}{s s' r:Shared}{b:List Stmt}{c:Code}{pos p':Pos}(h:B9 p w m0 ann 1 1 s (blockOf b env c pos [topFrame q])=some (.next,s',c,p'))
 (kk:topRun treeTable p w m0 ann N s' (restOf b env c p' [topFrame q])=some r):topRun treeTable p w m0 ann (1+N) s ⟨denote treeTable (.body b env),c,pos,[topFrame q]⟩=some r:=piece_block (RA▸h) kk
theorem W8{n N:Nat}{s s' r:Shared}{t:Thread}{cd:Code}{c:Code}{pos:Pos}{st:List Frame}(h:Co p w m0 ann n s t=some (s',⟨BU cd,c,pos,st⟩))(k:topRun treeTable p w m0 ann N s' ⟨denote treeTable cd,c,pos,st⟩=some r):topRun treeTable p w m0 ann (n+N) s t=some r:=
 go_top (by rw[Of,Sh];exact h) k
end
theorem IH(e:t.get a=some o)(lt:a<m)(nf:o.isFreed=false):(absHeap t m {}).get? a=some o:=by
 unfold Heap.get?
 rw[absHeap_at,aG lt,e]
 obtain⟨c,d,x,s⟩:=o
 cases x<;>first|rfl|exact tf nf
noncomputable def jR(ts:List Addr)(h:Heap):Heap:=List.rec h (λa _ ih=>ih.hide a) ts
theorem qz(n:b∉ts):(jR ts h).get? b=h.get? b:=by
 induction ts with
 |nil=>rfl
 |cons a r ih=>exact(Heap.hide_ne _ λe:b=a=>n (e▸.head _)).trans (ih λq=>n (.tail _ q))
theorem Gy(n:b∈ts):(jR ts h).get? b=none:=by
 induction ts with
 |nil=>nomatch n
 |cons a r ih=>
  by_cases e:b=a
  · subst e;exact Heap.hide_self _ _
  · exact(Heap.hide_ne _ e).trans (ih ((List.mem_cons.mp n).elim (λq=>aV q e) id))
theorem Am{α β:Type}(f:α->β)(l:List α):aZ f l=l.map f:=by induction l with|nil=>rfl|cons x r ih=>exact aq (f x:: ·) ih
theorem J9{α β:Type}:∀(l:List α) (m:List β),l.length=m.length->(rX l m).map (·.1)=l
 |[],_,_=>rfl
 |x::r,[],h=>nomatch h
 |x::r,y::q,h=>aq (x:: ·) (J9 r q (Nat.succ.inj h))
noncomputable def iX{α:Type}(t:Tr α):List (Nat×α):=Tr.rec [] (λ_ k v _ l r=>app l ((k,v)::r)) t
theorem Ci{α:Type}{v:α}:∀(t:Tr α),dq t x=some v->(x,v)∈iX t:=by
 intro t
 induction t with
 |lf=>exact λh=>ns h
 |nd l k w r fS bP=>
  intro h
  have h:aa (Nat.beq x k) (some w) (aa (Nat.blt x k) (dq l x) (dq r x))=some v:=h
  show(x,v)∈app (iX l) ((k,w)::iX r)
  rw[cq]
  cases e:Nat.beq x k with
  |true=>rw[e] at h;exact List.mem_append.mpr (.inr (by rw[bx.mp e,af h];exact .head _))
  |false=>
   rw[e] at h
   have h:=h
   cases q:Nat.blt x k with
   |true=>rw[q] at h;exact List.mem_append.mpr (.inl (fS h))
   |false=>rw[q] at h;exact List.mem_append.mpr (.inr (.tail _ (bP h)))
noncomputable def uV(x:List Nat)(l:List (List Nat)):Bool:=List.rec false (λy _ ih=>aa (seq x y) true ih) l
noncomputable def AQ(l:List (List Nat)):Bool:=List.rec true (λx r ih=>aa (uV x r) false ih) l
theorem yW(h:x∈l):uV x l=true:=by
 induction l with
 |nil=>nomatch h
 |cons y r ih=>
  show aa (seq x y) true (uV x r)=true
  cases e:seq x y with
  |true=>rfl
  |false=>exact ih ((List.mem_cons.mp h).elim (λq=>aV (fk.mpr q) (by rw[e];exact Bool.noConfusion)) id)
theorem Vl{l:List (Nat×List Nat)}(h:AQ (l.map (·.2))=true):∀{i j:Nat} {s:List Nat},(i,s)∈l->(j,s)∈l->i=j:=by
 induction l with
 |nil=>exact λa=>nomatch a
 |cons p r ih=>
  intro i j s a b
  have h:=cf (h)
  rcases List.mem_cons.mp a with a|a
  · rcases List.mem_cons.mp b with b|b
    · exact aq Prod.fst (a.trans b.symm)
    · exact tf ((yW (List.mem_map.mpr ⟨(j,s),b,(aq Prod.snd a:s=p.2)⟩)).symm.trans h.1)
  · rcases List.mem_cons.mp b with b|b
    · exact tf ((yW (List.mem_map.mpr ⟨(i,s),a,(aq Prod.snd b:s=p.2)⟩)).symm.trans h.1)
    · exact ih h.2 a b
theorem wA(t:Tr (List Nat))(i:Nat):(∃s,(i,s)∈iX t/\jO t aW i=aW s)\/jO t aW i=aW [5000000+i]:=by
 unfold jO
 cases e:dq t i with
 |none=>exact .inr rfl
 |some s=>exact .inl ⟨s,Ci t e,rfl⟩
noncomputable def B5(s:List Nat):Bool:=List.rec true (λx _ ih=>aa (Nat.blt x 55296) ih false) s
noncomputable def zD(l:List (Nat×List Nat)):Bool:=List.rec true (λp _ ih=>aa (B5 p.2) ih false) l
theorem Si(h:zD l=true)(hp:p∈l):B5 p.2=true:=by
 induction l with
 |nil=>nomatch hp
 |cons q r ih=>
  have h:=aO (h)
  rcases List.mem_cons.mp hp with e|e
  · exact e▸h.1
  · exact ih h.2 e
theorem ZG{t:Tr (List Nat)}(h1:AQ ((iX t).map (·.2))=true)(h2:zD (iX t)=true)(i j:Nat)(h:jO t aW i=jO t aW j):i=j:=by
 have hi:∀(i k:Nat) (s:List Nat),(i,s)∈iX t->aW s=aW [5000000+k]->False:=λi k s hs e=>by
  have:=Si h2 hs
  rw[ku e] at this
  have:=cH (aO (this)).1
  omega
 rcases wA t i with⟨s,a,b⟩|b
 · rcases wA t j with⟨s',a',b'⟩|b'
   · have e:=ku (b.symm.trans (h.trans b'));subst e;exact Vl h1 a a'
   · exact(hi _ _ _ a (b.symm.trans (h.trans b'))).elim
 · rcases wA t j with⟨s',a',b'⟩|b'
   · exact(hi _ _ _ a' (b'.symm.trans (h.symm.trans b))).elim
   · have e:=ku (b.symm.trans (h.trans b'));injection e with e;omega
theorem Al(h:uV s ((iX t).map (·.2))=false)(hl:B5 s=true)(i:Nat):jO t aW i≠aW s:=λe=>by
 rcases wA t i with⟨s',a,b⟩|b
 · have q:=ku (b.symm.trans e);subst q
   exact tf ((yW (l:=(iX t).map (·.2)) (List.mem_map.mpr ⟨(i,s'),a,rfl⟩)).symm.trans h)
 · have q:=ku (b.symm.trans e)
   rw[← q] at hl
   have:=cH (aO (hl)).1
   omega
inductive l4(c:Cx):Value->List V->Option (Array Value)->Prop
 |none:l4 c .none [] none
 |tup {a:Addr} {l:List Value} {df:List V}:c.base.get? a=some (ak l)->(∀X μ h,(∀b,X b->c.base.get? b=Option.none)->c.base.StaysIn h->ay (ad c X μ h) df l)->l4 c (.ref a) df (some ⟨l⟩)
theorem l4.seq(x:l4 c df d od):∀M A E (s:Shared) (Q:Option (Array Value)->Shared->Prop),c.base.StaysIn s.heap->Q od s->wpAny M A (seqItems? df) Q E s:=by
 cases x with
 |none=>exact λM A E s Q _ q=>aS q
 |tup h _=>exact λM A E s Q st q=>ah (wpAny_load (st _ _ h) (aS q))
theorem l4.rel(x:l4 c df d od):∀X μ h,(∀b,X b->c.base.get? b=Option.none)->c.base.StaysIn h->ay (ad c X μ h) d (od.getD #[]).toList:=by
 cases x with
 |none=>exact λ_ _ _ _ _=>.nil
 |tup _ z=>exact z
noncomputable def Z4{α β:Type}(l:List α)(m:List β):Bool:=Nat.beq (len l) (len m)
noncomputable def D3(sc:List (Nat×Nat)):Bool:=List.rec true (λp _ ih=>aa (Nat.ble p.2 3) ih false) sc
theorem YK(h:D3 sc=true):∀p∈sc,p.2<=3:=by
 induction sc with
 |nil=>exact λ_ q=>nomatch q
 |cons p r ih=>
  have h:=aO (h)
  exact bD ⟨dO h.1,ih h.2⟩
noncomputable def Hi(f:Fn)(ds:List Nat):Bool:=aa (l7 f.ps) (aa (Nat.ble (len f.df) (len f.ps)) (aa (seq f.cs (dm f.sc)) (aa (D3 f.sc) (Z4 f.ps ds) false) false) false) false
theorem U6
 (ha:c.fnA k=a)(h1:c.base.get? a=some (Bq Aj ql (Bo c.nm f.ps ds j9) (cU c.nm f.body) (gg c.nm .function f.sc more) df md cd))(h2:c.base.get? cd=some oc)(h3:oc.data=.fields vs)(h4:vs[1]?=some (.str ql t))
 (hd:l4 c df f.df od)(hb:Hi f ds=true)(hl:f.lm=true->∃P,(cd,P)∈c.tabs/\ql++ ".<locals>." ++ "<lambda>" =c.tq cd):B6 c k f:=by
 have b1:=aO hb
 have b2:=aO b1.2
 have b3:=aO b2.2
 have b4:=aO b3.2
 have hlen:f.ps.length=ds.length:=by have:=bx.mp b4.2;rw[bH,bH] at this;exact this
 have hle:f.df.length<=f.ps.length:=by have:=dO b2.1;rw[bH,bH] at this;exact this
 refine⟨⟨Bq Aj ql (Bo c.nm f.ps ds j9) (cU c.nm f.body) (gg c.nm .function f.sc more) df md cd,_,aZ (λp=>⟨c.nm p.1,none,aE p.2⟩) (rX f.ps ds),j9,od,
  { f1:=by rw[ha];exact h1
    f2:=rfl
    f3:=rfl
    f4:=Am _ _
    f5:=rfl
    f6:=rfl
    f7:=rfl
    f8:=rfl
    f9:=rfl
    f10:=rfl
    f11:=⟨cd,oc,vs,t,rfl,h2,h3,h4⟩
    f12:=rfl
    f13:=?_
    f14:=?_
    f15:=?_
    f16:=λq=>⟨cd,(hl q).imp λP z=>⟨rfl,z⟩⟩}⟩,xG b1.1,hle,fk.mp b3.1,YK b4.1⟩
 · rw[Am,List.map_map]
   show(rX f.ps ds).map (λp=>c.nm p.1)=f.ps.map c.nm
   rw[show(λp:Nat×Nat=>c.nm p.1)=c.nm∘(·.1) from rfl,← List.map_map,J9 _ _ hlen]
 · exact hd.seq
 · exact hd.rel
theorem bR{α β:Type}{f g:α->β}{l:List α}(h:aZ f l=aZ g l):∀a∈l,f a=g a:=by
 induction l with
 |nil=>exact λ_ q=>nomatch q
 |cons x r ih=>
  have h:=h
  injection h with h1 h2
  exact bD ⟨h1,ih h2⟩
theorem VS{g:Nat->Obj}(h:(aZ (λa=>(a,g a)) l).lookup a=some o):a∈l/\g a=o:=by
 induction l with
 |nil=>exact ns h
 |cons x r ih=>
  have h:List.lookup a ((x,g x)::aZ (λa=>(a,g a)) r)=some o:=h
  rw[fy] at h
  cases e:a==x with
  |true=>rw[e] at h;have:=beq_iff_eq.mp e;subst this;exact⟨.head _,af h⟩
  |false=>rw[e] at h;exact⟨.tail _ (ih h).1,(ih h).2⟩
noncomputable def bO(f:Nat->Bool)(n:Nat):Bool:=Nat.rec true (λk ih=>aa (f k) ih false) n
theorem bY{f:Nat->Bool}{n:Nat}(h:bO f n=true):∀k,k<n->f k=true:=by
 induction n with
 |zero=>exact λk q=>aV q (Nat.not_lt_zero k)
 |succ n ih=>
  have h:=aO (h)
  exact λk q=>(Nat.lt_succ_iff_lt_or_eq.mp q).elim (ih h.2 k) λe=>e▸h.1
noncomputable def Mr(am:Nat)(l:List Nat):Bool:=aa (Nat.blt am (2^200)) (bO (λa=>aa (lS am a) (eN a l) true) 200) false
theorem RY(h:Mr am l=true)(hb:lS am a=true):a∈l:=by
 have h:=aO h
 have lt:=cH h.1
 by_cases q:a<200
 · have:=bY h.2 a q
   rw[hb] at this
   exact lL.mp this
 · have z:Nat.shiftRight am a=0:=by
    show am>>>a=0
    rw[Nat.shiftRight_eq_div_pow]
    exact Nat.div_eq_of_lt (Nat.lt_of_lt_of_le lt (Nat.pow_le_pow_right (by decide) (Nat.le_of_not_lt q)))
   unfold lS at hb
   rw[z] at hb
   exact ft hb
noncomputable def bL(l:List Nat)(k:Nat):Nat:=Option.rec 0 (λa=>a) (aj l k)
theorem W7(h:k<l.length):bL l k∈l:=by
 obtain⟨a,e⟩:=vh h
 unfold bL;rw[e];exact nk e
noncomputable def um(es:List DictEntry):Bool:=List.rec true (λe _ ih=>aa (match e.key with|.str _ _=>true|_=>false) ih false) es
theorem U8(h:um es=true):StrKeys ⟨es⟩:=by
 have k:∀e∈es,∃n t,e.key=.str n t:=by
  induction es with
  |nil=>exact λ_ q=>nomatch q
  |cons e r ih=>
   have h:=aO (h)
   refine bD ⟨?_,ih h.2⟩
   have h1:=h.1
   cases q:e.key with
   |str n t=>exact⟨n,t,rfl⟩
   |_=>rw[q] at h1;exact ft h1
 exact λe he=>k e (Array.mem_def.mp he)
theorem CE{h:Heap}(e:h.get? a=some o)(d:o.data=.dict ⟨es⟩ ep)(k:um es=true):h.Ns a (nsFind ⟨es⟩):=⟨o,_,ep,e,d,U8 k,λ_=>rfl⟩
structure sx(c:Cx)(K:Frag)(k:Nat)(cl:Cl):Prop where
 g:plainGet K (c.clA k) "" =true
 d:hasDictIn K (c.clA k)=true
 s:findIn K (.ref (c.clA k)) "__setattr__" =some (some (.builtin "object.__setattr__"))
 o:plainOver K (c.clA k)=true
 kp:keepIn K (.ref (c.clA k))=true
 mks:makesIn K (c.clA k)=true
 i:findIn K (.ref (c.clA k)) "__init__" =some (some (.ref (c.fnA cl.init)))
 a:∀a,lS cl.am a=true->findIn K (.ref (c.clA k)) (c.nm a)=some none
 m:∀a f,au cl.meth a=some f->findIn K (.ref (c.clA k)) (c.nm a)=some (some (.ref (c.fnA f)))
 it:typeIn K (.ref (c.fnA cl.init))=some (.type "function")
 mt:∀a f,au cl.meth a=some f->typeIn K (.ref (c.fnA f))=some (.type "function")
section
variable{c:Cx}{K:Frag}{k:Nat}{cl:Cl}
theorem sx.attr(x:sx c K k cl)(a:Nat)(hb:lS cl.am a=true):plainGet K (c.clA k) (c.nm a)=true/\hasDictIn K (c.clA k)=true/\(∃at_,findIn K (.ref (c.clA k)) (c.nm a)=some at_/\noGet K at_=true)/\
 findIn K (.ref (c.clA k)) "__setattr__" =some (some (.builtin "object.__setattr__"))/\plainOver K (c.clA k)=true/\takerIn K (c.clA k) (c.nm a)=some none:=
 ⟨x.g,x.d,⟨none,x.a a hb,rfl⟩,x.s,x.o,by unfold takerIn;rw[x.a a hb];rfl⟩
theorem sx.meth(x:sx c K k cl)(a f:Nat)(h:au cl.meth a=some f):plainGet K (c.clA k) (c.nm a)=true/\findIn K (.ref (c.clA k)) (c.nm a)=some (some (.ref (c.fnA f)))/\typeIn K (.ref (c.fnA f))=some (.type "function"):=
 ⟨x.g,x.m a f h,x.mt a f h⟩
end
theorem tV{X:Addr->Prop}(ht:ca v=true)(e:c.base.get? a=some (ak l))(hX:∀b,X b->c.base.get? b=none)(st:c.base.StaysIn h)(z:ay (ad c X μ h) (gz v) l):ad c X μ h v (.ref a):=
 (hZ ht).mpr ⟨a,⟨l⟩,rfl,⟨_,st _ _ e,rfl,0,rfl⟩,⟨λq=>cg e (hX a q),_,st _ _ e,rfl⟩,z⟩
structure mH(c:Cx)(mg mb:Str->Option Value)(x:Nat)(v:V):Prop where
 ex:∃y,(mg (c.nm x)=some y\/(mg (c.nm x)=none/\mb (c.nm x)=some y))/\∀X μ h,(∀b,X b->c.base.get? b=none)->c.base.StaysIn h->ad c X μ h v y
def TA{α:Type}(P:Nat->α->Prop)(t:Tr α):Prop:=Tr.rec True (λ_ k v _ l r=>P k v/\l/\r) t
theorem TA.lf{α:Type}{P:Nat->α->Prop}:TA P .lf:=trivial
theorem TA.nd{α:Type}{P:Nat->α->Prop}{l r:Tr α}{v:α}(a:TA P l)(p:P k v)(b:TA P r):TA P (.nd l k v r):=⟨p,a,b⟩
theorem TA.at{α:Type}{P:Nat->α->Prop}{x:Nat}{v:α}:∀{t:Tr α},TA P t->dq t x=some v->P x v:=by
 intro t
 induction t with
 |lf=>exact λ_ h=>ns h
 |nd l k w r fS bP=>
  intro a h
  have a:=a
  have h:aa (Nat.beq x k) (some w) (aa (Nat.blt x k) (dq l x) (dq r x))=some v:=h
  cases e:Nat.beq x k with
  |true=>rw[e] at h;exact bx.mp e▸af h▸a.1
  |false=>
   rw[e] at h
   have h:=h
   cases q:Nat.blt x k with
   |true=>rw[q] at h;exact fS a.2.1 h
   |false=>rw[q] at h;exact bP a.2.2 h
def LA{α:Type}(P:Nat->α->Prop):Nat->List (Option α)->Prop
 |_,[]=>True
 |k,o::r=>(∀v,o=some v->P k v)/\LA P (k+1) r
theorem LA.at{α:Type}{P:Nat->α->Prop}{v:α}:∀{l:List (Option α)} {k j:Nat},LA P k l->aj l j=some (some v)->P (k+j) v
 |[],_,_,_,h=>ns h
 |o::r,k,0,a,h=>a.1 v (af h)
 |o::r,k,j+1,a,h=>(by omega:k+1+j=k+(j+1))▸a.2.at (h)
theorem Qz{α:Type}{l:List (Option α)}{v:α}(h:Option.rec none (λo=>o) (aj l k)=some v):aj l k=some (some v):=by
 cases e:aj l k with
 |none=>rw[e] at h;exact ns h
 |some o=>rw[e] at h;exact aq some h
theorem SK{l:List (Nat×Nat)}(h:(l.map (·.2)).Nodup)(a:q∈l)(b:q'∈l)(e:q.2=q'.2):q=q':=by
 induction l with
 |nil=>nomatch a
 |cons p r ih=>
  have h:=List.nodup_cons.mp h
  rcases List.mem_cons.mp a with a|a
  · rcases List.mem_cons.mp b with b|b
    · exact a.trans b.symm
    · exact aV (List.mem_map.mpr ⟨q',b,a▸e.symm⟩) h.1
  · rcases List.mem_cons.mp b with b|b
    · exact aV (List.mem_map.mpr ⟨q,a,b▸e⟩) h.1
    · exact ih h.2 a b
section
variable{c:Cx}{X:Addr->Prop}{A B:Around}{env:Env}{fr:Fr}{μ:Mu}{σ:Sg}{s:Shared}{E:Value->Shared->Prop}{n:Nat}{K:Frag}{ih:Ev}
def gc(_:Addr):Prop:=False
theorem Px(G:bq c K)(hA:A.frames=some [])(hh:A.handled=none)(hd:A.depth+1+2*n+4<=990)(hu:A.units+3+12*n+400<=9000)(st:c.base.StaysIn s.heap)(tb:∀q∈c.tabs,tT (c.tq q.1) s.heap q)
 (kg:scope.names=names c sc)(hk:scope.kind=.function)(hs:∀p∈sc,p.2<=3){code:Value}(hc:lm=true->∃cd P,code=.ref cd/\(cd,P)∈c.tabs/\qual++ "<lambda>" =c.tq cd)
 (z:ay (λb y=>ad c gc [] s.heap b.2 y) bs ys)(hb:rK ⟨sc,(eB (dm sc) hE []).2,lm⟩ bs ⟨(eB (dm sc) hE []).1,[]⟩=.ok () σ₂){Q':Env->Shared->Prop}{E':Value->Shared->Prop}
 (k:∀env' a9 aB,aJ c n (A.deeper env') env' ⟨sc,(eB (dm sc) hE []).2,lm⟩->Ok c gc (A.deeper env') env' ⟨sc,(eB (dm sc) hE []).2,lm⟩ a9 σ₂ aB->aB.gens=s.gens->aB.os=s.os->Q' env' aB):
 wpAny c.M B (newFunctionEnv scope mainGlobals [] ((bs.map λb=>c.nm b.1).zip ys) qual func code none builtinsNs) Q' E' s:=by
 refine ah (wpAny_alloc (ah (wpAny_layCells _ (λ_ _ _=>rfl) _ _ _ _ ?_)))
 rw[kg]
 have W:y6 c sc lm (newEnv scope s.heap.objs.size mainGlobals (cellsFrom (s.heap.push {cls:=.type "frame",data:=.dict #[]}).objs.size (names c sc) []) qual func code none builtinsNs) s.heap.objs.size (cellsFrom (s.heap.push {cls:=.type "frame",data:=.dict #[]}).objs.size (names c sc) []):=
  ⟨rfl,rfl,E8 G.inj kg hs,hk,rfl,rfl,rfl,hc⟩
 have k1:aY (λ_=>False) s.heap (s.heap.push {cls:=.type "frame",data:=.dict #[]}):=aY.push _ _ _
 have hL:s.heap.get? s.heap.objs.size=none:=dk _
 have iy:=λb o e=>k1.2 b o (st b o e) id
 have bn:=Option.eq_none_iff_forall_ne_some.mpr λo e=>cg (st _ _ e) hL
 have o1:Ok c gc A (newEnv scope s.heap.objs.size mainGlobals (cellsFrom (s.heap.push {cls:=.type "frame",data:=.dict #[]}).objs.size (names c sc) []) qual func code none builtinsNs) ⟨sc,[],lm⟩ [] ⟨hE,[]⟩ {s with heap:=s.heap.push {cls:=.type "frame",data:=.dict #[]}}:=
  { len:=⟨rfl,rE⟩
    obj:=λn o e=>aV (rE.lt e) (Nat.not_lt_zero n)
    apart:=λi j p q h=>ns h
    new:=λb h=>(dR.mp h).elim λn q=>q.elim λp q=>Mine.ns q.1
    ns:=⟨λ_=>none,Heap.Ns.new s.heap _,λx v h=>Mine.ns h⟩
    lout:=⟨λh=>(dR.mp h).elim λn q=>q.elim λp q=>Mine.ns q.1,bn,id⟩
    cells:=λx l h=>Mine.ns h
    stays:=iy
    frs:=⟨[],hA,λe he=>aV he List.not_mem_nil,λb hb=>aV hb List.not_mem_nil⟩
    tabs:=λq hq=>zn (tb q hq) λb o e _=>k1.2 b o e id
    xlt:=λb h=>h.elim}
 obtain⟨ao,C⟩:=IO G sc o1 (g:=[]) (acc:=[]) λx l h=>Mine.ns h
 have o2:=(C.ok.setg (g:=(eB (dm sc) hE []).2) λx l hl=>C.rel x l hl).deeper W.fr W.fn
 have eo:aJ c n (A.deeper (newEnv scope s.heap.objs.size mainGlobals (cellsFrom (s.heap.push {cls:=.type "frame",data:=.dict #[]}).objs.size (names c sc) []) qual func code none builtinsNs)) (newEnv scope s.heap.objs.size mainGlobals (cellsFrom (s.heap.push {cls:=.type "frame",data:=.dict #[]}).objs.size (names c sc) []) qual func code none builtinsNs) ⟨sc,(eB (dm sc) hE []).2,lm⟩:=
  ⟨W.kd.k0,W.kd.k1,λx q=>.inr (W.kd.k2 x q),W.kd.k3,W.kd.kl,W.kd.kk,W.fn,W.gl,W.bi,⟨_,[],_,aq (Option.map _) hA,W.fr,W.fr⟩,hh,W.code,by
   exact hd,by
   exact hu⟩
 have sy:de gc gc s.heap (pushCells (s.heap.push {cls:=.type "frame",data:=.dict #[]}) (names c sc)):=(k1.trans C.only).keepX [] |>.stays (λb o e f=>f.elim) λ_ _ _ q=>q
 refine ah (wpAny_mono (Q:=λ_ aB=>Q' (newEnv scope s.heap.objs.size mainGlobals (cellsFrom (s.heap.push {cls:=.type "frame",data:=.dict #[]}).objs.size (names c sc) []) qual func code none builtinsNs) aB) (E:=E') ?_ (λ_ aB bh=>aS bh) λ_ _ e=>e)
 exact JG (E':=E') G.inj W.kd.k0 W.kd.k1 W.fn bs o2 (z.mono λ_ _ q=>q.mono sy C.ext) (E:=λ_ _=>False) (by rw[hb];exact λav s' y nx o' _=>k _ _ _ eo o' nx.gens nx.os)
theorem VF(S:SS c n ih.eS)(eo:aJ c n A env fr)(b2:List Mine.S){E:Value->Shared->Prop}{Q:Flow->Shared->Prop}(b:List Mine.S):∀{μ:Mu} {σ:Sg} {s:Shared},Ok c X A env fr μ σ s->
 ac c X A env fr (DF c X) μ s (Mine.execs ih fr b σ) (λf s'=>match f with|.next=>wpAny c.M A (PySem.execs (cU c.nm b2) env) Q E s'|f=>Q f s') E->wpAny c.M A (PySem.execs (cU c.nm (b++b2)) env) Q E s:=by
 induction b with
 |nil=>exact λo h=>ac.ok h (y:=Flow.next) .refl o trivial
 |cons st r bP=>
  intro μ σ s o h
  refine wpAny_execs_cons (S X A env fr μ σ s st _ E eo o (ac.bind (D':=DF c X) h λf aM ao y s₁ n₁ aC bj h₁=>?_))
  revert h₁
  exact tM bj (λh₁=>bP aC h₁) λv w r h₁=>ac.ok h₁ (y:=Flow.ret w) .refl aC r
end
section
variable{c:Cx}{X:Addr->Prop}{A:Around}{env:Env}{fr:Fr}{μ:Mu}{σ:Sg}{s:Shared}
theorem Cp:∀{k a i:Nat} {v:V},au (zG k a) i=some v->v=.bi i
 |0,_,_,_,h=>ns h
 |k+1,a,i,v,h=>by
  have h:au ((a,V.bi a)::zG k (a+1)) i=some v:=h
  rw[dA] at h
  by_cases e:a=i
  · rw[aG e] at h;exact e▸(af h).symm
  · rw[ax e] at h;exact Cp h
theorem Qo(K:gB c ⟨db bs 0,iS⟩ bs H0 σ.H)(o:Ok c X A env fr μ σ s):qD c c ⟨db bs 0,iS⟩ (dH μ bs) μ where
 loc:=λi b e=>by
  have hb:=BM e
  obtain⟨o0,h0⟩:=K.w.some (K.n▸iP hb)
  obtain⟨b',ob,z1,z2,_⟩:=K.obj i o0 h0
  have q:=bB hb z1
  subst q
  exact(o.at_mu z2).imp λp hp=>⟨pV hb hp,hp⟩
 hid:=λk b _ e=>V.noConfusion (Cp (k:=26) (a:=14) e)
 hib:=λk j _ _ e=>(show j=k from by have:=Cp (k:=26) (a:=14) e;injection this)▸rfl
 bi:=λ_ _=>rfl
 rho:=rfl
 seg:=rfl
 sp:=K.sp
 fn:=rfl
 cl:=rfl
 nm:=rfl
 prog:=rfl
 w:=rfl
noncomputable def AA(m:Mt)(r r0:List (Nat×V)):Bool:=List.rec true (λp _ ih=>aa (Option.rec false (λv=>b9 m v p.2) (au r p.1)) ih false) r0
noncomputable def AK(g:List (Nat×Nat))(bs:List Nat):Bool:=List.rec true (λp _ ih=>aa (dM (aj bs p.2) p.2) ih false) g
theorem Ys(h:AA m r r0=true)(e:au r0 x=some v0):∃v,au r x=some v/\b9 m v v0=true:=by
 induction r0 with
 |nil=>exact ns e
 |cons p q ih=>
  have h:=aO (h)
  have e:=e
  rw[dA] at e
  by_cases k:p.1=x
  · rw[aG k] at e
    exact bV h.1 λv hv hm=>⟨v,k▸hv,af e▸hm⟩
  · rw[ax k] at e;exact ih h.2 e
theorem NE(h:AK g bs=true)(e:au g x=some l):aj bs l=some l:=by
 induction g with
 |nil=>exact ns e
 |cons p q ih=>
  have h:=aO (h)
  have e:=e
  rw[dA] at e
  by_cases k:p.1=x
  · rw[aG k] at e;obtain rfl:=af e;exact l9 h.1
  · rw[ax k] at e;exact ih h.2 e
theorem Ok.cut(sp:∀j,∀v∈c.seg j,dB v=true)(hc:uz ⟨db bs 0,iS⟩ bs l0 σ.H=true)(hr:AA ⟨db bs 0,iS⟩ σ.r r0=true)(hg:AK fr.g bs=true)(o:Ok c X A env fr μ σ s):
 Ok c X A env fr (dH μ bs) ⟨hL l0,r0⟩ s:=
 have K:=BG hc c sp
 have C:=Qo K o
 have B:=K.at o
 { len:=⟨by unfold dH;rw[List.length_map];exact K.n,K.w⟩
   obj:=λi o0 h0=>(K.obj i o0 h0).elim λb z=>z.elim λob z=>(o.obj b ob z.2.1).elim λp w=>⟨p,pV z.1 w.1,(CO C z.2.2).mpr w.2⟩
   apart:=λi j p q hi hj ne=>(mD B hi).elim λa u=>(mD B hj).elim λb w=>o.apart a b p q u.2 w.2 λe=>ne (v7 K.nd u.1 (e.symm▸w.1))
   new:=λb hb=>o.new b (j6 B hb)
   ns:=o.ns.imp λm y=>⟨y.1,λx v0 h0=>(Ys hr h0).elim λv w=>(y.2 x v w.1).imp λz u=>⟨u.1,((lR C v w.2).1 z).mpr u.2⟩⟩
   lout:=⟨λq=>o.lout.1 (j6 B q),o.lout.2⟩
   cells:=λx l e=>(o.cells x l e).imp λp w=>⟨pV (NE hg e) w.1,w.2⟩
   stays:=o.stays
   frs:=o.frs.imp λl y=>⟨y.1,y.2.1,λb hb=>⟨λq=>(y.2.2 b hb).1 (j6 B q),(y.2.2 b hb).2⟩⟩
   tabs:=o.tabs
   xlt:=o.xlt}
end
section
variable{c:Cx}{v v':cc}{θ a6:Nat->Option V}{sg cF:Nat->Option (List V)}{X:Addr->Prop}{A:Around}{env:Env}{fr:Fr}{μ:Mu}{s:Shared}{T T':Tb}{b:Nat->Value}
theorem Hl(O:b6 v θ sg)(O':b6 v' a6 cF)(h1:aN (bz θ sg) l0=some x)(h2:aN (bz a6 cF) Nm=some x)
 (h3:aN (λp=>aD (ai θ p.2) λv=>some (p.1,v)) r0=some y)(h4:aN (λp=>aD (ai a6 p.2) λv=>some (p.1,v)) r0'=some y)(o:Ok (c.vw T b v) X A env fr μ ⟨hL l0,r0⟩ s):Ok (c.vw T' b v') X A env fr μ ⟨hL Nm,r0'⟩ s:=by
 have m1:=jW (λ_ _ e=>e) _ h1
 have m2:=jW (λ_ _ e=>e) _ h2
 have a1:=B4 (b:=b) (b1:=b) O v' (λ_ _=>rfl) (wE h3)
 have a2:=B4 (b:=b) (b1:=b) O' v' (λ_ _=>rfl) (wE h4)
 refine(o.tbl (T':=T')).turn (wi c T' b b v v') (HE.list (m1.meet m2 λx y z p q=>(rY O O' (λ_ _=>rfl) p q:OE (c.vw T' b v) (c.vw T' b v') x y))) λn w' hw=>?_
 obtain⟨z,e1,e2⟩:=a2.1 n w' hw
 obtain⟨w,e3,e4⟩:=a1.2 n z e1
 exact⟨w,e3,tQ O O' e4 e2 T' b b λ_ _=>rfl⟩
end
inductive Dw|n (d:Nat)|z|t (l:List (List Nat))
structure Dr where
 top:Nat
 w:Dw
inductive DT(α:Type)|leaf (a:α)|ask (top:Nat) (f:Nat->DT α)|skip (d:Dr) (t:DT α)
def rI{α:Type}(t:DT α):(α->List Dr->Bool)->List Dr->Bool:=
 DT.rec (λa jz p=>jz a p) (λtop _ ih jz p=>aa (Nat.blt 0 top) (bO (λd=>ih d jz (app p [⟨top,.n d⟩])) top) false) (λd _ ih jz p=>ih jz (app p [d])) t
structure ik where
 d:Int->Int->Nat->Nat
 n:Int->Int->Nat->Int×Int
 lt:∀A B t,0<t->d A B t<t
def ik.at(D:ik):List Dr->Int×Int->Int×Int
 |[],p=>p
 |x::r,p=>D.at r (D.n p.1 p.2 x.top)
def ik.is(D:ik):List Dr->Int×Int->Prop
 |[],_=>True
 |x::r,p=>(∀d,x.w=.n d->D.d p.1 p.2 x.top=d)/\D.is r (D.n p.1 p.2 x.top)
theorem ik.is_app(D:ik)(x:Dr):∀(l:List Dr) (p:Int×Int),D.is l p->(∀d,x.w=.n d->D.d (D.at l p).1 (D.at l p).2 x.top=d)->D.is (l++[x]) p
 |[],_,_,h=>⟨h,trivial⟩
 |_::r,p,h,k=>⟨h.1,D.is_app x r _ h.2 k⟩
def Ao(d:Dr):Prop:=∀k,d.w≠.n k
def DT.open{α:Type}:DT α->Prop
 |.leaf _=>True
 |.ask _ f=>∀d,(f d).open
 |.skip d t=>Ao d/\t.open
theorem xM{α:Type}(D:ik){jz:α->List Dr->Bool}(t:DT α):∀{l:List Dr} {p:Int×Int},t.open->rI t jz l=true->D.is l p->∃a l',jz a l'=true/\D.is l' p:=by
 induction t with
 |leaf a=>exact λ_ h k=>⟨a,_,h,k⟩
 |ask top f ih=>
  intro l p ho h k
  have h:=aO (h)
  have lt:=D.lt (D.at l p).1 (D.at l p).2 top (cH h.1)
  refine ih _ (ho _) (bY h.2 _ lt) ?_
  rw[cq]
  exact D.is_app _ l p k λd e=>by injection e
 |skip d t ih=>
  intro l p ho h k
  refine ih ho.2 (h) ?_
  rw[cq]
  exact D.is_app _ l p k λe he=>aV he (ho.1 e)
def ik.pt(D:ik)(l:List Dr)(p:Int×Int)(k:Nat):Int×Int:=D.at (l.take k) p
theorem ik.pt_succ(D:ik):∀(l:List Dr) (p:Int×Int) (k:Nat) (x:Dr),aj l k=some x->D.pt l p (k+1)=D.n (D.pt l p k).1 (D.pt l p k).2 x.top
 |[],_,_,_,h=>ns h
 |y::r,p,0,x,h=>by obtain rfl:=af h;rfl
 |y::r,p,k+1,x,h=>D.pt_succ r (D.n p.1 p.2 y.top) k x h
theorem ik.is_get(D:ik):∀(l:List Dr) (p:Int×Int) (k:Nat) (x:Dr),D.is l p->aj l k=some x->∀d,x.w=.n d->D.d (D.pt l p k).1 (D.pt l p k).2 x.top=d
 |[],_,_,_,_,h=>ns h
 |y::r,p,0,x,i,h=>by obtain rfl:=af h;exact i.1
 |y::r,p,k+1,x,i,h=>D.is_get r (D.n p.1 p.2 y.top) k x i.2 h
end
section
open PySem
def fx{β:Type}(n:Nat)(k:Nat->β):β:=Nat.rec (k 0) (λm _=>k m) (Nat.add n 1)
def vj{α β:Type}(d:α)(l:List α):Nat->(α->β)->β:=List.rec (λ_ k=>k d) (λa _ ih n k=>Nat.rec (k a) (λm _=>ih m k) n) l
def cS{α β:Type}(l:List α)(k:α->List α->List β):List β:=List.rec [] (λx r _=>k x r) l
def iq{α β:Type}(n:Nat)(l:List α)(k:List α->List α->List β):List β:=Nat.rec (motive:=λ_=>List α->List α->List β) (λa l=>k a l) (λ_ ih a l=>List.rec [] (λx r _=>ih (x::a) r) l) n [] l
def dg{β:Type}(r N:Nat)(f:Nat->Nat->β):β:=fx (Nat.mod N r) λx=>fx (Nat.div N r) λN=>f x N
def Mn{α β:Type}(n:Nat)(g:Nat->(α->Nat->β)->β)(N:Nat)(k:List α->Nat->β):β:=Nat.rec (motive:=λ_=>Nat->List α->β) (λN a=>k a N) (λ_ ih N a=>g N λx N=>ih N (x::a)) n N []
def u(x:Nat):List Nat:=Nat.rec (motive:=λ_=>Nat->List Nat->List Nat) (λ_ a=>a) (λ_ ih x a=>aa (Nat.ble x 1) a (dg 128 x λc y=>ih y (c::a))) 99 x []
noncomputable def ng:Tr (List Nat):=(.nd (.nd (.nd (.nd (.nd (.nd (.nd (.nd (.nd .lf 0 (u 1045838469559269) .lf) 1 (u 511457268) .lf) 2 (u 483949044) (.nd .lf 3 (u 235) .lf)) 4 (u 511276646) (.nd (.nd (.nd .lf 5 (u 14263338927130310638) .lf) 6 (u 125959291554050015) .lf) 7 (u 513537636) (.nd .lf 8 (u 494565220) .lf))) 9 (u 62777963250) (.nd (.nd (.nd (.nd .lf 10 (u 61974869860) .lf) 11 (u 3929957) .lf) 12 (u 2239392299400474130406) (.nd .lf 13 (u 496663028) .lf)) 14 (u 7900837279588) (.nd (.nd (.nd .lf 15 (u 63314852846) .lf) 16 (u 8342386407406) .lf) 17 (u 14898953393694144116) (.nd .lf 18 (u 7272591074499) .lf)))) 19 (u 3996274) (.nd (.nd (.nd (.nd (.nd .lf 20 (u 1046178044785395) .lf) 21 (u 8173265974885) .lf) 22 (u 130489448861954547) (.nd .lf 23 (u 17567331815975188581) .lf)) 24 (u 61980899816) (.nd (.nd (.nd .lf 25 (u 1090262929322734) .lf) 26 (u 286642214323255364023908) .lf) 27 (u 65745466981) (.nd .lf 28 (u 3977313601557100420637370963) .lf))) 29 (u 15344822950943356532) (.nd (.nd (.nd (.nd .lf 30 (u 504920680) .lf) 31 (u 509178084) .lf) 32 (u 22320) (.nd .lf 33 (u 1081329921555438) .lf)) 34 (u 65466301032) (.nd (.nd (.nd .lf 35 (u 3979255) .lf) 36 (u 64092861171) .lf) 37 (u 3879662) (.nd .lf 38 (u 8377834534501) .lf))))) 39 (u 64092861156) (.nd (.nd (.nd (.nd (.nd (.nd .lf 40 (u 500725477) .lf) 41 (u 1067825460148083) .lf) 42 (u 65753854707) (.nd .lf 43 (u 14527859218359493203) .lf)) 44 (u 475560293) (.nd (.nd (.nd .lf 45 (u 8272616126195) .lf) 46 (u 484079460) .lf) 47 (u 63304348275) (.nd .lf 48 (u 7242862113522) .lf))) 49 (u 1028721953470052) (.nd (.nd (.nd (.nd .lf 50 (u 3700332) .lf) 51 (u 7795344388723) .lf) 52 (u 64629847155) (.nd .lf 53 (u 137864527262250982) .lf)) 54 (u 7761242453860) (.nd (.nd (.nd .lf 55 (u 28916) .lf) 56 (u 65177024356) .lf) 57 (u 64407450354) (.nd .lf 58 (u 2249693197403745319528) .lf)))) 59 (u 8036890196706) (.nd (.nd (.nd (.nd (.nd .lf 60 (u 8478762300147) .lf) 61 (u 515699443) .lf) 62 (u 65466298853) (.nd .lf 63 (u 8379686253299) .lf)) 64 (u 62790399731) (.nd (.nd (.nd .lf 65 (u 496595828) .lf) 66 (u 490549997) .lf) 67 (u 57113359973) (.nd .lf 68 (u 8070197129956) .lf))) 69 (u 1059577786954227) (.nd (.nd (.nd (.nd .lf 70 (u 8410021704435) .lf) 71 (u 494499956) .lf) 72 (u 3946480) (.nd .lf 73 (u 61704319730) .lf)) 74 (u 16563627204093508069) (.nd (.nd .lf 75 (u 1006251741313381) .lf) 76 (u 34574546563872213604137061) (.nd .lf 77 (u 569121897157740760118320675443) .lf)))))) 78 (u 65703294565) (.nd (.nd (.nd (.nd (.nd (.nd (.nd .lf 79 (u 246268758569314457707219) .lf) 80 (u 131676410014790382) .lf) 81 (u 60626202867) (.nd .lf 82 (u 451964115) .lf)) 83 (u 3504613) (.nd (.nd (.nd .lf 84 (u 60640916210) .lf) 85 (u 16854580587138790638) .lf) 86 (u 519599723) (.nd .lf 87 (u 511275758) .lf))) 88 (u 488208741) (.nd (.nd (.nd (.nd .lf 89 (u 8513126216420) .lf) 90 (u 60879926510) .lf) 91 (u 511521520) (.nd .lf 92 (u 492565742) .lf)) 93 (u 17348933591993153510) (.nd (.nd (.nd .lf 94 (u 4035778785290122985322275539) .lf) 95 (u 496760811) .lf) 96 (u 4028901) (.nd .lf 97 (u 68081514927793950935918999074420) .lf)))) 98 (u 3797748) (.nd (.nd (.nd (.nd (.nd .lf 99 (u 1001719181669093) .lf) 100 (u 7932764436471) .lf) 101 (u 14816647773854950099) (.nd .lf 102 (u 60112270956) .lf)) 103 (u 138916244454357619) (.nd (.nd (.nd .lf 104 (u 1028721921997549) .lf) 105 (u 3931118) .lf) 106 (u 8035583752819) (.nd .lf 107 (u 8243629538036) .lf))) 108 (u 17567331815956051812) (.nd (.nd (.nd (.nd .lf 109 (u 131034976783954553) .lf) 110 (u 473512563) .lf) 111 (u 511341555) (.nd .lf 112 (u 8414582962803) .lf)) 113 (u 62775899763) (.nd (.nd (.nd .lf 114 (u 7829689530995) .lf) 115 (u 7795308655347) .lf) 116 (u 8209254888178) (.nd .lf 117 (u 56849332325) .lf))))) 118 (u 61169563508) (.nd (.nd (.nd (.nd (.nd (.nd .lf 119 (u 905440556430067) .lf) 120 (u 57948288612) .lf) 121 (u 66538223204) (.nd .lf 122 (u 496532069) .lf)) 123 (u 503182052) (.nd (.nd (.nd .lf 124 (u 65439266917) .lf) 125 (u 1077311155206118) .lf) 126 (u 509344755) (.nd .lf 127 (u 16348022075500787686) .lf))) 128 (u 8515286086894) (.nd (.nd (.nd (.nd .lf 129 (u 61974820595) .lf) 130 (u 484178285) .lf) 131 (u 7931139142259) (.nd .lf 132 (u 3994855) .lf)) 133 (u 16563631873567783525) (.nd (.nd (.nd .lf 134 (u 3175028) .lf) 135 (u 3470567) .lf) 136 (u 8242255868644) (.nd .lf 137 (u 61962024548) .lf)))) 138 (u 4406654773126995132108502899) (.nd (.nd (.nd (.nd (.nd .lf 139 (u 17645018840827852901) .lf) 140 (u 1028721934432372) .lf) 141 (u 36081073211274998146807022) (.nd .lf 142 (u 484959503911147163852834961012) .lf)) 143 (u 8376232343668) (.nd (.nd (.nd .lf 144 (u 477722220) .lf) 145 (u 62249332980) .lf) 146 (u 3895544) (.nd .lf 147 (u 3831668) .lf))) 148 (u 8379460006373) (.nd (.nd (.nd (.nd .lf 149 (u 4012016) .lf) 150 (u 61443963886) .lf) 151 (u 8411915465715) (.nd .lf 152 (u 16130072790494115301) .lf)) 153 (u 477656684) (.nd (.nd .lf 154 (u 61945509492) .lf) 155 (u 519829860) (.nd .lf 156 (u 31416) .lf))))))) 157 (u 16130072790485727848) (.nd (.nd (.nd (.nd (.nd (.nd (.nd (.nd .lf 158 (u 3750629) .lf) 159 (u 65738994419) .lf) 160 (u 64629668211) (.nd .lf 161 (u 16130072790494509157) .lf)) 162 (u 4329883444823366609647007348) (.nd (.nd (.nd .lf 163 (u 504919282) .lf) 164 (u 8036890245869) .lf) 165 (u 496761459) (.nd .lf 166 (u 64629815923) .lf))) 167 (u 7929025215091) (.nd (.nd (.nd (.nd .lf 168 (u 3699316) .lf) 169 (u 65738929396) .lf) 170 (u 66523493989) (.nd .lf 171 (u 16420040018635864050) .lf)) 172 (u 4109552) (.nd (.nd (.nd .lf 173 (u 14114197009422170098) .lf) 174 (u 2064649317180033759588) .lf) 175 (u 479883764) (.nd .lf 176 (u 131676404952265444) .lf)))) 177 (u 4329883444828416395160664805) (.nd (.nd (.nd (.nd (.nd .lf 178 (u 3880948) .lf) 179 (u 17637133177793181797) .lf) 180 (u 513585893) (.nd .lf 181 (u 66538222195) .lf)) 182 (u 498694005) (.nd (.nd (.nd .lf 183 (u 3896052) .lf) 184 (u 34426990415054579699316467) .lf) 185 (u 498628473) (.nd .lf 186 (u 9080423726091034283470267673605236) .lf))) 187 (u 9080423726068704793026385575277684) (.nd (.nd (.nd (.nd .lf 188 (u 1162294236939047989649285190027703412) .lf) 189 (u 70940810360087214703969589392500) .lf) 190 (u 70940810360077270764788448359540) (.nd .lf 191 (u 16130072790485956588) .lf)) 192 (u 126016193675655013) (.nd (.nd (.nd .lf 193 (u 65166619621) .lf) 194 (u 2064649317184081539699) .lf) 195 (u 513636718) (.nd .lf 196 (u 125959459871223775) .lf))))) 197 (u 14757094368885913586) (.nd (.nd (.nd (.nd (.nd (.nd .lf 198 (u 272512509880907389842680) .lf) 199 (u 34426990415080555131237107) .lf) 200 (u 72198631802967016332661830087155) (.nd .lf 201 (u 280703654160398504425454) .lf)) 202 (u 4524366868791597540971213550) (.nd (.nd (.nd .lf 203 (u 3980014) .lf) 204 (u 2101256739200106885860) .lf) 205 (u 1076485179306862) (.nd .lf 206 (u 2248618472441848281844) .lf))) 207 (u 2257553046752942864884) (.nd (.nd (.nd (.nd .lf 208 (u 2257553046757512344820) .lf) 209 (u 17637133177769916524) .lf) 210 (u 7828886319844) (.nd .lf 211 (u 4736989086958947089994446956) .lf)) 212 (u 3879159) (.nd (.nd (.nd .lf 213 (u 3400081158128436840904767609) .lf) 214 (u 403069956114500857272206803350556869281150886626706262689398363952) .lf) 215 (u 403069956114500857272206803350556869281150886626706262689398364014) (.nd .lf 216 (u 4579703495764991149589649457) .lf)))) 217 (u 984055625084895) (.nd (.nd (.nd (.nd (.nd .lf 218 (u 264156277259271006679007) .lf) 219 (u 2063718725790302253023) .lf) 220 (u 125959635679637471) (.nd .lf 221 (u 70908622576687359367173535231967) .lf)) 222 (u 33811875806512804804751327) (.nd (.nd (.nd .lf 223 (u 125959187138703327) .lf) 224 (u 2063713597737863294943) .lf) 225 (u 738456481117411) (.nd .lf 226 (u 106317819334570686) .lf))) 227 (u 125959425503244255) (.nd (.nd (.nd (.nd .lf 228 (u 2063719288847912759263) .lf) 229 (u 75043592240327084810638813034867) .lf) 230 (u 33812014152589549690777567) (.nd .lf 231 (u 70908718539933557393621432135647) .lf)) 232 (u 311860955321624782568700667895633642761547743) (.nd (.nd .lf 233 (u 136110171547209411109690138964552134623) .lf) 234 (u 264156783905437552062431) (.nd .lf 235 (u 29880) .lf)))))) 236 (u 3823798) (.nd (.nd (.nd (.nd (.nd (.nd (.nd .lf 237 (u 3824050) .lf) 238 (u 3824436) .lf) 239 (u 4020406) (.nd .lf 240 (u 4020658) .lf)) 241 (u 4021044) (.nd (.nd (.nd .lf 242 (u 66009595237) .lf) 243 (u 586278064377555350085495911155) .lf) 244 (u 66803611884657064137133616082911) (.nd .lf 245 (u 248862847256128023785700) .lf))) 246 (u 521903217848883410844312665070) (.nd (.nd (.nd (.nd .lf 247 (u 248862847256128019528296) .lf) 248 (u 4077368889444401577165715045) .lf) 249 (u 248862847256127990167909) (.nd .lf 250 (u 31854444448784385962636004) .lf)) 251 (u 125959118400597983) (.nd (.nd (.nd .lf 252 (u 52573239141) .lf) 253 (u 410777721) .lf) 254 (u 865515035522676) (.nd .lf 255 (u 412923888) .lf)))) 256 (u 3242354) (.nd (.nd (.nd (.nd (.nd .lf 257 (u 433846117) .lf) 258 (u 26603) .lf) 259 (u 7142775617518) (.nd .lf 260 (u 7241815683768) .lf)) 261 (u 7242900141684) (.nd (.nd (.nd .lf 262 (u 444331749) .lf) 263 (u 450458040) .lf) 264 (u 1072840386032356) (.nd .lf 265 (u 61175528037) .lf))) 266 (u 8381059922209) (.nd (.nd (.nd (.nd .lf 267 (u 475789292) .lf) 268 (u 3192824) .lf) 269 (u 9605579806761866855796845615723251) (.nd .lf 270 (u 32324352912748749669609439) .lf)) 271 (u 526777767309157584469776740319) (.nd (.nd (.nd .lf 272 (u 251187213568291148165605) .lf) 273 (u 526777767309163301588237480686) .lf) 274 (u 8351215109211312009175915376226271) (.nd .lf 275 (u 3982169680219322210607510258) .lf))))) 276 (u 65243868040713375093881614924133) (.nd (.nd (.nd (.nd (.nd (.nd .lf 277 (u 2241762235995228340304019726358559795869797) .lf) 278 (u 36729032474545821130193585451917056123669822067) .lf) 279 (u 1068955533979047937615355053332068837) (.nd .lf 280 (u 65243868040713375089349055279845) .lf)) 281 (u 31110700626713454772385636) (.nd (.nd (.nd .lf 282 (u 31110700626713454807905899) .lf) 283 (u 3982169680219322209783117038) .lf) 284 (u 31110700626713454799827696) (.nd .lf 285 (u 31110700626713454785066987) .lf))) 286 (u 509717719068073242992372824055) (.nd (.nd (.nd (.nd .lf 287 (u 17513767468712721411024018962831969465592) .lf) 288 (u 2241762235995228340156463577566901322969843) .lf) 289 (u 4701316156741865104015807904621582221346520855027) (.nd .lf 290 (u 17513767468712721419215163242323084048366) .lf)) 291 (u 586278064377555350087941273188) (.nd (.nd (.nd .lf 292 (u 1) .lf) 293 (u 29284467839981968384929759) .lf) 294 (u 32010333988381991972450271) (.nd .lf 295 (u 534478624770879400275800305631) .lf)))) 296 (u 18364545710416056577323221350190381888238) (.nd (.nd (.nd (.nd (.nd .lf 297 (u 524342542083637848695623200735) .lf) 298 (u 250026007692168379724531) .lf) 299 (u 32003328984597864004596974) (.nd .lf 300 (u 130180490019363746356697149609892196319) .lf)) 301 (u 3788750910298076526864546542) (.nd (.nd (.nd .lf 302 (u 2132877148477255620308163638914852295930596) .lf) 303 (u 16663102722478559533658757379588110579813) .lf) 304 (u 7945586549033431784466933071196900) (.nd .lf 305 (u 16663102722478559533658749493925075908709) .lf))) 306 (u 7945586549033431784466621954470515) (.nd (.nd (.nd (.nd .lf 307 (u 1017035078276279268411788909541323630) .lf) 308 (u 2132877148477255620308311000648094037326580) .lf) 309 (u 2132877148477255620308319935222405131909620) (.nd .lf 310 (u 2132877148477255620308319935222409701389556) .lf)) 311 (u 16663102722478559533658749493925052643436) (.nd (.nd .lf 312 (u 34945059200651356083128953059980940045008271091) .lf) 313 (u 7945586549033431784466519701648100) (.nd .lf 314 (u 4472967577683373578640836325991392286649540638828) .lf))))))))
def tl(x:Nat):Nat:=len (Option.rec [] (λl=>l) (dq ng x))
def pN(L c x:Nat):Nat:=Nat.add (Nat.mul L 1000001000) (Nat.add (Nat.mul c 1000001) x)
abbrev Hn:=Nat->Nat->List E->List S->(Nat->Nat->List E->List S->List S)->List S
def cw(N L:Nat)(f:Nat->Nat->List S):List S:=dg 512 N λc N=>dg 512 N λw N=>f (pN L c w) N
def oK(N L:Nat)(f:Nat->Nat->List S):List S:=dg 512 N λc N=>dg 512 N λe N=>dg 64 N λd N=>f (Nat.add (Nat.mul (Nat.sub L d) 1000000000) (Nat.add (Nat.mul c 1000000) (Nat.add (Nat.mul L 1000) e))) N
def vI(N:Nat)(f:Nat->Nat->List S):List S:=Nat.rec (motive:=λ_=>Nat->Nat->Nat->List S) (λN _ a=>f a N) (λ_ ih N m a=>dg 1024 N λd N=>fx (Nat.add a (Nat.mul (Nat.div d 2) m)) λa=>aa (Nat.beq (Nat.mod d 2) 0) (f a N) (ih N (Nat.mul m 512) a)) 20 N 1 0
def AV(N:Nat)(f:List (Nat×Nat)->Nat->List S):List S:=dg 64 N λn N=>Mn n (λN k=>dg 4 N λb N=>dg 512 N λa N=>k (a,b) N) N λl N=>f (List.rec (motive:=λ_=>List (Nat×Nat)->List (Nat×Nat)) (λa=>a) (λx _ ih a=>ih (x::a)) l []) N
def Q0(l:List S):List S->List S:=List.rec (λa=>a) (λx _ ih a=>ih (x::a)) l
def ZH:List Hn:=[
 λN L es ss k=>cw N L λp N=>k N L (.none p::es) ss,
 λN L es ss k=>cw N L λp N=>dg 2 N λb N=>vj true [false] b λb=>k N L (.bool b p::es) ss,
 λN L es ss k=>cw N L λp N=>vI N λx N=>k N L (.int x p::es) ss,
 λN L es ss k=>cw N L λp N=>dg 128 N λn N=>Mn n (dg 128) N λs N=>k N L (.str s p::es) ss,
 λN L es ss k=>dg 512 N λc N=>dg 512 N λx N=>k N L (.name x (pN L c (tl x))::es) ss,
 λN L es ss k=>cw N L λp N=>dg 512 N λa N=>cS es λo es=>k N L (.attr o a p::es) ss,
 λN L es ss k=>cw N L λp N=>cS es λi es=>cS es λo es=>k N L (.sub o i p::es) ss,
 λN L es ss k=>cw N L λp N=>dg 2 N λb N=>dg 2 N λa N=>cw N L λq N=>iq b es λh es=>iq a es λl es=>cS es λo es=>k N L (.slice o l h p q::es) ss,
 λN L es ss k=>cw N L λp N=>dg 6 N λx N=>cS es λr es=>cS es λl es=>vj .pow [.add,.sub,.mul,.fdiv,.mod] x λo=>k N L (.bin o l r p::es) ss,
 λN L es ss k=>cw N L λp N=>dg 10 N λx N=>cS es λr es=>cS es λl es=>vj .le [.eq,.ne,.is,.isNot,.isin,.notIn,.lt,.gt,.ge] x λo=>k N L (.cmp o l r p::es) ss,
 λN L es ss k=>cw N L λp N=>dg 2 N λb N=>dg 64 N λn N=>iq n es λl es=>vj true [false] b λb=>k N L (.bop b l p::es) ss,
 λN L es ss k=>cw N L λp N=>cS es λo es=>k N L (.not o p::es) ss,
 λN L es ss k=>cw N L λp N=>cS es λo es=>k N L (.neg o p::es) ss,
 λN L es ss k=>cw N L λp N=>cS es λo es=>cS es λb es=>cS es λt es=>k N L (.ife t b o p::es) ss,
 λN L es ss k=>cw N L λp N=>dg 64 N λn N=>iq n es λl es=>k N L (.tup l p::es) ss,
 λN L es ss k=>cw N L λp N=>dg 64 N λn N=>iq n es λl es=>k N L (.lst l p::es) ss,
 λN L es ss k=>cw N L λp N=>dg 64 N λn N=>iq n es λl es=>iq n es λm es=>k N L (.dct m l p::es) ss,
 λN L es ss k=>cw N L λp N=>dg 64 N λn N=>iq n es λl es=>cS es λf es=>k N L (.call f l p::es) ss,
 λN L es ss k=>cw N L λp N=>dg 2 N λn N=>AV N λs N=>iq n es λc es=>cS es λi es=>cS es λt es=>cS es λe es=>k N L (.comp e t i c s p::es) ss,
 λN L es ss k=>cw N L λp N=>AV N λs N=>cS es λi2 es=>cS es λt2 es=>cS es λi es=>cS es λt es=>cS es λe es=>k N L (.comp2 e t i t2 i2 s p::es) ss,
 λN L es ss k=>cw N L λp N=>AV N λs N=>cS es λe es=>k N L (.lam [] e s p::es) ss,
 λN L es ss k=>oK N L λp N=>cS es λe es=>k N L es (.expr e p::ss),
 λN L es ss k=>oK N L λp N=>cS es λv es=>cS es λt es=>k N L es (.assign t v p::ss),
 λN L es ss k=>oK N L λp N=>dg 64 N λn N=>iq n ss λb ss=>cS es λi es=>cS es λt es=>k N L es (.forS t i b p::ss),
 λN L es ss k=>oK N L λp N=>dg 64 N λn N=>iq n ss λb ss=>cS es λc es=>k N L es (.while c b p::ss),
 λN L es ss k=>oK N L λp N=>dg 64 N λm N=>dg 64 N λn N=>iq m ss λo ss=>iq n ss λb ss=>cS es λc es=>k N L es (.ifS c b o p::ss),
 λN L es ss k=>oK N L λp N=>cS es λe es=>k N L es (.ret e p::ss),
 λN L es ss k=>dg 512 N λc0 N=>dg 512 N λe N=>dg 64 N λ_ N=>dg 512 N λc N=>dg 64 N λn N=>dg 512 N λx N=>iq n es λl es=>k N L es (.raise x l (pN L c (tl x)) (pN L c (Nat.sub e c)) (pN L c0 (Nat.sub e c0))::ss),
 λN L es ss k=>oK N L λp N=>k N L es (.pass p::ss),
 λN L es ss k=>dg 64 N λd N=>fx (Nat.add L d) λL=>k N L es ss,
 λ_ _ _ ss _=>Q0 ss []]
def bo(N:Nat):List S:=Nat.rec (motive:=λ_=>Nat->Nat->List E->List S->List S) (λ_ _ _ _=>[]) (λ_ ih N L es ss=>dg 31 N λt N=>vj (λ_ _ _ _ _=>[]) ZH t λh=>h N L es ss ih) 5000 N 0 [] []
noncomputable def Ja:Fn:=⟨[3],[],[(3,0)],[],bo 33243681040949071686013735049849499,false⟩
noncomputable def wl:Fn:=⟨[4,0,1],[.int 0],[(4,0),(0,0),(1,0),(5,3)],[],bo 2890076032070624197132276480053130126578378625395099950772174808929949974799346683516918967095633643612745396287830451954197,false⟩
noncomputable def Kr:Fn:=⟨[7],[],[(7,0),(8,0),(9,0),(10,0),(11,0),(12,3),(13,3)],[],bo 60965254566271409090953894306407213696299245066902546555114570712585815559521259528177013403557938153746473477900710745298725204572743137634456715179132690346025261867669892441322770889456733424358076335682557934616781855032482308382469700575295121492847506837572621176660419970401719775439202297860500824090636784094169795003358614313475093304085258367902526357462346425586529993626203838573560109643375678047210610427402714358480107349250963455025656736042252745909679136563252950927230920177339010344698953921797279192043657593583518655987023710233321606916249572149186920292179948879497486043903490393153793091719215303365690528310368628728553256571898970338920751877,false⟩
noncomputable def Iq:Fn:=⟨[7,15,1],[],[(7,0),(15,0),(1,0),(16,0),(12,3),(17,3),(18,3),(19,3)],[],bo 1814844183437834469383866657922173176181900069605616844649560487400767447432846201076509217272843480590845617951589307561486381016022478458053289928888390232806577863032069421960066161313900063710638180002506476284245865668889431893732439673095549925662775143360427668176311413489782270610669274595692051895567677318729151967746694805693786,false⟩
noncomputable def IJ:Fn:=⟨[16,1],[],[(16,0),(1,0),(17,3)],[],bo 1192982942164199276103435932063625082035902268540382757226669267820707770362400635786158529152339672413128656251572428163168699424298866663562074497036429717353360043554042529098205202482441787907492620845362161557878953144513887764233412304831878558364997801776627234260,false⟩
noncomputable def Ku:Fn:=⟨[4,20,21,22,23,24],[],[(4,0),(20,0),(21,0),(22,0),(23,0),(24,0)],[],bo 54969663467643120537156371041329783986435775147571452082027169112217179591370012211744371627716982367463160028050956289281969244769097120545813047429760550164704095608870793750284,false⟩
noncomputable def K9:Fn:=⟨[4,25],[],[(4,1),(25,0),(8,0),(1,0),(26,3),(27,3),(28,3),(29,3)],[4],bo 18295042883082223858209213671193677407998211540804580131357747564709804143219531795675179892341317249078841512348367550173966809720146743769175215706568472430372665977339175033933251111198502137393728091734040497133083511681504734902889720139340028277656419496842520727274122587514104094358797024322427102562979486724619327817833044304217520395029444776332090340553272138860693280751559604123965538212778955354960464353062687505081986468501754704647409541850179875591839542195756970511024818849390250154722563232695338603305695484536831612628001200750971537694856096003813641576945729645080041934039363944741209249352706379791750754488157643361336989373255232729394689047346381721192209151701213861895869549343418201011119972045997548188272740763622894648648351774278558867623047124446010945578168641195044297339094889185320498169147143835984772321773187280356784615763340319787137534491606813347221602641690102210269999244777243323150311149379930222367389111889363436501975686330954775046162627994172523889272805,false⟩
noncomputable def I6:Fn:=⟨[4],[],[(4,0)],[],bo 3643264890860763037337560893769639072160834894852659298655827582112007864877524534901189284948279392727321278,false⟩
noncomputable def Mf:Fn:=⟨[4,1,34],[],[(4,0),(1,0),(34,0),(35,0),(36,0),(7,0),(27,3),(37,3),(29,3)],[],bo 720421817752526014429547401855510038322053813238815838235503948145307343904055510885462971676138654619646712145176684973489080374814067511863095776595857948007757585412944939523872753276525662558627152070436203441294615658215625073352875899178443254142488344249725555907529657583468230611346699596906532023939798570112330630375291033529791382849657863380365071835503680329669191267326014750223335533630674689216660952759890872642188673280701222085137290407794673851223992925654234724318540093302150743390971034381157596651514462345255239702411365216410769533687695854536440195083932742247973750443785506457344711683592467130197027769441098403670830159654007722816039806,false⟩
noncomputable def Mg:Fn:=⟨[4,1,35],[],[(4,0),(1,0),(35,0),(40,0),(41,0),(42,0),(43,3),(37,3),(29,3)],[],bo 47027705136329874031916014841256707488449292460858928313709399108805734886346394662179999170946082137838193988182948020627298852902939441335727295413417809576574625740178539598097628449540416281757155592531352234849672657966581947102278381138722252288462675828516157893938495514270531262673190182890503334725968172476597389573752413909997002529371078293301644683301937495986855645993581923703566028396215905418629112055577446919584692237389543828986941933918932504894907299897328933639826689558660169115582327376924097800163023732379214786193797561080698086523600176791007151038034469515214790022589083533541758158936136086514841644275461009359870098904006018034739278668594823428073359543388346011968055105084102850800704742865896645042296605981270217288190468537864310992125141244469194001860806510799077146299971755801068887426545524702983649506825655757970131662337901957544224154099527844456626898576248750633809064610737074122277394988606,false⟩
noncomputable def Jw:Fn:=⟨[4,1,35,7],[],[(4,0),(1,0),(35,0),(7,0),(29,3)],[],bo 24101304338091778786539390458372603492835699075104862843464503636611849305737531282413078126199313634712824925606964566160443540413781915641053100949053536183648096557100770995271870529780533102015180647879000713290716845801148990,false⟩
noncomputable def Gr:Fn:=⟨[4,1,36,35],[],[(4,1),(1,1),(36,0),(35,0),(30,0),(41,0),(45,0),(7,0),(29,3),(37,3),(27,3)],[4,1],bo 2825170283250525908315820675499979930502822354142245219054280041862117264370106837635181197185992742952980871898133331607464468922638355857684199176927010688181049407832915385079397725643884147452340807407240599501608719727414701796498551764110797088926632739827133216850497907225576339296275013649361722639945598436769659364065968255107114799875346222087941914742625745600217356836140029605069269833093057410290150881362588136355049968859967124952946298009325288431400195709451503356595739007649925683064708121914468709819701344147694092153394938556378334468561426929829069006619231498792100201837303702518933082467598873974412139324838030586499966890295761720747973950971658299193522682418109507055284466919490032404315485320128942206621604843383345764553011711562876644165330805187618845081126208660457055335260250986208841865978509290803811577838284065359893840391548446766274556882459683488316591291835232497453988025499985331739375724840331901878324816815015959911651757545593652550422847050127836621473172112465087501293773141535669480950022985772646338433089049679154908458058085486018774747385690633805657053809887482339362034506370722346456324897088598910,false⟩
noncomputable def Iy:Fn:=⟨[20,21,22,23,25,24],[.none],[(20,0),(21,0),(22,0),(23,0),(25,0),(24,0),(48,3)],[],bo 161795271692419891168182351394886289108011114890125739717189926680718473437660340646104667710,false⟩
noncomputable def Je:Fn:=⟨[7],[],[(7,0),(8,0),(9,0),(49,3),(50,3)],[],bo 6968583793056432684836030059571541826155992441807334700473602669181424695382799493701837346162160400180685259812839962847601768221565155336539593252595437478744891630814602647070463714702958211119737538003079395620059593209790199144988865932951688176810060462044409302485908965633639362127992148494955066108049479312545355776499007968679923893316986987970540378767205531537992582775791572139721449849804394301678251332981241841634823594566926540611426922695133087204331568083388513879379921333425917946284792491903937427582636279357333476044179400382,false⟩
noncomputable def GE:Fn:=⟨[20,21,34,1],[],[(20,0),(21,0),(34,0),(1,0),(30,0),(29,3),(17,3),(27,3)],[],bo 255210024860554478600724883408361104243855502944771897904075881753822002957416160669991771694361399866755754921469215232787314794403863404967548546982092624868876756902322237110308686033719515639824034206904432434195860012249328384711869139578967859054560066540976806487242087385617092204829891036669764730215390749318933931613761530100843225626787494482555888509734825683503939035470636217468083697800169198842932519301477675344641328604585674576313418970757110549081853398127091770686929747183980008257235691846527838545789887272113548606215815894521462419151515053026921291885462382967866210479393115927540382468746496964573699972386660328725923496211564255506414936855538387990017611062460344549180338128421127871567899302685204085231506757344585658377618253111463894102782155371691374469082923391065005272001841033754686,false⟩
noncomputable def Io:Fn:=⟨[20,21,22,1],[],[(20,0),(21,0),(22,0),(1,0),(10,0),(16,0),(40,0),(51,0),(52,0),(34,0),(30,0),(17,3),(43,3),(53,3),(27,3)],[],bo 81332177114260623275234148257246926452359098903013210770625698673344987226195001082701404374196930558507987256612488647470393407541314711597148779577971162118672491522297106321775185160646225784435513101932593201835945209717276499553850408723550628850457037813182013683471985980104521776370433298546369305049331260716166568839192174688093236566054720614774293197182070077389468545415113596598290712175508314929668537140255017944902189573828656405114606835139909566857595018266506847103644336830483981197505573079306165881856866697501173647962132923570581741448304421626963376343492498085624740716788130292599548010655322655376578598723359572958684483395895809319582722317335545087141813735567763440178509232982467830750344548487842378188940418044982421826719118980636633520079343303031534562128377164459564117290295627979218990316137427722808928416295933895016717087102599746017880006840279062616716259654624803365152514645411192906258171772544508419131910047565009238660767224149346534484714459600118250117640273573958318606459651639300430741446078457805398834812719177516766920186450379515522359525782545673492845827081780445489168286916028632818973005951084414038105151732378098228691414325110865248227579748180668483930229514478759463122627838057477904381191862217301226426680304210426792173733168351327010379901561752727953429385737979716605447337067226170337342,false⟩
noncomputable def KA:Fn:=⟨[21,40],[],[(21,0),(40,0)],[],bo 14791477951187176597428729087279282278127775654084982667737078994310275668075468401906202594763585598,false⟩
noncomputable def JB:Fn:=⟨[30],[],[(30,0),(55,0)],[],bo 8005317956673335453672357831173250592489854879146786669173983799581141146963346215344578248746561097092922744496773868981939490649602506474100798,false⟩
noncomputable def HU:Fn:=⟨[21,57],[],[(21,0),(57,0)],[],bo 55492394550924376168553723931000579478551319681482747520782160766724874509977863101948418501681201627600208626093945822030686270,false⟩
noncomputable def Jt:Fn:=⟨[4,36,59,1],[],[(4,0),(36,0),(59,0),(1,0)],[],bo 2691593051022499983322132825900921715962102532225820979739600894628363569597096002390439498852224113503314000816190,false⟩
noncomputable def FY:Fn:=⟨[4],[],[(4,0)],[],bo 705583533285930147474521512598015292765054956560744151018543586817906994728963467958750793926764558284182359685201709118,false⟩
noncomputable def Fq:Fn:=⟨[4,62],[],[(4,0),(62,0)],[],bo 208764908864330527769705882669821570838484653568032559794326521365135318327780099931354593342,false⟩
noncomputable def EL:Fn:=⟨[4,40,63],[],[(4,1),(40,1),(63,0)],[4,40],bo 110876175022768170996793853334647256971058609676648822846937020698500072149181448948764831479786564227111520020973674732729265990469091519651041196865651850184961312830,false⟩
noncomputable def Hv:Fn:=⟨[4,64],[],[(4,0),(64,0),(65,0),(21,0),(9,0),(66,0),(67,3),(13,3),(68,3)],[],bo 725981365781991671092787705537357747236860075442751532677096043256848582464913859771376355547049903598621284660867506683095884182101446724223137443485935786958768380389110236447725425751205977711475506991999017283859825479674521147304423665173078282049444626501001482740648057140796214066204955001993645429240182064410940695564450023846142074818670720215657776865073135642415953017949390097952193870283462702028174033201550286087479079936134494149062340548480986619883011707873665038784187977977196652872941473557212554679072397227044683879682148436695807806900928974518562089965378355614163904883141576944688629280624091683445260144984073222787835782030817611407428098431835556394670147332666697949668646446745722346696545026110130238,false⟩
noncomputable def Lq:Fn:=⟨[4,21,66],[],[(4,0),(21,0),(66,0),(8,0),(1,0),(63,0),(68,3),(67,3)],[],bo 656141235134339684064034875125158139971669008407600992750954398011823813423288327921842912657492188892892945494149022873651588102810334123700027772705514142188393919068768202990464705835394544530494356694411490709702463453595644695245155455848563612903314687103662541090439569787030035166732561778312771623985923597251954730721622855280715922465786865026939969183906508312343563985286876931966993406858736346063553023963999168171830832014950834236842432984236164350106228462703976418614518578601551883673720549110458547073543947007934305972550516357313658816409226270307832421097735790786616991959608388092564871794411947877301287995127366849874232764366441530086952493788420717619559690058239287165486317474503359843169108233171159872954776685021008416861674451577172407804806429630578268289271529525173494059389549452212518411195591364962266843350896199863300632812101896803043824657809630574756271654880427878462266984038597790309990684441538316396400229601799117837099890369521900761905567427209876328230757919117713650144103901989475243965763723614501824361340165316489967354470495857396413734257986663996899283330447554526617847092887469222709373921206971392817805811163883077434568199222036760223058550824108423928103303442056131457652365346692101024676229301503688994704245843681597219034878858147972624563473156726801392653483958889841310718313755495053899156531995093196685479879003204981999181990262857232184927592189988011092171694586352634385430530127160483456956558186003376918893684798,false⟩
noncomputable def GS:Fn:=⟨[4,21,40,8,63,59,1],[],[(4,0),(21,0),(40,0),(8,0),(63,0),(59,0),(1,0),(78,0),(30,0),(62,0),(68,3),(79,3),(17,3)],[],bo 14092896386306142014514437448213467321793032112557290735820071759555613974165591822781939940361615715797792563028972731667866381716179372526290153400614794490530927445332228598004527766519487374982692078190205323070107602916532800398597853810790991457486058946994851145369133522056424976798848359692429628686671549476155437183928884002983042241457904150888848792237208282826266685145117311438272360460329901138853720900283208301856360368744575645307462172674124826801263702937407841980006687549844974829885233597614257928519879399705630105688375345227614725645915770134861416726918245376231580586956171702399725259123294126673289324533471808189114190538521452343886469179228576833319105266881371204549677943387148791862657045751870,false⟩
noncomputable def GP:Fn:=⟨[4,21,66,63,59],[],[(4,0),(21,0),(66,0),(63,0),(59,0),(30,0),(41,0),(45,0),(68,3),(27,3)],[],bo 602025328376343293815549970375905726971049282508206292952968108151305881012407460656986148442894486024455560254183545371868488290629957540917945626547207846328201293799810487322102726487512998892603563798819292455026799367289372028734693198371337658940581621760149285582913381889126839983339018827536866611286753422271859116805846012240633505754955046256602942021607700448600747822196554178734535475957178883414285391162848862123481273996587272856539752510,false⟩
noncomputable def JM:Fn:=⟨[4,30,66],[],[(4,0),(30,0),(66,0),(35,0),(68,3),(17,3)],[],bo 3917207895417871596222983046710529544796321649957670142448018805393228265833692470157970620420143458190941798839031614306186301381338698482623376152996421735483646048587792785272333433614048096106599178680534912212661576975902891871032748046821912267714237422886576499386197922374391689282704411680471722287600667312915554360946686978172208978630193223598423277306526360689076698070619734778691385026622,false⟩
noncomputable def Es:Fn:=⟨[4,21,66],[],[(4,0),(21,0),(66,0),(1,0),(36,0),(81,0),(59,0),(40,0),(78,0),(79,3),(17,3),(82,3),(83,3),(27,3)],[],bo 4944735530984986413144117452658423452290763159955491414435963731810976636042107025809858551129355639537125380347508234317485579437026667945837030435184110918617194448796367209091303767851547314612407879711262718138700418871586701207104089735644082208437292837588967847496928700453914959447173845687664336351254175542667998731070242993774892170948616004005144210488230137673852044854470634043636156593366829217750157622257406131946700061430848974443270210514833928104814821126264468438287270261633218707099051598509565379954336512953733672185359893123055217904894511984179639488884675178199031797323724516071496201477795211099777825752937986802603468544860770869157444203617798475118672017287326365249974178952513909666607590474598897368506560394166402445147897765056367589637082216723310733074871813400638,false⟩
noncomputable def Jl:Fn:=⟨[4,84,57,59],[],[(4,0),(84,0),(57,0),(59,0),(85,3)],[],bo 1131701873427183848810148054976919643927630682245825882569859207652698174,false⟩
noncomputable def LL:Fn:=⟨[4,21,36,62,1],[.int 0],[(4,0),(21,0),(36,0),(62,0),(1,0),(27,3)],[],bo 1467381716893686623931057756767210345998208836105566578131155379235005135548649619296382587327559559309627983873115512287727008291857887651902,false⟩
noncomputable def IW:Fn:=⟨[4,21,36,62,1,87],[],[(4,0),(21,0),(36,0),(62,0),(1,0),(87,0),(88,0),(55,0),(89,0),(10,0),(37,3),(17,3)],[],bo 40444146556197709335664804692965375560218132281415780290476305028508154112341824875132046382448727651742634819805695594481728225100778372587859158321110903864700233577032301599574456037941770359080998261722121430196805304270764788610379815269090096074904286885925496652237830506031337851108405920087848981106713120539091337308285454811917287022543312712676392934076416610355024954287397980862660976692579112084340961651921521861970008480828847972746628804825294736943898912626120236620536148620866071906384074843657799566174947690983521423593246739281241649886254315391078410598663948963325190353551166825165638849174352387947593258228243469185399285011924849112845981161239445753279723960274062832944708559626622242402455625090664990463937713426768438471375815920982398870311915336663577904701747591559456764781019887264938601649577022928511898517377655498814,false⟩
noncomputable def Ko:Fn:=⟨[4,21,36,1],[],[(4,0),(21,0),(36,0),(1,0),(88,0),(55,0),(17,3),(82,3),(37,3),(93,3)],[],bo 519430944596454604232070971294441847295844229397492709131594256015847972765606356209921904159565116862260144272206482904745494039360793821755986816685229597780324346442952497731033888687231806801510713718228107618053602967176696229321974439044403695971281020905954793465348267087973547635582491694074851234685825145810292793367181484675164079386901893574540347184352207296531469254619270179438260235602861902976372796326348610851446878600526787782444405830818647450816308728821607547086184783091120161672625893959014375513337333063520723337770554963065922164618215640431249293423667983663536826253605000785577779599710884667969028791110277105604526529917906805134453608315186158955628288571149568620520254215286139265345825010800942192914509373639858990676660436660690996244055771790532938382736348082717022095555607181532739397694,false⟩
noncomputable def LZ:Fn:=⟨[4,21,88,40,62,1,87],[],[(4,0),(21,0),(88,0),(40,0),(62,0),(1,0),(87,0),(10,0),(94,3)],[],bo 13507985517854470570682623662505544429235131812690376341329993210371909539393902701651822775697502638273925686170321657225081033077610440880890680694381865938608950441992585107449289466029763104438257814616419998062651672168186014188352115196645478634110565232747107228190173067864734491920089479370302792880024565176531317393358053029628556332545766285253121476374018435295766716116778870846,false⟩
noncomputable def J0:Fn:=⟨[4,84,57,40,62,1,87],[],[(4,0),(84,0),(57,0),(40,0),(62,0),(1,0),(87,0),(30,0),(78,0),(96,0),(68,3),(97,3)],[],bo 3205354248487026567426252883290563072361728657941468305074172120934659861311726455019206115496888379890103040212853762735514978220064293866687473762066921211942155804740050890187892241613688417380286509593837043692285069221943367042226930407018064220963106458781480939927710275892726044842470709116963487104382487530090675301183693867895257441920466471807780820755628993308649675375058653164794916859777126811181843505840039674762896297513741010248609295197823683967720774088334845174726667819304510133259173702081732209880087685687630452559365039453745431803004522730079026870299733516839509606302573067374536267612642118139613330872674424466971524988754414379976464406709737779332136293180520429481688856199303623586670417121589922191349684161660361590022554520201166607807983783459040365135217385303615008482178329580986652445418096678551497346181996860023470825656507927765777010384629275902167890639886260794982575701837625706908233041511310214107850005551153691479540462307241342112711029615553284877357678921359937832292543506721469030886508504382390634182261885521636091966,false⟩
noncomputable def Ij:Fn:=⟨[4,57,40,96,62,87],[],[(4,0),(57,0),(40,0),(96,0),(62,0),(87,0),(10,0),(37,3),(101,3),(17,3)],[],bo 880154505496043814793947183507143074979456713713816731351491452317881462737922306162173297922412973220791407700874212468681613122437022265277869211673092107108705168258573854106753567849162511980053291354203722592204309297375197360574675678112350456472810133524151479159308911914894404435610834632271631398882565721072043252867285101096782332405492270177168041914247952175751371476512963472708518157910629161104549451732706268992512207649228703498740886555877388143272888991342135465973966555457875119285197591563575485713285978400993748071073274746485239566581987403203179450724811014812674804538210951329652330686675675198,false⟩
noncomputable def IC:Fn:=⟨[4,21,36,1],[.int 0],[(4,0),(21,0),(36,0),(1,0),(102,3)],[],bo 33469151732183327329991661836865990891645867110349400126,false⟩
noncomputable def EO:Fn:=⟨[4],[],[(4,0),(102,3)],[],bo 33469151732183327329999717164963493490626870137244346430,false⟩
noncomputable def FX:Fn:=⟨[4],[],[(4,0),(102,3)],[],bo 33469151732183327330007772493060996089607873164139292734,false⟩
noncomputable def Jk:Fn:=⟨[4,21,96],[],[(4,0),(21,0),(96,0),(102,3)],[],bo 33469151732183327330015827821158498688588876191034239038,false⟩
noncomputable def GU:Fn:=⟨[4,30,41,45,103,104,21,69],[.str [],.nil],[(4,0),(30,0),(41,0),(45,0),(103,0),(104,0),(21,0),(69,0)],[],bo 135840513996331800552170839330227368371559614177055155401690219213373871643776330151019984986343804205691626179603662465303793532958526432397518633614791347069284082221424739987226182359215249201075045608302385142980316834562655261777546334441832216744672582198356030,false⟩
noncomputable def L9:Fn:=⟨[4,30,41,45,105,106,107,108,109],[],[(4,0),(30,0),(41,0),(45,0),(105,0),(106,0),(107,0),(108,0),(109,0)],[],bo 38514854865891996060389262542897368051940029077919154928878684543410849545838341541533060622963391411331763412409709110861944997176829408966312857029339450232632841494758487536021227545378977901636980993061316331574252439179889121954754988815050022313950508635288459368346550097086332860185478464792638,false⟩
noncomputable def FW:Fn:=⟨[4,20],[.none],[(4,0),(20,0)],[],bo 169388744610846717371607484076880818156667537755489212978340484370908656767317818204000426012932790914757048445690508653699089139673272275619477861414168393129827598407945725992778546700651118228744935155277638648080935521990368993698218601165319477072123644355556725068707168493063533119161843509886532458413287486,false⟩
noncomputable def I0:Fn:=⟨[4,30,116,3,21],[],[(4,0),(30,0),(116,0),(3,0),(21,0),(102,3)],[],bo 33469151732183327330023883149256001319017223318969772094,false⟩
noncomputable def HI:Fn:=⟨[4,21,41,45,23],[],[(4,0),(21,0),(41,0),(45,0),(23,0),(27,3),(13,3)],[],bo 106464126846759180072318775947898203117598980093898612130917556412603257038490717184915698324904730469534476142320877866210980529278600255620141291951673569532110365496466050824801368513439806,false⟩
noncomputable def I9:Fn:=⟨[4],[],[(4,0)],[],bo 1243844101327384330657701585975280021068492422483921349060780184025445321172153662301376994601022,false⟩
noncomputable def HO:Fn:=⟨[4,1,41,45],[],[(4,0),(1,0),(41,0),(45,0),(40,0),(51,0),(17,3),(117,3),(27,3),(13,3)],[],bo 1075239905201261404356938435598798897483686990104695793606376606571156522406818151313053810609691738534185540590795806647484680478600180086257937654683341854363434819685379410647268685736977354862567998103554259742239860785388202962341770603541783783008884641089440245338940569631201036685623545576711495984943014993270624387711751571937601730897973227271290932532914428264216207464826088774306826232260192471956932608971293853267719013323010202033571464635864846002352014716327338849391370303172509102563358990426895016622075601708667132855075048806077182222130727714518764507862785680502847915665439628288903436645225403652840930964049459283288806606585328589806880385165986519761545278,false⟩
noncomputable def EG:Fn:=⟨[4,64],[],[(4,0),(64,0),(119,3),(120,3)],[],bo 1020632171802614805104155805051161305434869355258508330644913487892540017489768193948434355566749901510663830576082778095274382951273472375521089062124288865985923459491057218803398530518521882401742187174989296432808346537705994574079564703806,false⟩
noncomputable def Ld:Fn:=⟨[4],[],[(4,0),(102,3)],[],bo 66402797036651721422783365939069351705244993037688847722558,false⟩
noncomputable def JT:Fn:=⟨[4],[],[(4,0),(102,3)],[],bo 66402797036651721422799347710014796861623303043048421189694,false⟩
noncomputable def Kl:Fn:=⟨[4,124,25],[],[(4,0),(124,0),(25,0),(7,0),(125,3),(49,3),(29,3)],[],bo 8915924483798423551338920335965655284586366817272238700642021994231332725064130435335308458893573185659207789361832636859642226564735229607456834473278735450259817389162205176479742993469065483255729710618631096158186833111627562839726874658146246955843724552471752574504354237197617113826694818283302327211412293283695938073846676420073873509013457645560960209833721570766300031566637164606,false⟩
noncomputable def Md:Fn:=⟨[4,124,22,1],[],[(4,0),(124,0),(22,0),(1,0),(126,0),(127,3)],[],bo 13627768652825544475206016949697241221692762189803172607723051179895672606464874181986805870989959353451527505650437542178008499305539872318449756244709245356834054111422858380146231510974326846,false⟩
noncomputable def Iw:Fn:=⟨[4,21,66],[],[(4,0),(21,0),(66,1),(1,0),(30,0),(124,0),(126,0),(129,0),(103,0),(69,0),(116,0),(40,0),(130,0),(131,0),(36,0),(132,0),(68,3),(117,3),(27,3),(13,3),(133,3),(134,3),(135,3)],[66],bo 755331062542431238524009684421695895645182671762691253576691358918077476647486482253585400867321821089576277437419747784193360910207528009284664914338324704531248404282909659193560629069252347212048444472539135863184746808045844045241359707769897658774189266180640798194287955535814897281391730079692727586772949636385580674697239382425722693323448692100842801635680771153445882204765039824554338107663867265023865092001652302493420407227279188323439257064641225724310315920402936941948598055432479295839033238307906729531065303360718408100272262383417489322984094209684110877337805239365796641277994585584776819698164067082482621642545084063764498554307225704151566658018184450098833222802984501472334179431917087278068066604061547785630688630257962416319509345225387592526335805579783700596790560068198639396110501116127318813715673066077580003210819130059016709657216148888977905315497735520763047814171940033401230076336966055503846407202541951603698671797560013200624072044052008089199181396264711180637016746662053023646023817488407692044653573103301300365319156633595367891920059248599078465712038489855529411542881798398218140126919472611728611620600698204675984055187270735434826456254069992414998947901482113827281173190759809654269853741958472511569051828544745410596999362508978068676654170136583519437494185606581075218990500292054250388630713715236480699531606236696715890368571197151965248915203575747911933094428900160290647570495175755246241435807947539768235136244392448587222174083105193137205032794679645635097652063219525245189851296366016165000290095487329994729635344218530936132685849118666862134674789764882431204459145190265240377839022522268896301320942585357602050589473409295166982268950949398055261013754879234258269531003214773227514633594268299289857233581067181867845793773318098865723638206137222383925873543134901328876662853629198855246185798929501022047287516984965499185214,false⟩
noncomputable def Me:Fn:=⟨[4,124,131,1],[],[(4,0),(124,0),(131,0),(1,0),(10,0),(40,0),(25,0),(59,0),(7,0),(17,3),(138,3)],[],bo 19481171628589084172215807791615093396106178557189353823343614191641285919040171906839543255351963309548214557510979997031262280483219464982359723668993440487153676552033321228591736863359970586188514096600491692764779837250311800100147162256059141730188415673564834842647564364073859102557763943237840013182357335116503795959295889343540493614180856712417691903605145774417272639710211399913912858185394971852195698342518418121086393328914447160399724198222492110604014567407108293092084005307650029970335983678,false⟩
noncomputable def I4:Fn:=⟨[4,30,66,124,140],[],[(4,0),(30,0),(66,0),(124,0),(140,0),(102,3)],[],bo 131743149320717015302865613690225120066187784547240673156786238,false⟩
noncomputable def Ih:Fn:=⟨[4,23,108],[],[(4,0),(23,0),(108,0),(102,3)],[],bo 131743149320717015302897321523780883256442351597874066915584062,false⟩
noncomputable def Ha:Fn:=⟨[4,21,66],[],[(4,0),(21,0),(66,0),(102,3)],[],bo 131743149320717015302929029357336646446696918648507460674381886,false⟩
noncomputable def E5:Fn:=⟨[4,21,66],[],[(4,0),(21,0),(66,0),(102,3)],[],bo 131743283334595474527083782719936857395170880755388942152886334,false⟩
noncomputable def GN:Fn:=⟨[4,21,66],[],[(4,0),(21,0),(66,0),(102,3)],[],bo 131743283334595474527115490553492620585425447806022335911684158,false⟩
noncomputable def Ej:Fn:=⟨[4,126,42,1],[],[(4,0),(126,0),(42,0),(1,0),(15,0),(7,0),(40,0),(51,0),(141,3),(142,3)],[],bo 452307979319493297193374127595371063052601652665830239010625704185324256709494489711332201904612240768195049138017380730842188978660806565323826560057342244913393021604688318152378473313574259729547075797868598966765032182976710418037480979879921079618498139359797563632371949618479789375984590459557904649640816157451335148658949618050118442485273188450455277437995475813219898484798,false⟩
noncomputable def Ip:Fn:=⟨[4,105,124,1],[],[(4,0),(105,0),(124,0),(1,0),(102,3)],[],bo 131743283334595474527147198387048383805688450469209818360440894,false⟩
noncomputable def Gp:Fn:=⟨[4,124,66],[],[(4,0),(124,0),(66,0),(102,3)],[],bo 131743283334595474527178906220604146995943017519843212119238718,false⟩
noncomputable def GR:Fn:=⟨[7],[],[(7,0),(8,0),(10,0),(11,0),(141,3)],[],bo 8404879436096608618447702518818528591900958431620334505670627179635436970005532649792682723434996304336381059601358370930215490190724941442948013018484067948574297171236249355696782607315834632643345987865214638808229009396310690060509619834346587927161478279143962871026110731978148725158268749531707900821106548096892763807503796109179774343015380301326074988916724968224042914795592648597373146375059991365140433602841442400968165955011494570336519058938763619443183924900804611136381844494435499988607357366769490573179568130593353150691992921449894181240434047515798945853429760770165401852590300389951309489284732099003735049364473278621758,false⟩
noncomputable def lO:Fn:=⟨[143],[],[(143,0),(144,0),(145,0),(37,3),(146,3),(147,3)],[],[.assign (.name 144 483004483008) (.ife (.cmp .gt (.call (.name 37 483024483027) [(.name 143 483028483034)] 483024483035) (.int 0 483038483039) 483024483039) (.sub (.name 143 483011483017) (.int 0 483018483019) 483011483020) (.int 0 483045483046) 483011483046) 483004483046,.assign (.name 145 484004484009) (.call (.name 146 484012484015) [(.name 144 484016484020),(.bin .sub (.neg (.int 1 484023484024) 484022484024) (.name 144 484027484031) 484022484031)] 484012484032) 484004484032,.ret (.lst [(.bin .mul (.name 145 485012485017) (.call (.name 147 485020485023) [(.cmp .ge (.name 145 485024485029) (.bin .pow (.int 10 485033485035) (.int 18 485039485041) 485033485041) 485024485041)] 485020485042) 485012485042),(.bin .mod (.bin .mul (.bin .add (.bin .mod (.name 145 485045485050) (.int 2147483629 485053485063) 485045485063) (.int 17 485066485068) 485045485068) (.int 48271 485072485077) 485044485077) (.int 2147483647 485080485090) 485044485090)] 485011485091) 485004485091],false⟩
noncomputable def mV:Fn:=⟨[148,149],[],[(148,0),(149,0),(150,0)],[],[.ifS (.cmp .gt (.sub (.name 148 487007487013) (.int 0 487014487015) 487007487016) (.int 0 487019487020) 487007487020) [.assign (.name 150 488008488013) (.bin .mod (.sub (.name 148 488016488022) (.int 0 488023488024) 488016488025) (.name 149 488028488031) 488016488031) 488008488031,.assign (.sub (.name 148 489008489014) (.int 0 489015489016) 489008489017) (.bin .fdiv (.sub (.name 148 489020489026) (.int 0 489027489028) 489020489029) (.name 149 489033489036) 489020489036) 489008489036,.ret (.name 150 490015490020) 490008490020] [] 487004490020,.assign (.sub (.name 148 491004491010) (.int 1 491011491012) 491004491013) (.bin .mod (.bin .add (.bin .mul (.sub (.name 148 491017491023) (.int 1 491024491025) 491017491026) (.int 39373 491029491034) 491017491034) (.int 7 491037491038) 491017491038) (.int 2147483647 491042491052) 491016491052) 491004491052,.ret (.bin .mod (.bin .fdiv (.bin .mod (.bin .mul (.sub (.name 148 492011492017) (.int 1 492018492019) 492011492020) (.sub (.name 148 492023492029) (.int 1 492030492031) 492023492032) 492011492032) (.int 2147483629 492035492045) 492011492045) (.int 32 492049492051) 492011492051) (.name 149 492054492057) 492011492057) 492004492057],false⟩
noncomputable def Kh:Fn:=⟨[148,151],[],[(148,0),(151,0),(152,3),(37,3)],[],bo 291830522357549233073669157429831431970723520069773035192190964441506381691133284871529717819454,false⟩
noncomputable def LW:Fn:=⟨[153],[],[(153,0),(154,0),(142,3),(29,3),(17,3)],[],[.tryS [.ret (.call (.name 153 497015497019) [] 497015497021) 497008497021] [⟨142,154,[99,111,104,101,114,101,110,99,101],1,498011498025,499008499040,499015499040,499016499027,499029499034,499029499039,498004499040⟩,⟨29,154,[116,121,112,101,32,102,97,117,108,116],1,500011500020,501008501041,501015501041,501016501028,501030501035,501030501040,500004501041⟩,⟨17,154,[110,97,109,101,32,102,97,117,108,116],1,502011502020,503008503041,503015503041,503016503028,503030503035,503030503040,502004503041⟩] 496004503041],false⟩
noncomputable def F9:Fn:=⟨[40],[],[(40,0)],[],bo 4418941007027653677549304882574219318975529131312890309769113352480175120345196606,false⟩
noncomputable def Eg:Fn:=⟨[155,1,41,36],[],[(155,0),(1,0),(41,0),(36,0),(156,0),(116,0),(126,0),(16,0),(157,3)],[],bo 39371491720640381098200367819934605480290607219475335629548072032455512563442449850792914429988377419960664912844857308174869049683293767164357390617577626347490739767656651627827121873762766143445660825904453433958644068656623625570138006444807316194652447653824454786624666117544797292507857700657249162322489474275653217955115963087639090936634875872913471499517218966979714769059942734192649859738418430719716182145639075473781300375793016376194578335248238392472232470299128075843840617333039791502392207609756310736629001123530582227538395285111678266723100613463538885756274429981637237381226008729030188810419816238686274767733044828686612420639913701358999095717249232646792452674381686806427710728890788582942103236389759270059525109935381762996492478098418179260600227206535166035998834496372898107687755562986809129905167702714345751466212196185234522165160159502315353665296077382987965487158074370581254447575192031206422777011727829105145205349139117424857756019679126704110495370780206166186108070197967624138328178077811446515668851052347152336802164630112239795053129578227949070136856883757522260864593740410211271880675133501002750670824875123322204350438913029990932170391560446978578771161249956307565193501487797059685237770621897745901973983313541073623456699042554928773741274382907518082326498224288073559787229035992811794259500773794264032886971395625837630667395168856939256112735143208132341328732506066952774977898704795558710471150002338297570892300895924771320427541864127123628828350397383631594282502332929660768355437859016955356722884778821728831723480031187629269281706397518547907902902227567936628541123970306347370922701557515061022508129029553605902696462665354505107877971970929243048493177437616831167207449631507330382686270,false⟩
noncomputable def K7:Fn:=⟨[],[],[],[],bo 5976172336921616290079231318711513987285578189944824520313449003498634351270888735875356951557472919008214047329486831552187220972679336096219643129003052364008917766346662772291035661162039005829693946197130471869065944979883167051448809154622,false⟩
noncomputable def JC:Fn:=⟨[158],[],[(158,0)],[],bo 260321524815550322582395657101811231125589455276437275637389324987456892569059279433258907968905030790878822333201968295472435234404638910526,false⟩
noncomputable def H6:Fn:=⟨[126,41,36],[],[(126,0),(41,0),(36,0),(159,0),(160,0),(154,0),(55,0),(40,0),(155,0),(59,0),(7,0),(158,0),(133,3),(161,3),(162,3),(27,3)],[],bo 39243767389521753450950878944080758213623818191010552320567312080582976338001915190823464407751755608475801955143879358307036524213387602299615802950506293335638046522977661501497839986707908389384384360777504809190594632595461030368789955953989607948443563333963369699394234097892490886110939395741171002637705565541255279096876128084136978312838917809686722315264276906170300617210054789911071902218604597985109564510375975555126735239127321121812218082886052323100729675756600197244523017033139304714207305806579287742952627696686237348840743501646847338626729547063127203036964076483794937175670506937324770618563838779228916856823360261803281152249598023517242920811988726473138463306470186708286533129094832390893702616866144869935166,false⟩
noncomputable def HK:Fn:=⟨[21,164,41,45,129],[],[(21,1),(164,1),(41,1),(45,0),(129,0),(36,1),(30,1),(22,0),(126,0),(165,0),(166,0),(64,0),(7,0),(167,0),(168,0),(169,1),(103,0),(69,0),(158,0),(170,0),(105,0),(132,0),(171,1),(66,1),(27,3),(172,3),(173,3),(174,3),(175,3),(133,3),(13,3),(37,3)],[21,164,41,36,30,169,171,66],bo 3733259839186531436211835556088974292707307473665535855680172224657121532108316680053662370182195868024662594406194097729465120450854623467781485137492651404455217259030913711058195381935853106089286344748652683618872290252812182477267073611371558952347667301856058755470739234672378940707537087107186930021440495759488228016406840092509282851930840242178226451768995424623293557303971142499314042678223823477330088221896757540282667088059531931897263089860836373792009079170521138415816478821460462212161122367203543785208080221464592860728961016492079832199511640013896266710682100758155900907875510749730284138869965426125527825571447467855794055119547772419134614954806851500329798928747964639891298544254020980139444990809537127503418785032975662156431408292511800720031139270358079286951247625215274802481107574223427984494681279768599865769366161254795503437085288738837134167857955164050500601757496947070482347908110432635128609652602463321094232898840122477762477016123265539167896399174050745803238702290653054273698313655190866922219740987955611783808691002419704856613464518123701611779639289924269282203746084973309863198788143998623296711055775333316681733832568821346598143628055841592846699289483930766184642527209900910434275036848940710462277548884397251597494614740914717829455495295030335404816206754905637689987804598800837803280903567418693673159373794717360551321666037506015388817868531644284018411326730766853155168338277227294104905799563383383963440222052980727263502413923781907621955222675164138837319932973467822826847778710685594287657960644078634939798336156003673251556891375699730814509260331373156949413455675791074379343057404943622770891636963078456661728389554239478255072590645286667923271527003026541418810296637733696864483962456111907513012584660502904947773931944908183039435124035839776469258674943975470347964816873812241689913652445674067819342694945931224260723277624952624435846530257002116401171334307392831055959236610465777519231088973552630085486975995999398288162173515434531757186678822268078846468378271309819434962850840434640092733712750116833140936745338257722301989146938025433895715399368332631231515317290825645252503242620002202094423296324684277988014760578357319163339908982018057453244396308635934079154351326981014593116823530372541938587614210502980565044287906173579263588128952379798300888739587155219836755202526833000099556049481626984982266397466434964693372719279343745497010739955326524333548494275839115850174921073276604420516352618431586225912693647583718420967736590953713567201317628446006170823840662522084718352285321681185808072723088931412683101809031111863846959803614506066673775884533663107533921100173963758504958171871030416077391587170777529214461602161905002497953919335705483396892382066260764661538079541601791933062433844379954736554590030030076004009980776219744894195081941808100595513450933404041939892732660566904514589180254691202542825724362556246235266588882026241742536110925900189369526097828113214893170950142710322674668240046034552916321922714437725497528754964636602255779484693158297825336099046718746285435370008120908296548292905884380515338412466470595673827288922205735882326379659273512000470013454295959023559028857722000418535783533395086370167499658513132568967109918374469945806883377222585939937536176557870563961522320216942779087817388937196721806982825607351171660135386463066211068250695904234253869351740042909632546865601243460109364779870408514790816960801694907252352751153644316423461493131395514164840449781450498560606945020646859870383217298000000697986964989876133518511061736456481486639819479222520429597803575954747223298037984264776143608588604855540248013100323379341811464944952554081546167446223199725838157246966453595873735822558539270749431924881749557563018806606554674288284164864904624562683772521281622016075526558954513033376892512144401965420225522506051403376702,true⟩
noncomputable def H5:Fn:=⟨[155,36],[],[(155,0),(36,0),(158,0),(7,0),(171,1),(124,1),(180,1),(173,3),(117,3),(161,3),(174,3),(162,3)],[171,124,180],bo 737007130503352184497400597459398481240484417598825441103437453162304663326838509458248740733334856748801755898526631804650997070303767231210053889982891096438916784880481151997980840317213986280130893838953492772557593696755973056840990440793518713965200772520625342283512669559535247893151345744751561278460561444573363712819435030601286654138371261769763722033478714215278460122554847952228269843560301954216755677327383851804318450103088631837330229053316255353879666043916096952692248905118926595121590586836609479375966960690212846533865975081216007202878,true⟩
noncomputable def LF:Fn:=⟨[36,181],[],[(36,0),(181,0),(182,1),(183,1),(158,0),(126,1),(42,1),(27,3),(174,3)],[182,183,126,42],bo 141196932324210373756760230214086672334369242346988720780081261994166022616705497987736463088915832650572279610203014325095387967764871766456921060380274493427794855089779046573828413533856260416975700590470564869085284432974400324730599852037360365829357083719943632948790274013132227618616520609181542246163475455709416212330077807794378556544467633796911817520269254766448475955022238333864930394689897017924723256419889142746852172205268208649422923789781833153008630114631859920819289522791927018701584747482127297033735589438356879411263332806098922439894260104515605641031880146031218478360347726713400426314788891751747150086431959108257520797739947742707289109425053730281941172133645006535853572274976154663623035013096219845315482716705260686997753132942275908864153509128840517774475525254670529108968037387718083950314383362463020319044705938928564804911269952222127497782238507474100406830922554354939416600781902534562298009584802579646309614066836612614906836401737385539019159835085137855434539629141699667978705724732628691961645185372765775740613022858803045568933619111517368057501577041811182397118766149194334053983063194228614476788610832881970668029157751153317569578137060062225260467079427855824085896254183394639216765072002268016258452572563370834001359910473438750446096573929330336246476806819771354389352344428165853739215654703862741708745147446835831065986199971902,true⟩
noncomputable def HM:Fn:=⟨[],[],[(7,0),(66,0),(171,0),(105,0),(157,3),(173,3)],[],bo 343539009680223579334524875383807679950876372655013083290263147504236387822353599288064836747432590204077897556094808118861516112183361581988962771958677257505860952377825483907939835955171467251015958952791650177745544015208154854546356266279824124467062588015457592381304493097391019959163164957595493524501230527631641095225690682269502183024645356490283550833553513610016646187551903981162982820540577882873400053956326651591493404262471702316529435715503240826637456144828654582029760384466187118115304079632664875926847522197364645408169110411615902493147374616177875361244862345146541672503169950090440469230958422533071541067701722099067577157805779313661132151651782488908881322632308642036118581134368045001967301557346215147190098917956162199477468125999366585395396095187765786535931368707699712140330544560962267198,false⟩
noncomputable def Gv:Fn:=⟨[],[],[(11,0),(185,0),(155,0),(41,0),(126,0),(36,0),(181,0),(186,3),(187,3),(188,3)],[],bo 129250014214590657059432983270953801504893755019145974911807806544859192156828635864295554220679562118752576993982211011988805067854422304492704314836782100929576161910807874769647838713631221289800593268154580946592135299975114314602711775922410361834799579618436914205958166480367713638270351381577610844303898124252790543462799813897101050475849854591382356280002980900747087204218433724233058755665735857826192338454901546065369442804959970856218139411993322303929345890790240310645451511900840539823855371135636989130094545697739757539157124848593058479167631837761881854935497735282612424217369490326612624151916313940893375196814349338115056718001810061272240098595277159675003726740026863012644508684983927282515735747960524228450123389823046225309614065282795689227005111431093542852668077215121598453378228084966861043121852446202966601763644798825310832293160884924835873075118409939588587765182589979794209350954499273200328766714148478766392785953225958235356592697542687048961602324922656277084905156590911022701401220280048604016012260047070765920622503736069781777807731464588884892516416318837383026851303421196644342266231643617274242012783704261222874243270413739010724971364748440587503318529440819297537381573064136548760150284063870536162336015514395976790610354836452723911699451572375723433412361236727604670104100550871057463595872781649148821996071117214010362398921806211623733113490167088202207460243874717703670599691206371636455995872076739829291863328983955482851786365307704220908376881112730620316203350236063966679703969064240523662490085437374618435460890829201459347569776984626854235091613485014440317763500771156743202292495380377901785098228507909489573882041370422594672254871558500126012744358443572439412856959208970217860119413375792604066545540052708133430096995321953367322951527284585784297365125526552753879623172731668603478491700602077182981880559072804060174829699367798906540255294,false⟩
noncomputable def ma:Fn:=⟨[143],[],[(143,0),(148,1),(164,0),(41,0),(40,0),(45,0),(129,0),(130,0),(126,0),(55,0),(137,0),(181,0),(189,3),(190,3),(191,3),(152,3),(192,3),(193,3),(19,3),(194,3),(186,3),(187,3),(188,3)],[148],bo 874105585860301428390549649232596457155008259879881242606066772141550503322960145613482014840969525944581147170025414227964068797326070836040482947616702290901143803359671084141559038876804925666018971510797919259499383180994364984035855306001219310146615331916853935749014367840848343848242093963737448365086674816263601213473727811018379741921521711624665094978691392608284957424928427034992902169566084855632961247255730836835081612690001634021306093560824149617398791699239785882404990080627791477909285088439448830297173941331086492161309335180836075645161637570551787202985571224053885682166374880024689459279201959210802932473993796746305780286826128023046720240441578330570724873053955842842791084795506914274804797458710495135466817745798561817652534696144699850824423871447612394006644564671792399560729464643031713186300587645389702315186727307126579878824266992140904180979113290667125255789807350869071879723608911038725466453656550794977338653109521261613999117984175173094479521550768300359453468818369824793512420845582381371044117989357642318609072955981882918272176917381275655620372694327857034466910358114691379505708078158798939494943870600255930854016818253014733703083395603857118439612973359724793728243304418320018763181164318099646956752244478102114360727437445079559781936808275323871300133739225998403256309694501087490122352701048486357691266380142763322229761686955001831268500993880907579905609872157600446809999932263843553019259711426346899136175459802095325773992247476899659991349132054056615583616240066825553634311311278832883708198713644715851391984333127988166420123393569175256774688511318942392357627657894233728873164253579006391487385603646932205573504191550180460498673403563329593080574122771516259305453365837036902528376598427858574285792668822241827594470880466886904426426546427336659038262579582135484272880502422409019978279944238617742860771690888982628835544118009075575467430600034959206809581374563210174936161244932158,false⟩
noncomputable def uG:Tr Fn:=(.nd (.nd (.nd (.nd (.nd (.nd (.nd .lf 0 Ja .lf) 1 wl .lf) 2 Kr (.nd .lf 3 Iq .lf)) 4 IJ (.nd (.nd (.nd .lf 5 Ku .lf) 6 K9 .lf) 7 I6 (.nd .lf 8 Mf .lf))) 9 Mg (.nd (.nd (.nd (.nd .lf 10 Jw .lf) 11 Gr .lf) 12 Iy (.nd .lf 13 Je .lf)) 14 GE (.nd (.nd (.nd .lf 15 Io .lf) 16 KA .lf) 17 JB (.nd .lf 18 HU .lf)))) 19 Jt (.nd (.nd (.nd (.nd (.nd .lf 20 FY .lf) 21 Fq .lf) 22 EL (.nd .lf 23 Hv .lf)) 24 Lq (.nd (.nd (.nd .lf 25 GS .lf) 26 GP .lf) 27 JM (.nd .lf 28 Es .lf))) 29 Jl (.nd (.nd (.nd (.nd .lf 30 LL .lf) 31 IW .lf) 32 Ko (.nd .lf 33 LZ .lf)) 34 J0 (.nd (.nd (.nd .lf 35 Ij .lf) 36 IC .lf) 37 EO (.nd .lf 38 FX .lf))))) 39 Jk (.nd (.nd (.nd (.nd (.nd (.nd .lf 40 GU .lf) 41 L9 .lf) 42 FW (.nd .lf 43 I0 .lf)) 44 HI (.nd (.nd (.nd .lf 45 I9 .lf) 46 HO .lf) 47 EG (.nd .lf 48 Ld .lf))) 49 JT (.nd (.nd (.nd (.nd .lf 50 Kl .lf) 51 Md .lf) 52 Iw (.nd .lf 53 Me .lf)) 54 I4 (.nd (.nd (.nd .lf 55 Ih .lf) 56 Ha .lf) 57 E5 (.nd .lf 58 GN .lf)))) 59 Ej (.nd (.nd (.nd (.nd (.nd .lf 60 Ip .lf) 61 Gp .lf) 62 GR (.nd .lf 63 lO .lf)) 64 mV (.nd (.nd (.nd .lf 65 Kh .lf) 66 LW .lf) 67 F9 (.nd .lf 68 Eg .lf))) 69 K7 (.nd (.nd (.nd (.nd .lf 70 JC .lf) 71 H6 .lf) 72 HK (.nd .lf 73 H5 .lf)) 74 LF (.nd (.nd .lf 75 HM .lf) 76 Gv (.nd .lf 77 ma .lf))))))
noncomputable def CA:List (Option Cl):=[.none,.none,.none,.none,.none,some ⟨5,[(31,6),(33,7),(30,8),(38,9),(44,10),(39,11)],32505856⟩,some ⟨19,[],576460821022900226⟩,some ⟨20,[(62,21),(80,22)],3458768911867052032⟩,some ⟨23,[(73,24),(75,25),(76,26),(77,27),(74,28),(99,29),(46,30),(86,31),(90,32),(91,33),(95,34),(100,35),(198,36),(199,37),(200,38),(201,39)],4150517557322141663232⟩,some ⟨40,[],30423614406067801483664053764096⟩,some ⟨41,[],1257509395426403566322114048819200⟩,some ⟨42,[(202,43)],81788816726725360984567290811908096⟩,some ⟨44,[(36,45),(128,46)],37383405830144⟩,some ⟨47,[(203,48),(204,49),(139,50),(136,51),(179,52),(131,53),(205,54),(206,55),(207,56),(208,57),(209,58),(184,59),(210,60),(211,61)],18609191940988822239100042917635424256⟩]
noncomputable def pP:List (List Nat):=[[0],[1,0],[2,0],[3,0],[4,0],[],[],[],[],[],[],[],[],[]]
noncomputable def j8:Tr V:=(.nd (.nd (.nd (.nd (.nd (.nd .lf 12 (.fn 2) .lf) 13 (.bi 5) (.nd .lf 17 (.cls 1) .lf)) 18 (.str [39,115,116,97,116,105,99]) (.nd (.nd .lf 19 (.bi 3) .lf) 26 (.fn 4) (.nd .lf 27 (.bi 4) .lf))) 28 (.int 10000) (.nd (.nd (.nd .lf 29 (.cls 3) .lf) 37 (.bi 0) (.nd .lf 43 (.cons (.str [105,56]) (.cons (.str [105,49,54]) (.cons (.str [105,51,50]) (.cons (.str [105,54,52]) (.cons (.str [117,56]) (.cons (.str [117,49,54]) (.cons (.str [117,51,50]) (.cons (.str [117,54,52]) (.cons (.str [117,115,105,122,101]) (.nil)))))))))) .lf)) 48 (.cls 5) (.nd (.nd .lf 49 (.fn 13) .lf) 50 (.bi 9) .lf))) 53 (.fn 14) (.nd (.nd (.nd (.nd .lf 67 (.cls 7) .lf) 68 (.fn 16) (.nd .lf 79 (.cons (.str [105,56]) (.cons (.str [105,49,54]) (.cons (.str [105,51,50]) (.cons (.str [105,54,52]) (.cons (.str [117,56]) (.cons (.str [117,49,54]) (.cons (.str [117,51,50]) (.cons (.str [117,54,52]) (.cons (.str [117,115,105,122,101]) (.cons (.str [98,111,111,108]) (.cons (.str [66,111,120]) (.nil)))))))))))) .lf)) 82 (.cons (.str [99,114,97,116,101]) (.cons (.str [115,101,108,102]) (.cons (.str [115,117,112,101,114]) (.nil)))) (.nd (.nd .lf 83 (.cls 6) .lf) 85 (.fn 18) (.nd .lf 93 (.fn 17) .lf))) 94 (.cons (.str [67,108,111,110,101]) (.cons (.str [67,111,112,121]) (.cons (.str [68,101,102,97,117,108,116]) (.cons (.str [68,114,111,112]) (.cons (.str [69,114,114]) (.cons (.str [78,111,110,101]) (.cons (.str [79,107]) (.cons (.str [79,112,116,105,111,110]) (.cons (.str [82,97,110,103,101,56]) (.cons (.str [82,101,115,117,108,116]) (.cons (.str [83,111,109,101]) (.cons (.str [86,101,99,56]) (.cons (.str [115,119,97,112,112,101,100]) (.nil)))))))))))))) (.nd (.nd (.nd .lf 97 (.cls 2) .lf) 101 (.int 30) (.nd .lf 102 (.fn 0) .lf)) 117 (.cls 12) (.nd (.nd .lf 119 (.cls 8) .lf) 120 (.cls 11) .lf)))) 125 (.fn 12) (.nd (.nd (.nd (.nd (.nd .lf 127 (.fn 15) .lf) 133 (.bi 7) (.nd .lf 134 (.cls 9) .lf)) 135 (.cls 10) (.nd (.nd .lf 138 (.fn 3) .lf) 141 (.fn 62) (.nd .lf 142 (.cls 4) .lf))) 146 (.bi 1) (.nd (.nd (.nd .lf 147 (.bi 2) .lf) 152 (.fn 64) (.nd .lf 157 (.fn 67) .lf)) 161 (.fn 68) (.nd (.nd .lf 162 (.fn 70) .lf) 172 (.bi 8) .lf))) 173 (.cls 13) (.nd (.nd (.nd (.nd .lf 174 (.fn 66) .lf) 175 (.bi 10) (.nd .lf 177 (.fn 71) .lf)) 186 (.fn 72) (.nd (.nd .lf 187 (.fn 73) .lf) 188 (.fn 74) (.nd .lf 189 (.fn 76) .lf))) 190 (.fn 75) (.nd (.nd (.nd .lf 191 (.fn 63) .lf) 192 (.fn 65) (.nd .lf 193 (.bi 6) .lf)) 194 (.fn 69) (.nd (.nd .lf 197 (.cls 0) .lf) 212 (.fn 77) .lf)))))
noncomputable def KU:List (Nat×Nat):=[(54,0),(14,1),(72,2),(118,3),(98,4),(92,5),(58,6)]
noncomputable def TB:Tb:=⟨78,dq j8,dq uG,λk=>Option.rec .none (λo=>o) (aj CA k),
 λc d=>(aj pP c).bind λl=>cond (Nat.beq (len l) 0) .none ((aj pP d).bind λm=>cond (Nat.beq (len m) 0) .none (some (l.any (Nat.beq d)))),λ_ _ _=>.none⟩
noncomputable def MC(k:Nat):Option Nat:=au KU k
end
section
open PySem PySem.W PyProof.Rows
structure Dn where
 x:Nat
 y:Nat
 f:Fn
 ar:List Nat
 ds:List E
 m:List Nat
 p:Nat
 df:Value
 u:Nat
 t:Nat
def H8(p q:Nat):Nat:=Nat.add (Nat.mul (Nat.div p 1000000000) 1000001000) (Nat.add (Nat.mul (Nat.div q 1000) 1000000) (Nat.mod q 1000))
def g0:Dn:=⟨102,102,Ja,[10011],[],[],1000003012,.none,227,164⟩
def g1:Dn:=⟨6,233,wl,[17021,23030,32036],[(.int 0 7037007038)],[],7004010024,.ref 29,229,194⟩
def g2:Dn:=⟨12,12,Kr,[15019],[],[],23000033016,.none,243,292⟩
def g3:Dn:=⟨138,138,Iq,[18022,24029,31035],[],[],34000039070,.none,243,292⟩
def g4:Dn:=⟨26,26,IJ,[16022,24028],[],[],40000045017,.none,243,292⟩
def g5:Dn:=⟨6,244,Ku,[17021,23030,32038,40048,50059,61066],[],[],48004053026,.none,243,292⟩
def g6:Dn:=⟨31,245,K9,[13017,19026],[],[4,25,8,1,11],55004069029,.none,243,292⟩
def g7:Dn:=⟨33,246,I6,[16020],[],[],71004072065,.none,243,292⟩
def g8:Dn:=⟨30,247,Mf,[13017,19023,25030],[],[4,1,34,35,36,7],74004083049,.none,243,292⟩
def g9:Dn:=⟨38,248,Mg,[15019,21025,27030],[],[],85004099043,.none,243,292⟩
def sd:Dn:=⟨44,249,Jw,[13017,19023,25028,30034],[],[],101004104019,.none,243,292⟩
def uc:Dn:=⟨39,250,Gr,[14018,20024,26031,33036],[],[4,1,36,35,30,41,45,16,7,11],106004116077,.none,243,292⟩
def re:Dn:=⟨125,125,Iy,[12019,21027,29037,39048,50057,59064],[(.none 117065117069)],[],117000118076,.ref 170,243,292⟩
def sj:Dn:=⟨49,49,Je,[12016],[],[7,8,9,11],119000126067,.none,243,292⟩
def u5:Dn:=⟨53,53,GE,[13020,22028,30035,37041],[],[20,21,34,1,35,30],127000135015,.none,243,292⟩
def uA:Dn:=⟨127,127,Io,[14021,23029,31039,41045],[],[20,21,22,1,10,16,40,51,35,52,34,30],136000153016,.none,243,292⟩
def uD:Dn:=⟨68,68,KA,[11017,19023],[],[],159000160057,.none,269,451⟩
def tz:Dn:=⟨93,93,JB,[14018],[],[],161000163038,.none,269,451⟩
def tO:Dn:=⟨85,85,HU,[14020,22027],[],[],164000165076,.none,269,451⟩
def tZ:Dn:=⟨6,270,Jt,[17021,23028,30036,38042],[],[],168004171024,.none,269,451⟩
def tS:Dn:=⟨6,271,FY,[17021],[],[],174004177022,.none,269,451⟩
def sW:Dn:=⟨62,272,Fq,[14018,20025],[],[],179004180061,.none,269,451⟩
def si:Dn:=⟨80,273,EL,[17021,23027,29035],[],[4,40,63,62],182004183098,.none,269,451⟩
def ue:Dn:=⟨6,274,Hv,[17021,23028],[],[],186004199040,.none,269,451⟩
def uH:Dn:=⟨73,275,Lq,[14018,20026,28032],[],[],201004218054,.none,269,451⟩
def u0:Dn:=⟨75,276,GS,[16020,22028,30034,36040,42048,50056,58062],[],[],220004229035,.none,269,451⟩
def tx:Dn:=⟨76,277,GP,[21025,27033,35039,41047,49055],[],[4,21,66,63,59,30,41,45,35],231004236031,.none,269,451⟩
def sR:Dn:=⟨77,278,JM,[23027,29033,35039],[],[],238004242056,.none,269,451⟩
def vq:Dn:=⟨74,279,Es,[18022,24030,32036],[],[],244004252058,.none,269,451⟩
def tw:Dn:=⟨99,280,Jl,[16020,22027,29034,36042],[],[],254004255048,.none,269,451⟩
def rD:Dn:=⟨46,281,LL,[13017,19025,27032,34039,41045],[(.int 0 257046257047)],[],257004259063,.ref 326,269,451⟩
def rZ:Dn:=⟨86,282,IW,[13017,19025,27032,34039,41045,47051],[],[],261004271019,.none,269,451⟩
def sU:Dn:=⟨90,283,Ko,[14018,20026,28033,35039],[],[],273004285025,.none,269,451⟩
def sq:Dn:=⟨91,284,LZ,[13017,19025,27031,33037,39044,46050,52056],[],[],287004293020,.none,269,451⟩
def ux:Dn:=⟨95,285,J0,[13017,19024,26031,33037,39044,46050,52056],[],[],295004312057,.none,269,451⟩
def vg:Dn:=⟨100,286,Ij,[15019,21026,28032,34037,39044,46050],[],[],314004321020,.none,269,451⟩
def qC:Dn:=⟨198,287,IC,[20024,26032,34039,41045],[(.int 0 323046323047)],[],323004324016,.ref 369,269,451⟩
def uy:Dn:=⟨199,288,EO,[21025],[],[],326004327016,.none,269,451⟩
def uE:Dn:=⟨200,289,FX,[24028],[],[],329004330016,.none,269,451⟩
def uw:Dn:=⟨201,290,Jk,[20024,26032,34037],[],[],332004333016,.none,269,451⟩
def qw:Dn:=⟨6,293,GU,[17021,23027,29036,38044,46054,56063,65071,76083],[(.str [] 337072337074),(.tup [] 337084337086)],[],337004344030,.ref 413,291,801⟩
def tj:Dn:=⟨6,294,L9,[17021,23027,29036,38044,46049,51057,59065,67076,78086],[],[],347004355032,.none,291,801⟩
def qg:Dn:=⟨6,295,FW,[17021,23030],[(.none 358031358035)],[],358004366024,.ref 456,291,801⟩
def uC:Dn:=⟨202,296,I0,[22026,28032,34040,42043,45051],[],[],368004369016,.none,291,801⟩
def vf:Dn:=⟨6,297,HI,[17021,23029,31038,40046,48057],[],[],372004376034,.none,291,801⟩
def tF:Dn:=⟨36,298,I9,[14018],[],[4,35],378004379046,.none,291,801⟩
def to:Dn:=⟨128,299,HO,[15019,21025,27034,36042],[],[],381004388108,.none,291,801⟩
def vo:Dn:=⟨6,300,EG,[17021,23028],[],[],391004396022,.none,291,801⟩
def uN:Dn:=⟨203,301,Ld,[12016],[],[],398004399016,.none,291,801⟩
def uO:Dn:=⟨204,302,JT,[19023],[],[],401004402016,.none,291,801⟩
def sr:Dn:=⟨139,303,Kl,[18022,24029,31038],[],[],404004409019,.none,291,801⟩
def vi:Dn:=⟨136,304,Md,[15019,21026,28036,38042],[],[],411004413060,.none,291,801⟩
def ub:Dn:=⟨179,305,Iw,[18022,24030,32036],[],[4,21,66,1,30,124,126,35,129,103,69,116,40,130,131,137,36,132],415004429051,.none,291,801⟩
def sH:Dn:=⟨131,306,Me,[15019,21026,28034,36040],[],[4,124,131,1,10,40,25,59,35,7],431004439020,.none,291,801⟩
def vk:Dn:=⟨205,307,I4,[16020,22026,28032,34039,41048],[],[],441004442016,.none,291,801⟩
def u9:Dn:=⟨206,308,Ih,[19023,25034,36045],[],[],444004445016,.none,291,801⟩
def tu:Dn:=⟨207,309,Ha,[19023,25031,33037],[],[],447004448016,.none,291,801⟩
def sK:Dn:=⟨208,310,E5,[19023,25031,33037],[],[],450004451017,.none,291,801⟩
def tE:Dn:=⟨209,311,GN,[18022,24030,32036],[],[],453004454017,.none,291,801⟩
def tY:Dn:=⟨184,312,Ej,[21025,27031,33038,40044],[],[],456004462104,.none,291,801⟩
def sN:Dn:=⟨210,313,Ip,[15019,21024,26031,33037],[],[],464004465017,.none,291,801⟩
def ve:Dn:=⟨211,314,Gp,[22026,28033,35039],[],[],467004468017,.none,291,801⟩
def vc:Dn:=⟨141,141,GR,[17021],[],[],469000480016,.none,291,801⟩
def tG:Dn:=⟨191,191,lO,[14020],[],[],482000485091,.none,216,1158⟩
def tX:Dn:=⟨152,152,mV,[14020,22025],[],[],486000492057,.none,216,1158⟩
def tR:Dn:=⟨192,192,Kh,[13019,21027],[],[],493000494049,.none,216,1158⟩
def uk:Dn:=⟨174,174,LW,[15019],[],[],495000503041,.none,216,1158⟩
def uB:Dn:=⟨157,157,F9,[14018],[],[],504000505028,.none,216,1158⟩
def sE:Dn:=⟨161,161,Eg,[14018,20024,26033,35040],[],[],506000519122,.none,216,1158⟩
def sQ:Dn:=⟨194,194,K7,[],[],[],520000521100,.none,216,1158⟩
def sA:Dn:=⟨162,162,JC,[18021],[],[],522000523049,.none,216,1158⟩
def tU:Dn:=⟨177,177,H6,[18022,24031,33038],[],[126,41,36,159,160,154,55,40,155,59,7,158,163],524000534039,.none,216,1158⟩
def oP:Dn:=⟨186,186,HK,[21027,29035,37044,46052,54059],[],[21,164,41,45,129,35,36,30,40,176,22,130,126,165,178,166,64,7,167,168,169,103,69,55,158,163,170,105,132,171,66],535000568103,.none,216,1158⟩
def pL:Dn:=⟨187,187,H5,[21025,27032],[],[155,36,40,158,7,171,124,180],569000573094,.none,216,1158⟩
def pq:Dn:=⟨188,188,LF,[22027,29034],[],[36,181,182,155,40,183,158,126,42],574000579080,.none,216,1158⟩
def tN:Dn:=⟨190,190,HM,[],[],[],580000585088,.none,216,1158⟩
def r6:Dn:=⟨189,189,Gv,[],[],[],586000604015,.none,216,1158⟩
def mO:Dn:=⟨212,212,ma,[8014],[],[143,148,164,41,40,45,129,130,126,55,137,195,181],605000623079,.none,216,1158⟩
section
variable(n:Nat->Str)
def gA(g:Dn):Arguments:=Bo n g.f.ps (aZ (H8 g.p) g.ar) (aZ (an n) g.ds)
def gS(g:Dn):Scope:=gg n .function g.f.sc g.m
def gD(g:Dn):Stmt:=Ov n g.x (gA n g) (cU n g.f.body) (gS n g) g.p
def OW:Stmt:=ip n 197 [(.name 5 5016005025)] [gD n g1] (gg n .class [(6,0)] []) [0,1] 5000010024
def Xh:Stmt:=ip n 17 [(.name 197 11016011025)] [cT n (.pass 12004012008)] (gg n .class [] []) [] 11000012008
def XW:Stmt:=ip n 97 [(.name 197 13022013031)] [cT n (.pass 14004014008)] (gg n .class [] []) [] 13000014008
def Q9:Stmt:=ip n 29 [(.name 197 15016015025)] [cT n (.pass 16004016008)] (gg n .class [] []) [] 15000016008
def Zg:Stmt:=ip n 142 [(.name 197 17021017030)] [cT n (.pass 18004018008)] (gg n .class [] []) [] 17000018008
def XJ:Stmt:=ip n 48 [] (aZ (gD n) [g5,g6,g7,g8,g9,sd,uc]) (gg n .class [(6,0),(31,0),(33,0),(30,0),(38,0),(44,0),(39,0)] []) [24,22,21,20,23] 46000116077
def Us:Stmt:=ip n 83 [] [gD n tZ] (gg n .class [(6,0)] []) [59,36,1] 166000171024
def OG:Stmt:=ip n 67 [] (aZ (gD n) [tS,sW,si]) (gg n .class [(6,0),(62,0),(80,0)] []) [42,61,60] 172000183098
def Rm:Stmt:=ip n 119 [] (aZ (gD n) [ue,uH,u0,tx,sR,vq,tw,rD,rZ,sU,sq,ux,vg,qC,uy,uE,uw]) (gg n .class [(6,0),(73,0),(75,0),(76,0),(77,0),(74,0),(99,0),(46,0),(86,0),(90,0),(91,0),(95,0),(100,0),(198,0),(199,0),(200,0),(201,0)] []) [22,64,71,47,69,70] 184000333016
def P0:Stmt:=ip n 134 [] [gD n qw] (gg n .class [(6,0)] []) [104,21,45,30,69,41,103] 335000344030
def Wx:Stmt:=ip n 135 [] [gD n tj] (gg n .class [(6,0)] []) [109,106,107,105,45,30,41,108] 345000355032
def Vf:Stmt:=ip n 120 [] [gD n qg,gD n uC] (gg n .class [(6,0),(202,0)] []) [110,115,114,113,20,111,112,103] 356000369016
def VP:Stmt:=ip n 117 [] (aZ (gD n) [vf,tF,to]) (gg n .class [(6,0),(36,0),(128,0)] []) [21,45,41,23] 370000388108
def Q5:Stmt:=ip n 173 [] (aZ (gD n) [vo,uN,uO,sr,vi,ub,sH,vk,u9,tu,sK,tE,tY,sN,ve]) (gg n .class [(6,0),(203,0),(204,0),(139,0),(136,0),(179,0),(131,0),(205,0),(206,0),(207,0),(208,0),(209,0),(184,0),(210,0),(211,0)] []) [64,122,20,123,121] 389000468017
end
def dS(n:Nat->Str):List Stmt:=[gD n g0,cT n (.assign (.name 196 4000004008) (.str [108,101,110,100,99,111,114,101,46,101,114,114,111,114,115] 4011004028) 4000004028),OW n]
def iy(n:Nat->Str):List Stmt:=[Xh n]
def qr(n:Nat->Str):List Stmt:=[XW n]
def Cw(n:Nat->Str):List Stmt:=[Q9 n]
def qh(n:Nat->Str):List Stmt:=[Zg n,cT n (.assign (.name 196 19000019008) (.str [108,101,110,100,99,111,114,101,46,110,97,109,101,115] 19011019027) 19000019027),cT n (.assign (.name 43 20000020009) (.tup [(.str [105,56] 20013020017),(.str [105,49,54] 20019020024),(.str [105,51,50] 20026020031),(.str [105,54,52] 20033020038),(.str [117,56] 20040020044),(.str [117,49,54] 20046020051),(.str [117,51,50] 20053020058),(.str [117,54,52] 20060020065),(.str [117,115,105,122,101] 20067020074)] 20012020075) 20000020075),cT n (.assign (.name 18 21000021006) (.str [39,115,116,97,116,105,99] 21009021018) 21000021018),cT n (.assign (.name 28 22000022013) (.int 10000 22016022021) 22000022021),gD n g2,gD n g3,gD n g4]
def Cc(n:Nat->Str):List Stmt:=[XJ n]
def A6(n:Nat->Str):List Stmt:=[gD n re,gD n sj,gD n u5,gD n uA,cT n (.assign (.name 196 154000154008) (.str [108,101,110,100,99,111,114,101,46,109,111,100,117,108,101,115] 154011154029) 154000154029),cT n (.assign (.name 94 155000155013) (.tup [(.str [67,108,111,110,101] 155017155024),(.str [67,111,112,121] 155026155032),(.str [68,101,102,97,117,108,116] 155034155043),(.str [68,114,111,112] 155045155051),(.str [69,114,114] 155053155058),(.str [78,111,110,101] 155060155066),(.str [79,107] 155068155072),(.str [79,112,116,105,111,110] 155074155082),(.str [82,97,110,103,101,56] 155084155092),(.str [82,101,115,117,108,116] 155094155102),(.str [83,111,109,101] 155104155110),(.str [86,101,99,56] 155112155118),(.str [115,119,97,112,112,101,100] 155120155129)] 155016155130) 155000155130),cT n (.assign (.name 101 156000156009) (.int 30 156012156014) 156000156014),cT n (.assign (.name 82 157000157004) (.tup [(.str [99,114,97,116,101] 157008157015),(.str [115,101,108,102] 157017157023),(.str [115,117,112,101,114] 157025157032)] 157007157033) 157000157033),cT n (.assign (.name 79 158000158011) (.bin .add (.name 43 158014158023) (.tup [(.str [98,111,111,108] 158027158033),(.str [66,111,120] 158035158040)] 158026158041) 158014158041) 158000158041),gD n uD,gD n tz,gD n tO]
def CI(n:Nat->Str):List Stmt:=[Us n]
def AR(n:Nat->Str):List Stmt:=[OG n]
def Ak(n:Nat->Str):List Stmt:=[Rm n]
def BB(n:Nat->Str):List Stmt:=[cT n (.assign (.name 196 334000334008) (.str [108,101,110,100,99,111,114,101,46,119,111,114,108,100] 334011334027) 334000334027),P0 n]
def zM(n:Nat->Str):List Stmt:=[Wx n]
def zV(n:Nat->Str):List Stmt:=[Vf n]
def A5(n:Nat->Str):List Stmt:=[VP n]
def y4(n:Nat->Str):List Stmt:=[Q5 n]
def Bg(n:Nat->Str):List Stmt:=[gD n vc,cT n (.assign (.name 196 481000481008) (.str [108,97,119,95,120,119,48,49,56,50,95,48,49] 481011481026) 481000481026),gD n tG,gD n tX,gD n tR,gD n uk,gD n uB,gD n sE,gD n sQ,gD n sA,gD n tU,gD n oP,gD n pL,gD n pq]
def y9(n:Nat->Str):List Stmt:=(aZ (gD n) [tN,r6,mO])
def PG(n:Nat->Str):Program:=F6 n (dS n++(iy n++(qr n++(Cw n++(qh n++(Cc n++(A6 n++(CI n++(AR n++(Ak n++(BB n++(zM n++(zV n++(A5 n++(y4 n++(Bg n++(y9 n++([])))))))))))))))))) [(102,0),(196,0),(197,0),(5,3),(17,0),(97,0),(29,0),(142,0),(43,0),(18,0),(28,0),(12,0),(138,0),(26,0),(48,0),(125,0),(49,0),(53,0),(127,0),(94,0),(101,0),(82,0),(79,0),(68,0),(93,0),(85,0),(83,0),(67,0),(119,0),(134,0),(135,0),(120,0),(117,0),(173,0),(141,0),(191,0),(152,0),(192,0),(174,0),(157,0),(161,0),(194,0),(162,0),(177,0),(186,0),(187,0),(188,0),(190,0),(189,0),(212,0)] 213
def n:Nat->Str:=jO ng aW
def o0(g:Dn):Obj:=Xf .none (n g.x) (n g.y) (gA n g) (cU n g.f.body) (gS n g) .none
def o1(g:Dn)(cd:Nat):Obj:=Bq (n g.x) (n g.y) (gA n g) (cU n g.f.body) (gS n g) g.df (.str (n g.u) g.t) cd
def kC(x y:Nat)(l a:Int)(t A u f:Nat)(b:Bool)(c d e:Value):Obj:=aw (.type QT) [.str (n x) t,.str (n y) (Nat.add t 1),.str (n 213) (Nat.add t 2),.int l 0,.int a 0,.int 0 0,.int 0 0,.int (.ofNat f) 0,.ref A,.bool b,.int 181 0,.ref (Nat.add A 1),.none,c,d,e,.int (.ofNat u) 0,.int l 0,.str (n 213) (Nat.add u 1)]
def kF(g:Dn)(t A u:Nat):Obj:=kC g.x g.y (.ofNat (Nat.div g.p 1000000000)) (.ofNat (len g.f.ps)) t A u 3 true (.ref (Nat.add A 2)) (.ref (Nat.add A 3)) (.ref (Nat.add A 4))
def kG(g:Dn)(t A u:Nat):Obj:=kC g.x g.y (.ofNat (Nat.div g.p 1000000000)) (.ofNat (len g.f.ps)) t A u 3 true .none .none (.ref (Nat.add A 2))
def kK(x l t A u:Nat):Obj:=kC x x (.ofNat l) 0 t A u 0 false .none .none .none
def oN(t:Nat)(l:List Nat):Obj:=ak (List.rec (motive:=λ_=>Nat->List Value) (λ_=>[]) (λx _ ih t=>.str (n x) t::ih (Nat.succ t)) l t)
def oS(a b x t:Nat):Obj:=Qa (.type S6) [some (.ref a),some (.ref 3),some (.ref b),none,some (.str (n x) t),none,some (.ref 0)]
def er(P:Params)(x t a:Nat):DictEntry:=aU P (n x) t (.ref a)
def W5(P:Params):List Obj:=[PySem.W.boot_o_0 P,
 PySem.W.boot_o_1 P,
 bT (.none) [aU P (n 214) 224 (.int 39 0),aU P (n 215) 225 (.int 1 0)] 2,
 bT (.type bW) [aU P (n 196) 165 (.str (n 216) 1158),aU P (n 217) 166 (.none),aU P (n 218) 167 (.none),aU P (n 219) 168 (.builtin Ei),aU P (n 220) 169 (.none),er P 221 170 6,er P 222 171 4,aU P (n 223) 173 (.str (n 213) 172),aU P (n 224) 174 (.none),er P 102 193 21,er P 197 227 39,er P 17 243 52,er P 97 259 64,er P 29 275 76,er P 142 291 88,er P 43 303 91,aU P (n 18) 305 (.str (n 225) 304),aU P (n 28) 307 (.int 10000 306),er P 12 318 98,er P 138 328 105,er P 26 336 112,er P 48 420 165,er P 125 432 177,er P 49 438 182,er P 53 444 187,er P 127 450 192,er P 94 466 193,aU P (n 101) 468 (.int 30 467),er P 82 472 194,er P 79 475 196,er P 68 483 203,er P 93 491 210,er P 85 499 217,er P 83 532 234,er P 67 576 267,er P 119 800 400,er P 134 844 423,er P 135 887 444,er P 120 934 473,er P 117 987 506,er P 173 1147 621,er P 141 1157 632,er P 191 1168 639,er P 152 1177 646,er P 192 1185 653,er P 174 1193 660,er P 157 1200 667,er P 161 1214 674,er P 194 1220 681,er P 162 1227 688,er P 177 1233 693,er P 186 1239 698,er P 187 1245 703,er P 188 1251 708,er P 190 1261 715,er P 189 1274 722,er P 212 1280 727] 57,
 PySem.W.boot_o_4 P,
 PySem.W.boot_o_5 P,
 PySem.W.boot_o_6 P,
 PySem.W.boot_o_7 P,
 PySem.W.boot_o_8 P,
 PySem.W.boot_o_9 P,
 PySem.W.boot_o_10 P,
 ak [],
 aw (.none) [.int 1 0,.int 0 0,.ref 20,.int 5 0,.int 0 0,.ref 27,.int 11 0,.int 0 0,.ref 48,.int 13 0,.int 0 0,.ref 60,.int 15 0,.int 0 0,.ref 72,.int 17 0,.int 0 0,.ref 84,.int 23 0,.int 0 0,.ref 97,.int 34 0,.int 0 0,.ref 104,.int 40 0,.int 0 0,.ref 111,.int 46 0,.int 0 0,.ref 118,.int 117 0,.int 0 0,.ref 176,.int 119 0,.int 0 0,.ref 181,.int 127 0,.int 0 0,.ref 186,.int 136 0,.int 0 0,.ref 191,.int 159 0,.int 0 0,.ref 202,.int 161 0,.int 0 0,.ref 209,.int 164 0,.int 0 0,.ref 216,.int 166 0,.int 0 0,.ref 223,.int 172 0,.int 0 0,.ref 244,.int 184 0,.int 0 0,.ref 277,.int 335 0,.int 0 0,.ref 410,.int 345 0,.int 0 0,.ref 433,.int 356 0,.int 0 0,.ref 454,.int 370 0,.int 0 0,.ref 483,.int 389 0,.int 0 0,.ref 516,.int 469 0,.int 0 0,.ref 631,.int 482 0,.int 0 0,.ref 638,.int 486 0,.int 0 0,.ref 645,.int 493 0,.int 0 0,.ref 652,.int 495 0,.int 0 0,.ref 659,.int 504 0,.int 0 0,.ref 666,.int 506 0,.int 0 0,.ref 673,.int 520 0,.int 0 0,.ref 680,.int 522 0,.int 0 0,.ref 687,.int 524 0,.int 0 0,.ref 692,.int 535 0,.int 0 0,.ref 697,.int 569 0,.int 0 0,.ref 702,.int 574 0,.int 0 0,.ref 707,.int 580 0,.int 0 0,.ref 714,.int 586 0,.int 0 0,.ref 721,.int 605 0,.int 0 0,.ref 726],
 kK 226 1 182 11 185,
 oS 13 3 227 164,
 ak []]
def Y0(P:Params):List Obj:=[aw (.none) [],
 oN 190 [3],
 ak [],
 o0 g0,
 kF g0 187 15 191,
 o1 g0 20,
 ak [.type fg],
 aw (.type dw) [.builtin iA,.type gX],
 bT (.type bW) [aU P (n 228) 203 (.str (n 229) 194),aU P (n 230) 205 (.str (n 197) 204),aU P (n 231) 207 (.int 5 206),er P 6 217 36,er P 232 220 37] 5,
 ak [],
 aw (.none) [.int 7 0,.int 4 0,.ref 35],
 kK 197 5 198 25 201,
 oS 27 24 229 194,
 ak [.int 0 208],
 ak [],
 aw (.none) []]
def Zh(P:Params):List Obj:=[oN 212 [4,0,1],
 ak [],
 o0 g1,
 kF g1 209 30 215,
 o1 g1 35,
 oN 218 [0,1],
 bT (.type bW) [aU P (n 228) 203 (.str (n 229) 194),aU P (n 231) 207 (.int 5 206),er P 6 217 36,er P 232 220 37,er P 234 222 40,aU P (n 217) 223 (.none)] 3,
 gd {name:=n 197,bases:=[.type fg],mro:=[.ref 39,.type fg,.type iu,.type cQ],ns:=38,qualname:=n 197,subclasses:=[.ref 52,.ref 64,.ref 76,.ref 88]} [some (.ref 22),none,some (.str (n 197) 196),some (.str (n 197) 204),some (.builtin lI),some (.bool true)],
 aw (.type fJ) [.str (n 234) 221,.ref 39,.builtin k9,.none],
 aw (.type iw) [.ref 39,.ref 39,.ref 39],
 aw (.type dw) [.builtin ii,.ref 39],
 ak [.ref 39],
 aw (.type dw) [.builtin iA,.type gX],
 bT (.type bW) [aU P (n 228) 235 (.str (n 229) 194),aU P (n 230) 237 (.str (n 17) 236),aU P (n 231) 239 (.int 11 238),er P 232 240 50] 4,
 ak [],
 aw (.none) []]
def Xk(P:Params):List Obj:=[kK 17 11 230 46 233,
 oS 48 45 229 194,
 ak [],
 bT (.type bW) [aU P (n 228) 235 (.str (n 229) 194),aU P (n 231) 239 (.int 11 238),er P 232 240 50,aU P (n 217) 241 (.none)] 2,
 gd {name:=n 17,bases:=[.ref 39],mro:=[.ref 52,.ref 39,.type fg,.type iu,.type cQ],ns:=51,qualname:=n 17} [some (.ref 43),none,some (.str (n 17) 228),some (.str (n 17) 236),some (.builtin lI),some (.bool true)],
 aw (.type iw) [.ref 52,.ref 52,.ref 52],
 aw (.type dw) [.builtin ii,.ref 52],
 ak [.ref 39],
 aw (.type dw) [.builtin iA,.type gX],
 bT (.type bW) [aU P (n 228) 251 (.str (n 229) 194),aU P (n 230) 253 (.str (n 97) 252),aU P (n 231) 255 (.int 13 254),er P 232 256 62] 4,
 ak [],
 aw (.none) [],
 kK 97 13 246 58 249,
 oS 60 57 229 194,
 ak [],
 bT (.type bW) [aU P (n 228) 251 (.str (n 229) 194),aU P (n 231) 255 (.int 13 254),er P 232 256 62,aU P (n 217) 257 (.none)] 2]
def Y1(P:Params):List Obj:=[gd {name:=n 97,bases:=[.ref 39],mro:=[.ref 64,.ref 39,.type fg,.type iu,.type cQ],ns:=63,qualname:=n 97} [some (.ref 55),none,some (.str (n 97) 244),some (.str (n 97) 252),some (.builtin lI),some (.bool true)],
 aw (.type iw) [.ref 64,.ref 64,.ref 64],
 aw (.type dw) [.builtin ii,.ref 64],
 ak [.ref 39],
 aw (.type dw) [.builtin iA,.type gX],
 bT (.type bW) [aU P (n 228) 267 (.str (n 229) 194),aU P (n 230) 269 (.str (n 29) 268),aU P (n 231) 271 (.int 15 270),er P 232 272 74] 4,
 ak [],
 aw (.none) [],
 kK 29 15 262 70 265,
 oS 72 69 229 194,
 ak [],
 bT (.type bW) [aU P (n 228) 267 (.str (n 229) 194),aU P (n 231) 271 (.int 15 270),er P 232 272 74,aU P (n 217) 273 (.none)] 2,
 gd {name:=n 29,bases:=[.ref 39],mro:=[.ref 76,.ref 39,.type fg,.type iu,.type cQ],ns:=75,qualname:=n 29} [some (.ref 67),none,some (.str (n 29) 260),some (.str (n 29) 268),some (.builtin lI),some (.bool true)],
 aw (.type iw) [.ref 76,.ref 76,.ref 76],
 aw (.type dw) [.builtin ii,.ref 76],
 ak [.ref 39]]
def Ro(P:Params):List Obj:=[aw (.type dw) [.builtin iA,.type gX],
 bT (.type bW) [aU P (n 228) 283 (.str (n 229) 194),aU P (n 230) 285 (.str (n 142) 284),aU P (n 231) 287 (.int 17 286),er P 232 288 86] 4,
 ak [],
 aw (.none) [],
 kK 142 17 278 82 281,
 oS 84 81 229 194,
 ak [],
 bT (.type bW) [aU P (n 228) 283 (.str (n 229) 194),aU P (n 231) 287 (.int 17 286),er P 232 288 86,aU P (n 217) 289 (.none)] 2,
 gd {name:=n 142,bases:=[.ref 39],mro:=[.ref 88,.ref 39,.type fg,.type iu,.type cQ],ns:=87,qualname:=n 142} [some (.ref 79),none,some (.str (n 142) 276),some (.str (n 142) 284),some (.builtin lI),some (.bool true)],
 aw (.type iw) [.ref 88,.ref 88,.ref 88],
 aw (.type dw) [.builtin ii,.ref 88],
 oN 294 [235,236,237,238,156,239,240,241,242],
 ak [],
 aw (.none) [],
 oN 311 [7,8,9,10,11],
 ak []]
def TF(P:Params):List Obj:=[o0 g2,
 kF g2 308 92 316,
 o1 g2 97,
 ak [],
 aw (.none) [],
 oN 322 [7,15,1,16],
 ak [],
 o0 g3,
 kF g3 319 99 326,
 o1 g3 104,
 ak [],
 aw (.none) [],
 oN 332 [16,1],
 ak [],
 o0 g4,
 kF g4 329 106 334]
def RF(P:Params):List Obj:=[o1 g4 111,
 ak [],
 aw (.type dw) [.builtin iA,.type gX],
 bT (.type bW) [aU P (n 228) 344 (.str (n 243) 292),aU P (n 230) 346 (.str (n 48) 345),aU P (n 231) 348 (.int 46 347),er P 6 360 126,er P 31 366 131,er P 33 373 138,er P 30 379 143,er P 38 391 150,er P 44 401 157,er P 39 407 162,er P 232 413 163] 11,
 ak [],
 aw (.none) [.int 48 0,.int 4 0,.ref 125,.int 55 0,.int 4 0,.ref 130,.int 71 0,.int 4 0,.ref 137,.int 74 0,.int 4 0,.ref 142,.int 85 0,.int 4 0,.ref 149,.int 101 0,.int 4 0,.ref 156,.int 106 0,.int 4 0,.ref 161],
 kK 48 46 339 116 342,
 oS 118 115 243 292,
 ak [],
 aw (.none) [],
 oN 352 [4,20,21,22,23,24],
 ak [],
 o0 g5,
 kF g5 349 120 358,
 o1 g5 125,
 ak []]
def PA(P:Params):List Obj:=[aw (.none) [],
 o0 g6,
 kG g6 361 127 364,
 o1 g6 130,
 ak [],
 aw (.none) [],
 oN 370 [4],
 ak [],
 o0 g7,
 kF g7 367 132 371,
 o1 g7 137,
 ak [],
 aw (.none) [],
 o0 g8,
 kG g8 374 139 377,
 o1 g8 142]
def NA(P:Params):List Obj:=[ak [],
 aw (.none) [],
 oN 383 [4,1,35,40,41,42],
 ak [],
 o0 g9,
 kF g9 380 144 389,
 o1 g9 149,
 ak [],
 aw (.none) [],
 oN 395 [4,1,35,7],
 ak [],
 o0 sd,
 kF sd 392 151 399,
 o1 sd 156,
 ak [],
 aw (.none) []]
def VA(P:Params):List Obj:=[o0 uc,
 kG uc 402 158 405,
 o1 uc 161,
 oN 408 [24,22,21,20,23],
 bT (.type bW) [aU P (n 228) 344 (.str (n 243) 292),aU P (n 231) 348 (.int 46 347),er P 6 360 126,er P 31 366 131,er P 33 373 138,er P 30 379 143,er P 38 391 150,er P 44 401 157,er P 39 407 162,er P 232 413 163,er P 251 415 166,er P 234 417 167,aU P (n 217) 418 (.none)] 4,
 gd {name:=n 48,bases:=[.type cQ],mro:=[.ref 165,.type cQ],ns:=164,qualname:=n 48} [none,none,some (.str (n 48) 337),some (.str (n 48) 345),some (.builtin me),some (.bool true)],
 aw (.type fJ) [.str (n 251) 414,.ref 165,.builtin l8,.builtin lX],
 aw (.type fJ) [.str (n 234) 416,.ref 165,.builtin k9,.none],
 aw (.type iw) [.ref 165,.ref 165,.ref 165],
 aw (.type dw) [.builtin ii,.ref 165],
 ak [.none],
 ak [],
 aw (.none) [],
 oN 424 [20,21,22,23,25,24],
 ak [],
 o0 re]
def P2(P:Params):List Obj:=[kF re 421 171 430,
 o1 re 176,
 ak [],
 aw (.none) [],
 o0 sj,
 kG sj 433 178 436,
 o1 sj 181,
 ak [],
 aw (.none) [],
 o0 u5,
 kG u5 439 183 442,
 o1 u5 186,
 ak [],
 aw (.none) [],
 o0 uA,
 kG uA 445 188 448]
def WH(P:Params):List Obj:=[o1 uA 191,
 oN 453 [252,253,254,255,256,257,258,259,260,261,262,263,264],
 ak [.str (n 265) 469,.str (n 4) 470,.str (aW [115,117,112,101,114]) 471],
 oN 473 [267,268],
 ak [.str (n 235) 294,.str (n 236) 295,.str (n 237) 296,.str (n 238) 297,.str (n 156) 298,.str (n 239) 299,.str (n 240) 300,.str (n 241) 301,.str (n 242) 302,.str (n 267) 473,.str (n 268) 474],
 ak [],
 aw (.none) [],
 oN 479 [21,40],
 ak [],
 o0 uD,
 kF uD 476 197 481,
 o1 uD 202,
 ak [],
 aw (.none) [],
 oN 487 [30,55],
 ak []]
def Wr(P:Params):List Obj:=[o0 tz,
 kF tz 484 204 489,
 o1 tz 209,
 ak [],
 aw (.none) [],
 oN 495 [21,57],
 ak [],
 o0 tO,
 kF tO 492 211 497,
 o1 tO 216,
 ak [],
 aw (.type dw) [.builtin iA,.type gX],
 bT (.type bW) [aU P (n 228) 507 (.str (n 269) 451),aU P (n 230) 509 (.str (n 83) 508),aU P (n 231) 511 (.int 166 510),er P 6 521 231,er P 232 525 232] 5,
 ak [],
 aw (.none) [.int 168 0,.int 4 0,.ref 230],
 kK 83 166 502 221 505]
def R9(P:Params):List Obj:=[oS 223 220 269 451,
 ak [],
 aw (.none) [],
 oN 515 [4,36,59,1],
 ak [],
 o0 tZ,
 kF tZ 512 225 519,
 o1 tZ 230,
 oN 522 [59,36,1],
 bT (.type bW) [aU P (n 228) 507 (.str (n 269) 451),aU P (n 231) 511 (.int 166 510),er P 6 521 231,er P 232 525 232,er P 251 527 235,er P 234 529 236,aU P (n 217) 530 (.none)] 4,
 gd {name:=n 83,bases:=[.type cQ],mro:=[.ref 234,.type cQ],ns:=233,qualname:=n 83} [none,none,some (.str (n 83) 500),some (.str (n 83) 508),some (.builtin me),some (.bool true)],
 aw (.type fJ) [.str (n 251) 526,.ref 234,.builtin l8,.builtin lX],
 aw (.type fJ) [.str (n 234) 528,.ref 234,.builtin k9,.none],
 aw (.type iw) [.ref 234,.ref 234,.ref 234],
 aw (.type dw) [.builtin ii,.ref 234],
 ak []]
def RJ(P:Params):List Obj:=[aw (.type dw) [.builtin iA,.type gX],
 bT (.type bW) [aU P (n 228) 540 (.str (n 269) 451),aU P (n 230) 542 (.str (n 67) 541),aU P (n 231) 544 (.int 172 543),er P 6 551 252,er P 62 559 259,er P 80 565 264,er P 232 569 265] 7,
 ak [],
 aw (.none) [.int 174 0,.int 4 0,.ref 251,.int 179 0,.int 4 0,.ref 258,.int 182 0,.int 4 0,.ref 263],
 kK 67 172 535 242 538,
 oS 244 241 269 451,
 ak [],
 aw (.none) [],
 oN 548 [4],
 ak [],
 o0 tS,
 kF tS 545 246 549,
 o1 tS 251,
 ak [],
 aw (.none) [],
 oN 555 [4,62]]
def Ow(P:Params):List Obj:=[ak [],
 o0 sW,
 kF sW 552 253 557,
 o1 sW 258,
 ak [],
 aw (.none) [],
 o0 si,
 kG si 560 260 563,
 o1 si 263,
 oN 566 [42,61,60],
 bT (.type bW) [aU P (n 228) 540 (.str (n 269) 451),aU P (n 231) 544 (.int 172 543),er P 6 551 252,er P 62 559 259,er P 80 565 264,er P 232 569 265,er P 251 571 268,er P 234 573 269,aU P (n 217) 574 (.none)] 4,
 gd {name:=n 67,bases:=[.type cQ],mro:=[.ref 267,.type cQ],ns:=266,qualname:=n 67} [none,none,some (.str (n 67) 533),some (.str (n 67) 541),some (.builtin me),some (.bool true)],
 aw (.type fJ) [.str (n 251) 570,.ref 267,.builtin l8,.builtin lX],
 aw (.type fJ) [.str (n 234) 572,.ref 267,.builtin k9,.none],
 aw (.type iw) [.ref 267,.ref 267,.ref 267],
 aw (.type dw) [.builtin ii,.ref 267]]
def OZ(P:Params):List Obj:=[ak [],
 aw (.type dw) [.builtin iA,.type gX],
 bT (.type bW) [aU P (n 228) 584 (.str (n 269) 451),aU P (n 230) 586 (.str (n 119) 585),aU P (n 231) 588 (.int 184 587),er P 6 600 285,er P 73 612 292,er P 75 628 299,er P 76 634 304,er P 77 644 311,er P 74 659 318,er P 99 669 325,er P 46 681 333,er P 86 697 340,er P 90 709 347,er P 91 723 354,er P 95 739 361,er P 100 752 368,er P 198 763 376,er P 199 770 383,er P 200 777 390,er P 201 786 397,er P 232 793 398] 21,
 ak [],
 aw (.none) [.int 186 0,.int 4 0,.ref 284,.int 201 0,.int 4 0,.ref 291,.int 220 0,.int 4 0,.ref 298,.int 231 0,.int 4 0,.ref 303,.int 238 0,.int 4 0,.ref 310,.int 244 0,.int 4 0,.ref 317,.int 254 0,.int 4 0,.ref 324,.int 257 0,.int 4 0,.ref 332,.int 261 0,.int 4 0,.ref 339,.int 273 0,.int 4 0,.ref 346,.int 287 0,.int 4 0,.ref 353,.int 295 0,.int 4 0,.ref 360,.int 314 0,.int 4 0,.ref 367,.int 323 0,.int 4 0,.ref 375,.int 326 0,.int 4 0,.ref 382,.int 329 0,.int 4 0,.ref 389,.int 332 0,.int 4 0,.ref 396],
 kK 119 184 579 275 582,
 oS 277 274 269 451,
 ak [],
 aw (.none) [],
 oN 592 [4,64,65,21,9,66],
 ak [],
 o0 ue,
 kF ue 589 279 598,
 o1 ue 284,
 ak [],
 aw (.none) []]
def O4(P:Params):List Obj:=[oN 604 [4,21,66,8,1,63],
 ak [],
 o0 uH,
 kF uH 601 286 610,
 o1 uH 291,
 ak [],
 aw (.none) [],
 oN 616 [4,21,40,8,63,59,1,78,30,62],
 ak [],
 o0 u0,
 kF u0 613 293 626,
 o1 u0 298,
 ak [],
 aw (.none) [],
 o0 tx,
 kG tx 629 300 632]
def Tc(P:Params):List Obj:=[o1 tx 303,
 ak [],
 aw (.none) [],
 oN 638 [4,30,66,35],
 ak [],
 o0 sR,
 kF sR 635 305 642,
 o1 sR 310,
 ak [],
 aw (.none) [],
 oN 648 [4,21,66,1,36,81,59,40,78],
 ak [],
 o0 vq,
 kF vq 645 312 657,
 o1 vq 317,
 ak []]
def Os(P:Params):List Obj:=[aw (.none) [],
 oN 663 [4,84,57,59],
 ak [],
 o0 tw,
 kF tw 660 319 667,
 o1 tw 324,
 ak [.int 0 670],
 ak [],
 aw (.none) [],
 oN 674 [4,21,36,62,1],
 ak [],
 o0 rD,
 kF rD 671 327 679,
 o1 rD 332,
 ak [],
 aw (.none) []]
def Ol(P:Params):List Obj:=[oN 685 [4,21,36,62,1,87,88,55,89,10],
 ak [],
 o0 rZ,
 kF rZ 682 334 695,
 o1 rZ 339,
 ak [],
 aw (.none) [],
 oN 701 [4,21,36,1,88,55],
 ak [],
 o0 sU,
 kF sU 698 341 707,
 o1 sU 346,
 ak [],
 aw (.none) [],
 oN 713 [4,21,88,40,62,1,87,10],
 ak []]
def Un(P:Params):List Obj:=[o0 sq,
 kF sq 710 348 721,
 o1 sq 353,
 ak [],
 aw (.none) [],
 oN 727 [4,84,57,40,62,1,87,30,78,96],
 ak [],
 o0 ux,
 kF ux 724 355 737,
 o1 ux 360,
 ak [],
 aw (.none) [],
 oN 743 [4,57,40,96,62,87,10],
 ak [],
 o0 vg,
 kF vg 740 362 750]
def ZT(P:Params):List Obj:=[o1 vg 367,
 ak [.int 0 753],
 ak [],
 aw (.none) [],
 oN 757 [4,21,36,1],
 ak [],
 o0 qC,
 kF qC 754 370 761,
 o1 qC 375,
 ak [],
 aw (.none) [],
 oN 767 [4],
 ak [],
 o0 uy,
 kF uy 764 377 768,
 o1 uy 382]
def Qx(P:Params):List Obj:=[ak [],
 aw (.none) [],
 oN 774 [4],
 ak [],
 o0 uE,
 kF uE 771 384 775,
 o1 uE 389,
 ak [],
 aw (.none) [],
 oN 781 [4,21,96],
 ak [],
 o0 uw,
 kF uw 778 391 784,
 o1 uw 396,
 oN 787 [22,64,71,47,69,70],
 bT (.type bW) [aU P (n 228) 584 (.str (n 269) 451),aU P (n 231) 588 (.int 184 587),er P 6 600 285,er P 73 612 292,er P 75 628 299,er P 76 634 304,er P 77 644 311,er P 74 659 318,er P 99 669 325,er P 46 681 333,er P 86 697 340,er P 90 709 347,er P 91 723 354,er P 95 739 361,er P 100 752 368,er P 198 763 376,er P 199 770 383,er P 200 777 390,er P 201 786 397,er P 232 793 398,er P 251 795 401,er P 234 797 402,aU P (n 217) 798 (.none)] 4]
def Ws(P:Params):List Obj:=[gd {name:=n 119,bases:=[.type cQ],mro:=[.ref 400,.type cQ],ns:=399,qualname:=n 119} [none,none,some (.str (n 119) 577),some (.str (n 119) 585),some (.builtin me),some (.bool true)],
 aw (.type fJ) [.str (n 251) 794,.ref 400,.builtin l8,.builtin lX],
 aw (.type fJ) [.str (n 234) 796,.ref 400,.builtin k9,.none],
 aw (.type iw) [.ref 400,.ref 400,.ref 400],
 aw (.type dw) [.builtin ii,.ref 400],
 ak [],
 aw (.type dw) [.builtin iA,.type gX],
 bT (.type bW) [aU P (n 228) 810 (.str (n 291) 801),aU P (n 230) 812 (.str (n 134) 811),aU P (n 231) 814 (.int 335 813),er P 6 829 420,er P 232 837 421] 5,
 ak [],
 aw (.none) [.int 337 0,.int 4 0,.ref 419],
 kK 134 335 805 408 808,
 oS 410 407 291 801,
 ak [],
 ak [.str (n 292) 815,.ref 412],
 ak [],
 aw (.none) []]
def YR(P:Params):List Obj:=[oN 819 [4,30,41,45,103,104,21,69],
 ak [],
 o0 qw,
 kF qw 816 414 827,
 o1 qw 419,
 oN 830 [104,21,45,30,69,41,103],
 bT (.type bW) [aU P (n 228) 810 (.str (n 291) 801),aU P (n 231) 814 (.int 335 813),er P 6 829 420,er P 232 837 421,er P 251 839 424,er P 234 841 425,aU P (n 217) 842 (.none)] 4,
 gd {name:=n 134,bases:=[.type cQ],mro:=[.ref 423,.type cQ],ns:=422,qualname:=n 134} [none,none,some (.str (n 134) 803),some (.str (n 134) 811),some (.builtin me),some (.bool true)],
 aw (.type fJ) [.str (n 251) 838,.ref 423,.builtin l8,.builtin lX],
 aw (.type fJ) [.str (n 234) 840,.ref 423,.builtin k9,.none],
 aw (.type iw) [.ref 423,.ref 423,.ref 423],
 aw (.type dw) [.builtin ii,.ref 423],
 ak [],
 aw (.type dw) [.builtin iA,.type gX],
 bT (.type bW) [aU P (n 228) 852 (.str (n 291) 801),aU P (n 230) 854 (.str (n 135) 853),aU P (n 231) 856 (.int 345 855),er P 6 871 441,er P 232 880 442] 5,
 ak []]
def RP(P:Params):List Obj:=[aw (.none) [.int 347 0,.int 4 0,.ref 440],
 kK 135 345 847 431 850,
 oS 433 430 291 801,
 ak [],
 aw (.none) [],
 oN 860 [4,30,41,45,105,106,107,108,109],
 ak [],
 o0 tj,
 kF tj 857 435 869,
 o1 tj 440,
 oN 872 [109,106,107,105,45,30,41,108],
 bT (.type bW) [aU P (n 228) 852 (.str (n 291) 801),aU P (n 231) 856 (.int 345 855),er P 6 871 441,er P 232 880 442,er P 251 882 445,er P 234 884 446,aU P (n 217) 885 (.none)] 4,
 gd {name:=n 135,bases:=[.type cQ],mro:=[.ref 444,.type cQ],ns:=443,qualname:=n 135} [none,none,some (.str (n 135) 845),some (.str (n 135) 853),some (.builtin me),some (.bool true)],
 aw (.type fJ) [.str (n 251) 881,.ref 444,.builtin l8,.builtin lX],
 aw (.type fJ) [.str (n 234) 883,.ref 444,.builtin k9,.none],
 aw (.type iw) [.ref 444,.ref 444,.ref 444]]
def Oy(P:Params):List Obj:=[aw (.type dw) [.builtin ii,.ref 444],
 ak [],
 aw (.type dw) [.builtin iA,.type gX],
 bT (.type bW) [aU P (n 228) 895 (.str (n 291) 801),aU P (n 230) 897 (.str (n 120) 896),aU P (n 231) 899 (.int 356 898),er P 6 907 463,er P 202 918 470,er P 232 927 471] 6,
 ak [],
 aw (.none) [.int 358 0,.int 4 0,.ref 462,.int 368 0,.int 4 0,.ref 469],
 kK 120 356 890 452 893,
 oS 454 451 291 801,
 ak [.none],
 ak [],
 aw (.none) [],
 oN 903 [4,20],
 ak [],
 o0 qg,
 kF qg 900 457 905,
 o1 qg 462]
def R7(P:Params):List Obj:=[ak [],
 aw (.none) [],
 oN 911 [4,30,116,3,21],
 ak [],
 o0 uC,
 kF uC 908 464 916,
 o1 uC 469,
 oN 919 [110,115,114,113,20,111,112,103],
 bT (.type bW) [aU P (n 228) 895 (.str (n 291) 801),aU P (n 231) 899 (.int 356 898),er P 6 907 463,er P 202 918 470,er P 232 927 471,er P 251 929 474,er P 234 931 475,aU P (n 217) 932 (.none)] 4,
 gd {name:=n 120,bases:=[.type cQ],mro:=[.ref 473,.type cQ],ns:=472,qualname:=n 120} [none,none,some (.str (n 120) 888),some (.str (n 120) 896),some (.builtin me),some (.bool true)],
 aw (.type fJ) [.str (n 251) 928,.ref 473,.builtin l8,.builtin lX],
 aw (.type fJ) [.str (n 234) 930,.ref 473,.builtin k9,.none],
 aw (.type iw) [.ref 473,.ref 473,.ref 473],
 aw (.type dw) [.builtin ii,.ref 473],
 ak [],
 aw (.type dw) [.builtin iA,.type gX]]
def ZX(P:Params):List Obj:=[bT (.type bW) [aU P (n 228) 942 (.str (n 291) 801),aU P (n 230) 944 (.str (n 117) 943),aU P (n 231) 946 (.int 370 945),er P 6 957 491,er P 36 963 496,er P 128 975 503,er P 232 980 504] 7,
 ak [],
 aw (.none) [.int 372 0,.int 4 0,.ref 490,.int 378 0,.int 4 0,.ref 495,.int 381 0,.int 4 0,.ref 502],
 kK 117 370 937 481 940,
 oS 483 480 291 801,
 ak [],
 aw (.none) [],
 oN 950 [4,21,41,45,23],
 ak [],
 o0 vf,
 kF vf 947 485 955,
 o1 vf 490,
 ak [],
 aw (.none) [],
 o0 tF,
 kG tF 958 492 961]
def RI(P:Params):List Obj:=[o1 tF 495,
 ak [],
 aw (.none) [],
 oN 967 [4,1,41,45,40,51],
 ak [],
 o0 to,
 kF to 964 497 973,
 o1 to 502,
 oN 976 [21,45,41,23],
 bT (.type bW) [aU P (n 228) 942 (.str (n 291) 801),aU P (n 231) 946 (.int 370 945),er P 6 957 491,er P 36 963 496,er P 128 975 503,er P 232 980 504,er P 251 982 507,er P 234 984 508,aU P (n 217) 985 (.none)] 4,
 gd {name:=n 117,bases:=[.type cQ],mro:=[.ref 506,.type cQ],ns:=505,qualname:=n 117} [none,none,some (.str (n 117) 935),some (.str (n 117) 943),some (.builtin me),some (.bool true)],
 aw (.type fJ) [.str (n 251) 981,.ref 506,.builtin l8,.builtin lX],
 aw (.type fJ) [.str (n 234) 983,.ref 506,.builtin k9,.none],
 aw (.type iw) [.ref 506,.ref 506,.ref 506],
 aw (.type dw) [.builtin ii,.ref 506],
 ak []]
def Ze(P:Params):List Obj:=[aw (.type dw) [.builtin iA,.type gX],
 bT (.type bW) [aU P (n 228) 995 (.str (n 291) 801),aU P (n 230) 997 (.str (n 173) 996),aU P (n 231) 999 (.int 389 998),er P 6 1007 524,er P 203 1014 531,er P 204 1021 538,er P 139 1031 545,er P 136 1042 552,er P 179 1048 557,er P 131 1054 562,er P 205 1065 569,er P 206 1074 576,er P 207 1083 583,er P 208 1092 590,er P 209 1101 597,er P 184 1115 604,er P 210 1125 611,er P 211 1134 618,er P 232 1140 619] 19,
 ak [],
 aw (.none) [.int 391 0,.int 4 0,.ref 523,.int 398 0,.int 4 0,.ref 530,.int 401 0,.int 4 0,.ref 537,.int 404 0,.int 4 0,.ref 544,.int 411 0,.int 4 0,.ref 551,.int 415 0,.int 4 0,.ref 556,.int 431 0,.int 4 0,.ref 561,.int 441 0,.int 4 0,.ref 568,.int 444 0,.int 4 0,.ref 575,.int 447 0,.int 4 0,.ref 582,.int 450 0,.int 4 0,.ref 589,.int 453 0,.int 4 0,.ref 596,.int 456 0,.int 4 0,.ref 603,.int 464 0,.int 4 0,.ref 610,.int 467 0,.int 4 0,.ref 617],
 kK 173 389 990 514 993,
 oS 516 513 291 801,
 ak [],
 aw (.none) [],
 oN 1003 [4,64],
 ak [],
 o0 vo,
 kF vo 1000 518 1005,
 o1 vo 523,
 ak [],
 aw (.none) [],
 oN 1011 [4]]
def S5(P:Params):List Obj:=[ak [],
 o0 uN,
 kF uN 1008 525 1012,
 o1 uN 530,
 ak [],
 aw (.none) [],
 oN 1018 [4],
 ak [],
 o0 uO,
 kF uO 1015 532 1019,
 o1 uO 537,
 ak [],
 aw (.none) [],
 oN 1025 [4,124,25,7],
 ak [],
 o0 sr]
def W6(P:Params):List Obj:=[kF sr 1022 539 1029,
 o1 sr 544,
 ak [],
 aw (.none) [],
 oN 1035 [4,124,22,1,126],
 ak [],
 o0 vi,
 kF vi 1032 546 1040,
 o1 vi 551,
 ak [],
 aw (.none) [],
 o0 ub,
 kG ub 1043 553 1046,
 o1 ub 556,
 ak [],
 aw (.none) []]
def PN(P:Params):List Obj:=[o0 sH,
 kG sH 1049 558 1052,
 o1 sH 561,
 ak [],
 aw (.none) [],
 oN 1058 [4,30,66,124,140],
 ak [],
 o0 vk,
 kF vk 1055 563 1063,
 o1 vk 568,
 ak [],
 aw (.none) [],
 oN 1069 [4,23,108],
 ak [],
 o0 u9,
 kF u9 1066 570 1072]
def NC(P:Params):List Obj:=[o1 u9 575,
 ak [],
 aw (.none) [],
 oN 1078 [4,21,66],
 ak [],
 o0 tu,
 kF tu 1075 577 1081,
 o1 tu 582,
 ak [],
 aw (.none) [],
 oN 1087 [4,21,66],
 ak [],
 o0 sK,
 kF sK 1084 584 1090,
 o1 sK 589,
 ak []]
def S4(P:Params):List Obj:=[aw (.none) [],
 oN 1096 [4,21,66],
 ak [],
 o0 tE,
 kF tE 1093 591 1099,
 o1 tE 596,
 ak [],
 aw (.none) [],
 oN 1105 [4,126,42,1,15,7,40,51],
 ak [],
 o0 tY,
 kF tY 1102 598 1113,
 o1 tY 603,
 ak [],
 aw (.none) [],
 oN 1119 [4,105,124,1]]
def Uy(P:Params):List Obj:=[ak [],
 o0 sN,
 kF sN 1116 605 1123,
 o1 sN 610,
 ak [],
 aw (.none) [],
 oN 1129 [4,124,66],
 ak [],
 o0 ve,
 kF ve 1126 612 1132,
 o1 ve 617,
 oN 1135 [64,122,20,123,121],
 bT (.type bW) [aU P (n 228) 995 (.str (n 291) 801),aU P (n 231) 999 (.int 389 998),er P 6 1007 524,er P 203 1014 531,er P 204 1021 538,er P 139 1031 545,er P 136 1042 552,er P 179 1048 557,er P 131 1054 562,er P 205 1065 569,er P 206 1074 576,er P 207 1083 583,er P 208 1092 590,er P 209 1101 597,er P 184 1115 604,er P 210 1125 611,er P 211 1134 618,er P 232 1140 619,er P 251 1142 622,er P 234 1144 623,aU P (n 217) 1145 (.none)] 4,
 gd {name:=n 173,bases:=[.type cQ],mro:=[.ref 621,.type cQ],ns:=620,qualname:=n 173} [none,none,some (.str (n 173) 988),some (.str (n 173) 996),some (.builtin me),some (.bool true)],
 aw (.type fJ) [.str (n 251) 1141,.ref 621,.builtin l8,.builtin lX],
 aw (.type fJ) [.str (n 234) 1143,.ref 621,.builtin k9,.none]]
def Uf(P:Params):List Obj:=[aw (.type iw) [.ref 621,.ref 621,.ref 621],
 aw (.type dw) [.builtin ii,.ref 621],
 ak [],
 aw (.none) [],
 oN 1151 [7,8,10,11],
 ak [],
 o0 vc,
 kF vc 1148 626 1155,
 o1 vc 631,
 ak [],
 aw (.none) [],
 oN 1163 [143,144,145],
 ak [],
 o0 tG,
 kF tG 1160 633 1166,
 o1 tG 638]
def Oa(P:Params):List Obj:=[ak [],
 aw (.none) [],
 oN 1172 [148,149,150],
 ak [],
 o0 tX,
 kF tX 1169 640 1175,
 o1 tX 645,
 ak [],
 aw (.none) [],
 oN 1181 [148,151],
 ak [],
 o0 tR,
 kF tR 1178 647 1183,
 o1 tR 652,
 ak [],
 aw (.none) []]
def Vb(P:Params):List Obj:=[oN 1189 [153,154],
 ak [],
 o0 uk,
 kF uk 1186 654 1191,
 o1 uk 659,
 ak [],
 aw (.none) [],
 oN 1197 [40],
 ak [],
 o0 uB,
 kF uB 1194 661 1198,
 o1 uB 666,
 ak [],
 aw (.none) [],
 oN 1204 [155,1,41,36,156,116,126,16],
 ak []]
def OD(P:Params):List Obj:=[o0 sE,
 kF sE 1201 668 1212,
 o1 sE 673,
 ak [],
 aw (.none) [],
 ak [],
 ak [],
 o0 sQ,
 kF sQ 1215 675 1218,
 o1 sQ 680,
 ak [],
 aw (.none) [],
 oN 1224 [158],
 ak [],
 o0 sA,
 kF sA 1221 682 1225]
def Yk(P:Params):List Obj:=[o1 sA 687,
 ak [],
 aw (.none) [],
 o0 tU,
 kG tU 1228 689 1231,
 o1 tU 692,
 ak [],
 aw (.none) [],
 o0 oP,
 kG oP 1234 694 1237,
 o1 oP 697,
 ak [],
 aw (.none) [],
 o0 pL,
 kG pL 1240 699 1243,
 o1 pL 702]
def Wj(P:Params):List Obj:=[ak [],
 aw (.none) [],
 o0 pq,
 kG pq 1246 704 1249,
 o1 pq 707,
 ak [],
 aw (.none) [],
 oN 1255 [7,66,171,105],
 ak [],
 o0 tN,
 kF tN 1252 709 1259,
 o1 tN 714,
 ak [],
 aw (.none) [],
 oN 1265 [11,185,155,41,126,36,181],
 ak []]
def Yv(P:Params):List Obj:=[o0 r6,
 kF r6 1262 716 1272,
 o1 r6 721,
 ak [],
 aw (.none) [],
 o0 mO,
 kG mO 1275 723 1278,
 o1 mO 726]
def oT:Tr (Params->List Obj):=(.nd (.nd (.nd (.nd (.nd (.nd .lf 0 W5 .lf) 1 Y0 .lf) 2 Zh (.nd (.nd .lf 3 Xk .lf) 4 Y1 .lf)) 5 Ro (.nd (.nd (.nd .lf 6 TF .lf) 7 RF .lf) 8 PA (.nd (.nd .lf 9 NA .lf) 10 VA .lf))) 11 P2 (.nd (.nd (.nd (.nd .lf 12 WH .lf) 13 Wr .lf) 14 R9 (.nd (.nd .lf 15 RJ .lf) 16 Ow .lf)) 17 OZ (.nd (.nd (.nd .lf 18 O4 .lf) 19 Tc .lf) 20 Os (.nd (.nd .lf 21 Ol .lf) 22 Un .lf)))) 23 ZT (.nd (.nd (.nd (.nd (.nd .lf 24 Qx .lf) 25 Ws .lf) 26 YR (.nd (.nd .lf 27 RP .lf) 28 Oy .lf)) 29 R7 (.nd (.nd (.nd .lf 30 ZX .lf) 31 RI .lf) 32 Ze (.nd (.nd .lf 33 S5 .lf) 34 W6 .lf))) 35 PN (.nd (.nd (.nd (.nd .lf 36 NC .lf) 37 S4 .lf) 38 Uy (.nd (.nd .lf 39 Uf .lf) 40 Oa .lf)) 41 Vb (.nd (.nd (.nd .lf 42 OD .lf) 43 Yk .lf) 44 Wj (.nd .lf 45 Yv .lf)))))
def EZ(P:Params):List Value:=[]
def wM(P:Params):BT:=sB 12 (aw (.none) (EZ P)) (sB 3 (PySem.W.boot_o_3 P) (sB 2 (PySem.W.boot_o_2 P) (tB (bv oT P) 15 11 1 0)))
def KY(P:Params):List DictEntry:=[aU P (n 196) 165 (.str (n 229) 194),aU P (n 217) 166 (.none),aU P (n 218) 167 (.none),aU P (n 219) 168 (.builtin Ei),aU P (n 220) 169 (.none),er P 221 170 6,er P 222 171 4,aU P (n 223) 173 (.str (n 213) 172),aU P (n 224) 174 (.none),er P 102 193 21,er P 197 227 39]
def KP(P:Params):List Value:=(app (EZ P) [.int 1 0,.int 0 0,.ref 20,.int 5 0,.int 0 0,.ref 27])
def EI(P:Params):BT:=sB 39 (gd {name:=n 197,bases:=[.type fg],mro:=[.ref 39,.type fg,.type iu,.type cQ],ns:=38,qualname:=n 197} [some (.ref 22),none,some (.str (n 197) 196),some (.str (n 197) 204),some (.builtin lI),some (.bool true)]) (sB 12 (aw (.none) (KP P)) (sB 3 (bT (.type bW) (KY P) 11) (tB (bv oT P) 43 11 1 0)))
def Hf(P:Params):List DictEntry:=(app (KY P) [er P 17 243 52])
def JF(P:Params):List Value:=(app (KP P) [.int 11 0,.int 0 0,.ref 48])
def II(P:Params):BT:=sB 39 (gd {name:=n 197,bases:=[.type fg],mro:=[.ref 39,.type fg,.type iu,.type cQ],ns:=38,qualname:=n 197,subclasses:=[.ref 52]} [some (.ref 22),none,some (.str (n 197) 196),some (.str (n 197) 204),some (.builtin lI),some (.bool true)]) (sB 12 (aw (.none) (JF P)) (sB 3 (bT (.type bW) (Hf P) 12) (tB (bv oT P) 55 11 1 0)))
def Km(P:Params):List DictEntry:=(app (Hf P) [er P 97 259 64])
def GZ(P:Params):List Value:=(app (JF P) [.int 13 0,.int 0 0,.ref 60])
def Hh(P:Params):BT:=sB 39 (gd {name:=n 197,bases:=[.type fg],mro:=[.ref 39,.type fg,.type iu,.type cQ],ns:=38,qualname:=n 197,subclasses:=[.ref 52,.ref 64]} [some (.ref 22),none,some (.str (n 197) 196),some (.str (n 197) 204),some (.builtin lI),some (.bool true)]) (sB 12 (aw (.none) (GZ P)) (sB 3 (bT (.type bW) (Km P) 13) (tB (bv oT P) 67 11 1 0)))
def Jh(P:Params):List DictEntry:=(app (Km P) [er P 29 275 76])
def HS(P:Params):List Value:=(app (GZ P) [.int 15 0,.int 0 0,.ref 72])
def K5(P:Params):BT:=sB 39 (gd {name:=n 197,bases:=[.type fg],mro:=[.ref 39,.type fg,.type iu,.type cQ],ns:=38,qualname:=n 197,subclasses:=[.ref 52,.ref 64,.ref 76]} [some (.ref 22),none,some (.str (n 197) 196),some (.str (n 197) 204),some (.builtin lI),some (.bool true)]) (sB 12 (aw (.none) (HS P)) (sB 3 (bT (.type bW) (Jh P) 14) (tB (bv oT P) 79 11 1 0)))
def HD(P:Params):List DictEntry:=(app (qb (Jh P) 0 (aU P (n 196) 165 (.str (n 243) 292))) [er P 142 291 88,er P 43 303 91,aU P (n 18) 305 (.str (n 225) 304),aU P (n 28) 307 (.int 10000 306),er P 12 318 98,er P 138 328 105,er P 26 336 112])
def JP(P:Params):List Value:=(app (HS P) [.int 17 0,.int 0 0,.ref 84,.int 23 0,.int 0 0,.ref 97,.int 34 0,.int 0 0,.ref 104,.int 40 0,.int 0 0,.ref 111])
def JV(P:Params):BT:=sB 12 (aw (.none) (JP P)) (sB 3 (bT (.type bW) (HD P) 21) (tB (bv oT P) 113 11 1 0))
def FK(P:Params):List DictEntry:=(app (HD P) [er P 48 420 165])
def G6(P:Params):List Value:=(app (JP P) [.int 46 0,.int 0 0,.ref 118])
def IX(P:Params):BT:=sB 12 (aw (.none) (G6 P)) (sB 3 (bT (.type bW) (FK P) 22) (tB (bv oT P) 170 11 1 0))
def F2(P:Params):List DictEntry:=(app (qb (FK P) 0 (aU P (n 196) 165 (.str (n 269) 451))) [er P 125 432 177,er P 49 438 182,er P 53 444 187,er P 127 450 192,er P 94 466 193,aU P (n 101) 468 (.int 30 467),er P 82 472 194,er P 79 475 196,er P 68 483 203,er P 93 491 210,er P 85 499 217])
def LV(P:Params):List Value:=(app (G6 P) [.int 117 0,.int 0 0,.ref 176,.int 119 0,.int 0 0,.ref 181,.int 127 0,.int 0 0,.ref 186,.int 136 0,.int 0 0,.ref 191,.int 159 0,.int 0 0,.ref 202,.int 161 0,.int 0 0,.ref 209,.int 164 0,.int 0 0,.ref 216])
def Gd(P:Params):BT:=sB 12 (aw (.none) (LV P)) (sB 3 (bT (.type bW) (F2 P) 33) (tB (bv oT P) 218 11 1 0))
def Fa(P:Params):List DictEntry:=(app (F2 P) [er P 83 532 234])
def Ga(P:Params):List Value:=(app (LV P) [.int 166 0,.int 0 0,.ref 223])
def Ke(P:Params):BT:=sB 12 (aw (.none) (Ga P)) (sB 3 (bT (.type bW) (Fa P) 34) (tB (bv oT P) 239 11 1 0))
def LT(P:Params):List DictEntry:=(app (Fa P) [er P 67 576 267])
def JR(P:Params):List Value:=(app (Ga P) [.int 172 0,.int 0 0,.ref 244])
def LU(P:Params):BT:=sB 12 (aw (.none) (JR P)) (sB 3 (bT (.type bW) (LT P) 35) (tB (bv oT P) 272 11 1 0))
def IE(P:Params):List DictEntry:=(app (LT P) [er P 119 800 400])
def Lp(P:Params):List Value:=(app (JR P) [.int 184 0,.int 0 0,.ref 277])
def ED(P:Params):BT:=sB 12 (aw (.none) (Lp P)) (sB 3 (bT (.type bW) (IE P) 36) (tB (bv oT P) 405 11 1 0))
def G5(P:Params):List DictEntry:=(app (qb (IE P) 0 (aU P (n 196) 165 (.str (n 291) 801))) [er P 134 844 423])
def K4(P:Params):List Value:=(app (Lp P) [.int 335 0,.int 0 0,.ref 410])
def Mm(P:Params):BT:=sB 12 (aw (.none) (K4 P)) (sB 3 (bT (.type bW) (G5 P) 37) (tB (bv oT P) 428 11 1 0))
def Hj(P:Params):List DictEntry:=(app (G5 P) [er P 135 887 444])
def Gf(P:Params):List Value:=(app (K4 P) [.int 345 0,.int 0 0,.ref 433])
def EK(P:Params):BT:=sB 12 (aw (.none) (Gf P)) (sB 3 (bT (.type bW) (Hj P) 38) (tB (bv oT P) 449 11 1 0))
def Lu(P:Params):List DictEntry:=(app (Hj P) [er P 120 934 473])
def Iz(P:Params):List Value:=(app (Gf P) [.int 356 0,.int 0 0,.ref 454])
def ET(P:Params):BT:=sB 12 (aw (.none) (Iz P)) (sB 3 (bT (.type bW) (Lu P) 39) (tB (bv oT P) 478 11 1 0))
def Gz(P:Params):List DictEntry:=(app (Lu P) [er P 117 987 506])
def I7(P:Params):List Value:=(app (Iz P) [.int 370 0,.int 0 0,.ref 483])
def Gm(P:Params):BT:=sB 12 (aw (.none) (I7 P)) (sB 3 (bT (.type bW) (Gz P) 40) (tB (bv oT P) 511 11 1 0))
def Fy(P:Params):List DictEntry:=(app (Gz P) [er P 173 1147 621])
def Jj(P:Params):List Value:=(app (I7 P) [.int 389 0,.int 0 0,.ref 516])
def Hu(P:Params):BT:=sB 12 (aw (.none) (Jj P)) (sB 3 (bT (.type bW) (Fy P) 41) (tB (bv oT P) 626 11 1 0))
def OI(P:Params):List DictEntry:=(app (qb (Fy P) 0 (aU P (n 196) 165 (.str (n 216) 1158))) [er P 141 1157 632,er P 191 1168 639,er P 152 1177 646,er P 192 1185 653,er P 174 1193 660,er P 157 1200 667,er P 161 1214 674,er P 194 1220 681,er P 162 1227 688,er P 177 1233 693,er P 186 1239 698,er P 187 1245 703,er P 188 1251 708])
def UA(P:Params):List Value:=(app (Jj P) [.int 469 0,.int 0 0,.ref 631,.int 482 0,.int 0 0,.ref 638,.int 486 0,.int 0 0,.ref 645,.int 493 0,.int 0 0,.ref 652,.int 495 0,.int 0 0,.ref 659,.int 504 0,.int 0 0,.ref 666,.int 506 0,.int 0 0,.ref 673,.int 520 0,.int 0 0,.ref 680,.int 522 0,.int 0 0,.ref 687,.int 524 0,.int 0 0,.ref 692,.int 535 0,.int 0 0,.ref 697,.int 569 0,.int 0 0,.ref 702,.int 574 0,.int 0 0,.ref 707])
def H7(P:Params):BT:=sB 12 (aw (.none) (UA P)) (sB 3 (bT (.type bW) (OI P) 54) (tB (bv oT P) 709 11 1 0))
def yC(P:Params):BT:=tB (bv oT P) 728 11 1 0
end
section
open PySem PySem.W PyProof.Rows
set_option maxHeartbeats 0
noncomputable def nO:Nat->Str:=jO ng sO
theorem ZF:nO=n:=Wo (by kernel_rfl)
noncomputable def fM:Env:={scope:=(PG n).main.scope,locals:=mainNs,globals:=mainNs,cells:=[],code:=.ref 13,frame:=some 14}
noncomputable def CD:Code:=.body (behindTheImports (PG n)) fM
noncomputable abbrev FR:List Frame:=[topFrame ⟨0,0,0,0⟩]
theorem p0:∀w:World,(λos=>fQ (PG n) w 11 (some (.ref 6)) 1 271 (SH wM 15 187 w os) (piecesOf (dS n) fM CD ⟨0,0,0,0⟩ FR))=λos=>some (Flow.next,SH EI 43 228 w os,CD,⟨5,0,10,24⟩):=λw=>by kernel_rfl
theorem p1:∀w:World,(λos=>fQ (PG n) w 11 (some (.ref 6)) 1 214 (SH EI 43 228 w os) (piecesOf (iy n) fM CD ⟨5,0,10,24⟩ FR))=λos=>some (Flow.next,SH II 55 244 w os,CD,⟨11,0,12,8⟩):=λw=>by kernel_rfl
theorem p2:∀w:World,(λos=>fQ (PG n) w 11 (some (.ref 6)) 1 214 (SH II 55 244 w os) (piecesOf (qr n) fM CD ⟨11,0,12,8⟩ FR))=λos=>some (Flow.next,SH Hh 67 260 w os,CD,⟨13,0,14,8⟩):=λw=>by kernel_rfl
theorem p3:∀w:World,(λos=>fQ (PG n) w 11 (some (.ref 6)) 1 214 (SH Hh 67 260 w os) (piecesOf (Cw n) fM CD ⟨13,0,14,8⟩ FR))=λos=>some (Flow.next,SH K5 79 276 w os,CD,⟨15,0,16,8⟩):=λw=>by kernel_rfl
theorem p4:∀w:World,(λos=>fQ (PG n) w 11 (some (.ref 6)) 1 355 (SH K5 79 276 w os) (piecesOf (qh n) fM CD ⟨15,0,16,8⟩ FR))=λos=>some (Flow.next,SH JV 113 337 w os,CD,⟨40,0,45,17⟩):=λw=>by kernel_rfl
theorem p5:∀w:World,(λos=>fQ (PG n) w 11 (some (.ref 6)) 1 416 (SH JV 113 337 w os) (piecesOf (Cc n) fM CD ⟨40,0,45,17⟩ FR))=λos=>some (Flow.next,SH IX 170 421 w os,CD,⟨46,0,116,77⟩):=λw=>by kernel_rfl
theorem p6:∀w:World,(λos=>fQ (PG n) w 11 (some (.ref 6)) 1 286 (SH IX 170 421 w os) (piecesOf (A6 n) fM CD ⟨46,0,116,77⟩ FR))=λos=>some (Flow.next,SH Gd 218 500 w os,CD,⟨164,0,165,76⟩):=λw=>by kernel_rfl
theorem p7:∀w:World,(λos=>fQ (PG n) w 11 (some (.ref 6)) 1 227 (SH Gd 218 500 w os) (piecesOf (CI n) fM CD ⟨164,0,165,76⟩ FR))=λos=>some (Flow.next,SH Ke 239 533 w os,CD,⟨166,0,171,24⟩):=λw=>by kernel_rfl
theorem p8:∀w:World,(λos=>fQ (PG n) w 11 (some (.ref 6)) 1 284 (SH Ke 239 533 w os) (piecesOf (AR n) fM CD ⟨166,0,171,24⟩ FR))=λos=>some (Flow.next,SH LU 272 577 w os,CD,⟨172,0,183,98⟩):=λw=>by kernel_rfl
theorem p9:∀w:World,(λos=>fQ (PG n) w 11 (some (.ref 6)) 1 802 (SH LU 272 577 w os) (piecesOf (Ak n) fM CD ⟨172,0,183,98⟩ FR))=λos=>some (Flow.next,SH ED 405 801 w os,CD,⟨184,0,333,16⟩):=λw=>by kernel_rfl
theorem jU:∀w:World,(λos=>fQ (PG n) w 11 (some (.ref 6)) 1 248 (SH ED 405 801 w os) (piecesOf (BB n) fM CD ⟨184,0,333,16⟩ FR))=λos=>some (Flow.next,SH Mm 428 845 w os,CD,⟨335,0,344,30⟩):=λw=>by kernel_rfl
theorem YO:∀w:World,(λos=>fQ (PG n) w 11 (some (.ref 6)) 1 237 (SH Mm 428 845 w os) (piecesOf (zM n) fM CD ⟨335,0,344,30⟩ FR))=λos=>some (Flow.next,SH EK 449 888 w os,CD,⟨345,0,355,32⟩):=λw=>by kernel_rfl
theorem UJ:∀w:World,(λos=>fQ (PG n) w 11 (some (.ref 6)) 1 266 (SH EK 449 888 w os) (piecesOf (zV n) fM CD ⟨345,0,355,32⟩ FR))=λos=>some (Flow.next,SH ET 478 935 w os,CD,⟨356,0,369,16⟩):=λw=>by kernel_rfl
theorem Wt:∀w:World,(λos=>fQ (PG n) w 11 (some (.ref 6)) 1 293 (SH ET 478 935 w os) (piecesOf (A5 n) fM CD ⟨356,0,369,16⟩ FR))=λos=>some (Flow.next,SH Gm 511 988 w os,CD,⟨370,0,388,108⟩):=λw=>by kernel_rfl
theorem SY:∀w:World,(λos=>fQ (PG n) w 11 (some (.ref 6)) 1 686 (SH Gm 511 988 w os) (piecesOf (y4 n) fM CD ⟨370,0,388,108⟩ FR))=λos=>some (Flow.next,SH Hu 626 1148 w os,CD,⟨389,0,468,17⟩):=λw=>by kernel_rfl
theorem N6:∀w:World,(λos=>fQ (PG n) w 11 (some (.ref 6)) 1 390 (SH Hu 626 1148 w os) (piecesOf (Bg n) fM CD ⟨389,0,468,17⟩ FR))=λos=>some (Flow.next,SH H7 709 1252 w os,CD,⟨574,0,579,80⟩):=λw=>by kernel_rfl
theorem Ut:∀w:World,(λos=>fQ (PG n) w 11 (some (.ref 6)) 1 94 (SH H7 709 1252 w os) (piecesOf (y9 n) fM CD ⟨574,0,579,80⟩ FR))=λos=>some (Flow.next,SH yC 728 1281 w os,CD,⟨605,0,623,79⟩):=λw=>by kernel_rfl
theorem bE:behindTheImports (PG n)=dS n++(iy n++(qr n++(Cw n++(qh n++(Cc n++(A6 n++(CI n++(AR n++(Ak n++(BB n++(zM n++(zV n++(A5 n++(y4 n++(Bg n++(y9 n++([]))))))))))))))))):=by kernel_rfl
noncomputable def HF(P:Params):Heap:=absHeap (yC P) 728 {}
theorem pre:∀w:World,(λos=>Co (PG n) w 11 (some (.ref 6)) 12 ⟨boot_heap w.params,#[],boot_drawn,boot_toks,os⟩ (topStub (PG n)))=λos=>some ((SH wM 15 187 w os).abs,⟨BU CD,CD,⟨0,0,0,0⟩,FR⟩):=λw=>by kernel_rfl
theorem Qh:∀w:World,(λos=>B9 (PG n) w 11 (some (.ref 6)) 1 1 (SH wM 15 187 w os).abs (blockOf (behindTheImports (PG n)) fM CD ⟨0,0,0,0⟩ FR))=λos=>some (Flow.next,(SH wM 15 187 w os).abs,CD,⟨0,0,0,0⟩):=λw=>by kernel_rfl
theorem fm:∀w:World,(λos=>G2 (PG n) w 11 (some (.ref 6)) 2 (SH yC 728 1281 w os).abs ⟨doneF .next,CD,⟨605,0,623,79⟩,FR⟩)=λos=>some (⟨HF w.params,#[],{},1281,os⟩:Shared):=λw=>by kernel_rfl
theorem cj:∀(w:World) (os:OsState),topRun treeTable (PG n) w 11 (some (.ref 6)) (12+(1+(271+(214+(214+(214+(355+(416+(286+(227+(284+(802+(248+(237+(266+(293+(686+(390+(94+2))))))))))))))))))) ⟨boot_heap w.params,#[],boot_drawn,boot_toks,os⟩ (topStub (PG n))=some ⟨HF w.params,#[],{},1281,os⟩:=
 λw os=>W8 (dK (pre w) os) (Xc (dK (Qh w) os) (QI bE (gw (dK (p0 w) os) (gw (dK (p1 w) os) (gw (dK (p2 w) os) (gw (dK (p3 w) os) (gw (dK (p4 w) os) (gw (dK (p5 w) os) (gw (dK (p6 w) os) (gw (dK (p7 w) os) (gw (dK (p8 w) os) (gw (dK (p9 w) os) (gw (dK (jU w) os) (gw (dK (YO w) os) (gw (dK (UJ w) os) (gw (dK (Wt w) os) (gw (dK (SY w) os) (gw (dK (N6 w) os) (gw (dK (Ut w) os) (piece_nil (PU▸dK (fm w) os)))))))))))))))))))))
noncomputable def LG(n:Nat->Str):OpenLaw:={prog:=PG n,name:=n 212,about:=[n 173,n 184],foot:=15,most:=some 63,bound:=none,writes:=false}
theorem UU:PySem.Challenge.rw_xw0182_01=LG nO:=by kernel_rfl
theorem YV:PySem.Challenge.rw_xw0182_01=LG n:=ZF▸UU
noncomputable def QG:Program:=F6 n [gD n mO] [(102,0),(196,0),(197,0),(5,3),(17,0),(97,0),(29,0),(142,0),(43,0),(18,0),(28,0),(12,0),(138,0),(26,0),(48,0),(125,0),(49,0),(53,0),(127,0),(94,0),(101,0),(82,0),(79,0),(68,0),(93,0),(85,0),(83,0),(67,0),(119,0),(134,0),(135,0),(120,0),(117,0),(173,0),(141,0),(191,0),(152,0),(192,0),(174,0),(157,0),(161,0),(194,0),(162,0),(177,0),(186,0),(187,0),(188,0),(190,0),(189,0),(212,0)] 213
noncomputable def LS:List Str:=aZ n [102,197,17,97,29,142,43,18,28,12,138,26,48,125,49,53,127,94,101,82,79,68,93,85,83,67,119,134,135,120,117,173,141,191,152,192,174,157,161,194,162,177,186,187,188,190,189]
theorem XR:(LG n).wellSaid=true:=(dK PySem.W.Fast.te9446332074065402090 (LG n)).trans (by kernel_rfl)
theorem NW:∀w:World,((boot_heap w.params).isNs mainGlobals&&(#[]:Array GenState).size==0,(boot_heap w.params).objs.size,(boot_heap w.params).nsMap mainGlobals "__annotations__")=(true,11,some (.ref 6)):=λw=>by kernel_rfl
theorem YN:opening (PG n)=plainProg (PG n).main.scope.names:=by kernel_rfl
theorem Yx:∀w:World,(λos:OsState=>staticsOk (PySem.W.Fast.tw5923862056798008813 (PG n).main.body) (boot_heap w.params) (HF w.params)&&namesBound (PG n) (HF w.params)&&gensDone ⟨HF w.params,#[],{},1281,os⟩&&laidKept (boot_heap w.params) (HF w.params))=λ_=>true:=λw=>by kernel_rfl
theorem XG:∀w:World,(λos:OsState=>PySem.W.Fast.tw4187177175401517315 QG LS (PySem.W.Fast.tw5923862056798008813 (PG n).main.body) (λ_=>true) true ⟨HF w.params,#[],{},1281,os⟩)=λ_=>openGood QG LS:=λw=>by kernel_rfl
theorem QJ:∀w:World,(λos=>((staticsOk (importedModules (PG n).main.body) (boot_heap w.params) (HF w.params)&&namesBound (PG n) (HF w.params)&&gensDone ⟨HF w.params,#[],{},1281,os⟩&&laidKept (boot_heap w.params) (HF w.params)),
 openSeen QG LS (importedModules (PG n).main.body) (λ_=>true) true ⟨HF w.params,#[],{},1281,os⟩,(⟨HF w.params,#[],{},1281,os⟩:Shared).heap))=λ_=>(true,openGood QG LS,HF w.params):=λw=>funext λos=>by
 rw[PySem.W.Fast.te5923862056798008813,PySem.W.Fast.te4187177175401517315]
 exact Prod.ext (dK (Yx w) os) (Prod.ext (dK (XG w) os) rfl)
theorem R1:∀s,fenceModules? (PG n) s=some s:=λs=>by kernel_rfl
theorem left:LeftO (PG n) QG LS (λ_=>true) (λs=>s.heap) (λw=>HF w.params) 11124 true:=
 LeftO.of_pieces (boot_open YN (by decide) R1) NW cj (by kernel_rfl) QJ
noncomputable def LD:DefRec:={name:=n 212,params:=gA n mO,body:=cU n ma.body,scope:=gS n mO,pos:=aE 605000623079}
noncomputable def Cg(w:World)(h:Heap):Prop:=∀b o,(HF w.params).get? b=some o->h.get? b=some o
theorem head(call:WalkO QG LS (λ_ _=>True) Cg (LG n).row.toRowW LD [] (λf vs=>PySem.call f vs)):PySem.Challenge.rw_xw0182_01.Holds:=by
 rw[YV]
 exact holds_law XR λk1=>holds_open (r:=(LG n).row) (q:=QG) (loose:=LS) (Xt:=λ_=>true) (XP:=λ_ _=>True) (Yf:=λs=>s.heap) (Ya:=λw=>HF w.params) (YP:=Cg) (N:=11124) left (λw s e b o h=>e▸h) (λw h h' y k b o e=>k b o (y b o e))
  (λ_ _=>trivial) (λ_ _ _ _ _=>trivial) (by kernel_rfl) (by kernel_rfl) (by kernel_rfl) (λ_ _=>recFacts_nil rfl) (by kernel_rfl) k1 (by kernel_rfl) ⟨rfl,rfl,rfl,rfl,rfl,by decide+kernel⟩ ⟨[.list []],by decide+kernel,by decide+kernel⟩ call
def iM:List Nat:=[21,36,98,105,112,126,131,138,143,150,157,162,177,182,187,192,203,210,217,231,252,259,264,285,292,299,304,311,318,325,333,340,347,354,361,368,376,383,390,397,420,441,463,470,491,496,503,524,531,538,545,552,557,562,569,576,583,590,597,604,611,618,632,639,646,653,660,667,674,681,688,693,698,703,708,715,722,727]
def ci:List Nat:=[39,52,64,76,88,165,234,267,400,423,444,473,506,621]
def pD:List (Nat×Nat):=[(697,695),(702,700),(707,705)]
def ew:List Nat:=[695,700,705]
def z9:List Nat:=[39,52,64,76,88,165,234,267,400,423,444,473,506,621,38,51,63,75,87,164,233,266,399,422,443,472,505,620,21,36,98,105,112,126,131,138,143,150,157,162,177,182,187,192,203,210,217,231,252,259,264,285,292,299,304,311,318,325,333,340,347,354,361,368,376,383,390,397,420,441,463,470,491,496,503,524,531,538,545,552,557,562,569,576,583,590,597,604,611,618,632,639,646,653,660,667,674,681,688,693,698,703,708,715,722,727]
def KF(P:Params):Frag:=aZ (λa=>(a,bv oT P a)) z9
def FH(a:Nat):Str:=Option.rec (n 0) (λs=>aW s) (au [(697,[95,108,97,119,95,116,97,107,101,110,95,114,105,103,104,116,46,60,108,111,99,97,108,115,62,46,60,108,97,109,98,100,97,62]),(702,[95,108,97,119,95,97,108,111,110,101,95,114,105,103,104,116,46,60,108,111,99,97,108,115,62,46,60,108,97,109,98,100,97,62]),(707,[95,108,97,119,95,112,97,114,97,109,115,95,114,105,103,104,116,46,60,108,111,99,97,108,115,62,46,60,108,97,109,98,100,97,62])] a)
def v0:cc:=GT (λ_=>([0],[1])) (λ_=>.nil) (λ_=>0) (λ_=>.nil) (λ_=>[]) (λ_=>rfl) (λ_=>⟨rfl,rfl⟩) (λ_=>rfl) (λ_ _ h=>nomatch h)
def c0(w:World)(H:Heap):Cx:={prog:=PG n,w:=w,base:=jR ew H,T:=TB,mc:=MC,nm:=n,fnA:=bL iM,clA:=bL ci,biV:=λk=>aa (Nat.blt k 14) (h9 k) .none,tabs:=pD,tq:=FH,ρ:=v0.ρ,seg:=v0.seg,ρe:=v0.ρe,ρd:=v0.ρd,ρt:=v0.ρt,ρz:=v0.ρz}
def cA(O:Nat->List V->HT->Option (Nat×R0)):Tb:={TB with O:=O}
theorem Il:∀P,aZ (λa=>(yC P).get a) (co 0 728)=aZ (λa=>some (bv oT P a)) (co 0 728):=λP=>by kernel_rfl
theorem FU:∀P,aZ (λa=>(bv oT P a).isFreed) (co 0 728)=aZ (λ_=>false) (co 0 728):=λP=>by kernel_rfl
abbrev bu(P:Params)(H:Heap):Prop:=∀b o,(HF P).get? b=some o->H.get? b=some o
theorem eU{P:Params}{H:Heap}(Y:bu P H){a:Nat}(h:aa (Nat.blt a 728) (eN a ew) true=false):(jR ew H).get? a=some (bv oT P a):=by
 have lt:Nat.blt a 728=true:=by cases e:Nat.blt a 728 with|true=>rfl|false=>rw[e] at h;exact tf h
 rw[lt] at h
 have m:a∈co 0 728:=nk (n:=a) (by rw[jc,aG (cH lt),dY])
 exact(qz λq=>tf ((lL.mpr q).symm.trans (show eN a ew=false from h))).trans (Y _ _ (IH (bR (Il P) a m) (cH lt) (bR (FU P) a m)))
theorem ON:aZ (λa=>aa (Nat.blt a 728) (eN a ew) true) z9=aZ (λ_=>false) z9:=by kernel_rfl
theorem TL{P:Params}{H:Heap}(Y:bu P H):(KF P).In (jR ew H):=λa o e=>by
 obtain⟨h1,h2⟩:=VS e
 exact h2▸eU Y (bR ON a h1)
abbrev cX(w:World)(H:Heap)(O:Nat->List V->HT->Option (Nat×R0))(b:Nat->Value)(v:cc):Cx:=(c0 w H).vw (cA O) b v
theorem WZ:AQ ((iX ng).map (·.2))=true:=by kernel_rfl
theorem Zi:zD (iX ng)=true:=by kernel_rfl
theorem Pu(i j:Nat)(h:n i=n j):i=j:=ZG WZ Zi i j h
theorem PK(i:Nat):(n i==("__debug__" :Str))=false:=beq_false_of_ne λe=>Al (t:=ng) (s:=[95,95,100,101,98,117,103,95,95]) (by kernel_rfl) (by kernel_rfl) i (e.trans (by kernel_rfl))
theorem Rk(i:Nat):(n i==("__classdict__" :Str))=false:=beq_false_of_ne λe=>Al (t:=ng) (s:=[95,95,99,108,97,115,115,100,105,99,116,95,95]) (by kernel_rfl) (by kernel_rfl) i (e.trans (by kernel_rfl))
theorem Aj(i:Nat):(n i==("super" :Str))=false:=beq_false_of_ne λe=>Al (t:=ng) (s:=[115,117,112,101,114]) (by kernel_rfl) (by kernel_rfl) i (e.trans (by kernel_rfl))
section
variable{w:World}{H:Heap}{O:Nat->List V->HT->Option (Nat×R0)}{b:Nat->Value}{v:cc}
def DW(l:List (Option Cl)):Nat->List (Nat×Cl):=List.rec (motive:=λ_=>Nat->List (Nat×Cl)) (λ_=>[]) (λo _ ih k=>Option.rec (ih (Nat.succ k)) (λc=>(k,c)::ih (Nat.succ k)) o) l
theorem KM{c:Cl}:∀(l:List (Option Cl)) (k i:Nat),aj l i=some (some c)->(k+i,c)∈DW l k
 |[],_,_,h=>ns h
 |o::r,k,0,h=>by obtain rfl:=af h;exact .head _
 |o::r,k,i+1,h=>by
  have:=KM r (Nat.succ k) i h
  rw[show Nat.succ k+i=k+(i+1) by omega] at this
  cases o with
  |none=>exact this
  |some=>exact .tail _ this
def jX:List (Nat×Cl):=DW CA 0
def By(m:Nat):List Nat:=List.rec [] (λa _ ih=>aa (lS m a) (a::ih) ih) (co 0 200)
theorem Xz:∀P,aZ (λq:Nat×Cl=>(plainGet (KF P) (bL ci q.1) "",hasDictIn (KF P) (bL ci q.1),plainOver (KF P) (bL ci q.1),keepIn (KF P) (.ref (bL ci q.1)),makesIn (KF P) (bL ci q.1))) jX=aZ (λ_=>(true,true,true,true,true)) jX:=λP=>by kernel_rfl
theorem US:∀P,aZ (λq:Nat×Cl=>(findIn (KF P) (.ref (bL ci q.1)) "__setattr__",findIn (KF P) (.ref (bL ci q.1)) "__init__",typeIn (KF P) (.ref (bL iM q.2.init)))) jX=aZ (λq=>(some (some (.builtin "object.__setattr__")),some (some (.ref (bL iM q.2.init))),some (.type "function"))) jX:=λP=>by kernel_rfl
theorem Pv:∀P,aZ (λq:Nat×Cl=>aZ (λa=>findIn (KF P) (.ref (bL ci q.1)) (n a)) (By q.2.am)) jX=aZ (λq=>aZ (λ_=>some none) (By q.2.am)) jX:=λP=>by kernel_rfl
theorem Ue:aZ (λq:Nat×Cl=>Mr q.2.am (By q.2.am)) jX=aZ (λ_=>true) jX:=by kernel_rfl
theorem Yh:∀P,aZ (λq:Nat×Cl=>aZ (λr:Nat×Nat=>(findIn (KF P) (.ref (bL ci q.1)) (n r.1),typeIn (KF P) (.ref (bL iM r.2)))) q.2.meth) jX=aZ (λq=>aZ (λr=>(some (some (.ref (bL iM r.2))),some (.type "function"))) q.2.meth) jX:=λP=>by kernel_rfl
theorem rh{k:Nat}{cl:Cl}(h:(cA O).cls k=some cl):sx (cX w H O b v) (KF w.params) k cl:=by
 have q:(k,cl)∈jX:=by have:=KM CA 0 k (Qz h);rwa [dY] at this
 have h:=bR (Xz w.params) _ q
 have s:=bR (US w.params) _ q
 have m:∀x f,au cl.meth x=some f->_:=λx f e=>bR (bR (Yh w.params) _ q) (x,f) (o6 e)
 exact⟨aq (·.1) h,aq (·.2.1) h,aq (·.1) s,aq (·.2.2.1) h,aq (·.2.2.2.1) h,aq (·.2.2.2.2) h,aq (·.2.1) s,λx hb=>bR (bR (Pv w.params) _ q) x (RY (bR Ue _ q) hb),λx f e=>aq Prod.fst (m x f e),aq (·.2.2) s,λx f e=>aq Prod.snd (m x f e)⟩
theorem YA:∀P,aZ (λa=>keepIn (KF P) (.ref a)) iM=aZ (λ_=>true) iM:=λP=>by kernel_rfl
def gL:List Dn:=[g0,g1,g2,g3,g4,g5,g6,g7,g8,g9,sd,uc,re,sj,u5,uA,uD,tz,tO,tZ,tS,sW,si,ue,uH,u0,tx,sR,vq,tw,rD,rZ,sU,sq,ux,vg,qC,uy,uE,uw,qw,tj,qg,uC,vf,tF,to,vo,uN,uO,sr,vi,ub,sH,vk,u9,tu,sK,tE,tY,sN,ve,vc,tG,tX,tR,uk,uB,sE,sQ,sA,tU,oP,pL,pq,tN,r6,mO]
def RL:List (Nat×Dn):=rX (co 0 78) gL
def lV(r:Nat×Dn):Nat:=Nat.sub (bL iM r.1) 1
def HJ(a:Nat):Bool:=aa (Nat.blt a 728) (eN a ew) true
def zT(o:Obj):Option Value:=match o.data with|.fields vs=>vs[1]? |_=>none
def z8(v:Option Value):Option Str:=match v with|some (.str s _)=>some s|_=>none
def yA(r:Nat×Dn):Bool:=match r.2.df with|.none=>List.rec true (λ_ _ _=>false) r.2.f.df|_=>false
theorem V5{o:Obj}{s:Str}(h:z8 (zT o)=some s):∃vs t,o.data=.fields vs/\vs[1]?=some (.str s t):=by
 unfold zT at h
 cases e:o.data with
 |fields vs=>
  rw[e] at h
  have h:z8 vs[1]?=some s:=h
  cases q:vs[1]? with
  |none=>rw[q] at h;exact ns h
  |some v=>
   rw[q] at h
   cases v with
   |str s' t=>obtain rfl:=af h;exact⟨vs,t,rfl,q⟩
   |_=>exact ns h
 |_=>rw[e] at h;exact ns h
theorem P6:aZ (λr:Nat×Dn=>aj gL r.1) RL=aZ (λr=>some r.2) RL:=by kernel_rfl
theorem S9:iX uG=aZ (λr:Nat×Dn=>(r.1,r.2.f)) RL:=by kernel_rfl
theorem Wh:∀P,aZ (λr:Nat×Dn=>bv oT P (bL iM r.1)) RL=aZ (λr=>o1 r.2 (lV r)) RL:=λP=>by kernel_rfl
theorem TW:∀P,aZ (λr:Nat×Dn=>z8 (zT (bv oT P (lV r)))) RL=aZ (λr=>some (n r.2.y)) RL:=λP=>by kernel_rfl
theorem OX:aZ (λr:Nat×Dn=>(HJ (bL iM r.1),HJ (lV r))) RL=aZ (λ_=>(false,false)) RL:=by kernel_rfl
theorem VJ:aZ (λr:Nat×Dn=>Hi r.2.f (aZ (H8 r.2.p) r.2.ar)) RL=aZ (λ_=>true) RL:=by kernel_rfl
theorem Ta:aZ (λr:Nat×Dn=>aa (eN r.1 [1,12,30,36,40,42]) true (yA r)) RL=aZ (λ_=>true) RL:=by kernel_rfl
theorem ND:aZ (λr:Nat×Dn=>aa (eN r.1 [72,73,74]) true (aa r.2.f.lm false true)) RL=aZ (λ_=>true) RL:=by kernel_rfl
theorem mj{k:Nat}{g g':Dn}(h:(k,g)∈RL)(e:aj gL k=some g'):g=g':=af ((bR P6 _ h).symm.trans e)
theorem Uh(Y:bu w.params H):∀r∈RL,∃od,l4 (cX w H O b v) r.2.df r.2.f.df od:=λ⟨k,g⟩ h=>by
 have e:=bR Ta _ h
 cases m:eN k [1,12,30,36,40,42] with
 |false=>
  have e:yA (k,g)=true:=by have e:aa (eN k [1,12,30,36,40,42]) true (yA (k,g))=true:=e;rw[m] at e;exact e
  unfold yA at e
  cases q:g.df with
  |none=>
   have e:(match g.df with|.none=>List.rec true (λ_ _ _=>false) g.f.df|_=>false:Bool)=true:=e
   rw[q] at e
   show ∃od,l4 (cX w H O b v) .none g.f.df od
   cases z:g.f.df with
   |nil=>exact⟨_,.none⟩
   |cons=>have e:(List.rec true (λ_ _ _=>false) g.f.df:Bool)=true:=e;rw[z] at e;exact ft e
  |_=>have e:(match g.df with|.none=>List.rec true (λ_ _ _=>false) g.f.df|_=>false:Bool)=true:=e;rw[q] at e;exact ft e
 |true=>
  have m:=lL.mp m
  simp only[List.mem_cons,List.not_mem_nil,or_false] at m
  rcases m with rfl|rfl|rfl|rfl|rfl|rfl
  · obtain rfl:=mj h (g':=g1) rfl;exact⟨_,.tup ((eU Y (a:=29) (by kernel_rfl)).trans (aq some (by kernel_rfl:bv oT w.params 29=ak [.int 0 208]))) λX μ h hX st=>.cons (⟨_,rfl⟩) (.nil)⟩
  · obtain rfl:=mj h (g':=re) rfl;exact⟨_,.tup ((eU Y (a:=170) (by kernel_rfl)).trans (aq some (by kernel_rfl:bv oT w.params 170=ak [.none]))) λX μ h hX st=>.cons (rfl) (.nil)⟩
  · obtain rfl:=mj h (g':=rD) rfl;exact⟨_,.tup ((eU Y (a:=326) (by kernel_rfl)).trans (aq some (by kernel_rfl:bv oT w.params 326=ak [.int 0 670]))) λX μ h hX st=>.cons (⟨_,rfl⟩) (.nil)⟩
  · obtain rfl:=mj h (g':=qC) rfl;exact⟨_,.tup ((eU Y (a:=369) (by kernel_rfl)).trans (aq some (by kernel_rfl:bv oT w.params 369=ak [.int 0 753]))) λX μ h hX st=>.cons (⟨_,rfl⟩) (.nil)⟩
  · obtain rfl:=mj h (g':=qw) rfl;exact⟨_,.tup ((eU Y (a:=413) (by kernel_rfl)).trans (aq some (by kernel_rfl:bv oT w.params 413=ak [.str (n 292) 815,.ref 412]))) λX μ h hX st=>.cons (⟨815,by kernel_rfl⟩) (.cons (tV rfl ((eU Y (a:=412) (by kernel_rfl)).trans (aq some (by kernel_rfl:bv oT w.params 412=ak []))) hX st .nil) (.nil))⟩
  · obtain rfl:=mj h (g':=qg) rfl;exact⟨_,.tup ((eU Y (a:=456) (by kernel_rfl)).trans (aq some (by kernel_rfl:bv oT w.params 456=ak [.none]))) λX μ h hX st=>.cons (rfl) (.nil)⟩
theorem V4:∀r∈RL,r.2.f.lm=true->∃P,(lV r,P)∈pD/\n r.2.y++ ".<locals>." ++ "<lambda>" =FH (lV r):=λ⟨k,g⟩ h q=>by
 have e:=bR ND _ h
 cases m:eN k [72,73,74] with
 |false=>have e:aa (eN k [72,73,74]) true (aa g.f.lm false true)=true:=e;have q:g.f.lm=true:=q;rw[m,q] at e;exact ft e
 |true=>
  have m:=lL.mp m
  simp only[List.mem_cons,List.not_mem_nil,or_false] at m
  rcases m with rfl|rfl|rfl
  · obtain rfl:=mj h (g':=oP) rfl;rw[(by kernel_rfl:lV (72,oP)=697)];exact⟨695,.head _,by kernel_rfl⟩
  · obtain rfl:=mj h (g':=pL) rfl;rw[(by kernel_rfl:lV (73,pL)=702)];exact⟨700,.tail _ (.head _),by kernel_rfl⟩
  · obtain rfl:=mj h (g':=pq) rfl;rw[(by kernel_rfl:lV (74,pq)=707)];exact⟨705,.tail _ (.tail _ (.head _)),by kernel_rfl⟩
theorem U4(Y:bu w.params H){k:Nat}{f:Fn}(h:dq uG k=some f):B6 (cX w H O b v) k f:=by
 have m:=Ci uG h
 rw[S9,Am] at m
 obtain⟨r,hr,e⟩:=List.mem_map.mp m
 obtain⟨rfl,rfl⟩:=Prod.mk.inj e
 obtain⟨vs,t,h3,h4⟩:=V5 (bR (TW w.params) r hr)
 obtain⟨a1,a2⟩:=Prod.mk.inj (bR OX r hr)
 obtain⟨od,hd⟩:=Uh (O:=O) (b:=b) (v:=v) Y r hr
 exact U6 (c:=cX w H O b v) (a:=bL iM r.1) (cd:=lV r) rfl ((eU Y a1).trans (aq some (bR (Wh w.params) r hr))) (eU Y a2) h3 h4 hd (bR VJ r hr) (V4 r hr)
def fh(P:Params):List DictEntry:=match (bv oT P 3).data with|.dict ⟨l⟩ _=>l|_=>[]
def iI(P:Params):List DictEntry:=match (bv oT P 0).data with|.dict ⟨l⟩ _=>l|_=>[]
def wO(P:Params):List DictEntry:=match (bv oT P 2).data with|.dict ⟨l⟩ _=>l|_=>[]
theorem Qn:∀P,um (fh P)=true:=λP=>by kernel_rfl
theorem Zn:∀P,um (iI P)=true:=λP=>by kernel_rfl
theorem Qd:∀P,um (wO P)=true:=λP=>by kernel_rfl
def AJ(o:Obj):Nat:=match o.data with|.dict _ e=>e|_=>0
theorem SM:∀P,(bv oT P 3).data=.dict ⟨fh P⟩ (AJ (bv oT P 3)):=λP=>by kernel_rfl
theorem YH:∀P,(bv oT P 0).data=.dict ⟨iI P⟩ (AJ (bv oT P 0)):=λP=>by kernel_rfl
theorem Se:∀P,(bv oT P 2).data=.dict ⟨wO P⟩ (AJ (bv oT P 2)):=λP=>by kernel_rfl
theorem zw{P:Params}{H:Heap}(Y:bu P H):(jR ew H).Ns mainGlobals (nsFind ⟨fh P⟩):=CE (eU Y (by kernel_rfl)) (SM P) (Qn P)
theorem Jz{P:Params}{H:Heap}(Y:bu P H):(jR ew H).Ns builtinsNs (nsFind ⟨iI P⟩):=CE (eU Y (by kernel_rfl)) (YH P) (Zn P)
theorem P5{P:Params}{H:Heap}(Y:bu P H):(jR ew H).Ns cStatics (nsFind ⟨wO P⟩):=CE (eU Y (by kernel_rfl)) (Se P) (Qd P)
theorem An:∀P,nsFind ⟨wO P⟩ "sys.recursionlimit" =none:=λP=>by kernel_rfl
theorem UD:∀P,nsFind ⟨fh P⟩ (n 18)=some (.str (n 225) 304):=λP=>by kernel_rfl
theorem WC(Y:bu w.params H)(hb:gr (c0 w H) b):mH (cX w H O b v) (nsFind ⟨fh w.params⟩) (nsFind ⟨iI w.params⟩) 18 (.str [39,115,116,97,116,105,99]):=⟨⟨.str (n 225) 304,.inl (UD w.params),λX μ h hX st=>⟨304,by kernel_rfl⟩⟩⟩
theorem Te:∀P,nsFind ⟨fh P⟩ (n 43)=some (.ref 91):=λP=>by kernel_rfl
theorem VT(Y:bu w.params H)(hb:gr (c0 w H) b):mH (cX w H O b v) (nsFind ⟨fh w.params⟩) (nsFind ⟨iI w.params⟩) 43 (.cons (.str [105,56]) (.cons (.str [105,49,54]) (.cons (.str [105,51,50]) (.cons (.str [105,54,52]) (.cons (.str [117,56]) (.cons (.str [117,49,54]) (.cons (.str [117,51,50]) (.cons (.str [117,54,52]) (.cons (.str [117,115,105,122,101]) (.nil)))))))))):=⟨⟨.ref 91,.inl (Te w.params),λX μ h hX st=>tV rfl ((eU Y (a:=91) (by kernel_rfl)).trans (aq some (by kernel_rfl:bv oT w.params 91=ak [.str (n 235) 294,.str (n 236) 295,.str (n 237) 296,.str (n 238) 297,.str (n 156) 298,.str (n 239) 299,.str (n 240) 300,.str (n 241) 301,.str (n 242) 302]))) hX st (.cons (⟨294,by kernel_rfl⟩) (.cons (⟨295,by kernel_rfl⟩) (.cons (⟨296,by kernel_rfl⟩) (.cons (⟨297,by kernel_rfl⟩) (.cons (⟨298,by kernel_rfl⟩) (.cons (⟨299,by kernel_rfl⟩) (.cons (⟨300,by kernel_rfl⟩) (.cons (⟨301,by kernel_rfl⟩) (.cons (⟨302,by kernel_rfl⟩) (.nil))))))))))⟩⟩
theorem V1:∀P,nsFind ⟨fh P⟩ (n 28)=some (.int 10000 306):=λP=>by kernel_rfl
theorem Wm(Y:bu w.params H)(hb:gr (c0 w H) b):mH (cX w H O b v) (nsFind ⟨fh w.params⟩) (nsFind ⟨iI w.params⟩) 28 (.int 10000):=⟨⟨.int 10000 306,.inl (V1 w.params),λX μ h hX st=>⟨306,rfl⟩⟩⟩
theorem W4:∀P,nsFind ⟨fh P⟩ (n 79)=some (.ref 196):=λP=>by kernel_rfl
theorem OA(Y:bu w.params H)(hb:gr (c0 w H) b):mH (cX w H O b v) (nsFind ⟨fh w.params⟩) (nsFind ⟨iI w.params⟩) 79 (.cons (.str [105,56]) (.cons (.str [105,49,54]) (.cons (.str [105,51,50]) (.cons (.str [105,54,52]) (.cons (.str [117,56]) (.cons (.str [117,49,54]) (.cons (.str [117,51,50]) (.cons (.str [117,54,52]) (.cons (.str [117,115,105,122,101]) (.cons (.str [98,111,111,108]) (.cons (.str [66,111,120]) (.nil)))))))))))):=⟨⟨.ref 196,.inl (W4 w.params),λX μ h hX st=>tV rfl ((eU Y (a:=196) (by kernel_rfl)).trans (aq some (by kernel_rfl:bv oT w.params 196=ak [.str (n 235) 294,.str (n 236) 295,.str (n 237) 296,.str (n 238) 297,.str (n 156) 298,.str (n 239) 299,.str (n 240) 300,.str (n 241) 301,.str (n 242) 302,.str (n 267) 473,.str (n 268) 474]))) hX st (.cons (⟨294,by kernel_rfl⟩) (.cons (⟨295,by kernel_rfl⟩) (.cons (⟨296,by kernel_rfl⟩) (.cons (⟨297,by kernel_rfl⟩) (.cons (⟨298,by kernel_rfl⟩) (.cons (⟨299,by kernel_rfl⟩) (.cons (⟨300,by kernel_rfl⟩) (.cons (⟨301,by kernel_rfl⟩) (.cons (⟨302,by kernel_rfl⟩) (.cons (⟨473,by kernel_rfl⟩) (.cons (⟨474,by kernel_rfl⟩) (.nil))))))))))))⟩⟩
theorem X5:∀P,nsFind ⟨fh P⟩ (n 82)=some (.ref 194):=λP=>by kernel_rfl
theorem Zf(Y:bu w.params H)(hb:gr (c0 w H) b):mH (cX w H O b v) (nsFind ⟨fh w.params⟩) (nsFind ⟨iI w.params⟩) 82 (.cons (.str [99,114,97,116,101]) (.cons (.str [115,101,108,102]) (.cons (.str [115,117,112,101,114]) (.nil)))):=⟨⟨.ref 194,.inl (X5 w.params),λX μ h hX st=>tV rfl ((eU Y (a:=194) (by kernel_rfl)).trans (aq some (by kernel_rfl:bv oT w.params 194=ak [.str (n 265) 469,.str (n 4) 470,.str (aW [115,117,112,101,114]) 471]))) hX st (.cons (⟨469,by kernel_rfl⟩) (.cons (⟨470,by kernel_rfl⟩) (.cons (⟨471,by kernel_rfl⟩) (.nil))))⟩⟩
theorem PO:∀P,nsFind ⟨fh P⟩ (n 101)=some (.int 30 467):=λP=>by kernel_rfl
theorem Ty(Y:bu w.params H)(hb:gr (c0 w H) b):mH (cX w H O b v) (nsFind ⟨fh w.params⟩) (nsFind ⟨iI w.params⟩) 101 (.int 30):=⟨⟨.int 30 467,.inl (PO w.params),λX μ h hX st=>⟨467,rfl⟩⟩⟩
theorem PP:∀P,nsFind ⟨fh P⟩ (n 94)=some (.ref 193):=λP=>by kernel_rfl
theorem Zp(Y:bu w.params H)(hb:gr (c0 w H) b):mH (cX w H O b v) (nsFind ⟨fh w.params⟩) (nsFind ⟨iI w.params⟩) 94 (.cons (.str [67,108,111,110,101]) (.cons (.str [67,111,112,121]) (.cons (.str [68,101,102,97,117,108,116]) (.cons (.str [68,114,111,112]) (.cons (.str [69,114,114]) (.cons (.str [78,111,110,101]) (.cons (.str [79,107]) (.cons (.str [79,112,116,105,111,110]) (.cons (.str [82,97,110,103,101,56]) (.cons (.str [82,101,115,117,108,116]) (.cons (.str [83,111,109,101]) (.cons (.str [86,101,99,56]) (.cons (.str [115,119,97,112,112,101,100]) (.nil)))))))))))))):=⟨⟨.ref 193,.inl (PP w.params),λX μ h hX st=>tV rfl ((eU Y (a:=193) (by kernel_rfl)).trans (aq some (by kernel_rfl:bv oT w.params 193=ak [.str (n 252) 453,.str (n 253) 454,.str (n 254) 455,.str (n 255) 456,.str (n 256) 457,.str (n 257) 458,.str (n 258) 459,.str (n 259) 460,.str (n 260) 461,.str (n 261) 462,.str (n 262) 463,.str (n 263) 464,.str (n 264) 465]))) hX st (.cons (⟨453,by kernel_rfl⟩) (.cons (⟨454,by kernel_rfl⟩) (.cons (⟨455,by kernel_rfl⟩) (.cons (⟨456,by kernel_rfl⟩) (.cons (⟨457,by kernel_rfl⟩) (.cons (⟨458,by kernel_rfl⟩) (.cons (⟨459,by kernel_rfl⟩) (.cons (⟨460,by kernel_rfl⟩) (.cons (⟨461,by kernel_rfl⟩) (.cons (⟨462,by kernel_rfl⟩) (.cons (⟨463,by kernel_rfl⟩) (.cons (⟨464,by kernel_rfl⟩) (.cons (⟨465,by kernel_rfl⟩) (.nil))))))))))))))⟩⟩
def Xx(v:V):Option Value:=match v with|.fn k=>some (.ref (bL iM k))|.cls k=>some (.ref (bL ci k))|_=>none
def Fg(v:V):Option Value:=match v with|.bi k=>some (h9 k)|_=>none
def Oq(v:V):Bool:=match v with|.bi k=>Nat.blt k 14|_=>true
def xQ(v:V):Bool:=match v with|.bi _=>false|.fn _=>false|.cls _=>false|_=>true
def gQ:List (Nat×V):=iX j8
theorem QW:∀P,aZ (λq:Nat×V=>aa (xQ q.2) none (nsFind ⟨fh P⟩ (n q.1))) gQ=aZ (λq=>Xx q.2) gQ:=λP=>by kernel_rfl
theorem QN:∀P,aZ (λq:Nat×V=>Option.rec (motive:=λ_=>Option Value) none (λ_=>nsFind ⟨iI P⟩ (n q.1)) (Fg q.2)) gQ=aZ (λq=>Fg q.2) gQ:=λP=>by kernel_rfl
theorem OH:aZ (λq:Nat×V=>(Oq q.2,aa (xQ q.2) (eN q.1 [18,28,43,79,82,94,101]) true)) gQ=aZ (λ_=>(true,true)) gQ:=by kernel_rfl
theorem WS(Y:bu w.params H)(hb:gr (c0 w H) b){x:Nat}{y:V}(h:dq j8 x=some y):mH (cX w H O b v) (nsFind ⟨fh w.params⟩) (nsFind ⟨iI w.params⟩) x y:=by
 have m:(x,y)∈gQ:=Ci j8 h
 have e1:=bR (QW w.params) _ m
 have e2:=bR (QN w.params) _ m
 obtain⟨e3,e4⟩:=Prod.mk.inj (bR OH _ m)
 cases hs:xQ y with
 |true=>
  have e4:aa (xQ y) (eN x [18,28,43,79,82,94,101]) true=true:=e4
  rw[hs] at e4
  have m:=lL.mp (show eN x [18,28,43,79,82,94,101]=true from e4)
  simp only[List.mem_cons,List.not_mem_nil,or_false] at m
  rcases m with rfl|rfl|rfl|rfl|rfl|rfl|rfl
  · exact af ((show dq j8 18=some _ from rfl).symm.trans h)▸WC Y hb
  · exact af ((show dq j8 28=some _ from rfl).symm.trans h)▸Wm Y hb
  · exact af ((show dq j8 43=some _ from rfl).symm.trans h)▸VT Y hb
  · exact af ((show dq j8 79=some _ from rfl).symm.trans h)▸OA Y hb
  · exact af ((show dq j8 82=some _ from rfl).symm.trans h)▸Zf Y hb
  · exact af ((show dq j8 94=some _ from rfl).symm.trans h)▸Zp Y hb
  · exact af ((show dq j8 101=some _ from rfl).symm.trans h)▸Ty Y hb
 |false=>
  cases y with
  |fn k=>exact⟨⟨_,.inl e1,λ_ _ _ _ _=>rfl⟩⟩
  |cls k=>exact⟨⟨_,.inl e1,λ_ _ _ _ _=>rfl⟩⟩
  |bi k=>exact⟨⟨_,.inr ⟨e1,e2⟩,λ_ _ _ _ _=>(by show h9 k=b k;rw[hb.lt k (cH e3)];show h9 k=aa (Nat.blt k 14) (h9 k) .none;rw[show Nat.blt k 14=true from e3];rfl)⟩⟩
  |_=>exact tf hs
theorem WJ:∀P,(bv oT P 4).cls=.type "module" :=λP=>by kernel_rfl
theorem Zb:∀P,(bv oT P 4).dict=some builtinsNs:=λP=>by kernel_rfl
theorem Ph:∀P,(bv oT P 4).data=.plain:=λP=>by kernel_rfl
theorem Oi:∀P,nsFind ⟨fh P⟩ "__builtins__" =some (.ref 4):=λP=>by kernel_rfl
theorem PB:aZ (λq:Nat×Nat=>eN q.2 ew) pD=aZ (λ_=>true) pD:=by kernel_rfl
theorem XN:l7 (pD.map (·.2))=true:=by kernel_rfl
theorem zU(Y:bu w.params H)(hb:gr (c0 w H) b):bq (cX w H O b v) (KF w.params) where
 kin:=TL Y
 inj:=Pu
 nodebug:=PK
 noclass:=Rk
 nosuper:=Aj
 glob:=λx y h=>by
  obtain⟨z,h1,h2⟩:=(WS (O:=O) (v:=v) Y hb h).ex
  exact⟨_,_,z,zw Y,Jz Y,h1,h2⟩
 attr:=λk cl a h hb=>(rh h).attr a hb
 meth:=λk cl a f h e=>(rh h).meth a f e
 bi:=λk h=>(hb.lt k h).trans (by show aa (Nat.blt k 14) (h9 k) .none=h9 k;rw[mG h];rfl)
 opq:=hb.ge
 nolim:=⟨_,P5 Y,An w.params⟩
 bmain:=⟨_,4,_,zw Y,Oi w.params,by decide,by decide,eU Y (by kernel_rfl),WJ w.params,Zb w.params,Ph w.params⟩
 tabB:=λq hq=>Gy (lL.mp (bR PB q hq))
 tabI:=λq hq q' gN e=>SK (xG XN) hq gN e
 fn:=λk f h=>U4 Y h
 keepF:=λk h=>bR (YA w.params) (bL iM k) (W7 h)
 make:=λk cl h=>⟨(rh h).kp,(rh h).mks,(rh h).i,(rh h).it⟩
def pF(i:Nat):Nat:=bL [8008008017,8008008026,8027008031,8033008040,8008008041,8008008041,9008009012,9008009020,9023009030,9008009030,10008010012,10008010017,10020010024,10008010024] i
theorem iT:∀P,typeIn (KF P) (.ref 36)=some (.type "function"):=λP=>by kernel_rfl
theorem Vk:∀P,nsFind ⟨fh P⟩ (n 5)=none:=λP=>by kernel_rfl
theorem PC:∀P,nsFind ⟨iI P⟩ (n 5)=some (.type "Exception"):=λP=>by kernel_rfl
theorem xI:n 6= "__init__" :=by kernel_rfl
theorem NQ:bO (λk=>bO (λd=>aa (TB.sub k d).isSome (aa (Nat.blt k 5) (Nat.blt d 5) false) true) 14) 14=true:=by kernel_rfl
theorem Ul:∀P,aZ (λq:Nat×Nat=>mroIn (KF P) (bL ci q.1) (.ref (bL ci q.2))) [(0,0),(0,1),(0,2),(0,3),(0,4),(1,0),(1,1),(1,2),(1,3),(1,4),(2,0),(2,1),(2,2),(2,3),(2,4),(3,0),(3,1),(3,2),(3,3),(3,4),(4,0),(4,1),(4,2),(4,3),(4,4)]=aZ (λq:Nat×Nat=>TB.sub q.1 q.2) [(0,0),(0,1),(0,2),(0,3),(0,4),(1,0),(1,1),(1,2),(1,3),(1,4),(2,0),(2,1),(2,2),(2,3),(2,4),(3,0),(3,1),(3,2),(3,3),(3,4),(4,0),(4,1),(4,2),(4,3),(4,4)]:=λP=>by kernel_rfl
theorem iN{k d:Nat}{x:Bool}(h:TB.sub k d=some x):k<5/\d<5:=by
 have hk:k<14:=by
  refine Nat.lt_of_not_le λq=>?_
  have e:aj pP k=none:=by rw[dj];exact List.getElem?_eq_none q
  have h:(aj pP k).bind _=some x:=h
  rw[e] at h;exact ns h
 have hd:d<14:=by
  refine Nat.lt_of_not_le λq=>?_
  have e:aj pP d=none:=by rw[dj];exact List.getElem?_eq_none q
  obtain⟨l,_,h⟩:=Option.bind_eq_some_iff.mp (show(aj pP k).bind _=some x from h)
  cases c:Nat.beq (len l) 0 with
  |true=>rw[c] at h;exact ns h
  |false=>
   rw[c] at h
   have h:(aj pP d).bind _=some x:=h
   rw[e] at h;exact ns h
 have:=bY (bY NQ k hk) d hd
 rw[h] at this
 exact⟨cH (aO (show aa (Nat.blt k 5) (Nat.blt d 5) false=true from this)).1,cH (aO (show aa (Nat.blt k 5) (Nat.blt d 5) false=true from this)).2⟩
structure Xr where
 x:Nat
 N:Nat
 bs:List Value
 bm:List Value
 sub:List Value
 a:Nat
 t:Nat
 u:Nat
def xR(k:Nat):Xr:=Option.rec ⟨0,0,[],[],[],0,0,0⟩ (λr=>r) (aj [⟨197,38,[.type fg],[.type fg,.type iu,.type cQ],[.ref 52,.ref 64,.ref 76,.ref 88],22,196,204⟩,⟨17,51,[.ref 39],[.ref 39,.type fg,.type iu,.type cQ],[],43,228,236⟩,⟨97,63,[.ref 39],[.ref 39,.type fg,.type iu,.type cQ],[],55,244,252⟩,⟨29,75,[.ref 39],[.ref 39,.type fg,.type iu,.type cQ],[],67,260,268⟩,⟨142,87,[.ref 39],[.ref 39,.type fg,.type iu,.type cQ],[],79,276,284⟩] k)
def xD(k:Nat):E4:={ini:=1,f:=wl,sl:=4,xE:=5,aI:=6,p:=pF,nm:=n (xR k).x,q:=n (xR k).x,N:=(xR k).N,bs:=(xR k).bs,bm:=(xR k).bm,hdct:=true,sn:=[],sub:=(xR k).sub,ab:=false,col:=none,dd:=none,k0:=some (.ref (xR k).a),k1:=none,k2:=some (.str (n (xR k).x) (xR k).t),k3:=some (.str (n (xR k).x) (xR k).u),k5:=some (.bool true)}
def xk:List Nat:=co 0 5
theorem kt{k:Nat}(h:k<5):k∈xk:=nk (n:=k) (by unfold xk;rw[jc,aG h,dY])
theorem Ji:∀P,aZ (λk=>bv oT P (bL ci k)) xk=aZ (λk=>excClassObj (xD k).nm (xD k).q (bL ci k) (xD k).N (xD k).bs (xD k).bm (xD k).hdct (xD k).sn (xD k).sub (xD k).ab (xD k).col (xD k).dd (xD k).k0 (xD k).k1 (xD k).k2 (xD k).k3 (xD k).k5 "Exception.__new__") xk:=λP=>by kernel_rfl
theorem n8:∀P,aZ (λk=>(findIn (KF P) (.ref (bL ci k)) "__init__",findIn (KF P) (.ref (bL ci k)) "__setattr__",xo (KF P) (bL ci k),hasDictIn (KF P) (bL ci k),mroIn (KF P) (bL ci k) (.type "Exception"),findIn (KF P) (.ref (bL ci k)) "__getattribute__",findIn (KF P) (.ref (bL ci k)) "__getattr__",keepIn (KF P) (.ref (bL ci k)),mroIn (KF P) (bL ci k) (.type "BaseException"),typeIn (KF P) (.ref (bL ci k)))) xk
 =aZ (λ_=>(some (some (.ref 36)),some (some (.builtin "object.__setattr__")),true,true,some true,some (some (.builtin "BaseException.__getattribute__")),some none,true,some true,some (.type "type"))) xk:=λP=>by kernel_rfl
theorem Mh:∀P,aZ (λk=>aZ (λx=>findIn (KF P) (.ref (bL ci k)) (n x)) [0,1]) xk=aZ (λ_=>aZ (λ_=>some none) [0,1]) xk:=λP=>by kernel_rfl
theorem Mj:aZ (λk=>aa (Nat.blt (bL ci k) 728) (eN (bL ci k) ew) true) xk=aZ (λ_=>false) xk:=by kernel_rfl
theorem CL:aZ (λk=>((xD k).bm.contains (.type "Exception"),(xD k).bm.contains (.type "AttributeError"),(xD k).bm.contains (.type "NameError"))) xk=aZ (λ_=>(true,false,false)) xk:=by kernel_rfl
theorem Ee(Y:bu w.params H):∀k,k<5->wj (cX w H O b v) (KF w.params) k:=λk h=>by
 have m:=kt h
 have q:=bR (n8 w.params) k m
 have a:∀x,x∈[0,1]->_:=bR (bR (Mh w.params) k m)
 have s:∀x,x∈[0,1]->o9 (KF w.params) (bL ci k) (n x):=λx hx=>⟨aq (·.2.1) q,aq (·.2.2.1) q,by unfold takerIn;rw[a x hx];rfl,aq (·.2.2.2.1) q⟩
 have hC:=(eU Y (bR Mj k m)).trans (aq some (bR (Ji w.params) k m))
 exact⟨xD k,{hC:=hC,c1:=aq (·.1) (bR CL k m),c2:=aq (·.2.1) (bR CL k m),c3:=aq (·.2.2) (bR CL k m),hi:=aq (·.1) q,ht:=iT w.params,hf:=(by kernel_rfl:dq uG 1=some wl),hps:=by kernel_rfl,hbody:=by kernel_rfl,hcs:=by kernel_rfl,a0:=by kernel_rfl,a1:=by kernel_rfl,a2:=by kernel_rfl,a3:=by kernel_rfl,hl:=by kernel_rfl,F0:=s 0 (.head _),F1:=s 1 (.tail _ (.head _)),hb:=aq (·.2.2.2.2.1) q,gE:=⟨_,_,zw Y,Jz Y,Vk w.params,PC w.params⟩,nI:=xI}⟩
theorem Qc:∀k,k<5->keepIn (KF w.params) (.ref (bL ci k))=true:=λk h=>aq (·.2.2.2.2.2.2.2.1) (bR (n8 w.params) k (kt h))
theorem Ir:∀k,k<5->mroIn (KF w.params) (bL ci k) (.type "BaseException")=some true:=λk h=>aq (·.2.2.2.2.2.2.2.2.1) (bR (n8 w.params) k (kt h))
theorem Uw:∀k,k<5->typeIn (KF w.params) (.ref (bL ci k))=some (.type "type"):=λk h=>aq (·.2.2.2.2.2.2.2.2.2) (bR (n8 w.params) k (kt h))
theorem ZU:∀k,k<5->findIn (KF w.params) (.ref (bL ci k)) "__getattribute__" =some (some (.builtin "BaseException.__getattribute__")):=λk h=>aq (·.2.2.2.2.2.1) (bR (n8 w.params) k (kt h))
theorem Wn:∀k,k<5->findIn (KF w.params) (.ref (bL ci k)) "__getattr__" =some none:=λk h=>aq (·.2.2.2.2.2.2.1) (bR (n8 w.params) k (kt h))
theorem NP:∀k,k<5->(xo (KF w.params) (bL ci k),hasDictIn (KF w.params) (bL ci k))=(true,true):=λk h=>aq (λq=>(q.2.2.1,q.2.2.2.1)) (bR (n8 w.params) k (kt h))
theorem WK:∀k,k<5->aZ (λx=>findIn (KF w.params) (.ref (bL ci k)) (n x)) [0,1]=aZ (λ_=>some none) [0,1]:=λk h=>bR (Mh w.params) k (kt h)
theorem Wd(Y:bu w.params H):∀k,k<5->∃oc cd,(jR ew H).get? (bL ci k)=some oc/\oc.data=.cls cd:=λk h=>⟨_,_,(eU Y (bR Mj k (kt h))).trans (aq some (bR (Ji w.params) k (kt h))),rfl⟩
theorem WR:∀k,k<5->∀d,d<5->(k,d)∈[(0,0),(0,1),(0,2),(0,3),(0,4),(1,0),(1,1),(1,2),(1,3),(1,4),(2,0),(2,1),(2,2),(2,3),(2,4),(3,0),(3,1),(3,2),(3,3),(3,4),(4,0),(4,1),(4,2),(4,3),(4,4)]:=by decide
theorem Y8:∀{a:Nat},a<=1->a∈[0,1]
 |0,_=>.head _
 |1,_=>.tail _ (.head _)
 |a+2,h=>aV h (by omega)
theorem KR(Y:bu w.params H):mQ (cX w H O b v) (KF w.params) where
 keep:=λk d x h=>Qc k (iN h).1
 cls:=λk d x h=>Wd Y d (iN h).2
 sub:=λk d x h=>⟨Ir d (iN h).2,Ir k (iN h).1,Uw d (iN h).2,(bR (Ul w.params) (k,d) (WR k (iN h).1 d (iN h).2)).trans h⟩
 attr:=λk d x h a ha=>⟨ZU k (iN h).1,Wn k (iN h).1,aq Prod.snd (NP k (iN h).1),none,bR (WK k (iN h).1) a (Y8 ha),rfl⟩
theorem QC:aZ (λq:Nat×Nat=>aa (Nat.blt q.2 6) (n q.1) (hV 0)) [(54,0),(14,1),(72,2),(118,3),(98,4),(92,5),(58,6)]=aZ (λq:Nat×Nat=>aa (Nat.blt q.2 6) (hV q.2) (hV 0)) [(54,0),(14,1),(72,2),(118,3),(98,4),(92,5),(58,6)]:=by kernel_rfl
theorem UM:qH (cX w H O b v):=λa k h lt=>by
 have:=bR QC (a,k) (o6 (show au KU a=some k from h))
 have this:aa (Nat.blt k 6) (n a) (hV 0)=aa (Nat.blt k 6) (hV k) (hV 0):=this
 rw[mG lt] at this
 exact this
theorem found(Y:bu w.params H):AC (c0 w H) cA:=⟨λO=>rfl,λO b v hb Or m=>O7 (c:=cX w H O b v) (zU Y hb) (KR Y) (λk h=>Ee Y k (iN h).1) UM Or m⟩
end
def O0:Nat->List V->HT->Option (Nat×R0):=λ_ _ _=>none
def TZ:Tb:=cA O0
abbrev cb(n:Nat):Ev:=ev TZ MC n
def l3(A B:Int)(t:Int):Int:=if 0<A then A%t else(B*39373+7)%2147483647*((B*39373+7)%2147483647)%2147483629/32%t
def gO(A:Int)(t:Int):Int:=if 0<A then A/t else A
def gP(A B:Int):Int:=if 0<A then B else(B*39373+7)%2147483647
theorem Tz(h0:0<=y)(h:y<2147483647):oQ y=true:=Nat.ble_eq_true_of_le (by omega)
def uM(A B t:Int)(d:Nat):En:=⟨64,[.loc 0,.int t],[.list [.int A,.int B]],[.arg 0],[],d,.ok (.int (l3 A B t)),[(0,.list [.int (gO A t),.int (gP A B)])],[],[]⟩
def eg:Fr:=⟨mV.sc,[],false⟩
def u4(A B:Int):HT:=hL [.list [.int A,.int B]]
def jf(A B t:Int):Sg:=⟨u4 A B,[(148,.loc 0),(149,.int t)]⟩
def lT:S:=(aj mV.body 0).getD (.pass 0)
def so:S:=(aj mV.body 1).getD (.pass 0)
def kW:S:=(aj mV.body 2).getD (.pass 0)
def oy(s:S):E:=match s with|.ifS c _ _ _=>c|.ret e _=>e|_=>.none 0
def yp(s:S):List S:=match s with|.ifS _ b _ _=>b|_=>[]
def jv(e:E):E:=match e with|.bin _ l _ _=>l|_=>.none 0
def j4(A B t:Int):Sg:=⟨pH (u4 A B) 0 (.list [.int A,.int ((B*39373+7)%2147483647)]),[(148,.loc 0),(149,.int t)]⟩
theorem NZ(A B t:Int):(cb 9).eT (oy lT) eg (jf A B t)=.ok (decide (0<A)) (jf A B t):=by kernel_rfl
theorem Qq(A B t:Int)(h:t=2\/t=3\/t=4\/t=6\/t=13):execs (cb 9) eg (yp lT) (jf A B t)=.ok (.ret (.int (A%t))) ⟨pH (u4 A B) 0 (.list [.int (A/t),.int B]),[(148,.loc 0),(149,.int t),(150,.int (A%t))]⟩:=by
 rcases h with rfl|rfl|rfl|rfl|rfl<;>kernel_rfl
theorem O1(A B t:Int):(cb 10).eS so eg (jf A B t)=.ok .next (j4 A B t):=by kernel_rfl
theorem Rf(A B t:Int):(cb 6).eE (jv (jv (jv (oy kW)))) eg (j4 A B t)=aa (oQ ((B*39373+7)%2147483647)) (.ok (.int ((B*39373+7)%2147483647*((B*39373+7)%2147483647))) (j4 A B t)) .stuck:=by kernel_rfl
theorem O9(A B t:Int):(cb 7).eE (jv (jv (oy kW))) eg (j4 A B t)=.ok (.int ((B*39373+7)%2147483647*((B*39373+7)%2147483647)%2147483629)) (j4 A B t):=by
 have e:(cb 7).eE (jv (jv (oy kW))) eg (j4 A B t)=((cb 6).eE (jv (jv (jv (oy kW)))) eg (j4 A B t)).bind λv s=>((cb 6).eE (.int 2147483629 492035492045) eg s).bind λw s=>sM .mod v w s:=by kernel_rfl
 rw[e,Rf,Tz (Int.emod_nonneg _ (by decide)) (Int.emod_lt_of_pos _ (by decide))]
 kernel_rfl
theorem XX(A B t:Int)(h:t=2\/t=3\/t=4\/t=6\/t=13):(cb 10).eS kW eg (j4 A B t)=.ok (.ret (.int ((B*39373+7)%2147483647*((B*39373+7)%2147483647)%2147483629/32%t))) (j4 A B t):=by
 have e:(cb 10).eS kW eg (j4 A B t)=((((cb 7).eE (jv (jv (oy kW))) eg (j4 A B t)).bind λv s=>((cb 7).eE (.int 32 492049492051) eg s).bind λw s=>sM .fdiv v w s).bind λv s=>((cb 8).eE (.name 149 492054492057) eg s).bind λw s=>sM .mod v w s).bind λv s=>.ok (.ret v) s:=by kernel_rfl
 rw[e,O9]
 rcases h with rfl|rfl|rfl|rfl|rfl<;>kernel_rfl
theorem Tg(A B t:Int)(h:t=2\/t=3\/t=4\/t=6\/t=13):k6 (jm TZ (cb 10) 10 64 [.loc 0,.int t] ⟨u4 A B,[]⟩)=some ((uM A B t 10).r.at (uM A B t 10).end):=by
 have e1:jm TZ (cb 10) 10 64 [.loc 0,.int t] ⟨u4 A B,[]⟩=ju [] ((execs (cb 10) eg mV.body (jf A B t)).bind λfl s2=>Fl.rec (.ok .none s2) (λv=>.ok v s2) fl):=rfl
 have e2:execs (cb 10) eg mV.body (jf A B t)=((cb 10).eS lT eg (jf A B t)).bind λf s=>Fl.rec (((cb 10).eS so eg s).bind λf s=>Fl.rec (((cb 10).eS kW eg s).bind λf s=>Fl.rec (.ok .next s) (λv=>.ok (.ret v) s) f) (λv=>.ok (.ret v) s) f) (λv=>.ok (.ret v) s) f:=rfl
 have e3:(cb 10).eS lT eg (jf A B t)=((cb 9).eT (oy lT) eg (jf A B t)).bind λb s=>aa b (execs (cb 9) eg (yp lT) s) (.ok .next s):=rfl
 rw[e1,e2,e3,NZ]
 unfold uM l3 gO gP
 by_cases hA:0<A
 · rw[aG hA,aG hA,aG hA,decide_eq_true hA]
   show k6 (ju [] (R.bind (R.bind (execs (cb 9) eg (yp lT) (jf A B t)) _) _))=_
   rw[Qq A B t h]
   rfl
 · rw[ax hA,ax hA,ax hA,decide_eq_false hA]
   have e4:∀k:Fl->Sg->R Fl,(((R.ok false (jf A B t)).bind λb s=>aa b (execs (cb 9) eg (yp lT) s) (.ok .next s)).bind k)=k .next (jf A B t):=λ_=>rfl
   rw[e4]
   dsimp only
   rw[O1]
   have e5:∀(s:Sg) (k:Fl->Sg->R Fl),(R.ok Fl.next s).bind k=k .next s:=λ_ _=>rfl
   rw[e5]
   dsimp only
   rw[XX A B t h]
   rfl
section
variable{c:Cx}{X:Addr->Prop}{A:Around}{env:Env}{fr:Fr}{μ:Mu}{σ:Sg}{s:Shared}{E:Value->Shared->Prop}{n:Nat}{K:Frag}
structure pd(c:Cx)(l:Addr)(ns:List Int):Prop where
 b:c.biV 14=.ref l
 ex:∃vs:Array Value,c.base.IsList l vs/\ay (λ(i:Int) x=>∃t,x=.int i t) ns vs.toList/\(vs.size:Int)<2^63
theorem Eh{h h':Heap}(x:h.IsList a its)(k:h.StaysIn h'):h'.IsList a its:=x.imp λo q=>⟨k _ _ q.1,q.2⟩
def cell(ns:List Int):Int:=match ns with|[]=>0|x::_=>x
def tJ(p1 p2 p3 p4 p5 p6 p7 p8 p9 jU:Nat):Mine.E:=.ife (.cmp .gt (.call (.name 37 p1) [.name 143 p2] p3) (.int 0 p4) p5) (.sub (.name 143 p6) (.int 0 p7) p8) (.int 0 p9) jU
theorem TU{l:Addr}{ns:List Int}(G:bq c K)(Sc:pd c l ns)(S:SE c n (ev c.T c.mc n).eE)(hn:0<n)(eo:aJ c n A env fr)(o:Ok c X A env fr μ σ s)(h1:au fr.sc 37=some 3)(h2:c.T.gl 37=some (.bi 0))(h3:au fr.sc 143=some 0)(h4:au σ.r 143=some (.bi 14))
 {p1 p2 p3 p4 p5 p6 p7 p8 p9 jU:Nat}{Q:Value->Shared->Prop}(h:ac c X A env fr (DV c X) μ s (.ok (.int (cell ns)) σ) Q E):wpAny c.M A (eval (an c.nm (tJ p1 p2 p3 p4 p5 p6 p7 p8 p9 jU)) env) Q E s:=by
 obtain⟨vs,hv,hz,hs⟩:=Sc.ex
 have nm:∀(p:Nat) {μ:Mu} {s:Shared} (o:Ok c X A env fr μ σ s) {Q:Value->Shared->Prop},(∀av s',aK A env μ av s s'->Ok c X A env fr av σ s'->Q (.ref l) s')->wpAny c.M A (eval (an c.nm (.name 143 p)) env) Q E s:=λp {μ s} o {Q} k=>
  CH G eo o (by
   show ac c X A env fr (DV c X) μ s (aX (au fr.sc 143) _) Q E
   rw[h3]
   rw[h4]
   exact λav s' y nx o' dv=>((dv).trans Sc.b)▸k av s' nx o')
 have big:∀{k:Nat},(vs.size:Int)=k->(k:Int)<2^63:=λe=>e▸hs
 show wpAny c.M A (eval (.IfExp (an c.nm (.cmp .gt (.call (.name 37 p1) [.name 143 p2] p3) (.int 0 p4) p5)) (an c.nm (.sub (.name 143 p6) (.int 0 p7) p8)) (an c.nm (.int 0 p9)) (aE jU)) env) Q E s
 rw[arm_eval_IfExp]
 refine ah (Ly (xn ..) (wpAny_Compare1 ?_ (xn ..)))
 have hlen:ns.length=vs.size:=by have:=hz.length;rw[Array.length_toList] at this;exact this.symm
 refine Call_ (CH G eo o ?_) rfl
 show ac c X A env fr (DV c X) μ s (aX (au fr.sc 37) λk=>aa (Nat.beq k 0) (jS σ (au σ.r 37)) (aa (Nat.beq k 3) (jS σ (c.T.gl 37)) _)) _ E
 rw[h1]
 rw[h2]
 intro ao s₁ f n₁ aC df
 have ef:=(df).trans (G.bi 0 (by decide))
 subst ef
 refine sY S eo aC ?_
 obtain⟨m,rfl⟩:∃m,n=m+1:=⟨n-1,by omega⟩
 show ac c X A env fr (DL c X) ao s₁ ((aX (au fr.sc 143) λk=>aa (Nat.beq k 0) (jS σ (au σ.r 143)) _).bind λv s=>.ok [v] s) _ E
 rw[h3]
 rw[h4]
 intro a9 aB ys bG bc dl
 refine⟨Cq 0 (by decide) _,?_⟩
 have ey:ys=[.ref l]:=by
  cases dl with
  |cons a b=>cases b;exact aq (· ::[]) ((a).trans Sc.b)
 subst ey
 have abr:=Eh hv bc.stays
 refine Calls.call_len_list abr hs ?_
 have hM:=bc.tok (aB.toks+1+1)
 have lg:aK A env μ a9 s {aB with toks:=aB.toks+1+1}:=(n₁.trans bG).tok _
 refine(oF hM).2.2.1 0 p4 λabt mz y Do vJ d4=>?_
 have rk:ad c X abt mz.heap (.int (ns.length:Int)) (.int vs.size (aB.toks+1)):=⟨_,by rw[hlen]⟩
 refine J4 (op:=.gt) (a:=.int (ns.length:Int)) (b:=.int 0) vJ (CK eo) rk d4 (σ:=σ) (E:=E) λabu Dl z abv Nn d5=>?_
 refine xp Nn d5 (b:=decide (0<(ns.length:Int))) rfl λt=>?_
 have No:=Nn.tok t
 have abw:aK A env μ abu s {Dl with toks:=t}:=((lg.trans Do).trans abv).tok _
 have h':=h.shift abw
 cases ns with
 |nil=>exact(oF No).2.2.1 0 p9 h'
 |cons x r=>
  rw[decide_eq_true (show(0:Int)<((x::r).length:Int) by rw[List.length_cons];omega)]
  refine PyProof.Rows.Subscript_ (nm p6 No λab7 ab8 abx aby=>(oF aby).2.2.1 0 p7 λab9 aca y8 abz Np d8=>?_)
  obtain⟨t8,rfl⟩:=d8
  have Nq:=Eh hv Np.stays
  obtain⟨y0,e0,t0,rfl⟩:∃y0,vs[0]?=some y0/\∃t,y0=.int x t:=by
   rw[← Array.getElem?_toList]
   cases Nr:vs.toList with
   |nil=>rw[Nr] at hz;cases hz
   |cons a b=>rw[Nr] at hz;cases hz with|cons u _=>exact⟨a,rfl,u⟩
  refine tail_any Nq.typeIs slot_list_getitem.lookup (wpAny_getItem_list Nq (by decide) (by decide) e0 ?_) (KG c.nm (.int 0 p7) _ _)
  exact(h'.shift (abx.trans abz)).ok .refl Np ⟨t0,rfl⟩
open Classical in
noncomputable def kO(E0:Mine.E)(x:Int)(ih:Ev):Ev:=
 ⟨ih.call,λe fr s=>if e=E0/\au fr.sc 37=some 3/\au fr.sc 143=some 0/\au s.r 143=some (.bi 14) then .ok (.int x) s else ih.eE e fr s,ih.eT,ih.eS,ih.eW⟩
open Classical in
theorem N1{ns:List Int}(G:bq c K)(Sc:pd c l ns)(hn:0<n)(h2:c.T.gl 37=some (.bi 0))(H:lw c n (ev c.T c.mc n)){p1 p2 p3 p4 p5 p6 p7 p8 p9 jU:Nat}:lw c n (kO (tJ p1 p2 p3 p4 p5 p6 p7 p8 p9 jU) (cell ns) (ev c.T c.mc n)):=
 { call:=H.call
   eE:=λX A env fr μ σ s e Q E eo o h=>by
    rcases Classical.em (e=tJ p1 p2 p3 p4 p5 p6 p7 p8 p9 jU/\au fr.sc 37=some 3/\au fr.sc 143=some 0/\au σ.r 143=some (.bi 14)) with q|q
    · obtain⟨rfl,q1,q2,q3⟩:=q
      rw[show(kO (tJ p1 p2 p3 p4 p5 p6 p7 p8 p9 jU) (cell ns) (ev c.T c.mc n)).eE (tJ p1 p2 p3 p4 p5 p6 p7 p8 p9 jU) fr σ=.ok (.int (cell ns)) σ from aG ⟨rfl,q1,q2,q3⟩] at h
      exact TU G Sc H.eE hn eo o q1 h2 q2 q3 h
    · have h:ac c X A env fr (DV c X) μ s (if _ then _ else(ev c.T c.mc n).eE e fr σ) Q E:=h
      rw[ax q] at h
      exact H.eE X A env fr μ σ s e Q E eo o h
   eT:=H.eT
   eS:=H.eS
   eW:=H.eW}
end
def gV:S:=(aj lO.body 0).getD (.pass 0)
def pK:S:=(aj lO.body 1).getD (.pass 0)
def oX:S:=(aj lO.body 2).getD (.pass 0)
def gm(s:S):E:=match s with|.assign _ v _=>v|.ret v _=>v|_=>.none 0
def KO(s:S):E:=match s with|.assign t _ _=>t|_=>.none 0
def eF:Fr:=⟨lO.sc,[],false⟩
def gv(x:Int):Int:=aa (decide (x< -1-x)) (-1-x) x
def fU(ns:List Int):Int:=gv (cell ns)*aa (decide (1000000000000000000<=gv (cell ns))) 1 0
def fX(ns:List Int):Int:=(gv (cell ns)%2147483629+17)*48271%2147483647
def iF(x:Int):Ev:={FI with eS:=xf TZ (kO (gm gV) x (cb 19))}
def rJ(x:Int):List (Nat×V):=[(143,.bi 14),(144,.int x)]
def iG(x:Int):List (Nat×V):=[(143,.bi 14),(144,.int x),(145,.int (gv x))]
theorem Xu{α β:Type}(a:α)(s:Sg)(k:α->Sg->R β):(R.ok a s).bind k=k a s:=rfl
theorem Yn(x:Int)(H:HT):(iF x).eS gV eF ⟨H,[(143,.bi 14)]⟩=.ok .next ⟨H,rJ x⟩:=by
 have e:(iF x).eS gV eF ⟨H,[(143,.bi 14)]⟩=((kO (gm gV) x (cb 19)).eE (gm gV) eF ⟨H,[(143,.bi 14)]⟩).bind λv s=>(assign TZ (kO (gm gV) x (cb 19)) eF (KO gV) v s).bind λ_ s=>.ok .next s:=rfl
 have e2:(kO (gm gV) x (cb 19)).eE (gm gV) eF ⟨H,[(143,.bi 14)]⟩=.ok (.int x) ⟨H,[(143,.bi 14)]⟩:=aG ⟨rfl,rfl,rfl,rfl⟩
 rw[e,e2];rfl
open Classical in
theorem IQ(h:e≠gm gV):(kO (gm gV) x (cb 19)).eE e fr s=(cb 19).eE e fr s:=ax λq=>h q.1
theorem Wk(x:Int)(H:HT):(iF x).eS pK eF ⟨H,rJ x⟩=.ok .next ⟨H,iG x⟩:=by
 have e:(iF x).eS pK eF ⟨H,rJ x⟩=((kO (gm gV) x (cb 19)).eE (gm pK) eF ⟨H,rJ x⟩).bind λv s=>(assign TZ (kO (gm gV) x (cb 19)) eF (KO pK) v s).bind λ_ s=>.ok .next s:=rfl
 have e2:(cb 19).eE (gm pK) eF ⟨H,rJ x⟩=.ok (.int (gv x)) ⟨H,rJ x⟩:=by kernel_rfl
 rw[e,IQ (λh=>E.noConfusion h),e2];rfl
def Jd(e:E):List E:=match e with|.lst es _=>es|_=>[]
def mE:E:=(aj (Jd (gm oX)) 0).getD (.none 0)
def nE:E:=(aj (Jd (gm oX)) 1).getD (.none 0)
theorem Vw(b:Bool):oQ (aa b 1 0)=true:=by cases b<;>rfl
theorem Tt(x:Int)(H:HT):(cb 18).eE mE eF ⟨H,iG x⟩=.ok (.int (gv x*aa (decide (1000000000000000000<=gv x)) 1 0)) ⟨H,iG x⟩:=by
 have e:(cb 18).eE mE eF ⟨H,iG x⟩=aa (oQ (aa (decide (1000000000000000000<=gv x)) 1 0)) (.ok (.int (gv x*aa (decide (1000000000000000000<=gv x)) 1 0)) ⟨H,iG x⟩) .stuck:=by kernel_rfl
 rw[e,Vw];rfl
theorem R8(x:Int)(H:HT):(cb 18).eE nE eF ⟨H,iG x⟩=.ok (.int ((gv x%2147483629+17)*48271%2147483647)) ⟨H,iG x⟩:=by kernel_rfl
theorem Oc(x:Int)(H:HT):(iF x).eS oX eF ⟨H,iG x⟩=.ok (.ret (.loc H.n)) ⟨aH H (.list [.int (gv x*aa (decide (1000000000000000000<=gv x)) 1 0),.int ((gv x%2147483629+17)*48271%2147483647)]),iG x⟩:=by
 have e:(iF x).eS oX eF ⟨H,iG x⟩=((kO (gm gV) x (cb 19)).eE (gm oX) eF ⟨H,iG x⟩).bind λv s=>.ok (.ret v) s:=rfl
 have e2:(cb 19).eE (gm oX) eF ⟨H,iG x⟩=(((cb 18).eE mE eF ⟨H,iG x⟩).bind λv s=>((((cb 18).eE nE eF s).bind λw s=>.ok [w] s).bind λvs s=>.ok (v::vs) s)).bind λvs s=>mo vs s:=rfl
 rw[e,IQ (λh=>E.noConfusion h),e2,Tt,Xu,R8];rfl
theorem Yd(x:Int)(H:HT)(r:List (Nat×V)):nz (iF x) lO [.bi 14] ⟨H,r⟩=.ok (.loc H.n) ⟨aH H (.list [.int (gv x*aa (decide (1000000000000000000<=gv x)) 1 0),.int ((gv x%2147483629+17)*48271%2147483647)]),r⟩:=by
 have e:nz (iF x) lO [.bi 14] ⟨H,r⟩=ju r ((((iF x).eS gV eF ⟨H,[(143,.bi 14)]⟩).bind λf s=>Fl.rec (((iF x).eS pK eF s).bind λf s=>Fl.rec (((iF x).eS oX eF s).bind λf s=>Fl.rec (.ok .next s) (λv=>.ok (.ret v) s) f) (λv=>.ok (.ret v) s) f) (λv=>.ok (.ret v) s) f).bind λfl s2=>Fl.rec (.ok .none s2) (λv=>.ok v s2) fl):=rfl
 have b:∀(s:Sg) (k:Fl->Sg->R Fl),(R.ok Fl.next s).bind k=k .next s:=λ_ _=>rfl
 rw[e,Yn,b]
 dsimp only
 rw[Wk,b]
 dsimp only
 rw[Oc]
 rfl
theorem U2(Y:bu w.params Hp)(hb:gr (c0 w Hp) b){ns:List Int}(Sc:pd (cX w Hp O0 b v) l ns)(H:HT):
 jI (cX w Hp O0 b v) 63 [.bi 14] H (.ok (.loc H.n) (aH H (.list [.int (fU ns),.int (fX ns)]))) 20:=by
 intro n hn X A env fr μ σ s xs Q E q eo o z t
 subst q
 have G:=zU (O:=O0) (v:=v) Y hb
 have XK:mQ (cX w Hp O0 b v) (KF w.params):=KR Y
 have MK:∀k,(cX w Hp O0 b v).T.sub k k=some true->wj (cX w Hp O0 b v) (KF w.params) k:=λk h=>Ee Y k (iN h).1
 have Sd:=(found Y).s O0 b v hb (λn k vs H m r e=>Mine.ns e) 19
 have S:SS (cX w Hp O0 b v) 20 (iF (cell ns)).eS:=IK G (IF G XK (F5 G XK MK)) (Js G (Jr G XK) (Ms G XK)) (N1 G Sc (by decide) rfl Sd)
 exact G3 (ih:=iF (cell ns)) G S (eo.le (Nat.succ_le_succ hn)) o (k:=63) (f:=lO) (by kernel_rfl) z ((Yd (cell ns) σ.H σ.r).symm▸t)
end
section
open PySem PySem.W PyProof.Rows
set_option maxHeartbeats 400000
theorem Ia(A B:Int){t:Nat}(h:0<t):0<=l3 A B t/\l3 A B t<t:=by
 have ht:=Int.ofNat_lt.mpr h
 unfold l3
 split
 · exact⟨Int.emod_nonneg _ (Int.ne_of_gt ht),Int.emod_lt_of_pos _ ht⟩
 · exact⟨Int.emod_nonneg _ (Int.ne_of_gt ht),Int.emod_lt_of_pos _ ht⟩
def DD:ik:=⟨λA B t=>(l3 A B t).toNat,λA B t=>(gO A t,gP A B),λA B t h=>by have:=Ia A B h;omega⟩
theorem GX(A B:Int){t:Nat}(h:0<t):l3 A B t=(DD.d A B t:Int):=(Int.toNat_of_nonneg (Ia A B h).1).symm
def j3(t:Nat):Bool:=eN t [2,3,4,6,13]
theorem Lg(h:j3 t=true):t=2\/t=3\/t=4\/t=6\/t=13:=by
 have:=lL.mp h
 simp only[List.mem_cons,List.not_mem_nil,or_false] at this
 exact this
theorem K0(h:j3 t=true):(t:Int)=2\/(t:Int)=3\/(t:Int)=4\/(t:Int)=6\/(t:Int)=13:=by
 rcases Lg h with h|h|h|h|h<;>subst h<;>decide
theorem B3(h:j3 t=true):0<t:=by rcases Lg h with h|h|h|h|h<;>subst h<;>decide
def aP(i:Nat):Nat:=Nat.add 2000 (Nat.mul 2 i)
def aQ(i:Nat):Nat:=Nat.add 2001 (Nat.mul 2 i)
def jF(l:List (List Nat)):List V:=List.rec [] (λs _ ih=>.str s::ih) l
def oz(i:Nat)(x:Dr):En:=
 Dw.rec (λd=>⟨64,[.loc 0,.int (.ofNat x.top)],[.list [.atom (aP i),.atom (aQ i)]],[.arg 0],[],10,.ok (.int (.ofNat d)),[(0,.list [.atom (aP (Nat.succ i)),.atom (aQ (Nat.succ i))])],[],[]⟩)
  ⟨64,[.loc 0,.int (.ofNat x.top)],[.list [.atom (aP i),.atom (aQ i)]],[.arg 0],[],10,.ok (.atom (Nat.add 6000 i)),[(0,.list [.atom (aP (Nat.succ i)),.atom (aQ (Nat.succ i))])],[],[]⟩
  (λl=>⟨65,[.loc 0,.loc 1],[.list [.atom (aP i),.atom (aQ i)],.list (jF l)],[.arg 0,.arg 1],[],30,.ok (.atom (Nat.add 3000 i)),[(0,.list [.atom (aP (Nat.succ i)),.atom (aQ (Nat.succ i))])],[],[]⟩) x.w
def iR(p:List Dr)(k:Nat)(vs:List V)(H:HT):Option (Nat×R0):=
 aa (Nat.blt 63 k) (aa (Nat.blt k 66) (a7 (aj vs 0) (λv=>a7 (dn H v) (λq=>a7 (aj q.2 0) (λa=>a7 (cu a) (λc=>a7 (aj p (Nat.div (Nat.sub c 2000) 2)) (λx=>aa (Nat.beq (oz (Nat.div (Nat.sub c 2000) 2) x).k k) (sG (oz (Nat.div (Nat.sub c 2000) 2) x) vs H) .none) .none) .none) .none) .none) .none) .none) .none
theorem Ib(h:∀i x,aj p i=some x->bU c v (oz i x))(q:iR p k vs H=some (d,r)):CT c v k vs H r d:=by
 have q:=(cs (cs (q)).2).2
 refine oD q λv _ q=>oD q λl _ q=>oD q λa _ q=>oD q λc _ q=>oD q λx hx q=>?_
 have q:=cs q
 exact bx.mp q.1▸Gq (h _ x hx) q.2
def jZ(l:List (List Nat))(d:Nat):List Nat:=Option.rec [] (λs=>s) (aj l d)
def zP(p:List Dr)(AB:Int×Int)(k:Nat):Int:=Option.rec 0 (λx=>.ofNat (DD.d (DD.pt p AB k).1 (DD.pt p AB k).2 x.top)) (aj p k)
def tP(p:List Dr)(AB:Int×Int)(k:Nat):V:=Option.rec .nil (λx=>Dw.rec (λ_=>.nil) .nil (λl=>.str (jZ l (DD.d (DD.pt p AB k).1 (DD.pt p AB k).2 x.top))) x.w) (aj p k)
def jd(rs:Nat->V)(p:List Dr)(AB:Int×Int)(i:Nat):V:=
 aa (aa (Nat.ble 2000 i) (Nat.blt i 3000) false) (.int (aa (Nat.beq (Nat.mod i 2) 0) (DD.pt p AB (Nat.div (Nat.sub i 2000) 2)).1 (DD.pt p AB (Nat.div (Nat.sub i 2000) 2)).2)) (aa (aa (Nat.ble 3000 i) (Nat.blt i 4000) false) (tP p AB (Nat.sub i 3000)) (rs i))
structure Vr where
 nm:Nat->List Nat×List Nat
 tp:Nat->V
 rs:Nat->V
 seg:Nat->List V
 hn:∀i,seq (nm i).1 (nm i).2=false
 ht:∀i,ca (tp i)=true/\bw (tp i) 20=true
 hr:∀i,bw (rs i) 20=true
 hs:∀j,∀v∈seg j,dB v=true
theorem GJ(p:List Dr)(AB:Int×Int)(k:Nat):bw (tP p AB k) 20=true:=by
 unfold tP
 cases aj p k with
 |none=>rfl
 |some x=>cases x with|mk t w=>cases w<;>rfl
def vP(e:Vr)(p:List Dr)(AB:Int×Int):cc:=GT e.nm e.tp (λi=>zP p AB (i-6000)) (jd e.rs p AB) e.seg e.hn e.ht (λi=>by
 unfold jd
 cases aa (Nat.ble 2000 i) (Nat.blt i 3000) false with
 |true=>rfl
 |false=>
  rw[cW]
  cases aa (Nat.ble 3000 i) (Nat.blt i 4000) false with
  |true=>exact GJ _ _ _
  |false=>exact e.hr i) e.hs
theorem jj(q:y<=x):Nat.blt x y=false:=by cases e:Nat.blt x y with|false=>rfl|true=>have:=cH e;omega
theorem rT(q:x<y):Nat.blt x y=true:=mG q
theorem mT(q:x<=y):Nat.ble x y=true:=Nat.ble_eq_true_of_le q
theorem vN(q:y<x):Nat.ble x y=false:=by cases e:Nat.ble x y with|false=>rfl|true=>have:=dO e;omega
section
variable{nm:Nat->List Nat×List Nat}{tp:Nat->V}{z:Nat->Int}{rs:Nat->V}{i:Nat}
theorem tL(h:128<=i)(h':i<6000):gq nm tp z rs i=rs i:=by
 unfold gq
 rw[jj (x:=i) (y:=64) (by omega),cW,jj (x:=i) (y:=128) (by omega),cW,vN (x:=6000) (by omega),cW,cW,vN (x:=7000) (by omega),cW,cW]
theorem OV(h:6000<=i)(h':i<7000):gq nm tp z rs i=.int (z i):=by
 unfold gq
 rw[jj (x:=i) (y:=64) (by omega),cW,jj (x:=i) (y:=128) (by omega),cW,mT (x:=6000) (by omega),fF,rT (x:=i) (y:=7000) (by omega),fF]
theorem OP(h:7000<=i)(h':i<8000):gq nm tp z rs i=.bool (decide (z (i-1000)=0)):=by
 unfold gq
 rw[jj (x:=i) (y:=64) (by omega),cW,jj (x:=i) (y:=128) (by omega),cW,mT (x:=6000) (by omega),fF,jj (x:=i) (y:=7000) (by omega),cW,mT (x:=7000) (by omega),fF,rT (x:=i) (y:=8000) (by omega),fF]
theorem LH(h:64<=i)(h':i<128):gq nm tp z rs i=tp i:=by
 unfold gq
 rw[jj (x:=i) (y:=64) (by omega),cW,rT (x:=i) (y:=128) (by omega),fF]
theorem FQ(h:2000<=i)(h':i<3000):jd rs p AB i=.int (aa (Nat.beq (Nat.mod i 2) 0) (DD.pt p AB (Nat.div (Nat.sub i 2000) 2)).1 (DD.pt p AB (Nat.div (Nat.sub i 2000) 2)).2):=by
 unfold jd
 rw[mT (x:=2000) (by omega),fF,rT (x:=i) (y:=3000) (by omega),fF]
theorem Tp(h:3000<=i)(h':i<4000):jd rs p AB i=tP p AB (Nat.sub i 3000):=by
 unfold jd
 rw[mT (x:=2000) (by omega),fF,jj (x:=i) (y:=3000) (by omega),cW,mT (x:=3000) (by omega),fF,rT (x:=i) (y:=4000) (by omega),fF]
theorem JH(h:i<2000\/4000<=i):jd rs p AB i=rs i:=by
 unfold jd
 rcases h with h|h
 · rw[vN (x:=2000) (by omega),cW,cW,vN (x:=3000) (by omega),cW,cW]
 · rw[mT (x:=2000) (by omega),fF,jj (x:=i) (y:=3000) (by omega),cW,mT (x:=3000) (by omega),fF,jj (x:=i) (y:=4000) (by omega),cW]
end
section
variable{e:Vr}{p:List Dr}{AB:Int×Int}{i:Nat}
theorem lC:(vP e p AB).ρ=gq e.nm e.tp (λi=>zP p AB (i-6000)) (jd e.rs p AB):=rfl
theorem Hk:aP i=2000+2*i:=rfl
theorem Fx:aQ i=2001+2*i:=rfl
theorem xd{c d i:Nat}(h:d<=c):d<=c+i:=eX h (gJ c i)
theorem w9{c d i:Nat}(h:i<500)(k:c+998<d):c+2*i<d:=by omega
theorem RG{c i:Nat}:Nat.div (Nat.sub (c+2*i) c) 2=i:=(aq (· /2) (Nat.add_sub_cancel_left c (2*i))).trans (Nat.mul_div_cancel_left i (by decide))
theorem P7{i:Nat}:Nat.div (Nat.sub (2001+2*i) 2000) 2=i:=by show(2001+2*i-2000)/2=i;omega
theorem Bs(h:i<500):(vP e p AB).ρ (aP i)=.int (DD.pt p AB i).1:=by
 rw[lC,Hk,tL (xd (by decide)) (w9 h (by decide)),FQ (xd (by decide)) (w9 h (by decide)),bx.mpr (show Nat.mod (2000+2*i) 2=0 from Nat.add_mul_mod_self_left 2000 2 i),fF,(RG:Nat.div (Nat.sub (2000+2*i) 2000) 2=i)]
theorem Bl(h:i<500):(vP e p AB).ρ (aQ i)=.int (DD.pt p AB i).2:=by
 rw[lC,Fx,tL (xd (by decide)) (w9 h (by decide)),FQ (xd (by decide)) (w9 h (by decide)),ee.mpr (show Nat.mod (2001+2*i) 2≠0 from λe=>aV ((Nat.add_mul_mod_self_left 2001 2 i).symm.trans e) (by decide)),cW,(P7:Nat.div (Nat.sub (2001+2*i) 2000) 2=i)]
theorem ZP(h:i<500):(vP e p AB).ρ (6000+i)=.int (zP p AB i):=by
 rw[lC,OV (by omega) (by omega),Nat.add_sub_cancel_left]
theorem XQ(h:i<500):(vP e p AB).ρ (7000+i)=.bool (decide (zP p AB i=0)):=by
 rw[lC,OP (by omega) (by omega),(by omega:7000+i-1000-6000=i)]
theorem Av(h:i<500):(vP e p AB).ρ (3000+i)=tP p AB i:=by
 rw[lC,tL (by omega) (by omega),Tp (by omega) (by omega)]
 exact aq (tP p AB) (Nat.add_sub_cancel_left 3000 i)
end
theorem It(ha:θ a=some x)(hb:θ b=some y)(DG:θ a'=some x')(nY:θ b'=some y')(hr:ai θ r=some r'):
 ja θ sg ⟨k,[.loc 0,.int t],[.list [.atom a,.atom b]],pl,[],d,.ok r,[(0,.list [.atom a',.atom b'])],[],np⟩=some ⟨k,[.loc 0,.int t],[.list [x,y]],d,.ok r',[(0,.list [x',y'])],[]⟩:=by
 simp[ja,aN,bz,ai,fH,aD,a7,ha,hb,DG,nY]
 show aD (aD (ai θ r) λw=>some (Rz.ok w)) (λr=>some (⟨k,[.loc 0,.int t],[.list [x,y]],d,r,[(0,.list [x',y'])],[]⟩:gh))=_
 rw[hr];rfl
def mA(i:Nat)(x y x' y':V)(k:Nat)(z:V):List (Nat×V):=[(aP i,x),(aQ i,y),(aP (i+1),x'),(aQ (i+1),y'),(k,z)]
theorem wh(hk:k<2000\/3000<=k)(hi:i<400):au (mA i x y x' y' k z) (aP i)=some x/\au (mA i x y x' y' k z) (aQ i)=some y/\au (mA i x y x' y' k z) (aP (i+1))=some x'/\au (mA i x y x' y' k z) (aQ (i+1))=some y'/\au (mA i x y x' y' k z) k=some z:=by
 unfold mA
 simp only[dA,Hk,Fx]
 refine⟨aG trivial,?_,?_,?_,?_⟩
 · rw[ax (by omega),aG trivial]
 · rw[ax (by omega),ax (by omega),aG trivial]
 · rw[ax (by omega),ax (by omega),ax (by omega),aG trivial]
 · rw[ax (by omega),ax (by omega),ax (by omega),ax (by omega),aG trivial]
section
variable{w:World}{Hp:Heap}{e:Vr}{p:List Dr}{AB:Int×Int}{i k:Nat}{z:V}
theorem yt(hi:i<400)(hx:aj p i=some x)(hk:(vP e p AB).ρ k=z/\dB z=true):
 b6 (vP e p AB) (au (mA i (.int (DD.pt p AB i).1) (.int (DD.pt p AB i).2) (.int (gO (DD.pt p AB i).1 x.top)) (.int (gP (DD.pt p AB i).1 (DD.pt p AB i).2)) k z)) (λ_=>none):=by
 have e2:DD.pt p AB (i+1)=(gO (DD.pt p AB i).1 x.top,gP (DD.pt p AB i).1 (DD.pt p AB i).2):=DD.pt_succ p AB i x hx
 have h3:(vP e p AB).ρ (aP (i+1))=.int (gO (DD.pt p AB i).1 x.top):=by rw[Bs (by omega),e2]
 have h4:(vP e p AB).ρ (aQ (i+1))=.int (gP (DD.pt p AB i).1 (DD.pt p AB i).2):=by rw[Bl (by omega),e2]
 refine⟨λn w h=>?_,λj l h=>ns h⟩
 have m:=o6 h
 have all:∀q∈mA i (.int (DD.pt p AB i).1) (.int (DD.pt p AB i).2) (.int (gO (DD.pt p AB i).1 x.top)) (.int (gP (DD.pt p AB i).1 (DD.pt p AB i).2)) k z,(vP e p AB).ρ q.1=q.2/\dB q.2=true:=
  bD ⟨⟨Bs (by omega),rfl⟩,bD ⟨⟨Bl (by omega),rfl⟩,bD ⟨⟨h3,rfl⟩,bD ⟨⟨h4,rfl⟩,bD ⟨hk,λ_ q=>nomatch q⟩⟩⟩⟩⟩
 exact all _ m
theorem Hs(Y:bu w.params Hp)(h:t=2\/t=3\/t=4\/t=6\/t=13):bU (c0 w Hp) v (uM A B t 10):=Mq (found Y) (O:=O0) (λk vs H m r e=>ns e) (Tg A B t h)
theorem HL:ja (λ_=>none) (λ_=>none) (uM A B t 10)=some ⟨64,[.loc 0,.int t],[.list [.int A,.int B]],10,.ok (.int (l3 A B t)),[(0,.list [.int (gO A t),.int (gP A B)])],[]⟩:=rfl
theorem oE:b6 v (λ_=>none) (λ_=>none):=⟨λ_ _ h=>ns h,λ_ _ h=>ns h⟩
theorem Eo(Y:bu w.params Hp)(ht:j3 t=true)(hi:i<400)(hx:aj p i=some ⟨t,.n d⟩)(hp:DD.is p AB):bU (c0 w Hp) (vP e p AB) (oz i ⟨t,.n d⟩):=by
 have hd:=DD.is_get p AB i _ hp hx d rfl
 have q:=wh (i:=i) (k:=0) (x:=.int (DD.pt p AB i).1) (y:=.int (DD.pt p AB i).2) (x':=.int (gO (DD.pt p AB i).1 t)) (y':=.int (gP (DD.pt p AB i).1 (DD.pt p AB i).2)) (z:=(vP e p AB).ρ 0) (.inl (by decide)) hi
 have z0:dB ((vP e p AB).ρ 0)=true:=rfl
 refine gp (v:=vP e p AB) oE (yt hi hx ⟨rfl,z0⟩) (HL (A:=(DD.pt p AB i).1) (B:=(DD.pt p AB i).2) (t:=t)) ?_ (Hs Y (K0 ht))
 rw[GX _ _ (B3 ht),hd]
 exact It q.1 q.2.1 q.2.2.1 q.2.2.2.1 rfl
theorem UI(Y:bu w.params Hp)(ht:j3 t=true)(hi:i<400)(hx:aj p i=some ⟨t,.z⟩):bU (c0 w Hp) (vP e p AB) (oz i ⟨t,.z⟩):=by
 have q:=wh (i:=i) (k:=6000+i) (x:=.int (DD.pt p AB i).1) (y:=.int (DD.pt p AB i).2) (x':=.int (gO (DD.pt p AB i).1 t)) (y':=.int (gP (DD.pt p AB i).1 (DD.pt p AB i).2)) (z:=.int (zP p AB i)) (.inr (by omega)) hi
 refine gp (v:=vP e p AB) oE (yt hi hx (k:=6000+i) ⟨ZP (i:=i) (by omega),rfl⟩) (HL (A:=(DD.pt p AB i).1) (B:=(DD.pt p AB i).2) (t:=t)) ?_ (Hs Y (K0 ht))
 have e1:zP p AB i=l3 (DD.pt p AB i).1 (DD.pt p AB i).2 t:=by unfold zP;rw[hx];exact(GX _ _ (B3 ht)).symm
 rw[← e1]
 exact It q.1 q.2.1 q.2.2.1 q.2.2.2.1 q.2.2.2.2
end
def kQ:List (List Nat):=[[117,56],[117,56],[84],[84],[85],[40,41],[112,97,105,114,32,111,102,32,84],[38,39,97],[38,39,98],[38,39,97],[38],[95],[98,111,120,32,111,102,32,95]]
def kH:List (List Nat):=[[97],[98],[99]]
def vl(l:List (List Nat))(d:Nat):En:=⟨65,[.loc 0,.loc 1],[.list [.atom (aP 0),.atom (aQ 0)],.list (jF l)],[.arg 0,.arg 1],[],30,.ok (.str (jZ l d)),[(0,.list [.atom (aP 1),.atom (aQ 1)])],[],[]⟩
theorem Zo:bO (λd=>fV (cA (iR [⟨13,.n d⟩])) MC (vl kQ d)) 13=true:=by kernel_rfl
theorem Xo:bO (λd=>fV (cA (iR [⟨3,.n d⟩])) MC (vl kH d)) 3=true:=by kernel_rfl
def e0:Vr:=⟨λ_=>([0],[1]),λ_=>.nil,λ_=>.nil,λ_=>[],λ_=>rfl,λ_=>⟨rfl,rfl⟩,λ_=>rfl,λ_ _ h=>nomatch h⟩
theorem Cm(l:List (List Nat)):aN (ai θ) (jF l)=some (jF l):=by
 induction l with
 |nil=>rfl
 |cons s r ih=>show aD (some (V.str s)) (λy=>aD (aN (ai θ) (jF r)) λr=>some (y::r))=_;rw[ih];rfl
theorem Fp(ha:θ a=some x)(hb:θ b=some y)(DG:θ a'=some x')(nY:θ b'=some y')(hr:ai θ r=some r'):
 ja θ sg ⟨k,[.loc 0,.loc 1],[.list [.atom a,.atom b],.list (jF l)],pl,[],d,.ok r,[(0,.list [.atom a',.atom b'])],[],np⟩=some ⟨k,[.loc 0,.loc 1],[.list [x,y],.list (jF l)],d,.ok r',[(0,.list [x',y'])],[]⟩:=by
 have h1:aN (ai θ) [.atom a,.atom b]=some [x,y]:=by show aD (θ a) (λu=>aD (aD (θ b) λy=>aD (some []) λr=>some (y::r)) λr=>some (u::r))=_;rw[ha,hb];rfl
 have h2:aN (ai θ) [.atom a',.atom b']=some [x',y']:=by show aD (θ a') (λu=>aD (aD (θ b') λy=>aD (some []) λr=>some (y::r)) λr=>some (u::r))=_;rw[DG,nY];rfl
 show aD (aD (aD (aN (ai θ) [.atom a,.atom b]) λys=>some (.list ys)) λo=>aD (aD (aD (aN (ai θ) (jF l)) λys=>some (.list ys)) λo=>aD (some []) λr=>some (o::r)) λr=>some (o::r))
  (λl0=>aD (aD (ai θ r) λw=>some (Rz.ok w)) λr=>aD (aD (aD (aD (aN (ai θ) [.atom a',.atom b']) λys=>some (.list ys)) λo=>some (0,o)) λp=>aD (some []) λr=>some (p::r)) λch=>some (⟨k,[.loc 0,.loc 1],l0,d,r,ch,[]⟩:gh))=_
 rw[h1,h2,hr,Cm];rfl
section
variable{w:World}{Hp:Heap}{e:Vr}{p:List Dr}{AB:Int×Int}{i k:Nat}{z:V}
theorem Yz(Y:bu w.params Hp)(ht:j3 t=true)(hc:bO (λd=>fV (cA (iR [⟨t,.n d⟩])) MC (vl l d)) t=true)(v:cc)(A B:Int):
 bU (c0 w Hp) v ⟨65,[.loc 0,.loc 1],[.list [.int A,.int B],.list (jF l)],[.arg 0,.arg 1],[],30,.ok (.str (jZ l (DD.d A B t))),[(0,.list [.int (gO A t),.int (gP A B)])],[],[]⟩:=by
 have is:DD.is [⟨t,.n (DD.d A B t)⟩] (A,B):=⟨λd h=>by injection h,trivial⟩
 have E:bU (c0 w Hp) (vP e0 [⟨t,.n (DD.d A B t)⟩] (A,B)) (vl l (DD.d A B t)):=qo (found Y) (λk vs H m r q=>Ib (λi x hx=>by
  cases i with
  |zero=>obtain rfl:=af hx;exact Eo Y ht (by decide) rfl is
  |succ i=>exact ns hx) q) (bY hc _ (DD.lt A B t (B3 ht)))
 have q:=wh (i:=0) (k:=0) (x:=.int A) (y:=.int B) (x':=.int (gO A t)) (y':=.int (gP A B)) (z:=(vP e0 [⟨t,.n (DD.d A B t)⟩] (A,B)).ρ 0) (.inl (by decide)) (by decide)
 have O:=yt (e:=e0) (p:=[⟨t,.n (DD.d A B t)⟩]) (AB:=(A,B)) (i:=0) (by decide) rfl (k:=0) ⟨rfl,(rfl:dB ((vP e0 [⟨t,.n (DD.d A B t)⟩] (A,B)).ρ 0)=true)⟩
 refine gp O oE (Fp q.1 q.2.1 q.2.2.1 q.2.2.2.1 rfl) ?_ E
 show aD (aD (some (aF.list [.int A,.int B])) λo=>aD (aD (aD (aN (ai λ_=>none) (jF l)) λys=>some (.list ys)) λo=>aD (some []) λr=>some (o::r)) λr=>some (o::r))
  (λl0=>some (⟨65,[.loc 0,.loc 1],l0,30,.ok (.str (jZ l (DD.d A B t))),[(0,.list [.int (gO A t),.int (gP A B)])],[]⟩:gh))=_
 rw[Cm];rfl
theorem KN(Y:bu w.params Hp)(ht:j3 t=true)(hc:bO (λd=>fV (cA (iR [⟨t,.n d⟩])) MC (vl l d)) t=true)(hi:i<400)(hx:aj p i=some ⟨t,.t l⟩):bU (c0 w Hp) (vP e p AB) (oz i ⟨t,.t l⟩):=by
 have q:=wh (i:=i) (k:=3000+i) (x:=.int (DD.pt p AB i).1) (y:=.int (DD.pt p AB i).2) (x':=.int (gO (DD.pt p AB i).1 t)) (y':=.int (gP (DD.pt p AB i).1 (DD.pt p AB i).2)) (z:=.str (jZ l (DD.d (DD.pt p AB i).1 (DD.pt p AB i).2 t))) (.inr (by omega)) hi
 have ez:(vP e p AB).ρ (3000+i)=.str (jZ l (DD.d (DD.pt p AB i).1 (DD.pt p AB i).2 t)):=by rw[Av (by omega)];unfold tP;rw[hx]
 refine gp (v:=vP e p AB) oE (yt hi hx (k:=3000+i) ⟨ez,rfl⟩) ?_ (Fp q.1 q.2.1 q.2.2.1 q.2.2.2.1 q.2.2.2.2) (Yz Y ht hc (vP e p AB) (DD.pt p AB i).1 (DD.pt p AB i).2)
 show aD (aD (some (aF.list [.int (DD.pt p AB i).1,.int (DD.pt p AB i).2])) λo=>aD (aD (aD (aN (ai λ_=>none) (jF l)) λys=>some (.list ys)) λo=>aD (some []) λr=>some (o::r)) λr=>some (o::r))
  (λl0=>some (⟨65,[.loc 0,.loc 1],l0,30,.ok (.str (jZ l (DD.d (DD.pt p AB i).1 (DD.pt p AB i).2 t))),[(0,.list [.int (gO (DD.pt p AB i).1 t),.int (gP (DD.pt p AB i).1 (DD.pt p AB i).2)])],[]⟩:gh))=_
 rw[Cm];rfl
inductive nj:Dr->Prop
 |n {t d:Nat}:j3 t=true->nj ⟨t,.n d⟩
 |z {t:Nat}:j3 t=true->nj ⟨t,.z⟩
 |words:nj ⟨13,.t kQ⟩
 |abc:nj ⟨3,.t kH⟩
theorem YX(Y:bu w.params Hp)(hp:DD.is p AB)(hi:i<400)(hx:aj p i=some x)(h:nj x):bU (c0 w Hp) (vP e p AB) (oz i x):=by
 cases h with
 |n ht=>exact Eo Y ht hi hx hp
 |z ht=>exact UI Y ht hi hx
 |words=>exact KN Y (by decide+kernel) Zo hi hx
 |abc=>exact KN Y (by decide+kernel) Xo hi hx
end
def eY:Fr:=⟨ma.sc,[(148,0)],false⟩
def Ez(r:List (Nat×V))(ks:List Nat):List V:=List.rec [] (λk _ ih=>Option.rec .none (λv=>v) (au r k)::ih) ks
def yY(σ:Sg)(ks:List Nat)(pl:List gF)(l0:List aF)(r0:List (Nat×V)):Bool:=
 Option.rec false (λbs=>aa (uz ⟨db bs 0,iS⟩ bs l0 σ.H) (aa (AA ⟨db bs 0,iS⟩ σ.r r0) (AK [(148,0)] bs) false) false) (qs (.loc 0::Ez σ.r ks) σ.H pl [])
def oj(O:Nat->List V->HT->Option (Nat×R0))(m:Nat)(b1:List S)(σ:Sg)(ks:List Nat)(pl:List gF)(l0:List aF)(r0:List (Nat×V)):Bool:=
 R.rec (λf ba=>Fl.rec (yY ba ks pl l0 r0) (λ_=>false) f) (λ_ _ _ _=>false) false (execs (ev (cA O) MC m) eY b1 σ)
def Ru(v:V):Bool:=Option.rec false (λb=>b) (kY v)
def zX(O:Nat->List V->HT->Option (Nat×R0))(m:Nat)(b1:List S)(σ:Sg):Bool:=
 R.rec (λf _=>Fl.rec false (λv=>Ru v) f) (λ_ _ _ _=>false) false (execs (ev (cA O) MC m) eY b1 σ)
structure hW(w:World)(Hp:Heap)(b:Nat->Value)(A:Around)(env:Env):Prop where
 Y:bu w.params Hp
 hb:gr (c0 w Hp) b
 e:aJ (cX w Hp O0 b v0) 340 A env eY
section
variable{w:World}{Hp:Heap}{b:Nat->Value}{A:Around}{env:Env}{v:cc}{T:Tb}{μ:Mu}{s:Shared}{Q:Flow->Shared->Prop}{E:Value->Shared->Prop}{O:Nat->List V->HT->Option (Nat×R0)}{m:Nat}{b1 b2:List Mine.S}{σ:Sg}
theorem hW.at(M:hW w Hp b A env)(T:Tb)(v:cc){n:Nat}(h:n<=340):aJ ((c0 w Hp).vw T b v) n A env eY:=((M.e.turn (wi (c0 w Hp) (cA O0) b b v0 v)).tbl (T':=T)).le h
def rF(w:World)(Hp:Heap)(b:Nat->Value)(O:Nat->List V->HT->Option (Nat×R0))(v:cc):Prop:=∀k vs H d r,O k vs H=some (d,r)->jI (cX w Hp O b v) k vs H r d
theorem vn(M:hW w Hp b A env)(hm:m<=340)(hO:rF w Hp b O v)(cj:oj O m b1 σ ks pl l0 r0=true)(o:Ok ((c0 w Hp).vw T b v) gc A env eY μ σ s)
 (k:∀av s',s'.gens=s.gens->s'.os=s.os->Ok (cX w Hp O b v) gc A env eY av ⟨hL l0,r0⟩ s'->wpAny (c0 w Hp).M A (PySem.execs (cU n b2) env) Q E s'):wpAny (c0 w Hp).M A (PySem.execs (cU n (b1++b2)) env) Q E s:=by
 have S:=(found M.Y).s O b v M.hb (Bc hO) m
 refine VF (c:=cX w Hp O b v) S.eS (M.at (cA O) v hm) b2 b1 (o.tbl (T':=cA O)) ?_
 revert cj
 unfold oj
 cases e:execs (ev (cA O) MC m) eY b1 σ with
 |ok f ba=>
  cases f with
  |next=>
   intro cj
   show ac (cX w Hp O b v) gc A env eY _ μ s (execs (ev (cA O) MC m) eY b1 σ) _ E
   rw[e]
   intro av s' y nx o' dv
   cases y with
   |next=>
    have cj:yY ba ks pl l0 r0=true:=cj
    unfold yY at cj
    cases hp:qs (.loc 0::Ez ba.r ks) ba.H pl [] with
    |none=>rw[hp] at cj;exact ft cj
    |some bs=>
     rw[hp] at cj
     have r1:=aO (cj)
     have r2:=aO r1.2
     exact k _ _ nx.gens nx.os (o'.cut v.sp r1.1 r2.1 r2.2)
   |_=>exact dv.elim
  |ret v=>exact λcj=>ft cj
 |exc=>exact λcj=>ft cj
 |stuck=>exact λcj=>ft cj
theorem OC(M:hW w Hp b A env)(hm:m<=340)(hO:rF w Hp b O v)(cj:zX O m b1 σ=true)(o:Ok ((c0 w Hp).vw T b v) gc A env eY μ σ s)
 (k:∀c av ba s',s'.gens=s.gens->s'.os=s.os->jL (c0 w Hp) c->Ok c gc A env eY av ba s'->Q (.ret (.bool true)) s'):wpAny (c0 w Hp).M A (PySem.execs (cU n b1) env) Q E s:=by
 have S:=(found M.Y).s O b v M.hb (Bc hO) m
 refine ou (c:=cX w Hp O b v) S.eS (M.at (cA O) v hm) b1 (o.tbl (T':=cA O)) ?_
 revert cj
 unfold zX
 cases e:execs (ev (cA O) MC m) eY b1 σ with
 |ok f ba=>
  cases f with
  |next=>exact λcj=>ft cj
  |ret x=>
   intro cj
   show ac (cX w Hp O b v) gc A env eY _ μ s (execs (ev (cA O) MC m) eY b1 σ) _ E
   rw[e]
   intro av s' y nx o' dv
   cases y with
   |ret y=>
    have cj:Option.rec false (λb=>b) (kY x)=true:=cj
    cases hx:kY x with
    |none=>rw[hx] at cj;exact ft cj
    |some bb=>
     rw[hx] at cj
     have cj:=cj
     subst cj
     rw[pC hx] at dv
     have dv:=dv
     subst dv
     exact k (cX w Hp O b v) _ _ _ nx.gens nx.os ⟨rfl,rfl,rfl,rfl,rfl,rfl,rfl,rfl⟩ o'
   |_=>exact dv.elim
 |exc=>exact λcj=>ft cj
 |stuck=>exact λcj=>ft cj
end
def uQ(a b:List (List Nat)):Bool:=dp seq a b
def D6(x:Dr):Bool:=Dw.rec (λ_=>j3 x.top) (j3 x.top) (λl=>aa (Nat.beq x.top 13) (uQ l kQ) (aa (Nat.beq x.top 3) (uQ l kH) false)) x.w
def gZ(p:List Dr):Bool:=List.rec true (λx _ ih=>aa (D6 x) ih false) p
def Ac(f g:Nat->List V->HT->Option (Nat×R0))(k:Nat)(vs:List V)(H:HT):Option (Nat×R0):=Option.rec (g k vs H) (λx=>some x) (f k vs H)
theorem EE:∀{b:List (List Nat)},uQ a b=true->a=b:=by
 induction a with
 |nil=>exact λ{b} h=>by cases b with|nil=>rfl|cons=>exact ft h
 |cons x r ih=>
  intro b h
  cases b with
  |nil=>exact ft h
  |cons y q=>
   have h:=aO h
   rw[fk.mp h.1,ih h.2]
theorem Vu(h:D6 x=true):nj x:=by
 obtain⟨t,w⟩:=x
 cases w with
 |n d=>exact .n h
 |z=>exact .z h
 |t l=>
  have h:aa (Nat.beq t 13) (uQ l kQ) (aa (Nat.beq t 3) (uQ l kH) false)=true:=h
  cases e:Nat.beq t 13 with
  |true=>rw[e] at h;rw[bx.mp e,EE h];exact .words
  |false=>
   rw[e] at h
   have h:=aO (h)
   rw[bx.mp h.1,EE h.2];exact .abc
theorem Fz(h:gZ p=true):∀{i:Nat} {x:Dr},aj p i=some x->nj x:=by
 induction p with
 |nil=>exact λe=>ns e
 |cons y r ih=>
  have h:=aO (h)
  exact λ{i x} e=>by
   cases i with
   |zero=>obtain rfl:=af e;exact Vu h.1
   |succ i=>exact ih h.2 e
theorem ZI(hf:∀k vs H d r,f k vs H=some (d,r)->CT (c0 w Hp) v k vs H r d)(hg:∀k vs H d r,g k vs H=some (d,r)->CT (c0 w Hp) v k vs H r d)(hb:gr (c0 w Hp) b):
 rF w Hp b (Ac f g) v:=λk vs H d r h=>by
 have h:Option.rec (g k vs H) (λx=>some x) (f k vs H)=some (d,r):=h
 cases e:f k vs H with
 |none=>rw[e] at h;exact hg k vs H d r h _ _ hb
 |some x=>rw[e] at h;exact hf k vs H d r (e.trans h) _ _ hb
theorem Mv(Y:bu w.params Hp)(hp:DD.is p AB)(hd:gZ p=true)(hl:p.length<=400)(k:Nat)(vs:List V)(H:HT)(d:Nat)(r:R0)(h:iR p k vs H=some (d,r)):CT (c0 w Hp) (vP e p AB) k vs H r d:=
 Ib (λi x hx=>YX Y hp (Nat.lt_of_lt_of_le (iP hx) hl) hx (Fz hd hx)) h
def td(k:Nat)(vs:List V)(H:HT):Option (Nat×R0):=
 aa (Nat.beq k 63) (List.rec .none (λv r _=>List.rec (aa (dM (dX v) 14) (some (20,.ok (.loc H.n) (aH H (.list [.atom (aP 0),.atom (aQ 0)])))) .none) (λ_ _ _=>.none) r) vs) .none
def fY(a k:Nat):List S:=i4 k (nL a ma.body)
def sF:List aF:=[.cell (some (.loc 1)),.list [.atom (aP 0),.atom (aQ 0)]]
def CS:List gF:=[.arg 0,.at 0 0]
theorem OK:oj td 300 (fY 0 2) ⟨hL [.cell none],[(143,.bi 14)]⟩ [] CS sF []=true:=by kernel_rfl
def aA(l:List V):V:=List.rec .nil (λx _ ih=>.cons x ih) l
def Ef:V:=.str [115,116,114,117,99,116]
def GH:V:=.str [101,110,117,109]
def A7:V:=.str [109,111,100]
def J6:V:=.str [116,114,97,105,116]
def qq:V:=.str [117,110,105,116]
def kB:V:=.str [116,117,112,108,101]
def n6:V:=.str [110,97,109,101,100]
def cM:V:=.str [77]
def cm:V:=.str [109]
def cP:V:=.str [80]
def YL:V:=.str [109,58,58,80]
def Up:V:=.str [109,58,58,77]
def Gc:V:=.str [97,100,116]
def qx:V:=.str [112,97,114,97,109]
def XZ:V:=.str [118,97,114,105,97,110,116]
def qu:V:=.str [116,121,112,101,32,102,97,117,108,116]
def k4:V:=.str [110,97,109,101,32,102,97,117,108,116]
def qP:V:=.str [97,32,116,121,112,101,32,104,97,115,32,116,111,32,98,101,32,116,111,108,100]
def dN(md:Bool):V:=aa md cm (.str [])
def kZ(md:Bool):V:=aa md YL cP
def na(md:Bool):V:=aa md Up cM
def aR:V:=.atom 100
def il(i:Nat):V:=.atom (Nat.add 101 i)
def hY(i:Nat):V:=.atom (Nat.add 210 i)
def rC:List Nat->List V->List V:=λnm bd=>List.rec (motive:=λ_=>List V->List V) (λ_=>[]) (λx _ ih bd=>List.rec [] (λb q _=>aA [.str [x],b]::ih q) bd) nm bd
def ID(bd:List V):V:=aA [aR,aA (rC [84,85] bd)]
def zi:V:=aA [J6,.int 2,cM,aA [.nil,.nil],.nil,.bool true]
def Bp(i:Nat)(tr:V):V:=aA [.str [Nat.add 65 i],hY i,tr]
def P8(trs:List V):List V:=List.rec (motive:=λ_=>Nat->List V) (λ_=>[]) (λt _ ih i=>Bp i t::ih (Nat.succ i)) trs 0
def ud(K:Option V)(bd trs:List V):V:=Option.rec (aA [GH,.int 3,cP,ID bd,aA (P8 trs),.bool false]) (λf=>aA [Ef,.int 3,cP,ID bd,f,Option.rec .nil (λt=>t) (aj trs 0),.bool false]) K
def Aw(md:Bool)(K:Option V)(bd trs:List V):List V:=aa md [aA [A7,.int 1,cm,aA [zi,ud K bd trs],.bool true]] [zi,ud K bd trs]
def cJ(v:V):List Nat:=Option.rec [] (λs=>s) (cR v)
def qA(K:Option V):Bool:=Option.rec true (λ_=>false) K
def ua(K:Option V):Bool:=Option.rec false (λf=>aa (seq (cJ f) (cJ n6)) false true) K
def X2(a b:List Nat):List Nat:=app a (app [58,58] b)
def Vd(md:Bool)(n:Nat):List (List Nat×V):=List.rec [] (λi _ ih=>(X2 (cJ (kZ md)) [Nat.add 65 i],XZ)::ih) (co 0 n)
def jn(md:Bool)(K:Option V)(n:Nat):aF:=.dict (([],A7)::app (aa md [(cJ cm,A7)] []) ((cJ (na md),J6)::(cJ (kZ md),aa (qA K) GH Ef)::aa (qA K) (Vd md n) []))
def Mp(md:Bool):aF:=.dict (([],.bool true)::app (aa md [(cJ cm,.bool true)] []) [(cJ (na md),.bool true),(cJ (kZ md),.bool false)])
def je(md:Bool):aF:=.dict [(cJ cM,na md),(cJ cP,kZ md)]
def GV(md:Bool)(K:Option V):aF:=.dict (aa (ua K) [(cJ cP,kZ md)] [])
def vd(np:Nat):V:=aA (i4 np [.str [84],.str [85]])
def Pq(md:Bool)(np:Nat):aF:=.dict [(cJ (na md),aA [.nil,.nil]),(cJ (kZ md),aA [aR,vd np])]
def Rs(md:Bool)(K:Option V)(bd trs:List V):aF:=.dict [(cJ (na md),zi),(cJ (kZ md),ud K bd trs)]
def i3(its mod wor lat owe:V):aF:=.inst 13 [(64,its),(20,mod),(121,wor),(122,lat),(123,owe)]
def kw(ki pu ta ge it ke:V):aF:=.inst 8 [(47,ki),(69,pu),(70,ta),(22,ge),(64,it),(71,ke)]
def kN(ty va us:V):aF:=.inst 7 [(42,ty),(60,va),(61,us)]
def TR(m a v s t i c b:V):aF:=.inst 11 [(20,m),(110,a),(103,v),(111,s),(112,t),(113,i),(114,c),(115,b)]
def ls(k:Nat):V:=.loc k
def yv(md:Bool)(K:Option V)(bd trs:List V):List aF:=
 app [kw (ls 3) (ls 4) (ls 5) (ls 10) (ls 11) (ls 12),jn md K (len trs),Mp md,.dict (([],ls 6)::aa md [(cJ cm,ls 23)] []),kN (ls 7) (ls 8) (ls 9),aa md (.dict [(cJ cm,cm)]) (je md),aa md (.dict []) (GV md K),.dict [],Pq md (len bd),Rs md K bd trs,.dict [],
  TR (ls 2) (ls 14) (ls 15) (ls 16) (ls 17) (ls 18) (ls 19) (ls 20),.dict [],.dict [],.dict [],.dict [],.list [],.dict [],.dict [],.list [],.list []]
  (aa md [kN (ls 24) (ls 25) (ls 26),je md,GV md K,.dict []] [])
def XD(md:Bool):List gF:=
 app [.at 0 20,.at 2 47,.at 2 69,.at 2 70,.at 5 0,.at 6 42,.at 6 60,.at 6 61,.at 2 22,.at 2 64,.at 2 71,.at 0 121,.at 13 110,.at 13 103,.at 13 111,.at 13 112,.at 13 113,.at 13 114,.at 13 115,.at 0 122,.at 0 123]
  (aa md [.at 5 1,.at 23 42,.at 23 60,.at 23 61] [])
def oY(md:Bool)(K:Option V)(bd trs:List V):En:=
 ⟨47,[.loc 0,.loc 1],[.inst 13 [],.list (Aw md K bd trs)],[.arg 0,.arg 1],[],60,.ok .none,[(0,i3 (ls 1) (ls 2) (ls 13) (ls 21) (ls 22))],yv md K bd trs,XD md⟩
def ze(n:Nat):List V:=i4 n [.atom 280,.atom 281]
def A2(n:Nat):List V:=i4 n [.atom 101,.atom 102,.atom 103]
def kr(f:Bool->Bool):Bool:=aa (f false) (f true) false
def Ks:List (Option V×Nat):=[(.none,0),(.none,1),(.none,2),(.none,3),(some qq,1),(some kB,1),(some n6,1)]
def eJ{α:Type}(l:List α)(f:α->Bool):Bool:=List.rec true (λx _ ih=>aa (f x) ih false) l
theorem PI:kr (λmd=>eJ Ks λK=>bO (λnp=>fV TZ MC (oY md K.1 (ze np) (A2 K.2))) 3)=true:=by kernel_rfl
def lH(fl:List Bool):List V:=List.rec [] (λb _ ih=>aa b (aA [aA [aA [cM,.nil,.nil]]]) .nil::ih) fl
def Kw(fl:List Bool):Bool:=List.rec false (λb _ ih=>aa b true ih) fl
def gs(md:Bool)(fl:List Bool):List V:=List.rec (motive:=λ_=>List Nat->List V) (λ_=>[]) (λb _ ih nm=>List.rec [] (λx q _=>aA [.str [x],aa b (aA [na md]) .nil]::ih q) nm) fl [84,85]
def ky(md:Bool)(R p s:V):aF:=.inst 12 [(21,dN md),(41,R),(45,p),(23,s)]
def xJ(R:V)(fl:List Bool):V:=aA [R,aA (rC [84,85] (lH fl))]
def Bf(md:Bool)(R:V)(fl:List Bool):En:=
 ⟨51,[.loc 0,.loc 1,xJ R fl,.int 3],[i3 (.bi 14) (.bi 15) (.bi 16) (.bi 17) (.bi 18),ky md .nil (ls 2) .none,.list []],[.arg 0,.arg 1,.at 1 45],[(14,.at 0 64),(15,.at 0 20),(16,.at 0 121),(17,.at 0 122),(18,.at 0 123)],60,
  .ok (aA [ls 3,ls 5]),[],[ky md R (ls 4) .none,.list (gs md fl),.list (gs md fl)],[.tup (.arg 0) 0,.at 3 45,.tup (.arg 0) 1]⟩
def zW(md:Bool)(K:Option V×Nat)(R:V)(fl:List Bool):En:=
 ⟨51,[.loc 0,.loc 1,xJ R fl,.int 3],
  [i3 (.bi 14) (ls 2) (.bi 16) (.bi 17) (.bi 18),ky md .nil (ls 3) .none,kw (ls 4) (ls 5) (ls 6) (ls 7) (.bi 19) (.bi 20),.list [],jn md K.1 K.2,Mp md,.dict (aa md [([],.bi 21),(cJ cm,ls 8)] [([],ls 8)]),.dict [(cJ (na md),aA [.nil,.nil]),(cJ (kZ md),aA [R,vd (len fl)])],kN (ls 9) (.bi 22) (.bi 23),je md],
  [.arg 0,.arg 1,.at 0 20,.at 1 45,.at 2 47,.at 2 69,.at 2 70,.at 2 22,.at 6 (aa md 1 0),.at 8 42],
  app [(14,.at 0 64),(16,.at 0 121),(17,.at 0 122),(18,.at 0 123),(19,.at 2 64),(20,.at 2 71),(22,.at 8 60),(23,.at 8 61)] (aa md [(21,.at 6 0)] []),90,
  .ok (aA [ls 10,ls 12]),[(2,kw (ls 4) (ls 5) (ls 6) (ls 7) (.bi 19) (ls 13))],[ky md R (ls 11) .none,.list (gs md fl),.list (gs md fl),.dict []],[.tup (.arg 0) 0,.at 10 45,.tup (.arg 0) 1,.at 2 71]⟩
def o8(md:Bool)(K:Option V×Nat)(R:V)(fl:List Bool):En:=aa (Kw fl) (zW md K R fl) (Bf md R fl)
def cC:List (List Bool):=[[],[false],[true],[false,false],[false,true],[true,false],[true,true]]
theorem ui{P:List Bool->Prop}(h0:P [])(h1:P [false])(h2:P [true])(h3:P [false,false])(h4:P [false,true])(h5:P [true,false])(h6:P [true,true]):∀fl,fl∈cC->P fl:=
 bD ⟨h0,bD ⟨h1,bD ⟨h2,bD ⟨h3,bD ⟨h4,bD ⟨h5,bD ⟨h6,λ_ q=>nomatch q⟩⟩⟩⟩⟩⟩⟩
def b8(k:Nat):V:=aA (i4 k [.str [39,97],.str [39,98]])
theorem NN:kr (λmd=>eJ Ks λK=>eJ cC λfl=>bO (λk=>fV TZ MC (o8 md K (b8 k) fl)) 3)=true:=by kernel_rfl
structure D2 where
 sum:Bool
 nr:Nat
 fl:List Bool
def Ic(fl:List Bool):List V:=List.rec (motive:=λ_=>List Nat->List V) (λ_=>[]) (λb _ ih nm=>.cons (.str [List.rec 0 (λx _ _=>x) nm]) (.cons (.bool b) .nil)::ih (nL 1 nm)) fl [84,85]
def z0(d:Nat):Bool:=Nat.beq d 0
def T2:DT D2:=.ask 2 λd0=>.ask 3 λd1=>.ask 3 λd2=>Nat.rec (.leaf ⟨z0 d0,d1,[]⟩) (λk _=>Nat.rec (.ask 2 λe0=>.leaf ⟨z0 d0,d1,[z0 e0]⟩) (λ_ _=>.ask 2 λe0=>.ask 2 λe1=>.leaf ⟨z0 d0,d1,[z0 e0,z0 e1]⟩) k) d2
def Qs(D:D2)(x y:V):List aF:=[.cell (some (.loc 1)),.list [x,y],.list (Ic D.fl),.list []]
def Xe(D:D2)(r:V):List (Nat×V):=[(164,.bool D.sum),(41,r),(45,.loc 2),(129,.loc 3)]
def Mi:List gF:=[.arg 0,.at 0 0,.arg 1,.arg 2]
def N9(D:D2)(p:List Dr):Bool:=aa (aa (Nat.blt D.nr 3) (Nat.ble (len D.fl) 2) false) (aa (gZ p) (aa (Nat.ble (len p) 400) (oj (iR p) 60 (fY 2 3) ⟨hL sF,[]⟩ [45,129] Mi (Qs D (.atom (aP (len p))) (.atom (aQ (len p)))) (Xe D (b8 D.nr))) false) false) false
theorem TG:rI T2 N9 []=true:=by kernel_rfl
structure Rw where
 nm:V
 w:Nat
 z:Nat
structure Fm where
 kind:Nat
 rows:List Rw
def uo(k m:Nat):Nat->Nat->List Rw->(Nat->List Rw->DT (List Fm))->DT (List Fm):=
 Nat.rec (λi _ acc cont=>cont i acc) (λ_ ih i at_ acc cont=>aa (Nat.beq k 1) (.skip ⟨13,.t kQ⟩ (.skip ⟨2,.z⟩ (ih (Nat.add i 2) (Nat.succ at_) (app acc [⟨.str [Nat.add 48 at_],i,Nat.succ i⟩]) cont)))
  (.skip ⟨3,.t kH⟩ (.skip ⟨13,.t kQ⟩ (.skip ⟨2,.z⟩ (ih (Nat.add i 3) (Nat.succ at_) (app acc [⟨.atom (Nat.add 3000 i),Nat.succ i,Nat.add i 2⟩]) cont))))) m
def He(i:Nat)(cont:Nat->Fm->DT (List Fm)):DT (List Fm):=.ask 3 λk=>aa (Nat.beq k 0) (cont (Nat.succ i) ⟨0,[]⟩) (.ask 3 λm=>uo k m (Nat.add i 2) 0 [] λi' r=>cont i' ⟨k,r⟩)
def v4(n:Nat):Nat->List Fm->DT (List Fm):=Nat.rec (λ_ acc=>.leaf acc) (λ_ ih i acc=>He i λi' f=>ih i' (app acc [f])) n
def T3(sum:Bool):DT (List Fm):=aa sum (.ask 4 λn=>v4 n 1 []) (v4 1 0 [])
def pk(k:Nat):List Nat:=aa (Nat.beq k 0) [117,110,105,116] (aa (Nat.beq k 1) [116,117,112,108,101] [110,97,109,101,100])
def JJ(sum:Bool)(i:Nat):List Nat:=aa sum [Nat.add 65 i] []
def tI(sum:Bool)(f:List Fm):Nat->List V:=List.rec (λ_=>[]) (λx _ ih i=>.cons (.str (JJ sum i)) (.cons (.str (pk x.kind)) (.cons (.loc (Nat.add 4 i)) .nil))::ih (Nat.succ i)) f
def FZ(r:Rw):V:=.cons r.nm (.cons (.atom (Nat.add 3000 r.w)) (.cons (.atom (Nat.add 7000 r.z)) .nil))
def G4(l:List Rw):List V:=List.rec [] (λr _ ih=>FZ r::ih) l
def ER(f:List Fm):List aF:=List.rec [] (λx _ ih=>.list (G4 x.rows)::ih) f
def T4(x y:V):List aF:=[.cell (some (.loc 1)),.list [x,y],.opq 0,.list []]
def DS(sum:Bool):List (Nat×V):=[(164,.bool sum),(41,.atom 100),(45,.loc 2),(129,.loc 3)]
def Ra(sum:Bool)(f:List Fm)(x y:V):List aF:=app [.cell (some (.loc 1)),.list [x,y],.opq 0,.list (tI sum f 0)] (ER f)
def QB(f:List Fm):Nat->List gF:=List.rec (λ_=>[]) (λ_ _ ih i=>.tup (.at 3 i) 2::ih (Nat.succ i)) f
def Kz(p:List Dr)(k:Nat):Bool:=Option.rec false (λx=>Dw.rec (λ_=>false) false (λ_=>Nat.beq x.top 13) x.w) (aj p k)
def Kv(p:List Dr)(k:Nat):Bool:=Option.rec false (λx=>Dw.rec (λ_=>false) true (λ_=>false) x.w) (aj p k)
def qK(p:List Dr)(v:V):Bool:=Option.rec false (λc=>aa (Nat.ble 3000 c) (Option.rec false (λx=>Dw.rec (λ_=>false) false (λ_=>Nat.beq x.top 3) x.w) (aj p (Nat.sub c 3000))) false) (cu v)
def H3(v:V):Bool:=Option.rec false (λ_=>true) (cR v)
def Bm(p:List Dr)(r:Rw):Bool:=aa (Kz p r.w) (aa (Kv p r.z) (aa (qK p r.nm) true (H3 r.nm)) false) false
def K1(p:List Dr)(a b:V):Bool:=aa (qK p a) (qK p b) (Option.rec false (λs=>Option.rec false (λt=>aa (seq s t) false true) (cR b)) (cR a))
def Ah(p:List Dr)(l:List Rw):Bool:=List.rec true (λa r _=>aa (Bm p a) (List.rec true (λb q _=>aa (Bm p b) (aa (K1 p a.nm b.nm) (List.rec true (λ_ _ _=>false) q) false) false) r) false) l
def Yi(sum:Bool)(p:List Dr)(f:List Fm):Bool:=aa (aa sum (Nat.ble (len f) 3) (Nat.beq (len f) 1)) (List.rec true (λx _ ih=>aa (Ah p x.rows) ih false) f) false
def AS(sum:Bool)(f:List Fm)(p:List Dr):Bool:=aa (Yi sum p f) (aa (gZ p) (aa (Nat.ble (len p) 400) (oj (iR p) 60 (fY 5 1) ⟨hL (T4 (.atom (aP 0)) (.atom (aQ 0))),DS sum⟩ [45,129] (app Mi (QB f 0)) (Ra sum f (.atom (aP (len p))) (.atom (aQ (len p)))) (DS sum)) false) false) false
theorem NL:rI (T3 true) (AS true) []=true:=by kernel_rfl
theorem Uz:rI (T3 false) (AS false) []=true:=by kernel_rfl
def T5:DT Unit:=.ask 13 λ_=>.ask 3 λ_=>.leaf ()
def Z9(_:Unit)(p:List Dr):Bool:=aa (gZ p) (aa (Nat.ble (len p) 400) (oj (iR p) 120 (fY 7 1) ⟨hL sF,[]⟩ [] CS [.cell (some (.loc 1)),.list [.atom (aP (len p)),.atom (aQ (len p))]] []) false) false
theorem Vt:rI T5 Z9 []=true:=by kernel_rfl
def Kx(t:Nat)(n:Nat)(k:DT Unit):DT Unit:=Nat.rec k (λ_ ih=>.ask t λ_=>ih) n
def T6:DT Unit:=.ask 3 λn=>Kx 6 n (.ask 3 λ_=>.leaf ())
def W1(_:Unit)(p:List Dr):Bool:=aa (gZ p) (aa (Nat.ble (len p) 400) (zX (iR p) 120 (fY 8 2) ⟨hL sF,[]⟩) false) false
theorem P9:rI T6 W1 []=true:=by kernel_rfl
inductive Fc|ok (n:Nat)|bad (ty:Bool)|aft (f:Bool)
structure iY where
 md:Bool
 K:Option V
 fl:List Bool
 fs:List Fc
def lU(i j:Nat):V:=.atom (Nat.add (Nat.mul 2 i) j)
def mP(i j:Nat):V:=.atom (Nat.add 240 (Nat.add (Nat.mul 2 i) j))
def jY(i j:Nat):V:=.atom (Nat.add 250 (Nat.add (Nat.mul 2 i) j))
def ni(i j:Nat):V:=.atom (Nat.add 260 (Nat.add (Nat.mul 2 i) j))
def fb(i j:Nat):V:=.atom (Nat.add 70 (Nat.add (Nat.mul 2 i) j))
def iL(i:Nat):V:=.atom (Nat.add 220 i)
def lP(i:Nat):V:=.atom (Nat.add 230 i)
def bN{α β:Type}(f:α->β)(l:List α):List β:=List.rec [] (λx _ ih=>f x::ih) l
def Fc.n(f:Fc):Nat:=Fc.rec (λn=>n) (λ_=>0) (λ_=>0) f
def I3(i n:Nat):V:=aA (bN (λj=>aA [lU i j,ni i j,jY i j]) (co 0 n))
def xV(i:Nat)(f:Fc):V:=Fc.rec (λn=>I3 i n) (λ_=>il i) (λ_=>il i) f
def v9(i:Nat)(f:Fc):aF:=Fc.rec (λn=>.list (bN (λj=>aA [lU i j,mP i j,jY i j]) (co 0 n))) (λ_=>.opq (Nat.succ i)) (λ_=>.opq (Nat.succ i)) f
def Yp(i:Nat)(f:Fc):V:=Fc.rec (λ_=>.none) (λty=>aA [aa ty qu k4,lP i]) (λb=>aa b (.atom (Nat.add 110 i)) .none) f
def JS(i n:Nat):List V:=bN (λj=>aA [lU i j,fb i j]) (co 0 n)
def Vi(i:Nat)(f:Fc):aF:=Fc.rec (λn=>.list (JS i n)) (λ_=>.dead) (λ_=>.dead) f
def q9(fl:List Bool):List V:=i4 (len fl) [.str [84],.str [85]]
def rr(fl:List Bool)(i:Nat)(f:Fc):En:=
 ⟨71,[.loc 0,aR,.loc 1],[v9 i f,.list (q9 fl)],[.arg 0,.arg 2],[],40,.ok (aA [xV i f,ls 2,Yp i f]),[],[Vi i f],[.tup (.arg 0) 1]⟩
def Ce(md:Bool)(R:V)(fl:List Bool):V:=aA [Gc,kZ md,R,aA (bN (λx=>aA [qx,x]) (q9 fl))]
def lY(l:List (V×Nat)):List V:=bN (λq=>aA [q.1,ls 1,.int (.ofNat q.2)]) l
def nP(i n:Nat):List (V×Nat):=bN (λj=>(fb i j,Nat.add 40 j)) (co 0 n)
def AX(md:Bool)(fl:List Bool)(pre:List (V×Nat)):List aF:=[i3 (.bi 14) (.bi 15) (.bi 16) (.bi 17) (ls 2),ky md aR (ls 3) (Ce md aR fl),.list (lY pre),.list (gs md fl)]
def zk:List gF:=[.arg 0,.arg 1,.at 0 123,.at 1 45]
def B2:List (Nat×gF):=[(14,.at 0 64),(15,.at 0 20),(16,.at 0 121),(17,.at 0 122)]
def zq(md:Bool)(fl:List Bool)(i n:Nat)(pre:List (V×Nat)):En:=
 ⟨53,[.loc 0,.loc 1,I3 i n,.int 3],AX md fl pre,zk,B2,80,.ok (ls 4),[(2,.list (lY (app pre (nP i n))))],[.list (JS i n)],[.arg 0]⟩
def y5(md:Bool)(fl:List Bool)(i:Nat)(pre:List (V×Nat)):En:=
 ⟨53,[.loc 0,.loc 1,il i,.int 3],AX md fl pre,zk,B2,80,.exc 3 (iL i) (lP i),[(2,.dead)],[],[]⟩
def Cn(md:Bool)(K:Option V×Nat)(fl:List Bool)(i:Nat)(pre:List (V×Nat)):En:=
 ⟨53,[.loc 0,.loc 1,il i,.int 3],[i3 (.bi 14) (ls 4) (.bi 16) (.bi 17) (ls 2),ky md aR (ls 3) (Ce md aR fl),.list (lY pre),.list (gs md fl),kw (ls 5) (.bi 18) (ls 6) (.bi 19) (.bi 20) (.bi 21),jn md K.1 K.2,.dict (aa md [([],.bi 22),(cJ cm,ls 7)] [([],ls 7)]),kN (ls 8) (.bi 23) (ls 9),je md,.dict []],
  [.arg 0,.arg 1,.at 0 123,.at 1 45,.at 0 20,.at 4 47,.at 4 70,.at 6 (aa md 1 0),.at 7 42,.at 7 61],app [(14,.at 0 64),(16,.at 0 121),(17,.at 0 122),(18,.at 4 69),(19,.at 4 22),(20,.at 4 64),(21,.at 4 71),(23,.at 7 60)] (aa md [(22,.at 6 0)] []),80,
  .exc 1 (iL i) (lP i),[(2,.dead),(4,.dead)],[],[]⟩
def KJ(s:iY)(i:Nat)(f:Fc)(pre:List (V×Nat)):List En:=
 Fc.rec (λn=>[zq s.md s.fl i n pre]) (λty=>[aa ty (y5 s.md s.fl i pre) (Cn s.md (s.K,len s.fs) s.fl i pre)]) (λ_=>[]) f
def Oz(s:iY):List En:=List.rec (motive:=λ_=>Nat->List (V×Nat)->List En) (λ_ _=>[]) (λf _ ih i pre=>app (KJ s i f pre) (ih (Nat.succ i) (app pre (nP i f.n)))) s.fs 0 []
def cz{α β:Type}(f:Nat->α->β)(l:List α):List β:=List.rec (motive:=λ_=>Nat->List β) (λ_=>[]) (λx _ ih i=>f i x::ih (Nat.succ i)) l 0
def Wl(s:iY):List V:=cz xV s.fs
def O3(s:iY):List En:=oY s.md s.K (lH s.fl) (Wl s)::o8 s.md (s.K,len s.fs) aR s.fl::app (cz (rr s.fl) s.fs) (Oz s)
def Q8(K:Option V)(i:Nat):V:=Option.rec (aA [.str [Nat.add 65 i],hY i,ls (Nat.add 2 i)]) (λf=>aA [.str [],f,ls 2]) K
def om(fl:List Bool):List V:=List.rec (motive:=λ_=>List Nat->List V) (λ_=>[]) (λb _ ih nm=>List.rec [] (λx q _=>aA [.str [x],.bool b]::ih q) nm) fl [84,85]
def sV(s:iY):En:=
 ⟨72,[dN s.md,.bool (qA s.K),aR,.loc 0,.loc 1],app [.list (om s.fl),.list (cz (λi _=>Q8 s.K i) s.fs)] (cz v9 s.fs),app [.arg 3,.arg 4] (cz (λi _=>.tup (.at 1 i) 2) s.fs),[],200,.ok (.bool true),[],[],[]⟩
def sf(s:iY):Bool:=fV (cA (lZ (O3 s))) MC (sV s)
def aL(i:Nat):List Nat:=jZ kQ i
def xy:List Nat:=[117,56]
def wT:List Nat:=[84]
def wU:List Nat:=[85]
def zH:List Nat:=[40,41]
def qj:List Nat:=[112,97,105,114,32,111,102,32,84]
def mI:List Nat:=[95]
def nc:List Nat:=[98,111,120,32,111,102,32,95]
def xY:V:=.str [112,97,116,104]
def RQ:V:=.str [105,110,116]
def DR:V:=.str [114,101,102]
def xS:V:=.str [105,110,102,101,114]
def Hz:V:=.str xy
def Y5:V:=.str [66,111,120]
def Yy:V:=.str [98,111,120]
def AO(x:V):V:=aA [aA [x,.nil,.nil]]
def zN(s:Nat):V:=aA [xY,.int (.ofNat s),AO Hz]
def Bu:V:=aA [RQ,Hz]
def EQ(w:List Nat):V:=List.rec .none (λx q _=>List.rec .none (λ_ _ _=>.str q) q) w
def dU(w:List Nat)(s:Nat):V:=
 aa (seq w xy) (zN s) (aa (seq w zH) (aA [kB,.int (.ofNat s),.nil]) (aa (seq w mI) (aA [xS,.int (.ofNat s)]) (aa (aa (seq w wT) true (seq w wU)) (aA [xY,.int (.ofNat s),AO (.str w)])
  (aa (seq w qj) (aA [kB,.int (.ofNat s),aA [zN s,aA [xY,.int (.ofNat s),AO (.str wT)]]]) (aa (seq w nc) (aA [xY,.int (.ofNat s),aA [aA [Y5,.nil,aA [aA [xS,.int (.ofNat (Nat.succ s))]]]]])
   (aA [DR,.int (.ofNat s),EQ w,.bool true,zN s]))))))
def UR(w:List Nat)(nr:Nat):Bool:=List.rec false (λ_ q _=>List.rec false (λ_ _ _=>uV q (i4 nr [[39,97],[39,98]])) q) w
def dZ(w:List Nat)(nr np:Nat):Nat:=
 aa (aa (seq w xy) true (seq w zH)) 0 (aa (aa (seq w mI) true (seq w nc)) 1 (aa (aa (seq w wT) true (seq w qj)) (aa (Nat.blt 0 np) 0 2) (aa (seq w wU) (aa (Nat.blt 1 np) 0 2) (aa (UR w nr) 0 3))))
def eG(w:List Nat):V:=
 aa (seq w xy) Bu (aa (seq w zH) (aA [kB,.nil]) (aa (seq w mI) (aA [xS]) (aa (aa (seq w wT) true (seq w wU)) (aA [qx,.str w])
  (aa (seq w qj) (aA [kB,aA [Bu,aA [qx,.str wT]]]) (aa (seq w nc) (aA [Yy,aA [xS]]) (aA [DR,EQ w,.bool true,Bu]))))))
def i9(w:List Nat)(s nr np:Nat):V:=aa (Nat.beq (dZ w nr np) 0) (eG w) (aA [aa (Nat.beq (dZ w nr np) 1) qu k4,.int (.ofNat s)])
def gU(np:Nat):List V:=i4 np [.str [84],.str [85]]
def IT(w:List Nat)(s nr np:Nat):En:=⟨68,[.str w,.int (.ofNat s),b8 nr,.loc 0],[.list (gU np)],[.arg 3],[],30,.ok (aA [dU w s,i9 w s nr np]),[],[],[]⟩
def JW(w:List Nat)(s nr np:Nat):En:=⟨70,[i9 w s nr np],[],[],[],20,.ok (.bool (!(Nat.beq (dZ w nr np) 0))),[],[],[]⟩
def EA(w:List Nat)(s np:Nat):En:=⟨12,[.bi 20,.atom 270,.loc 0,.atom 105,dU w s],[.list (gU np)],[.arg 2],[(20,.arg 0)],50,.ok (eG w),[],[],[]⟩
def KV(w:List Nat):En:=⟨13,[eG w],[],[],[],30,.ok (.bool (!(aa (seq w mI) true (seq w nc)))),[],[],[]⟩
def eC(w:List Nat):List Nat:=List.rec [] (λ_ q _=>List.rec [97,32,114,101,103,105,111,110,32,104,97,115,32,116,111,32,98,101,32,116,111,108,100] (λ_ _ _=>app [110,111,32,114,101,103,105,111,110,32,105,115,32,110,97,109,101,100,32] q) q) w
def uR(w:List Nat)(s nr np:Nat):En:=⟨3,[eG w,b8 nr,.int (.ofNat s)],[],[],[],30,aa (Nat.beq (dZ w nr np) 3) (.exc 1 (.str (eC w)) (.int (.ofNat s))) (.ok .none),[],[],[]⟩
def iE(f:List Nat->Bool):Bool:=bO (λi=>f (aL i)) 13
theorem TP:iE (λw=>bO (λs=>bO (λnr=>bO (λnp=>fV TZ MC (IT w (Nat.add 40 s) nr np)) 3) 3) 2)=true:=by kernel_rfl
theorem UT:iE (λw=>bO (λs=>bO (λnr=>bO (λnp=>fV TZ MC (JW w (Nat.add 40 s) nr np)) 3) 3) 2)=true:=by kernel_rfl
theorem UY:iE (λw=>bO (λs=>bO (λnp=>aa (Nat.beq (dZ w 2 np) 2) true (fV TZ MC (EA w (Nat.add 40 s) np))) 3) 2)=true:=by kernel_rfl
theorem N5:iE (λw=>fV TZ MC (KV w))=true:=by kernel_rfl
theorem PM:iE (λw=>bO (λs=>bO (λnr=>bO (λnp=>aa (aa (Nat.beq (dZ w nr np) 1) true (Nat.beq (dZ w nr np) 2)) true (fV TZ MC (uR w (Nat.add 40 s) nr np))) 3) 3) 2)=true:=by kernel_rfl
def qN(w:List Nat):List Nat:=app [110,111,116,104,105,110,103,32,105,115,32,110,97,109,101,100,32] (aa (seq w wU) wU wT)
def FT(md:Bool)(K:Option V×Nat)(w:List Nat)(s np:Nat):En:=
 ⟨12,[.loc 0,dN md,.loc 1,.atom 105,dU w s],[kw (ls 2) (.bi 18) (ls 3) (.bi 19) (.bi 20) (.bi 21),.list (gU np),jn md K.1 K.2,.dict (aa md [([],.bi 22),(cJ cm,ls 4)] [([],ls 4)]),kN (ls 5) (.bi 23) (ls 6),je md,.dict []],
  [.arg 0,.arg 2,.at 0 47,.at 0 70,.at 3 (aa md 1 0),.at 4 42,.at 4 61],app [(18,.at 0 69),(19,.at 0 22),(20,.at 0 64),(21,.at 0 71),(23,.at 4 60)] (aa md [(22,.at 3 0)] []),60,.exc 1 (.str (qN w)) (.int (.ofNat s)),[(0,.dead)],[],[]⟩
theorem Yb:kr (λmd=>eJ Ks λK=>eJ [wT,wU,qj] λw=>bO (λs=>bO (λnp=>aa (Nat.beq (dZ w 2 np) 2) (fV TZ MC (FT md K w (Nat.add 40 s) np)) true) 3) 2)=true:=by kernel_rfl
def xC(np j:Nat):En:=⟨68,[mP 0 j,.int (.ofNat (Nat.add 40 j)),aR,.loc 0],[.list (gU np)],[.arg 3],[],30,.ok (aA [ni 0 j,fb 0 j]),[],[],[]⟩
def yi(b:Bool)(j:Nat):En:=⟨70,[fb 0 j],[],[],[],20,.ok (.bool b),[],[],[]⟩
def js(a:Nat)(j:Nat):V:=aA [.atom a,mP 0 j,jY 0 j]
def jk(a:Nat)(j:Nat):V:=aA [.atom a,ni 0 j,jY 0 j]
def CJ(c:Nat):List V:=hgetD [[],[js 0 0],[js 0 0],[js 0 0,js 1 1],[js 0 0,js 1 1],[js 0 0,js 0 1],[js 0 0,js 1 1],[js 0 0,js 0 1]] c
where hgetD (l:List (List V)) (c:Nat):List V:=Option.rec [] (λx=>x) (aj l c)
def LR(c:Nat):List V:=CJ.hgetD [[],[jk 0 0],[jk 0 0],[jk 0 0,jk 1 1],[jk 0 0,jk 1 1],[jk 0 0,jk 0 1],[jk 0 0,jk 1 1],[jk 0 0,jk 0 1]] c
def JN(c:Nat):aF:=Option.rec .dead (λx=>x) (aj [.list [],.list [aA [.atom 0,fb 0 0]],.dead,.list [aA [.atom 0,fb 0 0],aA [.atom 1,fb 0 1]]] c)
def Ki(c:Nat):V:=Option.rec .none (λx=>x) (aj [.none,.none,fb 0 0,.none,fb 0 1,aA [k4,.int 3],fb 0 0,fb 0 0] c)
def Bw(c:Nat):Bool:=aa (Nat.beq c 2) true (aa (Nat.beq c 6) true (Nat.beq c 7))
def Em(c np:Nat):List En:=xC np 0::xC np 1::yi (Bw c) 0::aa (aa (Nat.beq c 3) true (Nat.beq c 4)) [yi (Nat.beq c 4) 1] []
def qE(dd:Bool)(c np:Nat):En:=⟨71,[.loc 0,aR,.loc 1],[.list (CJ c),.list (gU np)],[.arg 0,.arg 2],[],40,.ok (aA [aA (LR c),ls 2,Ki c]),[],[aa dd .dead (JN c)],[.tup (.arg 0) 1]⟩
theorem S0:kr (λdd=>bO (λc=>bO (λnp=>fV (cA (lZ (Em c np))) MC (qE dd c np)) 3) 8)=true:=by kernel_rfl
def fP(j k:Nat):V:=.atom (Nat.add 320 (Nat.add (Nat.mul 5 j) k))
def cZ(j:Nat):V:=.int (.ofNat (Nat.add 40 j))
def rA(o j:Nat):V:=
 Option.rec (ni 0 j) (λx=>x) (aj [aA [fP j 0,cZ j,fP j 1],aA [fP j 0,cZ j,fP j 1,fP j 2,fP j 3],aA [fP j 0,cZ j],aA [fP j 0,cZ j,fP j 1],aA [fP j 0,cZ j,fP j 1,fP j 2,fP j 3],aA [fP j 0,cZ j,fP j 1]] o)
def fN(o:Nat):Bool:=aa (Nat.beq o 2) true (Nat.beq o 3)
def pg(o j:Nat):V:=aa (fN o) (.atom (Nat.add 340 j)) (fb 0 j)
def rB:V:=.atom 270
def zF(m:V)(np o j:Nat):En:=⟨12,[.bi 20,m,.loc 0,.atom 105,rA o j],[.list (gU np)],[.arg 2],[(20,.arg 0)],50,.ok (pg o j),[],[],[]⟩
def B8(o j:Nat):En:=⟨13,[pg o j],[],[],[],30,.ok (.bool (!(fN o))),[],[],[]⟩
def vb(o j:Nat):En:=⟨3,[pg o j,aR,cZ j],[],[],[],30,aa (Nat.beq o 4) (.exc 1 (iL 0) (cZ j)) (.ok .none),[],[],[]⟩
def mS(pl:Nat):List V:=bN (λq=>aA [.atom (Nat.add 300 q),ls 1,.atom (Nat.add 310 q)]) (co 0 pl)
def u7(np:Nat):List V:=i4 np [aA [.str [84],.atom 290],aA [.str [85],.atom 291]]
def FE(m:V):aF:=.inst 12 [(21,m),(41,aR),(45,ls 3),(23,.atom 105)]
def v6(d:List Nat)(o j:Nat):V:=aa (Nat.beq o 7) (.atom 360) (List.rec (.atom j) (λ_ _ _=>.str d) d)
def nN(d:List Nat)(os:List Nat):List V:=cz (λj o=>aA [v6 d o j,rA o j,jY 0 j]) os
def sL(os:List Nat):List V:=cz (λj _=>aA [fb 0 j,ls 1,cZ j]) os
def tm(d:List Nat)(os:List Nat):List V:=cz (λj o=>aA [v6 d o j,fb 0 j]) os
def eK(os:List Nat):Option (Nat×Nat):=List.rec (motive:=λ_=>Nat->Option (Nat×Nat)) (λ_=>.none) (λo _ ih j=>aa (Nat.ble o 1) (ih (Nat.succ j)) (some (o,j))) os 0
def xT(d:List Nat):V:=.str (app [116,104,101,32,102,105,101,108,100,32] (app d [32,105,115,32,116,111,108,100,32,116,119,105,99,101]))
def mJ(d:List Nat)(o j:Nat):Rz:=aa (fN o) (.exc 3 qP (cZ j)) (aa (Nat.beq o 6) (.exc 1 (xT d) (.int 3)) (.exc 1 (iL 0) (cZ j)))
def jD(m:V)(np pl:Nat)(d:List Nat)(os:List Nat):En:=
 ⟨53,[.loc 0,.loc 1,aA (nN d os),.int 3],[i3 (.bi 14) (.bi 15) (.bi 16) (.bi 17) (ls 2),FE m,.list (mS pl),.list (u7 np)],zk,B2,80,
  Option.rec (.ok (ls 4)) (λq=>mJ d q.1 q.2) (eK os),[(2,Option.rec (.list (app (mS pl) (sL os))) (λ_=>.dead) (eK os))],Option.rec [.list (tm d os)] (λ_=>[]) (eK os),Option.rec [.arg 0] (λ_=>[]) (eK os)⟩
def Ct(m:V)(np o j:Nat):List En:=aa (Nat.blt o 5) (zF m np o j::B8 o j::aa (fN o) [] [vb o j]) []
def tc(m:V)(np:Nat)(os:List Nat):List En:=List.rec (motive:=λ_=>Nat->List En) (λ_=>[]) (λo _ ih j=>app (Ct m np o j) (ih (Nat.succ j))) os 0
def qk:List (List Nat×List Nat):=
 app (bN (λl=>([],l)) [[],[0],[1],[2],[3],[4],[0,0],[0,1],[0,2],[0,3],[0,4],[1,0],[1,1],[1,2],[1,3],[1,4],[2,7],[3,7],[4,7]])
  [([97],[0,6]),([97],[1,6]),([98],[0,6]),([98],[1,6]),([99],[0,6]),([99],[1,6])]
theorem U1:bO (λnp=>bO (λpl=>eJ qk λc=>fV (cA (lZ (tc rB np c.2))) MC (jD rB np pl c.1 c.2)) 5) 3=true:=by kernel_rfl
def v8(md:Bool)(K:Option V×Nat)(np j:Nat):En:=
 ⟨12,[.loc 0,dN md,.loc 1,.atom 105,rA 5 j],[kw (ls 2) (.bi 18) (ls 3) (.bi 19) (.bi 20) (.bi 21),.list (gU np),jn md K.1 K.2,.dict (aa md [([],.bi 22),(cJ cm,ls 4)] [([],ls 4)]),kN (ls 5) (.bi 23) (ls 6),je md,.dict []],
  [.arg 0,.arg 2,.at 0 47,.at 0 70,.at 3 (aa md 1 0),.at 4 42,.at 4 61],app [(18,.at 0 69),(19,.at 0 22),(20,.at 0 64),(21,.at 0 71),(23,.at 4 60)] (aa md [(22,.at 3 0)] []),60,.exc 1 (iL 0) (cZ j),[(0,.dead)],[],[]⟩
def BR(md:Bool)(K:Option V×Nat)(np pl:Nat)(d:List Nat)(os:List Nat):En:=
 ⟨53,[.loc 0,.loc 1,aA (nN d os),.int 3],[i3 (.bi 14) (ls 4) (.bi 16) (.bi 17) (ls 2),FE (dN md),.list (mS pl),.list (u7 np),kw (ls 5) (.bi 18) (ls 6) (.bi 19) (.bi 20) (.bi 21),jn md K.1 K.2,.dict (aa md [([],.bi 22),(cJ cm,ls 7)] [([],ls 7)]),kN (ls 8) (.bi 23) (ls 9),je md,.dict []],
  [.arg 0,.arg 1,.at 0 123,.at 1 45,.at 0 20,.at 4 47,.at 4 70,.at 6 (aa md 1 0),.at 7 42,.at 7 61],app [(14,.at 0 64),(16,.at 0 121),(17,.at 0 122),(18,.at 4 69),(19,.at 4 22),(20,.at 4 64),(21,.at 4 71),(23,.at 7 60)] (aa md [(22,.at 6 0)] []),80,
  Option.rec (.ok .none) (λq=>mJ d q.1 q.2) (eK os),[(2,.dead),(4,.dead)],[],[]⟩
def At(md:Bool)(K:Option V×Nat)(np pl:Nat)(d:List Nat)(os:List Nat):List En:=
 Option.rec [] (λq=>aa (Nat.beq q.1 5) (v8 md K np q.2::tc (dN md) np (i4 q.2 os)) [jD (dN md) np pl d os]) (eK os)
def gC(np:Nat):List (List Nat×List Nat):=
 app (aa (Nat.blt np 2) [([],[5]),([],[0,5]),([],[1,5]),([],[5,7])] []) [([],[4]),([],[0,4]),([],[1,4]),([],[4,7]),([97],[0,6]),([97],[1,6]),([98],[0,6]),([98],[1,6]),([99],[0,6]),([99],[1,6])]
def oI(K:Option V×Nat):Nat:=Nat.rec 1 (λk _=>Nat.succ (Nat.mul 2 k)) K.2
theorem aac:kr (λmd=>eJ Ks λK=>bO (λnp=>bO (λpl=>eJ (gC np) λc=>fV (cA (lZ (At md K np pl c.1 c.2))) MC (BR md K np pl c.1 c.2)) (oI K)) 3)=true:=by kernel_rfl
def ap{α β:Type}(l:List α)(f:α->List β):List β:=List.rec [] (λx _ ih=>app (f x) ih) l
def jq:List Fc:=[.ok 0,.ok 1,.ok 2]
def m9:List Fc:=[.bad true,.bad false]
def u8:List Fc:=[.aft true,.aft false]
def yD:List (List Fc):=
 []::app (ap jq λa=>[[a]]) (app (ap jq λa=>ap jq λb=>[[a,b]]) (app (ap jq λa=>ap jq λb=>ap jq λc=>[[a,b,c]])
  (app (ap m9 λa=>[[a]]) (app (ap m9 λa=>ap u8 λb=>[[a,b]]) (app (ap jq λa=>ap m9 λb=>[[a,b]]) (app (ap m9 λa=>ap u8 λb=>ap u8 λc=>[[a,b,c]]) (app (ap jq λa=>ap m9 λb=>ap u8 λc=>[[a,b,c]]) (ap jq λa=>ap jq λb=>ap m9 λc=>[[a,b,c]]))))))))
def wt:List (List Fc):=app (ap jq λa=>[[a]]) (ap m9 λa=>[[a]])
def hH(md:Bool)(fl:List Bool):Bool:=aa (eJ yD λf=>sf ⟨md,.none,fl,f⟩) (eJ [qq,kB,n6] λk=>eJ wt λf=>sf ⟨md,some k,fl,f⟩) false
noncomputable def nl(θ:List (Nat×V))(i:Nat):V:=Option.rec .nil (λw=>w) (au θ i)
noncomputable def vV(θ:List (Nat×V))(i:Nat):V:=aa (ca (nl θ i)) (nl θ i) .nil
theorem Gk(h:∀q∈θ,bw q.2 20=true)(i:Nat):bw (nl θ i) 20=true:=by
 unfold nl
 cases e:au θ i with
 |none=>rfl
 |some w=>exact h (i,w) (o6 e)
noncomputable def Jm(nm:List Nat×List Nat)(hn:seq nm.1 nm.2=false)(θ:List (Nat×V))(h:∀q∈θ,bw q.2 20=true):Vr where
 nm:=λ_=>nm
 tp:=vV θ
 rs:=nl θ
 seg:=λ_=>[]
 hn:=λ_=>hn
 ht:=λi=>by
  unfold vV
  cases e:ca (nl θ i) with
  |true=>exact⟨e,Gk h i⟩
  |false=>exact⟨rfl,rfl⟩
 hr:=Gk h
 hs:=λ_ _ q=>nomatch q
noncomputable def vL(nm:List Nat×List Nat)(hn:seq nm.1 nm.2=false)(θ:List (Nat×V))(h:∀q∈θ,bw q.2 20=true):cc:=vP (Jm nm hn θ h) [] (0,0)
noncomputable def pT(nm:List Nat×List Nat)(θ:List (Nat×V)):List (Nat×V):=(0,.str nm.1)::(1,.str nm.2)::θ
noncomputable def oh(θ:List (Nat×V)):Bool:=List.rec true (λq _ ih=>aa (Nat.ble 64 q.1) (aa (Nat.blt q.1 2000) (aa (aa (Nat.blt q.1 128) (ca q.2) true) ih false) false) false) θ
theorem WQ(h:oh θ=true):∀q∈θ,64<=q.1/\q.1<2000/\(q.1<128->ca q.2=true):=by
 induction θ with
 |nil=>exact λ_ q=>nomatch q
 |cons p r ih=>
  have h1:=aO (h)
  have h2:=aO h1.2
  have h3:=aO h2.2
  refine bD ⟨⟨dO h1.1,cH h2.1,λlt=>?_⟩,ih h3.2⟩
  have:=h3.1
  rw[mG lt] at this
  exact this
theorem Ba(hb:oh θ=true):b6 (vL nm hn θ h) (au (pT nm θ)) (λ_=>none):=by
 refine⟨λn w e=>?_,λ_ _ e=>ns e⟩
 have e:au ((0,V.str nm.1)::(1,V.str nm.2)::θ) n=some w:=e
 rw[dA,dA] at e
 by_cases h0:0=n
 · rw[aG h0] at e;obtain rfl:=af e;subst h0;exact⟨rfl,rfl⟩
 · rw[ax h0] at e
   by_cases h1:1=n
   · rw[aG h1] at e;obtain rfl:=af e;subst h1;exact⟨rfl,rfl⟩
   · rw[ax h1] at e
     obtain⟨a,b,t⟩:=WQ hb (n,w) (o6 e)
     have g:nl θ n=w:=by unfold nl;rw[e]
     refine⟨?_,iQ w (h (n,w) (o6 e))⟩
     show(vP (Jm nm hn θ h) [] (0,0)).ρ n=w
     rw[lC]
     by_cases c:n<128
     · rw[LH a c]
       show vV θ n=w
       unfold vV
       rw[g,t c];rfl
     · rw[tL (by omega) (by have:=b;omega),JH (.inl b)];exact g
theorem i6{f:List Nat->Bool}(h:iE f=true){i:Nat}(hi:i<13):f (aL i)=true:=bY h i hi
def kz(n:Nat)(v:V):Bool:=bw v n
theorem Y2:iE (λw=>bO (λs=>bO (λnr=>bO (λnp=>aa (kz 20 (dU w (Nat.add 40 s))) (aa (kz 20 (i9 w (Nat.add 40 s) nr np)) (aa (ca (i9 w (Nat.add 40 s) nr np)) (kz 20 (eG w)) false) false) false) 3) 3) 2)=true:=by kernel_rfl
theorem Sw:bO (λnr=>aa (ca (b8 nr)) (kz 20 (b8 nr)) false) 3=true:=by kernel_rfl
theorem fu{n:Nat}(h:n<3){P:Nat->Prop}(h0:P 0)(h1:P 1)(h2:P 2):P n:=by
 match n,h with
 |0,_=>exact h0
 |1,_=>exact h1
 |2,_=>exact h2
theorem oO{np:Nat}(h:np<3):∀v∈gU np,dB v=true:=by
 refine fu h (P:=λnp=>∀v∈gU np,dB v=true) (λ_ q=>nomatch q) (bD ⟨rfl,λ_ q=>nomatch q⟩) (bD ⟨rfl,bD ⟨rfl,λ_ q=>nomatch q⟩⟩)
theorem lJ(h:kr f=true)(b:Bool):f b=true:=by
 have h:=aO (h)
 cases b<;>first|exact h.1|exact h.2
structure WF(i s nr np:Nat):Prop where
 tf:bw (dU (aL i) (Nat.add 40 s)) 20=true
 df:bw (i9 (aL i) (Nat.add 40 s) nr np) 20=true
 dt:ca (i9 (aL i) (Nat.add 40 s) nr np)=true
 of:bw (eG (aL i)) 20=true
theorem gM{i s nr np:Nat}(hi:i<13)(hs:s<2)(hr:nr<3)(hp:np<3):WF i s nr np:=by
 have h:=bY (bY (bY (i6 Y2 hi) s hs) nr hr) np hp
 have h1:=aO h
 have h2:=aO h1.2
 have h3:=aO h2.2
 exact⟨h1.1,h2.1,h3.1,h3.2⟩
theorem jN{nr:Nat}(hr:nr<3):ca (b8 nr)=true/\bw (b8 nr) 20=true:=aO (bY Sw nr hr)
noncomputable def lD(i0 i1 nr np:Nat)(p0 p1:Bool):List (Nat×V):=
 [(100,b8 nr),(240,.str (aL i0)),(241,.str (aL i1)),(250,.bool p0),(251,.bool p1),(260,dU (aL i0) (Nat.add 40 0)),(261,dU (aL i1) (Nat.add 40 1)),(70,i9 (aL i0) (Nat.add 40 0) nr np),(71,i9 (aL i1) (Nat.add 40 1) nr np)]
section
variable{w:World}{Hp:Heap}{i0 i1 nr np:Nat}{p0 p1:Bool}{nm:List Nat×List Nat}{hn:seq nm.1 nm.2=false}
theorem Bx(h0:i0<13)(h1:i1<13)(hr:nr<3)(hp:np<3):∀q∈lD i0 i1 nr np p0 p1,bw q.2 20=true:=by
 have a:=gM (s:=0) h0 (by decide) hr hp
 have b:=gM (s:=1) h1 (by decide) hr hp
 unfold lD
 simp only[List.forall_mem_cons]
 exact⟨(jN hr).2,rfl,rfl,rfl,rfl,a.tf,b.tf,a.df,b.df,λ_ q=>nomatch q⟩
theorem Hm(h0:i0<13)(h1:i1<13)(hr:nr<3)(hp:np<3):oh (lD i0 i1 nr np p0 p1)=true:=by
 have a:=gM (s:=0) h0 (by decide) hr hp
 have b:=gM (s:=1) h1 (by decide) hr hp
 show aa true (aa true (aa (ca (b8 nr)) (aa true (aa true (aa true (aa true (aa true (aa true (aa true (aa true (aa true (aa true (aa true (aa true (aa true (aa true (aa true (aa true (aa true (aa true (aa true (aa true
  (aa true (aa true (aa (ca (i9 (aL i0) (Nat.add 40 0) nr np)) (aa true (aa true (aa (ca (i9 (aL i1) (Nat.add 40 1) nr np)) true false) false) false) false) false) false) false) false) false) false) false) false) false) false) false) false) false) false) false) false) false) false) false) false) false) false) false) false) false=true
 rw[(jN hr).1,a.dt,b.dt];rfl
theorem lQ(Y:bu w.params Hp){e:En}(h:fV TZ MC e=true)(v:cc):bU (c0 w Hp) v e:=qo (found Y) (O:=O0) (λk vs H m r e=>ns e) h
theorem EB(Y:bu w.params Hp){v:cc}{θ:Nat->Option V}(O:b6 v θ (λ_=>none)){i s:Nat}(hi:i<13)(hs:s<2)(hr:nr<3)(hp:np<3)(e1:ai θ (mP 0 s)=some (.str (aL i)))(e2:ai θ aR=some (b8 nr))(e3:ai θ (ni 0 s)=some (dU (aL i) (Nat.add 40 s)))
 (e4:ai θ (fb 0 s)=some (i9 (aL i) (Nat.add 40 s) nr np)):bU (c0 w Hp) v (xC np s):=by
 have f:=gM hi hs hr hp
 have E:=lQ Y (bY (bY (bY (i6 TP hi) s hs) nr hr) np hp) v
 refine gp (v:=v) (e:=IT (aL i) (Nat.add 40 s) nr np) (e':=xC np s) (θ:=λ_=>none) (sg:=λ_=>none) ⟨λ_ _ h=>ns h,λ_ _ h=>ns h⟩ O
  (dQ (ae rfl (ae rfl (ae (ig _ (iQ _ (jN hr).2)) (ae rfl aT)))) (ae (bX (jg _ (oO hp))) aT) (hG (cK rfl (ig _ (iQ _ f.tf)) (cK rfl (ig _ (iQ _ f.df)) rfl))) rfl rfl)
  (dQ (ae e1 (ae rfl (ae e2 (ae rfl aT)))) (ae (bX (jg _ (oO hp))) aT) (hG (cK rfl e3 (cK rfl e4 rfl))) rfl rfl) E
theorem My(Y:bu w.params Hp){v:cc}{θ:Nat->Option V}(O:b6 v θ (λ_=>none)){i s:Nat}(hi:i<13)(hs:s<2)(hr:nr<3)(hp:np<3)(e4:ai θ (fb 0 s)=some (i9 (aL i) (Nat.add 40 s) nr np)){b:Bool}(hb:(!(Nat.beq (dZ (aL i) nr np) 0))=b):
 bU (c0 w Hp) v (yi b s):=by
 have f:=gM hi hs hr hp
 have E:=lQ Y (bY (bY (bY (i6 UT hi) s hs) nr hr) np hp) v
 subst hb
 exact gp (v:=v) (e:=JW (aL i) (Nat.add 40 s) nr np) (e':=yi (!(Nat.beq (dZ (aL i) nr np) 0)) s) (θ:=λ_=>none) (sg:=λ_=>none) ⟨λ_ _ h=>ns h,λ_ _ h=>ns h⟩ O (dQ (ae (ig _ (iQ _ f.df)) aT) aT (hG rfl) rfl rfl) (dQ (ae e4 aT) aT (hG rfl) rfl rfl) E
theorem NR(Y:bu w.params Hp)(dd:Bool)(hc:c<8)(h0:i0<13)(h1:i1<13)(hr:nr<3)(hp:np<3)(b0:(!(Nat.beq (dZ (aL i0) nr np) 0))=Bw c)(b1:aa (Nat.beq c 3) true (Nat.beq c 4)=true->(!(Nat.beq (dZ (aL i1) nr np) 0))=Nat.beq c 4):
 bU (c0 w Hp) (vL nm hn (lD i0 i1 nr np p0 p1) (Bx h0 h1 hr hp)) (qE dd c np):=by
 have O:=Ba (nm:=nm) (hn:=hn) (h:=Bx (p0:=p0) (p1:=p1) h0 h1 hr hp) (Hm (p0:=p0) (p1:=p1) h0 h1 hr hp)
 refine qo (found Y) (λk vs H m r q=>u3 (es:=Em c np) (bD ⟨EB Y O h0 (by decide) hr hp rfl rfl rfl rfl,bD ⟨EB Y O h1 (by decide) hr hp rfl rfl rfl rfl,bD ⟨My Y O h0 (by decide) hr hp rfl b0,?_⟩⟩⟩) q) (bY (bY (lJ S0 dd) c hc) np hp)
 cases hb:aa (Nat.beq c 3) true (Nat.beq c 4) with
 |false=>exact λ_ q=>nomatch q
 |true=>exact bD ⟨My Y O h1 (by decide) hr hp rfl (b1 hb),λ_ q=>nomatch q⟩
end
def fD(w:List Nat)(nr np:Nat):Nat:=
 aa (Nat.beq (dZ w nr np) 0) (aa (Nat.beq (len (gz (dU w 0))) 5) 1 0) (aa (Nat.beq (dZ w nr np) 1) (aa (Nat.beq (len (gz (dU w 0))) 2) 2 3) (aa (Nat.beq (dZ w nr np) 3) 4 5))
def di(w:List Nat)(s k:Nat):V:=Option.rec .nil (λv=>v) (aj (gz (dU w s)) k)
def Ep(o:Nat)(w:List Nat)(s:Nat):V:=
 Option.rec .none (λx=>x) (aj [aA [di w s 0,.int (.ofNat s),di w s 2],aA [di w s 0,.int (.ofNat s),di w s 2,di w s 3,di w s 4],aA [di w s 0,.int (.ofNat s)],aA [di w s 0,.int (.ofNat s),di w s 2],aA [di w s 0,.int (.ofNat s),di w s 2,di w s 3,di w s 4],aA [di w s 0,.int (.ofNat s),di w s 2]] o)
theorem RU:iE (λw=>bO (λs=>bO (λnr=>bO (λnp=>aa (Nat.blt (fD w nr np) 6) (aa (V.beq (dU w (Nat.add 40 s)) (Ep (fD w nr np) w (Nat.add 40 s))) (bO (λk=>kz 20 (di w (Nat.add 40 s) k)) 5) false) false) 3) 3) 2)=true:=by kernel_rfl
theorem X6:iE (λw=>bO (λnr=>bO (λnp=>aa (Nat.beq (aa (Nat.ble (fD w nr np) 1) 0 (aa (fN (fD w nr np)) 1 (aa (Nat.beq (fD w nr np) 4) 3 2))) (dZ w nr np)) (aa (oW (fN (fD w nr np)) (aa (seq w mI) true (seq w nc))) (oW (Nat.beq (dZ w 2 np) 2) (Nat.beq (fD w nr np) 5)) false) false) 3) 3)=true:=by kernel_rfl
structure gy(θ:Nat->Option V)(i j nr np o:Nat):Prop where
 hi:i<13
 hj:j<2
 out:fD (aL i) nr np=o
 c0:ai θ (fP j 0)=some (di (aL i) (Nat.add 40 j) 0)
 c1:ai θ (fP j 1)=some (di (aL i) (Nat.add 40 j) 2)
 c2:ai θ (fP j 2)=some (di (aL i) (Nat.add 40 j) 3)
 c3:ai θ (fP j 3)=some (di (aL i) (Nat.add 40 j) 4)
 t0:ai θ (fb 0 j)=some (eG (aL i))
 t1:ai θ (.atom (Nat.add 340 j))=some (eG (aL i))
 ms:o=4->ai θ (iL 0)=some (.str (eC (aL i)))
structure XM(i s nr np:Nat):Prop where
 lt:fD (aL i) nr np<6
 eq:dU (aL i) (Nat.add 40 s)=Ep (fD (aL i) nr np) (aL i) (Nat.add 40 s)
 fl:∀k,k<5->bw (di (aL i) (Nat.add 40 s) k) 20=true
theorem xK(hi:i<13)(hs:s<2)(hr:nr<3)(hp:np<3):XM i s nr np:=by
 have h1:=aO (bY (bY (bY (i6 RU hi) s hs) nr hr) np hp)
 have h2:=aO h1.2
 exact⟨cH h1.1,HN _ h2.1,bY h2.2⟩
structure Z7(i nr np:Nat):Prop where
 cls:aa (Nat.ble (fD (aL i) nr np) 1) 0 (aa (fN (fD (aL i) nr np)) 1 (aa (Nat.beq (fD (aL i) nr np) 4) 3 2))=dZ (aL i) nr np
 op:fN (fD (aL i) nr np)=aa (seq (aL i) mI) true (seq (aL i) nc)
 n5:Nat.beq (dZ (aL i) 2 np) 2=Nat.beq (fD (aL i) nr np) 5
theorem GB(h:oW a b=true):a=b:=by cases a<;>cases b<;>first|rfl|exact ft h
theorem tC(hi:i<13)(hr:nr<3)(hp:np<3):Z7 i nr np:=by
 have h1:=aO (bY (bY (i6 X6 hi) nr hr) np hp)
 have h2:=aO h1.2
 exact⟨bx.mp h1.1,GB h2.1,GB h2.2⟩
section
variable{w:World}{Hp:Heap}{nr np:Nat}{v:cc}{θ:Nat->Option V}{i j o:Nat}
theorem ww(R:gy θ i j nr np o)(hr:nr<3)(hp:np<3):ai θ (rA o j)=some (dU (aL i) (Nat.add 40 j)):=by
 have T:=xK (nr:=nr) (np:=np) R.hi R.hj hr hp
 have lt:=T.lt
 rw[T.eq]
 rw[R.out] at lt ⊢
 match o,lt with
 |0,_=>exact cK rfl R.c0 (cK rfl rfl (cK rfl R.c1 rfl))
 |1,_=>exact cK rfl R.c0 (cK rfl rfl (cK rfl R.c1 (cK rfl R.c2 (cK rfl R.c3 rfl))))
 |2,_=>exact cK rfl R.c0 (cK rfl rfl rfl)
 |3,_=>exact cK rfl R.c0 (cK rfl rfl (cK rfl R.c1 rfl))
 |4,_=>exact cK rfl R.c0 (cK rfl rfl (cK rfl R.c1 (cK rfl R.c2 (cK rfl R.c3 rfl))))
 |5,_=>exact cK rfl R.c0 (cK rfl rfl (cK rfl R.c1 rfl))
theorem xj(R:gy θ i j nr np o):ai θ (pg o j)=some (eG (aL i)):=by
 unfold pg
 cases fN o with
 |true=>exact R.t1
 |false=>exact R.t0
theorem zl(hi:i<13)(hr:nr<3)(hp:np<3):dB (eG (aL i))=true:=iQ _ (gM (s:=0) hi (by decide) hr hp).of
theorem QZ(Y:bu w.params Hp)(O:b6 v θ (λ_=>none))(R:gy θ i j nr np o)(hr:nr<3)(hp:np<3)(h5:o<5){m M St:V}(e1:ai θ (.atom 270)=some M)(e2:ai θ m=some M)(e3:ai θ (.atom 105)=some St):bU (c0 w Hp) v (zF m np o j):=by
 have W:=tC (nr:=nr) (np:=np) R.hi hr hp
 have f:=gM (s:=j) R.hi R.hj hr hp
 have n5:=W.n5.trans (ee.mpr (by rw[R.out];omega))
 have E0:=bY (bY (i6 UY R.hi) j R.hj) np hp
 rw[n5] at E0
 have E:=lQ Y (E0) v
 exact gp (v:=v) (e:=EA (aL i) (Nat.add 40 j) np) (e':=zF m np o j) O O
  (dQ (ae rfl (ae e1 (ae rfl (ae e3 (ae (ig _ (iQ _ f.tf)) aT))))) (ae (bX (jg _ (oO hp))) aT) (hG (ig _ (zl R.hi hr hp))) rfl rfl)
  (dQ (ae rfl (ae e2 (ae rfl (ae e3 (ae (ww R hr hp) aT))))) (ae (bX (jg _ (oO hp))) aT) (hG (xj R)) rfl rfl) E
theorem NG(Y:bu w.params Hp)(O:b6 v θ (λ_=>none))(R:gy θ i j nr np o)(hr:nr<3)(hp:np<3):bU (c0 w Hp) v (B8 o j):=by
 have W:=tC (nr:=nr) (np:=np) R.hi hr hp
 have E:=lQ Y (i6 N5 R.hi) v
 have q:(!(aa (seq (aL i) mI) true (seq (aL i) nc)))= !(fN o):=by rw[← W.op,R.out]
 refine gp (v:=v) (e:=KV (aL i)) (e':=B8 o j) O O (dQ (ae (ig _ (zl R.hi hr hp)) aT) aT (hG rfl) rfl rfl) ?_ E
 exact(dQ (r:=.ok (.bool (!(aa (seq (aL i) mI) true (seq (aL i) nc))))) (ae (xj R) aT) aT (by rw[q];rfl) rfl rfl)
theorem P4(Y:bu w.params Hp)(O:b6 v θ (λ_=>none))(R:gy θ i j nr np o)(hr:nr<3)(hp:np<3)(h5:o<5)(ho:fN o=false)(eR:ai θ aR=some (b8 nr)):bU (c0 w Hp) v (vb o j):=by
 have W:=tC (nr:=nr) (np:=np) R.hi hr hp
 have c:=W.cls
 rw[R.out,ho] at c
 have E0:=bY (bY (bY (i6 PM R.hi) j R.hj) nr hr) np hp
 have tp:=ig (θ:=θ) _ (zl (nr:=nr) (np:=np) R.hi hr hp)
 have rp:=ig (θ:=θ) _ (iQ _ (jN hr).2)
 by_cases h4:o=4
 · subst h4
   have c:=c
   rw[← c] at E0
   have E:=lQ Y (E0) v
   have e:uR (aL i) (Nat.add 40 j) nr np=⟨3,[eG (aL i),b8 nr,.int (.ofNat (Nat.add 40 j))],[],[],[],30,.exc 1 (.str (eC (aL i))) (.int (.ofNat (Nat.add 40 j))),[],[],[]⟩:=by unfold uR;rw[← c];rfl
   rw[e] at E
   exact gp (v:=v) (e:=⟨3,[eG (aL i),b8 nr,.int (.ofNat (Nat.add 40 j))],[],[],[],30,.exc 1 (.str (eC (aL i))) (.int (.ofNat (Nat.add 40 j))),[],[],[]⟩) (e':=vb 4 j) O O (dQ (ae tp (ae rp (ae rfl aT))) aT (qd rfl rfl) rfl rfl) (dQ (ae (xj R) (ae eR (ae rfl aT))) aT (qd (R.ms rfl) rfl) rfl rfl) E
 · have c:0=dZ (aL i) nr np:=by
    rw[← c]
    have:o<=1:=by
     have:o≠2/\o≠3:=⟨λq=>by subst q;exact tf ho,λq=>by subst q;exact tf ho⟩
     omega
    rw[Nat.ble_eq_true_of_le this];rfl
   rw[← c] at E0
   have E:=lQ Y (E0) v
   have e:uR (aL i) (Nat.add 40 j) nr np=⟨3,[eG (aL i),b8 nr,.int (.ofNat (Nat.add 40 j))],[],[],[],30,.ok .none,[],[],[]⟩:=by unfold uR;rw[← c];rfl
   have e':vb o j=⟨3,[pg o j,aR,cZ j],[],[],[],30,.ok .none,[],[],[]⟩:=by unfold vb;rw[ee.mpr h4];rfl
   rw[e] at E
   rw[e']
   exact gp (v:=v) (e:=⟨3,[eG (aL i),b8 nr,.int (.ofNat (Nat.add 40 j))],[],[],[],30,.ok .none,[],[],[]⟩) (e':=⟨3,[pg o j,aR,cZ j],[],[],[],30,.ok .none,[],[],[]⟩) O O (dQ (ae tp (ae rp (ae rfl aT))) aT (hG rfl) rfl rfl) (dQ (ae (xj R) (ae eR (ae rfl aT))) aT (hG rfl) rfl rfl) E
end
theorem gW{α:Type}{l:List α}{f:α->Bool}(h:eJ l f=true):∀x∈l,f x=true:=by
 induction l with
 |nil=>exact λ_ q=>nomatch q
 |cons y r ih=>
  have h:=aO (h)
  exact bD ⟨h.1,ih h.2⟩
theorem VK(l:List V):cu (aA l)=none:=by cases l<;>rfl
theorem cV(h:aN (ai θ) l=some r):ai θ (aA l)=some (aA r):=by
 induction l generalizing r with
 |nil=>obtain rfl:=af h;rfl
 |cons x q ih=>
  refine bp (h) λy hy h=>bp h λr' hr h=>?_
  obtain rfl:=af h
  exact cK (VK q) hy (ih hr)
section
variable{w:World}{Hp:Heap}{nr np pl:Nat}{v:cc}{θ:Nat->Option V}{m M St:V}{d os:List Nat}
theorem Sz{α:Type}{a b:List α}{P:α->Prop}(h1:∀x∈a,P x)(h2:∀x∈b,P x):∀x∈app a b,P x:=λx q=>by rw[cq] at q;exact(List.mem_append.mp q).elim (h1 x) (h2 x)
theorem Jb(Y:bu w.params Hp)(O:b6 v θ (λ_=>none))(hr:nr<3)(hp:np<3)(e1:ai θ (.atom 270)=some M)(e2:ai θ m=some M)(e3:ai θ (.atom 105)=some St)(eR:ai θ aR=some (b8 nr))
 (rows:∀j o,aj os j=some o->o<5->∃i,gy θ i j nr np o):∀e∈tc m np os,bU (c0 w Hp) v e:=by
 have go:∀(os:List Nat) (k:Nat),(∀j o,aj os j=some o->o<5->∃i,gy θ i (k+j) nr np o)->∀e∈(List.rec (motive:=λ_=>Nat->List En) (λ_=>[]) (λo _ ih j=>app (Ct m np o j) (ih (Nat.succ j))) os k:List En),bU (c0 w Hp) v e:=by
  intro os
  induction os with
  |nil=>exact λ_ _ _ q=>nomatch q
  |cons o r ih=>
   intro k rows
   refine Sz ?_ (ih (k+1) λj o h5 h=>(by omega:k+(j+1)=k+1+j)▸rows (j+1) o h5 h)
   unfold Ct
   cases h5:Nat.blt o 5 with
   |false=>exact λ_ q=>nomatch q
   |true=>
    obtain⟨i,R⟩:=rows 0 o rfl (cH h5)
    have R:=R
    refine bD ⟨QZ Y O R hr hp (cH h5) e1 e2 e3,bD ⟨NG Y O R hr hp,?_⟩⟩
    cases ho:fN o with
    |true=>exact λ_ q=>nomatch q
    |false=>exact bD ⟨P4 Y O R hr hp (cH h5) ho eR,λ_ q=>nomatch q⟩
 exact go os 0 λj o h h5=>(dY j).symm▸rows j o h h5
theorem zc(Y:bu w.params Hp)(O:b6 v θ (λ_=>none))(hr:nr<3)(hp:np<3)(hl:pl<5)(hc:(d,os)∈qk)(e1:ai θ (.atom 270)=some M)(e3:ai θ (.atom 105)=some St)(eR:ai θ aR=some (b8 nr))
 (rows:∀j o,aj os j=some o->o<5->∃i,gy θ i j nr np o):bU (c0 w Hp) v (jD rB np pl d os):=
 qo (found Y) (λk vs H m r q=>u3 (es:=tc rB np os) (Jb Y O hr hp e1 e1 e3 eR rows) q) (gW (bY (bY U1 np hp) pl hl) (d,os) hc)
structure yq(θ:Nat->Option V)(m:V)(np pl:Nat)(d os:List Nat)(M St R:V)(trs pre par:List V):Prop where
 m:ai θ m=some M
 st:ai θ (.atom 105)=some St
 r:ai θ aR=some R
 trs:aN (ai θ) (nN d os)=some trs
 pre:aN (ai θ) (mS pl)=some pre
 par:aN (ai θ) (u7 np)=some par
theorem ZL(ho:ai θ o=some o)(h:aa (Nat.blt a 1000) (aa (Nat.blt b 1000) (aa (Nat.blt c' 1000) (Nat.blt e 1000) false) false) false=true):bz θ sg (i3 (.bi a) (.bi b) (.bi c') (.bi e) o)=some (i3 (.bi a) (.bi b) (.bi c') (.bi e) o):=by
 have h1:=aO h
 have h2:=aO h1.2
 have h3:=aO h2.2
 have k:∀{x:Nat},Nat.blt x 1000=true->ai θ (.bi x)=some (.bi x):=λ{x} q=>by show aa (Nat.blt x 1000) (some (V.bi x)) none=_;rw[q];rfl
 exact lM (bQ (k h1.1) (bQ (k h2.1) (bQ (k h3.1) (bQ (k h3.2) (bQ ho aT)))))
variable{Rg:V}{trs yV par:List V}
theorem xF(F:yq θ m np pl d os M St Rg trs yV par)(h1:fH θ (jD m np pl d os).r=some r)(h2:aN (λp=>aD (bz θ (λ_=>none) p.2) λo=>some (p.1,o)) (jD m np pl d os).ch=some ch)(h3:aN (bz θ λ_=>none) (jD m np pl d os).nw=some nw):
 ja θ (λ_=>none) (jD m np pl d os)=some ⟨53,[.loc 0,.loc 1,aA trs,.int 3],[i3 (.bi 14) (.bi 15) (.bi 16) (.bi 17) (ls 2),.inst 12 [(21,M),(41,Rg),(45,ls 3),(23,St)],.list yV,.list par],80,r,ch,nw⟩:=
 dQ (ae rfl (ae rfl (ae (cV F.trs) (ae rfl aT))))
  (ae (ZL rfl rfl) (ae (lM (bQ F.m (bQ F.r (bQ rfl (bQ F.st aT))))) (ae (bX F.pre) (ae (bX F.par) aT)))) h1 h2 h3
end
def fW(v:V):Bool:=V.rec true (λ_=>true) (λ_=>true) (λ_=>true) true (λ_ _ a b=>aa a b false) (λ_=>true) (λ_=>true) (λ_=>true) (λk=>Nat.blt k 1000) (λ_ _=>false) (λ_=>false) v
def oB(l:List V):Bool:=List.rec true (λx _ ih=>aa (fW x) ih false) l
def s0{α:Type}(l:List (α×V)):Bool:=List.rec true (λx _ ih=>aa (fW x.2) ih false) l
def o7(o:aF):Bool:=aF.rec oB s0 (λ_ l=>s0 l) (λv=>Option.rec true fW v) (λ_=>false) true o
section
variable{θ:Nat->Option V}{sg:Nat->Option (List V)}
theorem ot(v:V):fW v=true->ai θ v=some v:=by
 induction v with
 |none|bool|int|str|nil|loc|fn|cls=>exact λ_=>rfl
 |cons p q hp hq=>
  intro h
  have h:=aO (h)
  exact cK (by cases q<;>first|rfl|exact ft h.2) (hp h.1) (hq h.2)
 |bi k=>exact λh=>by show aa (Nat.blt k 1000) (some (V.bi k)) none=_;rw[show Nat.blt k 1000=true from h];rfl
 |_=>exact λh=>ft h
theorem tv(h:oB l=true):aN (ai θ) l=some l:=by
 induction l with
 |nil=>rfl
 |cons x r ih=>have h:=aO (h);exact ae (ot x h.1) (ih h.2)
theorem E9{α:Type}{l:List (α×V)}(h:s0 l=true):aN (λp=>aD (ai θ p.2) λv=>some (p.1,v)) l=some l:=by
 induction l with
 |nil=>rfl
 |cons x r ih=>
  have h:=aO (h)
  exact ae (f:=λp:α×V=>aD (ai θ p.2) λv=>some (p.1,v)) (by rw[ot x.2 h.1];rfl) (ih h.2)
theorem fC{o:aF}(h:o7 o=true):bz θ sg o=some o:=by
 cases o with
 |list l=>exact bX (tv h)
 |dict l=>exact A1 (E9 h)
 |inst k l=>exact lM (E9 h)
 |cell v=>cases v with
  |none=>rfl
  |some v=>show aD (ai θ v) (λw=>some (aF.cell (some w)))=_;rw[ot v h];rfl
 |opq=>exact ft h
 |dead=>rfl
end
theorem Xd:kr (λmd=>eJ Ks λK=>aa (o7 (jn md K.1 K.2)) (aa (o7 (je md)) (fW (dN md)) false) false)=true:=by kernel_rfl
theorem PD:iE (λw=>bO (λnr=>bO (λnp=>aa (Nat.beq (fD w nr np) 5) (aa (seq w wT) true (aa (seq w wU) true (seq w qj))) true) 3) 3)=true:=by kernel_rfl
structure TX(md:Bool)(K:Option V×Nat):Prop where
 k:o7 (jn md K.1 K.2)=true
 t:o7 (je md)=true
 m:fW (dN md)=true
theorem vm(md:Bool){K:Option V×Nat}(h:K∈Ks):TX md K:=by
 have h1:=aO (gW (lJ Xd md) K h)
 have h2:=aO h1.2
 exact⟨h1.1,h2.1,h2.2⟩
section
variable{w:World}{Hp:Heap}{nr np pl:Nat}{v:cc}{θ:Nat->Option V}{md:Bool}{K:Option V×Nat}{St:V}{d os:List Nat}{i j:Nat}
theorem U7(Y:bu w.params Hp)(O:b6 v θ (λ_=>none))(hK:K∈Ks)(R:gy θ i j nr np 5)(hr:nr<3)(hp:np<3)(e3:ai θ (.atom 105)=some St)(em:ai θ (iL 0)=some (.str (qN (aL i)))):bU (c0 w Hp) v (v8 md K np j):=by
 have W:=tC (nr:=nr) (np:=np) R.hi hr hp
 have D:=vm md hK
 have f:=gM (s:=j) R.hi R.hj hr hp
 have h5:=bx.mpr R.out
 have n5:=W.n5.trans h5
 have hw:=bY (bY (i6 PD R.hi) nr hr) np hp
 rw[h5] at hw
 have hw:=hw
 have mem:aL i∈[wT,wU,qj]:=by
  cases a:seq (aL i) wT with
  |true=>rw[fk.mp a];exact .head _
  |false=>
   rw[a] at hw
   have hw:=hw
   cases b:seq (aL i) wU with
   |true=>rw[fk.mp b];exact .tail _ (.head _)
   |false=>rw[b] at hw;rw[fk.mp hw];exact .tail _ (.tail _ (.head _))
 have E0:=bY (bY (gW (gW (lJ Yb md) K hK) _ mem) j R.hj) np hp
 rw[n5] at E0
 have E:=lQ Y (E0) v
 have l0:∀{sg:Nat->Option (List V)},aN (bz θ sg) [kw (ls 2) (.bi 18) (ls 3) (.bi 19) (.bi 20) (.bi 21),.list (gU np),jn md K.1 K.2,.dict (aa md [([],.bi 22),(cJ cm,ls 4)] [([],ls 4)]),kN (ls 5) (.bi 23) (ls 6),je md,.dict []]
  =some [kw (ls 2) (.bi 18) (ls 3) (.bi 19) (.bi 20) (.bi 21),.list (gU np),jn md K.1 K.2,.dict (aa md [([],.bi 22),(cJ cm,ls 4)] [([],ls 4)]),kN (ls 5) (.bi 23) (ls 6),je md,.dict []]:=λ{sg}=>
  ae (fC rfl) (ae (bX (jg _ (oO hp))) (ae (fC D.k) (ae (fC (by cases md<;>rfl)) (ae (fC rfl) (ae (fC D.t) (ae rfl aT))))))
 exact gp (v:=v) (e:=FT md K (aL i) (Nat.add 40 j) np) (e':=v8 md K np j) O O
  (dQ (ae rfl (ae (ot _ D.m) (ae rfl (ae e3 (ae (ig _ (iQ _ f.tf)) aT))))) l0 (qd rfl rfl) rfl rfl)
  (dQ (ae rfl (ae (ot _ D.m) (ae rfl (ae e3 (ae (ww R hr hp) aT))))) l0 (qd em rfl) rfl rfl) E
end
section
variable{w:World}{Hp:Heap}{nr np pl:Nat}{v:cc}{θ:Nat->Option V}{md:Bool}{K:Option V×Nat}{M St Rg:V}{trs yV par:List V}{d os:List Nat}{i j:Nat}
theorem Zx(Y:bu w.params Hp)(O:b6 v θ (λ_=>none))(hr:nr<3)(hp:np<3)(hK:K∈Ks)(hl:pl<oI K)(hl5:pl<5)(hc:(d,os)∈gC np)(F:yq θ (dN md) np pl d os (dN md) St (b8 nr) trs yV par)(e1:ai θ (.atom 270)=some (dN md))
 (rows:∀j o,aj os j=some o->o<5->∃i,gy θ i j nr np o)(five:∀j,eK os=some (5,j)->∃i,gy θ i j nr np 5/\ai θ (iL 0)=some (.str (qN (aL i))))
 (other:∀o j,eK os=some (o,j)->o≠5->(d,os)∈qk/\∃r,fH θ (mJ d o j)=some r):bU (c0 w Hp) v (BR md K np pl d os):=by
 have cj:=gW (bY (bY (gW (lJ aac md) K hK) np hp) pl hl) (d,os) hc
 refine qo (found Y) (λk vs H m r q=>u3 (es:=At md K np pl d os) ?_ q) cj
 unfold At
 cases hb:eK os with
 |none=>exact λ_ q=>nomatch q
 |some q=>
  obtain⟨o,j⟩:=q
  show ∀e∈aa (Nat.beq o 5) (v8 md K np j::tc (dN md) np (i4 j os)) [jD (dN md) np pl d os],bU (c0 w Hp) v e
  cases h5:Nat.beq o 5 with
  |true=>
   have:=bx.mp h5
   subst this
   obtain⟨i,R,em⟩:=five j hb
   refine bD ⟨U7 Y O hK R hr hp F.st em,Jb Y O hr hp e1 F.m F.st F.r λj' o' h' h5'=>rows j' o' ?_ h5'⟩
   rw[Cz,dj] at h'
   rw[dj]
   have lt:=(List.getElem?_eq_some_iff.mp h').1
   rw[List.getElem?_take] at h'
   by_cases q:j'<j
   · rw[aG q] at h';exact h'
   · rw[ax q] at h';exact ns h'
  |false=>
   obtain⟨abF,r,er⟩:=other o j hb (ee.mp h5)
   have hA:=zc Y O hr hp hl5 abF e1 F.st F.r rows
   refine bD ⟨?_,λ_ q=>nomatch q⟩
   have vK:∀m:V,fH θ (jD m np pl d os).r=some r:=λm=>by
    show fH θ (Option.rec (.ok (ls 4)) (λq=>mJ d q.1 q.2) (eK os))=_
    rw[hb];exact er
   have Nt:∀m:V,aN (λp=>aD (bz θ (λ_=>none) p.2) λo=>some (p.1,o)) (jD m np pl d os).ch=some [(2,.dead)]:=λm=>by
    show aN (λp=>aD (bz θ (λ_=>none) p.2) λo=>some (p.1,o)) [(2,Option.rec (.list (app (mS pl) (sL os))) (λ_=>.dead) (eK os))]=_
    rw[hb];rfl
   have nZ:∀m:V,aN (bz θ λ_=>none) (jD m np pl d os).nw=some []:=λm=>by
    show aN (bz θ λ_=>none) (Option.rec [.list (tm d os)] (λ_=>[]) (eK os))=_
    rw[hb];rfl
   exact gp (v:=v) O O (xF (m:=rB) ⟨e1,F.st,F.r,F.trs,F.pre,F.par⟩ (vK _) (Nt _) (nZ _)) (xF (m:=dN md) F (vK _) (Nt _) (nZ _)) hA
end
def Sf{α β γ:Type}(f:α->Option γ)(g:β->Option γ)(x:α)(y:β):Prop:=∃z,f x=some z/\g y=some z
def SL{α β γ:Type}(f:α->Option γ)(g:β->Option γ)(l:List α)(m:List β):Prop:=∃z,aN f l=some z/\aN g m=some z
theorem qW{α β γ:Type}{f:α->Option γ}{g:β->Option γ}:SL f g [] []:=⟨[],rfl,rfl⟩
theorem bt{α β γ:Type}{f:α->Option γ}{g:β->Option γ}{x:α}{y:β}{l:List α}{m:List β}(h:Sf f g x y)(k:SL f g l m):SL f g (x::l) (y::m):=
 h.elim λ_ a=>k.elim λ_ b=>⟨_,ae a.1 b.1,ae a.2 b.2⟩
theorem Yl{α β γ:Type}{f:α->Option γ}{g:β->Option γ}{l l':List α}{m m':List β}(h:SL f g l m)(k:SL f g l' m'):SL f g (app l l') (app m m'):=by
 rw[cq,cq]
 exact h.elim λ_ a=>k.elim λ_ b=>⟨_,uK a.1 b.1,uK a.2 b.2⟩
theorem dI{α β γ:Type}{f:α->Option γ}{g:β->Option γ}{x:α}{y:β}(h:Sf f g x y):SL f g [x] [y]:=bt h qW
section
variable{θ a6:Nat->Option V}{sg cF:Nat->Option (List V)}
abbrev Sv(θ a6:Nat->Option V)(x y:V):Prop:=Sf (ai θ) (ai a6) x y
abbrev mC(θ a6:Nat->Option V)(l m:List V):Prop:=SL (ai θ) (ai a6) l m
abbrev So(θ a6:Nat->Option V)(sg cF:Nat->Option (List V))(x y:aF):Prop:=Sf (bz θ sg) (bz a6 cF) x y
abbrev zf(θ a6:Nat->Option V)(sg cF:Nat->Option (List V))(l m:List aF):Prop:=SL (bz θ sg) (bz a6 cF) l m
abbrev Sa(θ a6:Nat->Option V)(l m:List (Nat×V)):Prop:=SL (λp=>aD (ai θ p.2) λv=>some (p.1,v)) (λp=>aD (ai a6 p.2) λv=>some (p.1,v)) l m
abbrev Sd(θ a6:Nat->Option V)(l m:List (List Nat×V)):Prop:=SL (λp=>aD (ai θ p.2) λv=>some (p.1,v)) (λp=>aD (ai a6 p.2) λv=>some (p.1,v)) l m
abbrev Sc(θ a6:Nat->Option V)(sg cF:Nat->Option (List V))(l m:List (Nat×aF)):Prop:=SL (λp=>aD (bz θ sg p.2) λo=>some (p.1,o)) (λp=>aD (bz a6 cF p.2) λo=>some (p.1,o)) l m
theorem cx{v:V}(h:fW v=true):Sv θ a6 v v:=⟨v,ot v h,ot v h⟩
theorem jG{l m:List V}(h:mC θ a6 l m):Sv θ a6 (aA l) (aA m):=h.elim λ_ a=>⟨_,cV a.1,cV a.2⟩
theorem BP(h:oB l=true):mC θ a6 l l:=⟨l,tv h,tv h⟩
theorem cr(h:o7 o=true):So θ a6 sg cF o o:=⟨o,fC h,fC h⟩
theorem K2(h:mC θ a6 l m):So θ a6 sg cF (.list l) (.list m):=h.elim λ_ a=>⟨_,bX a.1,bX a.2⟩
theorem zY(h:Sd θ a6 l m):So θ a6 sg cF (.dict l) (.dict m):=h.elim λ_ a=>⟨_,A1 a.1,A1 a.2⟩
theorem Lj(h:Sa θ a6 l m):So θ a6 sg cF (.inst k l) (.inst k m):=h.elim λ_ a=>⟨_,lM a.1,lM a.2⟩
theorem oo{α:Type}{k:α}(h:Sv θ a6 x y):Sf (λp:α×V=>aD (ai θ p.2) λv=>some (p.1,v)) (λp:α×V=>aD (ai a6 p.2) λv=>some (p.1,v)) (k,x) (k,y):=
 h.elim λz a=>⟨(k,z),by show aD (ai θ x) (λv=>some (k,v))=_;rw[a.1];rfl,by show aD (ai a6 y) (λv=>some (k,v))=_;rw[a.2];rfl⟩
theorem qc{k:Nat}{x y:V}{l m:List (Nat×V)}(h:Sv θ a6 x y)(r:Sa θ a6 l m):Sa θ a6 ((k,x)::l) ((k,y)::m):=bt (oo h) r
theorem CR{k:List Nat}{x y:V}{l m:List (List Nat×V)}(h:Sv θ a6 x y)(r:Sd θ a6 l m):Sd θ a6 ((k,x)::l) ((k,y)::m):=bt (oo h) r
theorem J8(h:So θ a6 sg cF x y):Sf (λp:Nat×aF=>aD (bz θ sg p.2) λo=>some (p.1,o)) (λp:Nat×aF=>aD (bz a6 cF p.2) λo=>some (p.1,o)) (k,x) (k,y):=
 h.elim λz a=>⟨(k,z),by show aD (bz θ sg x) (λv=>some (k,v))=_;rw[a.1];rfl,by show aD (bz a6 cF y) (λv=>some (k,v))=_;rw[a.2];rfl⟩
theorem zp(h:Sv θ a6 x y):Sf (fH θ) (fH a6) (.ok x) (.ok y):=h.elim λ_ a=>⟨_,hG a.1,hG a.2⟩
theorem zb(O:b6 v θ sg)(O':b6 v' a6 cF)(k:e'.k=e.k)(d:e'.d=e.d)(h1:mC θ a6 e.vs e'.vs)(h2:zf θ a6 sg cF e.l0 e'.l0)(h3:Sf (fH θ) (fH a6) e.r e'.r)(h4:Sc θ a6 sg cF e.ch e'.ch)(h5:zf θ a6 sg cF e.nw e'.nw)(E:bU c v e):bU c v' e':=
 h1.elim λ_ a1=>h2.elim λ_ a2=>h3.elim λ_ a3=>h4.elim λ_ a4=>h5.elim λ_ a5=>gp O O' (dQ a1.1 a2.1 a3.1 a4.1 a5.1) (k▸d▸dQ a1.2 a2.2 a3.2 a4.2 a5.2) E
end
section
variable{θ a6:Nat->Option V}{sg cF:Nat->Option (List V)}{md:Bool}{K:Option V}{bd iD trs ko:List V}
end
theorem T0{α β γ:Type}{f:α->Option γ}{g:β->Option γ}{l:List α}{m:List β}(h:SL f g l m):ay (Sf f g) l m:=by
 induction l generalizing m with
 |nil=>
  obtain⟨z,h1,h2⟩:=h
  obtain rfl:=af h1
  cases m with
  |nil=>exact .nil
  |cons y r=>exact bp (h2) λ_ _ h2=>bp h2 λ_ _ h2=>nomatch af h2
 |cons x q ih=>
  obtain⟨z,h1,h2⟩:=h
  refine bp (h1) λy hy h1=>bp h1 λr1 hr h1=>?_
  obtain rfl:=af h1
  cases m with
  |nil=>exact nomatch af h2
  |cons y' r'=>
   refine bp (h2) λb hb h2=>bp h2 λr2 hr' h2=>?_
   have e:=af h2
   injection e with e1 e2
   subst e1;subst e2
   exact .cons ⟨_,hy,hb⟩ (ih ⟨_,hr,hr'⟩)
theorem BS{α β:Type}{R:α->β->Prop}{l:List α}{m:List β}(h:ay R l m):len l=len m:=by
 induction h with
 |nil=>rfl
 |cons _ _ ih=>exact aq Nat.succ ih
def Vv:Bool:=kr λmd=>eJ cC λfl=>aa (oB (lH fl)) (aa (oB (gs md fl)) (fW (vd (len fl))) false) false
theorem Z5:Vv=true:=by kernel_rfl
section
variable{c:Cx}{v v':cc}{θ a6:Nat->Option V}{sg cF:Nat->Option (List V)}{md:Bool}{K:Option V×Nat}{Kf:Option V}{bd iD trs ko:List V}{R R':V}{fl:List Bool}
theorem NS(nm:List Nat)(h:ay (Sv θ a6) bd iD):mC θ a6 (rC nm bd) (rC nm iD):=by
 induction nm generalizing bd iD with
 |nil=>exact qW
 |cons x r ih=>
  cases h with
  |nil=>exact qW
  |cons a b=>exact bt (jG (bt (cx rfl) (dI a))) (ih b)
theorem BE(hR:Sv θ a6 R R')(h:ay (Sv θ a6) bd iD):Sv θ a6 (aA [R,aA (rC [84,85] bd)]) (aA [R',aA (rC [84,85] iD)]):=jG (bt hR (dI (jG (NS _ h))))
theorem Pm(hF:∀i,i<3->Sv θ a6 (hY i) (hY i))(h:ay (Sv θ a6) trs ko):∀i,i+len trs<=3->mC θ a6 (List.rec (motive:=λ_=>Nat->List V) (λ_=>[]) (λt _ ih i=>Bp i t::ih (Nat.succ i)) trs i) (List.rec (motive:=λ_=>Nat->List V) (λ_=>[]) (λt _ ih i=>Bp i t::ih (Nat.succ i)) ko i):=by
 induction h with
 |nil=>exact λ_ _=>qW
 | @cons x y l m a b ih=>
  intro i q
  have q:i+Nat.succ (len l)<=3:=q
  exact bt (jG (bt (cx rfl) (bt (hF i (by omega)) (dI a)))) (ih (Nat.succ i) (by omega))
theorem EP(hR:Sv θ a6 aR aR)(hF:∀i,i<3->Sv θ a6 (hY i) (hY i))(hK:∀f,Kf=some f->fW f=true)(hb:ay (Sv θ a6) bd iD)(ht:ay (Sv θ a6) trs ko)(lt:len trs<=3):Sv θ a6 (ud Kf bd trs) (ud Kf iD ko):=by
 cases Kf with
 |none=>exact jG (bt (cx rfl) (bt (cx rfl) (bt (cx rfl) (bt (BE hR hb) (bt (jG (Pm hF ht 0 ((dY _).symm▸lt))) (dI (cx rfl)))))))
 |some f=>
  refine jG (bt (cx rfl) (bt (cx rfl) (bt (cx rfl) (bt (BE hR hb) (bt (cx (hK f rfl)) (bt ?_ (dI (cx rfl))))))))
  cases ht with
  |nil=>exact cx rfl
  |cons a b=>exact a
theorem QU(hR:Sv θ a6 aR aR)(hF:∀i,i<3->Sv θ a6 (hY i) (hY i))(hK:∀f,Kf=some f->fW f=true)(hb:ay (Sv θ a6) bd iD)(ht:ay (Sv θ a6) trs ko)(lt:len trs<=3):mC θ a6 (Aw md Kf bd trs) (Aw md Kf iD ko):=by
 have I:=EP hR hF hK hb ht lt
 cases md with
 |true=>exact dI (jG (bt (cx rfl) (bt (cx rfl) (bt (cx rfl) (bt (jG (bt (cx rfl) (dI I))) (dI (cx rfl)))))))
 |false=>exact bt (cx rfl) (dI I)
theorem VH(O:b6 v θ sg)(O':b6 v' a6 cF)(hR:Sv θ a6 aR aR)(hF:∀i,i<3->Sv θ a6 (hY i) (hY i))(hK:∀f,Kf=some f->fW f=true)(hb:ay (Sv θ a6) bd iD)(ht:ay (Sv θ a6) trs ko)(lt:len trs<=3)
 (hk:o7 (jn md Kf (len trs))=true)(hp:fW (vd (len bd))=true)(E:bU c v (oY md Kf bd trs)):bU c v' (oY md Kf iD ko):=by
 have I:=EP hR hF hK hb ht lt
 have J:=QU (md:=md) hR hF hK hb ht lt
 have l1:=BS hb
 have l2:=BS ht
 refine zb (e:=oY md Kf bd trs) (e':=oY md Kf iD ko) O O' rfl rfl (BP rfl) (bt (cr rfl) (dI (K2 J))) (zp (cx rfl)) (dI (J8 (cr rfl))) ?_ E
 show zf θ a6 sg cF (yv md Kf bd trs) (yv md Kf iD ko)
 unfold yv
 refine Yl ?_ ?_
 · refine bt (cr rfl) (bt (l2▸cr hk) (bt (cr (by cases md<;>rfl)) (bt (cr (by cases md<;>rfl)) (bt (cr rfl) (bt (cr (by cases md<;>rfl)) (bt ?_ (bt (cr rfl) (bt ?_ (bt ?_ ?_)))))))))
   · refine cr ?_
     cases md with
     |true=>rfl
     |false=>show s0 (aa (ua Kf) _ [])=true;cases ua Kf<;>rfl
   · exact l1▸zY (CR (cx rfl) (dI (oo (jG (bt hR (dI (cx hp)))))))
   · exact zY (CR (cx rfl) (dI (oo I)))
   · exact bt (cr rfl) (bt (cr rfl) (bt (cr rfl) (bt (cr rfl) (bt (cr rfl) (bt (cr rfl) (bt (cr rfl) (bt (cr rfl) (bt (cr rfl) (bt (cr rfl) (dI (cr rfl)))))))))))
 · cases md with
   |false=>exact qW
   |true=>
    refine bt (cr rfl) (bt (cr rfl) (bt (cr ?_) (dI (cr rfl))))
    show s0 (aa (ua Kf) _ [])=true
    cases ua Kf<;>rfl
structure VX(md:Bool)(fl:List Bool):Prop where
 b:oB (lH fl)=true
 r:oB (gs md fl)=true
 p:fW (vd (len fl))=true
theorem vZ(md:Bool)(h:fl∈cC):VX md fl:=by
 have h1:=aO (gW (lJ (Z5) md) fl h)
 have h2:=aO h1.2
 exact⟨h1.1,h2.1,h2.2⟩
theorem WO(O:b6 v θ sg)(O':b6 v' a6 cF)(hR:Sv θ a6 R R')(hK:K∈Ks)(hf:fl∈cC)(E:bU c v (o8 md K R fl)):bU c v' (o8 md K R' fl):=by
 have F:=vZ md hf
 have D:=vm md hK
 have G:=BE hR (T0 (BP F.b))
 have A:mC θ a6 [.loc 0,.loc 1,xJ R fl,.int 3] [.loc 0,.loc 1,xJ R' fl,.int 3]:=bt (cx rfl) (bt (cx rfl) (bt G (dI (cx rfl))))
 have Nu:∀{p s:V},fW p=true->fW s=true->So θ a6 sg cF (ky md R p s) (ky md R' p s):=λhp hs=>Lj (qc (cx D.m) (qc hR (qc (cx hp) (dI (oo (cx hs))))))
 have Nv:∀{p s:V},fW p=true->fW s=true->So θ a6 sg cF (ky md .nil p s) (ky md .nil p s):=λhp hs=>Lj (qc (cx D.m) (qc (cx rfl) (qc (cx hp) (dI (oo (cx hs))))))
 have B:So θ a6 sg cF (.list (gs md fl)) (.list (gs md fl)):=K2 (BP F.r)
 revert E
 unfold o8
 cases Kw fl with
 |false=>exact λE=>zb (e:=Bf md R fl) (e':=Bf md R' fl) O O' rfl rfl A (bt (cr rfl) (bt (Nv rfl rfl) (dI (cr rfl)))) (zp (cx rfl)) qW (bt (Nu rfl rfl) (bt B (dI B))) E
 |true=>
  refine λE=>zb (e:=zW md K R fl) (e':=zW md K R' fl) O O' rfl rfl A (bt (cr rfl) (bt (Nv rfl rfl) (bt (cr rfl) (bt (cr rfl) (bt (cr D.k) (bt (cr (by cases md<;>rfl)) (bt (cr (by cases md<;>rfl)) (bt ?_ (bt (cr rfl) (dI (cr D.t))))))))))) (zp (cx rfl)) (dI (J8 (cr rfl))) (bt (Nu rfl rfl) (bt B (bt B (dI (cr rfl))))) E
  exact zY (CR (cx rfl) (dI (oo (jG (bt hR (dI (cx F.p)))))))
end
structure Rl where
 nm:List Nat
 i:Nat
 p:Bool
def a8(nr np:Nat)(r:Rl):Nat:=dZ (aL r.i) nr np
def br(nr np:Nat):List Rl->Nat
 |[]=>0
 |[a]=>aa (Nat.beq (a8 nr np a) 0) 1 2
 |a::b::_=>aa (seq a.nm b.nm) (aa (Nat.beq (a8 nr np a) 0) 5 7) (aa (Nat.beq (a8 nr np a) 0) (aa (Nat.beq (a8 nr np b) 0) 3 4) 6)
def fO(r:Rl):V:=aA [.str r.nm,.str (aL r.i),.bool r.p]
def eu(j:Nat)(r:Rl):V:=aA [.str r.nm,dU (aL r.i) (Nat.add 40 j),.bool r.p]
def fR(nr np j:Nat)(r:Rl):V:=i9 (aL r.i) (Nat.add 40 j) nr np
def xi(nr np j:Nat)(r:Rl):V:=aA [.str r.nm,fR nr np j r]
def bK(f:List Rl)(j:Nat):Rl:=Option.rec ⟨[],0,false⟩ (λr=>r) (aj f j)
def iV(nr np:Nat)(f:List Rl):V:=Option.rec .none (λx=>x) (aj [.none,.none,fR nr np 0 (bK f 0),.none,fR nr np 1 (bK f 1),aA [k4,.int 3],fR nr np 0 (bK f 0),fR nr np 0 (bK f 0)] (br nr np f))
def bM(c:Nat):Bool:=aa (Nat.beq c 0) true (aa (Nat.beq c 1) true (Nat.beq c 3))
def Ck(dd:Bool)(nr np:Nat)(f:List Rl):aF:=aa dd .dead (aa (bM (br nr np f)) (.list (cz (xi nr np) f)) .dead)
def qJ(dd:Bool)(nr np:Nat)(f:List Rl):gh:=⟨71,[.loc 0,b8 nr,.loc 1],[.list (bN fO f),.list (gU np)],40,.ok (aA [aA (cz eu f),ls 2,iV nr np f]),[],[Ck dd nr np f]⟩
structure cy(f:List Rl):Prop where
 n:f.length<=2
 i:∀r∈f,r.i<13
 dup:∀a b,f=[a,b]->seq a.nm b.nm=true->a.nm=[97]\/a.nm=[98]\/a.nm=[99]
theorem iK(l:List Nat):seq l (0::l)=false:=by
 cases e:seq l (0::l) with
 |false=>rfl
 |true=>exact aV (aq List.length (fk.mp e)) (by simp)
section
variable{dd:Bool}{w:World}{Hp:Heap}{i0 i1 nr np:Nat}{p0 p1:Bool}{nm:List Nat×List Nat}
theorem mN(hp:np<3)(h1:aN (ai (au (pT nm (lD i0 i1 nr np p0 p1)))) (CJ c)=some rows)(h2:ai (au (pT nm (lD i0 i1 nr np p0 p1))) (aA [aA (LR c),ls 2,Ki c])=some r)
 (h3:bz (au (pT nm (lD i0 i1 nr np p0 p1))) (λ_=>none) (aa dd .dead (JN c))=some o):ja (au (pT nm (lD i0 i1 nr np p0 p1))) (λ_=>none) (qE dd c np)=some ⟨71,[.loc 0,b8 nr,.loc 1],[.list rows,.list (gU np)],40,.ok r,[],[o]⟩:=
 dQ (ae rfl (ae rfl (ae rfl aT))) (ae (bX h1) (ae (bX (jg _ (oO hp))) aT)) (hG h2) rfl (ae h3 aT)
theorem ym{n:Nat}(h:Nat.beq n 0=false):(!(Nat.beq n 0))=true:=by rw[h];rfl
theorem sv{n:Nat}(h:Nat.beq n 0=true):(!(Nat.beq n 0))=false:=by rw[h];rfl
def Lk(dd:Bool)(w:World)(Hp:Heap)(nr np:Nat)(f:List Rl):Prop:=∃v θ c,b6 v θ (λ_=>none)/\bU (c0 w Hp) v (qE dd c np)/\ja θ (λ_=>none) (qE dd c np)=some (qJ dd nr np f)
theorem mM(Y:bu w.params Hp)(hn:seq nm.1 nm.2=false)(hc:c<8)(h0:i0<13)(h1:i1<13)(hr:nr<3)(hp:np<3)(b0:(!(Nat.beq (dZ (aL i0) nr np) 0))=Bw c)(b1:aa (Nat.beq c 3) true (Nat.beq c 4)=true->(!(Nat.beq (dZ (aL i1) nr np) 0))=Nat.beq c 4)
 (e:ja (au (pT nm (lD i0 i1 nr np p0 p1))) (λ_=>none) (qE dd c np)=some (qJ dd nr np f)):Lk dd w Hp nr np f:=
 ⟨_,_,c,Ba (nm:=nm) (hn:=hn) (h:=Bx (p0:=p0) (p1:=p1) h0 h1 hr hp) (Hm (p0:=p0) (p1:=p1) h0 h1 hr hp),NR Y dd hc h0 h1 hr hp b0 b1,e⟩
theorem oq(h:br nr np f=c):qJ dd nr np f=⟨71,[.loc 0,b8 nr,.loc 1],[.list (bN fO f),.list (gU np)],40,.ok (aA [aA (cz eu f),ls 2,Option.rec .none (λx=>x) (aj [.none,.none,fR nr np 0 (bK f 0),.none,fR nr np 1 (bK f 1),aA [k4,.int 3],fR nr np 0 (bK f 0),fR nr np 0 (bK f 0)] c)]),[],[aa dd .dead (aa (bM c) (.list (cz (xi nr np) f)) .dead)]⟩:=by
 unfold qJ iV Ck
 rw[h]
theorem ZR(Y:bu w.params Hp)(hr:nr<3)(hp:np<3):∀f,cy f->Lk dd w Hp nr np f
 |[],_=>mM (i0:=0) (i1:=0) (p0:=true) (p1:=true) (nm:=([],[0])) Y rfl (c:=0) (by decide) (by decide) (by decide) hr hp rfl (λq=>ft q) (mN hp rfl rfl (by cases dd<;>rfl))
 |[a],h=>by
  have ha:=h.i a (.head _)
  cases e:Nat.beq (a8 nr np a) 0 with
  |true=>
   have hc:br nr np [a]=1:=by show aa (Nat.beq (a8 nr np a) 0) 1 2=1;rw[e];rfl
   exact mM (i0:=a.i) (i1:=a.i) (p0:=a.p) (p1:=a.p) (nm:=(a.nm,0::a.nm)) Y (iK _) (c:=1) (by decide) ha ha hr hp (sv e) (λq=>ft q) (oq hc▸mN hp rfl rfl (by cases dd<;>rfl))
  |false=>
   have hc:br nr np [a]=2:=by show aa (Nat.beq (a8 nr np a) 0) 1 2=2;rw[e];rfl
   exact mM (i0:=a.i) (i1:=a.i) (p0:=a.p) (p1:=a.p) (nm:=(a.nm,0::a.nm)) Y (iK _) (c:=2) (by decide) ha ha hr hp (ym e) (λq=>ft q) (oq hc▸mN hp rfl rfl (by cases dd<;>rfl))
 |[a,b],h=>by
  have ha:=h.i a (.head _)
  have hb:=h.i b (.tail _ (.head _))
  cases q:seq a.nm b.nm with
  |true=>
   have qe:=fk.mp q
   cases e:Nat.beq (a8 nr np a) 0 with
   |true=>
    have hc:br nr np [a,b]=5:=by show aa (seq a.nm b.nm) (aa (Nat.beq (a8 nr np a) 0) 5 7) (aa (Nat.beq (a8 nr np a) 0) (aa (Nat.beq (a8 nr np b) 0) 3 4) 6)=5;rw[q,e];rfl
    exact mM (i0:=a.i) (i1:=b.i) (p0:=a.p) (p1:=b.p) (nm:=(a.nm,0::a.nm)) Y (iK _) (c:=5) (by decide) ha hb hr hp (sv e) (λq=>ft q) (oq hc▸mN hp (by show _=some [fO a,aA [.str b.nm,.str (aL b.i),.bool b.p]];rw[← qe];rfl) (by show _=some (aA [aA [eu 0 a,aA [.str b.nm,dU (aL b.i) (Nat.add 40 1),.bool b.p]],ls 2,aA [k4,.int 3]]);rw[← qe];rfl) (by cases dd<;>rfl))
   |false=>
    have hc:br nr np [a,b]=7:=by show aa (seq a.nm b.nm) (aa (Nat.beq (a8 nr np a) 0) 5 7) (aa (Nat.beq (a8 nr np a) 0) (aa (Nat.beq (a8 nr np b) 0) 3 4) 6)=7;rw[q,e];rfl
    exact mM (i0:=a.i) (i1:=b.i) (p0:=a.p) (p1:=b.p) (nm:=(a.nm,0::a.nm)) Y (iK _) (c:=7) (by decide) ha hb hr hp (ym e) (λq=>ft q) (oq hc▸mN hp (by show _=some [fO a,aA [.str b.nm,.str (aL b.i),.bool b.p]];rw[← qe];rfl) (by show _=some (aA [aA [eu 0 a,aA [.str b.nm,dU (aL b.i) (Nat.add 40 1),.bool b.p]],ls 2,fR nr np 0 a]);rw[← qe];rfl) (by cases dd<;>rfl))
  |false=>
   cases e:Nat.beq (a8 nr np a) 0 with
   |true=>
    cases e':Nat.beq (a8 nr np b) 0 with
    |true=>
     have hc:br nr np [a,b]=3:=by show aa (seq a.nm b.nm) (aa (Nat.beq (a8 nr np a) 0) 5 7) (aa (Nat.beq (a8 nr np a) 0) (aa (Nat.beq (a8 nr np b) 0) 3 4) 6)=3;rw[q,e,e'];rfl
     exact mM (i0:=a.i) (i1:=b.i) (p0:=a.p) (p1:=b.p) (nm:=(a.nm,b.nm)) Y q (c:=3) (by decide) ha hb hr hp (sv e) (λ_=>sv e') (oq hc▸mN hp rfl rfl (by cases dd<;>rfl))
    |false=>
     have hc:br nr np [a,b]=4:=by show aa (seq a.nm b.nm) (aa (Nat.beq (a8 nr np a) 0) 5 7) (aa (Nat.beq (a8 nr np a) 0) (aa (Nat.beq (a8 nr np b) 0) 3 4) 6)=4;rw[q,e,e'];rfl
     exact mM (i0:=a.i) (i1:=b.i) (p0:=a.p) (p1:=b.p) (nm:=(a.nm,b.nm)) Y q (c:=4) (by decide) ha hb hr hp (sv e) (λ_=>ym e') (oq hc▸mN hp rfl rfl (by cases dd<;>rfl))
   |false=>
    have hc:br nr np [a,b]=6:=by show aa (seq a.nm b.nm) (aa (Nat.beq (a8 nr np a) 0) 5 7) (aa (Nat.beq (a8 nr np a) 0) (aa (Nat.beq (a8 nr np b) 0) 3 4) 6)=6;rw[q,e];rfl
    exact mM (i0:=a.i) (i1:=b.i) (p0:=a.p) (p1:=b.p) (nm:=(a.nm,b.nm)) Y q (c:=6) (by decide) ha hb hr hp (ym e) (λq=>ft q) (oq hc▸mN hp rfl rfl (by cases dd<;>rfl))
 |_::_::_::_,h=>aV h.n (by simp)
end
noncomputable def dT(nr np:Nat)(f:List Rl):Bool:=aa (Nat.beq (br nr np f) 4) (Nat.beq (a8 nr np (bK f 1)) 1) (aa (Nat.beq (br nr np f) 5) false (Nat.beq (a8 nr np (bK f 0)) 1))
structure JZ(θ:Nat->Option V)(i j nr np:Nat)(r:Rl):Prop where
 nm:ai θ (lU i j)=some (.str r.nm)
 wd:ai θ (mP i j)=some (.str (aL r.i))
 pb:ai θ (jY i j)=some (.bool r.p)
 te:ai θ (ni i j)=some (dU (aL r.i) (Nat.add 40 j))
 du:ai θ (fb i j)=some (fR nr np j r)
inductive j7(θ:Nat->Option V)(sg:Nat->Option (List V))(nr np i:Nat)(f:List Rl):Fc->Prop
 |ok:bM (br nr np f)=true->(∀j r,aj f j=some r->JZ θ i j nr np r)->j7 θ sg nr np i f (.ok (len f))
 |bad:bM (br nr np f)=false->sg (Nat.succ i)=some (bN fO f)->ai θ (il i)=some (aA (cz eu f))->ai θ (aA [aa (dT nr np f) qu k4,lP i])=some (iV nr np f)->j7 θ sg nr np i f (.bad (dT nr np f))
 |aft (b:Bool):sg (Nat.succ i)=some (bN fO f)->ai θ (il i)=some (aA (cz eu f))->ai θ (aa b (.atom (Nat.add 110 i)) .none)=some (iV nr np f)->j7 θ sg nr np i f (.aft b)
theorem Xy(h:bM c=true):c=0\/c=1\/c=3:=by
 unfold bM at h
 cases a:Nat.beq c 0 with
 |true=>exact .inl (bx.mp a)
 |false=>
  rw[a] at h
  cases b:Nat.beq c 1 with
  |true=>exact .inr (.inl (bx.mp b))
  |false=>rw[b] at h;exact .inr (.inr (bx.mp h))
theorem Ls(h:bM (br nr np f)=true):iV nr np f=.none:=by
 unfold iV
 rcases Xy h with e|e|e<;>rw[e]<;>rfl
section
variable{w:World}{Hp:Heap}{v:cc}{θ:Nat->Option V}{sg:Nat->Option (List V)}{nr np i:Nat}{f:List Rl}{fc:Fc}{fl:List Bool}
theorem pj(hn:f.length<=2)(h:∀j r,aj f j=some r->ai θ (g j)=some (q j r)):aN (ai θ) (bN g (co 0 (len f)))=some (cz q f):=by
 cases f with
 |nil=>rfl
 |cons a f=>cases f with
  |nil=>exact ae (h 0 a rfl) aT
  |cons b f=>cases f with
   |nil=>exact ae (h 0 a rfl) (ae (h 1 b rfl) aT)
   |cons=>exact aV hn (Nat.not_le.mpr (Nat.le_add_left 3 _))
theorem D7(q:Rl->V)(f:List Rl)(k:Nat):(List.rec (motive:=λ_=>Nat->List V) (λ_=>[]) (λx _ ih i=>q x::ih (Nat.succ i)) f k:List V)=bN q f:=by
 induction f generalizing k with
 |nil=>rfl
 |cons x r ih=>exact aq (q x:: ·) (ih (Nat.succ k))
noncomputable def Fc.dd(f:Fc):Bool:=Fc.rec (λ_=>false) (λ_=>true) (λ_=>true) f
theorem YW(Y:bu w.params Hp)(O:b6 v θ sg)(hr:nr<3)(hp:np<3)(hl:len fl=np)(hf:cy f)(eR:ai θ aR=some (b8 nr))(F:j7 θ sg nr np i f fc):bU (c0 w Hp) v (rr fl i fc):=by
 obtain⟨v0,DH,c,O0,E,e⟩:=ZR (dd:=fc.dd) Y hr hp f hf
 refine gp O0 O e ?_ E
 subst hl
 have DI:aN (ai θ) (q9 fl)=some (gU (len fl)):=jg _ (oO hp)
 have vs:aN (ai θ) [V.loc 0,aR,.loc 1]=some [.loc 0,b8 nr,.loc 1]:=ae rfl (ae eR (ae rfl aT))
 cases F with
 |ok hc h=>
  have r1:aN (ai θ) (bN (λj=>aA [lU i j,mP i j,jY i j]) (co 0 (len f)))=some (bN fO f):=by
   rw[← D7 fO f 0]
   exact pj hf.n λj r g=>cV (ae (h j r g).nm (ae (h j r g).wd (ae (h j r g).pb aT)))
  have r2:=cV (pj hf.n λj r g=>cV (ae (h j r g).nm (ae (h j r g).te (ae (h j r g).pb aT))))
  have r3:=pj hf.n λj r g=>cV (ae (h j r g).nm (ae (h j r g).du aT))
  have p:Ck false nr (len fl) f=.list (cz (xi nr (len fl)) f):=by show aa (bM _) _ _=_;rw[hc];rfl
  refine(?_:_=some (qJ false nr (len fl) f))
  unfold qJ
  rw[p,Ls hc]
  exact dQ (e:=rr fl i (.ok (len f))) vs (ae (bX r1) (ae (bX DI) aT)) (hG (cV (ae r2 (ae rfl (ae rfl aT))))) rfl (ae (bX r3) aT)
 |bad hc s t u=>
  exact dQ (e:=rr fl i (.bad (dT nr (len fl) f))) vs (ae (rg s) (ae (bX DI) aT)) (hG (cV (ae t (ae rfl (ae u aT))))) rfl (ae rfl aT)
 |aft b s t u=>
  exact dQ (e:=rr fl i (.aft b)) vs (ae (rg s) (ae (bX DI) aT)) (hG (cV (ae t (ae rfl (ae u aT))))) rfl (ae rfl aT)
end
def jt(md:Bool)(nr:Nat)(fl:List Bool):V:=aA [Gc,kZ md,b8 nr,aA (bN (λx=>aA [qx,x]) (q9 fl))]
def gb(pre:List (V×Nat))(q:Nat):V×Nat:=Option.rec (.nil,0) (λx=>x) (aj pre q)
def nJ(md:Bool)(fl:List Bool)(k:Nat):V:=Option.rec .nil (λb=>aa b (aA [na md]) .nil) (aj fl k)
def x7(j:Nat)(r:Rl):List (Nat×V):=
 [(Nat.add 70 j,eG (aL r.i)),(Nat.add 250 j,.bool r.p),(Nat.add 260 j,dU (aL r.i) (Nat.add 40 j)),(Nat.add 320 (Nat.mul 5 j),di (aL r.i) (Nat.add 40 j) 0),(Nat.add 321 (Nat.mul 5 j),di (aL r.i) (Nat.add 40 j) 2),(Nat.add 322 (Nat.mul 5 j),di (aL r.i) (Nat.add 40 j) 3),(Nat.add 323 (Nat.mul 5 j),di (aL r.i) (Nat.add 40 j) 4),(Nat.add 340 j,eG (aL r.i))]
def wf(md:Bool)(nr:Nat)(fl:List Bool)(pre:List (V×Nat))(a b:Rl)(ms:List Nat):List (Nat×V):=
 (100,b8 nr)::(105,jt md nr fl)::(270,dN md)::(290,nJ md fl 0)::(291,nJ md fl 1)::(220,.str ms)::(360,.str b.nm)::
  (300,(gb pre 0).1)::(301,(gb pre 1).1)::(302,(gb pre 2).1)::(303,(gb pre 3).1)::(310,.int (.ofNat (gb pre 0).2))::(311,.int (.ofNat (gb pre 1).2))::(312,.int (.ofNat (gb pre 2).2))::(313,.int (.ofNat (gb pre 3).2))::app (x7 0 a) (x7 1 b)
def QD:Bool:=kr λmd=>bO (λnr=>eJ cC λfl=>aa (ca (jt md nr fl)) (aa (kz 20 (jt md nr fl)) (aa (kz 20 (dN md)) (aa (kz 20 (nJ md fl 0)) (kz 20 (nJ md fl 1)) false) false) false) false) 3
theorem Oe:QD=true:=by kernel_rfl
theorem Ig:iE (λw=>ca (eG w))=true:=by kernel_rfl
structure Ou(md:Bool)(nr:Nat)(fl:List Bool):Prop where
 t:ca (jt md nr fl)=true
 f:bw (jt md nr fl) 20=true
 m:bw (dN md) 20=true
 b0:bw (nJ md fl 0) 20=true
 b1:bw (nJ md fl 1) 20=true
theorem Im(md:Bool)(hr:nr<3)(hf:fl∈cC):Ou md nr fl:=by
 have h1:=aO (gW (bY (lJ (Oe) md) nr hr) fl hf)
 have h2:=aO h1.2
 have h3:=aO h2.2
 have h4:=aO h3.2
 exact⟨h1.1,h2.1,h3.1,h4.1,h4.2⟩
section
variable{md:Bool}{nr np:Nat}{fl:List Bool}{pre:List (V×Nat)}{a b:Rl}{ms:List Nat}
theorem wR(hq:∀q∈pre,bw q.1 20=true)(k:Nat):bw (gb pre k).1 20=true:=by
 unfold gb
 rw[dj]
 cases e:pre[k]? with
 |none=>rfl
 |some q=>exact hq q (List.mem_of_getElem? e)
theorem O2(hr:nr<3)(hf:fl∈cC)(ha:a.i<13)(hb:b.i<13)(hq:∀q∈pre,bw q.1 20=true):∀q∈wf md nr fl pre a b ms,bw q.2 20=true:=by
 have S:=Im md hr hf
 have f0:=gM (s:=0) (np:=0) ha (by decide) hr (by decide)
 have f1:=gM (s:=1) (np:=0) hb (by decide) hr (by decide)
 have t0:=(xK (s:=0) (np:=0) ha (by decide) hr (by decide)).fl
 have t1:=(xK (s:=1) (np:=0) hb (by decide) hr (by decide)).fl
 show ∀q∈(100,b8 nr)::(105,jt md nr fl)::(270,dN md)::(290,nJ md fl 0)::(291,nJ md fl 1)::(220,V.str ms)::(360,V.str b.nm)::
  (300,(gb pre 0).1)::(301,(gb pre 1).1)::(302,(gb pre 2).1)::(303,(gb pre 3).1)::(310,V.int (.ofNat (gb pre 0).2))::(311,V.int (.ofNat (gb pre 1).2))::(312,V.int (.ofNat (gb pre 2).2))::(313,V.int (.ofNat (gb pre 3).2))::
  (Nat.add 70 0,eG (aL a.i))::(Nat.add 250 0,V.bool a.p)::(Nat.add 260 0,dU (aL a.i) (Nat.add 40 0))::(Nat.add 320 (Nat.mul 5 0),di (aL a.i) (Nat.add 40 0) 0)::(Nat.add 321 (Nat.mul 5 0),di (aL a.i) (Nat.add 40 0) 2)::(Nat.add 322 (Nat.mul 5 0),di (aL a.i) (Nat.add 40 0) 3)::(Nat.add 323 (Nat.mul 5 0),di (aL a.i) (Nat.add 40 0) 4)::(Nat.add 340 0,eG (aL a.i))::
  x7 1 b,bw q.2 20=true
 unfold x7
 simp only[List.forall_mem_cons]
 exact⟨(jN hr).2,S.f,S.m,S.b0,S.b1,rfl,rfl,wR hq 0,wR hq 1,wR hq 2,wR hq 3,rfl,rfl,rfl,rfl,f0.of,rfl,f0.tf,t0 0 (by decide),t0 2 (by decide),t0 3 (by decide),t0 4 (by decide),f0.of,f1.of,rfl,f1.tf,t1 0 (by decide),t1 2 (by decide),t1 3 (by decide),t1 4 (by decide),f1.of,λ_ q=>nomatch q⟩
theorem pG(h1:Nat.ble 64 k=true)(h2:Nat.blt k 2000=true)(h3:aa (Nat.blt k 128) (ca x) true=true)(h:oh r=true):oh ((k,x)::r)=true:=by
 show aa (Nat.ble 64 k) (aa (Nat.blt k 2000) (aa (aa (Nat.blt k 128) (ca x) true) (oh r) false) false) false=true
 rw[h1,h2,h3,h];rfl
theorem XV(hr:nr<3)(hf:fl∈cC)(ha:a.i<13)(hb:b.i<13):oh (wf md nr fl pre a b ms)=true:=by
 have S:=Im md hr hf
 have t0:=i6 Ig ha
 have t1:=i6 Ig hb
 iterate 15 first
  |refine pG rfl rfl rfl ?_
  |refine pG rfl rfl (jN hr).1 ?_
  |refine pG rfl rfl S.t ?_
 refine pG rfl rfl t0 ?_
 iterate 7 refine pG rfl rfl rfl ?_
 refine pG rfl rfl t1 ?_
 iterate 7 refine pG rfl rfl rfl ?_
 rfl
end
def oR(nr np:Nat)(r:Rl):Nat:=fD (aL r.i) nr np
def ie(l:List (V×Nat)):List V:=bN (λq=>aA [q.1,ls 1,.int (.ofNat q.2)]) l
def cI(nm:List Nat×List Nat)(md:Bool)(nr:Nat)(fl:List Bool)(pre:List (V×Nat))(a b:Rl)(ms:List Nat):Nat->Option V:=au (pT nm (wf md nr fl pre a b ms))
theorem Tf(h:o<6)(e:aa (Nat.ble o 1) 0 (aa (fN o) 1 (aa (Nat.beq o 4) 3 2))=c):(c=0/\(o=0\/o=1))\/(c=1/\(o=2\/o=3))\/(c=3/\o=4)\/(c=2/\o=5):=by
 subst e
 exact(by decide:∀o:Fin 6,(aa (Nat.ble o.1 1) 0 (aa (fN o.1) 1 (aa (Nat.beq o.1 4) 3 2))=0/\(o.1=0\/o.1=1))\/(aa (Nat.ble o.1 1) 0 (aa (fN o.1) 1 (aa (Nat.beq o.1 4) 3 2))=1/\(o.1=2\/o.1=3))\/(aa (Nat.ble o.1 1) 0 (aa (fN o.1) 1 (aa (Nat.beq o.1 4) 3 2))=3/\o.1=4)\/(aa (Nat.ble o.1 1) 0 (aa (fN o.1) 1 (aa (Nat.beq o.1 4) 3 2))=2/\o.1=5)) ⟨o,h⟩
section
variable{nm:List Nat×List Nat}{md:Bool}{nr np:Nat}{fl:List Bool}{pre:List (V×Nat)}{a b:Rl}{ms:List Nat}
theorem BA(ha:a.i<13)(hr:nr<3)(hp:np<3):(a8 nr np a=0/\(oR nr np a=0\/oR nr np a=1))\/(a8 nr np a=1/\(oR nr np a=2\/oR nr np a=3))\/(a8 nr np a=3/\oR nr np a=4)\/(a8 nr np a=2/\oR nr np a=5):=
 Tf (xK (s:=0) ha (by decide) hr hp).lt (tC ha hr hp).cls
theorem gY(ha:a.i<13)(hm:oR nr np a=4->ms=eC (aL a.i)):gy (cI nm md nr fl pre a b ms) a.i 0 nr np (oR nr np a):=
 ⟨ha,by decide,rfl,rfl,rfl,rfl,rfl,rfl,rfl,λh=>by rw[← hm h];rfl⟩
theorem qO(hb:b.i<13)(hm:oR nr np b=4->ms=eC (aL b.i)):gy (cI nm md nr fl pre a b ms) b.i 1 nr np (oR nr np b):=
 ⟨hb,by decide,rfl,rfl,rfl,rfl,rfl,rfl,rfl,λh=>by rw[← hm h];rfl⟩
theorem zm(h:pre.length<5):aN (ai (cI nm md nr fl pre a b ms)) (mS (len pre))=some (ie pre):=by
 cases pre with
 |nil=>rfl
 |cons _ p=>cases p with
  |nil=>rfl
  |cons _ p=>cases p with
   |nil=>rfl
   |cons _ p=>cases p with
    |nil=>rfl
    |cons _ p=>cases p with
     |nil=>rfl
     |cons=>exact aV h (Nat.not_lt.mpr (Nat.le_add_left 5 _))
theorem LN(hf:fl∈cC):aN (ai (cI nm md nr fl pre a b ms)) (u7 (len fl))=some (gs md fl):=by
 exact ui (P:=λfl=>aN (ai (cI nm md nr fl pre a b ms)) (u7 (len fl))=some (gs md fl)) rfl rfl rfl rfl rfl rfl rfl fl hf
theorem jl(ha:a.i<13)(hr:nr<3)(hp:np<3)(hm:oR nr np a=4->ms=eC (aL a.i))(hn:ai (cI nm md nr fl pre a b ms) DJ=some (.str a.nm)):ai (cI nm md nr fl pre a b ms) (aA [DJ,rA (oR nr np a) 0,jY 0 0])=some (eu 0 a):=
 cV (ae hn (ae (ww (gY ha hm) hr hp) (ae rfl aT)))
theorem vX(hb:b.i<13)(hr:nr<3)(hp:np<3)(hm:oR nr np b=4->ms=eC (aL b.i))(hn:ai (cI nm md nr fl pre a b ms) DJ=some (.str b.nm)):ai (cI nm md nr fl pre a b ms) (aA [DJ,rA (oR nr np b) 1,jY 0 1])=some (eu 1 b):=
 cV (ae hn (ae (ww (qO hb hm) hr hp) (ae rfl aT)))
theorem Kp{d os:List Nat}(hf:fl∈cC)(hq:pre.length<5)(ht:aN (ai (cI nm md nr fl pre a b ms)) (nN d os)=some trs):yq (cI nm md nr fl pre a b ms) rB (len fl) (len pre) d os (dN md) (jt md nr fl) (b8 nr) trs (ie pre) (gs md fl):=
 ⟨rfl,rfl,rfl,ht,zm hq,LN hf⟩
theorem Wv{d os:List Nat}(hf:fl∈cC)(hq:pre.length<5)(ht:aN (ai (cI nm md nr fl pre a b ms)) (nN d os)=some trs):yq (cI nm md nr fl pre a b ms) (dN md) (len fl) (len pre) d os (dN md) (jt md nr fl) (b8 nr) trs (ie pre) (gs md fl):=
 ⟨by cases md<;>rfl,rfl,rfl,ht,zm hq,LN hf⟩
theorem CM(hr:nr<3)(hf:fl∈cC)(ha:a.i<13)(hb:b.i<13)(hq:∀q∈pre,bw q.1 20=true):b6 (vL nm hn (wf md nr fl pre a b ms) (O2 hr hf ha hb hq)) (cI nm md nr fl pre a b ms) (λ_=>none):=Ba (XV hr hf ha hb)
end
def wH(nr np:Nat)(f:List Rl):List V:=cz (λj r=>aA [fR nr np j r,ls 1,cZ j]) f
def yx(md:Bool)(nr:Nat)(fl:List Bool)(pre:List (V×Nat))(f:List Rl)(r:Rz)(ch:List (Nat×aF))(nw:List aF):gh:=
 ⟨53,[.loc 0,.loc 1,aA (cz eu f),.int 3],[i3 (.bi 14) (.bi 15) (.bi 16) (.bi 17) (ls 2),.inst 12 [(21,dN md),(41,b8 nr),(45,ls 3),(23,jt md nr fl)],.list (ie pre),.list (gs md fl)],80,r,ch,nw⟩
def rH(w:World)(Hp:Heap)(S:gh):Prop:=∃v θ e,b6 v θ (λ_=>none)/\bU (c0 w Hp) v e/\ja θ (λ_=>none) e=some S
section
variable{w:World}{Hp:Heap}{nm:List Nat×List Nat}{md:Bool}{nr np:Nat}{fl:List Bool}{pre:List (V×Nat)}{a b:Rl}{ms:List Nat}{f:List Rl}
theorem yX(Y:bu w.params Hp)(hn:seq nm.1 nm.2=false)(hr:nr<3)(hf:fl∈cC)(hp:len fl<3)(ha:a.i<13)(hb:b.i<13)(hq:∀q∈pre,bw q.1 20=true)(hl:pre.length<5){os:List Nat}(hc:([],os)∈qk)(h0:eK os=none)
 (rows:∀j o,aj os j=some o->o<5->∃i,gy (cI nm md nr fl pre a b ms) i j nr (len fl) o)(ht:aN (ai (cI nm md nr fl pre a b ms)) (nN [] os)=some (cz eu f))(h2:aN (ai (cI nm md nr fl pre a b ms)) (sL os)=some nws)
 (h3:aN (ai (cI nm md nr fl pre a b ms)) (tm [] os)=some fnd):rH w Hp (yx md nr fl pre f (.ok (ls 4)) [(2,.list (app (ie pre) nws))] [.list fnd]):=by
 have O:=CM (md:=md) (ms:=ms) (hn:=hn) hr hf ha hb hq
 have hJ:len pre<5:=by rw[bH];exact hl
 refine⟨_,_,_,O,zc (pl:=len pre) Y O hr hp hJ hc rfl rfl rfl rows,xF (Kp hf hl ht) ?_ ?_ ?_⟩
 · show fH (cI nm md nr fl pre a b ms) (Option.rec (.ok (ls 4)) (λq=>mJ [] q.1 q.2) (eK os))=_
   rw[h0];rfl
 · show aN (λp:Nat×aF=>aD (bz (cI nm md nr fl pre a b ms) (λ_=>none) p.2) λo=>some (p.1,o)) [(2,Option.rec (.list (app (mS (len pre)) (sL os))) (λ_=>.dead) (eK os))]=_
   rw[h0,cq,cq]
   exact FG (bX (uK (zm hl) h2)) aT
 · show aN (bz (cI nm md nr fl pre a b ms) λ_=>none) (Option.rec [.list (tm [] os)] (λ_=>[]) (eK os))=_
   rw[h0]
   exact ae (bX h3) aT
theorem qI(h:a8 nr np a=0)(j:Nat):fR nr np j a=eG (aL a.i):=by
 show aa (Nat.beq (a8 nr np a) 0) (eG (aL a.i)) _=_
 rw[h];rfl
theorem uJ{n:Nat}(h:Nat.beq n 0=true):n=0:=bx.mp h
theorem ul(ha:a.i<13)(hr:nr<3)(hp:np<3)(h:a8 nr np a=0):oR nr np a=0\/oR nr np a=1:=by
 rcases BA ha hr hp with q|q|q|q
 · exact q.2
 all_goals exact aV (h.symm.trans q.1) (by decide)
theorem rd{o:Nat}(h:o=0\/o=1){P:Prop}:o=4->P:=λq=>by rcases h with h|h<;>rw[h] at q<;>exact aV q (by decide)
theorem vO{x:Nat}{P:Nat->Nat->Prop}(h0:P 0 x):∀j o,aj [x] j=some o->o<5->P j o
 |0,_,h,_=>af h▸h0
 |_+1,_,h,_=>ns h
theorem mW{x y:Nat}{P:Nat->Nat->Prop}(h0:P 0 x)(h1:y<5->P 1 y):∀j o,aj [x,y] j=some o->o<5->P j o
 |0,_,h,_=>af h▸h0
 |1,_,h,q=>by obtain rfl:=af h;exact h1 q
 |_+2,_,h,_=>ns h
theorem Ww(Y:bu w.params Hp)(hr:nr<3)(hf:fl∈cC)(hp:len fl<3)(hq:∀q∈pre,bw q.1 20=true)(hl:pre.length<5):∀f,cy f->bM (br nr (len fl) f)=true->rH w Hp (yx md nr fl pre f (.ok (ls 4)) [(2,.list (app (ie pre) (wH nr (len fl) f)))] [.list (cz (xi nr (len fl)) f)])
 |[],_,_=>yX (nm:=([],[0])) (a:=⟨[],0,false⟩) (b:=⟨[],0,false⟩) (ms:=[]) (os:=[]) Y rfl hr hf hp (by decide) (by decide) hq hl (by decide) rfl (λ_ _ h=>ns h) rfl rfl rfl
 |[a],h,hc=>by
  have ha:=h.i a (.head _)
  have c0:a8 nr (len fl) a=0:=by
   cases e:Nat.beq (a8 nr (len fl) a) 0 with
   |true=>exact uJ e
   |false=>
    have:bM (aa (Nat.beq (a8 nr (len fl) a) 0) 1 2)=true:=hc
    rw[e] at this;exact ft this
  have o:=ul ha hr hp c0
  have o4:oR nr (len fl) a=4->([]:List Nat)=eC (aL a.i):=rd o
  refine yX (nm:=(a.nm,0::a.nm)) (a:=a) (b:=a) (ms:=[]) (os:=[oR nr (len fl) a]) Y (iK _) hr hf hp ha ha hq hl ?_ ?_ (vO ⟨a.i,gY ha o4⟩) ?_ ?_ ?_
  · rcases o with o|o<;>rw[o]<;>decide
  · rcases o with o|o<;>rw[o]<;>rfl
  · refine ae (jl ha hr hp o4 ?_) aT
    rcases o with o|o<;>rw[o]<;>rfl
  · exact ae (cV (ae (by rw[qI c0];rfl) (ae rfl (ae rfl aT)))) aT
  · refine ae (cV (ae ?_ (ae (by rw[qI c0];rfl) aT))) aT
    rcases o with o|o<;>rw[o]<;>rfl
 |[a,b],h,hc=>by
  have ha:=h.i a (.head _)
  have hb:=h.i b (.tail _ (.head _))
  have hc:bM (aa (seq a.nm b.nm) (aa (Nat.beq (a8 nr (len fl) a) 0) 5 7) (aa (Nat.beq (a8 nr (len fl) a) 0) (aa (Nat.beq (a8 nr (len fl) b) 0) 3 4) 6))=true:=hc
  cases q:seq a.nm b.nm with
  |true=>rw[q] at hc;cases e:Nat.beq (a8 nr (len fl) a) 0<;>rw[e] at hc<;>exact ft hc
  |false=>
   rw[q] at hc
   cases e:Nat.beq (a8 nr (len fl) a) 0 with
   |false=>rw[e] at hc;exact ft hc
   |true=>
    rw[e] at hc
    cases e':Nat.beq (a8 nr (len fl) b) 0 with
    |false=>rw[e'] at hc;exact ft hc
    |true=>
     have c0:=uJ e
     have c1:=uJ e'
     have o:=ul ha hr hp c0
     have o':=ul hb hr hp c1
     have o4:oR nr (len fl) a=4->([]:List Nat)=eC (aL a.i):=rd o
     have vM:oR nr (len fl) b=4->([]:List Nat)=eC (aL b.i):=rd o'
     refine yX (nm:=(a.nm,b.nm)) (a:=a) (b:=b) (ms:=[]) (os:=[oR nr (len fl) a,oR nr (len fl) b]) Y q hr hf hp ha hb hq hl ?_ ?_ (mW ⟨a.i,gY ha o4⟩ λ_=>⟨b.i,qO hb vM⟩) ?_ ?_ ?_
     · rcases o with o|o<;>rcases o' with o'|o'<;>rw[o,o']<;>decide
     · rcases o with o|o<;>rcases o' with o'|o'<;>rw[o,o']<;>rfl
     · refine ae (jl ha hr hp o4 ?_) (ae (vX hb hr hp vM ?_) aT)
       · rcases o with o|o<;>rw[o]<;>rfl
       · rcases o' with o|o<;>rw[o]<;>rfl
     · exact ae (cV (ae (by rw[qI c0];rfl) (ae rfl (ae rfl aT)))) (ae (cV (ae (by rw[qI c1];rfl) (ae rfl (ae rfl aT)))) aT)
     · refine ae (cV (ae ?_ (ae (by rw[qI c0];rfl) aT))) (ae (cV (ae ?_ (ae (by rw[qI c1];rfl) aT))) aT)
       · rcases o with o|o<;>rw[o]<;>rfl
       · rcases o' with o|o<;>rw[o]<;>rfl
 |_::_::_::_,h,_=>aV h.n (by simp)
end
def dJ(nr np:Nat)(f:List Rl):V:=Option.rec .none (λx=>x) (aj [.none,.none,cZ 0,.none,cZ 1,.int 3,cZ 0,cZ 0] (br nr np f))
section
variable{w:World}{Hp:Heap}{nm:List Nat×List Nat}{md:Bool}{nr np:Nat}{fl:List Bool}{pre:List (V×Nat)}{a b:Rl}{ms:List Nat}{f:List Rl}
theorem Br(Y:bu w.params Hp)(hn:seq nm.1 nm.2=false)(hr:nr<3)(hf:fl∈cC)(hp:len fl<3)(ha:a.i<13)(hb:b.i<13)(hq:∀q∈pre,bw q.1 20=true)(hl:pre.length<5){os:List Nat}(hc:([],os)∈qk)(h0:eK os=some (o,j))(ho:fN o=true)
 (rows:∀j o,aj os j=some o->o<5->∃i,gy (cI nm md nr fl pre a b ms) i j nr (len fl) o)(ht:aN (ai (cI nm md nr fl pre a b ms)) (nN [] os)=some (cz eu f)):rH w Hp (yx md nr fl pre f (.exc 3 qP (cZ j)) [(2,.dead)] []):=by
 have O:=CM (md:=md) (ms:=ms) (hn:=hn) hr hf ha hb hq
 have hJ:len pre<5:=by rw[bH];exact hl
 refine⟨_,_,_,O,zc (pl:=len pre) Y O hr hp hJ hc rfl rfl rfl rows,xF (Kp hf hl ht) ?_ ?_ ?_⟩
 · show fH (cI nm md nr fl pre a b ms) (Option.rec (.ok (ls 4)) (λq=>mJ [] q.1 q.2) (eK os))=_
   rw[h0]
   show fH (cI nm md nr fl pre a b ms) (aa (fN o) (.exc 3 qP (cZ j)) _)=_
   rw[ho];rfl
 · show aN (λp:Nat×aF=>aD (bz (cI nm md nr fl pre a b ms) (λ_=>none) p.2) λo=>some (p.1,o)) [(2,Option.rec (.list (app (mS (len pre)) (sL os))) (λ_=>.dead) (eK os))]=_
   rw[h0];rfl
 · show aN (bz (cI nm md nr fl pre a b ms) λ_=>none) (Option.rec [.list (tm [] os)] (λ_=>[]) (eK os))=_
   rw[h0];rfl
theorem zS(ha:a.i<13)(hr:nr<3)(hp:np<3)(h:a8 nr np a=1):oR nr np a=2\/oR nr np a=3:=by
 rcases BA ha hr hp with q|q|q|q
 · exact aV (h.symm.trans q.1) (by decide)
 · exact q.2
 all_goals exact aV (h.symm.trans q.1) (by decide)
theorem AY{o:Nat}(h:o=2\/o=3){P:Prop}:o=4->P:=λq=>by rcases h with h|h<;>rw[h] at q<;>exact aV q (by decide)
theorem vS{f:List Rl}(hc:br nr np f=c)(h:dT nr np f=true):aa (Nat.beq c 4) (Nat.beq (a8 nr np (bK f 1)) 1) (aa (Nat.beq c 5) false (Nat.beq (a8 nr np (bK f 0)) 1))=true:=by
 unfold dT at h
 rw[hc] at h;exact h
theorem N4(Y:bu w.params Hp)(hr:nr<3)(hf:fl∈cC)(hp:len fl<3)(hq:∀q∈pre,bw q.1 20=true)(hl:pre.length<5):∀f,cy f->bM (br nr (len fl) f)=false->dT nr (len fl) f=true->rH w Hp (yx md nr fl pre f (.exc 3 qP (dJ nr (len fl) f)) [(2,.dead)] [])
 |[],_,hc,_=>tf hc
 |[a],h,hc,ty=>by
  have ha:=h.i a (.head _)
  cases e:Nat.beq (a8 nr (len fl) a) 0 with
  |true=>exact tf ((show bM (aa (Nat.beq (a8 nr (len fl) a) 0) 1 2)=true by rw[e];rfl).symm.trans hc)
  |false=>
   have hc:br nr (len fl) [a]=2:=by show aa (Nat.beq (a8 nr (len fl) a) 0) 1 2=2;rw[e];rfl
   have o:=zS ha hr hp (bx.mp (vS hc ty))
   have o4:oR nr (len fl) a=4->([]:List Nat)=eC (aL a.i):=AY o
   have sp:dJ nr (len fl) [a]=cZ 0:=by unfold dJ;rw[hc];rfl
   rw[sp]
   refine Br (nm:=(a.nm,0::a.nm)) (a:=a) (b:=a) (ms:=[]) (os:=[oR nr (len fl) a]) (o:=oR nr (len fl) a) (j:=0) Y (iK _) hr hf hp ha ha hq hl ?_ ?_ ?_ (vO ⟨a.i,gY ha o4⟩) ?_
   · rcases o with o|o<;>rw[o]<;>decide
   · rcases o with o|o<;>rw[o]<;>rfl
   · rcases o with o|o<;>rw[o]<;>rfl
   · refine ae (jl ha hr hp o4 ?_) aT
     rcases o with o|o<;>rw[o]<;>rfl
 |[a,b],h,hc,ty=>by
  have ha:=h.i a (.head _)
  have hb:=h.i b (.tail _ (.head _))
  have ec:br nr (len fl) [a,b]=aa (seq a.nm b.nm) (aa (Nat.beq (a8 nr (len fl) a) 0) 5 7) (aa (Nat.beq (a8 nr (len fl) a) 0) (aa (Nat.beq (a8 nr (len fl) b) 0) 3 4) 6):=rfl
  cases e:Nat.beq (a8 nr (len fl) a) 0 with
  |false=>
   have hc:br nr (len fl) [a,b]=6\/br nr (len fl) [a,b]=7:=by
    rw[ec,e]
    cases seq a.nm b.nm
    · exact .inl rfl
    · exact .inr rfl
   have c1:a8 nr (len fl) a=1:=by rcases hc with hc|hc<;>exact bx.mp (vS hc ty)
   have sp:dJ nr (len fl) [a,b]=cZ 0:=by unfold dJ;rcases hc with hc|hc<;>rw[hc]<;>rfl
   have o:=zS ha hr hp c1
   have o4:oR nr (len fl) a=4->([]:List Nat)=eC (aL a.i):=AY o
   rw[sp]
   refine Br (nm:=(a.nm,0::a.nm)) (a:=a) (b:=b) (ms:=[]) (os:=[oR nr (len fl) a,7]) (o:=oR nr (len fl) a) (j:=0) Y (iK _) hr hf hp ha hb hq hl ?_ ?_ ?_ (mW ⟨a.i,gY ha o4⟩ λq=>aV q (by decide)) ?_
   · rcases o with o|o<;>rw[o]<;>decide
   · rcases o with o|o<;>rw[o]<;>rfl
   · rcases o with o|o<;>rw[o]<;>rfl
   · refine ae (jl ha hr hp o4 ?_) (ae rfl aT)
     rcases o with o|o<;>rw[o]<;>rfl
  |true=>
   rw[e] at ec
   cases q:seq a.nm b.nm with
   |true=>
    have c5:br nr (len fl) [a,b]=5:=by rw[ec,q];rfl
    exact ft (vS c5 ty)
   |false=>
    rw[q] at ec
    cases e':Nat.beq (a8 nr (len fl) b) 0 with
    |true=>
     have c3:br nr (len fl) [a,b]=3:=by rw[ec,e'];rfl
     rw[c3] at hc;exact tf hc
    |false=>
     have c4:br nr (len fl) [a,b]=4:=by rw[ec,e'];rfl
     have c1:=bx.mp (vS c4 ty)
     have sp:dJ nr (len fl) [a,b]=cZ 1:=by unfold dJ;rw[c4];rfl
     have o:=ul ha hr hp (uJ e)
     have o':=zS hb hr hp c1
     have o4:oR nr (len fl) a=4->([]:List Nat)=eC (aL a.i):=rd o
     have vM:oR nr (len fl) b=4->([]:List Nat)=eC (aL b.i):=AY o'
     rw[sp]
     refine Br (nm:=(a.nm,b.nm)) (a:=a) (b:=b) (ms:=[]) (os:=[oR nr (len fl) a,oR nr (len fl) b]) (o:=oR nr (len fl) b) (j:=1) Y q hr hf hp ha hb hq hl ?_ ?_ ?_ (mW ⟨a.i,gY ha o4⟩ λ_=>⟨b.i,qO hb vM⟩) ?_
     · rcases o with o|o<;>rcases o' with o'|o'<;>rw[o,o']<;>decide
     · rcases o with o|o<;>rcases o' with o'|o'<;>rw[o,o']<;>rfl
     · rcases o' with o|o<;>rw[o]<;>rfl
     · refine ae (jl ha hr hp o4 ?_) (ae (vX hb hr hp vM ?_) aT)
       · rcases o with o|o<;>rw[o]<;>rfl
       · rcases o' with o|o<;>rw[o]<;>rfl
 |_::_::_::_,h,_,_=>aV h.n (by simp)
end
def Mk(md:Bool)(K:Option V×Nat)(nr:Nat)(fl:List Bool)(pre:List (V×Nat))(f:List Rl)(m sp:V):gh:=
 ⟨53,[.loc 0,.loc 1,aA (cz eu f),.int 3],[i3 (.bi 14) (ls 4) (.bi 16) (.bi 17) (ls 2),.inst 12 [(21,dN md),(41,b8 nr),(45,ls 3),(23,jt md nr fl)],.list (ie pre),.list (gs md fl),kw (ls 5) (.bi 18) (ls 6) (.bi 19) (.bi 20) (.bi 21),jn md K.1 K.2,.dict (aa md [([],.bi 22),(cJ cm,ls 7)] [([],ls 7)]),kN (ls 8) (.bi 23) (ls 9),je md,.dict []],80,
  .exc 1 m sp,[(2,.dead),(4,.dead)],[]⟩
theorem V8:iE (λw=>bO (λnr=>bO (λnp=>aa (Nat.beq (fD w nr np) 5) (Nat.blt np 2) true) 3) 3)=true:=by kernel_rfl
section
variable{w:World}{Hp:Heap}{nm:List Nat×List Nat}{md:Bool}{nr np:Nat}{fl:List Bool}{pre:List (V×Nat)}{a b:Rl}{ms:List Nat}{f:List Rl}{K:Option V×Nat}
theorem n7(Y:bu w.params Hp)(hn:seq nm.1 nm.2=false)(hr:nr<3)(hf:fl∈cC)(hp:len fl<3)(hK:K∈Ks)(ha:a.i<13)(hb:b.i<13)(hq:∀q∈pre,bw q.1 20=true)(hl:pre.length<5)(hk:len pre<oI K){d os:List Nat}(hc:(d,os)∈gC (len fl))(h0:eK os=some (o,j))
 (vK:fH (cI nm md nr fl pre a b ms) (mJ d o j)=some (.exc 1 (.str ms) sp))(h5:o=5->∃i,gy (cI nm md nr fl pre a b ms) i j nr (len fl) 5/\ms=qN (aL i))(hA:o≠5->(d,os)∈qk)
 (rows:∀j o,aj os j=some o->o<5->∃i,gy (cI nm md nr fl pre a b ms) i j nr (len fl) o)(ht:aN (ai (cI nm md nr fl pre a b ms)) (nN d os)=some (cz eu f)):rH w Hp (Mk md K nr fl pre f (.str ms) sp):=by
 have O:=CM (md:=md) (ms:=ms) (hn:=hn) hr hf ha hb hq
 have hJ:len pre<5:=by rw[bH];exact hl
 have F:=Wv hf hl ht
 have D:=vm md hK
 refine⟨_,_,_,O,Zx (pl:=len pre) Y O hr hp hK hk hJ hc F rfl rows ?_ ?_,dQ (e:=BR md K (len fl) (len pre) d os) (ae rfl (ae rfl (ae (cV F.trs) (ae rfl aT)))) ?_ ?_ rfl rfl⟩
 · intro j' e
   have e:=af (h0.symm.trans e)
   injection e with e1 e2
   subst e2
   obtain⟨i,R,q⟩:=h5 e1
   exact⟨i,R,by rw[← q];rfl⟩
 · intro o' j' e ne
   have e:=af (h0.symm.trans e)
   injection e with e1 e2
   subst e1;subst e2
   exact⟨hA ne,_,vK⟩
 · exact ae (lM (bQ rfl (bQ rfl (bQ rfl (bQ rfl (bQ rfl aT)))))) (ae (lM (bQ F.m (bQ F.r (bQ rfl (bQ F.st aT))))) (ae (bX F.pre) (ae (bX F.par)
    (ae (fC rfl) (ae (fC D.k) (ae (fC (by cases md<;>rfl)) (ae (fC rfl) (ae (fC D.t) (ae rfl aT)))))))))
 · show fH (cI nm md nr fl pre a b ms) (Option.rec (.ok .none) (λq=>mJ d q.1 q.2) (eK os))=_
   rw[h0];exact vK
theorem RW(ha:a.i<13)(hr:nr<3)(hp:np<3)(h:oR nr np a=5):np<2:=by
 have e:=bY (bY (i6 V8 ha) nr hr) np hp
 rw[show fD (aL a.i) nr np=5 from h] at e
 exact cH e
end
def gI(nr np:Nat)(r:Rl):List Nat:=aa (Nat.beq (oR nr np r) 4) (eC (aL r.i)) (qN (aL r.i))
def jM(nr np:Nat)(f:List Rl):List Nat:=Option.rec [] (λx=>x) (aj [[],[],gI nr np (bK f 0),[],gI nr np (bK f 1),cJ (xT (bK f 0).nm),gI nr np (bK f 0),gI nr np (bK f 0)] (br nr np f))
section
variable{w:World}{Hp:Heap}{md:Bool}{nr np:Nat}{fl:List Bool}{pre:List (V×Nat)}{a b:Rl}{K:Option V×Nat}
theorem AH(ha:a.i<13)(hr:nr<3)(hp:np<3)(h:Nat.beq (a8 nr np a) 0=false)(h':Nat.beq (a8 nr np a) 1=false):oR nr np a=4\/(oR nr np a=5/\np<2):=by
 rcases BA ha hr hp with q|q|q|q
 · rw[q.1] at h;exact tf h
 · rw[q.1] at h';exact tf h'
 · exact .inl q.2
 · exact .inr ⟨q.2,RW ha hr hp q.2⟩
theorem Cs(hc:br nr np f=c)(h:dT nr np f=false):aa (Nat.beq c 4) (Nat.beq (a8 nr np (bK f 1)) 1) (aa (Nat.beq c 5) false (Nat.beq (a8 nr np (bK f 0)) 1))=false:=by
 unfold dT at h
 rw[hc] at h;exact h
theorem pz{n:Nat}{P:Nat->Prop}(h:n<2)(h0:P 0)(h1:P 1):P n:=
 match n,h with
 |0,_=>h0
 |1,_=>h1
theorem qv(h:oR nr np a=4):gI nr np a=eC (aL a.i):=by unfold gI;rw[h];rfl
theorem zC(h:oR nr np a=5):gI nr np a=qN (aL a.i):=by unfold gI;rw[h];rfl
theorem Wz(Y:bu w.params Hp)(hr:nr<3)(hf:fl∈cC)(hp:len fl<3)(hK:K∈Ks)(hq:∀q∈pre,bw q.1 20=true)(hl:pre.length<5)(hk:len pre<oI K):∀f,cy f->bM (br nr (len fl) f)=false->dT nr (len fl) f=false->rH w Hp (Mk md K nr fl pre f (.str (jM nr (len fl) f)) (dJ nr (len fl) f))
 |[],_,hc,_=>tf hc
 |[a],h,hc,ty=>by
  have ha:=h.i a (.head _)
  cases e:Nat.beq (a8 nr (len fl) a) 0 with
  |true=>exact tf ((show bM (aa (Nat.beq (a8 nr (len fl) a) 0) 1 2)=true by rw[e];rfl).symm.trans hc)
  |false=>
   have hc:br nr (len fl) [a]=2:=by show aa (Nat.beq (a8 nr (len fl) a) 0) 1 2=2;rw[e];rfl
   have sp:dJ nr (len fl) [a]=cZ 0:=by unfold dJ;rw[hc];rfl
   have mq:jM nr (len fl) [a]=gI nr (len fl) a:=by unfold jM;rw[hc];rfl
   rw[sp,mq]
   rcases AH ha hr hp e (Cs hc ty) with o|⟨o,n2⟩
   · refine n7 (nm:=(a.nm,0::a.nm)) (a:=a) (b:=a) (d:=[]) (os:=[oR nr (len fl) a]) (o:=4) (j:=0) Y (iK _) hr hf hp hK ha ha hq hl hk ?_ (by rw[o];rfl) rfl (λq=>aV q (by decide)) (λ_=>by rw[o];decide) (vO ⟨a.i,gY ha λ_=>qv o⟩) ?_
     · rw[o];exact fu hp (P:=λnp=>([],[4])∈gC np) (by decide) (by decide) (by decide)
     · exact ae (jl ha hr hp (λ_=>qv o) (by rw[o];rfl)) aT
   · have o4:oR nr (len fl) a=4->gI nr (len fl) a=eC (aL a.i):=λq=>aV (o.symm.trans q) (by decide)
     refine n7 (nm:=(a.nm,0::a.nm)) (a:=a) (b:=a) (d:=[]) (os:=[oR nr (len fl) a]) (o:=5) (j:=0) Y (iK _) hr hf hp hK ha ha hq hl hk ?_ (by rw[o];rfl) rfl (λ_=>⟨a.i,o▸gY ha o4,zC o⟩) (λq=>aV rfl q) (vO ⟨a.i,gY ha o4⟩) ?_
     · rw[o];exact pz n2 (P:=λnp=>([],[5])∈gC np) (by decide) (by decide)
     · exact ae (jl ha hr hp o4 (by rw[o];rfl)) aT
 |[a,b],h,hc,ty=>by
  have ha:=h.i a (.head _)
  have hb:=h.i b (.tail _ (.head _))
  have ec:br nr (len fl) [a,b]=aa (seq a.nm b.nm) (aa (Nat.beq (a8 nr (len fl) a) 0) 5 7) (aa (Nat.beq (a8 nr (len fl) a) 0) (aa (Nat.beq (a8 nr (len fl) b) 0) 3 4) 6):=rfl
  cases e:Nat.beq (a8 nr (len fl) a) 0 with
  |false=>
   have hc:br nr (len fl) [a,b]=6\/br nr (len fl) [a,b]=7:=by
    rw[ec,e]
    cases seq a.nm b.nm
    · exact .inl rfl
    · exact .inr rfl
   have sp:dJ nr (len fl) [a,b]=cZ 0:=by unfold dJ;rcases hc with hc|hc<;>rw[hc]<;>rfl
   have mq:jM nr (len fl) [a,b]=gI nr (len fl) a:=by unfold jM;rcases hc with hc|hc<;>rw[hc]<;>rfl
   have n1:Nat.beq (a8 nr (len fl) a) 1=false:=by rcases hc with hc|hc<;>exact Cs hc ty
   rw[sp,mq]
   rcases AH ha hr hp e n1 with o|⟨o,n2⟩
   · refine n7 (nm:=(a.nm,0::a.nm)) (a:=a) (b:=b) (d:=[]) (os:=[oR nr (len fl) a,7]) (o:=4) (j:=0) Y (iK _) hr hf hp hK ha hb hq hl hk ?_ (by rw[o];rfl) rfl (λq=>aV q (by decide)) (λ_=>by rw[o];decide) (mW ⟨a.i,gY ha λ_=>qv o⟩ λq=>aV q (by decide)) ?_
     · rw[o];exact fu hp (P:=λnp=>([],[4,7])∈gC np) (by decide) (by decide) (by decide)
     · exact ae (jl ha hr hp (λ_=>qv o) (by rw[o];rfl)) (ae rfl aT)
   · have o4:oR nr (len fl) a=4->gI nr (len fl) a=eC (aL a.i):=λq=>aV (o.symm.trans q) (by decide)
     refine n7 (nm:=(a.nm,0::a.nm)) (a:=a) (b:=b) (d:=[]) (os:=[oR nr (len fl) a,7]) (o:=5) (j:=0) Y (iK _) hr hf hp hK ha hb hq hl hk ?_ (by rw[o];rfl) rfl (λ_=>⟨a.i,o▸gY ha o4,zC o⟩) (λq=>aV rfl q) (mW ⟨a.i,gY ha o4⟩ λq=>aV q (by decide)) ?_
     · rw[o];exact pz n2 (P:=λnp=>([],[5,7])∈gC np) (by decide) (by decide)
     · exact ae (jl ha hr hp o4 (by rw[o];rfl)) (ae rfl aT)
  |true=>
   rw[e] at ec
   have oa:=ul ha hr hp (uJ e)
   cases q:seq a.nm b.nm with
   |true=>
    have c5:br nr (len fl) [a,b]=5:=by rw[ec,q];rfl
    have sp:dJ nr (len fl) [a,b]=.int 3:=by unfold dJ;rw[c5];rfl
    have mq:jM nr (len fl) [a,b]=cJ (xT a.nm):=by unfold jM;rw[c5];rfl
    have qe:=fk.mp q
    rw[sp,mq]
    have o4:oR nr (len fl) a=4->cJ (xT a.nm)=eC (aL a.i):=rd oa
    refine n7 (nm:=(a.nm,0::a.nm)) (a:=a) (b:=b) (d:=a.nm) (os:=[oR nr (len fl) a,6]) (o:=6) (j:=1) Y (iK _) hr hf hp hK ha hb hq hl hk ?_ ?_ rfl (λq=>aV q (by decide)) (λ_=>?_) (mW ⟨a.i,gY ha o4⟩ λq=>aV q (by decide)) ?_
    · rcases h.dup a b rfl q with z|z|z<;>rcases oa with o|o<;>rw[o,z]
      · exact fu hp (P:=λnp=>([97],[0,6])∈gC np) (by decide) (by decide) (by decide)
      · exact fu hp (P:=λnp=>([97],[1,6])∈gC np) (by decide) (by decide) (by decide)
      · exact fu hp (P:=λnp=>([98],[0,6])∈gC np) (by decide) (by decide) (by decide)
      · exact fu hp (P:=λnp=>([98],[1,6])∈gC np) (by decide) (by decide) (by decide)
      · exact fu hp (P:=λnp=>([99],[0,6])∈gC np) (by decide) (by decide) (by decide)
      · exact fu hp (P:=λnp=>([99],[1,6])∈gC np) (by decide) (by decide) (by decide)
    · rcases oa with o|o<;>rw[o]<;>rfl
    · rcases h.dup a b rfl q with z|z|z<;>rcases oa with o|o<;>rw[o,z]<;>decide
    · have e0:∀o,(o=0\/o=1\/o=6)->∀j,v6 a.nm o j=.str a.nm:=λo ho j=>by rcases ho with ho|ho|ho<;>rw[ho]<;>rcases h.dup a b rfl q with z|z|z<;>rw[z]<;>rfl
      refine ae (jl ha hr hp o4 ?_) (ae (cV (ae ?_ (ae rfl (ae rfl aT)))) aT)
      · rw[e0 _ (oa.elim .inl λo=>.inr (.inl o))];rfl
      · rw[e0 6 (.inr (.inr rfl)),qe];rfl
   |false=>
    rw[q] at ec
    cases e':Nat.beq (a8 nr (len fl) b) 0 with
    |true=>
     have c3:br nr (len fl) [a,b]=3:=by rw[ec,e'];rfl
     rw[c3] at hc;exact tf hc
    |false=>
     have c4:br nr (len fl) [a,b]=4:=by rw[ec,e'];rfl
     have sp:dJ nr (len fl) [a,b]=cZ 1:=by unfold dJ;rw[c4];rfl
     have mq:jM nr (len fl) [a,b]=gI nr (len fl) b:=by unfold jM;rw[c4];rfl
     have o4:oR nr (len fl) a=4->gI nr (len fl) b=eC (aL a.i):=rd oa
     have Nw:ai (cI (a.nm,b.nm) md nr fl pre a b (gI nr (len fl) b)) (v6 [] (oR nr (len fl) a) 0)=some (.str a.nm):=by rcases oa with o|o<;>rw[o]<;>rfl
     rw[sp,mq]
     rcases AH hb hr hp e' (Cs c4 ty) with o|⟨o,n2⟩
     · refine n7 (nm:=(a.nm,b.nm)) (a:=a) (b:=b) (d:=[]) (os:=[oR nr (len fl) a,oR nr (len fl) b]) (o:=4) (j:=1) Y q hr hf hp hK ha hb hq hl hk ?_ ?_ rfl (λq=>aV q (by decide)) (λ_=>?_) (mW ⟨a.i,gY ha o4⟩ λ_=>⟨b.i,qO hb λ_=>qv o⟩) ?_
       · rcases oa with z|z<;>rw[o,z]
         · exact fu hp (P:=λnp=>([],[0,4])∈gC np) (by decide) (by decide) (by decide)
         · exact fu hp (P:=λnp=>([],[1,4])∈gC np) (by decide) (by decide) (by decide)
       · rcases oa with z|z<;>rw[o,z]<;>rfl
       · rcases oa with z|z<;>rw[o,z]<;>decide
       · exact ae (jl ha hr hp o4 Nw) (ae (vX hb hr hp (λ_=>qv o) (by rw[o];rfl)) aT)
     · have o5:oR nr (len fl) b=4->gI nr (len fl) b=eC (aL b.i):=λq=>aV (o.symm.trans q) (by decide)
       refine n7 (nm:=(a.nm,b.nm)) (a:=a) (b:=b) (d:=[]) (os:=[oR nr (len fl) a,oR nr (len fl) b]) (o:=5) (j:=1) Y q hr hf hp hK ha hb hq hl hk ?_ ?_ rfl (λ_=>⟨b.i,o▸qO hb o5,zC o⟩) (λq=>aV rfl q) (mW ⟨a.i,gY ha o4⟩ λ_=>⟨b.i,qO hb o5⟩) ?_
       · rcases oa with z|z<;>rw[o,z]
         · exact pz n2 (P:=λnp=>([],[0,5])∈gC np) (by decide) (by decide)
         · exact pz n2 (P:=λnp=>([],[1,5])∈gC np) (by decide) (by decide)
       · rcases oa with z|z<;>rw[o,z]<;>rfl
       · exact ae (jl ha hr hp o4 Nw) (ae (vX hb hr hp o5 (by rw[o];rfl)) aT)
 |_::_::_::_,h,_,_=>aV h.n (by simp)
end
section
variable{w:World}{Hp:Heap}{v:cc}{θ:Nat->Option V}{sg:Nat->Option (List V)}{md:Bool}{nr i n:Nat}{f:List Rl}{fl:List Bool}{pre fp:List (V×Nat)}{K:Option V×Nat}
theorem Ch{α β:Type}(g:α->β)(l m:List α):bN g (app l m)=app (bN g l) (bN g m):=by
 rw[cq,cq]
 induction l with
 |nil=>rfl
 |cons x r ih=>exact aq (g x:: ·) ih
theorem Jn(hf:fl∈cC)(eR:ai θ aR=some (b8 nr)):ai θ (Ce md aR fl)=some (jt md nr fl):=by
 refine cV (ae rfl (ae (by cases md<;>rfl) (ae eR (ae ?_ aT))))
 exact ui (P:=λfl=>ai θ (aA (bN (λx=>aA [qx,x]) (q9 fl)))=some (aA (bN (λx=>aA [qx,x]) (q9 fl)))) rfl rfl rfl rfl rfl rfl rfl fl hf
theorem J3(hf:fl∈cC)(eR:ai θ aR=some (b8 nr))(hq:aN (ai θ) (lY pre)=some (ie fp)):aN (bz θ sg) (AX md fl pre)=some [i3 (.bi 14) (.bi 15) (.bi 16) (.bi 17) (ls 2),.inst 12 [(21,dN md),(41,b8 nr),(45,ls 3),(23,jt md nr fl)],.list (ie fp),.list (gs md fl)]:=
 ae (fC rfl) (ae (lM (bQ (by cases md<;>rfl) (bQ eR (bQ rfl (bQ (Jn hf eR) aT))))) (ae (bX hq) (ae (bX (tv (vZ md hf).r)) aT)))
theorem Ie(hn:f.length<=2)(h:∀j r,aj f j=some r->ai θ (fb i j)=some (fR nr (len fl) j r)):aN (ai θ) (lY (nP i (len f)))=some (wH nr (len fl) f):=by
 cases f with
 |nil=>rfl
 |cons a f=>cases f with
  |nil=>exact ae (cV (ae (h 0 a rfl) (ae rfl (ae rfl aT)))) aT
  |cons b f=>cases f with
   |nil=>exact ae (cV (ae (h 0 a rfl) (ae rfl (ae rfl aT)))) (ae (cV (ae (h 1 b rfl) (ae rfl (ae rfl aT)))) aT)
   |cons=>exact aV hn (Nat.not_le.mpr (Nat.le_add_left 3 _))
theorem Wa(Y:bu w.params Hp)(O:b6 v θ sg)(hr:nr<3)(hf:fl∈cC)(hp:len fl<3)(eR:ai θ aR=some (b8 nr))(hq:∀q∈fp,bw q.1 20=true)(hl:fp.length<5)(ho:cy f)(hc:bM (br nr (len fl) f)=true)(h:∀j r,aj f j=some r->JZ θ i j nr (len fl) r)
 (he:aN (ai θ) (lY pre)=some (ie fp)):bU (c0 w Hp) v (zq md fl i (len f) pre):=by
 obtain⟨v0,DH,e,O0,E,e1⟩:=Ww (md:=md) Y hr hf hp hq hl f ho hc
 refine gp O0 O e1 ?_ E
 have r2:=cV (pj ho.n λj r g=>cV (ae (h j r g).nm (ae (h j r g).te (ae (h j r g).pb aT))))
 have r3:=pj ho.n λj r g=>cV (ae (h j r g).nm (ae (h j r g).du aT))
 refine dQ (e:=zq md fl i (len f) pre) (ae rfl (ae rfl (ae r2 (ae rfl aT)))) (J3 hf eR he) rfl (FG (bX ?_) aT) (ae (bX r3) aT)
 show aN (ai θ) (bN (λq:V×Nat=>aA [q.1,ls 1,.int (.ofNat q.2)]) (app pre (nP i (len f))))=_
 rw[Ch,cq,cq]
 exact uK he (Ie ho.n λj r g=>(h j r g).du)
theorem Zc(Y:bu w.params Hp)(O:b6 v θ sg)(hr:nr<3)(hf:fl∈cC)(hp:len fl<3)(eR:ai θ aR=some (b8 nr))(hq:∀q∈fp,bw q.1 20=true)(hl:fp.length<5)(ho:cy f)(hc:bM (br nr (len fl) f)=false)(ht:dT nr (len fl) f=true)
 (e1:ai θ (il i)=some (aA (cz eu f)))(e2:ai θ (iL i)=some qP)(e3:ai θ (lP i)=some (dJ nr (len fl) f))(he:aN (ai θ) (lY pre)=some (ie fp)):bU (c0 w Hp) v (y5 md fl i pre):=by
 obtain⟨v0,DH,e,O0,E,e0⟩:=N4 (md:=md) Y hr hf hp hq hl f ho hc ht
 exact gp O0 O e0 (dQ (e:=y5 md fl i pre) (ae rfl (ae rfl (ae e1 (ae rfl aT)))) (J3 hf eR he) (qd e2 e3) rfl rfl) E
theorem UO(Y:bu w.params Hp)(O:b6 v θ sg)(hr:nr<3)(hf:fl∈cC)(hp:len fl<3)(hK:K∈Ks)(eR:ai θ aR=some (b8 nr))(hq:∀q∈fp,bw q.1 20=true)(hl:fp.length<5)(hk:len fp<oI K)(ho:cy f)(hc:bM (br nr (len fl) f)=false)(ht:dT nr (len fl) f=false)
 (e1:ai θ (il i)=some (aA (cz eu f)))(e2:ai θ (iL i)=some (.str (jM nr (len fl) f)))(e3:ai θ (lP i)=some (dJ nr (len fl) f))(he:aN (ai θ) (lY pre)=some (ie fp)):bU (c0 w Hp) v (Cn md K fl i pre):=by
 obtain⟨v0,DH,e,O0,E,e0⟩:=Wz (md:=md) Y hr hf hp hK hq hl hk f ho hc ht
 have D:=vm md hK
 refine gp O0 O e0 (dQ (e:=Cn md K fl i pre) (ae rfl (ae rfl (ae e1 (ae rfl aT)))) ?_ (qd e2 e3) rfl rfl) E
 exact ae (fC rfl) (ae (lM (bQ (by cases md<;>rfl) (bQ eR (bQ rfl (bQ (Jn hf eR) aT))))) (ae (bX he) (ae (bX (tv (vZ md hf).r))
  (ae (fC rfl) (ae (fC D.k) (ae (fC (by cases md<;>rfl)) (ae (fC rfl) (ae (fC D.t) (ae rfl aT)))))))))
end
def gR(x:V):V:=aa (bw x 20) x .nil
def gT(x:V):V:=aa (aa (ca x) (bw x 20) false) x .nil
def bJ(fs:List (List Rl))(i:Nat):List Rl:=Option.rec [] (λr=>r) (aj fs i)
def kU(fs:List (List Rl))(i:Nat):List Nat×List Nat:=aa (seq (bK (bJ fs i) 0).nm (bK (bJ fs i) 1).nm) ((bK (bJ fs i) 0).nm,0::(bK (bJ fs i) 0).nm) ((bK (bJ fs i) 0).nm,(bK (bJ fs i) 1).nm)
def xP(fs:List (List Rl))(k:Nat):Rl:=bK (bJ fs (Nat.div k 2)) (Nat.mod k 2)
def Kn(nr np:Nat)(fs:List (List Rl))(i:Nat):V:=
 gT (aa (Nat.blt i 76) (fR nr np (Nat.mod (Nat.sub i 70) 2) (xP fs (Nat.sub i 70))) (aa (Nat.beq i 100) (b8 nr) (aa (Nat.blt i 104) (aA (cz eu (bJ fs (Nat.sub i 101)))) (iV nr np (bJ fs (Nat.sub i 110))))))
def n9(nr np:Nat)(f:List Rl):V:=aa (dT nr np f) qP (.str (jM nr np f))
def Gw(nr np:Nat)(fl:List Bool)(ft:Nat->List Nat)(fs:List (List Rl))(i:Nat):V:=
 gR (aa (Nat.blt i 220) (.str (ft (Nat.sub i 210))) (aa (Nat.blt i 230) (n9 nr np (bJ fs (Nat.sub i 220))) (aa (Nat.blt i 240) (dJ nr np (bJ fs (Nat.sub i 230))) (aa (Nat.blt i 250) (.str (aL (xP fs (Nat.sub i 240)).i)) (aa (Nat.blt i 260) (.bool (xP fs (Nat.sub i 250)).p) (aa (Nat.blt i 280) (dU (aL (xP fs (Nat.sub i 260)).i) (Nat.add 40 (Nat.mod (Nat.sub i 260) 2))) (Option.rec .nil (λx=>x) (aj (lH fl) (Nat.sub i 280)))))))))
def Vh(fl:List Bool)(fs:List (List Rl))(j:Nat):List V:=Nat.rec (om fl) (λk _=>bN fO (bJ fs k)) j
theorem Pk(x:V):bw (gR x) 20=true:=by
 unfold gR
 cases e:bw x 20 with
 |true=>exact e
 |false=>rfl
theorem T9(x:V):ca (gT x)=true/\bw (gT x) 20=true:=by
 unfold gT
 cases e:ca x with
 |false=>exact⟨rfl,rfl⟩
 |true=>
  cases e':bw x 20 with
  |false=>exact⟨rfl,rfl⟩
  |true=>exact⟨e,e'⟩
theorem su(h:bw x 20=true):gR x=x:=by unfold gR;rw[h];rfl
theorem wS(t:ca x=true)(h:bw x 20=true):gT x=x:=by unfold gT;rw[t,h];rfl
theorem X7(fs:List (List Rl))(i:Nat):seq (kU fs i).1 (kU fs i).2=false:=by
 unfold kU
 cases e:seq (bK (bJ fs i) 0).nm (bK (bJ fs i) 1).nm with
 |true=>exact iK _
 |false=>exact e
theorem Pi(e:Vr)(p:List Dr)(AB:Int×Int)(i:Nat):bw (jd e.rs p AB i) 20=true:=by
 unfold jd
 cases aa (Nat.ble 2000 i) (Nat.blt i 3000) false with
 |true=>rfl
 |false=>
  rw[cW]
  cases aa (Nat.ble 3000 i) (Nat.blt i 4000) false with
  |true=>exact GJ _ _ _
  |false=>exact e.hr i
theorem QK(e:Vr)(p:List Dr)(AB:Int×Int)(i:Nat):bw ((vP e p AB).ρ i) 20=true:=by
 rw[lC]
 exact FB (nm:=e.nm) (tp:=e.tp) (z:=λi=>zP p AB (i-6000)) (rs:=jd e.rs p AB) e.ht (Pi e p AB) i
noncomputable def bZ(v:cc)(n:Nat):Option V:=some (v.ρ n)
noncomputable def kM(v:cc)(j:Nat):Option (List V):=some (v.seg j)
theorem ij(e:Vr)(p:List Dr)(AB:Int×Int):b6 (vP e p AB) (bZ (vP e p AB)) (kM (vP e p AB)):=
 ⟨λn w h=>⟨af h,af h▸iQ _ (QK e p AB n)⟩,λj l h=>af h⟩
theorem Kg(f:List Rl):∀v∈bN fO f,dB v=true:=by
 induction f with
 |nil=>exact λ_ q=>nomatch q
 |cons a r ih=>exact bD ⟨rfl,ih⟩
theorem tA(fl:List Bool):∀v∈om fl,dB v=true:=by
 have go:∀(fl:List Bool) (nm:List Nat),∀v∈(List.rec (motive:=λ_=>List Nat->List V) (λ_=>[]) (λb _ ih nm=>List.rec [] (λx q _=>aA [.str [x],.bool b]::ih q) nm) fl nm:List V),dB v=true:=by
  intro fl
  induction fl with
  |nil=>exact λ_ _ q=>nomatch q
  |cons b r ih=>
   intro nm
   cases nm with
   |nil=>exact λ_ q=>nomatch q
   |cons x q=>exact bD ⟨rfl,ih q⟩
 exact go fl [84,85]
noncomputable def eD(nr np:Nat)(fl:List Bool)(ft:Nat->List Nat)(fs:List (List Rl)):Vr where
 nm:=kU fs
 tp:=Kn nr np fs
 rs:=Gw nr np fl ft fs
 seg:=Vh fl fs
 hn:=X7 fs
 ht:=λ_=>T9 _
 hr:=λ_=>Pk _
 hs:=λj=>by
  cases j with
  |zero=>exact tA fl
  |succ k=>exact Kg _
section
variable{nr np:Nat}{fl:List Bool}{ft:Nat->List Nat}{fs:List (List Rl)}{p:List Dr}{AB:Int×Int}{i j n:Nat}
theorem N0(h:64<=n)(h':n<128):(vP (eD nr np fl ft fs) p AB).ρ n=Kn nr np fs n:=by
 rw[lC,LH h h'];rfl
theorem abQ(h:128<=n)(h':n<2000):(vP (eD nr np fl ft fs) p AB).ρ n=Gw nr np fl ft fs n:=by
 rw[lC,tL h (by omega),JH (.inl h')];rfl
theorem G1(h:∀f∈fs,cy f)(i j:Nat):(bK (bJ fs i) j).i<13:=by
 unfold bK
 rw[dj]
 cases e:(bJ fs i)[j]? with
 |none=>exact(by decide:0<13)
 |some r=>
  have m:=List.mem_of_getElem? e
  revert m
  unfold bJ
  rw[dj]
  cases e':fs[i]? with
  |none=>exact λq=>nomatch q
  |some f=>exact λq=>(h f (List.mem_of_getElem? e')).i r q
theorem xq{P:Nat->Nat->Prop}(hi:i<3)(hj:j<2)(a:P 0 0)(b:P 0 1)(c:P 1 0)(d:P 1 1)(e:P 2 0)(f:P 2 1):P i j:=
 fu hi (P:=λi=>P i j) (pz hj (P:=P 0) a b) (pz hj (P:=P 1) c d) (pz hj (P:=P 2) e f)
theorem oA(hr:nr<3):ai (bZ (vP (eD nr np fl ft fs) p AB)) aR=some (b8 nr):=by
 show some ((vP (eD nr np fl ft fs) p AB).ρ 100)=_
 rw[N0 (by decide) (by decide)]
 exact aq some (wS (jN hr).1 (jN hr).2)
theorem NX(hr:nr<3)(hp:np<3)(h:∀f∈fs,cy f)(hi:i<3)(hj:j<2):ai (bZ (vP (eD nr np fl ft fs) p AB)) (fb i j)=some (fR nr np j (bK (bJ fs i) j)):=by
 refine(xq hi hj (P:=λi j=>ai (bZ (vP (eD nr np fl ft fs) p AB)) (fb i j)=some (gT (fR nr np j (bK (bJ fs i) j)))) rfl rfl rfl rfl rfl rfl).trans (aq some ?_)
 have f:=gM (s:=j) (G1 h i j) hj hr hp
 exact wS f.dt f.df
theorem Nz(hi:i<3)(hj:j<2):ai (bZ (vP (eD nr np fl ft fs) p AB)) (mP i j)=some (.str (aL (bK (bJ fs i) j).i)):=by
 refine(xq hi hj (P:=λi j=>ai (bZ (vP (eD nr np fl ft fs) p AB)) (mP i j)=some (gR (.str (aL (bK (bJ fs i) j).i)))) rfl rfl rfl rfl rfl rfl).trans (aq some ?_)
 exact su rfl
theorem Ua(hi:i<3)(hj:j<2):ai (bZ (vP (eD nr np fl ft fs) p AB)) (jY i j)=some (.bool (bK (bJ fs i) j).p):=by
 refine(xq hi hj (P:=λi j=>ai (bZ (vP (eD nr np fl ft fs) p AB)) (jY i j)=some (gR (.bool (bK (bJ fs i) j).p))) rfl rfl rfl rfl rfl rfl).trans (aq some ?_)
 exact su rfl
theorem Zm(hr:nr<3)(h:∀f∈fs,cy f)(hi:i<3)(hj:j<2):ai (bZ (vP (eD nr np fl ft fs) p AB)) (ni i j)=some (dU (aL (bK (bJ fs i) j).i) (Nat.add 40 j)):=by
 refine(xq hi hj (P:=λi j=>ai (bZ (vP (eD nr np fl ft fs) p AB)) (ni i j)=some (gR (dU (aL (bK (bJ fs i) j).i) (Nat.add 40 j)))) rfl rfl rfl rfl rfl rfl).trans (aq some ?_)
 exact su (gM (np:=0) (G1 h i j) hj hr (by decide)).tf
end
theorem Pb:iE (λw=>bO (λs=>kz 18 (dU w (Nat.add 40 s))) 2)=true:=by kernel_rfl
theorem nA{p q:V}{n:Nat}(h1:bw p n=true)(h2:bw q (n+1)=true)(h3:ca q=true):bw (.cons p q) (n+1)=true:=by
 show aa (bw p n) (aa (bw q (n+1)) (ca q) false) false=true
 rw[h1,h2,h3];rfl
theorem G8(h:cy f):ca (aA (cz eu f))=true/\bw (aA (cz eu f)) 20=true:=by
 have one:∀(r:Rl) (s:Nat),r.i<13->s<2->bw (eu s r) 19=true:=λr s hi hs=>
  nA (n:=18) rfl (nA (n:=18) (bY (i6 Pb hi) s hs) (nA (n:=18) rfl rfl rfl) rfl) rfl
 match f,h with
 |[],_=>exact⟨rfl,rfl⟩
 |[a],h=>exact⟨rfl,nA (n:=19) (one a 0 (h.i a (.head _)) (by decide)) rfl rfl⟩
 |[a,b],h=>exact⟨rfl,nA (n:=19) (one a 0 (h.i a (.head _)) (by decide)) (nA (n:=19) (one b 1 (h.i b (.tail _ (.head _))) (by decide)) rfl rfl) rfl⟩
 |_::_::_::_,h=>exact aV h.n (by simp)
inductive lK(nr np:Nat)(f:List Rl):Prop
 |dup:br nr np f=5->lK nr np f
 |fst:br nr np f=2\/br nr np f=6\/br nr np f=7->Nat.beq (a8 nr np (bK f 0)) 0=false->lK nr np f
 |snd:br nr np f=4->Nat.beq (a8 nr np (bK f 1)) 0=false->lK nr np f
section
variable{nr np:Nat}{f:List Rl}
theorem Ab(h:cy f)(hc:bM (br nr np f)=false):lK nr np f:=by
 match f,h,hc with
 |[],_,hc=>exact tf hc
 |[a],_,hc=>
  cases e:Nat.beq (a8 nr np a) 0 with
  |true=>exact tf ((show bM (aa (Nat.beq (a8 nr np a) 0) 1 2)=true by rw[e];rfl).symm.trans hc)
  |false=>exact .fst (.inl (by show aa (Nat.beq (a8 nr np a) 0) 1 2=2;rw[e];rfl)) e
 |a::b::r,h,hc=>
  have ec:br nr np (a::b::r)=aa (seq a.nm b.nm) (aa (Nat.beq (a8 nr np a) 0) 5 7) (aa (Nat.beq (a8 nr np a) 0) (aa (Nat.beq (a8 nr np b) 0) 3 4) 6):=rfl
  cases e:Nat.beq (a8 nr np a) 0 with
  |false=>
   refine .fst ?_ e
   rw[ec,e]
   cases seq a.nm b.nm
   · exact .inr (.inl rfl)
   · exact .inr (.inr rfl)
  |true=>
   cases q:seq a.nm b.nm with
   |true=>exact .dup (by rw[ec,e,q];rfl)
   |false=>
    cases e':Nat.beq (a8 nr np b) 0 with
    |true=>exact tf ((show bM (br nr np (a::b::r))=true by rw[ec,e,q,e'];rfl).symm.trans hc)
    |false=>exact .snd (by rw[ec,e,q,e'];rfl) e'
theorem Gh(e:Nat.beq (a8 nr np r) 0=false):fR nr np j r=aA [aa (Nat.beq (a8 nr np r) 1) qu k4,cZ j]:=by
 show aa (Nat.beq (a8 nr np r) 0) (eG (aL r.i)) (aA [aa (Nat.beq (a8 nr np r) 1) qu k4,cZ j])=_
 rw[e];rfl
theorem Ek(B:lK nr np f):iV nr np f=aA [aa (dT nr np f) qu k4,dJ nr np f]:=by
 unfold iV dT dJ
 cases B with
 |dup c=>rw[c];rfl
 |fst c e=>rcases c with c|c|c<;>rw[c]<;>exact Gh e
 |snd c e=>rw[c];exact Gh e
theorem Lc(B:lK nr np f){n:Nat}:bw (dJ nr np f) (n+1)=true:=by
 unfold dJ
 cases B with
 |dup c=>rw[c];rfl
 |fst c e=>rcases c with c|c|c<;>rw[c]<;>rfl
 |snd c e=>rw[c];rfl
theorem Kq(B:lK nr np f):ca (iV nr np f)=true/\bw (iV nr np f) 20=true:=by
 rw[Ek B]
 exact⟨rfl,nA (n:=19) (by cases dT nr np f<;>rfl) (nA (n:=19) (Lc B) rfl rfl) rfl⟩
theorem RD(hc:bM (br nr np [a,b])=true):seq a.nm b.nm=false:=by
 cases q:seq a.nm b.nm with
 |false=>rfl
 |true=>
  have hc:bM (aa (seq a.nm b.nm) (aa (Nat.beq (a8 nr np a) 0) 5 7) (aa (Nat.beq (a8 nr np a) 0) (aa (Nat.beq (a8 nr np b) 0) 3 4) 6))=true:=hc
  rw[q] at hc
  cases e:Nat.beq (a8 nr np a) 0<;>rw[e] at hc<;>exact ft hc
end
section
variable{nr np:Nat}{fl:List Bool}{ft:Nat->List Nat}{fs:List (List Rl)}{p:List Dr}{AB:Int×Int}{i j n:Nat}{f:List Rl}
theorem Wy(hi:i<3):ai (bZ (vP (eD nr np fl ft fs) p AB)) (lU i 0)=some (.str (bK (bJ fs i) 0).nm):=by
 have e:(kU fs i).1=(bK (bJ fs i) 0).nm:=by unfold kU;cases seq (bK (bJ fs i) 0).nm (bK (bJ fs i) 1).nm<;>rfl
 rw[← e]
 exact fu hi (P:=λi=>ai (bZ (vP (eD nr np fl ft fs) p AB)) (lU i 0)=some (.str (kU fs i).1)) rfl rfl rfl
theorem Rh(hi:i<3)(hs:seq (bK (bJ fs i) 0).nm (bK (bJ fs i) 1).nm=false):ai (bZ (vP (eD nr np fl ft fs) p AB)) (lU i 1)=some (.str (bK (bJ fs i) 1).nm):=by
 have e:(kU fs i).2=(bK (bJ fs i) 1).nm:=by unfold kU;rw[hs];rfl
 rw[← e]
 exact fu hi (P:=λi=>ai (bZ (vP (eD nr np fl ft fs) p AB)) (lU i 1)=some (.str (kU fs i).2)) rfl rfl rfl
theorem Ar(hi:i<3)(h:cy (bJ fs i)):ai (bZ (vP (eD nr np fl ft fs) p AB)) (il i)=some (aA (cz eu (bJ fs i))):=by
 refine(fu hi (P:=λi=>ai (bZ (vP (eD nr np fl ft fs) p AB)) (il i)=some (gT (aA (cz eu (bJ fs i))))) rfl rfl rfl).trans ?_
 rw[wS (G8 h).1 (G8 h).2]
theorem ZJ(hi:i<3)(B:lK nr np (bJ fs i)):ai (bZ (vP (eD nr np fl ft fs) p AB)) (.atom (Nat.add 110 i))=some (iV nr np (bJ fs i)):=by
 refine(fu hi (P:=λi=>ai (bZ (vP (eD nr np fl ft fs) p AB)) (.atom (Nat.add 110 i))=some (gT (iV nr np (bJ fs i)))) rfl rfl rfl).trans ?_
 rw[wS (Kq B).1 (Kq B).2]
theorem Zq(hi:i<3):ai (bZ (vP (eD nr np fl ft fs) p AB)) (iL i)=some (n9 nr np (bJ fs i)):=by
 refine(fu hi (P:=λi=>ai (bZ (vP (eD nr np fl ft fs) p AB)) (iL i)=some (gR (n9 nr np (bJ fs i)))) rfl rfl rfl).trans ?_
 rw[su]
 unfold n9
 cases dT nr np (bJ fs i)<;>rfl
theorem JU(hi:i<3)(B:lK nr np (bJ fs i)):ai (bZ (vP (eD nr np fl ft fs) p AB)) (lP i)=some (dJ nr np (bJ fs i)):=by
 refine(fu hi (P:=λi=>ai (bZ (vP (eD nr np fl ft fs) p AB)) (lP i)=some (gR (dJ nr np (bJ fs i)))) rfl rfl rfl).trans ?_
 rw[su (Lc B)]
theorem Cf(hi:i<3):ai (bZ (vP (eD nr np fl ft fs) p AB)) (hY i)=some (.str (ft i)):=
 fu hi (P:=λi=>ai (bZ (vP (eD nr np fl ft fs) p AB)) (hY i)=some (.str (ft i))) rfl rfl rfl
theorem qY(h:aj fs i=some f):bJ fs i=f:=by unfold bJ;rw[h]
theorem qQ(h:∀f∈fs,cy f)(e:aj fs i=some f):cy f:=h f (by rw[dj] at e;exact List.mem_of_getElem? e)
theorem On(h:aj f j=some r):bK f j=r:=by unfold bK;rw[h]
theorem YD(hr:nr<3)(hp:np<3)(h:∀f∈fs,cy f)(hi:i<3)(e:aj fs i=some f)(hc:bM (br nr np f)=true):j7 (bZ (vP (eD nr np fl ft fs) p AB)) (kM (vP (eD nr np fl ft fs) p AB)) nr np i f (.ok (len f)):=by
 have ef:=qY e
 have F:=qQ h e
 refine .ok hc λj r hj=>?_
 have er:=On hj
 have lj:=Nat.lt_of_lt_of_le (iP hj) F.n
 refine⟨?_,?_,?_,?_,?_⟩
 · match j,lj with
   |0,_=>have:=Wy (nr:=nr) (np:=np) (fl:=fl) (ft:=ft) (fs:=fs) (p:=p) (AB:=AB) hi;rw[ef,er] at this;exact this
   |1,_=>
    have hs:seq (bK (bJ fs i) 0).nm (bK (bJ fs i) 1).nm=false:=by
     rw[ef]
     match f,F,hc,hj with
     |[a,b],F,hc,hj=>exact RD hc
     |[],_,_,hj=>exact ns hj
     |[_],_,_,hj=>exact ns hj
     |_::_::_::_,F,_,_=>exact aV F.n (by simp)
    have:=Rh (nr:=nr) (np:=np) (fl:=fl) (ft:=ft) (fs:=fs) (p:=p) (AB:=AB) hi hs
    rw[ef,er] at this;exact this
 · have:=Nz (nr:=nr) (np:=np) (fl:=fl) (ft:=ft) (fs:=fs) (p:=p) (AB:=AB) hi lj;rw[ef,er] at this;exact this
 · have:=Ua (nr:=nr) (np:=np) (fl:=fl) (ft:=ft) (fs:=fs) (p:=p) (AB:=AB) hi lj;rw[ef,er] at this;exact this
 · have:=Zm (nr:=nr) (np:=np) (fl:=fl) (ft:=ft) (fs:=fs) (p:=p) (AB:=AB) hr h hi lj;rw[ef,er] at this;exact this
 · have:=NX (nr:=nr) (np:=np) (fl:=fl) (ft:=ft) (fs:=fs) (p:=p) (AB:=AB) hr hp h hi lj;rw[ef,er] at this;exact this
theorem FL(hi:i<3):kM (vP (eD nr np fl ft fs) p AB) (Nat.succ i)=some (bN fO (bJ fs i)):=rfl
theorem Rt(h:∀f∈fs,cy f)(hi:i<3)(e:aj fs i=some f)(hc:bM (br nr np f)=false):j7 (bZ (vP (eD nr np fl ft fs) p AB)) (kM (vP (eD nr np fl ft fs) p AB)) nr np i f (.bad (dT nr np f)):=by
 have F:=qQ h e
 obtain rfl:=qY e
 have B:=Ab F hc
 refine .bad hc (FL hi) (Ar hi F) ?_
 rw[Ek B]
 exact cV (ae (by cases dT nr np (bJ fs i)<;>rfl) (ae (JU hi B) aT))
theorem NB(h:∀f∈fs,cy f)(hi:i<3)(e:aj fs i=some f):j7 (bZ (vP (eD nr np fl ft fs) p AB)) (kM (vP (eD nr np fl ft fs) p AB)) nr np i f (.aft (!(bM (br nr np f)))):=by
 have F:=qQ h e
 obtain rfl:=qY e
 refine .aft _ (FL hi) (Ar hi F) ?_
 cases hc:bM (br nr np (bJ fs i)) with
 |true=>rw[Ls hc];rfl
 |false=>exact ZJ hi (Ab F hc)
end
def mf(nr np:Nat)(l:List (List Rl)):List Fc:=bN (λf=>.aft (!(bM (br nr np f)))) l
def gu(nr np:Nat)(l:List (List Rl)):List Fc:=List.rec [] (λf r ih=>aa (bM (br nr np f)) (.ok (len f)::ih) (.bad (dT nr np f)::mf nr np r)) l
def w6(s:iY)(l:List Fc)(i:Nat)(pre:List (V×Nat)):List En:=List.rec (motive:=λ_=>Nat->List (V×Nat)->List En) (λ_ _=>[]) (λf _ ih i pre=>app (KJ s i f pre) (ih (Nat.succ i) (app pre (nP i f.n)))) l i pre
def nC{α β:Type}(f:Nat->α->β)(l:List α)(i:Nat):List β:=List.rec (motive:=λ_=>Nat->List β) (λ_=>[]) (λx _ ih i=>f i x::ih (Nat.succ i)) l i
def qB(nr np:Nat)(f:List Rl):List (V×Nat):=cz (λj r=>(fR nr np j r,Nat.add 40 j)) f
inductive ly(θ:Nat->Option V)(sg:Nat->Option (List V))(nr np:Nat):Nat->List (List Rl)->List Fc->Prop
 |nil {i}:ly θ sg nr np i [] []
 |cons {i f fc r q}:j7 θ sg nr np i f fc->ai θ (il i)=some (aA (cz eu f))->cy f->ly θ sg nr np (Nat.succ i) r q->ly θ sg nr np i (f::r) (fc::q)
structure xx(θ:Nat->Option V)(sg:Nat->Option (List V))(nr np:Nat)(fs:List (List Rl)):Prop where
 ok:∀i f,aj fs i=some f->bM (br nr np f)=true->j7 θ sg nr np i f (.ok (len f))
 bad:∀i f,aj fs i=some f->bM (br nr np f)=false->j7 θ sg nr np i f (.bad (dT nr np f))
 aft:∀i f,aj fs i=some f->j7 θ sg nr np i f (.aft (!(bM (br nr np f))))
 tr:∀i f,aj fs i=some f->ai θ (il i)=some (aA (cz eu f))
 ms:∀i f,aj fs i=some f->ai θ (iL i)=some (n9 nr np f)
 sp:∀i f,aj fs i=some f->bM (br nr np f)=false->ai θ (lP i)=some (dJ nr np f)
 rl:∀i f,aj fs i=some f->cy f
def Sub(l fs:List (List Rl))(i:Nat):Prop:=∀k f,aj l k=some f->aj fs (i+k)=some f
theorem Sub.tl{f:List Rl}(h:Sub (f::r) fs i):Sub r fs (Nat.succ i):=λk g e=>by
 have:=h (k+1) g e
 rwa [show Nat.succ i+k=i+(k+1) by omega]
section
variable{w:World}{Hp:Heap}{v:cc}{θ:Nat->Option V}{sg:Nat->Option (List V)}{md:Bool}{nr np:Nat}{fl:List Bool}{fs:List (List Rl)}{K:Option V}{all:List Fc}
theorem BZ{ft:Nat->List Nat}(hr:nr<3)(hp:np<3)(h:∀f∈fs,cy f)(h3:fs.length<=3):xx (bZ (vP (eD nr np fl ft fs) p AB)) (kM (vP (eD nr np fl ft fs) p AB)) nr np fs:=
 have L:∀{i f},aj fs i=some f->i<3:=λe=>Nat.lt_of_lt_of_le (iP e) h3
 { ok:=λi f e hc=>YD hr hp h (L e) e hc
   bad:=λi f e hc=>Rt h (L e) e hc
   aft:=λi f e=>NB h (L e) e
   tr:=λi f e=>by obtain rfl:=qY e;exact Ar (L e) (qQ h e)
   ms:=λi f e=>by obtain rfl:=qY e;exact Zq (L e)
   sp:=λi f e hc=>by obtain rfl:=qY e;exact JU (L e) (Ab (qQ h e) hc)
   rl:=λi f e=>qQ h e}
theorem Gi(D:xx θ sg nr np fs):∀(l:List (List Rl)) (i:Nat),Sub l fs i->ly θ sg nr np i l (mf nr np l)
 |[],_,_=>.nil
 |f::r,i,h=>.cons (D.aft i f (h 0 f rfl)) (D.tr i f (h 0 f rfl)) (D.rl i f (h 0 f rfl)) (Gi D r (Nat.succ i) h.tl)
theorem wp(D:xx θ sg nr np fs):∀(l:List (List Rl)) (i:Nat),Sub l fs i->ly θ sg nr np i l (gu nr np l)
 |[],_,_=>.nil
 |f::r,i,h=>by
  show ly θ sg nr np i (f::r) (aa (bM (br nr np f)) (.ok (len f)::gu nr np r) (.bad (dT nr np f)::mf nr np r))
  cases hc:bM (br nr np f) with
  |true=>exact .cons (D.ok i f (h 0 f rfl) hc) (D.tr i f (h 0 f rfl)) (D.rl i f (h 0 f rfl)) (wp D r (Nat.succ i) h.tl)
  |false=>exact .cons (D.bad i f (h 0 f rfl) hc) (D.tr i f (h 0 f rfl)) (D.rl i f (h 0 f rfl)) (Gi D r (Nat.succ i) h.tl)
theorem OB(Y:bu w.params Hp)(O:b6 v θ sg)(hr:nr<3)(hp:np<3)(hl:len fl=np)(eR:ai θ aR=some (b8 nr))(F:ly θ sg nr np i l jA):∀e∈nC (rr fl) jA i,bU (c0 w Hp) v e:=by
 induction F with
 |nil=>exact λ_ q=>nomatch q
 |cons a _ rl _ ih=>exact bD ⟨YW Y O hr hp hl rl eR a,ih⟩
theorem W9(F:ly θ sg nr np i l jA):ay (Sv θ θ) (nC (λi _=>il i) l i) (nC xV jA i):=by
 induction F with
 |nil=>exact .nil
 | @cons i f fc r q a t rl _ ih=>
  refine .cons ⟨_,t,?_⟩ ih
  cases a with
  |ok hc h=>exact cV (pj rl.n λj r g=>cV (ae (h j r g).nm (ae (h j r g).te (ae (h j r g).pb aT))))
  |bad=>exact t
  |aft=>exact t
theorem MA(s:iY):∀(l:List (List Rl)) (i:Nat) (pre:List (V×Nat)),w6 s (mf nr np l) i pre=[]
 |[],_,_=>rfl
 |_::r,i,pre=>MA s r (Nat.succ i) (app pre [])
theorem JY{α:Type}(l:List α):app l []=l:=by rw[cq,List.append_nil]
theorem Zr{i n:Nat}(h:i<n):2*i<oI (K,n):=by
 obtain⟨m,rfl⟩:∃m,n=m+1:=⟨n-1,by omega⟩
 show 2*i<Nat.succ (2*m)
 omega
theorem YQ{f:List Rl}(hr:nr<3)(hp:np<3)(h:cy f):∀q∈qB nr np f,bw q.1 20=true:=by
 match f,h with
 |[],_=>exact λ_ q=>nomatch q
 |[a],h=>exact bD ⟨(gM (s:=0) (h.i a (.head _)) (by decide) hr hp).df,λ_ q=>nomatch q⟩
 |[a,b],h=>exact bD ⟨(gM (s:=0) (h.i a (.head _)) (by decide) hr hp).df,bD ⟨(gM (s:=1) (h.i b (.tail _ (.head _))) (by decide) hr hp).df,λ_ q=>nomatch q⟩⟩
 |_::_::_::_,h=>exact aV h.n (by simp)
theorem TN{f:List Rl}(h:cy f):ie (qB nr np f)=wH nr np f:=by
 match f,h with
 |[],_=>rfl
 |[a],h=>rfl
 |[a,b],h=>rfl
 |_::_::_::_,h=>exact aV h.n (by simp)
theorem R4{f:List Rl}(h:cy f):(qB nr np f).length<=2:=by
 match f,h with
 |[],_=>exact Nat.zero_le 2
 |[a],h=>exact Nat.le_succ 1
 |[a,b],h=>exact Nat.le_refl 2
 |_::_::_::_,h=>exact aV h.n (by simp)
theorem I5(Y:bu w.params Hp)(O:b6 v θ sg)(D:xx θ sg nr (len fl) fs)(hr:nr<3)(hf:fl∈cC)(hp:len fl<3)(eR:ai θ aR=some (b8 nr))(hK:(K,len all)∈Ks)(h3:len all<=3):∀(l:List (List Rl)) (i:Nat) (pre fp:List (V×Nat)),Sub l fs i->i+l.length<=len all->
 aN (ai θ) (lY pre)=some (ie fp)->(∀q∈fp,bw q.1 20=true)->fp.length<=2*i->∀e∈w6 ⟨md,K,fl,all⟩ (gu nr (len fl) l) i pre,bU (c0 w Hp) v e
 |[],_,_,_,_,_,_,_,_=>λ_ q=>nomatch q
 |f::r,i,pre,fp,h,hn,he,hq,hl=>by
  have e0:=h 0 f rfl
  have rl:=D.rl i f e0
  have hn:i+(r.length+1)<=len all:=hn
  have l5:fp.length<5:=by omega
  have lk:len fp<oI (K,len all):=by rw[bH];exact jQ hl (Zr (by omega))
  show ∀e∈w6 ⟨md,K,fl,all⟩ (aa (bM (br nr (len fl) f)) (.ok (len f)::gu nr (len fl) r) (.bad (dT nr (len fl) f)::mf nr (len fl) r)) i pre,bU (c0 w Hp) v e
  cases hc:bM (br nr (len fl) f) with
  |true=>
   have F:=D.ok i f e0 hc
   cases F with
   |ok hc hv=>
    refine bD ⟨Wa Y O hr hf hp eR hq l5 rl hc hv he,?_⟩
    refine I5 Y O D hr hf hp eR hK h3 r (Nat.succ i) (app pre (nP i (len f))) (app fp (qB nr (len fl) f)) h.tl (by omega) ?_ ?_ ?_
    · show aN (ai θ) (bN _ (app pre (nP i (len f))))=some (bN _ (app fp (qB nr (len fl) f)))
      rw[Ch,Ch,cq,cq]
      refine uK he ?_
      rw[show bN (λq:V×Nat=>aA [q.1,ls 1,.int (.ofNat q.2)]) (qB nr (len fl) f)=wH nr (len fl) f from TN rl]
      exact Ie rl.n λj r g=>(hv j r g).du
    · intro q hm
      rw[cq] at hm
      exact(List.mem_append.mp hm).elim (hq q) (YQ hr hp rl q)
    · rw[cq,List.length_append]
      have:=R4 (nr:=nr) (np:=len fl) rl
      omega
  |false=>
   refine bD ⟨?_,λe q=>?_⟩
   · cases ty:dT nr (len fl) f with
     |true=>
      refine Zc Y O hr hf hp eR hq l5 rl hc ty (D.tr i f e0) ?_ (D.sp i f e0 hc) he
      have:=D.ms i f e0
      unfold n9 at this
      rw[ty] at this;exact this
     |false=>
      refine UO Y O hr hf hp hK eR hq l5 lk rl hc ty (D.tr i f e0) ?_ (D.sp i f e0 hc) he
      have:=D.ms i f e0
      unfold n9 at this
      rw[ty] at this;exact this
   · have q:e∈app (w6 ⟨md,K,fl,all⟩ (mf nr (len fl) r) (Nat.succ i) (app pre (nP i 0))) []:=by rw[JY];exact q
     rw[JY,MA] at q
     exact nomatch q
end
theorem Tu(l:List (List Rl)):len (mf nr np l)=len l:=by
 induction l with
 |nil=>rfl
 |cons f r ih=>exact aq Nat.succ ih
theorem Ap(l:List (List Rl)):len (gu nr np l)=len l:=by
 induction l with
 |nil=>rfl
 |cons f r ih=>
  show len (aa (bM (br nr np f)) (.ok (len f)::gu nr np r) (.bad (dT nr np f)::mf nr np r))=Nat.succ (len r)
  cases bM (br nr np f) with
  |true=>exact aq Nat.succ ih
  |false=>exact aq Nat.succ (Tu r)
theorem mL{α:Type}{x:α}{l m:List α}(h:x∈l):x∈app l m:=by rw[cq];exact List.mem_append.mpr (.inl h)
theorem mR{α:Type}{x:α}{l m:List α}(h:x∈m):x∈app l m:=by rw[cq];exact List.mem_append.mpr (.inr h)
theorem eH{α β:Type}{f:α->List β}{x:α}{y:β}{l:List α}(h:x∈l)(k:y∈f x):y∈ap l f:=by
 induction l with
 |nil=>exact nomatch h
 |cons a r ih=>cases h with
  |head=>exact mL k
  |tail _ h=>exact mR (ih h)
section
variable{nr np:Nat}
theorem oJ{f:List Rl}(h:cy f):Fc.ok (len f)∈jq:=by
 match f,h with
 |[],_=>exact .head _
 |[a],_=>exact .tail _ (.head _)
 |[a,b],_=>exact .tail _ (.tail _ (.head _))
 |_::_::_::_,h=>exact aV h.n (by simp)
theorem oL(b:Bool):Fc.bad b∈m9:=by cases b;exact .tail _ (.head _);exact .head _
theorem yb(b:Bool):Fc.aft b∈u8:=by cases b;exact .tail _ (.head _);exact .head _
theorem pE(f:List Rl)(r:List (List Rl)):gu nr np (f::r)=aa (bM (br nr np f)) (.ok (len f)::gu nr np r) (.bad (dT nr np f)::mf nr np r):=rfl
theorem Y9:∀(fs:List (List Rl)),(∀f∈fs,cy f)->fs.length<=3->gu nr np fs∈yD
 |[],_,_=>.head _
 |[a],h,_=>by
  have ha:=oJ (h a (.head _))
  rw[pE]
  refine .tail _ ?_
  cases bM (br nr np a) with
  |true=>exact mL (eH ha (.head _))
  |false=>exact mR (mR (mR (mL (eH (oL _) (.head _)))))
 |[a,b],h,_=>by
  have ha:=oJ (h a (.head _))
  have hb:=oJ (h b (.tail _ (.head _)))
  rw[pE,pE]
  refine .tail _ ?_
  cases bM (br nr np a) with
  |true=>
   cases bM (br nr np b) with
   |true=>exact mR (mL (eH ha (eH hb (.head _))))
   |false=>exact mR (mR (mR (mR (mR (mL (eH ha (eH (oL _) (.head _))))))))
  |false=>exact mR (mR (mR (mR (mL (eH (oL _) (eH (yb _) (.head _)))))))
 |[a,b,c],h,_=>by
  have ha:=oJ (h a (.head _))
  have hb:=oJ (h b (.tail _ (.head _)))
  have hc:=oJ (h c (.tail _ (.tail _ (.head _))))
  rw[pE,pE,pE]
  refine .tail _ ?_
  cases bM (br nr np a) with
  |true=>
   cases bM (br nr np b) with
   |true=>
    cases bM (br nr np c) with
    |true=>exact mR (mR (mL (eH ha (eH hb (eH hc (.head _))))))
    |false=>exact mR (mR (mR (mR (mR (mR (mR (mR (eH ha (eH hb (eH (oL _) (.head _)))))))))))
   |false=>exact mR (mR (mR (mR (mR (mR (mR (mL (eH ha (eH (oL _) (eH (yb _) (.head _)))))))))))
  |false=>exact mR (mR (mR (mR (mR (mR (mL (eH (oL _) (eH (yb _) (eH (yb _) (.head _))))))))))
 |_::_::_::_::_,_,h=>aV h (by simp)
theorem Tq(fs:List (List Rl))(h:∀f∈fs,cy f)(h1:fs.length=1):gu nr np fs∈wt:=by
 match fs,h,h1 with
 |[a],h,_=>
  rw[pE]
  cases bM (br nr np a) with
  |true=>exact mL (eH (oJ (h a (.head _))) (.head _))
  |false=>exact mR (eH (oL _) (.head _))
end
inductive ji:Option V->Nat->Prop
 |en {n:Nat}:n<=3->ji none n
 |st {k:V}:k∈[qq,kB,n6]->ji (some k) 1
theorem AD{K:Option V}{n:Nat}(h:ji K n):(K,n)∈Ks:=by
 cases h with
 |en h=>
  match n,h with
  |0,_=>exact .head _
  |1,_=>exact .tail _ (.head _)
  |2,_=>exact .tail _ (.tail _ (.head _))
  |3,_=>exact .tail _ (.tail _ (.tail _ (.head _)))
 |st h=>
  cases h with
  |head=>exact .tail _ (.tail _ (.tail _ (.tail _ (.head _))))
  |tail _ h=>cases h with
   |head=>exact .tail _ (.tail _ (.tail _ (.tail _ (.tail _ (.head _)))))
   |tail _ h=>cases h with
    |head=>exact .tail _ (.tail _ (.tail _ (.tail _ (.tail _ (.tail _ (.head _))))))
    |tail _ h=>exact nomatch h
theorem IL{g:iY->Bool}{K:Option V}(h:aa (eJ yD λf=>g ⟨md,.none,fl,f⟩) (eJ [qq,kB,n6] λk=>eJ wt λf=>g ⟨md,some k,fl,f⟩) false=true)(hk:ji K fs.length)(hf:∀f∈fs,cy f):
 g ⟨md,K,fl,gu nr np fs⟩=true:=by
 have h:=aO h
 revert hk
 generalize e:fs.length=n
 intro hk
 cases hk with
 |en q=>exact gW h.1 _ (Y9 fs hf (e▸q))
 |st q=>exact gW (gW h.2 _ q) _ (Tq fs hf e)
section
variable{w:World}{Hp:Heap}{md:Bool}{nr:Nat}{fl:List Bool}{ft:Nat->List Nat}{fs:List (List Rl)}{K:Option V}{p:List Dr}{AB:Int×Int}
theorem Tl(hf:fl∈cC):ay (Sv (bZ (vP (eD nr (len fl) fl ft fs) p AB)) (bZ (vP (eD nr (len fl) fl ft fs) p AB))) (ze (len fl)) (lH fl):=by
 exact ui (P:=λfl=>ay (Sv (bZ (vP (eD nr (len fl) fl ft fs) p AB)) (bZ (vP (eD nr (len fl) fl ft fs) p AB))) (ze (len fl)) (lH fl)) .nil (.cons ⟨_,rfl,rfl⟩ .nil) (.cons ⟨_,rfl,rfl⟩ .nil) (.cons ⟨_,rfl,rfl⟩ (.cons ⟨_,rfl,rfl⟩ .nil)) (.cons ⟨_,rfl,rfl⟩ (.cons ⟨_,rfl,rfl⟩ .nil)) (.cons ⟨_,rfl,rfl⟩ (.cons ⟨_,rfl,rfl⟩ .nil)) (.cons ⟨_,rfl,rfl⟩ (.cons ⟨_,rfl,rfl⟩ .nil)) fl hf
theorem Ju(h:fs.length<=3):A2 (len fs)=nC (λi _=>il i) fs 0:=by
 match fs,h with
 |[],_=>rfl
 |[_],_=>rfl
 |[_,_],_=>rfl
 |[_,_,_],_=>rfl
 |_::_::_::_::_,h=>exact aV h (by simp)
theorem Tk{α β:Type}(f:Nat->α->β)(l:List α):∀i,len (nC f l i)=len l:=by
 induction l with
 |nil=>exact λ_=>rfl
 |cons x r ih=>exact λi=>aq Nat.succ (ih (Nat.succ i))
theorem ji.le{n:Nat}(h:ji K n):n<=3:=by cases h with|en q=>exact q|st=>exact by decide
theorem ji.self{n:Nat}(h:ji K n):∀f,K=some f->fW f=true:=by
 cases h with
 |en=>exact λf e=>nomatch e
 |st q=>
  intro f e
  obtain rfl:=af e
  cases q with
  |head=>rfl
  |tail _ q=>cases q with
   |head=>rfl
   |tail _ q=>cases q with
    |head=>rfl
    |tail _ q=>exact nomatch q
theorem YS(fl:List Bool):len (lH fl)=len fl:=by
 induction fl with
 |nil=>rfl
 |cons b r ih=>exact aq Nat.succ ih
theorem Q2(Y:bu w.params Hp)(hr:nr<3)(hf:fl∈cC)(hp:len fl<3)(hs:∀f∈fs,cy f)(hk:ji K fs.length):bU (c0 w Hp) (vP (eD nr (len fl) fl ft fs) p AB) (oY md K (lH fl) (nC xV (gu nr (len fl) fs) 0)):=by
 have h3:=hk.le
 have O:=ij (eD nr (len fl) fl ft fs) p AB
 have D:=BZ (fl:=fl) (ft:=ft) (p:=p) (AB:=AB) hr hp hs h3
 have T:=W9 (wp D fs 0 λk f e=>(dY k).symm▸e)
 rw[← Ju h3] at T
 have km:=AD hk
 have E:=lQ Y (bY (gW (lJ PI md) _ km) (len fl) hp) (vP (eD nr (len fl) fl ft fs) p AB)
 have E:=(bH fs).symm▸E
 have lt:len (A2 (len fs))=fs.length:=by rw[Ju h3,Tk,bH]
 have B:=Tl (nr:=nr) (ft:=ft) (fs:=fs) (p:=p) (AB:=AB) hf
 refine VH O O ⟨_,oA hr,oA hr⟩ (λi hi=>⟨_,Cf hi,Cf hi⟩) hk.self B T (lt▸h3) (lt▸(vm md km).k) ?_ E
 rw[BS B,YS]
 exact(vZ md hf).p
theorem YF(Y:bu w.params Hp)(hr:nr<3)(hf:fl∈cC)(hK:(K,len fs)∈Ks):bU (c0 w Hp) (vP (eD nr (len fl) fl ft fs) p AB) (o8 md (K,len fs) aR fl):=by
 have O:=ij (eD nr (len fl) fl ft fs) p AB
 have E:=lQ Y (bY (gW (gW (lJ NN md) _ hK) fl hf) nr hr) (vP (eD nr (len fl) fl ft fs) p AB)
 exact WO O O ⟨_,ig _ (iQ _ (jN hr).2),oA hr⟩ hK hf E
end
noncomputable def nB(md:Bool)(K:Option V)(nr:Nat)(fl:List Bool)(fs:List (List Rl)):iY:=⟨md,K,fl,gu nr (len fl) fs⟩
section
variable{w:World}{Hp:Heap}{md:Bool}{nr:Nat}{fl:List Bool}{ft:Nat->List Nat}{fs:List (List Rl)}{K:Option V}{p:List Dr}{AB:Int×Int}
theorem Yw(Y:bu w.params Hp)(hr:nr<3)(hf:fl∈cC)(hp:len fl<3)(hs:∀f∈fs,cy f)(hk:ji K fs.length):∀e∈O3 (nB md K nr fl fs),bU (c0 w Hp) (vP (eD nr (len fl) fl ft fs) p AB) e:=by
 have h3:=hk.le
 have O:=ij (eD nr (len fl) fl ft fs) p AB
 have D:=BZ (fl:=fl) (ft:=ft) (p:=p) (AB:=AB) hr hp hs h3
 have S:Sub fs fs 0:=λk f e=>(dY k).symm▸e
 have F:=wp D fs 0 S
 have ln:len (gu nr (len fl) fs)=fs.length:=(Ap fs).trans (bH fs)
 have hK:=ln.symm▸AD hk
 refine bD ⟨Q2 Y hr hf hp hs hk,bD ⟨?_,λe he=>?_⟩⟩
 · have hK':=(bH fs).symm▸AD hk
   have E:=YF (md:=md) (ft:=ft) (p:=p) (AB:=AB) Y hr hf hK'
   show bU _ _ (o8 md (K,len (gu nr (len fl) fs)) aR fl)
   rw[Ap];exact E
 · have he:=he
   rw[cq] at he
   refine(List.mem_append.mp he).elim (OB Y O hr hp rfl (oA hr) F e) (I5 Y O D hr hf hp (oA hr) hK (ln.symm▸h3) fs 0 [] [] S ?_ rfl (λ_ q=>nomatch q) (Nat.le_refl _) e)
   rw[ln,dY];exact Nat.le_refl _
theorem XY(Y:bu w.params Hp)(hr:nr<3)(hf:fl∈cC)(hp:len fl<3)(hs:∀f∈fs,cy f)(hk:ji K fs.length)(h:sf (nB md K nr fl fs)=true):bU (c0 w Hp) (vP (eD nr (len fl) fl ft fs) p AB) (sV (nB md K nr fl fs)):=
 qo (found Y) (λk vs H m r q=>u3 (Yw Y hr hf hp hs hk) q) h
end
def P1(s:iY)(x y:V):List aF:=app [.cell (some (.loc 1)),.list [x,y],.list (om s.fl),.list (cz (λi _=>Option.rec (aA [.str [Nat.add 65 i],hY i,ls (Nat.add 4 i)]) (λf=>aA [.str [],f,ls 4]) s.K) s.fs)] (cz v9 s.fs)
def KL(s:iY):List (Nat×V):=[(164,.bool (qA s.K)),(41,aR),(45,.loc 2),(129,.loc 3)]
def pM(md:Bool):List Dr:=[⟨2,.n (aa md 1 0)⟩]
def vW(s:iY):Bool:=oj (Ac (lZ [sV s]) (iR (pM s.md))) 260 (fY 6 1) ⟨hL (P1 s (.atom (aP 0)) (.atom (aQ 0))),KL s⟩ [] CS [.cell (some (.loc 1)),.list [.atom (aP 1),.atom (aQ 1)]] []
def Mc(md:Bool)(fl:List Bool):Bool:=aa (eJ yD λf=>vW ⟨md,.none,fl,f⟩) (eJ [qq,kB,n6] λk=>eJ wt λf=>vW ⟨md,some k,fl,f⟩) false
def dP(p:List Dr)(AB:Int×Int)(k:Nat):Nat:=Option.rec 0 (λx=>DD.d (DD.pt p AB k).1 (DD.pt p AB k).2 x.top) (aj p k)
def mB(p:List Dr)(AB:Int×Int)(v:V):List Nat:=Option.rec (cJ (tP p AB (Nat.sub (Option.rec 0 (λc=>c) (cu v)) 3000))) (λs=>s) (cR v)
def uu(p:List Dr)(AB:Int×Int)(r:Rw):Rl:=⟨mB p AB r.nm,dP p AB r.w,decide (zP p AB r.z=0)⟩
def Aa(p:List Dr)(AB:Int×Int)(f:List Fm):List (List Rl):=bN (λx=>bN (uu p AB) x.rows) f
inductive z6(s:List Nat):Prop|mk:s=[97]\/s=[98]\/s=[99]->z6 s
section
variable{e:Vr}{p:List Dr}{AB:Int×Int}{k:Nat}{r:Rw}
theorem Cb(hd:gZ p=true)(hl:p.length<=400)(hx:aj p k=some x):nj x/\k<500:=⟨Fz hd hx,Nat.lt_of_lt_of_le (Nat.lt_of_lt_of_le (iP hx) hl) (by decide)⟩
theorem Zk(hd:gZ p=true)(hl:p.length<=400)(h:Kz p k=true):ai (bZ (vP e p AB)) (.atom (Nat.add 3000 k))=some (.str (aL (dP p AB k)))/\dP p AB k<13:=by
 refine bV h λx hx h=>?_
 obtain⟨d,lt⟩:=Cb hd hl hx
 obtain⟨t,w⟩:=x
 cases w with
 |n=>exact ft h
 |z=>exact ft h
 |t l=>
  have e13:=bx.mp h
  subst e13
  have el:l=kQ:=by cases d;rfl
  subst el
  have ed:dP p AB k=DD.d (DD.pt p AB k).1 (DD.pt p AB k).2 13:=by unfold dP;rw[hx]
  refine⟨?_,ed▸DD.lt _ _ 13 (by decide)⟩
  show some ((vP e p AB).ρ (3000+k))=_
  rw[Av lt,ed]
  unfold tP
  rw[hx];rfl
theorem ZZ(hd:gZ p=true)(hl:p.length<=400)(h:Kv p k=true):ai (bZ (vP e p AB)) (.atom (Nat.add 7000 k))=some (.bool (decide (zP p AB k=0))):=by
 refine bV h λx hx h=>?_
 show some ((vP e p AB).ρ (7000+k))=_
 rw[XQ (Cb hd hl hx).2]
theorem E7(hd:gZ p=true)(hl:p.length<=400)(h:qK p v=true):ai (bZ (vP e p AB)) v=some (.str (mB p AB v))/\z6 (mB p AB v):=by
 refine bV h λc hc hh=>?_
 have hh:=aO hh
 obtain rfl:=qF hc
 refine bV hh.2 λx hx h2=>?_
 have le:=dO hh.1
 obtain⟨i,rfl⟩:∃i,c=3000+i:=⟨c-3000,by omega⟩
 have ei:Nat.sub (3000+i) 3000=i:=Nat.add_sub_cancel_left 3000 i
 rw[ei] at hx
 obtain⟨d,lt⟩:=Cb hd hl hx
 obtain⟨t,w⟩:=x
 cases w with
 |n=>exact ft h2
 |z=>exact ft h2
 |t l=>
  have e3:=bx.mp h2
  subst e3
  have el:l=kH:=by cases d;rfl
  subst el
  have et:tP p AB i=.str (jZ kH (DD.d (DD.pt p AB i).1 (DD.pt p AB i).2 3)):=by unfold tP;rw[hx]
  have en:mB p AB (.atom (3000+i))=jZ kH (DD.d (DD.pt p AB i).1 (DD.pt p AB i).2 3):=by
   show cJ (tP p AB (Nat.sub (3000+i) 3000))=_
   rw[ei,et];rfl
  refine⟨?_,?_⟩
  · show some ((vP e p AB).ρ (3000+i))=_
    rw[Av lt,en,et]
  · rw[en]
    exact fu (DD.lt (DD.pt p AB i).1 (DD.pt p AB i).2 3 (by decide)) (P:=λd=>z6 (jZ kH d)) ⟨.inl rfl⟩ ⟨.inr (.inl rfl)⟩ ⟨.inr (.inr rfl)⟩
theorem OQ(h:H3 v=true):ai (bZ (vP e p AB)) v=some (.str (mB p AB v)):=by
 refine bV (f:=λ_=>true) h λs hs _=>?_
 obtain rfl:=j5 hs
 rfl
theorem Az(hd:gZ p=true)(hl:p.length<=400)(h:Bm p r=true):ai (bZ (vP e p AB)) (FZ r)=some (fO (uu p AB r))/\(uu p AB r).i<13:=by
 have h1:=aO h
 have h2:=aO h1.2
 have w:=Zk (e:=e) (AB:=AB) hd hl h1.1
 refine⟨cK rfl ?_ (cK rfl w.1 (cK rfl (ZZ hd hl h2.1) rfl)),w.2⟩
 have h3:=h2.2
 cases a:qK p r.nm with
 |true=>exact(E7 hd hl a).1
 |false=>rw[a] at h3;exact OQ h3
theorem QX(hd:gZ p=true)(hl:p.length<=400)(h:Ah p l=true):cy (bN (uu p AB) l)/\aN (ai (bZ (vP e p AB))) (G4 l)=some (bN fO (bN (uu p AB) l)):=by
 match l,h with
 |[],_=>exact⟨⟨Nat.zero_le 2,(λ_ q=>nomatch q),(λ_ _ q=>nomatch q)⟩,rfl⟩
 |[a],h=>
  have h:=aO (h)
  have ra:=Az (e:=e) (AB:=AB) hd hl h.1
  exact⟨⟨Nat.le_succ 1,bD ⟨ra.2,λ_ q=>nomatch q⟩,(λ_ _ q=>nomatch q)⟩,ae ra.1 aT⟩
 |[a,b],h=>
  have h:=aO (h)
  have h2:=aO h.2
  have h3:=(aO h2.2).1
  have ra:=Az (e:=e) (AB:=AB) hd hl h.1
  have rb:=Az (e:=e) (AB:=AB) hd hl h2.1
  refine⟨⟨Nat.le_refl 2,bD ⟨ra.2,bD ⟨rb.2,λ_ q=>nomatch q⟩⟩,λx y q hq=>?_⟩,ae ra.1 (ae rb.1 aT)⟩
  injection q with q1 q2
  injection q2 with q2 _
  subst q1;subst q2
  unfold K1 at h3
  cases ia:qK p a.nm with
  |true=>exact(E7 (e:=e) hd hl ia).2.1
  |false=>
   rw[ia] at h3
   refine bV h3 λs hs h3=>bV h3 λt ht h3=>?_
   have q:seq s t=true:=by
    have:seq (mB p AB a.nm) (mB p AB b.nm)=true:=hq
    unfold mB at this
    rw[hs,ht] at this;exact this
   rw[q] at h3
   exact ft h3
 |a::b::c::r,h=>
  have h:=aO (h)
  have h3:=aO (aO h.2).2
  exact ft h3.2
theorem D9(hd:gZ p=true)(hl:p.length<=400):∀(f:List Fm),(List.rec true (λx _ ih=>aa (Ah p x.rows) ih false) f:Bool)=true->(∀g∈Aa p AB f,cy g)/\aN (bz (bZ (vP e p AB)) (kM (vP e p AB))) (ER f)=some (bN (λg=>.list (bN fO g)) (Aa p AB f))
 |[],_=>⟨(λ_ q=>nomatch q),rfl⟩
 |x::r,h=>by
  have h:=aO h
  have a:=QX (e:=e) (AB:=AB) hd hl h.1
  have ih:=D9 hd hl r h.2
  exact⟨bD ⟨a.1,ih.1⟩,ae (bX a.2) ih.2⟩
end
def eZ:Vr:=eD 0 0 [] (λ_=>[]) []
def X1(A B:Int):List aF:=[.cell (some (.loc 1)),.list [.int A,.int B]]
def X3(fl:List Bool)(A B:Int):List aF:=[.cell (some (.loc 1)),.list [.int A,.int B],.list (om fl),.list []]
def R3(sum:Bool)(nr:Nat):List (Nat×V):=[(164,.bool sum),(41,b8 nr),(45,.loc 2),(129,.loc 3)]
def X4(sum:Bool)(fl:List Bool)(f:List Fm)(fs:List (List Rl))(A B:Int):List aF:=app [.cell (some (.loc 1)),.list [.int A,.int B],.list (om fl),.list (tI sum f 0)] (bN (λg=>.list (bN fO g)) fs)
section
variable{w:World}{Hp:Heap}{b:Nat->Value}{A:Around}{env:Env}{μ:Mu}{s:Shared}{Q:Flow->Shared->Prop}{E:Value->Shared->Prop}{b2:List Mine.S}
def mX(w:World)(Hp:Heap)(b:Nat->Value)(A:Around)(env:Env)(l:List aF)(r:List (Nat×V))(μ:Mu)(s:Shared):Prop:=Ok ((c0 w Hp).vw TZ b v0) gc A env eY μ ⟨hL l,r⟩ s
theorem sZ{v:cc}{θ:Nat->Option V}{sg:Nat->Option (List V)}{T:Tb}{l l':List aF}{r r':List (Nat×V)}(O:b6 v θ sg)(h1:aN (bz (λ_=>none) (λ_=>none)) l=some l)(h2:aN (bz θ sg) l'=some l)
 (h3:aN (λp=>aD (ai (λ_=>none) p.2) λv=>some (p.1,v)) r=some r)(h4:aN (λp=>aD (ai θ p.2) λv=>some (p.1,v)) r'=some r)(o:mX w Hp b A env l r μ s):Ok ((c0 w Hp).vw T b v) gc A env eY μ ⟨hL l',r'⟩ s:=
 Hl (v:=v0) oE O h1 h2 h3 h4 o
theorem sS{v:cc}{θ:Nat->Option V}{sg:Nat->Option (List V)}{T:Tb}{l l':List aF}{r r':List (Nat×V)}(O:b6 v θ sg)(h1:aN (bz (λ_=>none) (λ_=>none)) l=some l)(h2:aN (bz θ sg) l'=some l)
 (h3:aN (λp=>aD (ai (λ_=>none) p.2) λv=>some (p.1,v)) r=some r)(h4:aN (λp=>aD (ai θ p.2) λv=>some (p.1,v)) r'=some r)(o:Ok ((c0 w Hp).vw T b v) gc A env eY μ ⟨hL l',r'⟩ s):mX w Hp b A env l r μ s:=
 Hl O oE h2 h1 h4 h3 o
theorem yd{e:Vr}{p:List Dr}{AB:Int×Int}{i:Nat}(h:i<500):aN (ai (bZ (vP e p AB))) [.atom (aP i),.atom (aQ i)]=some [.int (DD.pt p AB i).1,.int (DD.pt p AB i).2]:=
 ae (aq some (Bs h)) (ae (aq some (Bl h)) aT)
theorem wB{e:Vr}{p:List Dr}{A B:Int}:aN (ai (bZ (vP e p (A,B)))) [.atom (aP 0),.atom (aQ 0)]=some [.int A,.int B]:=yd (e:=e) (p:=p) (AB:=(A,B)) (i:=0) (by decide)
theorem qM{A B:Int}:aN (bz (λ_=>none) (λ_=>none)) (X1 A B)=some (X1 A B):=rfl
theorem yy{e:Vr}{p:List Dr}{A B:Int}:aN (bz (bZ (vP e p (A,B))) (kM (vP e p (A,B)))) sF=some (X1 A B):=ae rfl (ae (bX wB) aT)
theorem JE{e:Vr}{p:List Dr}{AB:Int×Int}(h:len p<500):aN (bz (bZ (vP e p AB)) (kM (vP e p AB))) [.cell (some (.loc 1)),.list [.atom (aP (len p)),.atom (aQ (len p))]]=some (X1 (DD.pt p AB (len p)).1 (DD.pt p AB (len p)).2):=ae rfl (ae (bX (yd h)) aT)
theorem x8(M:hW w Hp b A env){e:Vr}{p:List Dr}{AB:Int×Int}(hp:DD.is p AB)(hd:gZ p=true)(hl:p.length<=400):rF w Hp b (iR p) (vP e p AB):=λk vs H d r h=>Mv M.Y hp hd hl k vs H d r h _ _ M.hb
theorem wv{p:List Dr}(h:Nat.ble (len p) 400=true):p.length<=400/\len p<500:=by
 have:=dO h
 rw[bH] at this ⊢
 exact⟨this,by omega⟩
theorem PT{v:V}{i:Nat}(h:dX v=some i):v=.bi i:=by cases v<;>first|exact ns h|exact aq V.bi (af h)
theorem Pj(M:hW w Hp b A env){l:Addr}{bI:List Int}(Sc:∀v,pd (cX w Hp O0 b v) l bI):rF w Hp b td (vP eZ [] (fU bI,fX bI)):=by
 intro k vs H d r h
 have h:=cs (h)
 obtain rfl:=bx.mp h.1
 have h:=h.2
 cases vs with
 |nil=>exact ns h
 |cons v q=>
  cases q with
  |cons=>exact ns h
  |nil=>
   have h:=cs (h)
   obtain rfl:=PT (l9 h.1)
   obtain⟨rfl,rfl⟩:=Prod.mk.inj (af h.2)
   have P:=U2 M.Y (v:=vP eZ [] (fU bI,fX bI)) M.hb (Sc _) H
   intro n hn X A' env' fr μ σ s xs Q E q eo o z t
   refine P n hn X A' env' fr μ σ s xs Q E q (aJ.tbl (c:=c0 w Hp) (T':=cA O0) eo) (Ok.tbl (c:=c0 w Hp) (T':=cA O0) o) (jo (c:=c0 w Hp) (T:=cA td) (T':=cA O0) (b:=b) (v:=vP eZ [] (fU bI,fX bI))▸z) ?_
   intro av s' y nx o' dv
   refine t av s' y nx (Ok.tbl (c:=c0 w Hp) (T:=cA O0) (T':=cA td) ?_) (by show ad ((c0 w Hp).vw (cA td) b (vP eZ [] (fU bI,fX bI))) X av s'.heap (V.loc H.n) y;rw[jo (T':=cA O0)];exact dv)
   have hw:=q▸o.len.w
   have hh:HE ((c0 w Hp).vw (cA O0) b (vP eZ [] (fU bI,fX bI))) ((c0 w Hp).vw (cA O0) b (vP eZ [] (fU bI,fX bI))) H H:=⟨rfl,hw,hw,λi o e=>⟨o,e,λ_ _ _ _=>Iff.rfl⟩⟩
   have ov:=ij eZ [] (fU bI,fX bI)
   have he:OE ((c0 w Hp).vw (cA O0) b (vP eZ [] (fU bI,fX bI))) ((c0 w Hp).vw (cA O0) b (vP eZ [] (fU bI,fX bI))) (.list [.int (fU bI),.int (fX bI)]) (.list [.atom (aP 0),.atom (aQ 0)]):=rY (c:=c0 w Hp) (v:=vP eZ [] (fU bI,fX bI)) oE ov (λ_ _=>rfl) rfl (bX (sg:=kM (vP eZ [] (fU bI,fX bI))) wB)
   exact Ok.turn (σ:=⟨aH H (.list [.int (fU bI),.int (fX bI)]),σ.r⟩) (H':=aH H (.list [.atom (aP 0),.atom (aQ 0)])) (r':=σ.r) ⟨rfl,rfl,rfl,rfl,rfl,rfl,rfl,rfl⟩ (hh.add he) (λn v' h=>⟨v',h,λ_ _ _ _=>Iff.rfl⟩) o'
end
theorem AG{t:Nat}{l:List (List Nat)}:Ao ⟨t,.t l⟩:=λ_ q=>nomatch q
theorem KW{t:Nat}:Ao ⟨t,.z⟩:=λ_ q=>nomatch q
theorem Ry:T2.open:=λd0 d1 d2=>by
 match d2 with
 |0=>exact trivial
 |1=>exact λ_=>trivial
 |_+2=>exact λ_ _=>trivial
theorem zB{k:Nat}{cont:Nat->List Rw->DT (List Fm)}(hc:∀i r,(cont i r).open):∀m i a acc,(uo k m i a acc cont).open
 |0,i,a,acc=>hc i acc
 |m+1,i,a,acc=>by
  show DT.open (aa (Nat.beq k 1) (.skip ⟨13,.t kQ⟩ (.skip ⟨2,.z⟩ (uo k m (Nat.add i 2) (Nat.succ a) (app acc [⟨.str [Nat.add 48 a],i,Nat.succ i⟩]) cont)))
   (.skip ⟨3,.t kH⟩ (.skip ⟨13,.t kQ⟩ (.skip ⟨2,.z⟩ (uo k m (Nat.add i 3) (Nat.succ a) (app acc [⟨.atom (Nat.add 3000 i),Nat.succ i,Nat.add i 2⟩]) cont)))))
  cases Nat.beq k 1 with
  |true=>exact⟨AG,KW,zB hc m _ _ _⟩
  |false=>exact⟨AG,AG,KW,zB hc m _ _ _⟩
theorem S2{cont:Nat->Fm->DT (List Fm)}(hc:∀i f,(cont i f).open)(i:Nat):(He i cont).open:=λk=>by
 show DT.open (aa (Nat.beq k 0) (cont (Nat.succ i) ⟨0,[]⟩) (.ask 3 λm=>uo k m (Nat.add i 2) 0 [] λi' r=>cont i' ⟨k,r⟩))
 cases Nat.beq k 0 with
 |true=>exact hc _ _
 |false=>exact λm=>zB (λi' r=>hc i' _) m _ _ _
theorem Bz:∀n i acc,(v4 n i acc).open
 |0,_,_=>trivial
 |n+1,i,acc=>S2 (cont:=λi' f=>v4 n i' (app acc [f])) (λi' f=>Bz n i' _) i
theorem Pa(sum:Bool):(T3 sum).open:=by
 cases sum with
 |true=>exact λn=>Bz n 1 []
 |false=>exact Bz 1 0 []
theorem VR:T5.open:=λ_ _=>trivial
theorem LI{k:DT Unit}(hk:k.open)(t:Nat):∀n,(Kx t n k).open
 |0=>hk
 |n+1=>λ_=>LI hk t n
theorem Sl:T6.open:=λn=>LI (k:=.ask 3 λ_=>.leaf ()) (λ_=>trivial) 6 n
theorem X8{fl:List Bool}(h:len fl<=2):fl∈cC:=by
 rw[bH] at h
 match fl,h with
 |[],_=>exact .head _
 |[false],_=>exact .tail _ (.head _)
 |[true],_=>exact .tail _ (.tail _ (.head _))
 |[false,false],_=>exact .tail _ (.tail _ (.tail _ (.head _)))
 |[false,true],_=>exact .tail _ (.tail _ (.tail _ (.tail _ (.head _))))
 |[true,false],_=>exact .tail _ (.tail _ (.tail _ (.tail _ (.tail _ (.head _)))))
 |[true,true],_=>exact .tail _ (.tail _ (.tail _ (.tail _ (.tail _ (.tail _ (.head _))))))
 |_::_::_::_,h=>exact aV h (by simp)
theorem IN{fl:List Bool}(h:len fl<=2):Ic fl=om fl:=by
 rw[bH] at h
 match fl,h with
 |[],_=>rfl
 |[_],_=>rfl
 |[_,_],_=>rfl
 |_::_::_::_,h=>exact aV h (by simp)
section
variable{w:World}{Hp:Heap}{b:Nat->Value}{A:Around}{env:Env}{μ:Mu}{s:Shared}{Q:Flow->Shared->Prop}{E:Value->Shared->Prop}{b2:List Mine.S}
def tH(w:World)(Hp:Heap)(b:Nat->Value)(A:Around)(env:Env)(Q:Flow->Shared->Prop)(E:Value->Shared->Prop)(b2:List Mine.S)(s:Shared)(l:Int->Int->List aF)(r:List (Nat×V)):Prop:=
 ∀x y av s',s'.gens=s.gens->s'.os=s.os->mX w Hp b A env (l x y) r av s'->wpAny (c0 w Hp).M A (PySem.execs (cU n b2) env) Q E s'
theorem SD(M:hW w Hp b A env){l:Addr}{bI:List Int}(Sc:∀v,pd (cX w Hp O0 b v) l bI)(o:Ok ((c0 w Hp).vw TZ b (vP eZ [] (fU bI,fX bI))) gc A env eY μ ⟨hL [.cell none],[(143,.bi 14)]⟩ s)(k:tH w Hp b A env Q E b2 s X1 []):
 wpAny (c0 w Hp).M A (PySem.execs (cU n (fY 0 2++b2)) env) Q E s:=
 vn M (by decide) (Pj M Sc) OK o λav s' h1 h2 o'=>k _ _ av s' h1 h2 (sS (ij _ _ _) qM yy rfl rfl o')
theorem IM{fl:List Bool}{x y:Int}:aN (bz (λ_=>none) (λ_=>none)) (X3 fl x y)=some (X3 fl x y):=
 ae rfl (ae rfl (ae (bX (jg _ (tA fl))) (ae rfl aT)))
theorem wF{sum:Bool}{nr:Nat}(hr:nr<3):aN (λp=>aD (ai (λ_=>none) p.2) λv=>some (p.1,v)) (R3 sum nr)=some (R3 sum nr):=
 bQ rfl (bQ (ig _ (iQ _ (jN hr).2)) (bQ rfl (bQ rfl aT)))
theorem Vs(M:hW w Hp b A env){x y:Int}(o:mX w Hp b A env (X1 x y) [] μ s)(k:∀sum nr fl,nr<3->len fl<=2->tH w Hp b A env Q E b2 s (X3 fl) (R3 sum nr)):
 wpAny (c0 w Hp).M A (PySem.execs (cU n (fY 2 3++b2)) env) Q E s:=by
 obtain⟨D,p,h,hp⟩:=xM DD T2 (p:=(x,y)) Ry TG trivial
 have h1:=aO (h)
 have h0:=aO h1.1
 have h2:=aO h1.2
 have h3:=aO h2.2
 have hr:=cH h0.1
 have hf:=dO h0.2
 obtain⟨hl,hk⟩:=wv h3.1
 refine vn M (by decide) (x8 M (e:=eZ) hp h2.1 hl) h3.2 (sZ (T:=TZ) (ij _ _ _) qM yy rfl rfl o) λav s' g1 g2 o'=>k D.sum D.nr D.fl hr hf (DD.pt p (x,y) (len p)).1 (DD.pt p (x,y) (len p)).2 av s' g1 g2 (sS (ij _ _ _) IM ?_ (wF hr) ?_ o')
 · exact ae rfl (ae (bX (yd hk)) (ae (IN hf▸bX (jg _ (IN hf▸tA D.fl))) (ae rfl aT)))
 · exact bQ rfl (bQ (ig _ (iQ _ (jN hr).2)) (bQ rfl (bQ rfl aT)))
theorem UG(M:hW w Hp b A env){x y:Int}(o:mX w Hp b A env (X1 x y) [] μ s)(k:tH w Hp b A env Q E b2 s X1 []):wpAny (c0 w Hp).M A (PySem.execs (cU n (fY 7 1++b2)) env) Q E s:=by
 obtain⟨D,p,h,hp⟩:=xM DD T5 (p:=(x,y)) VR Vt trivial
 have h2:=aO h
 have h3:=aO h2.2
 obtain⟨hl,hk⟩:=wv h3.1
 exact vn M (by decide) (x8 M (e:=eZ) hp h2.1 hl) h3.2 (sZ (T:=TZ) (ij _ _ _) qM yy rfl rfl o) λav s' g1 g2 o'=>k _ _ av s' g1 g2 (sS (ij _ _ _) qM (JE hk) rfl rfl o')
theorem TH(M:hW w Hp b A env){x y:Int}(o:mX w Hp b A env (X1 x y) [] μ s)(k:∀c av ba s',s'.gens=s.gens->s'.os=s.os->jL (c0 w Hp) c->Ok c gc A env eY av ba s'->Q (.ret (.bool true)) s'):wpAny (c0 w Hp).M A (PySem.execs (cU n (fY 8 2)) env) Q E s:=by
 obtain⟨D,p,h,hp⟩:=xM DD T6 (p:=(x,y)) Sl P9 trivial
 have h2:=aO h
 have h3:=aO h2.2
 obtain⟨hl,hk⟩:=wv h3.1
 exact OC M (by decide) (x8 M (e:=eZ) hp h2.1 hl) h3.2 (sZ (T:=TZ) (ij _ _ _) qM yy rfl rfl o) k
end
section
variable{θ:Nat->Option V}{sg:Nat->Option (List V)}{sum:Bool}{fl:List Bool}{x y:Int}
theorem FM(f:List Fm):∀i,aN (ai θ) (tI sum f i)=some (tI sum f i):=by
 induction f with
 |nil=>exact λ_=>rfl
 |cons a r ih=>exact λi=>ae rfl (ih (Nat.succ i))
theorem Wg(fs:List (List Rl)):aN (bz θ sg) (bN (λg=>.list (bN fO g)) fs)=some (bN (λg=>.list (bN fO g)) fs):=by
 induction fs with
 |nil=>rfl
 |cons a r ih=>exact ae (bX (jg _ (Kg a))) ih
theorem EV:aN (bz (λ_=>none) (λ_=>none)) (X4 sum fl f fs x y)=some (X4 sum fl f fs x y):=
 ae rfl (ae rfl (ae (bX (jg _ (tA fl))) (ae (bX (FM f 0)) (Wg fs))))
end
noncomputable def AT(sum:Bool)(k:Nat):Bool:=aa sum (Nat.ble k 3) (Nat.beq k 1)
theorem N3{α β:Type}(g:α->β)(l:List α):(bN g l).length=l.length:=by
 induction l with
 |nil=>rfl
 |cons x r ih=>exact aq Nat.succ ih
section
variable{w:World}{Hp:Heap}{b:Nat->Value}{A:Around}{env:Env}{μ:Mu}{s:Shared}{Q:Flow->Shared->Prop}{E:Value->Shared->Prop}{b2:List Mine.S}
theorem Zj(M:hW w Hp b A env)(hr:nr<3)(o:mX w Hp b A env (X3 fl x y) (R3 sum nr) μ s)
 (k:∀f fs,(∀g∈fs,cy g)->AT sum (len f)=true->fs.length=f.length->tH w Hp b A env Q E b2 s (X4 sum fl f fs) (R3 sum nr)):wpAny (c0 w Hp).M A (PySem.execs (cU n (fY 5 1++b2)) env) Q E s:=by
 have go:∃f p,AS sum f p=true/\DD.is p (x,y):=xM DD (T3 sum) (l:=[]) (p:=(x,y)) (Pa sum) (by cases sum;exact Uz;exact NL) trivial
 obtain⟨f,p,h,hp⟩:=go
 have h1:=aO (h)
 have h0:=aO h1.1
 have h2:=aO h1.2
 have h3:=aO h2.2
 obtain⟨hl,hk⟩:=wv h3.1
 have F:=D9 (e:=eD nr (len fl) fl (λ_=>[]) []) (AB:=(x,y)) h2.1 hl f h0.2
 have hR:=oA (np:=len fl) (fl:=fl) (ft:=λ_=>[]) (fs:=[]) (p:=p) (AB:=(x,y)) hr
 refine vn M (by decide) (x8 M (e:=eD nr (len fl) fl (λ_=>[]) []) hp h2.1 hl) h3.2 (sZ (T:=TZ) (ij _ _ _) IM ?_ (wF hr) ?_ o) λav s' g1 g2 o'=>
  k f (Aa p (x,y) f) F.1 h0.1 (N3 _ f) (DD.pt p (x,y) (len p)).1 (DD.pt p (x,y) (len p)).2 av s' g1 g2 (sS (ij _ _ _) EV ?_ (wF hr) ?_ o')
 · exact ae rfl (ae (bX wB) (ae (rg rfl) (ae rfl aT)))
 · exact bQ rfl (bQ hR (bQ rfl (bQ rfl aT)))
 · exact ae rfl (ae (bX (yd hk)) (ae (rg rfl) (ae (bX (FM f 0)) F.2)))
 · exact bQ rfl (bQ hR (bQ rfl (bQ rfl aT)))
noncomputable def jT(f:List Fm)(i:Nat):List Nat:=pk (Option.rec 0 (λx=>x.kind) (aj f i))
noncomputable def KD(sum:Bool)(f:List Fm):Option V:=aa sum none (some (.str (jT f 0)))
theorem UW(k:Nat):V.str (pk k)∈[qq,kB,n6]:=by
 unfold pk
 cases Nat.beq k 0 with
 |true=>exact .head _
 |false=>cases Nat.beq k 1 with
  |true=>exact .tail _ (.head _)
  |false=>exact .tail _ (.tail _ (.head _))
theorem V3(h:AT sum (len f)=true):ji (KD sum f) f.length:=by
 rw[bH] at h
 cases sum with
 |true=>exact .en (dO h)
 |false=>
  have h:=bx.mp h
  rw[h]
  exact .st (UW _)
theorem X9:qA (KD sum f)=sum:=by cases sum<;>rfl
def wV:Prop:=∀md fl,fl∈cC->hH md fl=true
def wy:Prop:=∀md fl,fl∈cC->Mc md fl=true
theorem Ql{g:Nat->V}(f:List Fm):∀(jA:List Fc) (i:Nat),len jA=len f->(∀k x,aj f k=some x->ai θ (g (i+k))=some (.cons (.str (JJ sum (i+k))) (.cons (.str (pk x.kind)) (.cons (.loc (Nat.add 4 (i+k))) .nil))))->aN (ai θ) (nC (λi _=>g i) jA i)=some (tI sum f i):=by
 induction f with
 |nil=>
  intro jA i h _
  cases jA with
  |nil=>rfl
  |cons=>exact nomatch h
 |cons a r ih=>
  intro jA i h hg
  cases jA with
  |nil=>exact nomatch h
  |cons c q=>
   refine ae (hg 0 a rfl) (ih q (Nat.succ i) (Nat.succ.inj h) λk x e=>?_)
   have:=hg (k+1) x e
   rw[show i+(k+1)=Nat.succ i+k by omega] at this
   exact this
theorem OJ(F:ly θ sg nr np i l jA):aN (bz θ sg) (nC v9 jA i)=some (bN (λg=>.list (bN fO g)) l):=by
 induction F with
 |nil=>rfl
 | @cons i f fc r q a t rl _ ih=>
  refine ae ?_ ih
  cases a with
  |ok hc h=>
   refine bX ?_
   rw[← D7 fO f 0]
   exact pj rl.n λj r g=>cV (ae (h j r g).nm (ae (h j r g).wd (ae (h j r g).pb aT)))
  |bad _ s=>exact rg s
  |aft _ s=>exact rg s
theorem QM{n:Nat}(h:n<2):n=aa (Nat.beq n 1) 1 0:=by
 match n,h with
 |0,_=>rfl
 |1,_=>rfl
theorem PR(TK:wV)(RN:wy)(M:hW w Hp b A env){x y:Int}{nr:Nat}(hr:nr<3)(hf:len fl<=2)(hs:∀g∈fs,cy g)(hc:AT sum (len f)=true)(hn:fs.length=f.length)
 (o:mX w Hp b A env (X4 sum fl f fs x y) (R3 sum nr) μ s)(k:tH w Hp b A env Q E b2 s X1 []):wpAny (c0 w Hp).M A (PySem.execs (cU n (fY 6 1++b2)) env) Q E s:=by
 have hm:=X8 hf
 have hp:=Nat.lt_succ_of_le hf
 have hk:=hn▸V3 hc
 have lt:=DD.lt x y 2 (by decide)
 obtain⟨md,hmd⟩:∃md,DD.d x y 2=aa md 1 0:=⟨_,QM lt⟩
 have is:DD.is (pM md) (x,y):=⟨λd e=>by injection e with e;exact hmd.trans e,trivial⟩
 have hd:gZ (pM md)=true:=by cases md<;>rfl
 have hl:=(by decide:1<=400)
 have D:=BZ (fl:=fl) (ft:=jT f) (p:=pM md) (AB:=(x,y)) hr hp hs hk.le
 have F:=wp D fs 0 λk f e=>(dY k).symm▸e
 have tk:sf (nB md (KD sum f) nr fl fs)=true:=IL (g:=sf) (TK md fl hm) hk hs
 have rn:vW (nB md (KD sum f) nr fl fs)=true:=IL (g:=vW) (RN md fl hm) hk hs
 have T:=XY (ft:=jT f) (p:=pM md) (AB:=(x,y)) M.Y hr hm hp hs hk tk
 have OO:rF w Hp b (Ac (lZ [sV (nB md (KD sum f) nr fl fs)]) (iR (pM md))) (vP (eD nr (len fl) fl (jT f) fs) (pM md) (x,y)):=
  ZI (λk vs H d r h=>u3 (es:=[sV (nB md (KD sum f) nr fl fs)]) (bD ⟨T,λ_ q=>nomatch q⟩) h) (λk vs H d r h=>Mv M.Y is hd hl k vs H d r h) M.hb
 have hR:=oA (np:=len fl) (fl:=fl) (ft:=jT f) (fs:=fs) (p:=pM md) (AB:=(x,y)) hr
 have fl':len (gu nr (len fl) fs)=len f:=by rw[Ap,bH,bH,hn]
 refine vn M (by decide) OO rn (sZ (T:=TZ) (ij _ _ _) EV ?_ (wF hr) ?_ o) λav s' g1 g2 o'=>k (DD.pt (pM md) (x,y) 1).1 (DD.pt (pM md) (x,y) 1).2 av s' g1 g2 (sS (ij _ _ _) qM (JE (p:=pM md) (by show 1<500;decide)) rfl rfl o')
 · refine ae rfl (ae (bX wB) (ae (bX (jg _ (tA fl))) (ae (bX ?_) (OJ F))))
   refine Ql (g:=λi=>Option.rec (aA [.str [Nat.add 65 i],hY i,ls (Nat.add 4 i)]) (λf=>aA [.str [],f,ls 4]) (KD sum f)) f (gu nr (len fl) fs) 0 fl' λk z e=>?_
   have lk:=iP e
   cases sum with
   |true=>
    have h3:=hn▸hk.le
    have q:=Cf (nr:=nr) (np:=len fl) (fl:=fl) (ft:=jT f) (fs:=fs) (p:=pM md) (AB:=(x,y)) (i:=k) (Nat.lt_of_lt_of_le lk h3)
    have ek:jT f k=pk z.kind:=by unfold jT;rw[e]
    rw[ek] at q
    rw[dY]
    exact cK rfl rfl (cK rfl q (cK rfl rfl rfl))
   |false=>
    have h1:f.length=1:=by have:=hc;rw[bH] at this;exact bx.mp this
    have k0:k=0:=by omega
    subst k0
    have ek:jT f 0=pk z.kind:=by unfold jT;rw[e]
    show ai _ (aA [.str [],.str (jT f 0),ls 4])=_
    rw[ek];rfl
 · have e1:KL (nB md (KD sum f) nr fl fs)=[(164,.bool sum),(41,aR),(45,.loc 2),(129,.loc 3)]:=by show(164,V.bool (qA (KD sum f)))::_=_;rw[X9]
   rw[e1]
   exact bQ rfl (bQ hR (bQ rfl (bQ rfl aT)))
end
theorem Vx:hH false []=true:=by kernel_rfl
theorem V6:hH false [false]=true:=by kernel_rfl
theorem Uq:hH false [true]=true:=by kernel_rfl
theorem WU:hH false [false,false]=true:=by kernel_rfl
theorem Xa:hH false [false,true]=true:=by kernel_rfl
theorem QO:hH false [true,false]=true:=by kernel_rfl
theorem Vn:hH false [true,true]=true:=by kernel_rfl
theorem Ur:hH true []=true:=by kernel_rfl
theorem PH:hH true [false]=true:=by kernel_rfl
theorem WY:hH true [true]=true:=by kernel_rfl
theorem NT:hH true [false,false]=true:=by kernel_rfl
theorem Tm:hH true [false,true]=true:=by kernel_rfl
theorem RC:hH true [true,false]=true:=by kernel_rfl
theorem U3:hH true [true,true]=true:=by kernel_rfl
theorem R6:wV:=λmd=>by
 cases md
 · exact ui Vx V6 Uq WU Xa QO Vn
 · exact ui Ur PH WY NT Tm RC U3
theorem Sn:kr (λmd=>eJ cC λfl=>Mc md fl)=true:=by kernel_rfl
theorem Qt:wy:=λmd fl h=>gW (lJ Sn md) fl h
theorem Pw:ma.body=fY 0 2++(fY 2 3++(fY 5 1++(fY 6 1++(fY 7 1++fY 8 2)))):=by kernel_rfl
section
variable{w:World}{Hp:Heap}{b:Nat->Value}{A:Around}{env:Env}{μ:Mu}{s:Shared}{Q:Flow->Shared->Prop}{E:Value->Shared->Prop}
theorem YU(TK:wV)(RN:wy)(M:hW w Hp b A env){l:Addr}{bI:List Int}(Sc:∀v,pd (cX w Hp O0 b v) l bI)(o:Ok ((c0 w Hp).vw TZ b (vP eZ [] (fU bI,fX bI))) gc A env eY μ ⟨hL [.cell none],[(143,.bi 14)]⟩ s)
 (k:∀c av ba s',s'.gens=s.gens->s'.os=s.os->jL (c0 w Hp) c->Ok c gc A env eY av ba s'->Q (.ret (.bool true)) s'):wpAny (c0 w Hp).M A (PySem.execs (cU n ma.body) env) Q E s:=by
 rw[Pw]
 refine SD M Sc o λ_ _ _ s1 g1 p1 o1=>?_
 refine Vs M o1 λsum nr fl hr hf _ _ _ s2 g2 p2 o2=>?_
 refine Zj M hr o2 λf fs hs hc hn _ _ _ s3 g3 p3 o3=>?_
 refine PR TK RN M hr hf hs hc hn o3 λ_ _ _ s4 g4 p4 o4=>?_
 refine UG M o4 λ_ _ _ s5 g5 p5 o5=>?_
 exact TH M o5 λc av ba s' g6 p6 K o'=>k c av ba s' (((((g6.trans g5).trans g4).trans g3).trans g2).trans g1) (((((p6.trans p5).trans p4).trans p3).trans p2).trans p1) K o'
end
theorem Th:∀P,aZ (λa=>bv oT P a) [695,700,705]=aZ (λ_=>tabObj #[]) [695,700,705]:=λP=>by kernel_rfl
noncomputable def ix(o:Obj):Array Value:=match o.data with|.fields vs=>vs|_=>#[]
noncomputable def HP(v:Value):Str×Tok:=match v with|.str s t=>(s,t)|_=>default
noncomputable def wz(v:Value):Int×Tok:=match v with|.int s t=>(s,t)|_=>default
noncomputable def UQ(v:Value):Bool:=match v with|.bool s=>s|_=>default
theorem Ai(Y:bu P H)(hc:aa (Nat.blt c 728) (eN c ew) true=false)(ne:c≠q)(h1:(bv oT P c).cls=.type "code")(h2:(bv oT P c).data=.fields (ix (bv oT P c)))(h3:(ix (bv oT P c))[11]?=some (.ref q))(h4:(ix (bv oT P c)).getD 11 .none=.ref q)
 (h5:(ix (bv oT P c)).getD 18 .none=.str (HP ((ix (bv oT P c)).getD 18 .none)).1 (HP ((ix (bv oT P c)).getD 18 .none)).2)(h6:(ix (bv oT P c)).getD 7 .none=.int (wz ((ix (bv oT P c)).getD 7 .none)).1 (wz ((ix (bv oT P c)).getD 7 .none)).2)
 (h7:(ix (bv oT P c)).getD 9 .none=.bool (UQ ((ix (bv oT P c)).getD 9 .none)))(h8:(ix (bv oT P c)).getD 10 .none=.int (wz ((ix (bv oT P c)).getD 10 .none)).1 (wz ((ix (bv oT P c)).getD 10 .none)).2):CodeHd H c q:=by
 have e:=eU Y hc
 have lt:c∉ew:=λm=>by
  have:=lL.mpr m
  rw[this] at hc
  cases x:Nat.blt c 728<;>rw[x] at hc<;>exact tf hc
 have e':=(qz lt).symm.trans e
 exact⟨_,_,_,_,_,_,_,_,_,e',h1,h2,h3,h4,h5,h6,h7,h8,ne⟩
theorem XL(Y:bu P H):CodeHd H 697 695:=Ai Y (by kernel_rfl) (by decide) (by kernel_rfl) (by kernel_rfl) (by kernel_rfl) (by kernel_rfl) (by kernel_rfl) (by kernel_rfl) (by kernel_rfl) (by kernel_rfl)
theorem SB(Y:bu P H):CodeHd H 702 700:=Ai Y (by kernel_rfl) (by decide) (by kernel_rfl) (by kernel_rfl) (by kernel_rfl) (by kernel_rfl) (by kernel_rfl) (by kernel_rfl) (by kernel_rfl) (by kernel_rfl)
theorem S1(Y:bu P H):CodeHd H 707 705:=Ai Y (by kernel_rfl) (by decide) (by kernel_rfl) (by kernel_rfl) (by kernel_rfl) (by kernel_rfl) (by kernel_rfl) (by kernel_rfl) (by kernel_rfl) (by kernel_rfl)
theorem Pz:aZ (λa=>Nat.blt a 728) [695,700,705]=aZ (λ_=>true) [695,700,705]:=by kernel_rfl
theorem uZ(Y:bu P H)(h:a∈ew):H.get? a=some (tabObj #[]):=by
 have h:=h
 have lt:=cH (bR Pz a h)
 have m:=nk (n:=a) (by rw[jc,aG lt,dY])
 exact(Y _ _ (IH (bR (Il P) a m) lt (bR (FU P) a m))).trans (aq some (bR (Th P) a h))
theorem LJ(Y:bu P H):∀q∈pD,CodeHd H q.1 q.2/\H.get? q.2=some (tabObj #[])/\q.2∈ew:=λq h=>by
 have h:=h
 cases h with
 |head=>exact⟨XL Y,uZ Y (.head _),.head _⟩
 |tail _ h=>cases h with
  |head=>exact⟨SB Y,uZ Y (.tail _ (.head _)),.tail _ (.head _)⟩
  |tail _ h=>cases h with
   |head=>exact⟨S1 Y,uZ Y (.tail _ (.tail _ (.head _))),.tail _ (.tail _ (.head _))⟩
   |tail _ h=>exact nomatch h
theorem Rb{R:WRecords}{cl:Str->Option Addr}{h:Heap}(vs:List Value):∀{xs:List WData} {as:List Addr},WShape.hasItems R xs .int=true->ReadsAllW R cl h vs xs as->∃ns:List Int,ay (λ(i:Int) x=>∃t,x=.int i t) ns vs:=by
 induction vs with
 |nil=>exact λ_ _=>⟨[],.nil⟩
 |cons v vs ih=>
  intro xs as q r
  cases xs with
  |nil=>exact nomatch (readsAllW_nil_inv r).1
  |cons d ds=>
   obtain⟨v',vs',as1,as2,e,_,a,r'⟩:=readsAllW_cons_inv r
   obtain⟨rfl,rfl⟩:=List.cons.inj e
   have q:=Bool.and_eq_true_iff.mp q
   obtain⟨i,rfl⟩:=hasW_int q.1
   obtain⟨t,rfl,_⟩:=readsW_int_inv a
   obtain⟨ns,z⟩:=ih q.2 r'
   exact⟨i::ns,.cons ⟨t,rfl⟩ z⟩
theorem WX(h:(WTm.not (.lt (.lit (.int 63)) (.len (.arg 0)))).holds [] {args:=[.list xs]}=true):xs.length<=63:=by
 have e:∀k:Int,PySem.W.less? (.int 63) (.int k)=some (decide (63<k)):=λk=>rfl
 have h:(match (match (PySem.W.less? (WData.int 63) (WData.int xs.length)).map WData.bool with|some (.bool b)=>some (WData.bool (!b))|_=>none) with|some (.bool true)=>true|_=>false)=true:=h
 rw[e] at h
 have h:=h
 cases q:decide (63<(xs.length:Int)) with
 |true=>rw[q] at h;exact ft h
 |false=>have:=of_decide_eq_false q;omega
noncomputable def bS(w:World)(H:Heap)(l:Addr)(k:Nat):Value:=if k=14 then .ref l else(c0 w H).biV k
theorem WN{w:World}{H:Heap}{l:Addr}:gr (c0 w H) (bS w H l):=
 ⟨λk h=>ax (Nat.ne_of_lt h),λk h=>by
  unfold bS
  by_cases e:k=14
  · rw[aG e];rfl
  · rw[ax e]
    show handedIn (aa (Nat.blt k 14) (h9 k) .none)=true
    rw[jj (x:=k) (y:=14) h];rfl⟩
theorem Ti{P:Params}{H:Heap}(Y:bu P H){l:Addr}{vs:Array Value}(h:H.IsList l vs):l∉ew:=λm=>by
 obtain⟨o,e,c,_⟩:=h
 rw[uZ Y m] at e
 obtain rfl:=af e
 exact nomatch c
theorem OU{H:Heap}{ts:List Addr}{l:Addr}{vs:Array Value}(n:l∉ts)(h:H.IsList l vs):(jR ts H).IsList l vs:=h.imp λo q=>⟨(qz n).trans q.1,q.2⟩
theorem Z8{w:World}{H:Heap}(Y:bu w.params H){c:Cx}{X:Addr->Prop}{A:Around}{env:Env}{fr:Fr}{μ:Mu}{σ:Sg}{s:Shared}(K:jL (c0 w H) c)(o:Ok c X A env fr μ σ s):OldK H s.heap:=by
 have st:=(K.base)▸o.stays
 have tb:∀a,a∈ew->∃ps,isCodeTable H a/\s.heap.get? a=some (tabObj ps):=λa m=>by
  have m:=m
  have go:∀c1,(c1,a)∈pD->∃ps,isCodeTable H a/\s.heap.get? a=some (tabObj ps):=λc1 h=>by
   obtain⟨_,ps,e,_⟩:=o.tabs (c1,a) ((K.tabs).symm▸h)
   obtain⟨oc,vs,_,_,_,_,_,_,_,h1,h2,h3,h4,_⟩:=(LJ Y (c1,a) h).1
   exact⟨ps,⟨c1,oc,vs,h1,h2,h3,h4⟩,e⟩
  cases m with
  |head=>exact go 697 (.head _)
  |tail _ m=>cases m with
   |head=>exact go 702 (.tail _ (.head _))
   |tail _ m=>cases m with
    |head=>exact go 707 (.tail _ (.tail _ (.head _)))
    |tail _ m=>exact nomatch m
 refine⟨λb ob e=>?_,λb ob e=>?_⟩
 · by_cases m:b∈ew
   · obtain⟨ps,h1,h2⟩:=tb b m
     rw[uZ Y m] at e
     obtain rfl:=af e
     exact .inr (.inl ⟨h1,rfl,#[],ps,rfl,by rw[h2];simp⟩)
   · exact .inl (st b ob ((qz m).trans e))
 · by_cases m:b∈ew
   · obtain⟨ps,h1,h2⟩:=tb b m;exact⟨_,h2⟩
   · exact⟨ob,st b ob ((qz m).trans e)⟩
theorem Wb{h h':Heap}(x:h.NoLimit)(k:h.StaysIn h'):h'.NoLimit:=x.imp λmc z=>⟨z.1.keeps k,z.2⟩
theorem OF(TK:wV)(RN:wy):WalkO QG LS (λ_ _=>True) Cg (LG n).row.toRowW LD [] (λf vs=>PySem.call f vs):=by
 intro w ll s₁ mg mb G Y a o pm cd doc dV kV ho hd pY hD hmg hg args vals as abO acd hrd hwl iC
 have Y:=Y
 have Nx:=pre_splitW abO
 obtain⟨d,r,rfl,hx,hr⟩:=hasAllW_cons (Nx.1)
 obtain rfl:=hasAllW_nil hr
 obtain⟨xs,rfl,hi⟩:=hasW_list hx
 obtain⟨v,vs',as1,as2,rfl,rfl,r1,r2⟩:=readsAllW_cons_inv hrd
 obtain⟨rfl,_⟩:=readsAllW_nil_inv r2
 obtain⟨l,vs,as',rfl,Ny,rv,rfl⟩:=readsW_list_inv r1
 obtain⟨bI,hz⟩:=Rb _ (R:=(LG n).row.records) hi rv
 have hlen:(vs.size:Int)<2^63:=by
  have h1:=WX (holds_andW (Nx.2)).1
  have h2:=rv.length
  rw[Array.length_toList] at h2
  have:(vs.size:Int)<=63:=by omega
  exact Int.lt_of_le_of_lt this (by decide)
 have eD:=hD.pos.elim (λq=>q.2) λq=>aV rfl q.1
 subst eD
 have nt:=Ti Y Ny
 have hb:=WN (w:=w) (H:=s₁.heap) (l:=l)
 have Sc:∀v,pd (cX w s₁.heap O0 (bS w s₁.heap l) v) l bI:=λv=>⟨rfl,vs,OU nt Ny,hz,hlen⟩
 have GD:=zU (O:=O0) (v:=vP eZ [] (fU bI,fX bI)) Y hb
 have dS:(jR ew s₁.heap).StaysIn s₁.heap:=λb ob e=>by
  by_cases m:b∈ew
  · exact aV ((Gy m).symm.trans e) (by nofun)
  · exact(qz m).symm.trans e
 refine enter_call (codeAny_call_function (a:=a) (by decide) ho hd rfl rfl rfl pY ?_)
 refine x0 (k:=1) (L:=[n 143]) (od:=none) (ds:=[]) (rfl) rfl rfl (λQ q=>aS q) (by simp) rfl (Nat.le_refl _) (Nat.le_refl _) ?_
 refine Px (c:=cX w s₁.heap O0 (bS w s₁.heap l) (vP eZ [] (fU bI,fX bI))) (A:=callerA) (n:=340) (sc:=ma.sc) (lm:=false) (bs:=[(143,.bi 14)]) (ys:=[.ref l]) (σ₂:=⟨hL [.cell none],[(143,.bi 14)]⟩) GD rfl rfl (by decide) (by decide) dS (λq h=>have t:=LJ Y q h;⟨t.1,#[],t.2.1,.nil⟩) ?_ ?_ ?_ (λq=>ft q) (.cons rfl .nil) ?_ λenv' a9 aB eo bc g1 g2=>⟨?_,codeAny_func ?_⟩
 · kernel_rfl
 · rfl
 · decide
 · kernel_rfl
 · exact Wb GD.nolim bc.stays
 · have e2:(eB (dm ma.sc) hE []).2=[(148,0)]:=by kernel_rfl
   rw[e2] at eo bc
   have M:hW w s₁.heap (bS w s₁.heap l) (callerA.deeper env') env':=⟨Y,hb,aJ.turn (wi (c0 w s₁.heap) TZ _ _ _ v0) eo⟩
   refine YU TK RN M Sc bc λc av ba s' h1 h2 K o'=>⟨.inl ⟨.bool true,.bool true,[],rfl,λcls=>rfl,.bool true,?_,λ_=>⟨.nil,λ_ q=>nomatch q⟩⟩,Z8 Y K o',h2.trans g2,?_⟩
   · show(WShape.has [] (.bool true) .bool&&(WTm.eq .res (.lit (.bool true))).holds [] {args:=[WData.list xs],res:=some (.bool true),after:=[WData.list xs]})=true
     simp[WShape.has,WShape.arms,WTm.holds,WTm.value,same]
   · rw[h1,g1,hg]
     exact λy q=>aV q (by simp)
end
end
end Mine
set_option maxRecDepth 100000 in
theorem PySem.Challenge.cw_xw0182_01_holds : PySem.Challenge.rw_xw0182_01.Holds :=
 Mine.head (Mine.OF Mine.R6 Mine.Qt)
