import PyProof.Rows.All
import Wide.All
import OpenK.AllK
import Wide.FinOn
import PyProof.ExcClass2
import PyProof.AttrMissHeap
import KE.KDictOf
import PySem.Challenge.RW_xw0182_01
set_option Elab.async false
set_option linter.all false
set_option maxRecDepth 100000
set_option genSizeOf false
set_option genInjectivity false
namespace Mine
noncomputable section
section
open PySem PySem.W PyProof.Rows
def af:=@Option.some.inj
def aq:=@congrArg
def ah:=@wpAny_bind
def aS:=@wpAny_pure
def ax:=@if_neg
def aG:=@if_pos
def bg:=@Exists.imp
def cO:=@and_congr_right'
def aV:=@absurd
def dL:=@Nat.le_of_ble_eq_true
def d7:=@Heap.get?_push_of_some
def dX:=@Heap.get?_push_size
def fw:=@List.lookup_cons
def d9:=@wpAny_holding
def fZ:=@wpAny_standAt
def fN:=@exists_congr
def dU:=@Nat.zero_add
def dI:=@congrFun
def fe:=@Nat.le_trans
def gI:=@Nat.le_add_right
def jI:=@Nat.lt_of_le_of_lt
def zAv:=@Option.eq_none_iff_forall_ne_some
def bD{α:Type _}{p:α->Prop}{a:α}{l:List α}(h:p a/\∀x,x∈l->p x):∀x,x∈a::l->p x:=List.forall_mem_cons.mpr h
def ug{α:Type _}{p:α->Prop}{a:α}{l:List α}(h:∀x,x∈a::l->p x):p a/\∀x,x∈l->p x:=List.forall_mem_cons.mp h
def cF{a b:Nat}(h:Nat.blt a b=true):a<b:=Nat.blt_eq.mp h
def mQ{a b:Nat}(h:a<b):Nat.blt a b=true:=Nat.blt_eq.mpr h
end
section
open PySem PySem.W PyProof.Rows
set_option backward.match.sparseCases false
def aa{α:Type}(b:Bool)(x y:α):α:=Bool.rec y x b
inductive tR|add|sub|mul|fdiv|mod|pow
inductive ua|eq|ne|is|isNot|isin|notIn|lt|gt|ge|le
inductive E
 |none (p:Nat)|bool (b:Bool) (p:Nat)|int (i:Nat) (p:Nat)|str (cs:List Nat) (p:Nat)
 |name (x:Nat) (p:Nat)
 |attr (o:E) (a:Nat) (p:Nat)
 |sub (o i:E) (p:Nat)
 |slice (o:E) (lo hi:List E) (p q:Nat)
 |bin (op:tR) (l r:E) (p:Nat)
 |cmp (op:ua) (l r:E) (p:Nat)
 |bop (vt:Bool) (es:List E) (p:Nat)
 |not (x:E) (p:Nat)|neg (x:E) (p:Nat)
 |ife (t b o:E) (p:Nat)
 |tup (es:List E) (p:Nat)|lst (es:List E) (p:Nat)|dct (ks vs:List E) (p:Nat)
 |call (f:E) (es:List E) (p:Nat)
 |comp (elt t i:E) (c:List E) (sc:List (Nat×Nat)) (p:Nat)
 |comp2 (elt t i t2 i2:E) (sc:List (Nat×Nat)) (p:Nat)
 |lam (ps:List (Nat×Nat)) (body:E) (sc:List (Nat×Nat)) (p:Nat)
structure Hd where
 c:Nat
 x:Nat
 tag:List Nat
 a:Nat
 pc:Nat
 pr:Nat
 pt:Nat
 ps:Nat
 px:Nat
 pa:Nat
 ph:Nat
inductive S
 |expr (e:E) (p:Nat)|assign (t v:E) (p:Nat)
 |forS (t i:E) (b:List S) (p:Nat)|while (c:E) (b:List S) (p:Nat)
 |ifS (c:E) (b o:List S) (p:Nat)
 |ret (e:E) (p:Nat)|raise (c:Nat) (es:List E) (pn pc p:Nat)
 |tryS (b:List S) (hs:List Hd) (p:Nat)|pass (p:Nat)
structure Lm where
 ps:List Nat
 sc:List (Nat×Nat)
 body:E
inductive V
 |none|bool (b:Bool)|int (i:Int)|str (s:List Nat)
 |nil|cons (h t:V)
 |loc (n:Nat)|fn (k:Nat)|cls (k:Nat)|bi (k:Nat)
 |clo (l:Lm) (fJ:List (Nat×Nat))|atom (n:Nat)
inductive aF
 |list (xs:List V)|dict (bF:List (List Nat×V))|inst (c:Nat) (as:List (Nat×V))|cell (v:Option V)|opq (j:Nat)|dead
inductive BH|lf|nd (o:aF) (l r:BH)
structure HT where
 n:Nat
 t:BH
def iK(t:BH):Nat->Option aF:=BH.rec (λ_=>.none) (λo _ _ fR bP i=>aa (Nat.beq i 0) (some o) (aa (Nat.beq (Nat.mod i 2) 1) (fR (Nat.div i 2)) (bP (Nat.pred (Nat.div i 2))))) t
def pe(y:aF)(t:BH):Nat->BH:=BH.rec (λ_=>.lf) (λo l r fR bP i=>aa (Nat.beq i 0) (.nd y l r) (aa (Nat.beq (Nat.mod i 2) 1) (.nd o (fR (Nat.div i 2)) r) (.nd o l (bP (Nat.pred (Nat.div i 2)))))) t
def oQ(y:aF)(t:BH):Nat->BH:=BH.rec (λ_=>.nd y .lf .lf) (λo l r fR bP i=>aa (Nat.beq i 0) (.nd y l r) (aa (Nat.beq (Nat.mod i 2) 1) (.nd o (fR (Nat.div i 2)) r) (.nd o l (bP (Nat.pred (Nat.div i 2)))))) t
def gH(H:HT)(i:Nat):Option aF:=iK H.t i
def pH(H:HT)(i:Nat)(o:aF):HT:=⟨H.n,pe o H.t i⟩
def aH(H:HT)(o:aF):HT:=⟨Nat.succ H.n,oQ o H.t H.n⟩
def hE:HT:=⟨0,.lf⟩
def hL(l:List aF):HT:=List.rec (λH=>H) (λo _ ih H=>ih (aH H o)) l hE
structure Sg where
 H:HT
 r:List (Nat×V)
inductive R(α:Type)
 |ok (a:α) (s:Sg)|exc (c:Nat) (m v:V) (s:Sg)|stuck
inductive Fl|next|ret (v:V)
structure Fr where
 sc:List (Nat×Nat)
 g:List (Nat×Nat)
 lm:Bool
structure Fn where
 ps:List Nat
 df:List V
 sc:List (Nat×Nat)
 cs:List Nat
 body:List S
 lm:Bool
structure Cl where
 init:Nat
 meth:List (Nat×Nat)
 am:Nat
inductive R0|ok (v:V) (H:HT)|exc (c:Nat) (m v:V) (H:HT)
inductive Tr(α:Type)|lf|nd (l:Tr α) (k:Nat) (v:α) (r:Tr α)
def dn{α:Type}(t:Tr α)(x:Nat):Option α:=
 Tr.rec .none (λ_ k v _ fR bP=>aa (Nat.beq x k) (some v) (aa (Nat.blt x k) fR bP)) t
structure Tb where
 nfn:Nat
 gl:Nat->Option V
 fns:Nat->Option Fn
 cls:Nat->Option Cl
 sub:Nat->Nat->Option Bool
 O:Nat->List V->HT->Option (Nat×R0)
def au{α:Type}(l:List (Nat×α))(x:Nat):Option α:=
 List.rec .none (λp _ ih=>aa (Nat.beq p.1 x) (some p.2) ih) l
def kR{α:Type}(l:List (Nat×α))(x:Nat)(v:α):List (Nat×α):=
 List.rec [(x,v)] (λp r ih=>aa (Nat.beq p.1 x) ((x,v)::r) (p::ih)) l
def aj{α:Type}(l:List α):Nat->Option α:=
 List.rec (λ_=>.none) (λx _ ih n=>Nat.rec (some x) (λm _=>ih m) n) l
def qF{α:Type}(l:List α)(n:Nat)(y:α):List α:=
 List.rec (λ_=>[]) (λx r ih n=>Nat.rec (y::r) (λm _=>x::ih m) n) l n
def len{α:Type}(l:List α):Nat:=List.rec (nat_lit 0) (λ_ _ ih=>Nat.succ ih) l
def app{α:Type}(a b:List α):List α:=List.rec b (λx _ ih=>x::ih) a
def seq(a:List Nat):List Nat->Bool:=
 List.rec (λb=>List.rec true (λ_ _ _=>false) b) (λx _ ih b=>List.rec false (λy q _=>aa (Nat.beq x y) (ih q) false) b) a
def jF{α:Type}(l:List (List Nat×α))(x:List Nat):Option α:=
 List.rec .none (λp _ ih=>aa (seq p.1 x) (some p.2) ih) l
def nM{α:Type}(l:List (List Nat×α))(x:List Nat)(v:α):List (List Nat×α):=
 List.rec [(x,v)] (λp r ih=>aa (seq p.1 x) ((p.1,v)::r) (p::ih)) l
def gC(v:V):List V:=
 V.rec [] (λ_=>[]) (λ_=>[]) (λ_=>[]) [] (λh _ _ ih=>h::ih) (λ_=>[]) (λ_=>[]) (λ_=>[]) (λ_=>[]) (λ_ _=>[]) (λ_=>[]) v
def b9(v:V):Bool:=
 V.rec false (λ_=>false) (λ_=>false) (λ_=>false) true (λ_ _ _ ih=>ih) (λ_=>false) (λ_=>false) (λ_=>false) (λ_=>false) (λ_ _=>false) (λ_=>false) v
def wg(l:List V):V:=List.rec .nil (λv _ ih=>.cons v ih) l
def R.bind{α β:Type}(r:R α)(f:α->Sg->R β):R β:=
 R.rec (λa s=>f a s) (λc m v s=>.exc c m v s) .stuck r
def aX{α β:Type}(o:Option α)(f:α->R β):R β:=Option.rec .stuck f o
def dG{α β:Type}(o:Option α)(f:α->R β)(d:R β):R β:=Option.rec d f o
def a7{α β:Type}(o:Option α)(f:α->Option β)(d:Option β):Option β:=Option.rec d f o
def eM(v:V):Option Int:=V.rec .none (λ_=>.none) (λi=>some i) (λ_=>.none) .none (λ_ _ _ _=>.none) (λ_=>.none) (λ_=>.none) (λ_=>.none) (λ_=>.none) (λ_ _=>.none) (λ_=>.none) v
def k4(v:V):Option Bool:=V.rec .none (λb=>some b) (λ_=>.none) (λ_=>.none) .none (λ_ _ _ _=>.none) (λ_=>.none) (λ_=>.none) (λ_=>.none) (λ_=>.none) (λ_ _=>.none) (λ_=>.none) v
def cQ(v:V):Option (List Nat):=V.rec .none (λ_=>.none) (λ_=>.none) (λs=>some s) .none (λ_ _ _ _=>.none) (λ_=>.none) (λ_=>.none) (λ_=>.none) (λ_=>.none) (λ_ _=>.none) (λ_=>.none) v
def cJ(v:V):Option (List V):=aa (b9 v) (some (gC v)) .none
def ci(v:V):Option Nat:=V.rec .none (λ_=>.none) (λ_=>.none) (λ_=>.none) .none (λ_ _ _ _=>.none) (λn=>some n) (λ_=>.none) (λ_=>.none) (λ_=>.none) (λ_ _=>.none) (λ_=>.none) v
def lL(o:aF):Option (List V):=aF.rec (λxs=>some xs) (λ_=>.none) (λ_ _=>.none) (λ_=>.none) (λ_=>.none) .none o
def yA(o:aF):Option (List (List Nat×V)):=aF.rec (λ_=>.none) (λbF=>some bF) (λ_ _=>.none) (λ_=>.none) (λ_=>.none) .none o
def wI(o:aF):Option (Nat×List (Nat×V)):=aF.rec (λ_=>.none) (λ_=>.none) (λk as=>some (k,as)) (λ_=>.none) (λ_=>.none) .none o
def qT(o:aF):Option (Option V):=aF.rec (λ_=>.none) (λ_=>.none) (λ_ _=>.none) (λv=>some v) (λ_=>.none) .none o
def n6{α:Type}(f:aF->Option α)(H:HT)(v:V):Option (Nat×α):=a7 (ci v) (λn=>a7 (gH H n) (λo=>a7 (f o) (λx=>some (n,x)) .none) .none) .none
def dj(H:HT)(v:V):Option (Nat×List V):=n6 lL H v
def iO(H:HT)(v:V):Option (Nat×List (List Nat×V)):=n6 yA H v
def oj(H:HT)(v:V):Option (Nat×Nat×List (Nat×V)):=n6 wI H v
def hW(v:V):Bool:=V.rec true (λ_=>true) (λ_=>true) (λ_=>true) true (λ_ _ _ _=>true) (λ_=>true) (λ_=>true) (λ_=>true) (λk=>Nat.ble 14 k) (λ_ _=>true) (λ_=>true) v
def cu(v:V):Option Nat:=V.rec .none (λ_=>.none) (λ_=>.none) (λ_=>.none) .none (λ_ _ _ _=>.none) (λ_=>.none) (λ_=>.none) (λ_=>.none) (λ_=>.none) (λ_ _=>.none) (λn=>some n) v
def vV(v:V):Option Nat:=V.rec .none (λ_=>.none) (λ_=>.none) (λ_=>.none) .none (λ_ _ _ _=>.none) (λ_=>.none) (λ_=>.none) (λk=>some k) (λ_=>.none) (λ_ _=>.none) (λ_=>.none) v
def dS(v:V):Option Nat:=V.rec .none (λ_=>.none) (λ_=>.none) (λ_=>.none) .none (λ_ _ _ _=>.none) (λ_=>.none) (λ_=>.none) (λ_=>.none) (λk=>some k) (λ_ _=>.none) (λ_=>.none) v
def zy(v:V):Bool:=V.rec false (λ_=>false) (λ_=>false) (λ_=>false) true (λ_ _ _ _=>false) (λ_=>false) (λ_=>false) (λ_=>false) (λ_=>false) (λ_ _=>false) (λ_=>false) v
def wL(v:V):Option (V×V):=V.rec .none (λ_=>.none) (λ_=>.none) (λ_=>.none) .none (λh t _ _=>some (h,t)) (λ_=>.none) (λ_=>.none) (λ_=>.none) (λ_=>.none) (λ_ _=>.none) (λ_=>.none) v
def LC(v:V):Option Nat:=a7 (eM v) (λi=>Int.rec (λn=>some n) (λ_=>.none) i) .none
def isNone(v:V):Bool:=V.rec true (λ_=>false) (λ_=>false) (λ_=>false) false (λ_ _ _ _=>false) (λ_=>false) (λ_=>false) (λ_=>false) (λ_=>false) (λ_ _=>false) (λ_=>false) v
def Av(v:V):Option Bool:=V.rec (some true) (λ_=>(some false)) (λ_=>(some false)) (λ_=>(some false)) (some false) (λ_ _ _ _=>(some false)) (λ_=>(some false)) (λ_=>(some false)) (λ_=>(some false)) (λ_=>.none) (λ_ _=>(some false)) (λn=>aa (aa (Nat.ble 64 n) (Nat.blt n 128) false) (some false) .none) v
def BS(o:aF)(s:Sg):R V:=.ok (.loc s.H.n) ⟨aH s.H o,s.r⟩
def fU{α:Type}(l:List α):Bool:=Nat.ble (len l) 4000
def lz(l:List V)(s:Sg):R V:=aa (fU l) (BS (.list l) s) .stuck
def tu(l:List (List Nat×V))(s:Sg):R V:=aa (fU l) (BS (.dict l) s) .stuck
def nS(l:List V)(s:Sg):R V:=aa (fU l) (.ok (wg l) s) .stuck
def oY(l:List Nat)(s:Sg):R V:=aa (fU l) (.ok (.str l) s) .stuck
def put(n:Nat)(o:aF)(s:Sg):Sg:=⟨pH s.H n o,s.r⟩
def qS(n:Nat)(l:List V)(s:Sg):R Unit:=aa (fU l) (.ok () (put n (.list l) s)) .stuck
def WY(n:Nat)(l:List (List Nat×V))(s:Sg):R Unit:=aa (fU l) (.ok () (put n (.dict l) s)) .stuck
def jA{α:Type}(s:Sg)(o:Option α):R α:=aX o λa=>.ok a s
def w5(H:HT)(v:V):Option Bool:=
 a7 (k4 v) some (a7 (eM v) (λi=>some (!decide (i=0))) (a7 (cJ v) (λxs=>aa (fU xs) (some (!xs.isEmpty)) .none)
  (a7 (dj H v) (λp=>some (!p.2.isEmpty)) (a7 (iO H v) (λp=>some (!p.2.isEmpty)) (aa (isNone v) (some false) .none)))))
def yB(a b:Option Bool):Option Bool:=Option.rec .none (λx=>Option.rec .none (λy=>some (aa x y false)) b) a
def lU(f:V->V->Option Bool)(xs:List V):List V->Option Bool:=
 List.rec (λys=>List.rec (some true) (λ_ _ _=>some false) ys)
  (λx _ ih ys=>List.rec (some false) (λy q _=>yB (f x y) (ih q)) ys) xs
def Ac(f:V->V->Option Bool)(ys:List (List Nat×V))(xs:List (List Nat×V)):Option Bool:=
 List.rec (some true) (λp _ ih=>a7 (jF ys p.1) (λw=>yB (f p.2 w) ih) (a7 ih (λ_=>some false) .none)) xs
def fz(H:HT)(v:V):Nat:=
 V.rec 1 (λ_=>0) (λ_=>2) (λ_=>3) 4 (λ_ _ _ _=>4) (λn=>Option.rec 0 (λo=>aF.rec (λ_=>5) (λ_=>0) (λ_ _=>0) (λ_=>0) (λ_=>0) 0 o) (gH H n)) (λ_=>0) (λ_=>0) (λ_=>0) (λ_ _=>0) (λ_=>0) v
def unlike(a b:Nat):Option Bool:=aa (Nat.beq a 0) .none (aa (Nat.beq b 0) .none (aa (Nat.beq a b) .none (some false)))
def rj(i:Nat)(b:V):Bool:=Option.rec false (λj=>Nat.beq i j) (ci b)
def wM(i j:Nat):Bool:=aa (Nat.blt i 64) (Nat.beq (Nat.div i 2) (Nat.div j 2)) false
def Cg(v:V):Bool:=Option.rec false (λj=>aa (Nat.ble 64 j) (Nat.blt j 128) false) (cu v)
def Eg(H:HT)(n:Nat)(ih:V->V->Option Bool)(a b:V):Option Bool:=
 V.rec (motive:=λ_=>HT->Nat->(V->V->Option Bool)->V->V->Option Bool) (λH n ih a b=>aa (isNone b) (some true) (unlike 1 (fz H b))) (λx H n ih a b=>a7 (k4 b) (λy=>some (aa x y (!y))) .none) (λx H n ih a b=>a7 (eM b) (λy=>some (decide (x=y))) (unlike 2 (fz H b))) (λx H n ih a b=>a7 (cQ b) (λy=>some (seq x y)) (unlike 3 (fz H b))) (λH n ih a b=>a7 (cJ a) (λxs=>a7 (cJ b) (λys=>lU ih xs ys) (unlike 4 (fz H b))) .none) (λ_ _ _ _ H n ih a b=>a7 (cJ a) (λxs=>a7 (cJ b) (λys=>lU ih xs ys) (unlike 4 (fz H b))) .none) (λi H n ih a b=>aa (rj i b) (some true) (a7 (dj H (.loc i)) (λp=>a7 (dj H b) (λq=>aa (Nat.beq (len p.2) (len q.2)) (lU ih p.2 q.2) (some false)) (unlike 5 (fz H b))) .none)) (λ_ _ _ _ _ _=>.none) (λ_ _ _ _ _ _=>.none) (λ_ _ _ _ _ _=>.none) (λ_ _ _ _ _ _ _=>.none) (λi H n ih a b=>a7 (cu b) (λj=>aa (Nat.blt 20 n) (aa (Nat.beq i j) (some true) (aa (wM i j) (some false) .none)) .none) .none) a H n ih a b
def eH(H:HT)(n:Nat):V->V->Option Bool:=Nat.rec (λ_ _=>.none) (λn ih a b=>Eg H n ih a b) n
def i5:Nat:=40
def ot(a b:Bool):Bool:=aa a b (aa b false true)
def qP(H:HT)(a b:V):Option Bool:=
 Option.rec (Eg H 39 (eH H 39) a b) (λi=>aa (rj i b) .none
  (a7 (iO H a) (λp=>a7 (iO H b) (λq=>aa (Nat.beq (len p.2) (len q.2)) (Ac (eH H i5) q.2 p.2) (some false)) .none) (eH H i5 a b))) (ci a)
def x0(H:HT)(x:V)(l:List V):Option Bool:=
 List.rec (some false) (λy _ ih=>a7 (eH H i5 y x) (λa=>a7 ih (λb=>some (aa a true b)) .none) .none) l
def oZ(y:Int):Bool:=Nat.ble (Int.natAbs y) 1000000000000000000
def jJ{α:Type}(a b:V)(f:Int->Int->R α):R α:=aX (eM a) λx=>aX (eM b) λy=>f x y
def Yx(a b:V)(s:Sg):R V:=
 dG (eM a) (λx=>aX (eM b) λy=>.ok (.int (x+y)) s)
  (dG (cQ a) (λx=>aX (cQ b) λy=>oY (app x y) s)
  (dG (dj s.H a) (λp=>aX (dj s.H b) λq=>lz (app p.2 q.2) s)
  (aX (cJ a) λx=>aX (cJ b) λy=>nS (app x y) s)))
def sf(op:tR)(a b:V)(s:Sg):R V:=
 tR.rec (motive:=λ_=>V->V->Sg->R V) (λa b s=>Yx a b s) (λa b s=>jJ a b λx y=>.ok (.int (x-y)) s)
  (λa b s=>jJ a b λx y=>aa (oZ y) (.ok (.int (x*y)) s) .stuck)
  (λa b s=>jJ a b λx y=>aa (oZ y) (aa (decide (0<y)) (.ok (.int (x/y)) s) .stuck) .stuck)
  (λa b s=>jJ a b λx y=>aa (decide (0<y)) (.ok (.int (x%y)) s) .stuck)
  (λa b s=>jJ a b λx y=>aa (decide (x=10)) (aa (decide (y=18)) (.ok (.int 1000000000000000000) s) .stuck) .stuck) op a b s
def bf(H:HT)(v:V):Option (List V):=a7 (dj H v) (λp=>some p.2) (cJ v)
def vb(H:HT)(v:V):Option (List V):=a7 (dj H v) (λp=>some p.2) .none
def bl(b:Bool)(s:Sg):R V:=.ok (.bool b) s
def Ls(a b:V):Option Nat:=a7 (cu a) (λi=>aa (Nat.ble 6000 i) (aa (Nat.blt i 7000) (a7 (eM b) (λy=>aa (decide (y=0)) (some (Nat.add i 1000)) .none) .none) .none) .none) .none
def y6(a b:V)(s:Sg)(f:Bool->Bool):R V:=
 dG (dj s.H b) (λp=>aX (x0 s.H a p.2) λr=>bl (f r) s)
  (dG (iO s.H b) (λp=>aX (cQ a) λk=>bl (f (jF p.2 k).isSome) s)
  (aX (cJ b) λxs=>aX (x0 s.H a xs) λr=>bl (f r) s))
def Gr(op:ua)(a b:V)(s:Sg):R V:=
 ua.rec (motive:=λ_=>V->V->Sg->R V) (λa b s=>dG (Ls a b) (λj=>.ok (.atom j) s) (aX (qP s.H a b) λr=>bl r s)) (λa b s=>aX (qP s.H a b) λr=>bl (!r) s)
  (λa b s=>aa (isNone b) (aX (Av a) λr=>bl r s) .stuck) (λa b s=>aa (isNone b) (aX (Av a) λr=>bl (!r) s) .stuck)
  (λa b s=>y6 a b s id) (λa b s=>y6 a b s not)
  (λa b s=>jJ a b λx y=>bl (decide (x<y)) s) (λa b s=>jJ a b λx y=>bl (decide (y<x)) s)
  (λa b s=>jJ a b λx y=>bl (decide (y<=x)) s) (λa b s=>jJ a b λx y=>bl (decide (x<=y)) s) op a b s
def rE(i:Int)(n:Nat):Option Nat:=
 Int.rec (λk=>aa (Nat.blt k n) (some k) .none) (λk=>aa (Nat.blt k n) (some (n-(k+1))) .none) i
def IZ(o i:V)(s:Sg):R V:=
 dG (dj s.H o) (λp=>aX (eM i) λj=>aX (rE j (len p.2)) λk=>jA s (aj p.2 k))
  (dG (iO s.H o) (λp=>aX (cQ i) λk=>jA s (jF p.2 k))
  (aX (cJ o) λxs=>aX (eM i) λj=>aa (fU xs) (aX (rE j (len xs)) λk=>jA s (aj xs k)) .stuck))
def Gj(o i v:V)(s:Sg):R Unit:=
 dG (dj s.H o) (λp=>aX (eM i) λj=>aX (rE j (len p.2)) λk=>qS p.1 (qF p.2 k v) s)
  (aX (iO s.H o) λp=>aX (cQ i) λk=>WY p.1 (nM p.2 k v) s)
def bound(d:Nat)(n:Nat)(o:Option V):Option Nat:=
 Option.rec (some d) (λv=>V.rec (some d) (λ_=>.none) (λi=>Int.rec (λk=>some (aa (Nat.ble k n) k n)) (λk=>some (n-(k+1))) i) (λ_=>.none) .none (λ_ _ _ _=>.none) (λ_=>.none) (λ_=>.none) (λ_=>.none) (λ_=>.none) (λ_ _=>.none) (λ_=>.none) v) o
def nl{α:Type}(n:Nat):List α->List α:=Nat.rec (λl=>l) (λ_ ih l=>List.rec [] (λ_ q _=>ih q) l) n
def iR{α:Type}(n:Nat):List α->List α:=Nat.rec (λ_=>[]) (λ_ ih l=>List.rec [] (λx q _=>x::ih q) l) n
def cut{α:Type}(xs:List α)(a b:Nat):List α:=iR (Nat.sub b a) (nl a xs)
def oo{α:Type}(n:Nat)(lo hi:Option V)(f:Nat->Nat->R α):R α:=aX (bound 0 n lo) λa=>aX (bound n n hi) λb=>f a b
def Ha(o:V)(lo hi:Option V)(s:Sg):R V:=
 dG (cQ o) (λc=>oo (len c) lo hi λa b=>oY (cut c a b) s)
  (dG (dj s.H o) (λp=>oo (len p.2) lo hi λa b=>lz (cut p.2 a b) s)
  (aX (cJ o) λxs=>aa (fU xs) (oo (len xs) lo hi λa b=>nS (cut xs a b) s) .stuck))
def lA(m a:Nat):Bool:=Nat.beq (Nat.land (Nat.shiftRight m a) 1) 1
def Mh(T:Tb)(o:V)(a:Nat)(s:Sg):R V:=
 aX (oj s.H o) λp=>aX (T.cls p.2.1) λcl=>aa (lA cl.am a) (aX (au p.2.2 a) λv=>aa (hW v) (.ok v s) .stuck) .stuck
def Ko(T:Tb)(o:V)(a:Nat)(v:V)(s:Sg):R Unit:=
 aX (oj s.H o) λp=>aX (T.cls p.2.1) λcl=>aa (lA cl.am a) (aa (fU (kR p.2.2 a v)) (.ok () (put p.1 (.inst p.2.1 (kR p.2.2 a v)) s)) .stuck) .stuck
def GW(v:V):Option (List Nat×V):=a7 (cJ v) (λl=>match l with|[k,w]=>a7 (cQ k) (λx=>some (x,w)) .none|_=>.none) .none
def yu(bF:List (List Nat×V)):List V->Option (List (List Nat×V))
 |[]=>some bF
 |v::r=>a7 (GW v) (λp=>yu (nM bF p.1 p.2) r) .none
def zi(l:List V):Option Bool:=List.rec (some true) (λv _ ih=>a7 (k4 v) (λb=>a7 ih (λr=>some (aa b r false)) .none) .none) l
def sd(a:Nat):Nat->List V
 |0=>[]
 |n+1=>.int a::sd (a+1) n
def Ga(v:V):Option (List Nat):=a7 (cQ v) some (a7 (eM v) (λi=>aa (Int.rec (λn=>Nat.blt n 10) (λ_=>false) i) (some [48+Int.natAbs i]) .none) .none)
def nR(n:Nat)(s:Sg):R V:=.ok (.int (.ofNat n)) s
def Je(v:V)(s:Sg):R V:=
 dG (cQ v) (λc=>aa (fU c) (nR (len c) s) .stuck)
  (dG (dj s.H v) (λp=>nR (len p.2) s)
  (dG (iO s.H v) (λp=>nR (len p.2) s)
  (aX (cJ v) λxs=>aa (fU xs) (nR (len xs) s) .stuck)))
def b1(k:Nat)(v:V)(s:Sg):R V:=
 aa (Nat.beq k 0) (Je v s)
 (aa (Nat.beq k 4) (aa (Cg v) (.ok v s) (aX (bf s.H v) λxs=>nS xs s))
 (aa (Nat.beq k 5) (aX (bf s.H v) λxs=>lz xs s)
 (aa (Nat.beq k 3) (aX (Ga v) λx=>oY x s)
 (aa (Nat.beq k 2) (aX (k4 v) λb=>.ok (.int (aa b 1 0)) s)
 (aa (Nat.beq k 9) (aX (vb s.H v) λxs=>aX (zi xs) λb=>bl b s)
 (aa (Nat.beq k 10) (aX (vb s.H v) λxs=>aX (yu [] xs) λbF=>tu bF s) .stuck))))))
def builtin(k:Nat)(vs:List V)(s:Sg):R V:=
 List.rec .stuck (λv r _=>List.rec (b1 k v s) (λw q _=>List.rec (aa (Nat.beq k 1) (jJ v w λa b=>.ok (.int (aa (decide (a<b)) b a)) s) .stuck) (λ_ _ _=>.stuck) q) r) vs
def DM(a b:V):Option Bool:=
 a7 (cQ a) (λx=>a7 (cQ b) (λy=>some (seq x y)) (aa (isNone b) (some false) .none))
  (aa (isNone a) (a7 (cQ b) (λ_=>some false) (aa (isNone b) (some true) .none)) .none)
def x4(x:V)(l:List V):Option Nat:=
 List.rec (some 0) (λy _ ih=>a7 (DM y x) (λa=>a7 ih (λn=>some (aa a (Nat.succ n) n)) .none) .none) l
def A0(sep:List Nat):List V->Option (List Nat)
 |[]=>some []
 |v::r=>a7 (cQ v) (λs=>aa r.isEmpty (some s) (a7 (A0 sep r) (λt=>some (app s (app sep t))) .none)) .none
def Aw(H:HT)(k:Nat)(v:V):Bool:=
 Option.rec (Option.rec (Option.rec (Option.rec false (λ_=>Nat.beq k 3) (cJ v)) (λ_=>Nat.beq k 5) (cQ v)) (λ_=>Nat.beq k 4) (iO H v)) (λ_=>Nat.blt k 4) (dj H v)
def OF(k n:Nat)(xs:List V)(v:V)(s:Sg):R V:=
 aa (Nat.beq k 0) ((qS n (app xs [v]) s).bind λ_ s=>.ok .none s)
  (aa (Nat.beq k 1) (aX (vb s.H v) λys=>(qS n (app xs ys) s).bind λ_ s=>.ok .none s)
  (aa (Nat.beq k 3) (aX (x4 v xs) λm=>nR m s) .stuck))
def JH(k n:Nat)(xs:List V)(vs:List V)(s:Sg):R V:=
 List.rec (aa (Nat.beq k 2) (aX xs.getLast? λv=>.ok v (put n (.list xs.dropLast) s)) .stuck) (λv r _=>List.rec (OF k n xs v s) (λ_ _ _=>.stuck) r) vs
def two{α β:Type}(vs:List β)(f:β->β->R α):R α:=List.rec .stuck (λv r _=>List.rec .stuck (λw q _=>List.rec (f v w) (λ_ _ _=>.stuck) q) r) vs
def one{α β:Type}(vs:List β)(f:β->R α):R α:=List.rec .stuck (λv r _=>List.rec (f v) (λ_ _ _=>.stuck) r) vs
def LL(k:Nat)(bF:List (List Nat×V))(vs:List V)(s:Sg):R V:=
 one vs λv=>aX (cQ v) λx=>aa (Nat.beq k 4) (.ok (Option.rec .none (λv=>v) (jF bF x)) s) .stuck
def I2(k:Nat)(c:List Nat)(vs:List V)(s:Sg):R V:=
 one vs λv=>aa (Nat.beq k 5) (aa (fU c) (aX (bf s.H v) λxs=>aX (A0 c xs) λx=>oY x s) .stuck) .stuck
def GU(k:Nat)(xs:List V)(vs:List V)(s:Sg):R V:=
 one vs λv=>aa (Nat.beq k 3) (aX (x4 v xs) λm=>nR m s) .stuck
def Ja(k:Nat)(o:V)(vs:List V)(s:Sg):R V:=
 dG (dj s.H o) (λp=>JH k p.1 p.2 vs s)
  (dG (iO s.H o) (λp=>LL k p.2 vs s)
  (dG (cQ o) (λc=>I2 k c vs s)
  (aX (cJ o) λxs=>GU k xs vs s)))
def Ll(T:Tb)(fr:Fr)(x:Nat)(s:Sg):R V:=
 aX (au fr.sc x) λk=>aa (Nat.beq k 0) (jA s (au s.r x)) (aa (Nat.beq k 3) (jA s (T.gl x))
  (aX (au fr.g x) λl=>aX (gH s.H l) λo=>aX (qT o) λv=>jA s v))
def qX(fr:Fr)(x:Nat)(v:V)(s:Sg):R Unit:=
 aX (au fr.sc x) λk=>aa (Nat.beq k 0) (.ok () ⟨s.H,kR s.r x v⟩) (aa (Nat.beq k 1)
  (aX (au fr.g x) λl=>aX (gH s.H l) λo=>aX (qT o) λ_=>.ok () (put l (.cell (some v)) s)) .stuck)
def Ie(ps:List Nat):List V->List (Nat×V):=List.rec (λ_=>[]) (λp _ ih vs=>List.rec [] (λv q _=>(p,v)::ih q) vs) ps
def yf(ps:List Nat)(vs:List V):Option (List (Nat×V)):=aa (Nat.beq (len ps) (len vs)) (some (Ie ps vs)) .none
def ew(l:List Nat):HT->List (Nat×Nat)->HT×List (Nat×Nat):=
 List.rec (λH g=>(H,g)) (λc _ ih H g=>ih (aH H (.cell .none)) ((c,H.n)::g)) l
def rt(fr:Fr)(l:List (Nat×V)):Sg->R Unit:=
 List.rec (λs=>.ok () s) (λp _ bP s=>(qX fr p.1 p.2 s).bind λ_ s=>bP s) l
def u4(ps:List Nat)(df vs:List V):List V:=List.rec vs (λd r _=>app vs (nl (Nat.sub (len vs) (Nat.sub (len ps) (len (d::r)))) (d::r))) df
def aE(p:Nat):Pos:=⟨p/1000000000,p/1000000%1000,p/1000%1000,p%1000⟩
def sU(e:E):Option Nat:=match e with|.name x _=>some x|_=>.none
structure Ev where
 call:Nat->List V->Sg->R V
 eE:E->Fr->Sg->R V
 eT:E->Fr->Sg->R Bool
 eS:S->Fr->Sg->R Fl
 eW:E->List S->Fr->Sg->R Fl
def Jk:Ev:=⟨λ_ _ _=>.stuck,λ_ _ _=>.stuck,λ_ _ _=>.stuck,λ_ _ _=>.stuck,λ_ _ _ _=>.stuck⟩
section
variable(T:Tb)(ih:Ev)
def jE(fr:Fr)(es:List E):Sg->R (List V):=
 List.rec (λs=>.ok [] s) (λe _ bP s=>(ih.eE e fr s).bind λv s=>(bP s).bind λvs s=>.ok (v::vs) s) es
def B0(fr:Fr):List E->Sg->R (Option V)
 |[],s=>.ok .none s
 |e::_,s=>(ih.eE e fr s).bind λv s=>.ok (some v) s
def execs(fr:Fr)(b:List S):Sg->R Fl:=
 List.rec (λs=>.ok .next s) (λst _ bP s=>(ih.eS st fr s).bind λf s=>Fl.rec (bP s) (λv=>.ok (.ret v) s) f) b
def vh(T:Tb)(ih:Ev)(fr:Fr)(t:E)(v:V)(s:Sg):R Unit:=
 E.rec (motive_1:=λ_=>Tb->Ev->Fr->V->Sg->R Unit) (motive_2:=λ_=>Tb->Ev->Fr->V->Sg->R Unit) (λ_ _ _ _ _ _=>.stuck) (λ_ _ _ _ _ _ _=>.stuck) (λ_ _ _ _ _ _ _=>.stuck) (λ_ _ _ _ _ _ _=>.stuck) (λx _ _ _ fr v s=>qX fr x v s) (λo a _ _ T ih fr v s=>(ih.eE o fr s).bind λov s=>Ko T ov a v s) (λo i _ _ _ _ ih fr v s=>(ih.eE o fr s).bind λov s=>(ih.eE i fr s).bind λiv s=>Gj ov iv v s) (λ_ _ _ _ _ _ _ _ _ _ _ _ _=>.stuck) (λ_ _ _ _ _ _ _ _ _ _ _=>.stuck) (λ_ _ _ _ _ _ _ _ _ _ _=>.stuck) (λ_ _ _ _ _ _ _ _ _=>.stuck) (λ_ _ _ _ _ _ _ _=>.stuck) (λ_ _ _ _ _ _ _ _=>.stuck) (λ_ _ _ _ _ _ _ _ _ _ _ _=>.stuck) (λ_ _ _ _ _ _ _ _=>.stuck) (λ_ _ _ _ _ _ _ _=>.stuck) (λ_ _ _ _ _ _ _ _ _ _=>.stuck) (λ_ _ _ _ _ _ _ _ _ _=>.stuck) (λ_ _ _ _ _ _ _ _ _ _ _ _ _ _ _=>.stuck) (λ_ _ _ _ _ _ _ _ _ _ _ _ _ _ _ _ _=>.stuck) (λ_ _ _ _ _ _ _ _ _ _=>.stuck) (λ_ _ _ _ _=>.stuck) (λ_ _ _ _ _ _ _ _ _=>.stuck) t T ih fr v s
def r7(f:E->V->Sg->R Unit)(ts:List E):List V->Sg->R Unit:=
 List.rec (λvs s=>List.rec (.ok () s) (λ_ _ _=>.stuck) vs) (λt _ ih vs s=>List.rec .stuck (λv q _=>(f t v s).bind λ_ s=>ih q s) vs) ts
def k6(e:E):Option (List E):=match e with|.tup es _=>some es|_=>.none
def so(f:E->V->Sg->R Unit)(es:List E)(v:V)(s:Sg):R Unit:=aa (b9 v) (aa (Nat.beq (len es) (len (gC v))) (r7 f es (gC v) s) .stuck) .stuck
def pT(T:Tb)(ih:Ev)(fr:Fr)(t:E)(v:V)(s:Sg):R Unit:=dG (k6 t) (λes=>so (vh T ih fr) es v s) (vh T ih fr t v s)
def assign(T:Tb)(ih:Ev)(fr:Fr)(t:E)(v:V)(s:Sg):R Unit:=dG (k6 t) (λes=>so (pT T ih fr) es v s) (vh T ih fr t v s)
def tW(e:E):Bool:=
 match e with
 |.none _|.bool _ _|.int _ _|.str _ _|.not _ _|.neg _ _|.tup _ _|.bin .. |.sub .. |.slice .. =>false
 |_=>true
def ya(e:E):Bool:=
 match e with
 |.sub o _ _=>tW o
 |.bin _ l _ _=>tW l
 |.tup es _=>es.any tW
 |e=>tW e
def yz(ts:List E):Option (List Nat):=List.rec (some []) (λt _ ih=>a7 (sU t) (λx=>a7 ih (λl=>some (x::l)) .none) .none) ts
def eJ(x:Nat)(l:List Nat):Bool:=List.rec false (λy _ ih=>aa (Nat.beq x y) true ih) l
def lw(l:List Nat):Bool:=List.rec true (λx r ih=>aa (eJ x r) false ih) l
def Li(e:E):Bool:=match e with|.lst _ _=>true|_=>false
def wD(t v:E):Bool:=
 Option.rec (!Li t) (λts=>Option.rec true (λvs=>aa (vs.any ya) (Option.rec false lw (yz ts)) false) (k6 v)) (k6 t)
def Jp(fr:Fr)(vt:Bool)(es:List E):Sg->R Bool:=
 List.rec (λs=>.ok vt s) (λe _ bP s=>(ih.eT e fr s).bind λb s=>aa (ot b vt) (bP s) (.ok b s)) es
def B6(fr:Fr)(vt:Bool)(es:List E):Sg->R V:=
 List.rec (λ_=>.stuck) (λe r bP s=>List.rec (ih.eE e fr s) (λ_ _ _=>(ih.eE e fr s).bind λv s=>aX (w5 s.H v) λb=>aa (ot b vt) (bP s) (.ok v s)) r) es
def wG(n:Nat)(l:List V):List V:=List.rec (λ_=>[]) (λv _ ih n=>.cons (.int n) (.cons v .nil)::ih (n+1)) l n
def tD(l:List V):List V->List V:=List.rec (λ_=>[]) (λa _ ih m=>List.rec [] (λb q _=>.cons a (.cons b .nil)::ih q) m) l
def glob(fr:Fr)(x:Nat):Option V:=
 Option.rec .none (λk=>aa (Nat.beq k 3) (T.gl x) .none) (au fr.sc x)
def I7(v:V)(s:Sg):R (List V×List (Nat×List V)×Bool):=dG (dj s.H v) (λp=>.ok (p.2,[p],false) s) (aX (cJ v) λxs=>.ok (xs,[],false) s)
def E6(v:V)(s:Sg):R (List V×List (Nat×List V)×Bool):=aX (LC v) λn=>aa (Nat.ble n 4000) (.ok (sd 0 n,[],false) s) .stuck
def FL(v:V)(s:Sg):R (List V×List (Nat×List V)×Bool):=aX (dj s.H v) λp=>.ok (wG 0 p.2,[p],true) s
def yl(v w:V)(s:Sg):R (List V×List (Nat×List V)×Bool):=aX (dj s.H v) λp=>aX (dj s.H w) λq=>.ok (tD p.2 q.2,[p,q],true) s
def Ku(i:E):Option (Nat×List E):=match i with|.call f es _=>a7 (sU f) (λx=>some (x,es)) .none|_=>.none
def JQ(fr:Fr)(i:E):Option (Nat×List E):=a7 (Ku i) (λc=>a7 (glob T fr c.1) (λv=>a7 (dS v) (λk=>some (k,c.2)) .none) .none) .none
def Jj(fr:Fr)(i:E)(s:Sg):R (List V×List (Nat×List V)×Bool):=(ih.eE i fr s).bind λv s=>I7 v s
def yo(fr:Fr)(i:E)(s:Sg):R (List V×List (Nat×List V)×Bool):=
 dG (JQ T fr i) (λb=>aa (Nat.beq b.1 7) (one b.2 λa=>(ih.eE a fr s).bind λv s=>FL v s)
  (aa (Nat.beq b.1 8) (two b.2 λa d=>(ih.eE a fr s).bind λv s=>(ih.eE d fr s).bind λw s=>yl v w s)
  (aa (Nat.beq b.1 6) (one b.2 λa=>(ih.eE a fr s).bind λv s=>E6 v s) (Jj ih fr i s)))) (Jj ih fr i s)
def EF(i:E):Option (E×E×E):=match i with|.ife c a b _=>some (c,a,b)|_=>.none
def rA(fr:Fr)(i:E)(s:Sg):R (List V×List (Nat×List V)×Bool):=
 dG (EF i) (λx=>(ih.eT x.1 fr s).bind λt s=>aa t (yo T ih fr x.2.1 s) (yo T ih fr x.2.2 s)) (yo T ih fr i s)
end
def V.beq(a:V):V->Bool:=
 V.rec isNone (λx b=>Option.rec false (λy=>aa x y (!y)) (k4 b)) (λx b=>Option.rec false (λy=>decide (x=y)) (eM b)) (λx b=>Option.rec false (λy=>seq x y) (cQ b)) zy
  (λ_ _ CW CX b=>Option.rec false (λr=>aa (CW r.1) (CX r.2) false) (wL b)) (λn b=>Option.rec false (λm=>Nat.beq n m) (ci b)) (λ_ _=>false) (λ_ _=>false)
  (λn b=>Option.rec false (λm=>Nat.beq n m) (dS b)) (λ_ _ _=>false) (λn b=>Option.rec false (λm=>Nat.beq n m) (cu b)) a
def tm(a:List V):List V->Bool:=List.rec (λb=>b.isEmpty) (λx _ ih b=>List.rec false (λy q _=>aa (V.beq x y) (ih q) false) b) a
def fi(H:HT)(lk:List (Nat×List V)):Bool:=List.rec true (λp _ ih=>Option.rec false (λo=>Option.rec false (λys=>aa (tm p.2 ys) ih false) (lL o)) (gH H p.1)) lk
section
variable(T:Tb)(ih:Ev)
def AQ(own:Bool)(t:E):Bool:=aa own (Option.rec false (λ_=>true) (k6 t)) true
def qs(it:List V×List (Nat×List V)×Bool)(t:E)(s:Sg):Bool:=aa (AQ it.2.2 t) (fi s.H it.2.1) false
def wh(fr:Fr)(t:E)(body:List S)(lk:List (Nat×List V))(l:List V):Sg->R Fl:=
 List.rec (λs=>.ok .next s) (λv _ bP s=>(assign T ih fr t v s).bind λ_ s=>(execs ih fr body s).bind λf s=>Fl.rec (aa (fi s.H lk) (bP s) .stuck) (λv=>.ok (.ret v) s) f) l
def IL(fr:Fr)(c:List E)(s:Sg):R Bool:=List.rec (.ok true s) (λe r _=>List.rec (ih.eT e fr s) (λ_ _ _=>.stuck) r) c
def push(acc:Nat)(v:V)(s:Sg):R Unit:=
 aX (gH s.H acc) λo=>aX (lL o) λxs=>qS acc (app xs [v]) s
def jX(fr:Fr)(t:E)(c:List E)(emit:Sg->R Unit)(lk:List (Nat×List V))(l:List V):Sg->R Unit:=
 List.rec (λs=>.ok () s) (λv _ bP s=>(assign T ih fr t v s).bind λ_ s=>(IL ih fr c s).bind λb s=>(aa b (emit s) (.ok () s)).bind λ_ s=>aa (fi s.H lk) (bP s) .stuck) l
def jf{α:Type}(r:List (Nat×V))(x:R α):R α:=R.rec (λa s=>.ok a ⟨s.H,r⟩) (λc m v s=>.exc c m v ⟨s.H,r⟩) .stuck x
def xU(fr:Fr):List E->List E->List (List Nat×V)->Sg->R (List (List Nat×V))
 |[],[],acc,s=>.ok acc s
 |k::r,v::q,acc,s=>(ih.eE k fr s).bind λkv s=>(ih.eE v fr s).bind λvv s=>aX (cQ kv) λx=>xU fr r q (nM acc x vv) s
 |_,_,_,_=>.stuck
def AK(T:Tb)(H:HT)(o:V)(a:Nat):Option (Nat×Bool):=
 Option.rec (some (a,false)) (λp=>Option.rec (a7 (T.cls p.2.1) (λcl=>a7 (au cl.meth a) (λk=>some (k,true)) .none) .none) (λ_=>.none) (au p.2.2 a)) (oj H o)
def ET(c:Nat)(vs:List V)(s:Sg):R V:=
 aX (T.cls c) λcl=>(ih.call cl.init (.loc (s.H.n)::vs) ⟨aH s.H (.inst c []),s.r⟩).bind λv s'=>aa (isNone v) (.ok (.loc (s.H.n)) s') .stuck
def xF(f:V)(vs:List V)(s:Sg):R V:=
 V.rec (motive:=λ_=>Tb->Ev->List V->Sg->R V) (λ_ _ _ _=>.stuck) (λ_ _ _ _ _=>.stuck) (λ_ _ _ _ _=>.stuck) (λ_ _ _ _ _=>.stuck) (λ_ _ _ _=>.stuck) (λ_ _ _ _ _ _ _ _=>.stuck) (λ_ _ _ _ _=>.stuck) (λk T ih vs s=>aa (Nat.blt k T.nfn) (ih.call k vs s) .stuck) (λk T ih vs s=>ET T ih k vs s) (λk T ih vs s=>builtin k vs s) (λl fJ T ih vs s=>aX (yf l.ps vs) λbs=>jf s.r ((rt ⟨l.sc,fJ,false⟩ bs ⟨s.H,[]⟩).bind λ_ s1=>ih.eE l.body ⟨l.sc,fJ,false⟩ s1)) (λ_ _ _ _ _=>.stuck) f T ih vs s
def fJ(g:List (Nat×Nat))(sc:List (Nat×Nat)):Option (List (Nat×Nat)):=
 List.rec (some []) (λp _ ih=>aa (Nat.beq p.2 2) (a7 (au g p.1) (λl=>a7 ih (λq=>some ((p.1,l)::q)) .none) .none) ih) sc
def Gn(o:E)(a:Nat)(fr:Fr)(s:Sg):R V:=(ih.eE o fr s).bind λv s=>Mh T v a s
def JN(o i:E)(fr:Fr)(s:Sg):R V:=(ih.eE o fr s).bind λv s=>(ih.eE i fr s).bind λw s=>IZ v w s
def D7(o:E)(lo hi:List E)(fr:Fr)(s:Sg):R V:=(ih.eE o fr s).bind λv s=>(B0 ih fr lo s).bind λa s=>(B0 ih fr hi s).bind λb s=>Ha v a b s
def Lp(op:tR)(l r:E)(fr:Fr)(s:Sg):R V:=(ih.eE l fr s).bind λv s=>(ih.eE r fr s).bind λw s=>sf op v w s
def LX(op:ua)(l r:E)(fr:Fr)(s:Sg):R V:=(ih.eE l fr s).bind λv s=>(ih.eE r fr s).bind λw s=>Gr op v w s
def JV(x:E)(fr:Fr)(s:Sg):R V:=(ih.eE x fr s).bind λv s=>aX (w5 s.H v) λb=>bl (!b) s
def K0(x:E)(fr:Fr)(s:Sg):R V:=(ih.eE x fr s).bind λv s=>aX (eM v) λi=>.ok (.int (-i)) s
def ES(t b o:E)(fr:Fr)(s:Sg):R V:=(ih.eT t fr s).bind λc s=>aa c (ih.eE b fr s) (ih.eE o fr s)
def Gu(es:List E)(fr:Fr)(s:Sg):R V:=(jE ih fr es s).bind λvs s=>nS vs s
def Ea(es:List E)(fr:Fr)(s:Sg):R V:=(jE ih fr es s).bind λvs s=>lz vs s
def K9(ks vs:List E)(fr:Fr)(s:Sg):R V:=aa (Nat.ble (len ks) 15) (aa (Nat.beq (len ks) (len vs)) ((xU ih fr ks vs [] s).bind λbF s=>tu bF s) .stuck) .stuck
def KH(mc:Nat->Option Nat)(o:E)(a:Nat)(es:List E)(fr:Fr)(s:Sg):R V:=
 (ih.eE o fr s).bind λov s=>aX (AK T s.H ov a) λkb=>aa kb.2 (aa (Nat.blt kb.1 T.nfn) ((jE ih fr es s).bind λvs s=>ih.call kb.1 (ov::vs) s) .stuck)
  (aX (mc a) λk=>aa (Aw s.H k ov) ((jE ih fr es s).bind λvs s=>Ja k ov vs s) .stuck)
def D6(f:E)(es:List E)(fr:Fr)(s:Sg):R V:=(ih.eE f fr s).bind λfv s=>(jE ih fr es s).bind λvs s=>xF T ih fv vs s
def vo(elt:E)(n:Nat)(fr:Fr)(s:Sg):R Unit:=(ih.eE elt fr s).bind λv s=>push n v s
def zn(elt t2 i2:E)(n:Nat)(fr:Fr)(s:Sg):R Unit:=
 (rA T ih fr i2 s).bind λCY s=>aa (qs CY t2 s) (jX T ih fr t2 [] (vo ih elt n fr) CY.2.1 CY.1 s) .stuck
def kL(sc:List (Nat×Nat)):Bool:=List.rec true (λp r ih=>aa (Nat.beq p.2 1) false (aa (Nat.ble p.2 3) (Option.rec ih (λk=>aa (Nat.beq k p.2) ih false) (au r p.1)) false)) sc
def xc(ck:Sg->R Unit)(s:Sg):R V:=jf s.r ((ck ⟨aH s.H (.list []),[]⟩).bind λ_ s'=>.ok (.loc (s.H.n)) s')
def comp(t i:E)(c:List E)(sc:List (Nat×Nat))(emit:Nat->Fr->Sg->R Unit)(fr:Fr)(s:Sg):R V:=
 aa (kL sc) (aX (fJ fr.g sc) λg=>(rA T ih fr i s).bind λit s=>
  aa (qs it t s) (xc (λs'=>jX T ih ⟨sc,g,false⟩ t c (emit (s.H.n) ⟨sc,g,false⟩) it.2.1 it.1 s') s) .stuck) .stuck
def vW(elt t i:E)(c:List E)(sc:List (Nat×Nat))(fr:Fr)(s:Sg):R V:=comp T ih t i c sc (λn fr=>vo ih elt n fr) fr s
def wn(elt t i t2 i2:E)(sc:List (Nat×Nat))(fr:Fr)(s:Sg):R V:=comp T ih t i [] sc (λn fr=>zn T ih elt t2 i2 n fr) fr s
def Mx(ps:List (Nat×Nat))(body:E)(sc:List (Nat×Nat))(fr:Fr)(s:Sg):R V:=
 aa fr.lm (aa (kL sc) (aa (Nat.ble (len ps) 1) (aX (fJ fr.g sc) λcs=>.ok (.clo ⟨ps.map (·.1),sc,body⟩ cs) s) .stuck) .stuck) .stuck
def Mc(e:E):Option (E×Nat×Nat):=match e with|.attr o a p=>some (o,a,p)|_=>.none
def sC(mc:Nat->Option Nat)(f:E)(es:List E)(q:Nat)(fr:Fr)(s:Sg):R V:=
 dG (Mc f) (λx=>aa (Nat.beq (aE x.2.2).endLine (aE q).line) (aa (Nat.blt (len es) 30) (KH T ih mc x.1 x.2.1 es fr s) .stuck) .stuck) (D6 T ih f es fr s)
def Ch(mc:Nat->Option Nat)(e:E)(fr:Fr)(s:Sg):R V:=
 E.rec (motive_1:=λ_=>Tb->Ev->(Nat->Option Nat)->Fr->Sg->R V) (motive_2:=λ_=>Tb->Ev->(Nat->Option Nat)->Fr->Sg->R V) (λ_ _ _ _ _ s=>.ok .none s) (λb _ _ _ _ _ s=>.ok (.bool b) s) (λi _ _ _ _ _ s=>.ok (.int (.ofNat i)) s) (λk _ _ _ _ _ s=>.ok (.str k) s) (λx _ T _ _ fr s=>Ll T fr x s) (λo a _ _ T ih _ fr s=>Gn T ih o a fr s) (λo i _ _ _ _ ih _ fr s=>JN ih o i fr s) (λo lo hi _ _ _ _ _ _ ih _ fr s=>D7 ih o lo hi fr s) (λop l r _ _ _ _ ih _ fr s=>Lp ih op l r fr s) (λop l r _ _ _ _ ih _ fr s=>LX ih op l r fr s) (λa es _ _ _ ih _ fr s=>B6 ih fr a es s) (λx _ _ _ ih _ fr s=>JV ih x fr s) (λx _ _ _ ih _ fr s=>K0 ih x fr s) (λt b o _ _ _ _ _ ih _ fr s=>ES ih t b o fr s) (λes _ _ _ ih _ fr s=>Gu ih es fr s) (λes _ _ _ ih _ fr s=>Ea ih es fr s) (λks vs _ _ _ _ ih _ fr s=>K9 ih ks vs fr s) (λf es q _ _ T ih mc fr s=>sC T ih mc f es q fr s) (λelt t i c sc _ _ _ _ _ T ih _ fr s=>vW T ih elt t i c sc fr s) (λelt t i t2 i2 sc _ _ _ _ _ _ T ih _ fr s=>wn T ih elt t i t2 i2 sc fr s) (λps body sc _ _ _ _ _ fr s=>Mx ps body sc fr s) (λ_ _ _ _ _=>.stuck) (λ_ _ _ _ _ _ _ _ _=>.stuck) e T ih mc fr s
def Zs(x:E)(fr:Fr)(s:Sg):R Bool:=(ih.eT x fr s).bind λb s=>.ok (!b) s
def UX(t b o:E)(fr:Fr)(s:Sg):R Bool:=(ih.eT t fr s).bind λc s=>aa c (ih.eT b fr s) (ih.eT o fr s)
def fM(e:E)(fr:Fr)(s:Sg):R Bool:=(ih.eE e fr s).bind λv s=>jA s (w5 s.H v)
def zL(e:E)(fr:Fr)(s:Sg):R Bool:=
 E.rec (motive_1:=λ_=>Ev->E->Fr->Sg->R Bool) (motive_2:=λ_=>Ev->E->Fr->Sg->R Bool) (λ_ ih e fr s=>fM ih e fr s) (λ_ _ ih e fr s=>fM ih e fr s) (λ_ _ ih e fr s=>fM ih e fr s) (λ_ _ ih e fr s=>fM ih e fr s) (λ_ _ ih e fr s=>fM ih e fr s) (λ_ _ _ _ ih e fr s=>fM ih e fr s) (λ_ _ _ _ _ ih e fr s=>fM ih e fr s) (λ_ _ _ _ _ _ _ _ ih e fr s=>fM ih e fr s) (λ_ _ _ _ _ _ ih e fr s=>fM ih e fr s) (λ_ _ _ _ _ _ ih e fr s=>fM ih e fr s) (λa es _ _ ih _ fr s=>Jp ih fr a es s) (λx _ _ ih _ fr s=>Zs ih x fr s) (λ_ _ _ ih e fr s=>fM ih e fr s) (λt b o _ _ _ _ ih _ fr s=>UX ih t b o fr s) (λ_ _ _ ih e fr s=>fM ih e fr s) (λ_ _ _ ih e fr s=>fM ih e fr s) (λ_ _ _ _ _ ih e fr s=>fM ih e fr s) (λ_ _ _ _ _ ih e fr s=>fM ih e fr s) (λ_ _ _ _ _ _ _ _ _ _ ih e fr s=>fM ih e fr s) (λ_ _ _ _ _ _ _ _ _ _ _ _ ih e fr s=>fM ih e fr s) (λ_ _ _ _ _ ih e fr s=>fM ih e fr s) (λ_ _ _ _=>.stuck) (λ_ _ _ _ _ _ _ _=>.stuck) e ih e fr s
def x7(n:Nat)(s:Sg)(x:Nat×R0):R V:=
 aa (Nat.ble x.1 n) (R0.rec (λv H=>.ok v ⟨H,s.r⟩) (λc m v H=>.exc c m v ⟨H,s.r⟩) x.2) .stuck
def body(f:Fn)(g:List (Nat×Nat))(bs:List (Nat×V))(s:Sg):R V:=
 (rt ⟨f.sc,g,f.lm⟩ bs s).bind λ_ s1=>(execs ih ⟨f.sc,g,f.lm⟩ f.body s1).bind λfl s2=>Fl.rec (.ok .none s2) (λv=>.ok v s2) fl
def mS(f:Fn)(vs:List V)(s:Sg):R V:=
 aX (yf f.ps (u4 f.ps f.df vs)) λbs=>jf s.r (body ih f (ew f.cs s.H []).2 bs ⟨(ew f.cs s.H []).1,[]⟩)
def jk(n:Nat)(k:Nat)(vs:List V)(s:Sg):R V:=
 dG (T.O k vs s.H) (x7 n s) (aX (T.fns k) λf=>mS ih f vs s)
def sk(a:Nat)(m v:V):V:=Nat.rec m (λ_ _=>v) a
def za(fr:Fr)(x:Nat):Bool:=Option.rec false (λk=>Nat.beq k 0) (au fr.sc x)
def E9(fr:Fr)(h:Hd)(v:V)(s:Sg):R Fl:=
 aa (za fr h.x) (aa (Nat.ble h.a 1) (aa (hW v) (.ok (.ret (.cons (.str h.tag) (.cons v .nil))) ⟨s.H,s.r.filter λq=> !Nat.beq q.1 h.x⟩) .stuck) .stuck) .stuck
def xW(fr:Fr)(c:Nat)(m v:V):List Hd->Sg->R Fl
 |[],s=>.exc c m v s
 |h::r,s=>aX (glob T fr h.c) λw=>aX (vV w) λd=>aX (T.sub c d) λb=>aa b (E9 fr h (sk h.a m v) s) (xW fr c m v r s)
def we(e:E):Bool:=match e with|.comp .. =>true|.comp2 .. =>true|_=>false
def F5(e:E)(fr:Fr)(s:Sg):R Fl:=aa (we e) .stuck ((ih.eE e fr s).bind λ_ s=>.ok .next s)
def Lk(v:E)(fr:Fr)(s:Sg):R V:=
 aa (we v) (match v with
  |.comp elt t i c sc _=>vW T ih elt t i c sc fr s
  |.comp2 elt t i t2 i2 sc _=>wn T ih elt t i t2 i2 sc fr s
  |_=>.stuck) (ih.eE v fr s)
def BM(t v:E)(fr:Fr)(s:Sg):R Fl:=aa (wD t v) ((Lk T ih v fr s).bind λx s=>(assign T ih fr t x s).bind λ_ s=>.ok .next s) .stuck
def I3(t i:E)(b:List S)(fr:Fr)(s:Sg):R Fl:=(rA T ih fr i s).bind λit s=>aa (qs it t s) (wh T ih fr t b it.2.1 it.1 s) .stuck
def Gv(c:E)(b o:List S)(fr:Fr)(s:Sg):R Fl:=(ih.eT c fr s).bind λt s=>aa t (execs ih fr b s) (execs ih fr o s)
def Fz(e:E)(fr:Fr)(s:Sg):R Fl:=(ih.eE e fr s).bind λv s=>.ok (.ret v) s
def J3(c:Nat)(es:List E)(fr:Fr)(s:Sg):R Fl:=
 aX (glob T fr c) λw=>aX (vV w) λk=>aX (T.sub k k) λb=>aa b ((jE ih fr es s).bind λvs s=>two vs λm v=>.exc k m v s) .stuck
def KK(b:List S)(hs:List Hd)(fr:Fr)(s:Sg):R Fl:=
 aa (Nat.beq (len hs) 0) .stuck (R.rec (λf s=>.ok f s) (λc m v s=>xW T fr c m v hs s) .stuck (execs ih fr b s))
def xJ(e:S)(fr:Fr)(s:Sg):R Fl:=
 S.rec (motive_1:=λ_=>Tb->Ev->Fr->Sg->R Fl) (motive_2:=λ_=>Tb->Ev->Fr->Sg->R Fl) (λe _ _ ih fr s=>F5 ih e fr s) (λt v _ T ih fr s=>BM T ih t v fr s) (λt i b _ _ T ih fr s=>I3 T ih t i b fr s) (λc b _ _ _ ih fr s=>ih.eW c b fr s) (λc b o _ _ _ _ ih fr s=>Gv ih c b o fr s) (λe _ _ ih fr s=>Fz ih e fr s) (λc es _ _ _ T ih fr s=>J3 T ih c es fr s) (λb hs _ _ T ih fr s=>KK T ih b hs fr s) (λ_ _ _ _ s=>.ok .next s) (λ_ _ _ _=>.stuck) (λ_ _ _ _ _ _ _ _=>.stuck) e T ih fr s
def Am(c:E)(b:List S)(fr:Fr)(s:Sg):R Fl:=
 (ih.eT c fr s).bind λt s=>aa t ((execs ih fr b s).bind λf s=>Fl.rec (ih.eW c b fr s) (λv=>.ok (.ret v) s) f) (.ok .next s)
end
def ev(T:Tb)(mc:Nat->Option Nat):Nat->Ev
 |0=>Jk
 |n+1=>⟨jk T (ev T mc n) n,Ch T (ev T mc n) mc,zL (ev T mc n),xJ T (ev T mc n),Am (ev T mc n)⟩
end
section
open PySem PySem.W PyProof.Rows
theorem fK{α:Type}(x y:α):aa true x y=x:=rfl
theorem cV{α:Type}(x y:α):aa false x y=y:=rfl
theorem rD{α:Type}(b:Bool)(x y:α):aa b x y=if b=true then x else y:=by cases b<;>rfl
theorem ns{α:Type}{a:α}{P:Prop}(h:none=some a):P:=nomatch h
theorem sn{α:Type}{a:α}{P:Prop}(h:some a=none):P:=nomatch h
theorem ft{P:Prop}(h:false=true):P:=nomatch h
theorem tf{P:Prop}(h:true=false):P:=nomatch h
theorem cg{α:Type}{o:Option α}{a:α}{P:Prop}(h:o=some a)(k:o=none):P:=sn (h.symm.trans k)
theorem bz{α:Type}{o:Option α}{a b:α}(h:o=some a)(k:o=some b):a=b:=af (h.symm.trans k)
def kd(k:Nat):NameKind:=match k with|0=>.local|1=>.cell|2=>.free|_=>.globalImplicit
def aW(l:List Nat):Str:=⟨l.toArray⟩
def dW(nm:Nat->Str)(l:List (Nat×Nat)):Scope:={kind:=.function,names:=l.map λp=>(nm p.1,kd p.2),isGenerator:=false,isCoroutine:=false,more:=[]}
def KC:tR->Operator
 |.add=>.Add|.sub=>.Sub|.mul=>.Mult|.fdiv=>.FloorDiv|.mod=>.Mod|.pow=>.Pow
def KJ:ua->CmpOp
 |.eq=>.Eq|.ne=>.NotEq|.is=>.Is|.isNot=>.IsNot|.isin=>.In|.notIn=>.NotIn|.lt=>.Lt|.gt=>.Gt|.ge=>.GtE|.le=>.LtE
section
variable(nm:Nat->Str)
mutual
def an:E->Expr
 |.none p=>.Constant .none 0 (aE p)
 |.bool b p=>.Constant (.bool b) 0 (aE p)
 |.int i p=>.Constant (.int (.ofNat i)) 0 (aE p)
 |.str cs p=>.Constant (.str (aW cs)) 0 (aE p)
 |.name x p=>.Name (nm x) (aE p)
 |.attr o a p=>.Attribute (an o) (nm a) (aE p)
 |.sub o i p=>.Subscript (an o) (an i) (aE p)
 |.slice o lo hi p q=>.Subscript (an o) (.Slice (Bd lo) (Bd hi) none (aE q)) (aE p)
 |.bin op l r p=>.BinOp (an l) (KC op) (an r) (aE p)
 |.cmp op l r p=>.Compare (an l) [KJ op] [an r] (aE p)
 |.bop a es p=>.BoolOp (if a then .And else .Or) (bC es) (aE p)
 |.not x p=>.UnaryOp .Not (an x) (aE p)
 |.neg x p=>.UnaryOp .USub (an x) (aE p)
 |.ife t b o p=>.IfExp (an t) (an b) (an o) (aE p)
 |.tup es p=>.Tuple (bC es) 0 (aE p)
 |.lst es p=>.List (bC es) (aE p)
 |.dct ks vs p=>.Dict (vj ks) (bC vs) (aE p)
 |.call f es p=>.Call (an f) (bC es) [] (aE p)
 |.comp elt t i c sc p=>.ListComp (an elt) [⟨an t,an i,bC c,0⟩] (dW nm sc) (aE p)
 |.comp2 elt t i t2 i2 sc p=>.ListComp (an elt) [⟨an t,an i,[],0⟩,⟨an t2,an i2,[],0⟩] (dW nm sc) (aE p)
 |.lam ps body sc p=>.Lambda ⟨[],ps.map λq=>⟨nm q.1,none,aE q.2⟩,none,[],[],none,[]⟩ (an body) (dW nm sc) (aE p)
def bC:List E->List Expr
 |[]=>[]
 |e::r=>an e::bC r
def vj:List E->List (Option Expr)
 |[]=>[]
 |e::r=>some (an e)::vj r
def Bd:List E->Option Expr
 |[]=>none
 |e::_=>some (an e)
end
def Ei(h:Hd):ExceptHandler:=
 .ExceptHandler (some (.Name (nm h.c) (aE h.pc))) (some (nm h.x))
  [.Return (some (.Tuple [.Constant (.str (aW h.tag)) 0 (aE h.ps),.Attribute (.Name (nm h.x) (aE h.px)) (nm h.a) (aE h.pa)] 0 (aE h.pt))) (aE h.pr)] (aE h.ph)
mutual
def cS:S->Stmt
 |.expr e p=>.Expr (an nm e) (aE p)
 |.assign t v p=>.Assign [an nm t] (an nm v) (aE p)
 |.forS t i b p=>.For (an nm t) (an nm i) (cU b) [] (aE p)
 |.while c b p=>.While (an nm c) (cU b) [] (aE p)
 |.ifS c b o p=>.If (an nm c) (cU b) (cU o) (aE p)
 |.ret e p=>.Return (some (an nm e)) (aE p)
 |.raise c es pn pc p=>.Raise (some (.Call (.Name (nm c) (aE pn)) (bC nm es) [] (aE pc))) none (aE p)
 |.tryS b hs p=>.Try (cU b) (hs.map (Ei nm)) [] [] (aE p)
 |.pass p=>.Pass (aE p)
def cU:List S->List Stmt
 |[]=>[]
 |s::r=>cS s::cU r
end
end
abbrev Mu:=List (Addr×Addr)
structure Cx where
 prog:Program
 w:World
 base:Heap
 T:Tb
 mc:Nat->Option Nat
 nm:Nat->Str
 fnA:Nat->Addr
 clA:Nat->Addr
 biV:Nat->Value
 tabs:List (Addr×Addr)
 tq:Addr->Str
 ρ:Nat->V
 seg:Nat->List V
 ρe:∀i H,eH H 20 (ρ i) (ρ i)=some true
 ρd:∀i j,wM i j=true->i≠j->∃a b,ρ i=.str a/\ρ j=.str b/\seq a b=false
 ρt:∀i,Nat.ble 64 i=true->Nat.blt i 128=true->b9 (ρ i)=true
 ρz:∀i,Nat.ble 6000 i=true->Nat.blt i 7000=true->∃d:Int,ρ i=.int d/\ρ (i+1000)=.bool (decide (d=0))
abbrev Cx.M(c:Cx):Model:=model c.prog c.w
def own(μ:Mu)(b:Addr):Prop:=∃p∈μ,b=p.1\/b=p.2
structure NC(c:Cx)(μ:Mu)(h:Heap)(a:Addr)(l:Lm)(fJ:List (Nat×Nat))(o:Obj)(fd:FuncData):Prop where
 c1:h.get? a=some o
 c2:o.cls=.type "function"
 c3:o.data=.func fd
 c4:kL l.sc=true
 c5:fd.body=.expr (an c.nm l.body)
 c6:fd.scope=dW c.nm l.sc
 c7:fd.globals=mainGlobals
 c8:fd.builtins=builtinsNs
 c9:h.CodeRec fd.code fd.qualname
 c10:∀x n,au fJ x=some n->∃p,aj μ n=some p/\fd.closure.lookup (c.nm x)=some p.1
 c11:∃args:List Arg,fd.params=⟨[],args,none,[],[],none,[]⟩/\args.map (·.arg)=l.ps.map c.nm
 c12:fd.defaults=.none
 c13:(l.ps.map c.nm).Nodup
structure nh(c:Cx)(μ:Mu)(h:Heap)(a:Addr)(l:Lm)(fJ:List (Nat×Nat)):Prop where
 ex:∃o fd,NC c μ h a l fJ o fd
def Lv(X:Addr->Prop)(h:Heap)(a:Addr):Prop:=¬X a/\∃o,h.get? a=some o/\o.dict=none
structure iG(X:Addr->Prop)(h:Heap)(P:List Value->Prop)(x:Value):Prop where
 ex:∃a its,x=.ref a/\h.IsTuple a its/\Lv X h a/\P its.toList
def jS(P:Value->Prop)(Q:List Value->Prop)(l:List Value):Prop:=∃y ys,l=y::ys/\P y/\Q ys
def PV(X:Addr->Prop)(h:Heap):V->(Value->Prop)×(List Value->Prop)
 |.none=>(λx=>x=.none,λ_=>False)
 |.bool b=>(λx=>x=.bool b,λ_=>False)
 |.int i=>(λx=>∃t,x=.int i t,λ_=>False)
 |.str s=>(λx=>∃t,x=.str (aW s) t,λ_=>False)
 |.nil=>(iG X h λl=>l=[],λl=>l=[])
 |.cons p q=>(iG X h (jS (PV X h p).1 (PV X h q).2),jS (PV X h p).1 (PV X h q).2)
 |_=>(λ_=>False,λ_=>False)
section
variable(c:Cx)(X:Addr->Prop)(μ:Mu)(h:Heap)
def RV:V->(Value->Prop)×(List Value->Prop)
 |.none=>(λx=>x=.none,λ_=>False)
 |.bool b=>(λx=>x=.bool b,λ_=>False)
 |.int i=>(λx=>∃t,x=.int i t,λ_=>False)
 |.str s=>(λx=>∃t,x=.str (aW s) t,λ_=>False)
 |.nil=>(iG X h λl=>l=[],λl=>l=[])
 |.cons p q=>(iG X h (jS (RV p).1 (RV q).2),jS (RV p).1 (RV q).2)
 |.loc n=>(λx=>∃p,aj μ n=some p/\x=.ref p.1,λ_=>False)
 |.fn k=>(λx=>x=.ref (c.fnA k),λ_=>False)
 |.cls k=>(λx=>x=.ref (c.clA k),λ_=>False)
 |.bi k=>(λx=>x=c.biV k,λ_=>False)
 |.clo l fJ=>(λx=>∃a,x=.ref a/\nh c μ h a l fJ,λ_=>False)
 |.atom n=>(λx=>(PV X h (c.ρ n)).1 x,λ_=>False)
def ad(v:V)(x:Value):Prop:=(RV c X μ h v).1 x
def jh(v:V)(l:List Value):Prop:=(RV c X μ h v).2 l
end
inductive ay{α β:Type}(P:α->β->Prop):List α->List β->Prop
 |nil:ay P [] []
 |cons {a b r q}:P a b->ay P r q->ay P (a::r) (b::q)
namespace ay
variable{α β:Type}{P Q:α->β->Prop}
theorem mono(k:∀a b,P a b->Q a b){l:List α}{m:List β}(x:ay P l m):ay Q l m:=by induction x with|nil=>exact .nil|cons p _ ih=>exact .cons (k _ _ p) ih
theorem length{l:List α}{m:List β}(x:ay P l m):m.length=l.length:=by induction x with|nil=>rfl|cons _ _ ih=>exact aq (· +1) ih
theorem append{l:List α}{m:List β}{l':List α}{m':List β}(x:ay P l m)(y:ay P l' m'):ay P (l++l') (m++m'):=by induction x with|nil=>exact y|cons p _ ih=>exact .cons p ih
theorem get{l:List α}{m:List β}(x:ay P l m):∀(i:Nat) (a:α),l[i]?=some a->∃b,m[i]?=some b/\P a b:=by
 induction x with
 |nil=>exact λi a h=>ns h
 |cons p _ ih=>exact λi a=>Nat.casesOn i (λh=>⟨_,rfl,af h▸p⟩) λi h=>ih i a h
theorem get'{l:List α}{m:List β}(x:ay P l m):∀(i:Nat) (b:β),m[i]?=some b->∃a,l[i]?=some a/\P a b:=by
 induction x with
 |nil=>exact λi a h=>ns h
 |cons p _ ih=>exact λi a=>Nat.casesOn i (λh=>⟨_,rfl,af h▸p⟩) λi h=>ih i a h
theorem set{l:List α}{m:List β}(x:ay P l m):∀(i:Nat) (a:α) (b:β),P a b->ay P (l.set i a) (m.set i b):=by
 induction x with
 |nil=>exact λ_ _ _ _=>.nil
 |cons p r ih=>exact λi a b h=>Nat.casesOn i (.cons h r) λi=>.cons p (ih i a b h)
theorem drop{l:List α}{m:List β}(x:ay P l m):∀(i:Nat),ay P (l.drop i) (m.drop i):=by
 induction x with
 |nil=>exact λi=>Nat.casesOn i .nil λ_=>.nil
 |cons p r ih=>exact λi=>Nat.casesOn i (.cons p r) λi=>ih i
theorem take{l:List α}{m:List β}(x:ay P l m):∀(i:Nat),ay P (l.take i) (m.take i):=by
 induction x with
 |nil=>exact λi=>Nat.casesOn i .nil λ_=>.nil
 |cons p r ih=>exact λi=>Nat.casesOn i .nil λi=>.cons p (ih i)
end ay
theorem cq{α:Type}(a b:List α):app a b=a++b:=by induction a with|nil=>rfl|cons x r ih=>exact aq (x:: ·) ih
theorem bH{α:Type}(a:List α):len a=a.length:=by induction a with|nil=>rfl|cons x r ih=>exact aq (· +1) ih
theorem de{α:Type}:∀(l:List α) (n:Nat),aj l n=l[n]?
 |[],_=>rfl
 |x::r,0=>rfl
 |x::r,n+1=>by rw[List.getElem?_cons_succ,← de r n];rfl
theorem FA{α:Type}:∀(l:List α) (n:Nat) (y:α),qF l n y=l.set n y
 |[],_,_=>rfl
 |x::r,0,y=>rfl
 |x::r,n+1,y=>by rw[List.set_cons_succ,← FA r n y];rfl
theorem IT:∀(ps:List Nat) (vs:List V),Ie ps vs=ps.zip vs
 |[],_=>rfl
 |_::_,[]=>rfl
 |p::r,v::q=>aq ((p,v):: ·) (IT r q)
theorem xq{α:Type}:∀(n:Nat) (l:List α),nl n l=l.drop n
 |0,_=>rfl
 |_+1,[]=>rfl
 |n+1,_::q=>xq n q
theorem BF{α:Type}:∀(n:Nat) (l:List α),iR n l=l.take n
 |0,_=>rfl
 |_+1,[]=>rfl
 |n+1,x::q=>aq (x:: ·) (BF n q)
theorem vn{α:Type}(xs:List α)(a b:Nat):cut xs a b=(xs.drop a).take (b-a):=(BF _ _).trans (aq _ (xq a xs))
theorem YS(ps:List Nat)(df vs:List V):u4 ps df vs=vs++df.drop (vs.length-(ps.length-df.length)):=by
 cases df with
 |nil=>exact(by rw[List.drop_nil,List.append_nil]:vs++List.drop _ []=vs).symm
 |cons d r=>exact(cq _ _).trans (by rw[xq,bH,bH,bH];rfl)
theorem js(o:aF)(l r:BH)(i:Nat):iK (.nd o l r) i=if i=0 then some o else if i%2=1 then iK l (i/2) else iK r (i/2-1):=by
 show aa (Nat.beq i 0) (some o) (aa (Nat.beq (i%2) 1) (iK l (i/2)) (iK r (i/2-1)))=_
 rw[rD,rD];simp only[Nat.beq_eq]
theorem P1(y o:aF)(l r:BH)(i:Nat):pe y (.nd o l r) i=if i=0 then .nd y l r else if i%2=1 then .nd o (pe y l (i/2)) r else .nd o l (pe y r (i/2-1)):=by
 show aa (Nat.beq i 0) _ (aa (Nat.beq (i%2) 1) (BH.nd o (pe y l (i/2)) r) (BH.nd o l (pe y r (i/2-1))))=_
 rw[rD,rD];simp only[Nat.beq_eq]
theorem N3(y o:aF)(l r:BH)(i:Nat):oQ y (.nd o l r) i=if i=0 then .nd y l r else if i%2=1 then .nd o (oQ y l (i/2)) r else .nd o l (oQ y r (i/2-1)):=by
 show aa (Nat.beq i 0) _ (aa (Nat.beq (i%2) 1) (BH.nd o (oQ y l (i/2)) r) (BH.nd o l (oQ y r (i/2-1))))=_
 rw[rD,rD];simp only[Nat.beq_eq]
theorem u8{i j:Nat}(h:i/2=j/2)(k:i%2=j%2):i=j:=by rw[← Nat.div_add_mod i 2,← Nat.div_add_mod j 2,h,k]
theorem Kr{i:Nat}(h:i≠0)(k:¬i%2=1):0<i/2:=by omega
theorem Eu{i j:Nat}(hi:i≠0)(hj:j≠0)(ki:¬i%2=1)(kj:¬j%2=1)(h:i/2-1=j/2-1):i=j:=
 have a:=Kr hi ki
 have b:=Kr hj kj
 u8 (by rw[← Nat.sub_add_cancel a,h,Nat.sub_add_cancel b]) (((Nat.mod_two_eq_zero_or_one i).resolve_right ki).trans ((Nat.mod_two_eq_zero_or_one j).resolve_right kj).symm)
theorem BE{n:Nat}(h:0<n)(k:¬n%2=1):n/2-1=(n-1)/2:=by omega
theorem Zg(y:aF)(t:BH):∀(i j:Nat),iK (pe y t i) j=if j=i then(iK t i).map λ_=>y else iK t j:=by
 induction t with
 |lf=>exact λi j=>by split<;>rfl
 |nd o l r fR bP=>
  intro i j
  rw[P1,js o l r i,js o l r j]
  by_cases hi:i=0
  · subst hi;rw[aG rfl,aG rfl,js];by_cases hj:j=0<;>simp[hj]
  · rw[ax hi,ax hi]
    by_cases h2:i%2=1
    · rw[aG h2,aG h2,js]
      by_cases hj:j=0
      · rw[aG hj,aG hj,ax (λe=>hi (e.symm.trans hj))]
      · rw[ax hj,ax hj]
        by_cases dA:j%2=1
        · rw[aG dA,aG dA,fR];by_cases e:j=i
          · rw[aG e,aG (by rw[e])]
          · rw[ax e,ax (λq=>e (u8 q (dA.trans h2.symm)))]
        · rw[ax dA,ax dA,ax (λe:j=i=>dA (e▸h2))]
    · rw[ax h2,ax h2,js]
      by_cases hj:j=0
      · rw[aG hj,aG hj,ax (λe=>hi (e.symm.trans hj))]
      · rw[ax hj,ax hj]
        by_cases dA:j%2=1
        · rw[aG dA,aG dA,ax (λe:j=i=>h2 (e▸dA))]
        · rw[ax dA,ax dA,bP];by_cases e:j=i
          · rw[aG e,aG (by rw[e])]
          · rw[ax e,ax (λq=>e (Eu hj hi dA h2 q))]
def BW(t:BH)(n:Nat):Prop:=∀i,(iK t i).isSome=true↔i<n
theorem BW.lf{n:Nat}(h:BW .lf n):n=0:=Nat.eq_zero_of_not_pos λp=>ft ((h 0).mpr p)
theorem BW.nd{o:aF}{l r:BH}{n:Nat}(h:BW (.nd o l r) n):0<n/\BW l (n/2)/\BW r ((n-1)/2):=by
 refine⟨(h 0).mp (by rw[js];rfl),λi=>?_,λi=>?_⟩
 · have:=h (2*i+1)
   rw[js,ax (Nat.succ_ne_zero _),aG (Nat.mul_add_mod 2 i 1),show(2*i+1)/2=i by clear this h;omega] at this
   rw[this];clear this h;omega
 · have:=h (2*i+2)
   rw[js,ax (Nat.succ_ne_zero _),ax (by clear this h;omega),show(2*i+2)/2-1=i by clear this h;omega] at this
   rw[this];clear this h;omega
theorem U4(y:aF)(t:BH):∀{n:Nat},BW t n->∀j,iK (oQ y t n) j=if j=n then some y else iK t j:=by
 induction t with
 |lf=>
  intro n h j
  rw[h.lf]
  show iK (.nd y .lf .lf) j=_
  rw[js]
  split
  · rfl
  · split<;>rfl
 |nd o l r fR bP=>
  intro n h j
  have w:=h.nd
  rw[N3,ax (Nat.ne_of_gt w.1),js o l r j]
  by_cases h2:n%2=1
  · rw[aG h2,js]
    by_cases hj:j=0
    · rw[aG hj,aG hj,ax λe=>Nat.ne_of_gt w.1 (e.symm.trans hj)]
    · rw[ax hj,ax hj]
      by_cases dA:j%2=1
      · rw[aG dA,aG dA,fR w.2.1];by_cases e:j=n
        · rw[aG e,aG (by rw[e])]
        · rw[ax e,ax (λq=>e (u8 q (dA.trans h2.symm)))]
      · rw[ax dA,ax dA,ax (λe:j=n=>dA (e▸h2))]
  · rw[ax h2,js]
    by_cases hj:j=0
    · rw[aG hj,aG hj,ax λe=>Nat.ne_of_gt w.1 (e.symm.trans hj)]
    · rw[ax hj,ax hj]
      by_cases dA:j%2=1
      · rw[aG dA,aG dA,ax (λe:j=n=>h2 (e▸dA))]
      · rw[ax dA,ax dA,BE w.1 h2,bP w.2.2];by_cases e:j=n
        · rw[aG e,aG (by rw[e];exact BE w.1 h2)]
        · rw[ax e,ax (λq=>e (Eu hj (Nat.ne_of_gt w.1) dA h2 (q.trans (BE w.1 h2).symm)))]
def HW(H:HT):Prop:=BW H.t H.n
theorem HW.lt{H:HT}(w:HW H){i:Nat}{o:aF}(e:gH H i=some o):i<H.n:=(w i).mp (by show(gH H i).isSome=true;rw[e];rfl)
theorem HW.some{H:HT}(w:HW H){i:Nat}(h:i<H.n):∃o,gH H i=.some o:=Option.isSome_iff_exists.mp ((w i).mpr h)
theorem qB(H:HT)(i:Nat)(o:aF)(j:Nat):gH (pH H i o) j=if j=i then(gH H i).map λ_=>o else gH H j:=Zg o H.t i j
theorem HW.put{H:HT}(w:HW H)(i:Nat)(o:aF):HW (pH H i o):=λj=>by
 show(gH (pH H i o) j).isSome=true↔j<H.n
 rw[qB]
 by_cases e:j=i
 · rw[aG e,Option.isSome_map,e];exact w i
 · rw[ax e];exact w j
theorem HW.aget{H:HT}(w:HW H)(o:aF)(j:Nat):gH (aH H o) j=if j=H.n then .some o else gH H j:=U4 o H.t w j
theorem HW.add{H:HT}(w:HW H)(o:aF):HW (aH H o):=λj=>by
 show(gH (aH H o) j).isSome=true↔j<H.n+1
 rw[w.aget]
 by_cases e:j=H.n
 · rw[aG e,e];exact⟨λ_=>Nat.lt_succ_self _,λ_=>rfl⟩
 · rw[ax e];exact(w j).trans ⟨λh=>Nat.lt_succ_of_lt h,λh=>Nat.lt_of_le_of_ne (Nat.le_of_lt_succ h) e⟩
theorem HW.old{H:HT}(w:HW H){o o':aF}{j:Nat}(e:gH H j=.some o'):gH (aH H o) j=.some o':=by rw[w.aget,ax (Nat.ne_of_lt (w.lt e))];exact e
theorem qO:HW hE:=λi=>⟨λh=>ft h,λh=>aV h (Nat.not_lt_zero i)⟩
theorem gy{α:Type}{l:List α}:fU l=true↔l.length<=4000:=by
 unfold fU;rw[bH,Nat.ble_eq]
theorem gs{n:Nat}(h:n<=4000):n<=sizeLine:=by rw[sizeLine_eq];omega
theorem dy{α:Type}(k:Nat)(v:α)(r:List (Nat×α))(x:Nat):au ((k,v)::r) x=if k=x then some v else au r x:=by
 show aa (Nat.beq k x) _ _=_
 by_cases h:k=x
 · subst h;simp[Nat.beq_refl,fK]
 · have:Nat.beq k x=false:=by cases e:Nat.beq k x with|false=>rfl|true=>exact aV (Nat.eq_of_beq_eq_true e) h
   rw[this,ax h];rfl
theorem bx{a b:Nat}:Nat.beq a b=true↔a=b:=⟨Nat.eq_of_beq_eq_true,λh=>h▸Nat.beq_refl a⟩
theorem dY{a b:Nat}:Nat.beq a b=false↔a≠b:=by
 rw[← Bool.not_eq_true,bx]
theorem pA{α:Type}(l:List (Nat×α))(x:Nat)(v:α)(y:Nat):au (kR l x v) y=if x=y then some v else au l y:=by
 induction l with
 |nil=>exact dy x v [] y
 |cons p r ih=>
  obtain⟨k,w⟩:=p
  show au (aa (Nat.beq k x) ((x,v)::r) ((k,w)::kR r x v)) y=_
  by_cases h:k=x
  · subst h
    rw[Nat.beq_refl,fK,dy,dy]
    by_cases hy:k=y<;>simp[hy]
  · rw[dY.mpr h,cV,dy,dy,ih]
    by_cases hk:k=y
    · subst hk;rw[aG rfl,ax (λe=>h e.symm)];simp
    · rw[ax hk,ax hk]
theorem fj:∀{a b:List Nat},seq a b=true↔a=b
 |[],[]=>by simp[seq]
 |[],_::_=>by simp[seq]
 |_::_,[]=>by simp[seq]
 |x::r,y::q=>by
  show aa (Nat.beq x y) (seq r q) false=true↔_
  by_cases h:x=y
  · subst h;rw[Nat.beq_refl,fK,fj];simp
  · rw[dY.mpr h];simp[h,cV]
theorem kW{a b:List Nat}(h:aW a=aW b):a=b:=by
 unfold aW at h
 have:=aq (λs:Str=>s.cps.toList) h
 simpa using this
section
variable{c:Cx}{X X':Addr->Prop}{μ av:Mu}{h h':Heap}
theorem Xn(v:V):∀{l:List Value},jh c X μ h v l↔b9 v=true/\ay (ad c X μ h) (gC v) l:=by
 induction v with
 |nil=>exact⟨λe=>⟨rfl,(e)▸.nil⟩,λx=>by cases x.2;rfl⟩
 |cons p q _ ih=>exact⟨λ⟨_,_,e,h1,h2⟩=>⟨(ih.mp h2).1,e▸.cons h1 (ih.mp h2).2⟩,λx=>by cases x.2 with|cons h1 h2=>exact⟨_,_,rfl,h1,ih.mpr ⟨x.1,h2⟩⟩⟩
 |_=>exact⟨False.elim,λx=>ft x.1⟩
theorem iw{v:V}(ht:b9 v=true){x:Value}:ad c X μ h v x↔∃a its,x=.ref a/\h.IsTuple a its/\Lv X h a/\ay (ad c X μ h) (gC v) its.toList:=by
 have k:iG X h (jh c X μ h v) x↔_:=⟨λr=>r.ex,iG.mk⟩
 have e:ad c X μ h v x↔iG X h (jh c X μ h v) x:=by cases v<;>first|exact Iff.rfl|exact ft ht
 exact(e.trans k).trans (fN λ_=>fN λ_=>cO (cO (cO ((Xn v).trans (and_iff_right ht)))))
theorem uy(l:List V):b9 (wg l)=true:=by induction l with|nil=>rfl|cons x r ih=>exact ih
theorem vd(l:List V):gC (wg l)=l:=by induction l with|nil=>rfl|cons x r ih=>exact aq (x:: ·) ih
def ce(μ av:Mu):Prop:=∀n p,aj μ n=some p->aj av n=some p
theorem ce.refl(μ:Mu):ce μ μ:=λ_ _ e=>e
theorem ce.trans{ao a9 jw:Mu}(a:ce ao a9)(b:ce a9 jw):ce ao jw:=λn p e=>b n p (a n p e)
theorem ce.app(μ:Mu)(l:Mu):ce μ (μ++l):=λn p e=>by
 rw[de] at e ⊢
 rw[List.getElem?_append_left (List.getElem?_eq_some_iff.mp e).1];exact e
structure di(X X':Addr->Prop)(h h':Heap):Prop where
 tup:∀a its,h.IsTuple a its->Lv X h a->h'.IsTuple a its/\Lv X' h' a
 fn:∀a o fd,h.get? a=some o->o.cls=.type "function" ->o.data=.func fd->∃o',h'.get? a=some o'/\o'.cls=o.cls/\o'.data=o.data
 code:∀cd q,h.CodeRec cd q->h'.CodeRec cd q
theorem nh.mono{a:Addr}{l:Lm}{fJ:List (Nat×Nat)}(x:nh c μ h a l fJ)(s:di X X' h h')(e:ce μ av):nh c av h' a l fJ:=
 x.ex.elim λo x=>x.elim λfd x=>(s.fn a o fd x.c1 x.c2 x.c3).elim λo' g=>
  ⟨o',fd,g.1,g.2.1.trans x.c2,g.2.2.trans x.c3,x.c4,x.c5,x.c6,x.c7,x.c8,s.code _ _ x.c9,λy n hy=>(x.c10 y n hy).imp λ_ q=>⟨e _ _ q.1,q.2⟩,x.c11,x.c12,x.c13⟩
theorem iG.mono{P P':List Value->Prop}{x:Value}(r:iG X h P x)(s:di X X' h h')(k:∀l,P l->P' l):iG X' h' P' x:=
 ⟨r.ex.imp λ_=>bg λ_ q=>⟨q.1,(s.tup _ _ q.2.1 q.2.2.1).1,(s.tup _ _ q.2.1 q.2.2.1).2,k _ q.2.2.2⟩⟩
theorem jS.mono{P P':Value->Prop}{Q Q':List Value->Prop}{l:List Value}(r:jS P Q l)(k:∀y,P y->P' y)(k':∀l,Q l->Q' l):jS P' Q' l:=
 r.imp λ_=>bg λ_ q=>⟨q.1,k _ q.2.1,k' _ q.2.2⟩
theorem ZY(s:di X X' h h')(v:V):(∀x,(PV X h v).1 x->(PV X' h' v).1 x)/\(∀l,(PV X h v).2 l->(PV X' h' v).2 l):=by
 induction v with
 |nil=>exact⟨λ_ x=>x.mono s λ_ q=>q,λ_ x=>x⟩
 |cons p q hp hq=>exact⟨λ_ x=>x.mono s λ_ y=>y.mono hp.1 hq.2,λ_ y=>y.mono hp.1 hq.2⟩
 |_=>exact⟨λ_ x=>x,λ_ x=>x⟩
theorem xt(v:V):(∀x,(PV X h v).1 x->ad c X μ h v x)/\(∀l,(PV X h v).2 l->jh c X μ h v l):=by
 induction v with
 |cons p q hp hq=>exact⟨λ_ x=>⟨x.ex.imp λ_=>bg λ_ y=>⟨y.1,y.2.1,y.2.2.1,y.2.2.2.mono hp.1 hq.2⟩⟩,λ_ y=>y.mono hp.1 hq.2⟩
 |none|bool|int|str|nil=>exact⟨λ_ x=>x,λ_ x=>x⟩
 |_=>exact⟨λ_ x=>x.elim,λ_ x=>x.elim⟩
theorem Uv(s:di X X' h h')(e:ce μ av)(v:V):(∀x,ad c X μ h v x->ad c X' av h' v x)/\(∀l,jh c X μ h v l->jh c X' av h' v l):=by
 induction v with
 |nil=>exact⟨λ_ x=>x.mono s λ_ q=>q,λ_ x=>x⟩
 |cons p q hp hq=>exact⟨λ_ x=>x.mono s λ_ y=>y.mono hp.1 hq.2,λ_ y=>y.mono hp.1 hq.2⟩
 |loc=>exact⟨λ_ x=>x.imp λ_ q=>⟨e _ _ q.1,q.2⟩,λ_ x=>x⟩
 |clo=>exact⟨λ_ x=>x.imp λ_ q=>⟨q.1,q.2.mono s e⟩,λ_ x=>x⟩
 |atom n=>exact⟨(ZY s (c.ρ n)).1,λ_ x=>x⟩
 |_=>exact⟨λ_ x=>x,λ_ x=>x⟩
theorem ad.mono{v:V}{x:Value}(r:ad c X μ h v x)(s:di X X' h h')(e:ce μ av):ad c X' av h' v x:=(Uv s e v).1 x r
end
def mi(o:Obj):Prop:=∃vs,o.data=.fields vs/\(∀q t,vs[1]?≠some (.str q t))/\(o.cls=.type "traceback" \/(∃a,o.cls=.ref a)\/o.cls=.none)
def gm(o:Obj):Prop:=(∃es n,o.data=.dict es n)\/(o.cls=.type "list" /\∃xs n,o.data=.seq xs n)\/o.data=.plain\/∃v,o.data=.cell v
def fq(h h':Heap):Prop:=∀b o,h.get? b=some o->∃o',h'.get? b=some o'
theorem fq.refl(h:Heap):fq h h:=λ_ o e=>⟨o,e⟩
theorem fq.trans{h₁ bh cD:Heap}(a:fq h₁ bh)(b:fq bh cD):fq h₁ cD:=λx o e=>let⟨o',e'⟩:=a x o e;b x o' e'
theorem fq.none{h h':Heap}(a:fq h h'){b:Addr}(e:h'.get? b=none):h.get? b=none:=by
 cases q:h.get? b with
 |none=>rfl
 |some o=>obtain⟨o',z⟩:=a b o q;rw[e] at z;(first|with_reducible exact ns z|with_reducible exact sn z|with_reducible exact ft z|with_reducible exact tf z|(replace z:=af z;first|subst z|cases z)|cases z)
def iM(P:Addr->Prop)(Fs:List Addr)(h h':Heap):Prop:=
 fq h h'/\∀b o,h.get? b=some o->¬P b->¬mi o->(h'.get? b=some o\/(b∈Fs/\∃sl,h'.get? b=some {o with slots:=sl}))
def aY(S:Addr->Prop)(h h':Heap):Prop:=fq h h'/\∀b o,h.get? b=some o->¬S b->h'.get? b=some o
theorem aY.of{S:Addr->Prop}(k:∀b o,h.get? b=some o->h'.get? b=some o):aY S h h':=⟨λb o e=>⟨o,k b o e⟩,λb o e _=>k b o e⟩
theorem aY.at{S:Addr->Prop}{h h':Heap}(k:∀b o,h.get? b=some o->¬S b->h'.get? b=some o)(l:∀b,S b->∃o,h'.get? b=some o):aY S h h':=
 ⟨λb o e=>(Classical.em (S b)).elim (l b) λn=>⟨o,k b o e n⟩,k⟩
theorem aY.refl(S:Addr->Prop)(h:Heap):aY S h h:=⟨.refl _,λ_ _ e _=>e⟩
theorem aY.trans{S:Addr->Prop}{h₁ bh cD:Heap}(a:aY S h₁ bh)(b:aY S bh cD):aY S h₁ cD:=⟨a.1.trans b.1,λx o e n=>b.2 x o (a.2 x o e n) n⟩
theorem aY.mono{S T:Addr->Prop}(a:aY S h h')(k:∀b o,h.get? b=some o->S b->T b):aY T h h':=⟨a.1,λb o e n=>a.2 b o e λs=>n (k b o e s)⟩
theorem aY.push(S:Addr->Prop)(h:Heap)(o:Obj):aY S h (h.push o):=.of λ_ _ e=>d7 _ e
theorem aY.same(x:Heap.SameBut a h h')(e:h'.get? a=some o):aY (· =a) h h':=.at (λb o e n=>(x.2 b n).trans e) λb q=>⟨o,q▸e⟩
theorem aY.keepX{S:Addr->Prop}(x:aY S h h')(Fs:List Addr):iM S Fs h h':=⟨x.1,λb o e n _=>.inl (x.2 b o e n)⟩
theorem iM.refl(P:Addr->Prop)(Fs:List Addr)(h:Heap):iM P Fs h h:=⟨.refl _,λ_ _ e _ _=>.inl e⟩
theorem iM.mono{P Q:Addr->Prop}(a:iM P Fs h h')(k:∀b o,h.get? b=some o->P b->Q b)(f:∀b o,h.get? b=some o->b∈Fs->b∈Gs):iM Q Gs h h':=
 ⟨a.1,λb o e n v=>by
  rcases a.2 b o e (λp=>n (k b o e p)) v with q|⟨hf,r⟩
  · exact .inl q
  · exact .inr ⟨f b o e hf,r⟩⟩
theorem x5{P:Addr->Prop}(a:iM P Fs h h')(e:h.get? t=some o)(n:¬P t)(v:¬mi o):∃sl,h'.get? t=some {o with slots:=sl}:=
 (a.2 t o e n v).elim (λq=>⟨o.slots,q⟩) λq=>q.2
theorem BJ(m:gm o){P:Prop}(h1:∀es n,o.data≠.dict es n)(h2:o.cls=.type "list" ->∀xs n,o.data≠.seq xs n)(h3:o.data≠.plain)(h4:∀v,o.data≠.cell v):P:=
 m.elim (λ⟨_,_,q⟩=>aV q (h1 _ _)) λm=>m.elim (λ⟨q,_,_,q'⟩=>aV q' (h2 q _ _)) λm=>m.elim (λq=>aV q h3) λ⟨_,q⟩=>aV q (h4 _)
theorem zE(hc:o.cls=.type "tuple")(hd:o.data=.seq its n):¬gm o:=λm=>BJ m (λ_ _ q=>nomatch hd.symm.trans q) (λq=>aV (hc.symm.trans q) (by decide)) (λq=>nomatch hd.symm.trans q) λ_ q=>nomatch hd.symm.trans q
theorem JT(hd:o.data=.func fd):¬gm o:=λm=>BJ m (λ_ _ q=>nomatch hd.symm.trans q) (λ_ _ _ q=>nomatch hd.symm.trans q) (λq=>nomatch hd.symm.trans q) λ_ q=>nomatch hd.symm.trans q
theorem mJ(hd:o.data=.fields vs):¬gm o:=λm=>BJ m (λ_ _ q=>nomatch hd.symm.trans q) (λ_ _ _ q=>nomatch hd.symm.trans q) (λq=>nomatch hd.symm.trans q) λ_ q=>nomatch hd.symm.trans q
theorem iM.stays{X X':Addr->Prop}{P:Addr->Prop}(a:iM P Fs h h')(m:∀b o,h.get? b=some o->P b->gm o)
 (hX:∀b o,h.get? b=some o->X' b->X b):di X X' h h' where
 tup:=λt its x hn=>x.elim λo x=>x.2.2.elim λn hd=>
  (x5 a x.1 (λp=>zE x.2.1 hd (m t o x.1 p)) λq=>nomatch hd.symm.trans q.choose_spec.1).elim λsl q=>
   ⟨⟨_,q,x.2.1,n,hd⟩,λy=>hn.1 (hX t o x.1 y),_,q,hn.2.elim λo' e=>(bz x.1 e.1).symm▸e.2⟩
 fn:=λt o fd ho hc hd=>
  (x5 a ho (λp=>JT hd (m t o ho p)) λq=>nomatch hd.symm.trans q.choose_spec.1).elim λsl q=>⟨_,q,rfl,rfl⟩
 code:=λcd q=>bg λt=>λx=>x.elim λo x=>x.elim λvs x=>x.elim λtk x=>
  (x5 a x.2.1 (λp=>mJ x.2.2.1 (m t o x.2.1 p)) λz=>z.elim λws z=>z.2.1 _ _ ((Data.fields.inj (x.2.2.1.symm.trans z.1))▸x.2.2.2)).elim λsl q=>⟨_,vs,tk,x.1,q,x.2.2⟩
def RO(c:Cx)(X:Addr->Prop)(μ:Mu)(h:Heap)(p:Addr×Addr):aF->Prop
 |.list xs=>p.2=p.1/\∃its,h.PlainList p.1 its/\ay (ad c X μ h) xs its.toList/\its.size<=4000
 |.dict bF=>p.2=p.1/\(p.1==sysModules)=false/\∃l,h.DictOf (strKind c.prog c.w) p.1 l/\ay (λa b=>b.1=aW a.1/\ad c X μ h a.2 b.2) bF l/\l.length<=4000
 |.inst k as=>h.get? p.1=some (instObj (c.clA k) p.2)/\∃m,h.Ns1 p.2 m/\(∀x v,au as x=some v->∃y,m (c.nm x)=some y/\ad c X μ h v y)/\(∀n y,m n=some y->∃x v,au as x=some v/\n=c.nm x)
 |.opq j=>p.2=p.1/\∃its,h.PlainList p.1 its/\ay (ad c X μ h) (c.seg j) its.toList/\its.size<=4000
 |.cell v=>p.2=p.1/\∃y,h.IsCell p.1 y/\(match v,y with|.none,none=>True|some v,some y=>ad c X μ h v y|_,_=>False)
 |.dead=>(∃ob,h.get? p.1=some ob/\gm ob)/\∃ob,h.get? p.2=some ob/\gm ob
def FF(base:Heap)(l:List Env)(h:Heap):Prop:=∀e∈l,e.scope.kind≠.module/\∃L o,e.frame=some L/\base.get? L=none/\h.get? L=some o/\∀vs,o.data≠.fields vs
theorem FF.funFrames:∀{l:List Env},FF base l h->h.FunFrames base l
 |[],_=>trivial
 |e::r,x=>⟨(x e (.head _)).1,(x e (.head _)).2,FF.funFrames λe' he=>x e' (.tail _ he)⟩
inductive eQ(h:Heap)(nm:Str):List Value->Prop
 |nil:eQ h nm []
 |cons (l k:Int) (a:Addr) (r:List Value):h.CodeRec (.ref a) nm->eQ h nm r->eQ h nm (rawInt l::rawInt k::.ref a::r)
def uz(nm:Str)(h:Heap)(q:Addr×Addr):Prop:=CodeHd h q.1 q.2/\∃ps,h.get? q.2=some (tabObj ps)/\eQ h nm ps.toList
theorem eQ.keep{l:List Value}(x:eQ h nm l)(k:∀a,h.CodeRec (.ref a) nm->h'.CodeRec (.ref a) nm):eQ h' nm l:=by
 induction x with
 |nil=>exact .nil
 |cons l j a r h1 _ ih=>exact .cons l j a r (k a h1) ih
def frs(l:List Env):List Addr:=l.filterMap (·.frame)
structure PK(μ:Mu)(H:HT):Prop where
 n:μ.length=H.n
 w:HW H
structure Ok(c:Cx)(X:Addr->Prop)(A:Around)(env:Env)(fr:Fr)(μ:Mu)(σ:Sg)(s:Shared):Prop where
 len:PK μ σ.H
 obj:∀n o,gH σ.H n=some o->∃p,aj μ n=some p/\RO c X μ s.heap p o
 apart:∀i j p q,aj μ i=some p->aj μ j=some q->i≠j->p.1≠q.1/\p.1≠q.2/\p.2≠q.1/\p.2≠q.2
 new:∀b,own μ b->c.base.get? b=none/\¬X b
 ns:∃m,s.heap.Ns env.locals m/\∀x v,au σ.r x=some v->∃y,m (c.nm x)=some y/\ad c X μ s.heap v y
 lout:¬own μ env.locals/\c.base.get? env.locals=none/\¬X env.locals
 cells:∀x l,au fr.g x=some l->∃p,aj μ l=some p/\env.cells.lookup (c.nm x)=some p.1
 stays:c.base.StaysIn s.heap
 frs:∃l,A.frames=some l/\FF c.base l s.heap/\∀b∈frs l,¬own μ b/\¬X b
 tabs:∀q∈c.tabs,uz (c.tq q.1) s.heap q
 xlt:∀b,X b->(∃o,s.heap.get? b=some o)/\c.base.get? b=none
section
variable{c:Cx}{X:Addr->Prop}{A:Around}{env:Env}{fr:Fr}{μ av:Mu}{σ:Sg}{s s':Shared}{h h':Heap}
theorem RO.at1(x:RO c X μ h p o):∃ob,h.get? p.1=some ob/\gm ob:=by
 cases o with
 |list xs=>obtain⟨_,its,⟨n,a⟩,_⟩:=x;exact⟨_,a,.inr (.inl ⟨rfl,_,_,rfl⟩)⟩
 |opq j=>obtain⟨_,its,⟨n,a⟩,_⟩:=x;exact⟨_,a,.inr (.inl ⟨rfl,_,_,rfl⟩)⟩
 |dead=>exact x.1
 |dict bF=>obtain⟨_,_,l,⟨ob,es,ep,a,b,d,_⟩,_⟩:=x;exact⟨ob,a,.inl ⟨_,_,d⟩⟩
 |inst k as=>exact⟨_,x.1,.inr (.inr (.inl rfl))⟩
 |cell v=>obtain⟨_,y,⟨ob,a,d⟩,_⟩:=x;exact⟨ob,a,.inr (.inr (.inr ⟨_,d⟩))⟩
theorem RO.at2(x:RO c X μ h p o):∃ob,h.get? p.2=some ob/\gm ob:=by
 cases o with
 |list xs=>exact x.1▸RO.at1 (o:=.list xs) x
 |opq j=>exact x.1▸RO.at1 (o:=.opq j) x
 |dead=>exact x.2
 |dict bF=>exact x.1▸RO.at1 (o:=.dict bF) x
 |inst k as=>exact x.2.elim λm y=>y.1.elim λob y=>y.elim λes y=>y.elim λep y=>⟨ob,y.1,.inl ⟨_,_,y.2.1⟩⟩
 |cell v=>exact x.1▸RO.at1 (o:=.cell v) x
theorem Cd{K:Type}[DecidableEq K]{knd:KeyKind prog w K}{l:List (K×Value)}(x:h.DictOf knd a l)(k:∀ob,h.get? a=some ob->h'.get? a=some ob):h'.DictOf knd a l:=
 x.imp λob=>bg λes=>bg λep y=>⟨k ob y.1,y.2⟩
theorem SN(x:h.Ns1 a m)(k:∀ob,h.get? a=some ob->h'.get? a=some ob):h'.Ns1 a m:=
 x.imp λob=>bg λes=>bg λep y=>⟨k ob y.1,y.2⟩
theorem BG{X':Addr->Prop}(x:ay (ad c X μ h) xs l)(t:di X X' h h')(e:ce μ av):ay (ad c X' av h') xs l:=x.mono λ_ _ r=>r.mono t e
theorem RO.keep{X':Addr->Prop}(x:RO c X μ h p o)(k1:∀ob,h.get? p.1=some ob->h'.get? p.1=some ob)(k2:∀ob,h.get? p.2=some ob->h'.get? p.2=some ob)
 (t:di X X' h h')(e:ce μ av):RO c X' av h' p o:=by
 cases o with
 |list xs=>exact⟨x.1,x.2.imp λits y=>⟨y.1.imp λn a=>k1 _ a,BG y.2.1 t e,y.2.2⟩⟩
 |opq j=>exact⟨x.1,x.2.imp λits y=>⟨y.1.imp λn a=>k1 _ a,BG y.2.1 t e,y.2.2⟩⟩
 |dead=>exact⟨x.1.imp λob y=>⟨k1 _ y.1,y.2⟩,x.2.imp λob y=>⟨k2 _ y.1,y.2⟩⟩
 |dict bF=>exact⟨x.1,x.2.1,x.2.2.imp λl y=>⟨Cd y.1 k1,y.2.1.mono λ_ _ q=>⟨q.1,q.2.mono t e⟩,y.2.2⟩⟩
 |inst k as=>exact⟨k1 _ x.1,x.2.imp λm y=>⟨SN y.1 k2,λx v hx=>(y.2.1 x v hx).imp λ_ q=>⟨q.1,q.2.mono t e⟩,y.2.2⟩⟩
 |cell v=>
  refine⟨x.1,x.2.imp λy z=>⟨z.1.imp λob q=>⟨k1 _ q.1,q.2⟩,?_⟩⟩
  have z:=z.2
  cases v<;>cases y<;>first|exact z|exact z.elim|exact ad.mono z t e
theorem i7{α:Type}{l:List α}{a:α}(e:aj l n=some a):n<l.length:=by rw[de] at e;exact(List.getElem?_eq_some_iff.mp e).1
theorem vc{α:Type}{l:List α}{n:Nat}(e:n<l.length):∃a,aj l n=some a:=⟨l[n],by rw[de];simp[e]⟩
theorem na{α:Type}{l:List α}{n:Nat}{a:α}(e:aj l n=some a):a∈l:=by rw[de] at e;exact List.mem_of_getElem? e
theorem Ia{α:Type}{l:List α}{a:α}(e:a∈l):∃n,aj l n=some a:=by
 obtain⟨n,h⟩:=List.mem_iff_getElem?.mp e;exact⟨n,by rw[de];exact h⟩
theorem dR{b:Addr}:own μ b↔∃n p,aj μ n=some p/\(b=p.1\/b=p.2):=
 ⟨λ⟨p,hp,e⟩=>let⟨n,hn⟩:=Ia hp;⟨n,p,hn,e⟩,λ⟨_,p,hn,e⟩=>⟨p,na hn,e⟩⟩
theorem Ok.own_mut(x:Ok c X A env fr μ σ s){b:Addr}(hb:own μ b):∃o,s.heap.get? b=some o/\gm o:=
 (dR.mp hb).elim λn hb=>hb.elim λp hb=>(x.len.w.some (x.len.n▸i7 hb.1)).elim λo ho=>(x.obj n o ho).elim λp' r=>
  have e:=bz r.1 hb.1
  hb.2.elim (λw=>w.symm▸e▸r.2.at1) λw=>w.symm▸e▸r.2.at2
theorem Ok.loc_mut(x:Ok c X A env fr μ σ s):∃o,s.heap.get? env.locals=some o/\gm o:=
 x.ns.elim λm y=>y.1.imp λo y=>y.elim λes y=>y.elim λep y=>⟨y.1,.inl ⟨_,_,y.2.1⟩⟩
def lI(μ:Mu)(env:Env)(b:Addr):Prop:=own μ b\/b=env.locals
theorem Ok.mut(x:Ok c X A env fr μ σ s)(b:Addr)(o:Obj)(e:s.heap.get? b=some o)(p:lI μ env b):gm o:=
 p.elim (λp=>(x.own_mut p).elim λo' h=>bz h.1 e▸h.2) λp=>x.loc_mut.elim λo' h=>bz h.1 (p▸e)▸h.2
theorem zV(x:uz nm h q)(k:∀b o,h.get? b=some o->¬gm o->h'.get? b=some o):uz nm h' q:=
 ⟨x.1.imp λo=>bg λvs=>bg λfile=>bg λtf=>bg λflags=>bg λtg=>bg λrL=>bg λtext=>bg λtt y=>⟨k _ _ y.1 (mJ y.2.2.1),y.2⟩,
  x.2.imp λps y=>⟨k _ _ y.1 (mJ rfl),y.2.keep λa=>bg λt=>bg λo=>bg λvs=>bg λtk z=>⟨z.1,k _ _ z.2.1 (mJ z.2.2.1),z.2.2⟩⟩⟩
theorem Ok.stays_of(x:Ok c X A env fr μ σ s){S:Addr->Prop}(k:aY S s.heap h')(hS:∀b o,s.heap.get? b=some o->S b->lI μ env b):di X X s.heap h':=
 (k.keepX []).stays (λb o e p=>x.mut b o e (hS b o e p)) λ_ _ _ p=>p
theorem Ok.base_of(x:Ok c X A env fr μ σ s){S:Addr->Prop}(k:aY S s.heap h')(hS:∀b o,s.heap.get? b=some o->S b->lI μ env b):c.base.StaysIn h':=λb o e=>
 k.2 b o (x.stays b o e) λp=>(hS b o (x.stays b o e) p).elim (λq=>cg e (x.new b q).1) λq=>cg e (q▸x.lout.2.1)
theorem Ok.tabs_of(x:Ok c X A env fr μ σ s){S:Addr->Prop}(k:aY S s.heap h')(hS:∀b o,s.heap.get? b=some o->S b->lI μ env b):∀q∈c.tabs,uz (c.tq q.1) h' q:=λq hq=>
 zV (x.tabs q hq) λb o e n=>k.2 b o e λp=>n (x.mut b o e (hS b o e p))
end
def Fs(A:Around):List Addr:=match A.frames with|some l=>frs l|none=>[]
structure aK(A:Around)(env:Env)(μ av:Mu)(s s':Shared):Prop where
 ext:ce μ av
 fresh:∀b,own av b->own μ b\/s.heap.get? b=none
 keep:iM (lI μ env) (Fs A) s.heap s'.heap
 gens:s'.gens=s.gens
 os:s'.os=s.os
theorem aK.refl:aK A env μ μ s s:=⟨.refl _,λ_ h=>.inl h,.refl _ _ _,rfl,rfl⟩
theorem aK.trans{A:Around}{env:Env}{ao a9 jw:Mu}{s₁ aB dq:Shared}(a:aK A env ao a9 s₁ aB)(b:aK A env a9 jw aB dq):aK A env ao jw s₁ dq where
 ext:=a.ext.trans b.ext
 fresh:=λx h=>by
  rcases b.fresh x h with h|h
  · exact a.fresh x h
  · exact .inr (a.keep.1.none h)
 keep:=⟨a.keep.1.trans b.keep.1,λx o e n v=>by
  have n2:¬lI a9 env x:=λq=>by
   rcases q with q|q
   · rcases a.fresh x q with q|q
     · exact n (.inl q)
     · rw[q] at e;(first|with_reducible exact ns e|with_reducible exact sn e|with_reducible exact ft e|with_reducible exact tf e|(replace e:=af e;first|subst e|cases e)|cases e)
   · exact n (.inr q)
  rcases a.keep.2 x o e n v with q|⟨hf,sl,q⟩
  · exact b.keep.2 x o q n2 v
  · rcases b.keep.2 x _ q n2 v with q'|⟨_,CZ,q'⟩
    · exact .inr ⟨hf,sl,q'⟩
    · exact .inr ⟨hf,CZ,q'⟩⟩
 gens:=b.gens.trans a.gens
 os:=b.os.trans a.os
theorem aK.tok{A:Around}{env:Env}{μ av:Mu}{s s':Shared}(a:aK A env μ av s s')(t:Tok):aK A env μ av s {s' with toks:=t}:=⟨a.ext,a.fresh,a.keep,a.gens,a.os⟩
section
variable{c:Cx}{X:Addr->Prop}{A:Around}{env:Env}{fr:Fr}{μ av:Mu}{σ:Sg}{s s':Shared}{h h':Heap}
theorem Ok.tok(x:Ok c X A env fr μ σ s)(t:Tok):Ok c X A env fr μ σ {s with toks:=t}:=⟨x.len,x.obj,x.apart,x.new,x.ns,x.lout,x.cells,x.stays,x.frs,x.tabs,x.xlt⟩
theorem Ok.alive(x:Ok c X A env fr μ σ s)(hb:lI μ env b):∃o,s.heap.get? b=some o:=by
 rcases hb with hb|rfl
 · obtain⟨o,e,_⟩:=x.own_mut hb;exact⟨o,e⟩
 · obtain⟨o,e,_⟩:=x.loc_mut;exact⟨o,e⟩
theorem kS(hl:A.frames=some l):b∈Fs A↔b∈frs l:=by unfold Fs;rw[hl]
theorem FF.at{base:Heap}{l:List Env}(x:FF base l h){b:Addr}(hb:b∈frs l):∃o,h.get? b=some o/\∀vs,o.data≠.fields vs:=
 (List.mem_filterMap.mp hb).elim λe he=>(x e he.1).2.elim λL z=>z.elim λo z=>have e:=bz z.1 he.2;⟨o,e▸z.2.2.1,z.2.2.2⟩
theorem FF.keep(x:FF base l h)(k:∀b∈frs l,∀o,h.get? b=some o->(∀vs,o.data≠.fields vs)->∃o',h'.get? b=some o'/\∀vs,o'.data≠.fields vs):FF base l h':=
 λe he=>⟨(x e he).1,(x e he).2.elim λL z=>⟨L,z.elim λo z=>(k L (List.mem_filterMap.mpr ⟨e,he,z.1⟩) o z.2.2.1 z.2.2.2).elim λo' q=>⟨o',z.1,z.2.1,q⟩⟩⟩
theorem nu{X':Addr->Prop}(x:∃m,h.Ns L m/\∀y v,au r y=some v->∃z,m (c.nm y)=some z/\ad c X μ h v z)(k:∀m,h.Ns L m->h'.Ns L m)(t:di X X' h h')(e:ce μ av):
 ∃m,h'.Ns L m/\∀y v,au r y=some v->∃z,m (c.nm y)=some z/\ad c X' av h' v z:=
 x.imp λm y=>⟨k m y.1,λu v hu=>(y.2 u v hu).imp λ_ q=>⟨q.1,q.2.mono t e⟩⟩
theorem Ok.frame_alive(x:Ok c X A env fr μ σ s)(hb:b∈Fs A):∃o,s.heap.get? b=some o:=
 x.frs.elim λl y=>(y.2.1.at ((kS y.1).mp hb)).imp λ_ q=>q.1
theorem Ok.add(x:Ok c X A env fr μ σ s)(k:aY (λ_=>False) s.heap s'.heap):Ok c X A env fr μ σ s':=
 have st:=x.stays_of k λ_ _ _ f=>f.elim
 have kk:=λb o e=>k.2 b o e id
 ⟨x.len,λn o e=>(x.obj n o e).imp λp q=>⟨q.1,q.2.keep (λ_=>kk _ _) (λ_=>kk _ _) st (.refl _)⟩,x.apart,x.new,nu x.ns (λm a=>a.keeps kk) st (.refl _),x.lout,x.cells,x.base_of k λ_ _ _ f=>f.elim,
  x.frs.imp λl y=>⟨y.1,y.2.1.keep λb _ o e n=>⟨o,kk b o e,n⟩,y.2.2⟩,x.tabs_of k λ_ _ _ f=>f.elim,λb hb=>⟨(x.xlt b hb).1.elim λo e=>k.1 b o e,(x.xlt b hb).2⟩⟩
theorem aK.add(k:aY (λ_=>False) s.heap s'.heap)(hg:s'.gens=s.gens)(ho:s'.os=s.os):aK A env μ μ s s':=
 ⟨.refl _,λ_ q=>.inl q,(k.keepX _).mono (λ_ _ _ f=>f.elim) λ_ _ _ q=>q,hg,ho⟩
theorem Ok.put(x:Ok c X A env fr μ σ s)(hp:aj μ n=some p)(k:aY (λb=>b=p.1\/b=p.2) s.heap s'.heap)(r:RO c X μ s'.heap p o):
 Ok c X A env fr μ (Mine.put n o σ) s':=
 have ow:=λb e=>dR.mpr ⟨n,p,hp,e⟩
 have hS:=λb _ _ e=>.inl (ow b e)
 have st:=x.stays_of k hS
 have kk:∀b o,s.heap.get? b=some o->¬own μ b->s'.heap.get? b=some o:=λb o e q=>k.2 b o e λz=>q (ow b z)
 ⟨⟨x.len.n,x.len.w.put n o⟩,λi oi e=>by
  have e:gH (pH σ.H n o) i=some oi:=e
  rw[qB] at e
  by_cases hi:i=n
  · rw[aG hi] at e
    exact⟨p,hi▸hp,(Option.map_eq_some_iff.mp e).elim λ_ w=>w.2▸r⟩
  · rw[ax hi] at e
    exact(x.obj i oi e).imp λq y=>⟨y.1,y.2.keep (λob z=>k.2 _ _ z λw=>w.elim (λw=>(x.apart i n q p y.1 hp hi).1 w) λw=>(x.apart i n q p y.1 hp hi).2.1 w)
     (λob z=>k.2 _ _ z λw=>w.elim (λw=>(x.apart i n q p y.1 hp hi).2.2.1 w) λw=>(x.apart i n q p y.1 hp hi).2.2.2 w) st (.refl _)⟩,
  x.apart,x.new,nu x.ns (λm a=>a.at' λo e=>kk _ _ e x.lout.1) st (.refl _),x.lout,x.cells,x.base_of k hS,x.frs.imp λl y=>⟨y.1,y.2.1.keep λb hb o e n=>⟨o,kk b o e (y.2.2 b hb).1,n⟩,y.2.2⟩,
  x.tabs_of k hS,λb hb=>⟨(x.xlt b hb).1.elim λo e=>k.1 b o e,(x.xlt b hb).2⟩⟩
theorem aK.put(hp:aj μ n=some p)(k:aY (λb=>b=p.1\/b=p.2) s.heap s'.heap)(hg:s'.gens=s.gens)(ho:s'.os=s.os):aK A env μ μ s s':=
 ⟨.refl _,λ_ q=>.inl q,(k.keepX _).mono (λb _ _ e=>.inl (dR.mpr ⟨n,p,hp,e⟩)) λ_ _ _ q=>q,hg,ho⟩
theorem mz:own (μ++[p]) b↔own μ b\/b=p.1\/b=p.2:=by
 unfold own
 constructor
 · rintro⟨q,hq,e⟩
   rcases List.mem_append.mp hq with hq|hq
   · exact .inl ⟨q,hq,e⟩
   · rw[List.mem_singleton.mp hq] at e;exact .inr e
 · rintro (⟨q,hq,e⟩|e)
   · exact⟨q,List.mem_append_left _ hq,e⟩
   · exact⟨p,List.mem_append_right _ (.head _),e⟩
theorem qr{α:Type}{l:List α}{y a:α}(e:aj (l++[y]) n=some a):(n<l.length/\aj l n=some a)\/(n=l.length/\a=y):=by
 rw[de] at e
 by_cases hn:n<l.length
 · rw[List.getElem?_append_left hn] at e;exact .inl ⟨hn,by rw[de];exact e⟩
 · have hle:=(List.getElem?_eq_some_iff.mp e).1
   rw[List.length_append,List.length_singleton] at hle
   have:n=l.length:=by omega
   subst this
   rw[List.getElem?_append_right (Nat.le_refl _),Nat.sub_self] at e
   (first|with_reducible exact ns e|with_reducible exact sn e|with_reducible exact ft e|with_reducible exact tf e|(replace e:=af e;first|subst e|cases e)|cases e);exact .inr ⟨rfl,rfl⟩
theorem CO{α:Type}(l:List α)(y:α):aj (l++[y]) l.length=some y:=by rw[de,List.getElem?_append_right (Nat.le_refl _),Nat.sub_self];rfl
theorem Ok.fresh(x:Ok c X A env fr μ σ s)(hb:s.heap.get? b=none):c.base.get? b=none/\¬X b:=
 ⟨Option.eq_none_iff_forall_ne_some.mpr λo q=>cg (x.stays b o q) hb,λq=>(x.xlt b q).1.elim λo e=>cg e hb⟩
theorem ic(l1:∃o,h.get? a=some o)(l2:h.get? b=none):a≠b:=λe=>l1.elim λo l1=>cg l1 (e▸l2)
theorem Ok.new1(x:Ok c X A env fr μ σ s){p:Addr×Addr}{o:aF}(k:aY (λ_=>False) s.heap s'.heap)(h1:s.heap.get? p.1=none)(h2:s.heap.get? p.2=none)
 (r:RO c X (μ++[p]) s'.heap p o):Ok c X A env fr (μ++[p]) ⟨aH σ.H o,σ.r⟩ s':=
 have y:=x.add (s':=s') k
 have e:=ce.app μ [p]
 have st:=(iM.refl (λ_=>False) [] _).stays (λ_ _ _ f=>f.elim) λ_ _ _ q=>q
 have a1:∀{n q},aj μ n=some q->∃o,s.heap.get? q.1=some o:=λhq=>x.alive (.inl (dR.mpr ⟨_,_,hq,.inl rfl⟩))
 have a2:∀{n q},aj μ n=some q->∃o,s.heap.get? q.2=some o:=λhq=>x.alive (.inl (dR.mpr ⟨_,_,hq,.inr rfl⟩))
 have no:∀b o,s.heap.get? b=some o->¬own μ b->¬own (μ++[p]) b:=λb o l n q=>(mz.mp q).elim n λq=>q.elim (λq=>cg l (q▸h1)) λq=>cg l (q▸h2)
 ⟨⟨by rw[List.length_append,x.len.n];rfl,x.len.w.add o⟩,
  λn oi hn=>by
   have hn:=hn
   rw[x.len.w.aget] at hn
   by_cases hi:n=σ.H.n
   · rw[aG hi] at hn;exact⟨p,by rw[hi,← x.len.n];exact CO _ _,af hn▸r⟩
   · rw[ax hi] at hn;exact(y.obj n oi hn).imp λq z=>⟨e _ _ z.1,z.2.keep (λ_ z=>z) (λ_ z=>z) st e⟩,
  λi j a b hi hj vu=>(qr hi).elim (λw=>(qr hj).elim (λv=>x.apart i j a b w.2 v.2 vu) λv=>v.2.symm▸⟨ic (a1 w.2) h1,ic (a1 w.2) h2,ic (a2 w.2) h1,ic (a2 w.2) h2⟩)
   λw=>(qr hj).elim (λv=>w.2.symm▸⟨(ic (a1 v.2) h1).symm,(ic (a2 v.2) h1).symm,(ic (a1 v.2) h2).symm,(ic (a2 v.2) h2).symm⟩) λv=>aV (w.1.trans v.1.symm) vu,
  λb hb=>(mz.mp hb).elim (x.new b) λq=>q.elim (λq=>q.symm▸x.fresh h1) λq=>q.symm▸x.fresh h2,
  nu y.ns (λm a=>a) st e,⟨(x.alive (.inr rfl:lI μ env env.locals)).elim λo l=>no _ o l x.lout.1,x.lout.2⟩,λn l hl=>(x.cells n l hl).imp λq z=>⟨e _ _ z.1,z.2⟩,y.stays,
  y.frs.imp λl z=>⟨z.1,z.2.1,λb hb=>⟨(x.frame_alive ((kS z.1).mpr hb)).elim λo q=>no b o q (z.2.2 b hb).1,(z.2.2 b hb).2⟩⟩,y.tabs,y.xlt⟩
theorem aK.new1(k:aY (λ_=>False) s.heap s'.heap)(h1:s.heap.get? p.1=none)(h2:s.heap.get? p.2=none)(hg:s'.gens=s.gens)(ho:s'.os=s.os):aK A env μ (μ++[p]) s s':=
 ⟨ce.app _ _,λb q=>(mz.mp q).imp id λe=>e.elim (λe=>e▸h1) (λe=>e▸h2),(k.keepX _).mono (λ_ _ _ f=>f.elim) λ_ _ _ q=>q,hg,ho⟩
theorem Ok.last(x:Ok c X A env fr μ σ s)(p:Addr×Addr):aj (μ++[p]) σ.H.n=some p:=x.len.n▸CO μ p
theorem Ok.locs(x:Ok c X A env fr μ σ s)(k:aY (· =env.locals) s.heap s'.heap)
 (hn:∃m,s'.heap.Ns env.locals m/\∀y v,au r' y=some v->∃z,m (c.nm y)=some z/\ad c X μ s.heap v z):Ok c X A env fr μ ⟨σ.H,r'⟩ s':=
 have hS:=λb _ _ e=>.inr e
 have st:=x.stays_of k hS
 ⟨x.len,λi oi e=>(x.obj i oi e).imp λq y=>⟨y.1,y.2.keep (λob z=>k.2 _ _ z λw=>x.lout.1 (w▸dR.mpr ⟨i,q,y.1,.inl rfl⟩)) (λob z=>k.2 _ _ z λw=>x.lout.1 (w▸dR.mpr ⟨i,q,y.1,.inr rfl⟩)) st (.refl _)⟩,
  x.apart,x.new,hn.imp λm y=>⟨y.1,λu v hu=>(y.2 u v hu).imp λ_ q=>⟨q.1,q.2.mono st (.refl _)⟩⟩,x.lout,x.cells,x.base_of k hS,
  x.frs.imp λl y=>⟨y.1,y.2.1.keep λb hb o e n=>(Classical.em (b=env.locals)).elim (λw=>hn.elim λm z=>z.1.elim λo' z=>z.elim λes z=>z.elim λep z=>⟨o',w.symm▸z.1,λvs q=>nomatch z.2.1.symm.trans q⟩) λw=>⟨o,k.2 b o e w,n⟩,y.2.2⟩,
  x.tabs_of k hS,λb hb=>⟨(x.xlt b hb).1.elim λo e=>k.1 b o e,(x.xlt b hb).2⟩⟩
theorem aK.locs(k:aY (· =env.locals) s.heap s'.heap)(hg:s'.gens=s.gens)(ho:s'.os=s.os):aK A env μ μ s s':=
 ⟨.refl _,λ_ q=>.inl q,(k.keepX _).mono (λb _ _ e=>.inr e) λ_ _ _ q=>q,hg,ho⟩
end
def ie:Nat->Value
 |0=>.builtin "len" |1=>.builtin "max" |2=>.type "int" |3=>.type "str" |4=>.type "tuple" |5=>.type "list" |6=>.type "range" |7=>.type "enumerate" |8=>.type "zip"
 |9=>.builtin "all" |10=>.type "dict" |11=>.builtin "sum" |12=>.builtin "sorted" |13=>.builtin "isinstance" |_=>.none
def dm(sc:List (Nat×Nat)):List Nat:=(sc.filter λp=>p.2==1).map (·.1)
def names(c:Cx)(sc:List (Nat×Nat)):List (Str×NameKind):=sc.map λp=>(c.nm p.1,kd p.2)
structure Y8(c:Cx)(k:Nat)(f:Fn)(o:Obj)(fd:FuncData)(args:List Arg)(j8:List Expr)(od:Option (Array Value)):Prop where
 f1:c.base.get? (c.fnA k)=some o
 f2:o.data=.func fd
 f3:fd.body=.stmts (cU c.nm f.body)
 f4:fd.scope.names=names c f.sc
 f5:fd.scope.kind=.function
 f6:fd.scope.isGenerator=false
 f7:fd.scope.isCoroutine=false
 f8:fd.globals=mainGlobals
 f9:fd.builtins=builtinsNs
 f10:fd.closure=[]
 f11:c.base.CodeRec fd.code fd.qualname
 f12:fd.params=⟨[],args,none,[],[],none,j8⟩
 f13:args.map (·.arg)=f.ps.map c.nm
 f14:∀M A E (s:Shared) (Q:Option (Array Value)->Shared->Prop),c.base.StaysIn s.heap->Q od s->wpAny M A (seqItems? fd.defaults) Q E s
 f15:∀X μ h,(∀b,X b->c.base.get? b=none)->c.base.StaysIn h->ay (ad c X μ h) f.df (od.getD #[]).toList
 f16:f.lm=true->∃cd P,fd.code=.ref cd/\(cd,P)∈c.tabs/\fd.qualname++ ".<locals>." ++ "<lambda>" =c.tq cd
structure CU(c:Cx)(k:Nat)(f:Fn):Prop where
 ex:∃o fd args j8 od,Y8 c k f o fd args j8 od
 nd:f.ps.Nodup
 le:f.df.length<=f.ps.length
 cs:f.cs=dm f.sc
 sc:∀p∈f.sc,p.2<=3
structure bp(c:Cx)(K:Frag):Prop where
 kin:K.In c.base
 inj:∀i j,c.nm i=c.nm j->i=j
 nodebug:∀i,(c.nm i==("__debug__" :Str))=false
 noclass:∀i,(c.nm i==("__classdict__" :Str))=false
 nosuper:∀i,(c.nm i==("super" :Str))=false
 glob:∀x v,c.T.gl x=some v->∃mg mb y,c.base.Ns mainGlobals mg/\c.base.Ns builtinsNs mb/\(mg (c.nm x)=some y\/(mg (c.nm x)=none/\mb (c.nm x)=some y))/\∀X μ h,(∀b,X b->c.base.get? b=none)->c.base.StaysIn h->ad c X μ h v y
 attr:∀k cl a,c.T.cls k=some cl->lA cl.am a=true->plainGet K (c.clA k) (c.nm a)=true/\hasDictIn K (c.clA k)=true/\(∃at_,findIn K (.ref (c.clA k)) (c.nm a)=some at_/\noGet K at_=true)/\
  findIn K (.ref (c.clA k)) "__setattr__" =some (some (.builtin "object.__setattr__"))/\plainOver K (c.clA k)=true/\takerIn K (c.clA k) (c.nm a)=some none
 meth:∀k cl a f,c.T.cls k=some cl->au cl.meth a=some f->plainGet K (c.clA k) (c.nm a)=true/\findIn K (.ref (c.clA k)) (c.nm a)=some (some (.ref (c.fnA f)))/\typeIn K (.ref (c.fnA f))=some (.type "function")
 bi:∀k,k<14->c.biV k=ie k
 opq:∀k,14<=k->handedIn (c.biV k)=true
 nolim:c.base.NoLimit
 bmain:∃mg bm ob,c.base.Ns mainGlobals mg/\mg "__builtins__" =some (.ref bm)/\bm≠builtinsNs/\bm≠mainGlobals/\c.base.get? bm=some ob/\ob.cls=.type "module" /\ob.dict=some builtinsNs/\ob.data=.plain
 tabB:∀q∈c.tabs,c.base.get? q.2=none
 tabI:∀q∈c.tabs,∀q'∈c.tabs,q.2=q'.2->q=q'
 fn:∀k f,c.T.fns k=some f->CU c k f
 keepF:∀k,k<c.T.nfn->keepIn K (.ref (c.fnA k))=true
 make:∀k cl,c.T.cls k=some cl->keepIn K (.ref (c.clA k))=true/\makesIn K (c.clA k)=true/\findIn K (.ref (c.clA k)) "__init__" =some (some (.ref (c.fnA cl.init)))/\typeIn K (.ref (c.fnA cl.init))=some (.type "function")
structure aJ(c:Cx)(n:Nat)(A:Around)(env:Env)(fr:Fr):Prop where
 k0:∀x,au fr.sc x=some 0->env.kindOf (c.nm x)=some .local
 k1:∀x,au fr.sc x=some 1->env.kindOf (c.nm x)=some .cell
 k2:∀x,au fr.sc x=some 2->env.kindOf (c.nm x)=some .cell\/env.kindOf (c.nm x)=some .free
 k3:∀x,au fr.sc x=some 3->env.kindOf (c.nm x)=some .globalImplicit
 kl:∀x k,au fr.sc x=some k->k<=3
 kk:∀x,env.kindOf (c.nm x)=some .local->au fr.sc x=some 0
 kfun:env.scope.kind=.function
 globs:env.globals=mainGlobals
 bis:env.builtins=builtinsNs
 frame:∃e0 outer L,A.frames=some (e0::outer)/\e0.frame=some L/\env.frame=some L
 handled:A.handled=none
 code:fr.lm=true->∃cd P,env.code=.ref cd/\(cd,P)∈c.tabs/\env.qual++ "<lambda>" =c.tq cd
 depth:A.depth+2*n+4<=990
 units:A.units+12*n+400<=9000
structure B7(lo h:Heap)(e T:Addr)(oT:Obj)(ts:Array Value):Prop where
 t1:T≠e
 t2:lo.get? T=none
 t3:h.get? T=some oT
 t4:oT.cls=.type "traceback"
 t5:oT.data=.fields ts
 t6:3<ts.size
 t7:∀q t,ts[1]?≠some (.str q t)
structure oP(c:Cx)(X:Addr->Prop)(μ:Mu)(lo:Heap)(k:Nat)(m v:V)(e:Addr)(h:Heap)(oe:Obj)(vs:Array Value)(dx:Addr)(ms:Str->Option Value)(tb:Value):Prop where
 e1:h.get? e=some oe
 e2:oe.cls=.ref (c.clA k)
 e3:oe.dict=some dx
 e4:oe.data=.fields vs
 e5:4<vs.size
 e6:vs[1]?=some tb
 e7:∀q t,tb≠.str q t
 e8:tb=.none\/∃T oT ts,tb=.ref T/\B7 lo h e T oT ts
 e9:lo.get? e=none
 e10:lo.get? dx=none
 e11:¬own μ dx
 e12:h.Ns dx ms
 e13:∃y,ms (c.nm 0)=some y/\ad c X μ h m y
 e14:∃y,ms (c.nm 1)=some y/\ad c X μ h v y
structure cC(c:Cx)(X:Addr->Prop)(μ:Mu)(lo:Heap)(k:Nat)(m v:V)(e:Addr)(h:Heap):Prop where
 ex:∃oe vs dx ms tb,oP c X μ lo k m v e h oe vs dx ms tb
section
variable(c:Cx)(X:Addr->Prop)(A:Around)(env:Env)(fr:Fr)
def ac{α β:Type}(D:Mu->Heap->α->β->Prop)(μ:Mu)(s:Shared)(r:R α)(Q:β->Shared->Prop)(E:Value->Shared->Prop):Prop:=
 R.rec (λa ba=>∀av s' y,aK A env μ av s s'->Ok c X A env fr av ba s'->D av s'.heap a y->Q y s')
  (λk m v ba=>∀av s' e,aK A env μ av s s'->Ok c X A env fr av ba s'->cC c X av s.heap k m v e s'.heap->E (.ref e) s') False r
end
abbrev DV(c:Cx)(X:Addr->Prop):Mu->Heap->V->Value->Prop:=λμ h v x=>ad c X μ h v x
abbrev DB:Mu->Heap->Bool->Bool->Prop:=λ_ _ a b=>a=b
abbrev DU{α β:Type}:Mu->Heap->α->β->Prop:=λ_ _ _ _=>True
abbrev DL(c:Cx)(X:Addr->Prop):Mu->Heap->List V->List Value->Prop:=λμ h v x=>ay (ad c X μ h) v x
def DF(c:Cx)(X:Addr->Prop):Mu->Heap->Fl->Flow->Prop:=λμ h f x=>match f,x with
 |.next,.next=>True
 |.ret v,.ret y=>ad c X μ h v y
 |_,_=>False
section
variable{c:Cx}{X:Addr->Prop}{A:Around}{env:Env}{fr:Fr}{μ av:Mu}{σ ba:Sg}{s s':Shared}{E:Value->Shared->Prop}{α dJ β fS:Type}{D:Mu->Heap->α->β->Prop}{D':Mu->Heap->dJ->fS->Prop}
theorem ac.ok{a:α}{Q:β->Shared->Prop}(h:ac c X A env fr D μ s (.ok a ba) Q E)(n:aK A env μ av s s')(o:Ok c X A env fr av ba s'){y:β}(d:D av s'.heap a y):Q y s':=h av s' y n o d
theorem cC.lower{lo MB:Heap}(x:cC c X μ lo k m v e h)(l:fq MB lo):cC c X μ MB k m v e h:=
 ⟨x.ex.imp λoe=>bg λvs=>bg λdx=>bg λms=>bg λtb x=>
  ⟨x.e1,x.e2,x.e3,x.e4,x.e5,x.e6,x.e7,x.e8.imp id (bg λT=>bg λoT=>bg λts z=>⟨z.1,z.2.t1,l.none z.2.t2,z.2.t3,z.2.t4,z.2.t5,z.2.t6,z.2.t7⟩),l.none x.e9,l.none x.e10,x.e11,x.e12,x.e13,x.e14⟩⟩
theorem ac.shift{Q:β->Shared->Prop}(h:ac c X A env fr D μ s r Q E)(n:aK A env μ av s s'):ac c X A env fr D av s' r Q E:=by
 cases r with
 |ok a ba=>exact λa9 aB y n2 o d=>h a9 aB y (n.trans n2) o d
 |exc k m v ba=>exact λa9 aB e n2 o d=>h a9 aB e (n.trans n2) o (d.lower n.keep.1)
 |stuck=>exact h
theorem ac.bind{Q:β->Shared->Prop}{Q':fS->Shared->Prop}(h:ac c X A env fr D μ s (r.bind f) Q E)
 (k:∀a aM ao y s₁,aK A env μ ao s s₁->Ok c X A env fr ao aM s₁->D' ao s₁.heap a y->ac c X A env fr D ao s₁ (f a aM) Q E->Q' y s₁):ac c X A env fr D' μ s r Q' E:=by
 cases r with
 |ok a ba=>exact λao s₁ y n o d=>k a ba ao y s₁ n o d (ac.shift (h) n)
 |exc k m v ba=>exact h
 |stuck=>exact h
theorem ac.imp{r:R α}{Q Q':β->Shared->Prop}(h:ac c X A env fr D μ s r Q E)(k:∀y s₁,Q y s₁->Q' y s₁):ac c X A env fr D μ s r Q' E:=by
 cases r with
 |ok a ba=>exact λao s₁ y n o d=>k _ _ (h ao s₁ y n o d)
 |exc=>exact h
 |stuck=>exact h
theorem bk{o:Option dJ}{f:dJ->R α}{Q:β->Shared->Prop}{G:Prop}(h:ac c X A env fr D μ s (aX o f) Q E)(k:∀a,o=some a->ac c X A env fr D μ s (f a) Q E->G):G:=by
 cases o with|none=>exact h.elim|some a=>exact k a rfl h
theorem fu{Q:β->Shared->Prop}{G:Prop}(h:ac c X A env fr D μ s (dG o f d) Q E)(k:∀a,o=some a->ac c X A env fr D μ s (f a) Q E->G)(k':ac c X A env fr D μ s d Q E->G):G:=by
 cases o with|none=>exact k' h|some a=>exact k a rfl h
theorem bB{b:Bool}{r:R α}{Q:β->Shared->Prop}{G:Prop}(h:ac c X A env fr D μ s (aa b r .stuck) Q E)(k:b=true->ac c X A env fr D μ s r Q E->G):G:=by
 cases b with|false=>exact h.elim|true=>exact k rfl h
theorem gG{Q:β->Shared->Prop}{G:Prop}(h:ac c X A env fr D μ s (aa b r r') Q E)(k:b=true->ac c X A env fr D μ s r Q E->G)(k':b=false->ac c X A env fr D μ s r' Q E->G):G:=by
 cases b with|false=>exact k' rfl h|true=>exact k rfl h
theorem pI{Q:β->Shared->Prop}{G:Prop}(h:ac c X A env fr D μ s (jA σ o) Q E)(k:∀a,o=some a->ac c X A env fr D μ s (.ok a σ) Q E->G):G:=bk h k
theorem aK.stays(n:aK A env μ av s s')(o:Ok c X A env fr μ σ s):di X X s.heap s'.heap:=n.keep.stays (λb ob e p=>o.mut b ob e p) λ_ _ _ q=>q
theorem ad.nxt(r:ad c X μ s.heap v x)(o:Ok c X A env fr μ σ s)(n:aK A env μ av s s'):ad c X av s'.heap v x:=r.mono (n.stays o) n.ext
theorem ay.nxt(r:ay (ad c X μ s.heap) v x)(o:Ok c X A env fr μ σ s)(n:aK A env μ av s s'):ay (ad c X av s'.heap) v x:=r.mono λ_ _ q=>q.nxt o n
def SE(c:Cx)(n:Nat)(f:Mine.E->Fr->Sg->R V):Prop:=∀X A env fr μ σ s e Q E,aJ c n A env fr->Ok c X A env fr μ σ s->ac c X A env fr (DV c X) μ s (f e fr σ) Q E->wpAny c.M A (eval (an c.nm e) env) Q E s
def ST(c:Cx)(n:Nat)(f:Mine.E->Fr->Sg->R Bool):Prop:=∀X A env fr μ σ s e Q E,aJ c n A env fr->Ok c X A env fr μ σ s->ac c X A env fr DB μ s (f e fr σ) Q E->wpAny c.M A (isTrue (an c.nm e) env (eval (an c.nm e) env)) Q E s
def SS(c:Cx)(n:Nat)(f:S->Fr->Sg->R Fl):Prop:=∀X A env fr μ σ s e Q E,aJ c n A env fr->Ok c X A env fr μ σ s->ac c X A env fr (DF c X) μ s (f e fr σ) Q E->wpAny c.M A (exec (cS c.nm e) env) Q E s
def SW(c:Cx)(n:Nat)(f:Mine.E->List S->Fr->Sg->R Fl):Prop:=∀X A env fr μ σ s t b Q E,aJ c n A env fr->Ok c X A env fr μ σ s->ac c X A env fr (DF c X) μ s (f t b fr σ) Q E->
 codeAny c.M A (.whileLoop (an c.nm t) (cU c.nm b) [] env) (λr s'=>match r with|.ok f=>Q f s'|.error e=>cameBackBy c.M A env E e s') s
def lY(c:Cx)(A:Around)(f:Value)(xs:List Value)(Q:Value->Shared->Prop)(E:Value->Shared->Prop)(s:Shared):Prop:=
 codeAny c.M A (.call f ⟨xs,[]⟩) (λr s'=>match r with|.ok (.ret v)=>Q v s'|.ok _=>False|.error e=>E e s') s
def SC(c:Cx)(n:Nat)(f:Nat->List V->Sg->R V):Prop:=∀X A env fr μ σ s k vs xs Q E,aJ c n A env fr->Ok c X A env fr μ σ s->ay (ad c X μ s.heap) vs xs->ac c X A env fr (DV c X) μ s (f k vs σ) Q E->
 lY c A (.ref (c.fnA k)) xs Q E s
structure lK(c:Cx)(n:Nat)(e:Ev):Prop where
 call:SC c n e.call
 eE:SE c n e.eE
 eT:ST c n e.eT
 eS:SS c n e.eS
 eW:SW c n e.eW
theorem aJ.of_succ(x:aJ c (n+1) A env fr):aJ c n A env fr:=
 ⟨x.k0,x.k1,x.k2,x.k3,x.kl,x.kk,x.kfun,x.globs,x.bis,x.frame,x.handled,x.code,
  fe (Nat.add_le_add_right (Nat.add_le_add_left (Nat.mul_le_mul_left 2 (Nat.le_succ n)) _) _) x.depth,fe (Nat.add_le_add_right (Nat.add_le_add_left (Nat.mul_le_mul_left 12 (Nat.le_succ n)) _) _) x.units⟩
theorem Ok.base_ns(o:Ok c X A env fr μ σ s)(h:c.base.Ns a m):s.heap.Ns a m:=h.keeps o.stays
theorem NS(h:k<=3)(h0:k≠0)(h3:k≠3):k=1\/k=2:=(by decide:∀k:Fin 4,k.val≠0->k.val≠3->k.val=1\/k.val=2) ⟨k,Nat.lt_succ_of_le h⟩ h0 h3
theorem BK{K:Frag}(G:bp c K)(eo:aJ c n A env fr)(o:Ok c X A env fr μ σ s)(hk:au fr.sc x=some 3)(hv:c.T.gl x=some v){Q:Value->Shared->Prop}(q:∀y,ad c X μ s.heap v y->Q y s):
 wpAny c.M A' (eval (.Name (c.nm x) (aE p)) env) Q E s:=
 (G.glob x v hv).elim λmg g=>g.elim λmb g=>g.elim λy g=>
  Calls.Name_function_global eo.kfun (eo.k3 x hk) (g.2.2.1.elim (λg3=>Calls.loadGlobal_global (eo.globs▸o.base_ns g.1) g3 (q y (g.2.2.2 X μ s.heap (λb hb=>(o.xlt b hb).2) o.stays)))
   λg3=>Calls.loadGlobal_builtin (eo.globs▸o.base_ns g.1) g3.1 (eo.bis▸o.base_ns g.2.1) g3.2 (q y (g.2.2.2 X μ s.heap (λb hb=>(o.xlt b hb).2) o.stays))) (G.nodebug x)
theorem Mb(o:Ok c X A env fr μ σ s)(hl:au fr.g x=some l)(ho:gH σ.H l=some ob)(hv:qT ob=some v):
 ∃p,aj μ l=some p/\env.cells.lookup (c.nm x)=some p.1/\RO c X μ s.heap p (.cell v):=
 (o.cells x l hl).elim λp q=>(o.obj l ob ho).elim λp' r=>⟨p,q.1,q.2,by
  have e:=bz r.1 q.1
  cases ob with
  |cell w=>exact af hv▸e▸r.2
  |_=>exact ns hv⟩
theorem Ap{K:Frag}(G:bp c K){Q:Value->Shared->Prop}(eo:aJ c n A env fr)(o:Ok c X A env fr μ σ s)(h:ac c X A env fr (DV c X) μ s (Ll c.T fr x σ) Q E):
 wpAny c.M A (eval (an c.nm (.name x p)) env) Q E s:=
 bk h λk hk h=>gG h
  (λhb h=>pI h λv hv h=>o.ns.elim λm z=>(z.2 x v hv).elim λy w=>wpAny_Name (wpAny_loadName_local eo.kfun (eo.k0 x (bx.mp hb▸hk)) z.1 w.1 (h.ok .refl o w.2)) (G.nodebug x))
  λh0 h=>gG h (λhb h=>pI h λv hv h=>BK G eo o (bx.mp hb▸hk) hv λy r=>h.ok .refl o r)
  λh3 h=>bk h λl hl h=>bk h λob ho h=>bk h λv hv h=>pI h λv hv2 h=>(Mb o hl ho hv).elim λpp q=>q.2.2.2.elim λy z=>by
   subst hv2
   cases y with
   |none=>exact z.2.elim
   |some y=>
    have q':=h.ok .refl o z.2
    exact(NS (eo.kl x k hk) (dY.mp h0) (dY.mp h3)).elim (λe=>wpAny_Name (wpAny_loadName_cell eo.kfun (eo.k1 x (e▸hk)) q.2.1 z.1 q') (G.nodebug x)) λe=>
     (eo.k2 x (e▸hk)).elim (λk2=>wpAny_Name (wpAny_loadName_cell eo.kfun k2 q.2.1 z.1 q') (G.nodebug x)) λk2=>wpAny_Name (wpAny_loadName_free eo.kfun k2 q.2.1 z.1 q' (G.noclass x)) (G.nodebug x)
end
end
section
open PySem PySem.W PyProof.Rows
open PySem.SeqAt
theorem cn{α:Type}{o:Option α}{r:α}(h:aa b .none o=some r):b=false/\o=some r:=by cases b with|true=>exact ns h|false=>exact⟨rfl,h⟩
theorem cs{α:Type}{b:Bool}{o:Option α}{r:α}(h:aa b o .none=some r):b=true/\o=some r:=by cases b with|true=>exact⟨rfl,h⟩|false=>exact ns h
theorem oe{α β:Type}{o:Option α}{f:α->Option β}{d:Option β}{r:β}{G:Prop}(h:a7 o f d=some r)(k:∀a,o=some a->f a=some r->G)(k':o=none->d=some r->G):G:=by
 cases o with|none=>exact k' rfl h|some a=>exact k a rfl h
theorem oa{α β:Type}{o:Option α}{f:α->Option β}{d:Option β}{r:β}{G:Prop}(h:a7 o f d=some r)(k:∀a,o=some a->f a=some r->G)(k':d=some r->G):G:=oe h k λ_=>k'
theorem mP{α:Type}{b:Bool}{x y:α}(h:b=true):aa b x y=x:=h▸rfl
theorem l9{α:Type}{b:Bool}{x y:α}(h:b=false):aa b x y=y:=h▸rfl
theorem on{α β:Type}{o:Option α}{f:α->Option β}{r:β}{G:Prop}(h:a7 o f .none=some r)(k:∀a,o=some a->f a=some r->G):G:=oa h k λe=>ns e
theorem IV{G:Prop}(h:yB a b=some r)(k:∀x y,a=some x->b=some y->r=(x&&y)->G):G:=by
 cases a with
 |none=>exact ns h
 |some x=>cases b with
  |none=>exact ns h
  |some y=>exact k x y rfl rfl ((af h).symm.trans (by cases x<;>rfl))
theorem WM{r:Bool}(h:unlike a b=some r):r=false/\a≠0/\b≠0/\a≠b:=
 have p:=cn h;have q:=cn p.2;have w:=cn q.2
 ⟨(af w.2).symm,dY.mp p.1,dY.mp q.1,dY.mp w.1⟩
theorem qY{v:V}(h:eM v=some i):v=.int i:=by cases v<;>first|exact ns h|exact aq V.int (af h)
theorem oz{v:V}{i:Bool}(h:k4 v=some i):v=.bool i:=by cases v<;>first|exact ns h|exact aq V.bool (af h)
theorem jC{v:V}(h:cQ v=some i):v=.str i:=by cases v<;>first|exact ns h|exact aq V.str (af h)
theorem xM(h:ci v=some i):v=.loc i:=by cases v<;>first|exact ns h|exact aq V.loc (af h)
theorem qA{v:V}{i:Nat}(h:cu v=some i):v=.atom i:=by cases v<;>first|exact ns h|exact aq V.atom (af h)
theorem nj{v:V}(h:isNone v=true):v=.none:=by cases v<;>first|exact ft h|rfl
theorem CH{l:List V}(h:cJ v=some l):b9 v=true/\gC v=l:=⟨(cs h).1,af (cs h).2⟩
theorem sv(h:lL o=some l):o=.list l:=by cases o<;>first|exact ns h|exact aq aF.list (af h)
theorem LI(h:yA o=some l):o=.dict l:=by cases o<;>first|exact ns h|exact aq aF.dict (af h)
theorem qu{α:Type}{f:aF->Option α}{H:HT}{v:V}{p:Nat×α}(h:n6 f H v=some p):∃o,v=.loc p.1/\gH H p.1=some o/\f o=some p.2:=
 on h λn hn h=>on h λo ho h=>on h λx hx h=>af h▸⟨o,xM hn,ho,hx⟩
def Cw(f:V->V->Bool->Prop)(us vs:List V)(es:List Bool):Prop:=
 es.length=min us.length vs.length/\∀(j:Nat) (a b:V) (e:Bool),us[j]?=some a->vs[j]?=some b->es[j]?=some e->f a b e
theorem GX(es:List Bool):(List.range es.length).all (λj=>es.getD j true)=es.all id:=by
 induction es with
 |nil=>rfl
 |cons e r ih=>
  rw[List.length_cons,List.range_succ_eq_map,List.all_cons,List.all_map]
  show(e&&(List.range r.length).all (λj=>r.getD j true))=_
  rw[ih];rfl
theorem Ai{f:V->V->Option Bool}(xs:List V):∀{ys:List V} {r:Bool},lU f xs ys=some r->∃es,Cw (λa b e=>f a b=some e) xs ys es/\r=(es.all id&&decide (xs.length=ys.length)):=by
 induction xs with
 |nil=>
  intro ys r h
  refine⟨[],⟨(Nat.zero_min _).symm,λj a b e h=>ns h⟩,?_⟩
  cases ys with
  |nil=>exact(af h).symm
  |cons=>exact(af h).symm
 |cons x p ih=>
  intro ys r h
  cases ys with
  |nil=>exact⟨[],⟨rfl,λj a b e _ h=>ns h⟩,(af h).symm⟩
  |cons y q=>
   exact IV h λa b h1 h2 e=>(ih h2).elim λes pw=>⟨a::es,⟨(aq (· +1) pw.1.1).trans (Nat.succ_min_succ _ _).symm,λj u v d=>Nat.casesOn j (λz1 z2 z3=>(af z1)▸(af z2)▸(af z3)▸h1) λj z1 z2 z3=>pw.1.2 j u v d z1 z2 z3⟩,by
    rw[e,pw.2,List.all_cons,Bool.and_assoc]
    exact aq (a&& ·) (aq (es.all id&& ·) (decide_eq_decide.mpr Nat.succ_inj.symm))⟩
section
variable{c:Cx}{X:Addr->Prop}{A:Around}{env:Env}{fr:Fr}{μ av:Mu}{σ ba:Sg}{s s':Shared}{E:Value->Shared->Prop}
theorem VN{h:Heap}(p:h.IsTuple a x)(q:h.IsTuple a y):x=y:=
 p.elim λo p=>q.elim λo' q=>p.2.2.elim λn d=>q.2.2.elim λn' d'=>(Data.seq.inj ((d.symm.trans (aq Obj.data (bz p.1 q.1))).trans d')).1
@[elab_as_elim] theorem iE {P:Value->Prop} {i:Int} (hv:eM v=some i) (r:ad c X μ h v x) (k:∀t,P (.int i t)):P x:=by
 have e:=qY hv;subst e;exact r.elim λt e=>e▸k t
@[elab_as_elim] theorem fV {P:Value->Prop} {h:Heap} {v:V} {x:Value} {i:List Nat} (hv:cQ v=some i) (r:ad c X μ h v x) (k:∀t,P (.str (aW i) t)):P x:=by
 have e:=jC hv;subst e;exact r.elim λt e=>e▸k t
@[elab_as_elim] theorem j4 {P:Value->Prop} (hv:cJ v=some l) (r:ad c X μ h v x) (k:∀a its,h.IsTuple a its->Lv X h a->ay (ad c X μ h) l its.toList->P (.ref a)):P x:=
 have t:=CH hv
 ((iw t.1).mp r).elim λa q=>q.elim λits q=>q.1▸k a its q.2.1 q.2.2.1 (t.2▸q.2.2.2)
theorem Ar{P:Value->Prop}{α:Type}{f:aF->Option α}{p:Nat×α}(o:Ok c X A env fr μ σ s)(hv:n6 f σ.H v=some p)(r:ad c X μ s.heap v x)
 (k:∀ob q,gH σ.H p.1=some ob->f ob=some p.2->aj μ p.1=some q->RO c X μ s.heap q ob->P (.ref q.1)):P x:=
 (qu hv).elim λob w=>(w.1▸r).elim λq z=>(o.obj p.1 ob w.2.1).elim λq' y=>z.2▸k ob q w.2.1 w.2.2 z.1 (bz y.1 z.1▸y.2)
@[elab_as_elim] theorem fh {P:Value->Prop} {v:V} (o:Ok c X A env fr μ σ s) (hv:dj σ.H v=some p) (r:ad c X μ s.heap v x)
 (k:∀a its,gH σ.H p.1=some (.list p.2)->aj μ p.1=some (a,a)->s.heap.PlainList a its->ay (ad c X μ s.heap) p.2 its.toList->its.size<=4000->P (.ref a)):P x:=
 Ar o hv r λob q h1 h2 h3 ro=>by
  have e:=sv h2;subst e
  exact ro.2.elim λits z=>k q.1 its h1 (h3.trans (aq some (Prod.ext rfl ro.1))) z.1 z.2.1 z.2.2
@[elab_as_elim] theorem lQ {P:Value->Prop} {v:V} (o:Ok c X A env fr μ σ s) (hv:iO σ.H v=some p) (r:ad c X μ s.heap v x)
 (k:∀a l,gH σ.H p.1=some (.dict p.2)->aj μ p.1=some (a,a)->(a==sysModules)=false->s.heap.DictOf (strKind c.prog c.w) a l->ay (λa b=>b.1=aW a.1/\ad c X μ s.heap a.2 b.2) p.2 l->l.length<=4000->P (.ref a)):P x:=
 Ar o hv r λob q h1 h2 h3 ro=>by
  have e:=LI h2;subst e
  exact ro.2.2.elim λl z=>k q.1 l h1 (h3.trans (aq some (Prod.ext rfl ro.1))) ro.2.1 z.1 z.2.1 z.2.2
theorem cz{its:Array Value}(z:ay (ad c X μ h) l its.toList):its.size=l.length:=Array.length_toList.symm.trans z.length
inductive z7(H:HT)(n:Nat)(a b:V)(r:Bool):Prop
 |unlike (h1:fz H a≠0) (h2:fz H b≠0) (h3:fz H a≠fz H b) (e:r=false)
 |none (ea:a=.none) (eb:b=.none) (e:r=true)
 |bool (x y:Bool) (ea:a=.bool x) (eb:b=.bool y) (e:r=(x==y))
 |int (x y:Int) (ea:eM a=some x) (eb:eM b=some y) (e:r=(x==y))
 |str (x y:List Nat) (ea:cQ a=some x) (eb:cQ b=some y) (e:r=seq x y)
 |tup (xs ys:List V) (ea:cJ a=some xs) (eb:cJ b=some ys) (h:lU (eH H n) xs ys=some r)
 |same (i:Nat) (ea:a=.loc i) (eb:b=.loc i) (e:r=true)
 |atom (i j:Nat) (hn:20<n) (ea:a=.atom i) (eb:b=.atom j) (e:(i=j/\r=true)\/(i≠j/\wM i j=true/\r=false))
 |list (p q:Nat×List V) (ea:dj H a=some p) (eb:dj H b=some q) (ne:p.1≠q.1) (h:(p.2.length≠q.2.length/\r=false)\/(p.2.length=q.2.length/\lU (eH H n) p.2 q.2=some r))
theorem sR{H:HT}{n k:Nat}{a b:V}{r:Bool}(h:unlike k (fz H b)=some r)(e:k=fz H a):z7 H n a b r:=
 have q:=WM (e▸h);.unlike q.2.1 q.2.2.1 q.2.2.2 q.1
theorem Qp{H:HT}{v:V}{l:List V}(h:cJ v=some l):fz H v=4:=by
 have t:=(CH h).1
 cases v<;>first|exact ft t|rfl
theorem AJ{H:HT}{i:Nat}{p:Nat×List V}(h:dj H (.loc i)=some p):p.1=i/\fz H (.loc i)=5:=
 (qu h).elim λo w=>by
  have e1:i=p.1:=aq (λv=>(ci v).getD 0) w.1
  have e:=sv w.2.2;subst e
  refine⟨e1.symm,?_⟩
  unfold fz;dsimp only;rw[e1,w.2.1]
theorem U0{H:HT}{i:Nat}{b:V}{q:Nat×List V}(h:dj H b=some q)(e:i=q.1):rj i b=true:=
 (qu h).elim λo w=>by rw[w.1];exact bx.mpr e
theorem TM{i:Nat}{b:V}(h:rj i b=true):b=.loc i:=by
 cases b<;>first|exact ft h|exact aq V.loc (bx.mp h).symm
theorem Lj(H:HT)(n:Nat)(a b:V)(r:Bool)(h:eH H (n+1) a b=some r):z7 H n a b r:=by
 have tup:a7 (cJ a) (λxs=>a7 (cJ b) (λys=>lU (eH H n) xs ys) (unlike 4 (fz H b))) .none=some r->z7 H n a b r:=λh=>
  on h λxs hx h=>oa h (λys hy h=>.tup xs ys hx hy h) λh=>sR h (Qp hx).symm
 cases a with
 |none=>
  cases hb:isNone b with
  |true=>exact .none rfl (nj hb) (af ((mP hb).symm.trans h)).symm
  |false=>exact sR (k:=1) ((l9 hb).symm.trans h) rfl
 |bool x=>exact on h λy hy h=>.bool x y rfl (oz hy) ((af h).symm.trans (by cases x<;>cases y<;>rfl))
 |int x=>exact oa h (λy hy h=>.int x y rfl hy (af h).symm) λh=>sR h rfl
 |str x=>exact oa h (λy hy h=>.str x y rfl hy (af h).symm) λh=>sR h rfl
 |atom i=>exact on h λj hj h=>.atom i j (cF (cs h).1) rfl (qA hj) (by
  have h:=(cs h).2
  cases e:Nat.beq i j with
  |true=>exact .inl ⟨bx.mp e,(af ((mP e).symm.trans h)).symm⟩
  |false=>exact .inr ⟨dY.mp e,(cs ((l9 e).symm.trans h)).1,(af (cs ((l9 e).symm.trans h)).2).symm⟩)
 |loc i=>
  cases hb:rj i b with
  |true=>exact .same i rfl (TM hb) (af ((mP hb).symm.trans h)).symm
  |false=>exact on ((l9 hb).symm.trans h) λp hp h=>oa h (λq hq h=>.list p q hp hq (λe=>tf (((U0 hq ((AJ hp).1.symm.trans e)).symm.trans hb))) (by
   rw[bH,bH] at h
   cases hl:Nat.beq p.2.length q.2.length with
   |true=>exact .inr ⟨bx.mp hl,(mP hl).symm.trans h⟩
   |false=>exact .inl ⟨dY.mp hl,(af ((l9 hl).symm.trans h)).symm⟩)) λh=>sR h (AJ hp).2.symm
 |nil=>exact tup h
 |cons p q=>exact tup h
 |_=>exact ns h
noncomputable def Ww(h:Heap)(x:Value):Nat:=match x with|.none=>1|.int _ _=>2|.str _ _=>3|.ref a=>if (h.get? a).any (λo=>o.cls== .type "tuple")=true then 4 else 5|_=>0
inductive KX(h:Heap)(k:Nat)(x:Value):Prop
 |none (e:k=1) (ex:x=.none)
 |int (i:Int) (t:Tok) (e:k=2) (ex:x=.int i t)
 |str (p:Str) (t:Tok) (e:k=3) (ex:x=.str p t)
 |tup (a:Addr) (its:Array Value) (q:h.IsTuple a its) (e:k=4) (ex:x=.ref a)
 |list (a:Addr) (its:Array Value) (q:h.IsList a its) (e:k=5) (ex:x=.ref a)
theorem Kc{h:Heap}(q:KX h k x):Ww h x=k:=by
 cases q with
 |none e ex=>rw[ex,e];rfl
 |int i t e ex=>rw[ex,e];rfl
 |str i t e ex=>rw[ex,e];rfl
 |tup a its q e ex=>rw[ex,e];exact q.elim λo q=>aG (by rw[q.1];exact beq_iff_eq.mpr q.2.1)
 |list a its q e ex=>rw[ex,e];exact q.elim λo q=>ax (by rw[q.1];show ¬(o.cls== .type "tuple")=true;rw[q.2.1];decide)
theorem wJ(o:Ok c X A env fr μ σ s){a:V}(r:ad c X μ s.heap a x)(h:fz σ.H a≠0):KX s.heap (fz σ.H a) x:=by
 cases a with
 |none=>exact .none rfl r
 |int i=>exact r.elim λt e=>.int _ _ rfl e
 |str p=>exact r.elim λt e=>.str _ _ rfl e
 |nil=>exact r.ex.elim λa q=>q.elim λits q=>.tup a its q.2.1 rfl q.1
 |cons p q=>exact r.ex.elim λa q=>q.elim λits q=>.tup a its q.2.1 rfl q.1
 |loc n=>
  cases hl:dj σ.H (.loc n) with
  |none=>
   refine aV ?_ h
   unfold fz;dsimp only
   have hl:a7 (gH σ.H n) (λo=>a7 (lL o) (λx=>some (n,x)) none) none=none:=hl
   cases ho:gH σ.H n with
   |none=>rfl
   |some ob=>rw[ho] at hl;cases ob<;>first|rfl|exact sn hl
  |some p=>exact(AJ hl).2.symm▸fh (P:=λx=>KX s.heap 5 x) o hl r λa its _ _ q _ _=>.list a its q.isList rfl rfl
 |_=>exact aV rfl h
theorem QL(h1:KX s.heap k x)(h2:KX s.heap j y)(iA:k≠j)(hu:A'.units<cLine):EqAt A' s x y false/\RcAt A' s x y false/\RcNeAt A' s x y true:=by
 cases h1 with
 |none e ex=>
  cases h2 with
  |none e'=>exact aV (e.trans e'.symm) iA
  |int i' t' _ ey=>exact ex▸ey▸⟨.none_int _ _,.none_int _ _,.none_int _ _⟩
  |str p' t' _ ey=>exact ex▸ey▸⟨.none_str _ _,.none_str _ _,.none_str _ _⟩
  |tup a' fA q' _ ey=>exact ex▸ey▸⟨.none_tuple q' hu,.none_tuple q' hu,.none_tuple q' hu⟩
  |list a' fA q' _ ey=>exact ex▸ey▸⟨.none_list q' hu,.none_list q' hu,.none_list q' hu⟩
 |int i t e ex=>
  cases h2 with
  |int i' t' e'=>exact aV (e.trans e'.symm) iA
  |none _ ey=>exact ex▸ey▸⟨.int_none _ _,.int_none _ _,.int_none _ _⟩
  |str p' t' _ ey=>exact ex▸ey▸⟨.int_str _ _ _ _,.int_str _ _ _ _,.int_str _ _ _ _⟩
  |tup a' fA q' _ ey=>exact ex▸ey▸⟨.int_tuple _ _ q' hu,.int_tuple _ _ q' hu,.int_tuple _ _ q' hu⟩
  |list a' fA q' _ ey=>exact ex▸ey▸⟨.int_list _ _ q' hu,.int_list _ _ q' hu,.int_list _ _ q' hu⟩
 |str p t e ex=>
  cases h2 with
  |str p' t' e'=>exact aV (e.trans e'.symm) iA
  |none _ ey=>exact ex▸ey▸⟨.str_none _ _,.str_none _ _,.str_none _ _⟩
  |int i' t' _ ey=>exact ex▸ey▸⟨.str_int _ _ _ _,.str_int _ _ _ _,.str_int _ _ _ _⟩
  |tup a' fA q' _ ey=>exact ex▸ey▸⟨.str_tuple _ _ q' hu,.str_tuple _ _ q' hu,.str_tuple _ _ q' hu⟩
  |list a' fA q' _ ey=>exact ex▸ey▸⟨.str_list _ _ q' hu,.str_list _ _ q' hu,.str_list _ _ q' hu⟩
 |tup a its q e ex=>
  cases h2 with
  |tup a' fA q' e'=>exact aV (e.trans e'.symm) iA
  |none _ ey=>exact ex▸ey▸⟨.tuple_none q hu,.tuple_none q hu,.tuple_none q hu⟩
  |int i' t' _ ey=>exact ex▸ey▸⟨.tuple_int _ _ q hu,.tuple_int _ _ q hu,.tuple_int _ _ q hu⟩
  |str p' t' _ ey=>exact ex▸ey▸⟨.tuple_str _ _ q hu,.tuple_str _ _ q hu,.tuple_str _ _ q hu⟩
  |list a' fA q' _ ey=>exact ex▸ey▸⟨.tuple_list q q' hu,.tuple_list q q' hu,.tuple_list q q' hu⟩
 |list a its q e ex=>
  cases h2 with
  |list a' fA q' e'=>exact aV (e.trans e'.symm) iA
  |none _ ey=>exact ex▸ey▸⟨.list_none q hu,.list_none q hu,.list_none q hu⟩
  |int i' t' _ ey=>exact ex▸ey▸⟨.list_int _ _ q hu,.list_int _ _ q hu,.list_int _ _ q hu⟩
  |str p' t' _ ey=>exact ex▸ey▸⟨.list_str _ _ q hu,.list_str _ _ q hu,.list_str _ _ q hu⟩
  |tup a' fA q' _ ey=>exact ex▸ey▸⟨.list_tuple q q' hu,.list_tuple q q' hu,.list_tuple q q' hu⟩
theorem YE(o:Ok c X A env fr μ σ s){i j:Nat}(hp:aj μ i=some p)(hq:aj μ j=some q)(e:p.1=q.1):i=j:=
 (Classical.em (i=j)).elim id λh=>aV e (o.apart i j p q hp hq h).1
theorem PD{f:V->V->Bool->Prop}{us vs:List V}(pw:Cw f us vs es)(hl:us.length=vs.length)(k:∀(j:Nat) a b e,us[j]?=some a->vs[j]?=some b->f a b e->e=true):es.all id=true:=
 List.all_eq_true.mpr λe he=>(List.mem_iff_getElem?.mp he).elim λj hj=>
  have lt:j<us.length:=by have:=(List.getElem?_eq_some_iff.mp hj).1;rw[pw.1,hl,Nat.min_self] at this;exact hl▸this
  have a1:=List.getElem?_eq_getElem lt
  have a2:=List.getElem?_eq_getElem (hl▸lt:j<vs.length)
  k j _ _ e a1 a2 (pw.2 j _ _ e a1 a2 hj)
theorem rU{h:Heap}{l:List V}(hv:cJ v=some l)(r:ad c X μ h v x):∃a its,x=.ref a/\h.IsTuple a its/\Lv X h a/\ay (ad c X μ h) l its.toList:=
 have t:=CH hv;t.2▸(iw t.1).mp r
theorem Uc(o:Ok c X A env fr μ σ s)(n:Nat):∀(a b:V) (r:Bool) (x:Value),eH σ.H n a b=some r->ad c X μ s.heap a x->ad c X μ s.heap b x->r=true:=by
 induction n with
 |zero=>exact λa b r x h=>ns h
 |succ n ih=>
  intro a b r x h ra rb
  cases Lj σ.H n a b r h with
  |unlike h1 h2 h3 e=>exact aV ((Kc (wJ o ra h1)).symm.trans (Kc (wJ o rb h2))) h3
  |none _ _ e=>exact e
  |bool p q ea eb e=>subst ea eb;exact e.trans (beq_iff_eq.mpr (Value.bool.inj ((ra).symm.trans rb)))
  |int p q ea eb e=>exact e.trans (beq_iff_eq.mpr ((qY ea▸ra:ad c X μ s.heap (.int p) x).elim λt e1=>(qY eb▸rb:ad c X μ s.heap (.int q) x).elim λu e2=>(Value.int.inj (e1.symm.trans e2)).1))
  |str p q ea eb e=>exact e.trans (fj.mpr ((jC ea▸ra:ad c X μ s.heap (.str p) x).elim λt e1=>(jC eb▸rb:ad c X μ s.heap (.str q) x).elim λu e2=>kW (Value.str.inj (e1.symm.trans e2)).1))
  |tup xs ys ea eb h=>
   exact(Ai xs h).elim λes pw=>(rU ea ra).elim λt z=>z.elim λits z=>(rU eb rb).elim λt' w=>w.elim λfA w=>by
    have e1:=Value.ref.inj (z.1.symm.trans w.1)
    have e2:=VN z.2.1 (e1▸w.2.1)
    subst e2
    have hl:=z.2.2.2.length.symm.trans w.2.2.2.length
    rw[pw.2,decide_eq_true hl,Bool.and_true]
    exact PD pw.1 hl λj u v e h1 h2 h3=>(z.2.2.2.get j u h1).elim λy y1=>(w.2.2.2.get j v h2).elim λy' y2=>ih u v e y h3 y1.2 (bz y2.1 y1.1▸y2.2)
  |same _ _ _ e=>exact e
  |atom i j _ ea eb e=>
   subst ea eb
   exact e.elim And.right λw=>(c.ρd i j w.2.1 w.1).elim λp z=>z.elim λq z=>((z.1▸ra:(PV X s.heap (.str p)).1 x)).elim λt e1=>((z.2.1▸rb:(PV X s.heap (.str q)).1 x)).elim λu e2=>
    tf ((fj.mpr (kW (Value.str.inj (e1.symm.trans e2)).1)).symm.trans z.2.2)
  |list p q ea eb ne _=>
   exact(qu ea).elim λ_ w=>(qu eb).elim λ_ w'=>(w.1▸ra:ad c X μ s.heap (.loc p.1) x).elim λu z=>(w'.1▸rb:ad c X μ s.heap (.loc q.1) x).elim λu' z'=>aV (YE o z.1 z'.1 (Value.ref.inj (z.2.symm.trans z'.2))) ne
theorem J9{its:Array Value}(h:its.toList[j]?=some y)(hj:j<its.size):its[j]=y:=
 af ((Array.getElem?_eq_getElem hj).symm.trans (Array.getElem?_toList.symm.trans h))
theorem IF{A':Around}(ih:∀(a b:V) (r:Bool) (x y:Value),eH σ.H n a b=some r->ad c X μ s.heap a x->ad c X μ s.heap b y->EqAt A' s x y r){its fA:Array Value}
 (l1:ay (ad c X μ s.heap) xs its.toList)(l2:ay (ad c X μ s.heap) ys fA.toList)(pw:Cw (λa b e=>eH σ.H n a b=some e) xs ys es):∀j (h1:j<its.size) (h2:j<fA.size),EqAt A' s its[j] fA[j] (es.getD j true):=λj h1 h2=>by
 have a1:=List.getElem?_eq_getElem (cz l1▸h1)
 have a2:=List.getElem?_eq_getElem (cz l2▸h2)
 have hj:j<es.length:=by rw[pw.1,← cz l1,← cz l2];exact Nat.lt_min.mpr ⟨h1,h2⟩
 have a3:=List.getElem?_eq_getElem hj
 rw[List.getD_eq_getElem?_getD,a3]
 exact(l1.get j _ a1).elim λy y1=>(l2.get j _ a2).elim λz z1=>(J9 y1.1 h1).symm▸(J9 z1.1 h2).symm▸ih _ _ _ _ _ (pw.2 j _ _ _ a1 a2 a3) y1.2 z1.2
theorem Kk(p q:List Nat):seq p q=(aW p==aW q):=Bool.eq_iff_iff.mpr (fj.trans ⟨λe=>beq_iff_eq.mpr (aq aW e),λe=>kW (beq_iff_eq.mp e)⟩)
theorem xY(o:Ok c X A env fr μ σ s)(n:Nat):∀(a b:V) (r:Bool) (x y:Value) (A':Around),eH σ.H n a b=some r->ad c X μ s.heap a x->ad c X μ s.heap b y->A'.units+n<9900->
 EqAt A' s x y r/\((∀i j,a=.loc i->b=.loc j->i≠j)->RcAt A' s x y r/\RcNeAt A' s x y (!r)):=by
 induction n using Nat.strongRecOn with
 |ind n ih=>
  intro a b r x y A' h ra rb hu
  cases n with
  |zero=>exact ns h
  |succ n=>
   have pW:=jI (gI _ _) hu
   have vx:=(Nat.succ_add A'.units n▸hu:A'.units.succ+n<9900)
   have yE:=λa b r x y h ra rb=>(ih n (Nat.lt_succ_self n) a b r x y A'.in1 h ra rb vx).1
   have two:∀l m:Addr,x=.ref l->y=.ref m->RcAt A' s x y r->EqAt A' s x y r:=λl m e1 e2 rc=>by
    subst e1 e2
    exact(Classical.em (l=m)).elim (λe=>by subst e;rw[Uc o (n+1) a b r _ h ra rb];exact .same _) λe=>.of_refs e rc
   cases Lj σ.H n a b r h with
   |unlike h1 h2 h3 e=>have u:=QL (wJ o ra h1) (wJ o rb h2) h3 pW;subst e;exact⟨u.1,λ_=>u.2⟩
   |none ea eb e=>subst ea eb e;have e1:=ra;have e2:=rb;subst e1 e2;exact⟨.same _,λ_=>⟨.none_none,.none_none⟩⟩
   |bool p q ea eb e=>subst ea eb e;have e1:=ra;have e2:=rb;subst e1 e2;exact⟨.bool_bool p q,λ_=>⟨.bool_bool p q,.bool_bool p q⟩⟩
   |int p q ea eb e=>subst e;refine iE ea ra λt=>?_;refine iE eb rb λu=>?_;exact⟨.int_int p t q u,λ_=>⟨.int_int p t q u,.int_int p t q u⟩⟩
   |str p q ea eb e=>rw[e,Kk];refine fV ea ra λt=>?_;refine fV eb rb λu=>?_;exact⟨.str_str _ t _ u,λ_=>⟨.str_str _ t _ u,.str_str _ t _ u⟩⟩
   |tup xs ys ea eb h=>
    obtain⟨es,pw⟩:=Ai xs h
    obtain⟨l,its,ex,i1,_,l1⟩:=rU ea ra
    obtain⟨m,fA,ey,i2,_,l2⟩:=rU eb rb
    have he:=IF yE l1 l2 pw.1
    have vy:((List.range (min its.size fA.size)).all (λj=>es.getD j true)&&its.size==fA.size)=r:=by
     rw[pw.2,← GX es,pw.1.1,cz l1,cz l2];rfl
    have rc:=ex▸ey▸vy▸RcAt.tuples i1 i2 pW he
    exact⟨two _ _ ex ey rc,λ_=>⟨rc,ex▸ey▸vy▸RcNeAt.tuples i1 i2 pW he⟩⟩
   |same i ea eb e=>
    subst ea eb e
    exact ra.elim λp z=>rb.elim λq w=>by
     rw[z.2,w.2,bz z.1 w.1]
     exact⟨.same _,λk=>aV rfl (k i i rfl rfl)⟩
   |atom i j hn ea eb e=>
    subst ea eb
    have q:eH σ.H 20 (c.ρ i) (c.ρ j)=some r:=e.elim (λw=>w.1▸w.2▸c.ρe i σ.H) λw=>w.2.2▸(c.ρd i j w.2.1 w.1).elim λp z=>z.elim λq z=>by rw[z.1,z.2.1];exact aq some z.2.2
    have z:=ih 20 (Nat.lt_succ_of_lt hn) _ _ _ _ _ A' q ((xt _).1 x ra) ((xt _).1 y rb) (Nat.lt_trans (Nat.add_lt_add_left (Nat.lt_succ_of_lt hn) _) hu)
    exact⟨z.1,λ_=>z.2 λi' j' q=>(q▸ra:(PV X s.heap (.loc i')).1 x).elim⟩
   |list p q ea eb ne h=>
    exact fh (P:=λx=>(∀l m:Addr,x=.ref l->y=.ref m->RcAt A' s x y r->EqAt A' s x y r)->EqAt A' s x y r/\((∀i j,a=.loc i->b=.loc j->i≠j)->RcAt A' s x y r/\RcNeAt A' s x y (!r))) o ea ra (λl its _ _ i1 l1 _=>
     fh (P:=λy=>(∀l' m:Addr,Value.ref l=.ref l'->y=.ref m->RcAt A' s (.ref l) y r->EqAt A' s (.ref l) y r)->EqAt A' s (.ref l) y r/\((∀i j,a=.loc i->b=.loc j->i≠j)->RcAt A' s (.ref l) y r/\RcNeAt A' s (.ref l) y (!r))) o eb rb λm fA _ _ i2 l2 _ two=>
     h.elim (λh=>by
      have cK:(its.size !=fA.size)=true:=by rw[cz l1,cz l2];exact bne_iff_ne.mpr h.1
      have rc:=h.2▸RcAt.lists_lengths i1.isList i2.isList cK pW
      exact⟨two _ _ rfl rfl rc,λ_=>⟨rc,h.2▸RcNeAt.lists_lengths i1.isList i2.isList cK pW⟩⟩)
      λh=>by
       obtain⟨es,pw⟩:=Ai p.2 h.2
       have he:=IF yE l1 l2 pw.1
       have cK:its.size=fA.size:=by rw[cz l1,cz l2];exact h.1
       have vy:(List.range its.size).all (λj=>es.getD j true)=r:=by
        rw[pw.2,← GX es,pw.1.1,cz l1,h.1,Nat.min_self,decide_eq_true rfl,Bool.and_true]
       have rc:=vy▸RcAt.lists i1.isList i2.isList cK pW he
       exact⟨two _ _ rfl rfl rc,λ_=>⟨rc,vy▸RcNeAt.lists i1.isList i2.isList cK pW he⟩⟩) two
end
section
variable{c:Cx}{X:Addr->Prop}{A:Around}{env:Env}{fr:Fr}{μ av:Mu}{σ ba:Sg}{s s':Shared}{E:Value->Shared->Prop}{n:Nat}
theorem lu(h:a+b<9900)(k:d<=b:=by decide):a+d<9900:=jI (Nat.add_le_add_left k _) h
theorem wm(h:a+b<9900)(k:1+d<=b:=by decide):a+1+d<9900:=Nat.add_assoc a 1 d▸lu h k
theorem P6(l:List V):∀{r:Bool},x0 H x l=some r->∃es,ay (λv e=>eH H i5 v x=some e) l es/\r=es.any id:=by
 induction l with
 |nil=>exact λh=>⟨[],.nil,(af h).symm⟩
 |cons y q ih=>exact λh=>on h λa ha h=>on h λb hb h=>(ih hb).elim λes z=>⟨a::es,.cons ha z.1,by rw[← af h,z.2];cases a<;>rfl⟩
theorem mark{es:List Bool}{its:List Value}{p:Value->Bool->Prop}(k:∀(j:Nat) y e,its[j]?=some y->es[j]?=some e->p y e)(hl:es.length=its.length):∃f:Value->Bool,(∀y∈its,p y (f y))/\its.any f=es.any id:=by
 let P:=λy=>∃j:Nat,its[j]?=some y/\es[j]?=some true
 refine⟨λy=>@decide (P y) (Classical.propDecidable _),λy hy=>?_,Bool.eq_iff_iff.mpr ⟨λh=>?_,λh=>?_⟩⟩
 · show p y (@decide (P y) (Classical.propDecidable _))
   exact(List.mem_iff_getElem?.mp hy).elim λj hj=>(Classical.em (P y)).elim (λh=>(@decide_eq_true _ (Classical.propDecidable _) h).symm▸h.elim λi z=>k i y true z.1 z.2) λh=>(@decide_eq_false _ (Classical.propDecidable _) h).symm▸(by
    have lt:=hl▸(List.getElem?_eq_some_iff.mp hj).1
    have e:=List.getElem?_eq_getElem lt
    cases hb:es[j] with
    |true=>exact aV ⟨j,hj,hb▸e⟩ h
    |false=>exact k j y false hj (hb▸e))
 · exact(List.any_eq_true.mp h).elim λy z=>(@of_decide_eq_true _ (Classical.propDecidable _) z.2).elim λj w=>List.any_eq_true.mpr ⟨true,List.mem_of_getElem? w.2,rfl⟩
 · exact(List.any_eq_true.mp h).elim λe z=>(List.mem_iff_getElem?.mp z.1).elim λj hj=>by
    have lt:=hl▸(List.getElem?_eq_some_iff.mp hj).1
    have z2:=z.2
    exact List.any_eq_true.mpr ⟨its[j],List.getElem_mem lt,@decide_eq_true _ (Classical.propDecidable _) ⟨j,List.getElem?_eq_getElem lt,z2▸hj⟩⟩
theorem Gf(o:Ok c X A env fr μ σ s){A':Around}{x:V}(hv:x0 σ.H x l=some r)(rx:ad c X μ s.heap x xv)(hl:ay (ad c X μ s.heap) l its)(hu:A'.units+60<9900):
 ∃f:Value->Bool,(∀y∈its,EqAt A' s y xv (f y))/\its.any f=r:=
 (P6 l hv).elim λes z=>z.2.symm▸mark (λj y e h1 h2=>(hl.get' j y h1).elim λv w=>(z.1.get j v w.1).elim λe' w'=>
  (xY o i5 v x e y xv A' (bz w'.1 h2▸w'.2) w.2 rx (lu hu)).1) (z.1.length.trans hl.length.symm)
theorem Ou{K:Type}[DecidableEq K](k:K)(v:Value)(l:List (K×Value))(x:K):valueAt ((k,v)::l) x=if k=x then some v else valueAt l x:=by
 unfold valueAt
 by_cases h:k=x
 · simp[h]
 · simp[List.find?_cons,h]
theorem Eb(h:a≠k):seq a k=false:=Bool.eq_false_iff.mpr λq=>h (fj.mp q)
abbrev lX(c:Cx)(X:Addr->Prop)(μ:Mu)(h:Heap):List Nat×V->Str×Value->Prop:=λa b=>b.1=aW a.1/\ad c X μ h a.2 b.2
theorem q8{h:Heap}{bF:List (List Nat×V)}{l:List (Str×Value)}(z:ay (lX c X μ h) bF l)(k:List Nat):
 (∀v,jF bF k=some v->∃y,valueAt l (aW k)=some y/\ad c X μ h v y)/\(jF bF k=none->valueAt l (aW k)=none):=by
 induction z with
 |nil=>exact⟨λv e=>ns e,λ_=>rfl⟩
 | @cons a b r q e z ih=>
  have es:jF (a::r) k=aa (seq a.1 k) (some a.2) (jF r k):=rfl
  have ev:valueAt (b::q) (aW k)=if b.1=aW k then some b.2 else valueAt q (aW k):=Ou b.1 b.2 q _
  rw[es,ev]
  by_cases h:a.1=k
  · rw[fj.mpr h,aG (e.1.trans (aq aW h))]
    exact⟨λv w=>⟨_,rfl,af w▸e.2⟩,λw=>sn w⟩
  · rw[Eb h,ax λw=>h (kW (e.1.symm.trans w))]
    exact ih
theorem aJ.un(e:aJ c n A env fr):A.units+400<=9000:=fe (Nat.add_le_add_right (gI _ _) _) e.units
end
theorem jt(a:List Nat):(aW a).length=a.length:=List.size_toArray
theorem CG(a b:List Nat):aW a++aW b=aW (a++b):=by
 show Str.append (aW a) (aW b)=_
 simp[aW,Str.append]
section
variable{c:Cx}{X:Addr->Prop}{A:Around}{env:Env}{fr:Fr}{μ av:Mu}{σ ba:Sg}{s s':Shared}{E:Value->Shared->Prop}{n:Nat}
theorem iy(t:Tok):aK A env μ μ s {s with toks:=t}:=aK.refl.tok t
theorem kN{Q:Value->Shared->Prop}(o:Ok c X A env fr μ σ s)(h:ac c X A env fr (DV c X) μ s (bl b σ) Q E):Q (.bool b) s:=ac.ok h .refl o rfl
theorem JF{Q:Value->Shared->Prop}(o:Ok c X A env fr μ σ s)(h:ac c X A env fr (DV c X) μ s (bl b σ) Q E)(t:Tok):Q (.bool b) {s with toks:=t}:=ac.ok h (iy t) (o.tok t) rfl
theorem PJ(o:Ok c X A env fr μ σ s)(hu:A'.units+50<9900)(z:ay (lX c X μ s.heap) ys lb)
 (w:ay (lX c X μ s.heap) xs la):∀{r:Bool},Ac (eH σ.H i5) ys xs=some r->KeqHits A' s lb la r:=by
 induction w with
 |nil=>exact λh=>af h▸.nil
 | @cons a b r q e _ ih=>
  have eb:(aW a.1,b.2)=b:=Prod.ext e.1.symm rfl
  intro r h
  rw[← eb]
  exact oe h (λu hs h=>IV h λp q h1 h2 e'=>((q8 z a.1).1 u hs).elim λy' s=>e'▸.hit s.1 (xY o i5 a.2 u p b.2 y' A' h1 e.2 s.2 (lu hu)).1 (ih h2))
   λhs h=>on h λ_ _ h=>af h▸.miss ((q8 z a.1).2 hs)
def Ye(c:Cx)(A:Around)(E:Value->Shared->Prop)(s:Shared)(r:Bool)(x y:Value):Prop:=
 (∀Q:Value->Shared->Prop,Q (.bool r) s->wpAny c.M A (compareOp .Eq x y) Q E s)/\(∀Q:Value->Shared->Prop,Q (.bool (!r)) s->wpAny c.M A (compareOp .NotEq x y) Q E s)
theorem QQ(H:HT)(a b:V):qP H a b=aa (Option.rec false (λi=>rj i b) (ci a)) .none
 (a7 (iO H a) (λp=>a7 (iO H b) (λq=>aa (Nat.beq (len p.2) (len q.2)) (Ac (eH H i5) q.2 p.2) (some false)) .none) (eH H i5 a b)):=by
 unfold qP iO n6
 cases ci a<;>rfl
theorem Bb(o:Ok c X A env fr μ σ s)(h:qP σ.H a b=some r)(ra:ad c X μ s.heap a x)(rb:ad c X μ s.heap b y)(hu:A.units+100<9900):Ye c A E s r x y:=
 have h1:=cn ((QQ _ _ _).symm.trans h)
 have vx:A.in1.units+50<9900:=wm hu
 have hA:=jI (gI _ _) hu
 oa h1.2 (λp hp h=>on h λq hq h=>by
  refine lQ o hp ra λl la _ _ d1 e1 z1 _=>?_
  refine lQ o hq rb λm lb _ _ d2 e2 z2 _=>?_
  rw[bH,bH,← z1.length,← z2.length] at h
  have e3:(la.length==lb.length&&r)=r/\(la.length=lb.length->KeqHits A.in1 s lb la r):=by
   cases hl:Nat.beq la.length lb.length with
   |true=>exact⟨by rw[beq_iff_eq.mpr (bx.mp hl),Bool.true_and],λ_=>PJ o vx z2 z1 ((mP hl).symm.trans h)⟩
   |false=>exact⟨by rw[beq_eq_false_iff_ne.mpr (dY.mp hl),Bool.false_and];exact af ((l9 hl).symm.trans h),λe=>aV e (dY.mp hl)⟩
  exact⟨λQ q=>keq_eq d1 d2 e1 e2 hA e3.2 (e3.1.symm▸q),λQ q=>keq_ne d1 d2 e1 e2 hA e3.2 (e3.1.symm▸q)⟩)
  λh=>
   have w:=(xY o i5 a b r x y A h ra rb (lu hu)).2 λi j e1 e2 e=>by
    have h1:=h1.1
    rw[e1,e2] at h1
    exact tf ((bx.mpr e).symm.trans h1)
   ⟨λQ q=>w.1 c.prog c.w E Q q,λQ q=>w.2 c.prog c.w E Q q⟩
@[elab_as_elim] theorem ko {P:Value->Value->Prop} {Q:Value->Shared->Prop} (h:ac c X A env fr (DV c X) μ s (jJ a b f) Q E) (ra:ad c X μ s.heap a x) (rb:ad c X μ s.heap b y)
 (k:∀i j t u,ac c X A env fr (DV c X) μ s (f i j) Q E->P (.int i t) (.int j u)):P x y:=
 bk h λi hi h=>bk h λj hj h=>iE (P:=λx=>P x y) hi ra λt=>iE (P:=λy=>P _ y) hj rb λu=>k i j t u h
theorem aO(h:aa a b false=true):a=true/\b=true:=by cases a with|true=>exact⟨rfl,h⟩|false=>exact ft h
theorem wp(e:Av a=some r)(ra:ad c X μ h a x):plainIs x .none=true/\(x== .none)=r:=by
 have no:∀{y:Value},x=y->plainIs y .none=true->y≠.none->some false=some r->plainIs x .none=true/\(x== .none)=r:=λq p n e=>q▸⟨p,af e▸beq_eq_false_iff_ne.mpr n⟩
 cases a with
 |none=>have q:=ra;subst q;exact⟨rfl,(rfl:(Value.none==Value.none)=true).trans (af e)⟩
 |bool i=>exact no ra rfl (λz=>nomatch z) e
 |int i=>exact ra.elim λt q=>no q rfl (λz=>nomatch z) e
 |str i=>exact ra.elim λt q=>no q rfl (λz=>nomatch z) e
 |nil=>exact ra.ex.elim λt q=>q.elim λ_ q=>no q.1 rfl (λz=>nomatch z) e
 |cons p q=>exact ra.ex.elim λt q=>q.elim λ_ q=>no q.1 rfl (λz=>nomatch z) e
 |loc i=>exact ra.elim λt q=>no q.2 rfl (λz=>nomatch z) e
 |fn k=>exact no ra rfl (λz=>nomatch z) e
 |cls k=>exact no ra rfl (λz=>nomatch z) e
 |clo k cs=>exact ra.elim λt q=>no q.1 rfl (λz=>nomatch z) e
 |atom n=>exact((iw (c:=c) (μ:=μ) (c.ρt n (aO (cs e).1).1 (aO (cs e).1).2)).mp ((xt (c:=c) (μ:=μ) _).1 x ra)).elim λt q=>q.elim λ_ q=>no q.1 rfl (λz=>nomatch z) (cs e).2
 |_=>exact ns e
theorem pB(e:isNone a=true)(ra:ad c X μ h a x):x=.none:=(nj e▸ra:ad c X μ h .none x)
theorem J8(o:Ok c X A env fr μ σ s)(hu:A.units+100<9900){Q:Value->Shared->Prop}(ra:ad c X μ s.heap a x)(rb:ad c X μ s.heap b y)(h:ac c X A env fr (DV c X) μ s (y6 a b σ f) Q E)
 (k1:∀{l:Addr} {bf:Array Value} (e:Value->Bool),s.heap.IsList l bf->(∀y,y∈bf->EqAt A.in1 s y x (e y))->Q (.bool (f (bf.any e))) s->wpAny c.M A (compareOp op x (.ref l)) Q E s)
 (k2:∀{l:Addr} {bf:Array Value} (e:Value->Bool),s.heap.IsTuple l bf->(∀y,y∈bf->EqAt A.in1 s y x (e y))->Q (.bool (f (bf.any e))) s->wpAny c.M A (compareOp op x (.ref l)) Q E s)
 (k3:∀{d:Addr} {g:Str->Option Value} {k:List Nat} {t:Tok},x=.str (aW k) t->(d==sysModules)=false->s.heap.MapOf (strKind c.prog c.w) d g->Q (.bool (f (g (aW k)).isSome)) {s with toks:=s.toks+1}->wpAny c.M A (compareOp op x (.ref d)) Q E s):
 wpAny c.M A (compareOp op x y) Q E s:=
 fu h (λp hp h=>bk h λr hr h=>by
  refine fh o hp rb λl its _ _ hl hz _=>?_
  exact(Gf o hr ra hz (wm hu)).elim λe z=>k1 e hl.isList (λy hy=>z.1 y (Array.mem_toList_iff.mpr hy)) (by rw[← Array.any_toList,z.2];exact kN o h))
  λh=>fu h (λp hp h=>bk h λk hk h=>by
   refine lQ o hp rb λd l _ _ d1 e1 z1 _=>?_
   obtain⟨t,ex⟩:∃t,x=.str (aW k) t:=(jC hk▸ra:ad c X μ s.heap (.str k) x)
   refine k3 ex d1 e1.mapOf ?_
   have e:(valueAt l (aW k)).isSome=(jF p.2 k).isSome:=by
    cases hs:jF p.2 k with
    |none=>rw[(q8 z1 k).2 hs];rfl
    |some v=>exact((q8 z1 k).1 v hs).elim λy w=>by rw[w.1];rfl
   rw[e];exact JF o h _)
  λh=>bk h λxs hx h=>bk h λr hr h=>by
   refine j4 hx rb λl its hl _ hz=>?_
   exact(Gf o hr ra hz (wm hu)).elim λe z=>k2 e hl (λy hy=>z.1 y (Array.mem_toList_iff.mpr hy)) (by rw[← Array.any_toList,z.2];exact kN o h)
theorem OK(o:Ok c X A env fr μ σ s)(hu:A.units+100<9900){Q:Value->Shared->Prop}(ra:ad c X μ s.heap a x)(rb:ad c X μ s.heap b y)(hj:Ls a b=some j)
 (h:ac c X A env fr (DV c X) μ s (.ok (.atom j) σ) Q E):wpAny c.M A (compareOp .Eq x y) Q E s:=by
 have hj:a7 (cu a) (λi=>aa (Nat.ble 6000 i) (aa (Nat.blt i 7000) (a7 (eM b) (λy=>aa (decide (y=0)) (some (Nat.add i 1000)) .none) .none) .none) .none) .none=some j:=hj
 cases hi:cu a with
 |none=>rw[hi] at hj;exact ns hj
 |some i=>
  rw[hi] at hj
  have q1:=cs (hj)
  have q2:=cs q1.2
  cases hb:eM b with
  |none=>rw[hb] at q2;exact ns q2.2
  |some z=>
   rw[hb] at q2
   have q3:=cs (q2.2)
   have hz:=of_decide_eq_true q3.1
   have hjj:=af q3.2
   obtain⟨d,h1,h2⟩:=c.ρz i q1.1 q2.1
   rw[qA hi] at ra
   rw[qY hb,hz] at rb
   have ra':ad c X μ s.heap (.int d) x:=by
    have ra:(PV X s.heap (c.ρ i)).1 x:=ra
    rw[h1] at ra;exact ra
   have hr:qP σ.H (.int d) (.int 0)=some (decide (d=0)):=rfl
   refine(Bb o hr ra' rb hu).1 Q (ac.ok h (y:=.bool (decide (d=0))) .refl o ?_)
   show(PV X s.heap (c.ρ j)).1 (.bool (decide (d=0)))
   rw[← hjj,h2];rfl
theorem GJ(o:Ok c X A env fr μ σ s)(hu:A.units+100<9900){Q:Value->Shared->Prop}(ra:ad c X μ s.heap a x)(rb:ad c X μ s.heap b y)
 (h:ac c X A env fr (DV c X) μ s (Gr op a b σ) Q E):wpAny c.M A (compareOp (KJ op) x y) Q E s:=by
 cases op with
 |eq=>exact fu h (λj hj h=>OK o hu ra rb hj h) λh=>bk h λr hr h=>(Bb o hr ra rb hu).1 Q (kN o h)
 |ne=>exact bk h λr hr h=>(Bb o hr ra rb hu).2 Q (kN o h)
 |is=>exact bB h λhb h=>bk h λr hr h=>pB hb rb▸wpAny_is_plain (wp hr ra).1 ((wp hr ra).2.symm▸kN o h)
 |isNot=>exact bB h λhb h=>bk h λr hr h=>pB hb rb▸wpAny_isNot_plain (wp hr ra).1 ((wp hr ra).2.symm▸kN o h)
 |isin=>exact J8 (f:=id) o hu ra rb h (λe h1 h2 h3=>in_listAt e h1 h2 h3) (λe h1 h2 h3=>in_tupleAt e h1 h2 h3) λe h1 h2 h3=>e▸wpAny_in_of (strKind_is _ _ _ _) h1 h2 h3
 |notIn=>exact J8 (f:=not) o hu ra rb h (λe h1 h2 h3=>notIn_listAt e h1 h2 h3) (λe h1 h2 h3=>notIn_tupleAt e h1 h2 h3) λe h1 h2 h3=>e▸wpAny_notIn_of (strKind_is _ _ _ _) h1 h2 h3
 |lt=>exact ko h ra rb λi j t u h=>P.lt_int (kN o h)
 |gt=>exact ko h ra rb λi j t u h=>P.gt_int (kN o h)
 |ge=>exact ko h ra rb λi j t u h=>P.ge_int (kN o h)
 |le=>exact ko h ra rb λi j t u h=>P.le_int (kN o h)
end
end
section
open PySem PySem.W PyProof.Rows
section
variable{c:Cx}{X:Addr->Prop}{A:Around}{env:Env}{fr:Fr}{μ av:Mu}{σ ba:Sg}{s s':Shared}{E:Value->Shared->Prop}{n:Nat}{K:Frag}
theorem v5{α β:Type}{D:Mu->Heap->α->β->Prop}{r:R α}{Q:β->Shared->Prop}(h:ac c X A env fr D μ s (aa b r .stuck) Q E):b=true/\ac c X A env fr D μ s r Q E:=bB h And.intro
theorem cY(h:Heap):h.get? h.objs.size=none:=Heap.get?_none_of_le (Nat.le_refl _)
theorem mB(o:Ok c X A env fr μ σ s)(h:s.heap.get? a=none):¬X a:=λx=>(o.xlt a x).1.elim λob e=>cg e h
theorem QA(o:Ok c X A env fr μ σ s)(k:aY (λ_=>False) s.heap h')(r:ay (ad c X μ s.heap) vs xs):ay (ad c X (μ++[p]) h') vs xs:=
 r.mono λ_ _ q=>q.mono (o.stays_of k λ_ _ _ f=>f.elim) (ce.app _ _)
theorem vX(o:Ok c X A env fr μ σ s){Q:Value->Shared->Prop}(z:ay (ad c X μ s.heap) vs its.toList)(h:ac c X A env fr (DV c X) μ s (.ok (wg vs) σ) Q E)(k:aY (λ_=>False) s.heap s'.heap)
 (ha:s.heap.get? a=none)(hb:s'.heap.get? a=some {cls:=.type "tuple",data:=.seq its})(hg:s'.gens=s.gens)(ho:s'.os=s.os):Q (.ref a) s':=
 have nx:=aK.add k hg ho
 h.ok nx (o.add k) ((iw (uy vs)).mpr ⟨_,its,rfl,⟨_,hb,rfl,_,rfl⟩,⟨mB o ha,_,hb,rfl⟩,by rw[vd];exact z.nxt o nx⟩)
theorem wQ(o:Ok c X A env fr μ σ s){Q:Value->Shared->Prop}(z:ay (ad c X μ s.heap) vs its.toList)(h:ac c X A env fr (DV c X) μ s (BS (.list vs) σ) Q E)(hf:its.size<=4000)(k:aY (λ_=>False) s.heap s'.heap)
 (ha:s.heap.get? a=none)(hb:s'.heap.get? a=some {cls:=.type "list",data:=.seq its m})(hg:s'.gens=s.gens)(ho:s'.os=s.os):Q (.ref a) s':=
 h.ok (aK.new1 (p:=(a,a)) k ha ha hg ho) (o.new1 k ha ha ⟨rfl,its,⟨m,hb⟩,QA o k z,hf⟩) ⟨(a,a),o.last _,rfl⟩
theorem v9(z:ay (ad c X μ h) vs xs)(hf:fU vs=true):xs.length<=4000:=z.length▸gy.mp hf
theorem WQ(o:Ok c X A env fr μ σ s){Q:Value->Shared->Prop}(r:ay (ad c X μ s.heap) vs xs)(h:ac c X A env fr (DV c X) μ s (nS vs σ) Q E):wpAny c.M A (newTuple xs) Q E s:=
 bB h λhf h=>wpAny_newTuple (vX o (its:=xs.toArray) (by rw[List.toList_toArray];exact r) h (aY.push _ _ _) (cY _) (dX _ rfl) rfl rfl) (gs (v9 r hf))
theorem UI(o:Ok c X A env fr μ σ s){Q:Value->Shared->Prop}(r:ay (ad c X μ s.heap) vs xs)(h:ac c X A env fr (DV c X) μ s (lz vs σ) Q E):wpAny c.M A (newList xs) Q E s:=
 bB h λhf h=>wpAny_newList (wQ o (its:=xs.toArray) (by rw[List.toList_toArray];exact r) h (List.size_toArray▸v9 r hf) (aY.push _ _ _) (cY _) (dX _ rfl) rfl rfl) (gs (v9 r hf))
theorem wZ{Q:Value->Shared->Prop}{G:Prop}(h:ac c X A env fr (DV c X) μ s (oY l σ) Q E)(k:l.length<=4000->ac c X A env fr (DV c X) μ s (.ok (.str l) σ) Q E->G):G:=bB h λhf h=>k (gy.mp hf) h
theorem Mw(h:oZ y=true):Builtin.Int.intBits y<=64/\y.natAbs.log2<=60:=by
 have h':=dL h
 have k:y.natAbs.log2<=60:=by
  by_cases e:y.natAbs=0
  · rw[e];decide
  · exact Nat.le_of_lt ((Nat.log2_lt e (k:=60)).mpr (jI h' (by decide)))
 refine⟨?_,k⟩
 unfold Builtin.Int.intBits
 split
 · exact Nat.zero_le _
 · exact fe (Nat.succ_le_succ k) (by decide)
theorem nq(o:Ok c X A env fr μ σ s){Q:Value->Shared->Prop}(h:ac c X A env fr (DV c X) μ s (.ok (.int i) σ) Q E):Q (.int i s.toks) {s with toks:=s.toks+1}:=h.ok (iy _) (o.tok _) ⟨_,rfl⟩
theorem Qj(o:Ok c X A env fr μ σ s){xs ys:List V}{Q:Value->Shared->Prop}(ha:cJ a=some xs)(hb:cJ b=some ys)(ra:ad c X μ s.heap a x)(rb:ad c X μ s.heap b y)(h:ac c X A env fr (DV c X) μ s (nS (app xs ys) σ) Q E):
 wpAny c.M A (binaryOp .Add x y) Q E s:=by
 obtain⟨hf,h⟩:=v5 h
 refine j4 ha ra λl its hi hx hz=>?_
 refine j4 hb rb λm gF MD C0 nT=>?_
 have hl:=gy.mp hf
 rw[cq,List.length_append,← cz hz,← cz nT] at hl
 obtain⟨⟨cls,dd,data,sl⟩,ho,hc,n1,hd⟩:=id hi
 obtain⟨⟨abS,C1,data2,C2⟩,mo,ME,n2,hd2⟩:=id MD
 simp only at hc hd ME hd2
 subst hc hd ME hd2
 have e1:its.isEmpty=true->its.toList=[]:=λe=>by rw[Array.isEmpty_iff.mp e]
 have e2:gF.isEmpty=true->gF.toList=[]:=λe=>by rw[Array.isEmpty_iff.mp e]
 have z3:=cq xs ys▸hz.append nT
 by_cases w1:its.isEmpty=true
 · refine concat_meets ⟨_,ho,rfl⟩ ⟨_,mo,rfl⟩ noFill_tuple_add seq_tuple_add PySem.F.slot_tuple_add PySem.F.entry_tuple_add (PySem.F.args_tuple_add_2 _ _) (tuple_addW0 l m its gF n1 n2 dd C1 sl C2 w1) ⟨ho,mo,?_⟩
   exact h.ok .refl o ((iw (uy _)).mpr ⟨m,gF,rfl,MD,C0,by rw[e1 w1] at z3;rw[vd];exact z3⟩)
 · by_cases w2:gF.isEmpty=true
   · refine concat_meets ⟨_,ho,rfl⟩ ⟨_,mo,rfl⟩ noFill_tuple_add seq_tuple_add PySem.F.slot_tuple_add PySem.F.entry_tuple_add (PySem.F.args_tuple_add_2 _ _) (tuple_addW1 l m its gF n1 n2 dd C1 sl C2 w1 w2) ⟨ho,mo,?_⟩
     exact h.ok .refl o ((iw (uy _)).mpr ⟨l,its,rfl,hi,hx,by rw[e2 w2,List.append_nil] at z3;rw[vd];exact z3⟩)
   · exact concat_meets ⟨_,ho,rfl⟩ ⟨_,mo,rfl⟩ noFill_tuple_add seq_tuple_add PySem.F.slot_tuple_add PySem.F.entry_tuple_add (PySem.F.args_tuple_add_2 _ _) (tuple_addW2 l m its gF n1 n2 dd C1 sl C2 w1 w2 (gs hl)) ⟨ho,mo,vX o (by rw[Array.toList_append];exact z3) h (aY.push _ _ _) (cY _) (dX _ rfl) rfl rfl⟩
theorem QI(o:Ok c X A env fr μ σ s){p q:Nat×List V}{Q:Value->Shared->Prop}(ha:dj σ.H a=some p)(hb:dj σ.H b=some q)(ra:ad c X μ s.heap a x)(rb:ad c X μ s.heap b y)(h:ac c X A env fr (DV c X) μ s (lz (app p.2 q.2) σ) Q E):
 wpAny c.M A (binaryOp .Add x y) Q E s:=by
 obtain⟨hf,h⟩:=v5 h
 refine fh o ha ra λl its _ _ i1 hz _=>?_
 refine fh o hb rb λm gF _ _ i2 nT _=>?_
 have hl:=gy.mp hf
 rw[cq,List.length_append,← cz hz,← cz nT] at hl
 exact i1.elim λn1 ho=>i2.elim λn2 mo=>concat_meets ⟨_,ho,rfl⟩ ⟨_,mo,rfl⟩ noFill_list_add seq_list_add PySem.F.slot_list_add PySem.F.entry_list_add (PySem.F.args_list_add_2 _ _) (list_addW l m its gF n1 n2 none none #[] #[] (gs hl))
  ⟨ho,mo,wQ o (by rw[cq,Array.toList_append];exact hz.append nT) h (Array.size_append▸hl) (aY.push _ _ _) (cY _) (dX _ rfl) rfl rfl⟩
theorem T7(o:Ok c X A env fr μ σ s){Q:Value->Shared->Prop}(ra:ad c X μ s.heap a x)(rb:ad c X μ s.heap b y)
 (h:ac c X A env fr (DV c X) μ s (sf op a b σ) Q E):wpAny c.M A (binaryOp (KC op) x y) Q E s:=by
 cases op with
 |add=>
  exact fu h (λi hi h=>bk h λj hj h=>iE hi ra λt=>iE hj rb λu=>P.add_int (nq o h)) λh=>
   fu h (λi hi h=>bk h λj hj h=>wZ h λhl h=>fV hi ra λt=>fV hj rb λu=>
    PyProof.Rows.add_str (λt' k=>CG i j▸cq i j▸h.ok (iy _) (o.tok _) ⟨_,rfl⟩) (by rw[jt,jt,← List.length_append,← cq];exact gs hl)) λh=>
   fu h (λp hp h=>bk h λq hq h=>QI o hp hq ra rb h) λh=>bk h λxs hx h=>bk h λys hy h=>Qj o hx hy ra rb h
 |sub=>exact ko h ra rb λi j t u h=>P.sub_int (nq o h)
 |mul=>exact ko h ra rb λi j t u h=>bB h λhs h=>P.mul_int (nq o h) (.of_right (Mw hs).1)
 |fdiv=>
  exact ko h ra rb λi j t u h=>bB h λhs h=>bB h λhp h=>have hp:=of_decide_eq_true hp
   floordiv_int (Int.ne_of_gt hp) ((Int.fdiv_eq_ediv_of_nonneg i (Int.le_of_lt hp)).symm▸nq o h) (.inl (PyProof.noPylong_of_log2 (jI (Mw hs).2 (by decide))))
 |mod=>
  exact ko h ra rb λi j t u h=>bB h λhp h=>have hp:=of_decide_eq_true hp
   mod_int' (Int.ne_of_gt hp) ((Int.fmod_eq_emod_of_nonneg i (Int.le_of_lt hp)).symm▸nq o h)
 |pow=>
  exact ko h ra rb λi j t u h=>bB h λhs h=>bB h λhp h=>of_decide_eq_true hs▸of_decide_eq_true hp▸PySem.AutoIntOps.pow_4 (by decide) (by decide) (by decide) (by decide) (by decide+kernel) (nq o h)
end
section
variable{c:Cx}{X:Addr->Prop}{A:Around}{env:Env}{fr:Fr}{μ av:Mu}{σ ba:Sg}{s s':Shared}{E:Value->Shared->Prop}{n:Nat}{K:Frag}
theorem zT(h:n<=4000):(n:Int)<2^63:=Int.lt_of_le_of_lt (Int.ofNat_le.mpr h) (by decide)
theorem A5{α β:Type}{P:α->β->Prop}{l:List α}{m:List β}(z:ay P l m):m.isEmpty=l.isEmpty:=by cases z<;>rfl
theorem xO(o:Ok c X A env fr μ σ s){v:V}{x:Value}{Q:Bool->Shared->Prop}(r:ad c X μ s.heap v x)(h:w5 σ.H v=some b)(q:∀t,Q b {s with toks:=t}):wpAny c.M A (truthy x) Q E s:=
 have q0:=q s.toks
 oa h (λw hw h=>(oz hw▸r:ad c X μ s.heap (.bool w) x)▸wpAny_truthy_bool (af h▸q0))
  λh=>oa h (λi hi h=>iE hi r λt=>P.truthy_int (by rw[← af h] at q0;exact(by by_cases z:i=0<;>simp[z]:(i !=0)= !decide (i=0)).symm▸q0))
  λh=>oa h (λxs hx h=>j4 hx r λa its ht _ hz=>truthy_tuple ht (zT (cz hz▸gy.mp (cs h).1)) (by
   rw[← Array.isEmpty_toList,A5 hz,af (cs h).2];exact q _))
  λh=>oa h (λp hp h=>fh o hp r λa its _ _ hl hz hs=>wpAny_truthy_list hl.isList (zT hs) (by
   rw[← Array.isEmpty_toList,A5 hz,af h];exact q _))
  λh=>oa h (λp hp h=>lQ o hp r λa l _ _ d1 e1 z1 hs=>wpAny_truthy_dict d1 e1 (zT hs) (by rw[A5 z1,af h];exact q _))
  λh=>pB (cs h).1 r▸truthy_none (af (cs h).2▸q0)
theorem wq(h:rE i n=some k):k<n/\((i=(k:Int))\/(i<0/\ -(n:Int)<=i/\i+n=(k:Int))):=by
 cases i with
 |ofNat j=>have w:=cs h;have e:=af w.2;have l:=cF w.1;exact⟨e▸l,.inl (aq Int.ofNat e)⟩
 |negSucc j=>
  have w:=cs h
  have e:=af w.2
  have l:=cF w.1
  exact⟨by omega,.inr ⟨Int.negSucc_lt_zero j,by omega,by omega⟩⟩
theorem XO(h:rE i n=some k):seqIndex? i n=some k:=by
 have w:=wq h
 have key:∀j:Int,j=(k:Int)->(if (decide (0<=j)&&decide (j<(n:Int)))=true then some j.toNat else none)=some k:=λj e=>by
  have:(decide (0<=j)&&decide (j<(n:Int)))=true:=by rw[e,decide_eq_true (Int.natCast_nonneg k),decide_eq_true (Int.ofNat_lt.mpr w.1)];rfl
  rw[aG this,e];rfl
 have e:(if i<0 then i+(n:Int) else i)=(k:Int):=w.2.elim (λe=>(ax (e▸Int.not_lt.mpr (Int.natCast_nonneg k))).trans e) λe=>(aG e.1).trans e.2.2
 unfold seqIndex?
 dsimp only
 exact key _ e
theorem Ba(h:rE i n=some k)(hn:n<=4000): -(2^63)<=i/\i<2^63:=by
 have w:=wq h
 rcases w.2 with e|e<;>omega
theorem Yp(o:Ok c X A env fr μ σ s){Q:Value->Shared->Prop}(ra:ad c X μ s.heap a x)(rb:ad c X μ s.heap b y)
 (hs:∀o i,subscripted slice false o i=operate [o,i] (getItem o i))(h:ac c X A env fr (DV c X) μ s (IZ a b σ) Q E):wpAny c.M A (subscriptTail value slice x y) Q E s:=
 have at':∀{xs:List V} {its:Array Value} {k:Nat} {v:V},ay (ad c X μ s.heap) xs its.toList->aj xs k=some v->∃z,its[k]?=some z/\ad c X μ s.heap v z:=λhz hv=>(hz.get _ _ (de _ _▸hv)).imp λz q=>⟨Array.getElem?_toList▸q.1,q.2⟩
 fu h (λp hp h=>bk h λj hj h=>bk h λk hk h=>pI h λv hv h=>by
  refine fh o hp ra λl its _ _ hl hz cK=>?_
  refine iE hj rb λt=>?_
  rw[bH,← cz hz] at hk
  obtain⟨z,z1,z2⟩:=at' hz hv
  have bd:=Ba hk cK
  refine tail_any hl.isList.typeIs slot_list_getitem.lookup ?_ (hs _ _)
  rcases (wq hk).2 with e|e
  · exact wpAny_getItem_list hl.isList (e▸Int.natCast_nonneg k) bd.2 (by rw[e];exact z1) (h.ok .refl o z2)
  · exact wpAny_getItem_list_neg hl.isList e.1 e.2.1 bd.1 (by rw[e.2.2];exact z1) (h.ok .refl o z2))
  λh=>fu h (λp hp h=>bk h λk hk h=>pI h λv hv h=>by
   refine lQ o hp ra λd l _ _ d1 e1 z1 _=>?_
   refine fV hk rb λt=>?_
   exact((q8 z1 k).1 v hv).elim λy w=>tail_any e1.typeIs slot_dict_getitem.lookup (wpAny_getItem_of (strKind_is _ _ _ _) e1.mapOf w.1 (h.ok (iy _) (o.tok _) w.2)) (hs _ _))
  λh=>bk h λxs hx h=>bk h λj hj h=>bB h λhf h=>bk h λk hk h=>pI h λv hv h=>by
   refine j4 hx ra λl its hi _ hz=>?_
   refine iE hj rb λt=>?_
   rw[bH,← cz hz] at hk
   obtain⟨z,z1,z2⟩:=at' hz hv
   have bd:=Ba hk (cz hz▸gy.mp hf)
   exact tail_any hi.typeIs slot_tuple_getitem.lookup (PyProof.Rows.getItem_tuple hi bd.1 bd.2 (XO hk) z1 (h.ok .refl o z2)) (hs _ _)
theorem rY{h:Heap}(x:h.Ns a m)(nm:Str):∃od,h.get? a=some od/\lookIn nm od=some (m nm):=by
 obtain⟨od,es,ep,ho,hd,hk,hm⟩:=x
 refine⟨od,ho,?_⟩
 unfold lookIn
 rw[hd]
 dsimp only
 rw[← hm nm]
 unfold nsFind findBy
 rw[← Array.find?_toList]
 cases hf:es.toList.find? (·.key.isStr nm) with
 |some e=>rfl
 |none=>
  have:es.toList.any (·.refKey)=false:=by
   rw[List.any_eq_false]
   intro e he
   obtain⟨n,t,q⟩:=hk e (by simpa using he)
   simp[DictEntry.refKey,q]
  rw[this];rfl
theorem Wj(r:(PV X h v).1 y):handedIn y=true:=by
 cases v with
 |none=>exact(r)▸rfl
 |bool=>exact(r)▸rfl
 |int=>exact r.elim λ_ e=>e▸rfl
 |str=>exact r.elim λ_ e=>e▸rfl
 |nil=>exact r.ex.elim λ_ e=>e.elim λ_ e=>e.1▸rfl
 |cons=>exact r.ex.elim λ_ e=>e.elim λ_ e=>e.1▸rfl
 |_=>exact r.elim
theorem qq(hb:∀k,14<=k->handedIn (c.biV k)=true)(r:ad c X μ h v y)(nb:hW v=true):handedIn y=true:=by
 cases v with
 |loc=>exact r.elim λ_ e=>e.2▸rfl
 |fn=>exact(r)▸rfl
 |cls=>exact(r)▸rfl
 |bi k=>exact(r)▸hb k (dL nb)
 |clo=>exact r.elim λ_ e=>e.1▸rfl
 |atom k=>exact Wj (v:=c.ρ k) r
 |none=>exact(r)▸rfl
 |bool=>exact(r)▸rfl
 |int=>exact r.elim λ_ e=>e▸rfl
 |str=>exact r.elim λ_ e=>e▸rfl
 |nil=>exact r.ex.elim λ_ e=>e.elim λ_ e=>e.1▸rfl
 |cons=>exact r.ex.elim λ_ e=>e.elim λ_ e=>e.1▸rfl
theorem Ok.kin(G:bp c K)(o:Ok c X A env fr μ σ s):K.In s.heap:=G.kin.keeps λb ob e=>o.stays b ob e
theorem zO{p:Addr×Addr}(e:h.get? p.1=some (instObj (c.clA k) p.2))(f:h.get? p.2=some od):InstAt h p.1 (instObj (c.clA k) p.2) (c.clA k) (some od):=⟨e,rfl,rfl,f⟩
theorem HN(h:wI o=some p):o=.inst p.1 p.2:=by cases o<;>first|exact ns h|exact af h▸rfl
@[elab_as_elim] theorem AO {P:Value->Prop} (o:Ok c X A env fr μ σ s) (hv:oj σ.H v=some p) (r:ad c X μ s.heap v x)
 (k:∀q m,gH σ.H p.1=some (.inst p.2.1 p.2.2)->aj μ p.1=some q->s.heap.get? q.1=some (instObj (c.clA p.2.1) q.2)->s.heap.Ns1 q.2 m->
  (∀x v,au p.2.2 x=some v->∃y,m (c.nm x)=some y/\ad c X μ s.heap v y)->(∀n y,m n=some y->∃x v,au p.2.2 x=some v/\n=c.nm x)->P (.ref q.1)):P x:=
 Ar o hv r λob q h1 h2 h3 ro=>by
  have e:=HN h2;subst e
  exact ro.2.elim λm z=>k q m h1 h3 ro.1 z.1 z.2.1 z.2.2
theorem Ov(G:bp c K)(o:Ok c X A env fr μ σ s){a:V}{x:Value}{Q:Value->Shared->Prop}(ra:ad c X μ s.heap a x)
 (h:ac c X A env fr (DV c X) μ s (Mh c.T a at_ σ) Q E):wpAny c.M A (getAttr x (c.nm at_) expr) Q E s:=
 bk h λp hp h=>bk h λcl hc h=>bB h λhb h=>bk h λv hv h=>bB h λnb h=>by
  refine AO o hp ra λq m _ _ hx ns z1 _=>?_
  have g:=G.attr p.2.1 cl at_ hc hb
  exact(z1 at_ v hv).elim λy w=>(rY ns.ns (c.nm at_)).elim λod d=>g.2.2.1.elim λat1 g3=>
   get_value (o.kin G) (zO hx d.1) (plainGet_of g.1).1 (findObj_own g.2.1 g3.1 g3.2 (d.2.trans (aq some w.1))) (qq G.opq w.2 nb) (h.ok (iy _) (o.tok _) w.2)
end
theorem Al(nm:Nat->Str)(e:Mine.E)(r:List Expr)(env:Env):starEach (an nm e::r) env=(false,eval (an nm e) env)::starEach r env:=by cases e<;>rfl
theorem Io(pos:Pos)(t:Sem Value)(r:List (Bool×Sem Value)):backTo pos ((false,t)::r)=(false,t)::backTo pos r:=rfl
section
variable{c:Cx}{X:Addr->Prop}{A:Around}{env:Env}{fr:Fr}{μ av:Mu}{σ ba:Sg}{s s':Shared}{E:Value->Shared->Prop}{n:Nat}{K:Frag}{ih:Ev}
theorem yr(S:SE c n ih.eE)(eo:aJ c n A env fr):∀(es:List Mine.E) {μ:Mu} {σ:Sg} {s:Shared} {Q:List Value->Shared->Prop},Ok c X A env fr μ σ s->ac c X A env fr (DL c X) μ s (jE ih fr es σ) Q E->
 wpAny c.M A (spliced (backTo pos (starEach (bC c.nm es) env))) Q E s
 |[],μ,σ,s,Q,o,h=>by
  exact Calls.spliced_nil (h.ok .refl o .nil)
 |e::r,μ,σ,s,Q,o,h=>by
  show wpAny c.M A (spliced (backTo pos (starEach (an c.nm e::bC c.nm r) env))) Q E s
  rw[Al,Io]
  refine Calls.spliced_cons (S X A env fr μ σ s e _ E eo o (ac.bind (D':=DV c X) h λv aM ao y s₁ n₁ aC bj h₁=>?_))
  exact yr S eo r aC (ac.bind (D':=DL c X) h₁ λvs σ₂ a9 ys aB bG bc dB bh=>bh.ok .refl bc (.cons (bj.nxt aC bG) dB))
theorem Vz(S:SE c n ih.eE)(eo:aJ c n A env fr)(o:Ok c X A env fr μ σ s){Q:Value->Shared->Prop}(h:ac c X A env fr (DV c X) μ s (Gu ih es fr σ) Q E):
 wpAny c.M A (eval (an c.nm (.tup es p)) env) Q E s:=by
 show wpAny c.M A (eval (.Tuple (bC c.nm es) 0 (aE p)) env) Q E s
 rw[arm_eval_Tuple]
 refine ah (fZ (ah (yr S eo es o (ac.bind (D':=DL c X) h λvs aM ao ys s₁ n₁ aC bj h₁=>WQ aC bj h₁))))
theorem XZ(S:SE c n ih.eE)(eo:aJ c n A env fr)(o:Ok c X A env fr μ σ s){Q:Value->Shared->Prop}(h:ac c X A env fr (DV c X) μ s (Ea ih es fr σ) Q E):
 wpAny c.M A (eval (an c.nm (.lst es p)) env) Q E s:=by
 show wpAny c.M A (eval (.List (bC c.nm es) (aE p)) env) Q E s
 rw[arm_eval_List]
 refine ah (fZ (ah (yr S eo es o (ac.bind (D':=DL c X) h λvs aM ao ys s₁ n₁ aC bj h₁=>UI aC bj h₁))))
theorem Uz(S:SE c n ih.eE)(eo:aJ c n A env fr)(o:Ok c X A env fr μ σ s){Q:Value->Shared->Prop}(h:ac c X A env fr (DV c X) μ s (Lp ih op l r fr σ) Q E):
 wpAny c.M A (eval (an c.nm (.bin op l r p)) env) Q E s:=
 wpAny_BinOp (S X A env fr μ σ s l _ E eo o (ac.bind (D':=DV c X) h λv aM ao y s₁ n₁ aC bj h₁=>
  S X A env fr ao aM s₁ r _ E eo aC (ac.bind (D':=DV c X) h₁ λw σ₂ a9 z aB bG bc dB bh=>T7 bc (bj.nxt aC bG) dB bh)))
theorem AW(eo:aJ c n A env fr):A.units+100<9900:=jI (fe (Nat.add_le_add_left (by decide:100<=400) _) eo.un) (by decide)
theorem vN(nm:Nat->Str)(op:CmpOp)(e:Mine.E):behindInMarks op (an nm e)=false:=by cases e<;>rfl
theorem OP(S:SE c n ih.eE)(eo:aJ c n A env fr)(o:Ok c X A env fr μ σ s){Q:Value->Shared->Prop}(h:ac c X A env fr (DV c X) μ s (LX ih op l r fr σ) Q E):
 wpAny c.M A (eval (an c.nm (.cmp op l r p)) env) Q E s:=
 wpAny_Compare1 (S X A env fr μ σ s l _ E eo o (ac.bind (D':=DV c X) h λv aM ao y s₁ n₁ aC bj h₁=>
  S X A env fr ao aM s₁ r _ E eo aC (ac.bind (D':=DV c X) h₁ λw σ₂ a9 z aB bG bc dB bh=>GJ bc (AW eo) (bj.nxt aC bG) dB bh))) (vN ..)
theorem Fe(G:bp c K)(ob:Mine.E)(a:Nat)(env:Env)(whole:Sem Value):attributeBase (an c.nm ob) (c.nm a) env whole=whole:=by
 unfold attributeBase
 cases ob with
 |call f es q=>
  cases f with
  |name x q'=>
   cases es with
   |nil=>exact aG (by have:=G.nosuper x;simp only[bne,this];rfl)
   |cons _ _=>rfl
  |_=>rfl
 |_=>rfl
theorem VF(G:bp c K)(S:SE c n ih.eE)(eo:aJ c n A env fr)(o:Ok c X A env fr μ σ s){Q:Value->Shared->Prop}(h:ac c X A env fr (DV c X) μ s (Gn c.T ih ob a fr σ) Q E):
 wpAny c.M A (eval (an c.nm (.attr ob a p)) env) Q E s:=by
 show wpAny c.M A (eval (.Attribute (an c.nm ob) (c.nm a) (aE p)) env) Q E s
 rw[arm_eval_Attribute,Fe G]
 refine ah (S X A env fr μ σ s ob _ E eo o (ac.bind (D':=DV c X) h λv aM ao y s₁ n₁ aC bj h₁=>?_))
 refine ah (fZ (ah (d9 (Ov G aC bj (h₁.imp λy aB q=>?_)))))
 exact ah (wpAny_letTemporaryGo (aS q))
theorem EB(nm:Nat->Str)(e:Mine.E)(o i:Value):subscripted (an nm e) false o i=operate [o,i] (getItem o i):=by cases e<;>rfl
theorem QE(S:SE c n ih.eE)(eo:aJ c n A env fr)(o:Ok c X A env fr μ σ s){Q:Value->Shared->Prop}(h:ac c X A env fr (DV c X) μ s (JN ih ob i fr σ) Q E):
 wpAny c.M A (eval (an c.nm (.sub ob i p)) env) Q E s:=
 PyProof.Rows.Subscript_ (S X A env fr μ σ s ob _ E eo o (ac.bind (D':=DV c X) h λv aM ao y s₁ n₁ aC bj h₁=>
  S X A env fr ao aM s₁ i _ E eo aC (ac.bind (D':=DV c X) h₁ λw σ₂ a9 z aB bG bc dB bh=>Yp bc (bj.nxt aC bG) dB (EB c.nm i) bh)))
theorem Wq(S:SE c n ih.eE)(eo:aJ c n A env fr)(o:Ok c X A env fr μ σ s){Q:Value->Shared->Prop}(h:ac c X A env fr (DV c X) μ s (JV ih x fr σ) Q E):
 wpAny c.M A (eval (an c.nm (.not x p)) env) Q E s:=by
 show wpAny c.M A (eval (.UnaryOp .Not (an c.nm x) (aE p)) env) Q E s
 rw[arm_eval_UnaryOp]
 refine ah (S X A env fr μ σ s x _ E eo o (ac.bind (D':=DV c X) h λv aM ao y s₁ n₁ aC bj h₁=>?_))
 refine ah (fZ (d9 ?_))
 unfold unaryOp
 exact bk h₁ λb hb h₁=>d9 (ah (xO aC bj hb λt=>aS (JF aC h₁ t)))
theorem Wd(S:SE c n ih.eE)(T:ST c n ih.eT)(eo:aJ c n A env fr)(o:Ok c X A env fr μ σ s){Q:Value->Shared->Prop}(h:ac c X A env fr (DV c X) μ s (ES ih t b e fr σ) Q E):
 wpAny c.M A (eval (an c.nm (.ife t b e p)) env) Q E s:=by
 show wpAny c.M A (eval (.IfExp (an c.nm t) (an c.nm b) (an c.nm e) (aE p)) env) Q E s
 rw[arm_eval_IfExp]
 refine ah (T X A env fr μ σ s t _ E eo o (ac.bind (D':=DB) h λv aM ao y s₁ n₁ aC bj h₁=>?_))
 have e:=bj
 subst e
 cases v with
 |true=>exact S X A env fr ao aM s₁ b _ E eo aC h₁
 |false=>exact S X A env fr ao aM s₁ _ _ E eo aC h₁
theorem Qr:boolOp pos (if a=true then BoolOp.And else BoolOp.Or) (evalEach (bC nm (e::e'::r)) env)=(do
 let v ← eval (an nm e) env
 standAt pos
 let t ← holding [v] (truthy v)
 aa (ot t a) (boolOp pos (if a=true then BoolOp.And else BoolOp.Or) (evalEach (bC nm (e'::r)) env)) (pure v)):=by
 show(do
  let v ← eval (an nm e) env
  standAt pos
  let t ← holding [v] (truthy v)
  match (if a=true then BoolOp.And else BoolOp.Or),t with
  |.And,false|.Or,true=>pure v
  |_,_=>boolOp pos (if a=true then BoolOp.And else BoolOp.Or) (evalEach (bC nm (e'::r)) env))=_
 refine aq _ (funext λv=>aq _ (funext λ_=>aq _ (funext λt=>?_)))
 cases a<;>cases t<;>rfl
theorem Qg(S:SE c n ih.eE)(eo:aJ c n A env fr)(es:List Mine.E):∀{μ:Mu} {σ:Sg} {s:Shared} {Q:Value->Shared->Prop},Ok c X A env fr μ σ s->ac c X A env fr (DV c X) μ s (B6 ih fr a es σ) Q E->
 wpAny c.M A (boolOp pos (if a then .And else .Or) (evalEach (bC c.nm es) env)) Q E s:=by
 induction es with
 |nil=>exact λ_ h=>h.elim
 |cons e r bP=>
  intro μ σ s Q o h
  cases r with
  |nil=>exact S X A env fr μ σ s e _ E eo o h
  |cons e' r=>
   rw[Qr]
   refine ah (S X A env fr μ σ s e _ E eo o (ac.bind (D':=DV c X) h λv aM ao y s₁ n₁ aC bj h₁=>ah (fZ (ah (d9 (bk h₁ λb ht h₁=>xO aC bj ht λt=>?_))))))
   exact gG h₁ (λe h₁=>(mP e).symm▸bP (aC.tok t) (h₁.shift (iy t))) λe h₁=>(l9 e).symm▸aS (h₁.ok (iy t) (aC.tok t) bj)
theorem Sh(S:SE c n ih.eE)(eo:aJ c n A env fr)(o:Ok c X A env fr μ σ s){Q:Value->Shared->Prop}(h:ac c X A env fr (DV c X) μ s (B6 ih fr a es σ) Q E):
 wpAny c.M A (eval (an c.nm (.bop a es p)) env) Q E s:=by
 show wpAny c.M A (eval (.BoolOp (if a then .And else .Or) (bC c.nm es) (aE p)) env) Q E s
 rw[arm_eval_BoolOp]
 exact Qg S eo es o h
theorem VK:allTrue (if a then .And else .Or) (bC nm (e::r)) env=(do
 let b ← isTrue (an nm e) env (eval (an nm e) env)
 aa (ot b a) (allTrue (if a then .And else .Or) (bC nm r) env) (pure b)):=by
 show(do
  match (if a=true then BoolOp.And else BoolOp.Or),← isTrue (an nm e) env (eval (an nm e) env) with
  |.And,false=>pure false
  |.Or,true=>pure true
  |_,_=>allTrue (if a then .And else .Or) (bC nm r) env)=_
 refine aq _ (funext λt=>?_)
 cases a<;>cases t<;>rfl
theorem ZV(T:ST c n ih.eT)(eo:aJ c n A env fr)(es:List Mine.E):∀{μ:Mu} {σ:Sg} {s:Shared} {Q:Bool->Shared->Prop},Ok c X A env fr μ σ s->ac c X A env fr DB μ s (Jp ih fr a es σ) Q E->
 wpAny c.M A (allTrue (if a then .And else .Or) (bC c.nm es) env) Q E s:=by
 induction es with
 |nil=>exact λo h=>(by cases a<;>rfl:(pure a:Sem Bool)=allTrue (if a then .And else .Or) (bC c.nm []) env)▸aS (ac.ok h .refl o rfl)
 |cons e r bP=>
  intro μ σ s Q o h
  rw[VK]
  refine ah (T X A env fr μ σ s e _ E eo o (ac.bind (D':=DB) h λv aM ao y s₁ n₁ aC bj h₁=>?_))
  subst bj
  exact gG h₁ (λe h₁=>(mP e).symm▸bP aC h₁) λe h₁=>(l9 e).symm▸aS (h₁.ok .refl aC rfl)
theorem JY{Q:Bool->Shared->Prop}(hm:behindInMarks op r=false)
 (h:wpAny M A (eval (.Compare l [op] [r] pos) env) (λv s₁=>wpAny M A (truthy v) Q E s₁) E s):wpAny M A (isTrue (.Compare l [op] [r] pos) env whole) Q E s:=λΓ p MF=>by
 have h1:=h Γ p MF
 simp only[eval_Compare1,isTrue_Compare1,markedBehindIn_of_false hm,Sem.wp_bind',Sem.wp_holding,Sem.wp_cmd_standAt,Sem.wp_operate] at h1 ⊢
 exact Sem.wp_mono M Γ _ (λa abT s₁ h₁=>Sem.wp_mono M Γ _ (λb _ aB bh=>Sem.wp_mono M Γ _ (λc aag dq cD=>cD Γ aag MF) (λ_ _ _ h'=>h') _ _ bh)
  (λ_ _ _ h'=>h') _ _ h₁) (λ_ _ _ h'=>h') _ _ h1
def PZ(e:Mine.E):Bool:=match e with|.not .. =>true|.bop .. =>true|.ife .. =>true|_=>false
theorem PL(S:SE c n ih.eE)(eo:aJ c n A env fr)(o:Ok c X A env fr μ σ s){Q:Bool->Shared->Prop}
 (he:PZ e=false)(h:ac c X A env fr DB μ s (fM ih e fr σ) Q E):wpAny c.M A (isTrue (an c.nm e) env (eval (an c.nm e) env)) Q E s:=by
 have h0:wpAny c.M A (eval (an c.nm e) env) (λv s₁=>wpAny c.M A (truthy v) Q E s₁) E s:=
  S X A env fr μ σ s e _ E eo o (ac.bind (D':=DV c X) h λv aM ao y s₁ n₁ aC bj h₁=>pI h₁ λb hb h₁=>xO aC bj hb λt=>h₁.ok (iy t) (aC.tok t) rfl)
 cases e with
 |not|bop|ife=>exact tf he
 |cmp op l r p=>exact JY (vN ..) h0
 |_=>exact wpAny_isTrue_value h0
theorem S0(S:SE c n ih.eE)(T:ST c n ih.eT)(eo:aJ c n A env fr)(o:Ok c X A env fr μ σ s){Q:Bool->Shared->Prop}(h:ac c X A env fr DB μ s (zL ih e fr σ) Q E):
 wpAny c.M A (isTrue (an c.nm e) env (eval (an c.nm e) env)) Q E s:=by
 cases e with
 |not x p=>
  have h:=h
  refine ah (T X A env fr μ σ s x _ E eo o (ac.bind (D':=DB) h λv aM ao y s₁ n₁ aC bj h₁=>?_))
  exact aS (h₁.ok .refl aC (aq not bj))
 |bop a es p=>exact ZV T eo es o h
 |ife t b d p=>
  have h:=h
  refine ah (T X A env fr μ σ s t _ E eo o (ac.bind (D':=DB) h λv aM ao y s₁ n₁ aC bj h₁=>?_))
  have e:=bj
  subst e
  cases v with
  |true=>exact T X A env fr ao aM s₁ b _ E eo aC h₁
  |false=>exact T X A env fr ao aM s₁ d _ E eo aC h₁
 |_=>exact PL S eo o rfl h
end
theorem KY{a:Addr}{P:Prop}(h:Value.ref a=.type t):P:=nomatch h
def mf(o:Obj):Prop:=∃vs,o.data=.fields vs/\(∀q t,vs[1]?≠some (.str q t))/\(o.cls=.type "traceback" \/∃a,o.cls=.ref a)
def nA(Fs:List Addr)(h':Heap)(b:Addr)(o:Obj):Prop:=h'.get? b=some o\/(b∈Fs/\∃sl,h'.get? b=some {o with slots:=sl})
theorem nA.some{Fs:List Addr}{h':Heap}{b:Addr}{o:Obj}(x:nA Fs h' b o):∃sl,h'.get? b=some {o with slots:=sl}:=x.elim (λq=>⟨o.slots,q⟩) λq=>q.2
theorem nA.not{Fs:List Addr}(x:nA Fs h' b o)(n:b∉Fs):h'.get? b=Option.some o:=x.elim id λq=>aV q.1 n
def fy(S:Addr->Prop)(Fs:List Addr)(h h':Heap):Prop:=fq h h'/\∀b o,h.get? b=some o->¬S b->nA Fs h' b o
theorem fy.trans{S:Addr->Prop}{Fs:List Addr}{h₁ bh cD:Heap}(a:fy S Fs h₁ bh)(b:fy S Fs bh cD):fy S Fs h₁ cD:=
 ⟨a.1.trans b.1,λx o e n=>(a.2 x o e n).elim (λq=>b.2 x o q n) λq=>q.2.elim λsl w=>(b.2 x _ w n).some.elim λCZ z=>.inr ⟨q.1,CZ,z⟩⟩
theorem fy.of_only{S:Addr->Prop}{Fs:List Addr}(a:aY S h h'):fy S Fs h h':=⟨a.1,λb o e n=>.inl (a.2 b o e n)⟩
theorem fy.mono{S T:Addr->Prop}{Fs:List Addr}(a:fy S Fs h h')(k:∀b,S b->T b):fy T Fs h h':=⟨a.1,λb o e n=>a.2 b o e λq=>n (k b q)⟩
theorem wt{h h':Heap}(x:h.Ns a m)(k:∀o,h.get? a=some o->∃sl,h'.get? a=some {o with slots:=sl}):h'.Ns a m:=
 x.elim λo x=>x.elim λes x=>x.elim λep x=>(k o x.1).elim λsl q=>⟨_,es,ep,q,x.2⟩
section
variable{c:Cx}{X:Addr->Prop}{A:Around}{env:Env}{fr:Fr}{μ av:Mu}{σ ba:Sg}{s s':Shared}{E:Value->Shared->Prop}{n:Nat}{K:Frag}{lo:Heap}
theorem Wc{S:Addr->Prop}(k:fy S (Fs A) h h')(hS:∀b o,S b->h.get? b=some o->mf o):iM (λ_=>False) (Fs A) h h':=
 ⟨k.1,λb o e _ v=>k.2 b o e λq=>v ((hS b o q e).imp λvs z=>⟨z.1,z.2.1,z.2.2.elim .inl λz=>.inr (.inl z)⟩)⟩
def vg(o:Obj):Prop:=∃vs,o.data=.fields vs/\(∀q t,vs[1]?≠some (.str q t))/\((∃T,o.cls=.type T/\T≠ "code")\/∃a,o.cls=.ref a)
theorem mf.sid(x:mf o):vg o:=x.imp λ_ z=>⟨z.1,z.2.1,z.2.2.imp (λe=>⟨_,e,by decide⟩) id⟩
theorem IW(x:vg o)(e:o.data=d)(k:∀vs,d≠.fields vs){P:Prop}:P:=x.elim λvs z=>aV (e.symm.trans z.1) (k vs)
def kw(X:Addr->Prop)(b:Addr)(o:Obj):Prop:=vg o\/(X b/\o.cls=.type "tuple" /\∃its n,o.data=.seq its n)
theorem Ce{b:Addr}(x:kw X b o)(m:gm o):False:=
 x.elim (λx=>x.elim λvs z=>mJ z.1 m) λx=>x.2.2.elim λits z=>z.elim λn d=>zE x.2.1 d m
theorem AS{b:Addr}(x:kw X b o)(h:o.data=.fields vs):vg o:=x.elim id λx=>x.2.2.elim λits z=>z.elim λn d=>nomatch h.symm.trans d
theorem Ik{b:Addr}(x:kw X b o)(h:o.data=.fields vs):∀q t,vs[1]?≠some (.str q t):=λq t e=>(AS x h).elim λws z=>z.2.1 q t (Data.fields.inj (h.symm.trans z.1)▸e)
theorem Ma{h h':Heap}(x:h.CodeRec cd q)(k:∀t o vs,h.get? t=some o->o.data=.fields vs->(∃q t,vs[1]?=some (.str q t))->∃sl,h'.get? t=some {o with slots:=sl}):h'.CodeRec cd q:=
 x.elim λt x=>x.elim λo x=>x.elim λvs x=>x.elim λtk x=>(k t o vs x.2.1 x.2.2.1 ⟨_,_,x.2.2.2⟩).elim λsl z=>⟨t,_,vs,tk,x.1,z,x.2.2⟩
theorem Ke{X' S:Addr->Prop}{Fs:List Addr}(k:∀b o,h.get? b=some o->¬S b->nA Fs h' b o)(hS:∀b o,S b->h.get? b=some o->kw X b o)(le:∀b,X' b->X b):di X X' h h' where
 tup:=λt its x hn=>x.elim λo x=>x.2.2.elim λn hd=>
  (k t o x.1 λq=>(hS t o q x.1).elim (λw=>IW w hd λ_ e=>nomatch e) λw=>hn.1 w.1).some.elim λsl q=>⟨⟨_,q,x.2.1,n,hd⟩,λw=>hn.1 (le _ w),_,q,hn.2.elim λo' e=>(bz x.1 e.1).symm▸e.2⟩
 fn:=λt o fd ho hc hd=>(k t o ho λq=>(hS t o q ho).elim (λw=>IW w hd λ_ e=>nomatch e) λw=>aV (hc.symm.trans w.2.1) (by decide)).some.elim λsl q=>⟨_,q,rfl,rfl⟩
 code:=λcd q x=>Ma x λt o vs ho hd e=>(k t o ho λw=>e.elim λq e=>e.elim λtk e=>Ik (hS t o w ho) hd q tk e).some
theorem Ok.exc0(x:Ok c X A env fr μ σ s){X' S:Addr->Prop}(k:∀b o,s.heap.get? b=some o->¬S b->nA (Fs A) s'.heap b o)(hS:∀b o,S b->s.heap.get? b=some o->kw X b o)(hB:∀b,S b->c.base.get? b=none)
 (le:∀b,X' b->X b)(xl:∀b,X' b->∃o,s'.heap.get? b=some o):Ok c X' A env fr μ σ s':=
 have st:=Ke k hS le
 x.frs.elim λl y=>
 have rL:∀{b},b∈Fs A->b∈Mine.frs l:=λq=>(kS y.1).mp q
 have exact1:=λb o e m=>(k b o e λq=>Ce (hS b o q e) m).not
 have MG:∀{i q},aj μ i=some q->∀b,b=q.1\/b=q.2->∀ob,s.heap.get? b=some ob->s'.heap.get? b=some ob:=λhq b w ob e=>
  have ow:=dR.mpr ⟨_,_,hq,w⟩
  exact1 b ob e (x.mut b ob e (.inl ow)) λr=>(y.2.2 b (rL r)).1 ow
 have fld:=λb o vs e d n=>(k b o e n).not λq=>(y.2.1.at (rL q)).elim λo' z=>z.2 vs (bz e z.1▸d)
 ⟨x.len,λi oi e=>(x.obj i oi e).imp λq z=>⟨z.1,z.2.keep (MG z.1 _ (.inl rfl)) (MG z.1 _ (.inr rfl)) st (.refl _)⟩,x.apart,λb hb=>⟨(x.new b hb).1,λw=>(x.new b hb).2 (le b w)⟩,
  nu x.ns (λm a=>wt a λo e=>(k _ o e λq=>Ce (hS _ o q e) (x.mut env.locals o e (.inr rfl))).some) st (.refl _),⟨x.lout.1,x.lout.2.1,λw=>x.lout.2.2 (le _ w)⟩,x.cells,
  λb o e=>(k b o (x.stays b o e) λq=>cg e (hB b q)).not λq=>(List.mem_filterMap.mp (rL q)).elim λe' he=>(y.2.1 e' he.1).2.elim λL z=>z.elim λo' z=>cg e (bz z.1 he.2▸z.2.1),
  ⟨l,y.1,y.2.1.keep λb hb o e n=>(k b o e λq=>(hS b o q e).elim (λw=>w.elim λvs w=>n vs w.1) λw=>(y.2.2 b hb).2 w.1).some.elim λsl q=>⟨_,q,n⟩,λb hb=>⟨(y.2.2 b hb).1,λw=>(y.2.2 b hb).2 (le b w)⟩⟩,
  λq hq=>have t:=x.tabs q hq
   ⟨t.1.imp λo=>bg λvs=>bg λfile=>bg λtf=>bg λflags=>bg λtg=>bg λrL=>bg λtext=>bg λtt w=>
    ⟨fld _ o vs w.1 w.2.2.1 λu=>(AS (hS _ o u w.1) w.2.2.1).elim λ_ v=>v.2.2.elim (λv=>v.elim λT v=>v.2 (Value.type.inj (v.1.symm.trans w.2.1))) λv=>v.elim λa v=>KY (v.symm.trans w.2.1),w.2⟩,
    t.2.imp λps w=>⟨fld _ _ _ w.1 rfl λu=>(AS (hS _ _ u w.1) rfl).elim λ_ v=>v.2.2.elim (λv=>v.elim λT v=>by have:=v.1;cases this) λv=>v.elim λa v=>(by cases v),
     w.2.keep λa z=>Ma z λt o vs ho hd e=>⟨o.slots,fld t o vs ho hd λw=>e.elim λq e=>e.elim λtk e=>Ik (hS t o w ho) hd q tk e⟩⟩⟩,
  λb hb=>⟨xl b hb,(x.xlt b (le b hb)).2⟩⟩
theorem Ok.exc(x:Ok c X A env fr μ σ s){S:Addr->Prop}(k:fy S (Fs A) s.heap s'.heap)(hS:∀b o,S b->s.heap.get? b=some o->kw X b o)(hB:∀b,S b->c.base.get? b=none):Ok c X A env fr μ σ s':=
 x.exc0 k.2 hS hB (λ_ q=>q) λb hb=>let⟨o,e⟩:=(x.xlt b hb).1;k.1 b o e
theorem aK.exc{S:Addr->Prop}(k:fy S (Fs A) s.heap s'.heap)(hS:∀b o,S b->s.heap.get? b=some o->mf o)(hg:s'.gens=s.gens)(ho:s'.os=s.os):aK A env μ μ s s':=
 ⟨.refl _,λ_ q=>.inl q,(Wc k hS).mono (λ_ _ _ f=>f.elim) λ_ _ _ q=>q,hg,ho⟩
theorem NP(h:e1.frame=e2.frame):PySem.frameOf e1=PySem.frameOf e2:=by unfold PySem.frameOf;rw[h]
theorem Oq{S:List Addr}(x:Heap.SlotsOnly S h h'):fy (λ_=>False) S h h':=
 ⟨λb o e=>let⟨sl,q⟩:=x.2.2 b o e;⟨_,q⟩,λb o e _=>by
  by_cases hb:b∈S
  · exact .inr ⟨hb,x.2.2 b o e⟩
  · exact .inl ((x.2.1 b hb).trans e)⟩
structure kq(c:Cx)(lo:Heap)(k:Nat)(dx:Addr)(e:Addr)(h:Heap)(oe:Obj)(vs:Array Value)(tb:Value):Prop where
 s1:h.get? e=some oe
 s2:oe.cls=.ref (c.clA k)
 s3:oe.dict=some dx
 s4:oe.data=.fields vs
 s5:4<vs.size
 s6:vs[1]?=some tb
 s7:∀q t,tb≠.str q t
 s8:tb=.none\/∃T oT ts,tb=.ref T/\B7 lo h e T oT ts
 s9:lo.get? e=none
def jT(h:Heap)(e:Addr):Prop:=∃oe vs T,h.get? e=some oe/\oe.data=.fields vs/\vs[1]?=some (.ref T)
theorem R7(f)(o:Obj):(Obj.mapFields f o).dict=o.dict:=by obtain⟨a,b,d,e⟩:=o;cases d<;>rfl
theorem kq.exo{oe:Obj}(x:kq c lo k dx e h oe vs tb):mf oe:=⟨vs,x.s4,λq t z=>x.s7 q t (bz x.s6 z),.inr ⟨_,x.s2⟩⟩
theorem oP.toS{oe:Obj}(x:oP c X μ lo k m v e h oe vs dx ms tb):kq c lo k dx e h oe vs tb:=⟨x.e1,x.e2,x.e3,x.e4,x.e5,x.e6,x.e7,x.e8,x.e9⟩
theorem oP.at{av:Mu}{h':Heap}{k:Nat}{m v:V}{e dx:Addr}{h:Heap}{oe oe':Obj}{vs vs':Array Value}{ms:Str->Option Value}{tb tb':Value}(x:oP c X μ lo k m v e h oe vs dx ms tb)(y:kq c lo k dx e h' oe' vs' tb')(no:¬own av dx)
 (hn:∀o,h.get? dx=some o->∃sl,h'.get? dx=some {o with slots:=sl})(r:∀v y,ad c X μ h v y->ad c X av h' v y):cC c X av lo k m v e h':=
 ⟨oe',vs',dx,ms,tb',y.s1,y.s2,y.s3,y.s4,y.s5,y.s6,y.s7,y.s8,y.s9,x.e10,no,wt x.e12 hn,x.e13.imp λ_ q=>⟨q.1,r _ _ q.2⟩,x.e14.imp λ_ q=>⟨q.1,r _ _ q.2⟩⟩
theorem F8{k:Nat}{oe:Obj}(x:kq c lo k dx e h oe vs tb)(h1:tb=.ref T)(y:B7 lo h e T oT ts)(v:Value):
 kq c lo k dx e (h.update T (Obj.mapFields (·.setIfInBounds 3 v))) oe vs tb/\fy (· =T) [] h (h.update T (Obj.mapFields (·.setIfInBounds 3 v)))/\mf oT:=
 have MH:=Heap.get?_update_self (Obj.mapFields (·.setIfInBounds 3 v)) y.t3 (Obj.isFreed_of_fields (Obj.data_mapFields y.t5 _))
 ⟨⟨(Heap.get?_update_other _ _ y.t1).trans x.s1,x.s2,x.s3,x.s4,x.s5,x.s6,x.s7,.inr ⟨T,_,_,h1,y.t1,y.t2,MH,(Obj.cls_mapFields _ _).trans y.t4,Obj.data_mapFields y.t5 _,Array.size_setIfInBounds.symm▸y.t6,λq t=>by rw[Array.getElem?_setIfInBounds_ne (by decide)];exact y.t7 q t⟩,x.s9⟩,
  fy.of_only (.at (λb o q n=>(Heap.get?_update_other _ _ (Ne.symm n)).trans q) λb q=>q.symm▸⟨_,MH⟩),⟨_,y.t5,y.t7,.inl y.t4⟩⟩
def w6(head:Value)(L:Addr)(pl:List Value):List Value:=[head,.ref L,.none,rawInt L,.none]++(if pl.isEmpty then List.replicate 6 .none else pl)
theorem Ij{k:Nat}{oe:Obj}{Q:Unit->Shared->Prop}(pX:A.frames=some (e0::l))(h0:e0.frame=some L)(hf:env.frame=some L)(ff:FF c.base (e0::l) s.heap)
 (x:kq c lo k dx e s.heap oe vs tb)(iB:fq lo s.heap)
 (hQ:∀h' oe' vs' T,kq c lo k dx e h' oe' vs' (.ref T)->fy (· =e) (Fs A) s.heap h'->Q () {s with heap:=h'}):
 wpAny c.M A (do let a ← PySem.frameOf env;let pl ← entryPlaceOf L b;let bb ← EntryCells.newEntry head a .none (rawInt L) .none pl;setField (.ref e) 1 bb) Q E s:=by
 have MI:=ff.funFrames
 have aah:=λhm=>(MI.mem hm).2.elim λob z=>z.2 vs (bz x.s1 z.1▸x.s4)
 rw[NP (e1:=env) (e2:=e0) (hf.trans h0.symm)]
 refine ah (wpAny_frameOf_fun pX MI h0 λh₁ MJ=>?_)
 refine ah (wpAny_entryPlaceOf λpl C3=>?_)
 unfold EntryCells.newEntry newFields
 refine ah (wpAny_newObj_type ?_ (C3.sizeOk5 _ _ _ _ _))
 have rM:=(MJ.2.1 e aah).trans x.s1
 have ML:=d7 (h:=h₁) {cls:=.type "traceback",dict:=none,data:=.fields (w6 head L pl).toArray} rM
 have cK:1<vs.size:=jI (by decide) x.s5
 refine wpAny_setField ML x.s4 cK ?_
 have MM:h₁.objs.size≠e:=λq=>Nat.lt_irrefl _ (q▸Heap.lt_size rM)
 have MN:=Obj.data_mapFields x.s4 (·.setIfInBounds 1 (Value.ref h₁.objs.size))
 have MO:=Heap.get?_update_self (Obj.mapFields (·.setIfInBounds 1 (Value.ref h₁.objs.size))) ML (Obj.isFreed_of_fields MN)
 have aai:=(Heap.get?_update_other (h₁.push {cls:=.type "traceback",dict:=none,data:=.fields (w6 head L pl).toArray})
  (Obj.mapFields (·.setIfInBounds 1 (Value.ref h₁.objs.size))) (Ne.symm MM)).trans (dX h₁ rfl)
 have st:fy (λ_=>False) (Fs A) s.heap h₁:=(show Fs A=Mine.frs (e0::l) from by unfold Fs;rw[pX])▸Oq MJ
 exact hQ _ _ _ h₁.objs.size ⟨MO,(Obj.cls_mapFields _ _).trans x.s2,(R7 _ _).trans x.s3,MN,Array.size_setIfInBounds.symm▸x.s5,Array.getElem?_setIfInBounds_self_of_lt cK,λq t z=>(nomatch z),
  .inr ⟨h₁.objs.size,_,_,rfl,MM,(iB.trans st.1).none (cY _),aai,rfl,rfl,by unfold w6;rw[List.size_toArray,List.length_append];exact Nat.lt_of_lt_of_le (by decide:3<5) (gI _ _),λq t z=>by unfold w6 at z;simp at z⟩,x.s9⟩
  ((st.mono λ_ f=>f.elim).trans (fy.of_only (.at (λbb ob q nn=>(Heap.get?_update_other _ _ (Ne.symm nn)).trans (d7 _ q)) λbb q=>q.symm▸⟨_,MO⟩)))
theorem RW(eo:aJ c n A env fr){k:Nat}{oe:Obj}{Q:Unit->Shared->Prop}(ff:∀l,A.frames=some l->FF c.base l s.heap)
 (x:kq c lo k dx e s.heap oe vs tb)(iB:fq lo s.heap)
 (hQ:∀h' oe' vs' T S,kq c lo k dx e h' oe' vs' (.ref T)->fy S (Fs A) s.heap h'->(∀b,S b->lo.get? b=none/\∃o,s.heap.get? b=some o/\mf o)->Q () {s with heap:=h'}):
 wpAny c.M A (noteFrame (.ref e) env) Q E s:=by
 obtain⟨e0,outer,L,pX,h0,hf⟩:=eo.frame
 have MP:lo.get? e=none/\∃o,s.heap.get? e=some o/\mf o:=⟨x.s9,oe,x.s1,x.exo⟩
 unfold noteFrame
 simp only[hf]
 refine ah (wpAny_field x.s1 x.s4 x.s6 ?_)
 rcases x.s8 with q|⟨T,oT,ts,q,y⟩
 · subst q
   rw[ax (by decide)]
   exact Ij pX h0 hf (ff _ pX) x iB λh' oe' vs' T x' st=>hQ h' oe' vs' T _ x' st λb q=>q.symm▸MP
 · subst q
   rw[aG (show(Value.ref T !=Value.none)=true from rfl)]
   refine ah (wpAny_field y.t3 y.t5 (Array.getElem?_eq_getElem y.t6) ?_)
   by_cases hm:(ts[3]'y.t6==rawInt L)=true
   · rw[aG hm]
     exact aS (hQ s.heap oe vs T (λ_=>False) x ⟨.refl _,λb o q _=>.inl q⟩ λb q=>q.elim)
   · rw[ax hm]
     have m:=F8 x rfl y .none
     refine ah (wpAny_setField y.t3 y.t5 y.t6 ?_)
     have aaj:=(ff _ pX).keep λb hb o e n=>⟨o,(m.2.1.2 b o e λq=>n ts (bz y.t3 (q▸e)▸y.t5)).not (λq=>nomatch q),n⟩
     exact Ij (s:={s with heap:=s.heap.update T (Obj.mapFields (·.setIfInBounds 3 .none))}) pX h0 hf aaj m.1 (iB.trans m.2.1.1) λh' oe' vs' T' x' st=>
      hQ h' oe' vs' T' (λb=>b=e\/b=T) x' ⟨m.2.1.1.trans st.1,λb ob q nb=>st.2 b ob ((m.2.1.2 b ob q λz=>nb (.inr z)).not λq=>nomatch q) λz=>nb (.inl z)⟩
       λb q=>q.elim (λq=>q.symm▸MP) λq=>q.symm▸⟨y.t2,oT,y.t3,m.2.2⟩
theorem Iw(hb:c.base.StaysIn lo)(q:lo.get? b=none):c.base.get? b=none:=Option.eq_none_iff_forall_ne_some.mpr λob z=>cg (hb b ob z) q
theorem EO{h:Heap}(x:h.Ns a m)(e:h.get? a=some o)(d:o.data=.fields vs){P:Prop}:P:=
 x.elim λo' x=>x.elim λes x=>x.elim λep x=>nomatch (bz e x.1▸d).symm.trans x.2.1
theorem Ca(eo:aJ c n A env fr)(o:Ok c X A env fr μ σ s){Q:Unit->Shared->Prop}(x:cC c X μ lo k m v e s.heap)(iB:fq lo s.heap)(hb:c.base.StaysIn lo)
 (hQ:∀s',aK A env μ μ s s'->Ok c X A env fr μ σ s'->cC c X μ lo k m v e s'.heap->jT s'.heap e->Q () s'):
 wpAny c.M A (noteFrame (.ref e) env) Q E s:=
 x.ex.elim λoe x=>x.elim λvs x=>x.elim λdx x=>x.elim λms x=>x.elim λtb x=>o.frs.elim λl fl=>
 RW eo (λl' hH=>bz fl.1 hH▸fl.2.1) x.toS iB λh' oe' vs' T S x' st hS=>
  have rN:=λb ob q e=>(hS b q).2.elim λo' z=>bz z.1 e▸z.2
  have nx:aK A env μ μ s {s with heap:=h'}:=aK.exc st rN rfl rfl
  hQ _ nx (o.exc st (λb ob q e=>.inl (rN b ob q e).sid) λb q=>Iw hb (hS b q).1) (x.at x' x.e11 (λob e=>(st.2 dx ob e λq=>(rN dx ob q e).elim λws z=>EO x.e12 e z.1).some) λ_ _ r=>r.nxt o nx)
   ⟨oe',vs',T,x'.s1,x'.s4,x'.s6⟩
theorem sQ(o:Ok c X A env fr μ σ s){k:Nat}{Q:Unit->Shared->Prop}(x:cC c X μ lo k m v e s.heap)(iB:fq lo s.heap)(hb:c.base.StaysIn lo)
 (hQ:∀s',aK A env μ μ s s'->Ok c X A env fr μ σ s'->cC c X μ lo k m v e s'.heap->(jT s.heap e->jT s'.heap e)->Q () s'):
 wpAny c.M A (setFlight (.ref e) f) Q E s:=by
 obtain⟨oe,vs,dx,ms,tb,x⟩:=x.ex
 unfold setFlight
 refine ah (wpAny_field x.e1 x.e4 x.e6 ?_)
 rcases x.e8 with q|⟨T,oT,ts,q,y⟩
 · subst q
   rw[ax (by decide)]
   exact aS (hQ s .refl o ⟨_,_,_,_,_,x⟩ λq=>q)
 · subst q
   rw[aG (show(Value.ref T !=Value.none)=true from rfl)]
   have m:=F8 x.toS rfl y (f.elim .none λg=>rawInt g)
   refine wpAny_setField y.t3 y.t5 y.t6 ?_
   generalize s.heap.update T (Obj.mapFields (·.setIfInBounds 3 (f.elim .none λg=>rawInt g)))=h' at m ⊢
   have st:fy (· =T) (Fs A) s.heap h':=⟨m.2.1.1,λb ob q nn=>.inl ((m.2.1.2 b ob q nn).not λz=>nomatch z)⟩
   have rN:∀b ob,b=T->s.heap.get? b=some ob->mf ob:=λb ob q e=>bz y.t3 (q▸e)▸m.2.2
   have nx:aK A env μ μ s {s with heap:=h'}:=aK.exc st rN rfl rfl
   exact hQ _ nx (o.exc st (λb ob q e=>.inl (rN b ob q e).sid) λb q=>q.symm▸Iw hb y.t2) (x.at m.1 x.e11 (λob e=>(st.2 dx ob e λq=>EO x.e12 (q▸y.t3) y.t5).some) λ_ _ r=>r.nxt o nx)
    λ_=>⟨oe,vs,T,m.1.s1,m.1.s4,m.1.s6⟩
end
section
variable{c:Cx}{X:Addr->Prop}{A:Around}{env:Env}{fr:Fr}{μ av:Mu}{σ ba:Sg}{s s':Shared}{E:Value->Shared->Prop}{n:Nat}{K:Frag}{ih:Ev}
theorem VP(eo:aJ c n A env fr)(o:Ok c X A env fr μ σ s){lo:Heap}(x:cC c X μ lo k m v e s.heap)(iB:fq lo s.heap)(hb:c.base.StaysIn lo)(ht:jT s.heap e)
 (hE:∀s',aK A env μ μ s s'->Ok c X A env fr μ σ s'->cC c X μ lo k m v e s'.heap->jT s'.heap e->E (.ref e) s'):cameBackBy c.M A env E (.ref e) s:=by
 obtain⟨oe,vs,T,h1,h2,h3⟩:=ht
 unfold cameBackBy
 refine ah (wpAny_field h1 h2 h3 ?_)
 rw[ax (show ¬(Value.ref T==Value.none)=true from by simp)]
 exact sQ o x iB hb λs' n' o' x' t'=>hE s' n' o' x' (t' ⟨oe,vs,T,h1,h2,h3⟩)
theorem KB(eo:aJ c n A env fr)(o:Ok c X A env fr μ σ s){lo:Heap}(x:cC c X μ lo k m v e s.heap)(iB:fq lo s.heap)(hb:c.base.StaysIn lo)
 (hE:∀s',aK A env μ μ s s'->Ok c X A env fr μ σ s'->cC c X μ lo k m v e s'.heap->jT s'.heap e->E (.ref e) s'):notedBy c.M A env E (.ref e) s:=
 Ca eo o x iB hb λs' n' o' x' t'=>hE s' n' o' x' t'
theorem ac.loopE(eo:aJ c n A env fr)(o:Ok c X A env fr μ σ s){α β:Type}{D:Mu->Heap->α->β->Prop}{r:R α}{Q:β->Shared->Prop}(h:ac c X A env fr D μ s r Q E):
 ac c X A env fr D μ s r Q (notedBy c.M A env (cameBackBy c.M A env E)):=by
 cases r with
 |ok a ba=>exact h
 |stuck=>exact h
 |exc k m v ba=>
  intro av s' e nx o' x
  refine KB eo o' x nx.keep.1 o.stays λs₁ n₁ aC vz yF=>?_
  refine VP eo aC vz (nx.keep.1.trans n₁.keep.1) o.stays yF λaB bG bc k9 _=>?_
  exact h av aB e (nx.trans (n₁.trans bG)) bc k9
@[elab_as_elim] theorem vq {P:Fl->Flow->Prop} (r:DF c X μ h f y) (k1:P .next .next) (k2:∀v w,ad c X μ h v w->P (.ret v) (.ret w)):P f y:=by
 cases f with
 |next=>cases y with
  |next=>exact k1
  |_=>exact r.elim
 |ret v=>cases y with
  |ret w=>exact k2 v w r
  |_=>exact r.elim
theorem om(S:SS c n ih.eS)(eo:aJ c n A env fr)(b:List Mine.S):∀{μ:Mu} {σ:Sg} {s:Shared} {E:Value->Shared->Prop} {Q:Flow->Shared->Prop},Ok c X A env fr μ σ s->ac c X A env fr (DF c X) μ s (Mine.execs ih fr b σ) Q E->
 wpAny c.M A (PySem.execs (cU c.nm b) env) Q E s:=by
 induction b with
 |nil=>exact λo h=>wpAny_execs_nil (ac.ok h (y:=Flow.next) .refl o trivial)
 |cons st r bP=>
  intro μ σ s E Q o h
  refine wpAny_execs_cons (S X A env fr μ σ s st _ E eo o (ac.bind (D':=DF c X) h λf aM ao y s₁ n₁ aC bj h₁=>?_))
  revert h₁
  exact vq bj (λh₁=>bP aC h₁) λv w r h₁=>ac.ok h₁ (y:=Flow.ret w) .refl aC r
theorem Yl(S:SS c n ih.eS)(T:ST c n ih.eT)(eo:aJ c n A env fr)(o:Ok c X A env fr μ σ s){Q:Flow->Shared->Prop}(h:ac c X A env fr (DF c X) μ s (Gv ih t b e fr σ) Q E):
 wpAny c.M A (exec (cS c.nm (.ifS t b e p)) env) Q E s:=by
 refine wpAny_If (T X A env fr μ σ s t _ E eo o (ac.bind (D':=DB) h λv aM ao y s₁ n₁ aC bj h₁=>?_))
 have e:=bj
 subst e
 cases v with
 |true=>exact om S eo b aC h₁
 |false=>exact om S eo _ aC h₁
theorem QN(S:SE c n ih.eE)(eo:aJ c n A env fr)(o:Ok c X A env fr μ σ s){Q:Flow->Shared->Prop}(h:ac c X A env fr (DF c X) μ s (Fz ih e fr σ) Q E):
 wpAny c.M A (exec (cS c.nm (.ret e p)) env) Q E s:=
 wpAny_Return_some (S X A env fr μ σ s e _ E eo o (ac.bind (D':=DV c X) h λv aM ao y s₁ n₁ aC bj h₁=>h₁.ok (y:=Flow.ret y) .refl aC bj))
theorem Ob(eo:aJ c n A env fr):interactive env=false:=by
 unfold interactive;rw[eo.kfun];rfl
theorem Tz(S:SE c n ih.eE)(eo:aJ c n A env fr)(o:Ok c X A env fr μ σ s){Q:Flow->Shared->Prop}(h:ac c X A env fr (DF c X) μ s (F5 ih e fr σ) Q E):
 wpAny c.M A (exec (cS c.nm (.expr e p)) env) Q E s:=
 gG h (λ_ h=>h.elim) λhc h=>
  wpAny_Expr_any (S X A env fr μ σ s e _ E eo o (ac.bind (D':=DV c X) h λv aM ao y s₁ n₁ aC bj h₁=>h₁.ok (y:=Flow.next) .refl aC trivial)) (Ob eo) (by cases e<;>first|rfl|exact tf hc)
theorem RB{body orelse:List Stmt}{R:Result->Shared->Prop}
 (turn:wpAny c.M A (isTrue test env (eval test env)) (λb aB=>
  if b then wpAny c.M A (PySem.execs body env) (λf dq=>match f with
   |.next|.cont=>codeAny c.M A (.whileLoop test body orelse env) R dq
   |.brk=>R (.ok .next) dq
   |.ret v=>R (.ok (.ret v)) dq) (notedBy c.M A env λe s'=>R (.error e) s') aB
  else wpAny c.M A (PySem.execs orelse env) (λf dq=>R (.ok f) dq) (notedBy c.M A env λe s'=>R (.error e) s') aB)
  (notedBy c.M A env λe s'=>R (.error e) s') s):codeAny c.M A (.whileLoop test body orelse env) R s:=by
 refine codeAny_of_tree ?_
 refine wpAny_noted ?_
 simp only[whileTurn]
 refine ah (wpAny_mono turn (λb aB bh=>?_) λ_ _ h'=>h')
 cases b with
 |false=>
  simp only[Bool.false_eq_true,if_false] at bh ⊢
  exact ah (wpAny_mono bh (λf dq cD=>aS cD) λ_ _ h'=>h')
 |true=>
  simp only[if_true] at bh ⊢
  refine ah (wpAny_mono bh (λf dq cD=>?_) λ_ _ h'=>h')
  cases f with
  |next=>exact aS ⟨rfl,cD⟩
  |cont=>exact aS ⟨rfl,cD⟩
  |brk=>exact aS cD
  |ret v=>exact aS cD
theorem OH(S:SS c n ih.eS)(T:ST c n ih.eT)(W:SW c n ih.eW)(eo:aJ c n A env fr)(o:Ok c X A env fr μ σ s){t:Mine.E}{Q:Flow->Shared->Prop}(h:ac c X A env fr (DF c X) μ s (Am ih t b fr σ) Q E):
 codeAny c.M A (.whileLoop (an c.nm t) (cU c.nm b) [] env) (λr s'=>match r with|.ok f=>Q f s'|.error e=>cameBackBy c.M A env E e s') s:=by
 refine RB (T X A env fr μ σ s t _ _ eo o ((ac.bind (D':=DB) h λv aM ao y s₁ n₁ aC bj h₁=>?_).loopE eo o))
 have e:=bj
 subst e
 cases v with
 |true=>
  refine om S eo b aC ((ac.bind (D':=DF c X) h₁ λf σ₂ a9 y aB bG bc dB bh=>?_).loopE eo aC)
  revert bh
  exact vq dB (λbh=>W X A env fr a9 σ₂ aB t b Q E eo bc bh) λv w r bh=>ac.ok bh (y:=Flow.ret w) .refl bc r
 |false=>exact wpAny_execs_nil (ac.ok h₁ (y:=Flow.next) .refl aC trivial)
theorem UE(W:SW c n ih.eW)(eo:aJ c n A env fr)(o:Ok c X A env fr μ σ s){Q:Flow->Shared->Prop}(h:ac c X A env fr (DF c X) μ s (ih.eW t b fr σ) Q E):
 wpAny c.M A (exec (cS c.nm (.while t b p)) env) Q E s:=
 wpAny_While (W X A env fr μ σ s t b Q E eo o h)
end
section
variable{c:Cx}{X:Addr->Prop}{A:Around}{env:Env}{fr:Fr}{μ av:Mu}{σ ba:Sg}{s s':Shared}{E:Value->Shared->Prop}{n:Nat}{K:Frag}{ih:Ev}
theorem EK(inj:∀i j,c.nm i=c.nm j->i=j){m:Str->Option Value}{x:Nat}(z:∀u w,au r u=some w->∃y,m (c.nm u)=some y/\ad c X μ h w y)(rv:ad c X μ h v y):
 ∀u w,au (kR r x v) u=some w->∃z,(if c.nm u=c.nm x then some y else m (c.nm u))=some z/\ad c X μ h w z:=λu w hw=>by
 rw[pA] at hw
 by_cases e:x=u
 · rw[aG e] at hw;exact⟨y,aG (aq c.nm e.symm),af hw▸rv⟩
 · rw[ax e] at hw;rw[ax λq=>e (inj _ _ q).symm];exact z u w hw
theorem Kp{E':Value->Shared->Prop}(k0:∀x,au fr.sc x=some 0->env.kindOf (c.nm x)=some .local)(k1:∀x,au fr.sc x=some 1->env.kindOf (c.nm x)=some .cell)(kfun:env.scope.kind=.function)(o:Ok c X A env fr μ σ s){Q:Unit->Shared->Prop}(inj:∀i j,c.nm i=c.nm j->i=j)(rv:ad c X μ s.heap v y)
 (h:ac c X A env fr DU μ s (qX fr x v σ) Q E):wpAny c.M B (storeName env (c.nm x) y) Q E' s:=
 bk h λk hk h=>gG h
  (λhb h=>o.ns.elim λm z=>wpAny_storeName_local (k0 x (bx.mp hb▸hk)) z.1 (λh' bI sb=>(bI.imp λo x=>x.elim λes x=>x.elim λep x=>x.1:∃o,h'.get? env.locals=some o).elim λod e=>
   have k:=aY.same sb e
   ac.ok h (y:=()) (aK.locs (s':=⟨h',s.gens,s.drawn,s.toks+1,s.os⟩) k rfl rfl) (o.locs k ⟨_,bI,EK inj z.2 rv⟩) trivial) (by rw[kfun];rfl))
  λ_ h=>bB h λhb h=>bk h λl hl h=>bk h λob ho h=>bk h λu hu h=>(Mb o hl ho hu).elim λp q=>q.2.2.2.elim λy0 w=>
   wpAny_storeName_cell kfun (k1 x (bx.mp hb▸hk)) q.2.1 w.1 λh' hy' sb=>hy'.elim λoc e=>
    have k:=(aY.same sb e.1).mono λ_ _ _ q=>.inl q
    have nx:aK A env μ μ s ({s with heap:=h'}:Shared):=aK.put q.1 k rfl rfl
    ac.ok h (y:=()) nx (o.put q.1 k ⟨q.2.2.1,some y,⟨oc,e⟩,rv.nxt o nx⟩) trivial
theorem Ly(eo:aJ c n A env fr)(o:Ok c X A env fr μ σ s){Q:Unit->Shared->Prop}(inj:∀i j,c.nm i=c.nm j->i=j)(rv:ad c X μ s.heap v y)(h:ac c X A env fr DU μ s (qX fr x v σ) Q E):
 wpAny c.M A (storeName env (c.nm x) y) Q E s:=Kp eo.k0 eo.k1 eo.kfun o inj rv h
theorem DK:∀(es:List DictEntry) (l:List Str),(es.Pairwise λa b=>∀n,a.key.isStr n=true->b.key.isStr n=true->False)->(∀e∈es,∃n,e.key.isStr n=true/\n∈l)->es.length<=l.length
 |[],_,_,_=>Nat.zero_le _
 |e::r,l,pw,k=>by
  obtain⟨n,h1,h2⟩:=k e (.head _)
  rw[List.pairwise_cons] at pw
  have:=DK r (l.erase n) pw.2 λe' MQ=>by
   obtain⟨n',h3,h4⟩:=k e' (.tail _ MQ)
   exact⟨n',h3,(List.mem_erase_of_ne λq:n'=n=>pw.1 e' MQ n h1 (by rw[← q];exact h3)).mpr h4⟩
  rw[List.length_erase_of_mem h2] at this
  have:=List.length_pos_of_mem h2
  rw[List.length_cons];omega
theorem Af{h:Heap}(x:h.Ns1 a m){l:List Str}(hl:∀n y,m n=some y->n∈l):∃o es ep,h.get? a=some o/\o.data=.dict es ep/\es.size<=l.length:=by
 obtain⟨o,es,ep,ho,hd,hk,hu,hm⟩:=x
 refine⟨o,es,ep,ho,hd,?_⟩
 rw[← Array.length_toList]
 refine DK _ _ hu λe he=>?_
 obtain⟨n,t,q⟩:=hk e (Array.mem_toList_iff.mp he)
 have hn:e.key.isStr n=true:=by rw[q];exact beq_self_eq_true n
 refine⟨n,hn,?_⟩
 cases hf:nsFind es n with
 |some y=>exact hl n y ((hm n).symm.trans hf)
 |none=>
  unfold nsFind findBy at hf
  rw[Option.map_eq_none_iff,Array.find?_eq_none] at hf
  exact aV hn (hf e (Array.mem_toList_iff.mp he))
theorem Vm{w:V}(h:au l u=some w):c.nm u∈l.map λq=>c.nm q.1:=by
 induction l with
 |nil=>exact ns h
 |cons q r ih=>
  have h:=h
  rw[dy] at h
  by_cases e:q.1=u
  · exact e▸.head _
  · rw[ax e] at h;exact .tail _ (ih h)
theorem V3{m:Str->Option Value}{v:V}(z:∀n y,m n=some y->∃x v,au r x=some v/\n=c.nm x):
 ∀n w,(if n=c.nm x then some y else m n)=some w->∃u w',au (kR r x v) u=some w'/\n=c.nm u:=λn w hw=>by
 by_cases e:n=c.nm x
 · exact⟨x,v,by rw[pA,aG rfl],e⟩
 · exact(z n w ((ax e).symm.trans hw)).imp λu=>bg λw' q=>⟨by rw[pA,ax λq':x=u=>e (q.2.trans (q'▸rfl))];exact q.1,q.2⟩
theorem Tp{h:Heap}(hx:h.get? a=some (instObj k b))(x:h.Ns1 b m):a≠b:=λw=>by
 obtain⟨ob,_,_,e1,e2,_⟩:=x
 have e:=bz (w▸hx) e1
 subst e;cases e2
theorem TC(G:bp c K)(o:Ok c X A env fr μ σ s){a v:V}{x y:Value}{at_:Nat}{Q:Unit->Shared->Prop}(ra:ad c X μ s.heap a x)(rv:ad c X μ s.heap v y)(h:ac c X A env fr DU μ s (Ko c.T a at_ v σ) Q E):
 wpAny c.M A (setAttr x (c.nm at_) y) Q E s:=
 bk h λp hp h=>bk h λcl hc h=>bB h λhb h=>bB h λaal h=>by
  refine AO o hp ra λq m _ hq hx vA z1 z2=>?_
  have g:=G.attr p.2.1 cl at_ hc hb
  obtain⟨od,d⟩:=rY vA.ns (c.nm at_)
  have I:=zO hx d.1
  obtain⟨cd,pY,j9⟩:=any_some g.2.1
  have kin:=(o.tok (s.toks+1)).kin G
  refine set_plain (o.kin G) I g.2.2.2.1 (osa_open (s:={s with toks:=s.toks+1}) kin I g.2.2.2.2.1 g.2.2.2.2.2 λb=>?_)
  refine ah (aS (ah (ah (wpAny_loadPart hx (ah ((looks_clsIn kin pY).here ?_))))))
  rw[j9]
  refine aS (a:=some q.2) (ah (aS (ah (wpAny_nsSet1 vA λh' bI sb=>?_))))
  have k2:=V3 (x:=at_) (v:=v) (y:=y) z2
  obtain⟨oe,es,ep,e,dd,hs⟩:=Af (l:=(kR p.2.2 at_ v).map λq=>c.nm q.1) bI λnn w hw=>(k2 nn w hw).elim λu q=>q.elim λw' q=>q.2▸Vm q.1
  rw[List.length_map] at hs
  refine ah (wpAny_lookBehind e (by rw[dd];exact pastItsLine_dict (Nat.le_succ_of_le (gs (fe hs (gy.mp aal))))) (aS ?_))
  have ne:=Tp hx vA
  have kk:aY (λb=>b=q.1\/b=q.2) s.heap h':=(aY.same sb e).mono λ_ _ _ q=>.inr q
  have nx:aK A env μ μ s ({s with heap:=h',toks:=s.toks+1+1}:Shared):=aK.put hq kk rfl rfl
  exact ac.ok h (y:=()) nx (o.put hq kk ⟨(sb.2 _ ne).trans hx,_,bI,λu w hw=>(EK G.inj z1 rv u w hw).imp λz q=>⟨q.1,q.2.nxt o nx⟩,k2⟩) trivial
theorem Oi{K:Type}[DecidableEq K]{a:K}{l:List (K×Value)}(k:K)(v:Value)(nd:((a,b)::l).map (·.1) |>.Nodup):stored ((a,b)::l) k v=if a=k then(a,v)::l else(a,b)::stored l k v:=by
 unfold stored
 by_cases h:a=k
 · subst h
   have hn:∀q∈l,q.1≠a:=λq hq e=>(List.nodup_cons.mp nd).1 (e▸List.mem_map.mpr ⟨q,hq,rfl⟩)
   have hm:l.map (λkv=>if kv.1=a then(kv.1,v) else kv)=l:=(List.map_congr_left λq hq=>ax (hn q hq)).trans (List.map_id l)
   rw[aG rfl,aG (by simp),List.map_cons,aG rfl,hm]
 · rw[ax h,List.any_cons,decide_eq_false h,Bool.false_or,List.map_cons,ax h]
   split<;>rfl
theorem Wf{K:Type}[DecidableEq K]{knd:KeyKind prog w K}{h:Heap}{l:List (K×Value)}(x:h.DictOf knd a l):(l.map (·.1)).Nodup:=by obtain⟨_,_,_,_,_,_,_,_,nd⟩:=x;exact nd
theorem BY{h:Heap}{y:Value}{k:List Nat}(rv:ad c X μ h v y){l:List (Str×Value)}(z:ay (lX c X μ h) bF l):(l.map (·.1)).Nodup->ay (lX c X μ h) (nM bF k v) (stored l (aW k) y):=by
 induction z with
 |nil=>exact λ_=>.cons ⟨rfl,rv⟩ .nil
 | @cons a b r q e z ih=>
  intro nd
  have es:nM (a::r) k v=aa (seq a.1 k) ((a.1,v)::r) (a::nM r k v):=rfl
  have et:stored (b::q) (aW k) y=if b.1=aW k then(b.1,y)::q else b::stored q (aW k) y:=Oi (a:=b.1) (b:=b.2) _ _ nd
  rw[es,et]
  by_cases h:a.1=k
  · rw[fj.mpr h,aG (e.1.trans (aq aW h))]
    exact .cons ⟨e.1,rv⟩ z
  · rw[Eb h,ax λq=>h (kW (e.1.symm.trans q))]
    exact .cons e (ih (List.nodup_cons.mp nd).2)
theorem OJ(o:Ok c X A env fr μ σ s){Q:Unit->Shared->Prop}(ra:ad c X μ s.heap a x)(ri:ad c X μ s.heap i j)(rv:ad c X μ s.heap v y)(h:ac c X A env fr DU μ s (Gj a i v σ) Q E):
 wpAny c.M A (setItem x j y) Q E s:=
 fu h (λp hp h=>bk h λw hw h=>bk h λk hk h=>bB h λhf h=>by
  refine fh o hp ra λl its _ hq hl0 hz cK=>?_
  refine iE hw ri λt=>?_
  obtain⟨ep,hl⟩:=hl0
  rw[bH,← cz hz] at hk
  have bd:=Ba hk cK
  have pl:=wq hk
  have eV:∀kk,kk=k->Q () {s with heap:=s.heap.update l (Obj.mapSeq (·.setIfInBounds kk y))}:=λkk ek=>by
   subst ek
   have e:=IsL.update (n:=ep) hl (·.setIfInBounds kk y)
   have k1:aY (λb=>b=l\/b=l) s.heap (s.heap.update l (Obj.mapSeq (·.setIfInBounds kk y))):=(aY.same (Heap.SameBut.update ..) e).mono λ_ _ _ q=>.inl q
   have nx:aK A env μ μ s ({s with heap:=s.heap.update l (Obj.mapSeq (·.setIfInBounds kk y))}:Shared):=aK.put hq k1 rfl rfl
   exact ac.ok h (y:=()) nx (o.put hq k1 ⟨rfl,_,⟨_,e⟩,by rw[Array.toList_setIfInBounds,FA];exact(hz.nxt o nx).set kk v y (rv.nxt o nx),Array.size_setIfInBounds.symm▸cK⟩) trivial
  rcases pl.2 with e|e
  · exact ki_setAt (n:=ep) hl (e▸Int.natCast_nonneg k) bd.2 (e▸Int.ofNat_lt.mpr pl.1) (eV _ (e▸rfl))
  · exact ki_setBack (n:=ep) hl e.1 e.2.1 bd.1 (eV _ (e.2.2▸rfl)))
  λh=>bk h λp hp h=>bk h λk hk h=>bB h λhf h=>by
   refine lQ o hp ra λd l _ hq d1 e1 z1 cK=>?_
   refine fV hk ri λt=>?_
   refine wpAny_setItem_pairs (strKind_is _ _ _ _) e1 (λh' e sb=>?_) (gs cK)
   obtain⟨od,e0⟩:∃o,h'.get? d=some o:=e.imp λo x=>x.elim λes x=>x.elim λep x=>x.1
   have k1:aY (λb=>b=d\/b=d) s.heap h':=(aY.same sb e0).mono λ_ _ _ q=>.inl q
   have nx:aK A env μ μ s ({s with heap:=h',toks:=s.toks+1}:Shared):=aK.put hq k1 rfl rfl
   have z2:=BY (k:=k) (rv.nxt o nx) (z1.mono λ_ _ q=>⟨q.1,q.2.nxt o nx⟩) (Wf e1)
   exact ac.ok h (y:=()) nx (o.put hq k1 ⟨rfl,d1,_,e,z2,z2.length▸gy.mp hf⟩) trivial
end
section
variable{c:Cx}{X:Addr->Prop}{A:Around}{env:Env}{fr:Fr}{μ av:Mu}{σ ba:Sg}{s s':Shared}{E:Value->Shared->Prop}{n:Nat}{K:Frag}{ih:Ev}
def SA(c:Cx)(n:Nat)(f:Fr->Mine.E->V->Sg->R Unit):Prop:=∀X A env fr μ σ s t v y Q E,aJ c n A env fr->Ok c X A env fr μ σ s->ad c X μ s.heap v y->ac c X A env fr DU μ s (f fr t v σ) Q E->wpAny c.M A (PySem.assign (an c.nm t) env y) Q E s
theorem By(G:bp c K)(S:SE c n ih.eE):SA c n (vh c.T ih):=by
 intro X A env fr μ σ s t v y Q E eo o rv h
 cases t with
 |name x p=>exact assign_Name (Ly eo o G.inj rv h)
 |attr ob a p=>
  have h:=h
  show wpAny c.M A (PySem.assign (.Attribute (an c.nm ob) (c.nm a) (aE p)) env y) Q E s
  rw[arm_assign_Attribute]
  refine ah (d9 (S X A env fr μ σ s ob _ E eo o (ac.bind (D':=DV c X) h λw aM ao z s₁ n₁ aC bj h₁=>?_)))
  exact ah (fZ (ah (d9 (TC G aC bj (rv.nxt o n₁) (h₁.imp λ_ _ q=>wpAny_release q)))))
 |sub ob i p=>
  have h:=h
  show wpAny c.M A (PySem.assign (.Subscript (an c.nm ob) (an c.nm i) (aE p)) env y) Q E s
  rw[arm_assign_Subscript]
  refine ah (d9 (S X A env fr μ σ s ob _ E eo o (ac.bind (D':=DV c X) h λw aM ao z s₁ n₁ aC bj h₁=>?_)))
  refine ah (d9 (S X A env fr ao aM s₁ i _ E eo aC (ac.bind (D':=DV c X) h₁ λw' σ₂ a9 z' aB bG bc dB bh=>?_)))
  exact ah (fZ (ah (d9 (OJ bc (bj.nxt aC bG) dB ((rv.nxt o n₁).nxt aC bG) (bh.imp λ_ _ q=>wpAny_release q)))))
 |_=>exact h.elim
theorem xj(nm:Nat->Str)(e:Mine.E)(r:List Expr)(env:Env):assignEach (an nm e::r) env=(false,PySem.assign (an nm e) env)::assignEach r env:=by cases e<;>rfl
theorem Yj(nm:Nat->Str)(env:Env)(es:List Mine.E):(assignEach (bC nm es) env).length=es.length:=by
 induction es with
 |nil=>rfl
 |cons e r ih=>exact(aq List.length (xj nm e (bC nm r) env)).trans (aq Nat.succ ih)
theorem V2(nm:Nat->Str)(env:Env)(es:List Mine.E):(assignEach (bC nm es) env).findIdx? (·.1)=none:=by
 induction es with
 |nil=>rfl
 |cons e r ih=>show(assignEach (an nm e::bC nm r) env).findIdx? _=_;rw[xj,List.findIdx?_cons,ih];rfl
theorem Pe(F:SA c n f)(eo:aJ c n A env fr)(es:List Mine.E):∀{vs:List V} {ys:List Value} {μ:Mu} {σ:Sg} {s:Shared} {Q:Unit->Shared->Prop},
 Ok c X A env fr μ σ s->ay (ad c X μ s.heap) vs ys->ac c X A env fr DU μ s (r7 (f fr) es vs σ) Q E->wpAny c.M A (assignInOrder ((assignEach (bC c.nm es) env).map (·.2)) ys) Q E s:=by
 induction es with
 |nil=>
  intro vs ys μ σ s Q o z h
  cases z with
  |nil=>exact aS (h.ok (y:=()) .refl o trivial)
  |cons _ _=>exact h.elim
 |cons t r bP=>
  intro vs ys μ σ s Q o z h
  cases z with
  |nil=>exact h.elim
  |cons rv z=>
   show wpAny c.M A (assignInOrder ((assignEach (an c.nm t::bC c.nm r) env).map (·.2)) (_::_)) Q E s
   rw[xj,List.map_cons]
   exact wpAny_assignInOrder_more (F X A env fr μ σ s t _ _ _ E eo o rv (ac.bind (D':=DU) h λ_ aM ao y s₁ n₁ aC _ h₁=>bP aC (z.nxt o n₁) h₁))
theorem I9(x:Heap.ExtBut h.objs.size h h'):aY (λ_=>False) h h':=.of λb o e=>x b o (Nat.ne_of_lt (Heap.lt_size e)) e
theorem EX(F:SA c n f)(eo:aJ c n A env fr)(o:Ok c X A env fr μ σ s){Q:Unit->Shared->Prop}(rv:ad c X μ s.heap v y)
 (h:ac c X A env fr DU μ s (so (f fr) es v σ) Q E):wpAny c.M A (PySem.assign (an c.nm (.tup es p)) env y) Q E s:=
 bB h λht h=>bB h λhl h=>((iw ht).mp rv).elim λa z=>z.elim λits z=>by
  have hn:(assignEach (bC c.nm es) env).length=its.size:=by
   rw[Yj,← Array.length_toList,z.2.2.2.length,← bH,← bH]
   exact bx.mp hl
  rw[z.1]
  exact wpAny_assign_Tuple eo.handled z.2.1 hn (V2 ..) λh' e=>
   have k:=I9 e
   have nx:aK A env μ μ s ({s with heap:=h'}:Shared):=aK.add k rfl rfl
   Pe F eo es (o.add k) (z.2.2.2.nxt o nx) (h.shift nx)
theorem tT(h:k6 e=some es):∃p,e=.tup es p:=by cases e<;>first|exact ns h|exact⟨_,aq (E.tup · _) (af h)⟩
theorem Ra(G:bp c K)(S:SE c n ih.eE):SA c n (pT c.T ih):=λX A env fr μ σ s t v y Q E eo o rv h=>
 fu h (λes he h=>(tT he).elim λp e=>e▸EX (f:=vh c.T ih) (By G S) eo o rv h) λh=>By G S X A env fr μ σ s _ v y Q E eo o rv h
theorem xx(G:bp c K)(S:SE c n ih.eE):SA c n (Mine.assign c.T ih):=λX A env fr μ σ s t v y Q E eo o rv h=>
 fu h (λes he h=>(tT he).elim λp e=>e▸EX (f:=pT c.T ih) (Ra G S) eo o rv h) λh=>By G S X A env fr μ σ s _ v y Q E eo o rv h
theorem Ok.same_r(o:Ok c X A env fr μ σ s)(h:∀x v,au r x=some v->au σ.r x=some v):Ok c X A env fr μ ⟨σ.H,r⟩ s:=
 ⟨o.len,o.obj,o.apart,o.new,o.ns.imp λm y=>⟨y.1,λx v e=>y.2 x v (h x v e)⟩,o.lout,o.cells,o.stays,o.frs,o.tabs,o.xlt⟩
theorem KR(k:∀e,f e=true->g (an nm e)=false)(es:List Mine.E):es.any f=true->(bC nm es).all g=false:=by
 induction es with
 |nil=>exact λh=>ft h
 |cons e r ih=>exact λh=>Bool.and_eq_false_iff.mpr ((Bool.or_eq_true_iff.mp h).imp (k e) ih)
theorem xG(G:bp c K)(h:tW e=true)(n:Nat):constantsAlone n (an c.nm e)=false:=by
 cases e<;>first|exact ft h|exact Nat.casesOn n rfl λ_=>rfl|exact Nat.casesOn n (G.nodebug _) λ_=>G.nodebug _
theorem Uj(G:bp c K)(h:ya e=true):constantsAlone 8 (an c.nm e)=false:=by
 cases e with
 |sub o i p=>exact Bool.and_eq_false_iff.mpr (.inl (xG G h 7))
 |bin op l r p=>exact Bool.and_eq_false_iff.mpr (.inl (xG G h 7))
 |tup es p=>exact KR (λe h=>xG G h 7) es h
 |_=>refine xG G ?_ 8;exact h
end
section
variable{c:Cx}{X:Addr->Prop}{A:Around}{env:Env}{fr:Fr}{μ av:Mu}{σ ba:Sg}{s s':Shared}{E:Value->Shared->Prop}{n:Nat}{K:Frag}{ih:Ev}
def pz(env:Env)(line:Nat):Expr->Option Str:=λ
 |.Name id pos=>if env.kindOf id==some .local&&pos.line==line then some id else none
 |_=>none
theorem yb{α:Type}{P:α->Prop}{x y:α}(hx:P x)(hy:b=false->P y):P (if b=true then x else y):=by
 cases b with|false=>exact hy rfl|true=>exact hx
def KQ(env:Env)(ts:List Expr)(z:Sem (Option (List Str))):Prop:=z=pure none\/∃line,(ts.filterMap (pz env line)).length=ts.length/\z=pure (some (ts.filterMap (pz env line)))
theorem Rb{a b:Nat}(hc:vs.all (constantsAlone 8)=false):KQ env ts (swappedStores [.Tuple ts a p] (.Tuple vs b q) env):=
 yb (P:=KQ env ts) (Or.inl rfl) λ_=>yb (Or.inl rfl) λ_=>yb (Or.inl rfl) λh=>yb (Or.inl rfl) λ_=>Or.inr ⟨_,bne_eq_false_iff_eq.mp (Bool.or_eq_false_iff.mp h).1,ax (Bool.eq_false_iff.mp hc)⟩
abbrev uZ(e:Mine.E)(x:Nat):Prop:=∃p,e=.name x p
theorem Cu(h:sU e=some x):uZ e x:=by cases e<;>first|exact ns h|exact⟨_,aq (E.name · _) (af h)⟩
theorem R9(ts:List Mine.E):∀{xs:List Nat},yz ts=some xs->ay uZ ts xs:=by
 induction ts with
 |nil=>exact λh=>af h▸.nil
 |cons t r ih=>exact λh=>on h λx hx h=>on h λl hl h=>af h▸.cons (Cu hx) (ih hl)
theorem TW(h:(pz env line (.Name (c.nm x) (aE p))).isSome=true):pz env line (.Name (c.nm x) (aE p))=some (c.nm x)/\env.kindOf (c.nm x)=some .local:=by
 have e:pz env line (.Name (c.nm x) (aE p))=if env.kindOf (c.nm x)==some .local&&(aE p).line==line then some (c.nm x) else none:=rfl
 rw[e] at h ⊢
 cases hb:(env.kindOf (c.nm x)==some .local&&(aE p).line==line) with
 |true=>exact⟨rfl,beq_iff_eq.mp (Bool.and_eq_true_iff.mp hb).1⟩
 |false=>rw[hb] at h;exact ft h
theorem XW(z:ay uZ ts xs):(∀e∈bC c.nm ts,(pz env line e).isSome=true)->(bC c.nm ts).filterMap (pz env line)=xs.map c.nm/\∀x∈xs,env.kindOf (c.nm x)=some .local:=by
 induction z with
 |nil=>exact λ_=>⟨rfl,λ_ h=>nomatch h⟩
 |cons e _ ih=>
  intro h
  obtain⟨p,e⟩:=e
  subst e
  have i:=ih λe he=>h e (.tail _ he)
  have w:=TW (h _ (.head _))
  exact⟨(List.filterMap_cons_some w.1).trans (aq _ i.1),bD ⟨w.2,i.2⟩⟩
theorem H5(eo:aJ c n A env fr)(hk:env.kindOf (c.nm x)=some .local)(v:V)(σ:Sg):qX fr x v σ=.ok () ⟨σ.H,kR σ.r x v⟩:=by
 unfold qX;rw[eo.kk x hk];rfl
theorem ct(h:aa b true x=false):b=false/\x=false:=by cases b with|true=>exact tf h|false=>exact⟨rfl,h⟩
theorem cf(h:aa b false x=true):b=false/\x=true:=by cases b with|true=>exact ft h|false=>exact⟨rfl,h⟩
noncomputable abbrev pk(r:List (Nat×V))(p:Nat×V):List (Nat×V):=kR r p.1 p.2
theorem NJ(ps:List (Nat×V)):eJ p.1 (ps.map (·.1))=false->au (ps.foldr (λq r=>pk r q) (pk r p)) y=if p.1=y then some p.2 else au (ps.foldr (λq r=>pk r q) r) y:=by
 induction ps with
 |nil=>exact λ_=>pA ..
 |cons q t ih=>
  intro h
  have h2:=ct (h)
  rw[List.foldr_cons,List.foldr_cons,pA,pA,ih h2.2]
  by_cases e:q.1=y
  · rw[aG e,aG e,ax λw=>dY.mp h2.1 (w.trans e.symm)]
  · rw[ax e,ax e]
theorem Tj(ps:List (Nat×V)):∀{r:List (Nat×V)},lw (ps.map (·.1))=true->au (ps.foldl pk r) y=au (ps.foldr (λq r=>pk r q) r) y:=by
 induction ps with
 |nil=>exact λ_=>rfl
 |cons p t ih=>
  intro r h
  have h2:=cf (h)
  rw[List.foldl_cons,ih h2.2,NJ t h2.1,List.foldr_cons,pA]
theorem Xc(G:bp c K)(eo:aJ c n A env fr){Q:Unit->Shared->Prop}:∀{ys:List Value} {μ:Mu} {σ:Sg} {s:Shared},(∀p∈ps,env.kindOf (c.nm p.1)=some .local)->Ok c X A env fr μ σ s->ay (λp y=>ad c X μ s.heap p.2 y) ps ys->
 (∀av s',aK A env μ av s s'->Ok c X A env fr av ⟨σ.H,ps.foldl pk σ.r⟩ s'->Q () s')->wpAny c.M A (assignInOrder ((ps.map λp=>c.nm p.1).map λn=>bindName env n) ys) Q E s:=by
 induction ps with
 |nil=>exact λhx o z hQ=>by cases z with|nil=>exact wpAny_assignInOrder_none (hQ _ _ .refl o)
 |cons p r bP=>
  intro ys μ σ s hx o z hQ
  cases z with
  |cons rv z=>
   exact wpAny_assignInOrder_more (wpAny_bindName (Ly eo o G.inj rv (by
    rw[H5 eo (hx p (.head _))]
    exact λao s₁ _ n₁ aC _=>bP (λq hq=>hx q (.tail _ hq)) aC (z.mono λ_ _ q=>q.nxt o n₁) λa9 aB bG bc=>hQ a9 aB (n₁.trans bG) bc)))
theorem Q3(eo:aJ c n A env fr)(z:ay uZ ts xs):(∀x∈xs,env.kindOf (c.nm x)=some .local)->∀{vs:List V} {σ:Sg},xs.length=vs.length->r7 (pT T ih fr) ts vs σ=.ok () ⟨σ.H,(xs.zip vs).foldl pk σ.r⟩:=by
 induction z with
 |nil=>intro _ vs σ h;cases vs with|nil=>rfl|cons=>exact nomatch h
 | @cons _ _ tr _ e _ yE=>
  intro hx vs σ h
  obtain⟨p,e⟩:=e
  subst e
  cases vs with
  |nil=>exact nomatch h
  |cons v r=>exact(aq (λz=>R.bind z λ_ s'=>r7 (pT T ih fr) tr r s') (H5 eo (hx _ (.head _)) v σ)).trans (yE (λx h=>hx x (.tail _ h)) (Nat.succ.inj h))
theorem ay.reverse{α β:Type}{P:α->β->Prop}{l:List α}{m:List β}(x:ay P l m):ay P l.reverse m.reverse:=by
 induction x with
 |nil=>exact .nil
 |cons p _ ih=>rw[List.reverse_cons,List.reverse_cons];exact ih.append (.cons p .nil)
theorem ay.zip{α β γ:Type}{P:α->β->Prop}{l:List α}{m:List β}(x:ay P l m):∀{k:List γ},k.length=l.length->ay (λp y=>P p.2 y) (k.zip l) m:=by
 induction x with
 |nil=>exact λ{k} h=>by rw[List.zip_nil_right];exact .nil
 |cons p _ ih=>exact λ{k} h=>by cases k with|nil=>exact nomatch h|cons=>exact .cons p (ih (Nat.succ.inj h))
theorem WV(G:bp c K)(eo:aJ c n A env fr)(o:Ok c X A env fr μ σ s){xs:List Nat}{ts:List Mine.E}{Q:Unit->Shared->Prop}(hv:xs.length=vs.length)
 (hd:lw xs=true)(hx:∀x∈xs,env.kindOf (c.nm x)=some .local)(hts:ay uZ ts xs)(z:ay (ad c X μ s.heap) vs ys)
 (h:ac c X A env fr DU μ s (r7 (pT c.T ih fr) ts vs σ) Q E):wpAny c.M A (assignInOrder ((xs.map c.nm).reverse.map λn=>bindName env n) ys.reverse) Q E s:=by
 rw[Q3 eo hts hx hv] at h
 have e:(xs.map c.nm).reverse=(xs.zip vs).reverse.map λp=>c.nm p.1:=by
  rw[List.map_reverse];exact aq List.reverse ((aq (List.map c.nm) (List.map_fst_zip (Nat.le_of_eq hv)).symm).trans List.map_map)
 rw[e]
 refine Xc G eo (λp hp=>hx _ (List.of_mem_zip (List.mem_reverse.mp hp)).1) o (z.zip hv).reverse λao s₁ n₁ aC=>ac.ok h n₁ (aC.same_r λy v e=>?_) trivial
 rw[List.foldl_reverse,← Tj _ (by rw[List.map_fst_zip (Nat.le_of_eq hv)];exact hd)]
 exact e
end
section
variable{c:Cx}{X:Addr->Prop}{A:Around}{env:Env}{fr:Fr}{μ av:Mu}{σ ba:Sg}{s s':Shared}{E:Value->Shared->Prop}{n:Nat}{K:Frag}{ih:Ev}
theorem Xa(h:k6 t=none)(hl:(!Li t)=true)(v:Expr):swappedStores [an c.nm t] v env=pure none:=by cases t<;>first|rfl|exact sn h|exact ft hl
theorem N2(h:k6 v=none):swappedStores [.Tuple ts a p] (an c.nm v) env=pure none:=by cases v<;>first|rfl|exact sn h
theorem NL(eo:aJ c n A env fr)(o:Ok c X A env fr μ σ s){Q:List Value->Shared->Prop}(ht:b9 v=true)(rv:ad c X μ s.heap v y)(hk:k=(gC v).length)
 (hQ:∀s' ys,aK A env μ μ s s'->Ok c X A env fr μ σ s'->ay (ad c X μ s'.heap) (gC v) ys->Q ys s'):wpAny c.M A (unpackItems y k none) Q E s:=
 ((iw ht).mp rv).elim λa z=>z.elim λits z=>z.1▸hk▸z.2.2.2.length▸wpAny_unpackItems_tuple eo.handled z.2.1 λh' e=>
  have k:=I9 e
  have nx:aK A env μ μ s ({s with heap:=h'}:Shared):=aK.add k rfl rfl
  hQ _ _ nx (o.add k) (z.2.2.2.nxt o nx)
theorem CI(G:bp c K)(S:SE c n ih.eE)(eo:aJ c n A env fr)(o:Ok c X A env fr μ σ s){Q:Flow->Shared->Prop}(fm:wD t v=true)(hs:swapsWithSole [an c.nm t] (an c.nm v) (aE p).line env=pure false)
 (ev:∀{Q E},ac c X A env fr (DV c X) μ s r Q E->wpAny c.M A (eval (an c.nm v) env) Q E s)
 (h:ac c X A env fr (DF c X) μ s (r.bind λx s=>(Mine.assign c.T ih fr t x s).bind λ_ s=>.ok .next s) Q E):wpAny c.M A (exec (cS c.nm (.assign t v p)) env) Q E s:=by
 have plain:=λhw=>
  wpAny_Assign_stores (ev (ac.bind (D':=DV c X) h λx aM ao y s₁ n₁ aC bj h₁=>by
   rw[xj]
   exact xx G S X A env fr ao aM s₁ t x y _ E eo aC bj (ac.bind (D':=DU) h₁ λ_ σ₂ a9 _ aB bG bc _ bh=>bh.ok (y:=Flow.next) .refl bc trivial))) hs hw
 unfold wD at fm
 cases ht:k6 t with
 |none=>rw[ht] at fm;exact plain (Xa ht fm _)
 |some ts=>
  obtain⟨p1,e1⟩:=tT ht
  subst e1
  cases hv:k6 v with
  |none=>exact plain (N2 hv)
  |some vs=>
   obtain⟨p2,e2⟩:=tT hv
   subst e2
   have fm:aa (vs.any ya) (Option.rec false lw (yz ts)) false=true:=fm
   cases hh:vs.any ya with
   |false=>rw[hh] at fm;exact ft fm
   |true=>
    rw[hh] at fm
    cases hx:yz ts with
    |none=>rw[hx] at fm;exact ft fm
    |some xs=>
     rw[hx] at fm
     have z:=R9 ts hx
     refine(Rb (env:=env) (ts:=bC c.nm ts) (a:=0) (b:=0) (p:=aE p1) (q:=aE p2) (KR (λe h=>Uj G h) vs hh)).elim plain λw=>w.elim λline w=>?_
     have k:=XW z (List.filterMap_length_eq_length.mp w.1)
     have w2:=w.2
     rw[k.1] at w2
     refine Assign_Tuple_swapped (ev (ac.bind (D':=DV c X) h λx aM ao y s₁ n₁ aC bj h₁=>?_)) hs w2
     have h₁:ac c X A env fr (DF c X) ao s₁ ((so (pT c.T ih fr) ts x aM).bind λ_ s=>.ok .next s) Q E:=h₁
     unfold so at h₁
     cases ht:b9 x with
     |false=>rw[ht] at h₁;exact h₁.elim
     |true=>
      cases hn:Nat.beq (len ts) (len (gC x)) with
      |false=>rw[ht,hn] at h₁;exact h₁.elim
      |true=>
       rw[ht,hn] at h₁
       have hn:=z.length.trans (bH ts▸bH (gC x)▸bx.mp hn)
       rw[List.length_map]
       exact NL eo aC ht bj hn λaB ys bG bc w=>
        WV G eo bc hn fm k.2 z w (ac.bind (D':=DU) (h₁.shift bG) λ_ yG jw _ dq lc hJ _ cD=>cD.ok (y:=Flow.next) .refl hJ trivial)
theorem Zt(h:we v=false):swapsWithSole [an c.nm t] (an c.nm v) l env=pure false:=by cases v<;>first|rfl|exact tf h
theorem ZT(G:bp c K)(S:SE c n ih.eE)(eo:aJ c n A env fr)(o:Ok c X A env fr μ σ s){Q:Flow->Shared->Prop}(hc:we v=false)
 (h:ac c X A env fr (DF c X) μ s (BM c.T ih t v fr σ) Q E):wpAny c.M A (exec (cS c.nm (.assign t v p)) env) Q E s:=
 bB h λfm h=>CI G S eo o (r:=ih.eE v fr σ) fm (Zt hc) (λ{Q E} h=>S X A env fr μ σ s v Q E eo o h) (by unfold Lk at h;rw[hc] at h;exact h)
end
def SV(c:Cx)(n:Nat)(f:V->List V->Sg->R V):Prop:=∀X A env fr μ σ s fv vs x xs Q E,aJ c (n+1) A env fr->Ok c X A env fr μ σ s->ad c X μ s.heap fv x->ay (ad c X μ s.heap) vs xs->ac c X A env fr (DV c X) μ s (f fv vs σ) Q E->
 (∃k,(k=Keeper.frame\/k=Keeper.machine\/k=Keeper.boundFrame)/\Looks c.M s.heap (keeperOf x) k)/\wpAny c.M A (PySem.call x xs) Q E s
structure nc(c:Cx)(A:Around)(x:Value)(name:Str)(f:Value)(first:List Value)(s:Shared):Prop where
 get:∀pl Q E,Q (f,first) s->wpAny c.M A (getMethod x name pl) Q E s
section
variable{c:Cx}{X:Addr->Prop}{A:Around}{env:Env}{fr:Fr}{μ av:Mu}{σ ba:Sg}{s s':Shared}{E:Value->Shared->Prop}{n:Nat}{K:Frag}{ih:Ev}
theorem EI(nm:Nat->Str)(env:Env)(pos:Pos)(es:List Mine.E):(backTo pos (starEach (bC nm es) env)).any (·.1)=false:=by
 induction es with
 |nil=>rfl
 |cons e r ih=>show(backTo pos (starEach (an nm e::bC nm r) env)).any _=_;rw[Al];exact ih
theorem UH(nm:Nat->Str)(es:List Mine.E):(bC nm es).length=es.length:=by induction es with|nil=>rfl|cons e r ih=>exact aq (· +1) ih
theorem tL(S:SE c n ih.eE)(eo:aJ c n A env fr)(o:Ok c X A env fr μ σ s){Q:Value->Shared->Prop}
 (h:ac c X A env fr (DL c X) μ s (jE ih fr es σ) (λys s₁=>(∃k,(k=Keeper.frame\/k=Keeper.machine\/k=Keeper.boundFrame)/\Looks c.M s₁.heap (keeperOf f) k)/\wpAny c.M A (PySem.call f (first++ys)) Q E s₁) E):
 wpAny c.M A (callWith pos f first (backTo pos (starEach (bC c.nm es) env)) []) Q E s:=by
 refine callWith_of (P:=λh=>∃k,(k=Keeper.frame\/k=Keeper.machine\/k=Keeper.boundFrame)/\Looks c.M h (keeperOf f) k) (by rw[EI];rfl) (λ_ x=>x) ?_
 cases es with
 |nil=>exact evalArgs_nil3 (h.ok .refl o .nil)
 |cons e r=>
  have q:=yr (pos:=pos) S eo (e::r) o h
  have e1:backTo pos (starEach (bC c.nm (e::r)) env)=(false,eval (an c.nm e) env)::backTo pos (starEach (bC c.nm r) env):=by
   show backTo pos (starEach (an c.nm e::bC c.nm r) env)=_
   rw[Al,Io]
  rw[e1] at q ⊢
  exact Calls.evalArgs_plain q
theorem S8(S:SE c n ih.eE)(C:SV c n (xF c.T ih))(eo:aJ c (n+1) A env fr)(o:Ok c X A env fr μ σ s){Q:Value->Shared->Prop}(hf:Mc f=none)
 (h:ac c X A env fr (DV c X) μ s (D6 c.T ih f es fr σ) Q E):wpAny c.M A (eval (an c.nm (.call f es p)) env) Q E s:=by
 refine Call_ (S X A env fr μ σ s f _ E eo.of_succ o (ac.bind (D':=DV c X) h λfv aM ao x s₁ n₁ aC bj h₁=>?_)) (by cases f<;>first|rfl|exact sn hf)
 exact tL S eo.of_succ aC (ac.bind (D':=DL c X) h₁ λvs σ₂ a9 ys aB bG bc dB bh=>C X A env fr a9 σ₂ aB fv vs x ys Q E eo bc (bj.nxt aC bG) dB bh)
theorem I8(S:SE c n ih.eE)(eo:aJ c n A env fr)(o:Ok c X A env fr μ σ s){Q:Value->Shared->Prop}
 (hl:Nat.beq (aE p).endLine (aE q).line=true)(hn:Nat.blt (len es) 30=true)(M:nc c A x (c.nm a) f first s)
 (h:ac c X A env fr (DL c X) μ s (jE ih fr es σ) (λys s₁=>(∃k,(k=Keeper.frame\/k=Keeper.machine\/k=Keeper.boundFrame)/\Looks c.M s₁.heap (keeperOf f) k)/\wpAny c.M A (PySem.call f (first++ys)) Q E s₁) E):
 wpAny c.M A (methodCall (an c.nm ob) (c.nm a) (aE p) (aE q) env x ((bC c.nm es).length+([]:List Keyword).length) (backTo (aE q) (starEach (bC c.nm es) env)) (backToKw (aE q) (keywordEach [] env))) Q E s:=by
 have C4:methodCallForm ((bC c.nm es).length+([]:List Keyword).length) (backTo (aE q) (starEach (bC c.nm es) env)) (backToKw (aE q) (keywordEach [] env))=true:=by
  have h1:(backTo (aE q) (starEach (bC c.nm es) env)).all (λx=> !x.1)=true:=List.all_eq_true.mpr λt ht=>by rw[Bool.eq_false_iff.mpr (List.any_eq_false.mp (EI c.nm env (aE q) es) t ht)];rfl
  have h2:(bC c.nm es).length+0<30:=by rw[UH,← bH];exact cF hn
  unfold methodCallForm
  rw[h1]
  exact decide_eq_true h2
 have C5:methodCallPos true (an c.nm ob) env (aE p) (aE q)=pure (aE q):=by
  unfold methodCallPos
  rw[beq_iff_eq.mpr (bx.mp hl)];rfl
 unfold methodCall
 rw[C4]
 refine ah (d9 (M.get _ _ _ ?_))
 refine ah (wpAny_of_eq C5 ?_)
 exact tL S eo o h
theorem G3(G:bp c K)(o:Ok c X A env fr μ σ s)(hk:Nat.blt k c.T.nfn=true):∃j,(j=Keeper.frame\/j=Keeper.machine\/j=Keeper.boundFrame)/\Looks c.M s.heap (keeperOf (.ref (c.fnA k))) j:=
 keeps_K (G.keepF k (cF hk)) _ (o.kin G)
end
def pK(slots:List (Str×Value))(p:Str×Value):List (Str×Value):=if (slots.lookup p.1).isNone=true then slots++[p] else slots
theorem WU(l:List (Str×Value))(p:Str×Value)(x:Str):(l++[p]).lookup x=(l.lookup x).or ([p].lookup x):=by
 induction l with
 |nil=>rfl
 |cons a r ih=>rw[List.cons_append,fw,fw,ih];cases x==a.1<;>rfl
theorem Um(sl:List (Str×Value))(p:Str×Value)(x:Str):(pK sl p).lookup x=(sl.lookup x).or ([p].lookup x):=by
 unfold pK
 cases h:sl.lookup p.1 with
 |none=>exact WU ..
 |some y=>
  show sl.lookup x=_
  cases hx:sl.lookup x with
  |some _=>rfl
  |none=>
   rw[Option.none_or,fw,beq_false_of_ne (λe=>cg h (by rw[← e];exact hx):x≠p.1)];rfl
theorem Pl(x:Str)(l:List (Str×Value)):∀sl,(l.foldl pK sl).lookup x=(sl.lookup x).or (l.lookup x):=by
 induction l with
 |nil=>exact λsl=>(Option.or_none).symm
 |cons p r ih=>
  intro sl
  rw[List.foldl_cons,ih,Um,Option.or_assoc,fw,fw];cases x==p.1<;>rfl
theorem SI(l:List Str):∀{k:Nat} {ys:List Value},k<=ys.length->x∈l.take k->((l.zip ys).lookup x).isSome=true:=by
 induction l with
 |nil=>exact λ{k ys} _ h=>by rw[List.take_nil] at h;exact nomatch h
 |cons a l ih=>
  intro k ys hk h
  cases k with
  |zero=>exact nomatch h
  |succ k=>
   cases ys with
   |nil=>exact nomatch hk
   |cons y ys=>
    rw[List.zip_cons_cons,fw]
    cases e:x==a with
    |true=>rfl
    |false=>exact ih (Nat.le_of_succ_le_succ hk) ((List.mem_cons.mp h).resolve_left λw=>Bool.eq_false_iff.mp e (beq_iff_eq.mpr w))
abbrev lF(l1 l2:List (Str×Value))(n:Str):Option (Str×Value):=((l1.lookup n).or (l2.lookup n)).map (n,·)
theorem Ew(l:List Str)(h:∀n∈l,f n=g n):l.filterMap f=l.filterMap g:=by
 induction l with
 |nil=>rfl
 |cons a l ih=>rw[List.filterMap_cons,List.filterMap_cons,h a (.head _),ih λn hn=>h n (.tail _ hn)]
theorem y9{r:List (Str×Value)}(nd:a∉l)(h1:f a=some (a,v))(h2:∀n,(n==a)=false->f n=g n)(ih:l.filterMap g=r):(a::l).filterMap f=(a,v)::r:=by
 rw[List.filterMap_cons_some h1,Ew l λn hn=>h2 n (beq_false_of_ne λe=>nd (e▸hn)),ih]
theorem Sl(l:List Str):∀{k:Nat} {ys ds:List Value},l.Nodup->ds.length+k=l.length->k<=ys.length->ys.length<=l.length->l.filterMap (lF (l.zip ys) ((l.drop k).zip ds))=l.zip (ys++ds.drop (ys.length-k)):=by
 induction l with
 |nil=>exact λ_ _ _ _=>rfl
 |cons a l ih=>
  intro k ys ds nd h1 h2 h3
  have nd:=List.nodup_cons.mp nd
  cases ys with
  |nil=>
   cases k with
   |succ k=>exact nomatch h2
   |zero=>
    cases ds with
    |nil=>exact nomatch h1
    |cons d ds=>exact y9 nd.1 (by unfold lF;rw[List.drop_zero,List.zip_cons_cons,fw,beq_self_eq_true];rfl) (λn e=>by unfold lF;rw[List.drop_zero,List.zip_cons_cons,fw,e,List.zip_nil_right,List.zip_nil_right,List.drop_zero]) (ih (k:=0) (ys:=[]) (ds:=ds) nd.2 (Nat.succ.inj h1) (Nat.le_refl _) (Nat.zero_le _))
  |cons y ys=>
   have hy:∀L,lF ((a::l).zip (y::ys)) L a=some (a,y):=λL=>by unfold lF;rw[List.zip_cons_cons,fw,beq_self_eq_true];rfl
   have hn:∀L n,(n==a)=false->lF ((a::l).zip (y::ys)) L n=lF (l.zip ys) L n:=λL n e=>by unfold lF;rw[List.zip_cons_cons,fw,e]
   have h3:=Nat.le_of_succ_le_succ h3
   cases k with
   |succ k=>exact(y9 nd.1 (hy _) (hn _) (ih nd.2 (Nat.succ.inj h1) (Nat.le_of_succ_le_succ h2) h3)).trans (by rw[List.length_cons,Nat.succ_sub_succ];rfl)
   |zero=>
    cases ds with
    |nil=>exact nomatch h1
    |cons d ds=>exact y9 nd.1 (hy _) (λn e=>(hn _ n e).trans (by unfold lF;rw[List.drop_zero,List.zip_cons_cons,fw,e];rfl)) (ih (k:=0) nd.2 (Nat.succ.inj h1) (Nat.zero_le _) h3)
section
variable{M:Model}{A:Around}{E:Value->Shared->Prop}{s:Shared}
theorem YL(l:List (Str×Value)):∀{sl:List (Str×Value)} {Q:List (Str×Value)->Shared->Prop},Q (l.foldl pK sl) s->
 wpAny M A (forIn l sl λx r=>if (r.lookup x.1).isNone=true then pure (ForInStep.yield (r++[x])) else pure (ForInStep.yield r)) Q E s:=by
 induction l with
 |nil=>exact λh=>aS h
 |cons p r ih=>
  intro sl Q h
  rw[List.forIn_cons]
  have e:(if (sl.lookup p.1).isNone=true then pure (ForInStep.yield (sl++[p])) else pure (ForInStep.yield sl):Sem (ForInStep (List (Str×Value))))=pure (ForInStep.yield (pK sl p)):=by unfold pK;split<;>rfl
  rw[e]
  exact ah (aS (ih h))
theorem r8{β:Type}{p:Prop}[Decidable p]{x y:Sem β}{Q:β->Shared->Prop}(h:¬p)(k:wpAny M A y Q E s):wpAny M A (ite p x y) Q E s:=(ax h).symm▸k
theorem R5{fd:FuncData}{Q:List (Str×Value)->Shared->Prop}(hL:args.map (·.arg)=L)
 (C6:(od.getD #[]).toList=ds)(hd:∀Q,Q od s->wpAny M A (seqItems? fd.defaults) Q E s)(nd:L.Nodup)(h1:ds.length+k=L.length)(h2:k<=ys.length)(h3:ys.length<=L.length)
 (hQ:Q (L.zip (ys++ds.drop (ys.length-k))) s):wpAny M A (bindArgs {fd with params:=⟨[],args,none,[],[],none,j8⟩} ⟨ys,[]⟩) Q E s:=by
 have e1:ds.drop (ds.length-L.length)=ds:=by rw[← h1,Nat.sub_eq_zero_of_le (gI ..)];rfl
 have e2:L.length-ds.length=k:=by rw[← h1];exact Nat.add_sub_cancel_left ..
 have g1:¬(decide (ys.length>L.length)&&true)=true:=λh=>Nat.not_lt_of_le h3 (of_decide_eq_true (Bool.and_eq_true_iff.mp h).1)
 have g2:¬(!((L.take (L.length-(ds.drop (ds.length-L.length)).length)).filter (λn=>((L.zip ys).lookup n).isNone)).isEmpty)=true:=by
  rw[e1,e2,List.filter_eq_nil_iff.mpr λn hn w=>(Option.isSome_iff_exists.mp (SI L h2 hn)).elim λy hy=>cg hy (Option.isNone_iff_eq_none.mp w)];exact λh=>ft h
 have g3:(L++([]:List Str)).filterMap (λn=>((((L.drop (L.length-(ds.drop (ds.length-L.length)).length)).zip (ds.drop (ds.length-L.length))).foldl pK (L.zip ys)).lookup n).map (n,·))=L.zip (ys++ds.drop (ys.length-k)):=by
  rw[e1,e2,List.append_nil,← Sl L nd h1 h2 h3]
  exact Ew L λn _=>aq _ (Pl ..)
 subst C6 hL
 refine ah (aS (ah (hd _ (r8 g1 (r8 g2 (ah (YL _ (ah (aS (r8 (λh=>ft h) ?_))))))))))
 exact aS (g3.symm▸hQ)
theorem xz(hp:fd.params=⟨[],args,none,[],[],none,j8⟩){Q:List (Str×Value)->Shared->Prop}(hL:args.map (·.arg)=L)
 (C6:(od.getD #[]).toList=ds)(hd:∀Q,Q od s->wpAny M A (seqItems? fd.defaults) Q E s)(nd:L.Nodup)(h1:ds.length+k=L.length)(h2:k<=ys.length)(h3:ys.length<=L.length)
 (hQ:Q (L.zip (ys++ds.drop (ys.length-k))) s):wpAny M A (bindArgs fd ⟨ys,[]⟩) Q E s:=
 by
 have e:fd={fd with params:=⟨[],args,none,[],[],none,j8⟩}:=aq (λp=>({fd with params:=p}:FuncData)) hp
 rw[e]
 exact R5 hL C6 hd nd h1 h2 h3 hQ
end
structure yk(A:Around)(env:Env)(μ:Mu)(s:Shared)(A':Around)(env':Env)(ao:Mu)(s₁:Shared):Prop where
 only:aY (λ_=>False) s.heap s₁.heap
 ext:ce μ ao
 fresh:∀b,own ao b->own μ b\/s.heap.get? b=none
 loc:s.heap.get? env'.locals=none
 fs:∀l',A'.frames=some l'->∃l,A.frames=some l/\∀e∈l,e∈l'
 fsub:∀b∈Fs A',b=env'.locals\/b∈Fs A
 gens:s₁.gens=s.gens
 os:s₁.os=s.os
section
variable{c:Cx}{X:Addr->Prop}{A A' B:Around}{env env':Env}{fr cW:Fr}{μ ao a9:Mu}{σ aM σ₂:Sg}{s s₁ aB:Shared}{E:Value->Shared->Prop}{n:Nat}{K:Frag}{ih:Ev}{α β:Type}{D:Mu->Heap->α->β->Prop}
theorem di.trans{X X' MR:Addr->Prop}{h h' MS:Heap}(a:di X X' h h')(b:di X' MR h' MS):di X MR h MS:=
 ⟨λt its x y=>(a.tup t its x y).elim λp q=>b.tup t its p q,λt ob fd p q r=>(a.fn t ob fd p q r).elim λo1 z=>(b.fn t o1 fd z.1 (z.2.1.trans q) (z.2.2.trans r)).imp λo2 w=>⟨w.1,w.2.1.trans z.2.1,w.2.2.trans z.2.2⟩,
  λcd q x=>b.code cd q (a.code cd q x)⟩
theorem Ok.loc_data(o:Ok c X A env fr μ σ s):∃ob es n,s.heap.get? env.locals=some ob/\ob.data=.dict es n:=o.ns.elim λm y=>y.1.imp λob=>bg λes=>bg λep y=>⟨y.1,y.2.1⟩
theorem Ok.loc_nv(o:Ok c X A env fr μ σ s)(e:s.heap.get? env.locals=some ob):¬mi ob:=λv=>o.loc_data.elim λC7 z=>z.elim λes z=>z.elim λn z=>v.elim λvs w=>nomatch (z.2.symm.trans (aq Obj.data (bz z.1 e))).trans w.1
theorem yk.back(En:yk A env μ s A' env' ao s₁)(o:Ok c X A env fr μ σ s)(aC:Ok c X A' env' cW ao aM s₁)(nx:aK A' env' ao a9 s₁ aB)(bc:Ok c X A' env' cW a9 σ₂ aB):
 aK A env μ a9 s aB/\Ok c X A env fr a9 ⟨σ₂.H,σ.r⟩ aB:=
 have kp:=λb ob e=>En.only.2 b ob e id
 have nm:=λb ob e no q=>q.elim (λq=>(En.fresh b q).elim no λq=>cg e q) λq=>cg e (q▸En.loc)
 have step:∀b ob,s.heap.get? b=some ob->¬own μ b->¬mi ob->nA (Fs A) aB.heap b ob:=λb ob e no nv=>
  (nx.keep.2 b ob (kp b ob e) (nm b ob e no) nv).imp id λq=>⟨(En.fsub b q.1).elim (λw=>cg e (w▸En.loc)) id,q.2⟩
 have st:=(o.stays_of En.only λ_ _ _ f=>f.elim).trans (nx.stays aC)
 have ex:=En.ext.trans nx.ext
 have aao:=λb ob e no q=>(nx.fresh b q).elim (λq=>nm b ob e no (.inl q)) λq=>cg (kp b ob e) q
 ⟨⟨ex,λb q=>(nx.fresh b q).elim (En.fresh b) λq=>.inr (En.only.1.none q),⟨En.only.1.trans nx.keep.1,λb ob e no nv=>step b ob e (λq=>no (.inl q)) nv⟩,nx.gens.trans En.gens,nx.os.trans En.os⟩,
  bc.len,bc.obj,bc.apart,bc.new,o.ns.imp λm y=>⟨wt y.1 λob e=>(step _ ob e o.lout.1 (o.loc_nv e)).some,λu v hu=>(y.2 u v hu).imp λ_ q=>⟨q.1,q.2.mono st ex⟩⟩,
  ⟨o.loc_mut.elim λob z=>aao _ ob z.1 o.lout.1,o.lout.2⟩,λx l hl=>(o.cells x l hl).imp λp q=>⟨ex _ _ q.1,q.2⟩,bc.stays,
  bc.frs.elim λl' z=>(En.fs l' z.1).imp λl w=>⟨w.1,λe he=>z.2.1 e (w.2 e he),λb hb=>z.2.2 b ((List.mem_filterMap.mp hb).elim λe q=>List.mem_filterMap.mpr ⟨e,w.2 e q.1,q.2⟩)⟩,bc.tabs,bc.xlt⟩
theorem ac.enter{Q:β->Shared->Prop}(h:ac c X A env fr D μ s (jf σ.r r) Q E)(En:yk A env μ s A' env' ao s₁)(o:Ok c X A env fr μ σ s)(aC:Ok c X A' env' cW ao aM s₁):ac c X A' env' cW D ao s₁ r Q E:=by
 cases r with
 |ok a σ₂=>exact λa9 aB y nx bc d=>(En.back o aC nx bc).elim λn2 k2=>h a9 aB y n2 k2 d
 |exc k m v σ₂=>exact λa9 aB e nx bc d=>(En.back o aC nx bc).elim λn2 k2=>h a9 aB e n2 k2 (d.lower En.only.1)
 |stuck=>exact h.elim
theorem ac.leaveE(eo:aJ c n A env fr)(o:Ok c X A env fr μ σ s){Q:β->Shared->Prop}{E2:Value->Shared->Prop}(h:ac c X A env fr D μ s r Q E):
 ac c X A env fr D μ s r Q (λe s'=>wpAny c.M A (leaving env e) (λ_ vB=>E e vB) E2 s'):=by
 cases r with
 |ok a ba=>exact h
 |stuck=>exact h
 |exc k m v ba=>exact λav s' e nx o' x=>ah (Ca eo o' x nx.keep.1 o.stays λs₁ n₁ aC vz yF=>
  sQ aC vz (nx.keep.1.trans n₁.keep.1) o.stays λaB bG bc k9 _=>h av aB e (nx.trans (n₁.trans bG)) bc k9)
theorem Ok.frame(o:Ok c X A env fr μ σ s)(k:aY (λ_=>False) s.heap s₁.heap)(hn:s₁.heap.Ns env'.locals λ_=>none)(hL:s.heap.get? env'.locals=none):Ok c X A env' ⟨sc,[],lm⟩ μ ⟨σ.H,[]⟩ s₁:=
 have y:=o.add (s':=s₁) k
 ⟨y.len,y.obj,y.apart,y.new,⟨_,hn,λx v h=>Mine.ns h⟩,⟨λq=>(o.own_mut q).elim λob z=>cg z.1 hL,o.fresh hL⟩,(λx l h=>Mine.ns h),y.stays,y.frs,y.tabs,y.xlt⟩
theorem Ok.setg(o:Ok c X A env fr μ σ s)(h:∀x l,au g x=some l->∃p,aj μ l=some p/\env.cells.lookup (c.nm x)=some p.1):Ok c X A env ⟨fr.sc,g,fr.lm⟩ μ σ s:=
 ⟨o.len,o.obj,o.apart,o.new,o.ns,o.lout,h,o.stays,o.frs,o.tabs,o.xlt⟩
def mD(c:Cx)(μ:Mu)(g:List (Nat×Nat))(cl:List (Str×Addr)):Prop:=∀x l,au g x=some l->∃p,aj μ l=some p/\cl.lookup (c.nm x)=some p.1
theorem yy(k:Nat):(kd k==NameKind.cell)=(k==1):=Nat.casesOn k rfl λk=>Nat.casesOn k rfl λk=>Nat.casesOn k rfl λ_=>rfl
structure On(c:Cx)(X:Addr->Prop)(A:Around)(env':Env)(sc:List (Nat×Nat))(lm:Bool)(μ:Mu)(s:Shared)(p:HT×List (Nat×Nat))(h:Heap)(acc:List (Str×Addr))(av:Mu):Prop where
 ok:Ok c X A env' ⟨sc,[],lm⟩ av ⟨p.1,[]⟩ {s with heap:=h}
 rel:mD c av p.2 acc
 ext:ce μ av
 fresh:∀b,own av b->own μ b\/s.heap.get? b=none
 only:aY (λ_=>False) s.heap h
abbrev xZ:Obj:={cls:=.type "cell",data:=.cell none}
theorem mD.cons(inj:∀i j,c.nm i=c.nm j->i=j)(h:mD c μ g acc)(x:Nat)(hp:aj ao l=some p)(e:ce μ ao):mD c ao ((x,l)::g) ((c.nm x,p.1)::acc):=λy k hy=>by
 rw[dy] at hy
 rw[fw]
 by_cases e1:x=y
 · rw[aG e1] at hy
   rw[beq_iff_eq.mpr (aq c.nm e1.symm)]
   exact⟨p,af hy▸hp,rfl⟩
 · rw[ax e1] at hy
   rw[beq_false_of_ne λq=>e1 (inj _ _ q).symm]
   exact(h y k hy).imp λq z=>⟨e _ _ z.1,z.2⟩
theorem DZ(G:bp c K)(sc:List (Nat×Nat)):∀{μ:Mu} {H:HT} {g:List (Nat×Nat)} {acc:List (Str×Addr)} {s:Shared},Ok c X A env' ⟨sc0,[],lm⟩ μ ⟨H,[]⟩ s->mD c μ g acc->
 ∃av,On c X A env' sc0 lm μ s (ew (dm sc) H g) (pushCells s.heap (names c sc)) (cellsFrom s.heap.objs.size (names c sc) acc) av:=by
 induction sc with
 |nil=>exact λ{μ H g acc s} o hc=>⟨μ,o,hc,.refl _,λ_ q=>.inl q,.refl _ _⟩
 |cons p r ih=>
  intro μ H g acc s o hc
  cases hk:p.2==1 with
  |true=>
   have e1:dm (p::r)=p.1::dm r:=aq (List.map λq:Nat×Nat=>q.1) (List.filter_cons_of_pos (p:=λq:Nat×Nat=>q.2==1) hk)
   have vC:=(yy _).trans hk
   have e2:pushCells s.heap (names c (p::r))=pushCells (s.heap.push xZ) (names c r):=aG vC
   have e3:cellsFrom s.heap.objs.size (names c (p::r)) acc=cellsFrom (s.heap.push xZ).objs.size (names c r) ((c.nm p.1,s.heap.objs.size)::acc):=(aG vC).trans (by rw[Heap.size_push];rfl)
   have k1:aY (λ_=>False) s.heap (s.heap.push xZ):=aY.push _ _ _
   have o':=o.new1 (s':={s with heap:=s.heap.push xZ}) (p:=(s.heap.objs.size,s.heap.objs.size)) (o:=.cell none) k1 (cY _) (cY _) ⟨rfl,none,⟨_,dX _ rfl,rfl⟩,trivial⟩
   have hlen:aj (μ++[(s.heap.objs.size,s.heap.objs.size)]) H.n=some (s.heap.objs.size,s.heap.objs.size):=o.last _
   rw[e1,e2,e3]
   exact(ih o' (hc.cons G.inj p.1 hlen (ce.app _ _))).imp λav w=>⟨w.ok,w.rel,(ce.app _ _).trans w.ext,λb q=>(w.fresh b q).elim (λq=>(mz.mp q).imp id λq=>q.elim (λe=>e▸cY _) λe=>e▸cY _) λq=>.inr (k1.1.none q),k1.trans w.only⟩
  |false=>
   have e1:dm (p::r)=dm r:=aq (List.map λq:Nat×Nat=>q.1) (List.filter_cons_of_neg (p:=λq:Nat×Nat=>q.2==1) (Bool.eq_false_iff.mp hk))
   have vC:=Bool.eq_false_iff.mp ((yy _).trans hk)
   have e2:pushCells s.heap (names c (p::r))=pushCells s.heap (names c r):=ax vC
   have e3:cellsFrom s.heap.objs.size (names c (p::r)) acc=cellsFrom s.heap.objs.size (names c r) acc:=ax vC
   rw[e1,e2,e3]
   exact ih o hc
theorem EL{E':Value->Shared->Prop}(inj:∀i j,c.nm i=c.nm j->i=j)(k0:∀x,au fr.sc x=some 0->env.kindOf (c.nm x)=some .local)(k1:∀x,au fr.sc x=some 1->env.kindOf (c.nm x)=some .cell)(kfun:env.scope.kind=.function){Q:Shared->Prop}
 (bs:List (Nat×V)):∀{ys:List Value} {μ:Mu} {σ:Sg} {s:Shared},Ok c X A env fr μ σ s->ay (λb y=>ad c X μ s.heap b.2 y) bs ys->ac c X A env fr DU μ s (rt fr bs σ) (λ(_:Unit)=>Q) E->
  wpAny c.M B (forIn ((bs.map λb=>c.nm b.1).zip ys) PUnit.unit λx _=>do storeName env x.1 x.2;pure (.yield ⟨⟩)) (λ_=>Q) E' s:=by
 induction bs with
 |nil=>exact λo z h=>aS (ac.ok h (y:=()) .refl o trivial)
 |cons b r ih=>
  intro ys μ σ s o z h
  cases z with
  |cons rv z=>
   rw[List.map_cons,List.zip_cons_cons,List.forIn_cons]
   exact ah (ah (Kp k0 k1 kfun o inj rv (ac.bind (D':=DU) h λ_ aM ao _ s₁ n₁ aC _ h₁=>aS (ih aC (z.mono λ_ _ q=>q.nxt o n₁) h₁))))
end
section
variable{c:Cx}{X:Addr->Prop}{A A' B:Around}{env env':Env}{fr cW:Fr}{μ ao a9:Mu}{σ aM σ₂:Sg}{s s₁ aB:Shared}{E:Value->Shared->Prop}{n:Nat}{K:Frag}{ih:Ev}
theorem H8(h:yf ps vs=some bs):ps.length=vs.length/\ps.zip vs=bs:=⟨bH ps▸bH vs▸bx.mp (cs h).1,(IT ps vs).symm.trans (af (cs h).2)⟩
theorem xH(inj:∀i j,c.nm i=c.nm j->i=j)(sc:List (Nat×Nat))(x:Nat):(names c sc).lookup (c.nm x)=(au sc x).map kd:=by
 induction sc with
 |nil=>rfl
 |cons p r ih=>
  show List.lookup (c.nm x) ((c.nm p.1,kd p.2)::names c r)=(au ((p.1,p.2)::r) x).map kd
  rw[fw,dy,ih]
  by_cases e:p.1=x
  · rw[aG e,beq_iff_eq.mpr (aq c.nm e.symm)];rfl
  · rw[ax e,beq_false_of_ne λq=>e (inj _ _ q).symm]
theorem Md(hs:∀p∈sc,p.2<=3)(h:au sc x=some k):k<=3:=by
 induction sc with
 |nil=>exact ns h
 |cons p r ih=>
  have h:=h
  rw[dy] at h
  have w:=ug hs
  by_cases e:p.1=x
  · exact bz (aG e) h▸w.1
  · exact ih w.2 ((ax e).symm.trans h)
structure HX(c:Cx)(env:Env)(sc:List (Nat×Nat)):Prop where
 k0:∀x,au sc x=some 0->env.kindOf (c.nm x)=some .local
 k1:∀x,au sc x=some 1->env.kindOf (c.nm x)=some .cell
 k2:∀x,au sc x=some 2->env.kindOf (c.nm x)=some .free
 k3:∀x,au sc x=some 3->env.kindOf (c.nm x)=some .globalImplicit
 kl:∀x k,au sc x=some k->k<=3
 kk:∀x,env.kindOf (c.nm x)=some .local->au sc x=some 0
theorem BZ(k:Nat):kd k=.local->k=0:=Nat.casesOn k (λ_=>rfl) λk=>Nat.casesOn k (λh=>NameKind.noConfusion h) λk=>Nat.casesOn k (λh=>NameKind.noConfusion h) λ_ h=>NameKind.noConfusion h
theorem E3(inj:∀i j,c.nm i=c.nm j->i=j)(h:env.scope.names=names c sc)(hs:∀p∈sc,p.2<=3):HX c env sc:=
 have e:=λx=>(aq (List.lookup (c.nm x)) h).trans (xH inj sc x)
 have m:=λx k q=>(e x).trans (aq (Option.map kd) q)
 ⟨λx=>m x 0,λx=>m x 1,λx=>m x 2,λx=>m x 3,λx k q=>Md hs q,λx q=>(Option.map_eq_some_iff.mp ((e x).symm.trans q)).elim λk w=>BZ k w.2▸w.1⟩
theorem Ok.deeper(o:Ok c X A env fr μ σ s)(hf:env.frame=some env.locals)(hk:env.scope.kind=.function):Ok c X (A.deeper env) env fr μ σ s:=
 ⟨o.len,o.obj,o.apart,o.new,o.ns,o.lout,o.cells,o.stays,o.frs.elim λl y=>⟨env::l,aq (Option.map (env:: ·)) y.1,
  bD ⟨⟨λe=>ScopeKind.noConfusion (hk.symm.trans e),o.loc_data.elim λob z=>z.elim λes z=>z.elim λn z=>⟨env.locals,ob,hf,o.lout.2.1,z.1,λvs q=>nomatch z.2.symm.trans q⟩⟩,y.2.1⟩,
  λb hb=>(List.mem_filterMap.mp hb).elim λe q=>(List.mem_cons.mp q.1).elim (λw=>bz hf (w▸q.2)▸⟨o.lout.1,o.lout.2.2⟩) λw=>y.2.2 b (List.mem_filterMap.mpr ⟨e,w,q.2⟩)⟩,o.tabs,o.xlt⟩
structure y5(c:Cx)(sc:List (Nat×Nat))(lm:Bool)(env':Env)(L:Addr)(cells:List (Str×Addr)):Prop where
 loc:env'.locals=L
 cel:env'.cells=cells
 kd:HX c env' sc
 fn:env'.scope.kind=.function
 gl:env'.globals=mainGlobals
 bi:env'.builtins=builtinsNs
 fr:env'.frame=some env'.locals
 code:lm=true->∃cd P,env'.code=.ref cd/\(cd,P)∈c.tabs/\env'.qual++ "<lambda>" =c.tq cd
theorem Zc(hl:A.frames=some l)(hf:env'.frame=some env'.locals)(hb:b∈Fs (A.deeper env')):b=env'.locals\/b∈Fs A:=
 (List.mem_filterMap.mp ((kS (A:=A.deeper env') (aq (Option.map (env':: ·)) hl)).mp hb)).elim λe q=>(List.mem_cons.mp q.1).imp (λw=>(bz hf (w▸q.2)).symm) λw=>(kS hl).mpr (List.mem_filterMap.mpr ⟨e,w,q.2⟩)
theorem Gg(h:j<=k):a+j+k*n+d<=a+k*(n+1)+d:=by
 rw[Nat.mul_succ,Nat.add_assoc a j,Nat.add_comm j];exact Nat.add_le_add_right (Nat.add_le_add_left (Nat.add_le_add_left h _) _) _
theorem aJ.inner(eo:aJ c (n+1) A env fr)(W:y5 c sc lm env' L cells):aJ c n (A.deeper env') env' ⟨sc,g,lm⟩:=
 ⟨W.kd.k0,W.kd.k1,λx q=>.inr (W.kd.k2 x q),W.kd.k3,W.kd.kl,W.kd.kk,W.fn,W.gl,W.bi,eo.frame.elim λe0 z=>z.elim λl z=>z.elim λ_ z=>⟨env',e0::l,env'.locals,aq (Option.map (env':: ·)) z.1,W.fr,W.fr⟩,eo.handled,W.code,
  fe (Gg (j:=1) (k:=2) (by decide)) eo.depth,fe (Gg (j:=3) (k:=12) (by decide)) eo.units⟩
theorem UF(G:bp c K)(eo:aJ c (n+1) A env fr)(o:Ok c X A env fr μ σ s)(W:y5 c sc lm env' s.heap.objs.size (cellsFrom (s.heap.push o0).objs.size (names c sc) cl))(pZ:mD c μ g0 cl)
 (hn:(s.heap.push o0).Ns s.heap.objs.size λ_=>none)(z:ay (λb y=>ad c X μ s.heap b.2 y) bs ys){tail:Sg->R V}{Q:Value->Shared->Prop}{Q':Shared->Prop}{E2 E':Value->Shared->Prop}
 (h:ac c X A env fr (DV c X) μ s (jf σ.r ((rt ⟨sc,(ew (dm sc) σ.H g0).2,lm⟩ bs ⟨(ew (dm sc) σ.H g0).1,[]⟩).bind λ_ s1=>tail s1)) Q E)
 (k:∀a9 σ₂ aB,aJ c n (A.deeper env') env' ⟨sc,(ew (dm sc) σ.H g0).2,lm⟩->Ok c X (A.deeper env') env' ⟨sc,(ew (dm sc) σ.H g0).2,lm⟩ a9 σ₂ aB->
  ac c X (A.deeper env') env' ⟨sc,(ew (dm sc) σ.H g0).2,lm⟩ (DV c X) a9 aB (tail σ₂) Q (λe s'=>wpAny c.M (A.deeper env') (leaving env' e) (λ_ vB=>E e vB) E2 s')->Q' aB):
 wpAny c.M B (forIn ((bs.map λb=>c.nm b.1).zip ys) PUnit.unit λx _=>do storeName env' x.1 x.2;pure (.yield ⟨⟩)) (λ_=>Q') E' {s with heap:=pushCells (s.heap.push o0) (names c sc)}:=
 have k1:=aY.push _ _ _
 have hL:=W.loc▸cY _
 have o1:=o.frame (env':=env') (sc:=sc) (lm:=lm) (s₁:={s with heap:=s.heap.push o0}) k1 (W.loc▸hn) hL
 (DZ G sc o1 pZ).elim λao C=>
  have o2:=(C.ok.setg (g:=(ew (dm sc) σ.H g0).2) λx l hl=>W.cel▸C.rel x l hl).deeper W.fr W.fn
  have kk:=k1.trans C.only
  have cL:=eo.inner W
  have en:=o.frs.elim λl y=>
   ⟨kk,C.ext,λb q=>(C.fresh b q).imp id λq=>k1.1.none q,hL,λl' hH=>⟨l,y.1,λe he=>bz (aq (Option.map (env':: ·)) y.1) hH▸.tail _ he⟩,λb hb=>Zc y.1 W.fr hb,rfl,rfl⟩
  EL G.inj W.kd.k0 W.kd.k1 W.fn bs o2 (z.mono λ_ _ q=>q.mono (o.stays_of kk λ_ _ _ f=>f.elim) C.ext)
   (ac.bind (D':=DU) (ac.leaveE (E2:=E2) cL o2 (ac.enter h en o o2)) λ_ σ₂ a9 _ aB bG bc _ bh=>k a9 σ₂ aB cL bc bh)
theorem El(G:bp c K)(eo:aJ c (n+1) A env fr)(o:Ok c X A env fr μ σ s)(kc:scope.names=names c sc)(hk:scope.kind=.function)(hs:∀p∈sc,p.2<=3)(pZ:mD c μ g0 cl)
 {code:Value}(hc:lm=true->∃cd P,code=.ref cd/\(cd,P)∈c.tabs/\qual++ "<lambda>" =c.tq cd)(z:ay (λb y=>ad c X μ s.heap b.2 y) bs ys)
 {tail:Sg->R V}{Q:Value->Shared->Prop}{Q':Env->Shared->Prop}{E2 E':Value->Shared->Prop}
 (h:ac c X A env fr (DV c X) μ s (jf σ.r ((rt ⟨sc,(ew (dm sc) σ.H g0).2,lm⟩ bs ⟨(ew (dm sc) σ.H g0).1,[]⟩).bind λ_ s1=>tail s1)) Q E)
 (k:∀env' a9 σ₂ aB,aJ c n (A.deeper env') env' ⟨sc,(ew (dm sc) σ.H g0).2,lm⟩->Ok c X (A.deeper env') env' ⟨sc,(ew (dm sc) σ.H g0).2,lm⟩ a9 σ₂ aB->
  ac c X (A.deeper env') env' ⟨sc,(ew (dm sc) σ.H g0).2,lm⟩ (DV c X) a9 aB (tail σ₂) Q (λe s'=>wpAny c.M (A.deeper env') (leaving env' e) (λ_ vB=>E e vB) E2 s')->Q' env' aB):
 wpAny c.M B (newFunctionEnv scope mainGlobals cl ((bs.map λb=>c.nm b.1).zip ys) qual func code none builtinsNs) Q' E' s:=by
 refine ah (wpAny_alloc (ah (wpAny_layCells _ (λ_ _ _=>rfl) _ _ _ _ ?_)))
 rw[kc]
 refine ah (wpAny_mono (UF (B:=B) (env':=newEnv scope s.heap.objs.size mainGlobals _ qual func code none builtinsNs) G eo o ⟨rfl,rfl,E3 G.inj kc hs,hk,rfl,rfl,rfl,hc⟩ pZ (Heap.Ns.new s.heap _) z h (k _)) (λ_ aB bh=>aS bh) λ_ _ e=>e)
end
section
variable{c:Cx}{X:Addr->Prop}{A A' B:Around}{env env':Env}{fr cW:Fr}{μ ao a9:Mu}{σ aM σ₂:Sg}{s s₁ aB:Shared}{E:Value->Shared->Prop}{n:Nat}{K:Frag}{ih:Ev}
theorem NoLimit.stays{h h':Heap}(x:h.NoLimit)(k:h.StaysIn h'):h'.NoLimit:=x.imp λmc z=>⟨z.1.keeps k,z.2⟩
theorem CodeRec.stays{h h':Heap}(x:h.CodeRec cd q)(k:h.StaysIn h'):h'.CodeRec cd q:=x.imp λt=>bg λo=>bg λvs=>bg λtk z=>⟨z.1,k _ _ z.2.1,z.2.2⟩
theorem K7(inj:∀i j,c.nm i=c.nm j->i=j){l:List Nat}(h:l.Nodup):(l.map c.nm).Nodup:=List.pairwise_map.mpr (h.imp λne e=>ne (inj _ _ e))
theorem aJ.deep(eo:aJ c (n+1) A env fr):A.depth<recursionLimit:=jI (fe (fe (gI _ _) (gI _ _)) eo.depth) (by decide)
theorem LU(f:List Nat)(vs:List V)(h:f.length=vs.length):f.map c.nm=(f.zip vs).map λb=>c.nm b.1:=(aq (List.map c.nm) (List.map_fst_zip (Nat.le_of_eq h)).symm).trans List.map_map
theorem XL(hk:d+k=n)(h:n=v+(d-(v-k))):k<=v/\v<=n:=
 ⟨(Nat.le_total k v).elim id λw=>by
  rw[Nat.sub_eq_zero_of_le w,← hk,Nat.add_comm v] at h
  exact Nat.le_of_eq (Nat.add_left_cancel h),h▸gI ..⟩
theorem Ix(G:bp c K)(S:SS c n ih.eS)(eo:aJ c (n+1) A env fr)(o:Ok c X A env fr μ σ s){k:Nat}(hf:c.T.fns k=some f)(z:ay (ad c X μ s.heap) vs xs){Q:Value->Shared->Prop}
 (h:ac c X A env fr (DV c X) μ s (mS ih f vs σ) Q E):lY c A (.ref (c.fnA k)) xs Q E s:=
 have FO:=G.fn k f hf
 FO.ex.elim λob w=>w.elim λfd w=>w.elim λargs w=>w.elim λj8 w=>w.elim λod w=>bk h λbs hb h=>by
  have b:=H8 hb
  have zd:=w.f15 X μ s.heap (λb hb=>(o.xlt b hb).2) o.stays
  have ef:u4 f.ps f.df vs=vs++f.df.drop (vs.length-(f.ps.length-f.df.length)):=YS _ _ _
  have hk:=Nat.add_sub_of_le FO.le
  have lk:=XL hk (by have e:=b.1;rw[ef,List.length_append,List.length_drop] at e;exact e)
  have lx:=z.length
  have lp:(f.ps.map c.nm).length=f.ps.length:=List.length_map ..
  refine codeAny_call_function eo.deep (o.stays _ _ w.f1) w.f2 w.f7 w.f6 w.f3 (CodeRec.stays w.f11 o.stays) ?_
  refine xz (k:=f.ps.length-f.df.length) w.f12 w.f13 rfl (λQ q=>w.f14 _ _ _ s Q o.stays q) (K7 G.inj FO.nd) (by rw[zd.length,hk,lp]) (lx▸lk.1) (by rw[lx,lp];exact lk.2) ?_
  have z2:ay (ad c X μ s.heap) (u4 f.ps f.df vs) (xs++(od.getD #[]).toList.drop (xs.length-(f.ps.length-f.df.length))):=by rw[ef,lx];exact z.append (zd.drop _)
  rw[w.f10,w.f8,w.f9,LU f.ps _ b.1,b.2]
  refine El (lm:=f.lm) (E2:=E) G eo o w.f4 w.f5 FO.sc (g0:=[]) (λx l q=>Mine.ns q) (λq=>(w.f16 q).imp λcd=>bg λP z=>z) (b.2▸z2.zip b.1) (FO.cs▸h) λenv' a9 σ₂ aB cL bc bh=>⟨NoLimit.stays G.nolim bc.stays,codeAny_func ?_⟩
  exact om S cL f.body bc (ac.bind (D':=DF c X) bh λfl yG jw y dq lc hJ C8 cD=>by
   revert cD
   exact vq C8 (λcD=>ac.ok cD (y:=Value.none) .refl hJ rfl) λv y r cD=>ac.ok cD (y:=y) .refl hJ r)
def qU(c:Cx):Prop:=∀n k vs H m r,c.T.O k vs H=some (m,r)->m<=n->∀X A env fr μ σ s xs Q E,σ.H=H->aJ c (n+1) A env fr->Ok c X A env fr μ σ s->ay (ad c X μ s.heap) vs xs->
 ac c X A env fr (DV c X) μ s (R0.rec (λv H=>.ok v ⟨H,σ.r⟩) (λc m v H=>.exc c m v ⟨H,σ.r⟩) r) Q E->lY c A (.ref (c.fnA k)) xs Q E s
theorem Z9(G:bp c K)(Or:qU c)(S:SS c n ih.eS):SC c (n+1) (jk c.T ih n):=λX A env fr μ σ s k vs xs Q E eo o z h=>
 fu h (λx hx h=>bB h λhm h=>Or n k vs σ.H x.1 x.2 hx (dL hm) X A env fr μ σ s xs Q E rfl eo o z h) λh=>bk h λf hf h=>Ix G S eo o hf z h
end
section
variable{c:Cx}{X:Addr->Prop}{A A' B:Around}{env env':Env}{fr cW:Fr}{μ ao a9:Mu}{σ aM σ₂:Sg}{s s₁ aB:Shared}{E:Value->Shared->Prop}{n:Nat}{K:Frag}{ih:Ev}{α β:Type}{D:Mu->Heap->α->β->Prop}
theorem Ok.under(o:Ok c X A env fr μ σ s)(h:A'.frames=A.frames):Ok c X A' env fr μ σ s:=
 ⟨o.len,o.obj,o.apart,o.new,o.ns,o.lout,o.cells,o.stays,h▸o.frs,o.tabs,o.xlt⟩
theorem aK.under(o:aK A env μ av s s')(h:A'.frames=A.frames):aK A' env μ av s s':=
 have e:Fs A'=Fs A:=by unfold Fs;rw[h]
 ⟨o.ext,o.fresh,e▸o.keep,o.gens,o.os⟩
theorem ac.under{Q:β->Shared->Prop}(t:ac c X A env fr D μ s r Q E)(h:A'.frames=A.frames):ac c X A' env fr D μ s r Q E:=by
 cases r with
 |ok a ba=>exact λav s' y nx o d=>t av s' y (nx.under h.symm) (o.under h.symm) d
 |exc k m v ba=>exact λav s' e nx o d=>t av s' e (nx.under h.symm) (o.under h.symm) d
 |stuck=>exact t
theorem Hi(hb:b<=a+j)(hj:j<=k)(h:a+k*(n+1)+d<=l):b+k*n+d<=l:=
 fe (Nat.add_le_add_right (by rw[Nat.mul_succ,Nat.add_comm (k*n),← Nat.add_assoc];exact Nat.add_le_add_right (fe hb (Nat.add_le_add_left hj _)) _) _) h
theorem aJ.under(eo:aJ c (n+1) A env fr)(h:A'.frames=A.frames)(hh:A'.handled=A.handled)(hd:A'.depth<=A.depth+2)(hu:A'.units<=A.units+12):aJ c n A' env fr:=
 ⟨eo.k0,eo.k1,eo.k2,eo.k3,eo.kl,eo.kk,eo.kfun,eo.globs,eo.bis,h▸eo.frame,hh.trans eo.handled,eo.code,Hi hd (Nat.le_refl _) eo.depth,Hi hu (Nat.le_refl _) eo.units⟩
theorem VC(C:SC c n ih.call)(eo:aJ c (n+1) A env fr)(o:Ok c X A env fr μ σ s){cl:Cl}(z:ay (ad c X μ s.heap) vs xs){Q:Value->Shared->Prop}(e1:A'.frames=A.frames)(e2:A'.handled=A.handled)
 (e3:A'.depth<=A.depth+2)(e4:A'.units<=A.units+12)(k1:aY (λ_=>False) s.heap s₁.heap)(ha:s.heap.get? a=none)(hb:s.heap.get? b=none)(d2:s₁.heap.get? a=some (instObj (c.clA k) b))(n1:s₁.heap.Ns1 b λ_=>none)(hg:s₁.gens=s.gens)(ho:s₁.os=s.os)
 (h:ac c X A env fr (DV c X) μ s ((ih.call cl.init (.loc (σ.H.n)::vs) ⟨aH σ.H (.inst k []),σ.r⟩).bind λv s'=>aa (isNone v) (.ok (.loc (σ.H.n)) s') .stuck) Q E):
 lY c A' (.ref (c.fnA cl.init)) (.ref a::xs) (λv s'=>v=.none/\Q (.ref a) s') E s₁:=
 have nx:=aK.new1 k1 ha hb hg ho
 have o1:Ok c X A env fr (μ++[(a,b)]) ⟨aH σ.H (.inst k []),σ.r⟩ s₁:=o.new1 k1 ha hb ⟨d2,_,n1,(λx v q=>Mine.ns q),(λx y q=>Mine.ns q)⟩
 have r1:=⟨(a,b),o.last _,rfl⟩
 C X A' env fr _ _ _ cl.init (.loc (σ.H.n)::vs) (.ref a::xs) _ E (eo.under e1 e2 e3 e4) (o1.under e1) (.cons r1 (z.nxt o nx))
  ((ac.bind (D':=DV c X) (h.shift nx) λv aM ao y aB n₁ aC aaq h₁=>bB h₁ λhv h₁=>⟨pB hv aaq,ac.ok h₁ .refl aC (r1.nxt o1 n₁)⟩).under e1)
theorem Z3(G:bp c K)(C:SC c n ih.call)(eo:aJ c (n+1) A env fr)(o:Ok c X A env fr μ σ s){vs:List V}(z:ay (ad c X μ s.heap) vs xs){Q:Value->Shared->Prop}
 (h:ac c X A env fr (DV c X) μ s (ET c.T ih k vs σ) Q E):lY c A (.ref (c.clA k)) xs Q E s:=
 bk h λcl hc h=>by
  have g:=G.make k cl hc
  refine make_core (makes_of (o.kin G) g.2.1) (looks_findIn (o.kin G) g.2.2.1) (λself=>bind_fn (o.kin G) self g.2.2.2) (.inl rfl) ?_
  have hs:(s.heap.push emptyDict).objs.size=s.heap.objs.size+1:=Heap.size_push ..
  refine codeAny_mono (VC (A':=A.under (.builtin "type.__call__" ⟨.ref (c.clA k)::xs,[]⟩)) (s₁:=⟨(s.heap.push emptyDict).push (instObj (c.clA k) s.heap.objs.size),s.gens,s.drawn,s.toks,s.os⟩) C eo o z rfl rfl (Nat.le_succ _) (gI _ 11:A.units+1<=A.units+1+11)
   ((aY.push _ _ _).trans (aY.push _ _ _)) (Heap.get?_none_of_le (Nat.le_succ _)) (cY _) (hs▸dX _ rfl) (Heap.Ns1.of_empty ⟨_,_,_,d7 _ (dX _ rfl),rfl,(λe he=>aV he (Array.not_mem_empty _)),λ_=>rfl⟩) rfl rfl h) λr s' w=>?_
  rcases r with e|(v|_|_|_)<;>exact w
end
end
section
open PySem PySem.W PyProof.Rows
open PySem.SeqAt PySem.MeetsSeq
def ir:Nat->Str
 |0=> "append" |1=> "extend" |2=> "pop" |3=> "count" |4=> "get" |_=> "join"
noncomputable def dD(k:Nat)(v:V):String:=
 match k with
 |0=> "list.append" |1=> "list.extend" |2=> "list.pop"
 |3=>Option.rec "tuple.count" (λ_=> "list.count") (ci v)
 |4=> "dict.get" |_=> "str.join"
theorem Va{P:Nat->Prop}(h:Nat.blt k 4=true)(p0:P 0)(p1:P 1)(p2:P 2)(p3:P 3):P k:=by
 rcases k with _|_|_|_|k
 · exact p0
 · exact p1
 · exact p2
 · exact p3
 · exact ft h
theorem ob{α:Type}{o:Option α}{f:α->Bool}{G:Prop}(h:Option.rec d f o=true)(k:∀a,o=some a->f a=true->G)(k':d=true->G):G:=by
 cases o with|none=>exact k' h|some a=>exact k a rfl h
theorem fa{P:Nat->Prop}{k m:Nat}(h:Nat.beq k m=true)(p:P m):P k:=bx.mp h▸p
section
variable{c:Cx}{X:Addr->Prop}{A A' B:Around}{env env':Env}{fr cW:Fr}{μ ao a9:Mu}{σ aM σ₂:Sg}{s s₁ aB:Shared}{E:Value->Shared->Prop}{n:Nat}{K:Frag}{ih:Ev}{α β:Type}{D:Mu->Heap->α->β->Prop}
@[elab_as_elim] theorem zR {P:Value->Prop} (o:Ok c X A env fr μ σ s) (h:bf σ.H v=some xs) (rv:ad c X μ s.heap v x)
 (k1:∀a its n,s.heap.get? a=some {cls:=.type "list",data:=.seq its n}->ay (ad c X μ s.heap) xs its.toList->its.size<=4000->P (.ref a)) (k2:∀a its,s.heap.IsTuple a its->Lv X s.heap a->ay (ad c X μ s.heap) xs its.toList->P (.ref a)):P x:=
 oa h (λp hp h=>fh (P:=P) o hp rv λa its _ hq hl hz cK=>hl.elim λn e=>k1 a its n e (af h▸hz) cK) λh=>j4 (P:=P) h rv k2
theorem Fq{α:Type}{f:aF->Option α}{p:Nat×α}(h:n6 f H v=some p):ci v=some p.1:=(qu h).elim λ_ w=>aq ci w.1
theorem Kw(h:cJ v=some xs):ci v=none:=by cases v<;>first|rfl|exact ns h
theorem N7(o:Ok c X A env fr μ σ s){k:Nat}{v:V}(rv:ad c X μ s.heap v x)(h:Aw σ.H k v=true):nc c A x (ir k) (.builtin (dD k v)) [x] s:=by
 refine ob h (λp hp h=>?_) λh=>ob h (λp hp h=>?_) λh=>ob h (λp hp h=>?_) λh=>ob h (λxs hx h=>?_) λh=>ft h
 · refine fh o hp rv λa its _ _ hl _ _=>hl.elim λn hl=>⟨λpl Q E=>?_⟩
   have T:s.TypeIs (.ref a) "list" :=⟨_,hl,rfl⟩
   have hd:∀b,Value.ref a=.ref b->∃o,s.heap.get? b=some o/\o.dict=none:=λb e=>⟨_,Value.ref.inj e▸hl,rfl⟩
   have e3:dD 3 v= "list.count" :=by show(Option.rec "tuple.count" (λ_=> "list.count") (ci v):String)=_;rw[Fq hp]
   refine Va (P:=λk=>Q (.builtin (dD k v),[.ref a]) s->wpAny c.M A (getMethod (.ref a) (ir k) pl) Q E s) h (getMethod_builtin T PySem.F.plainAttrs_list PySem.F.slot_list_append PySem.F.type_list_append hd)
    (getMethod_builtin T PySem.F.plainAttrs_list PySem.F.slot_list_extend PySem.F.type_list_extend hd) (getMethod_builtin T PySem.F.plainAttrs_list PySem.F.slot_list_pop PySem.F.type_list_pop hd) ?_
   rw[e3]
   exact getMethod_builtin T PySem.F.plainAttrs_list PySem.F.slot_list_count PySem.F.type_list_count hd
 · exact lQ (P:=λx=>nc c A x (ir k) (.builtin (dD k v)) [x] s) o hp rv λa l _ _ _ e1 _ _=>fa (P:=λk=>nc c A (.ref a) (ir k) (.builtin (dD k v)) [.ref a] s) h
    ⟨λpl Q E q=>getMethod_builtin e1.typeIs PySem.F.plainAttrs_dict PySem.F.slot_dict_get PySem.F.type_dict_get (λb e=>e1.elim λod z=>z.elim λ_ z=>z.elim λ_ z=>⟨od,Value.ref.inj e▸z.1,z.2.1.2.1⟩) q⟩
 · exact fV (P:=λx=>nc c A x (ir k) (.builtin (dD k v)) [x] s) hp rv λt=>fa (P:=λk=>nc c A (.str (aW p) t) (ir k) (.builtin (dD k v)) [.str (aW p) t] s) h
    ⟨λpl Q E q=>getMethod_builtin (typeIs_str _ _ _) PySem.F.plainAttrs_str PySem.F.slot_str_join PySem.F.type_str_join (λa e=>nomatch e) q⟩
 · have e3:dD 3 v= "tuple.count" :=by show(Option.rec "tuple.count" (λ_=> "list.count") (ci v):String)=_;rw[Kw hx]
   refine j4 hx rv λa its hi hl _=>fa (P:=λk=>nc c A (.ref a) (ir k) (.builtin (dD k v)) [.ref a] s) h ?_
   rw[e3]
   exact⟨λpl Q E q=>getMethod_builtin hi.typeIs PySem.F.plainAttrs_tuple PySem.F.slot_tuple_count PySem.F.type_tuple_count (λb e=>Value.ref.inj e▸hl.2) q⟩
def jp(x:Value):Option Str:=match x with|.str s _=>some s|_=>none
theorem Qn(o:Ok c X A env fr μ σ s)(h:DM a b=some r)(ra:ad c X μ s.heap a x)(rb:ad c X μ s.heap b y)(hu:A'.units+i5<9900):EqAt A' s x y r/\r=(jp x==jp y):=by
 suffices w:eH σ.H i5 a b=some r/\r=(jp x==jp y) from⟨(xY o i5 a b r x y A' w.1 ra rb hu).1,w.2⟩
 refine oa h (λp hp h1=>?_) λh1=>(cs h1).elim λhn h2=>?_
 · refine fV hp ra λt=>oa h1 (λq hq h2=>?_) λh2=>(cs h2).elim λhn h3=>?_
   · refine fV hq rb λu=>⟨?_,(af h2).symm.trans (Kk p q)⟩
     rw[jC hp,jC hq];exact h2
   · rw[pB hn rb];refine⟨?_,(af h3).symm⟩
     rw[jC hp,nj hn];exact h3
 · rw[pB hn ra];refine oa h2 (λq hq h3=>?_) λh3=>(cs h3).elim λhm h4=>?_
   · refine fV hq rb λu=>⟨?_,(af h3).symm⟩
     rw[nj hn,jC hq];exact h3
   · rw[pB hm rb];refine⟨?_,(af h4).symm⟩
     rw[nj hn,nj hm];exact h4
theorem Yt(o:Ok c X A env fr μ σ s)(rx:ad c X μ s.heap x xv)(hu:A.units+100<9900)(hl:ay (ad c X μ s.heap) l its):∀{n:Nat},x4 x l=some n->
 (∀y∈its,EqAt A.in1 s y xv (jp y==jp xv))/\its.countP (λy=>jp y==jp xv)=n:=by
 induction hl with
 |nil=>exact λh=>⟨λ_ h=>(nomatch h),af h⟩
 |cons r _ ih=>
  intro n h
  refine on h λa ha h=>on h λm hm h=>?_
  have w:=Qn (A':=A.in1) o ha r rx (wm hu)
  have i:=ih hm
  refine⟨bD ⟨w.2▸w.1,i.1⟩,?_⟩
  rw[List.countP_cons,i.2,← w.2,← af h]
  cases a<;>rfl
theorem Pt{a S n p b:Nat}(g:S+n<=b+p):a+S+(n+p)<=a+(p+b)+p:=by
 rw[Nat.add_assoc a S,← Nat.add_assoc S,Nat.add_assoc a,Nat.add_comm p b];exact Nat.add_le_add_left (Nat.add_le_add_right g p) a
theorem UQ{h:Heap}(z:ay (ad c X μ h) l its):∀{out:List Nat},A0 sep l=some out->∃ys:List Str,StrsAre its ys/\Txt.join (aW sep) ys=aW out/\(ys.map (·.length)).sum+ys.length*(aW sep).length<=out.length+sep.length:=by
 induction z with
 |nil=>exact λh=>⟨[],.nil,af h▸rfl,by rw[List.length_nil,Nat.zero_mul];exact Nat.zero_le _⟩
 | @cons v x r q rv z ih=>
  intro out h
  refine on h λa ha h=>?_
  refine fV ha rv λt=>?_
  cases z with
  |nil=>
   have e:=af h
   subst e
   exact⟨[aW a],.cons _ t .nil,by show PySem.Builtin.Str.glued _ _=_;rw[StrLaws.glued_eq_join];rfl,by rw[jt];exact Nat.le_of_eq (by show(aW a).length+0+1*sep.length=_;rw[jt,Nat.one_mul];rfl)⟩
  |cons rb z=>
   refine on h λb hb h=>(ih hb).elim λys g=>?_
   have e:=af h
   subst e
   refine⟨aW a::ys,.cons _ t g.1,?_,?_⟩
   · have g2:Str.join (aW sep) ys=aW b:=by rw[← StrLaws.glued_eq_join];exact g.2.1
     show PySem.Builtin.Str.glued _ _=_
     rw[StrLaws.glued_eq_join]
     cases g.1 with
     |cons y t' g1=>
      show aW a++aW sep++Str.join (aW sep) _=_
      rw[g2,CG,CG,cq,cq,List.append_assoc]
   · show(aW a).length+(ys.map (·.length)).sum+(ys.length+1)*(aW sep).length<=_
     rw[Nat.succ_mul,cq,cq,List.length_append,List.length_append,jt a,← jt sep]
     exact Pt (jt sep▸g.2.2)
end
section
variable{c:Cx}{X:Addr->Prop}{A A':Around}{env:Env}{fr:Fr}{μ av:Mu}{σ:Sg}{s s':Shared}{E:Value->Shared->Prop}{n:Nat}{K:Frag}{ih:Ev}{α β:Type}
theorem J2{Q:Value->Shared->Prop}{G:Prop}(h:ac c X A env fr (DV c X) μ s ((qS i ys σ).bind λ_ s=>.ok v s) Q E)(k:ys.length<=4000->ac c X A env fr (DV c X) μ s (.ok v (put i (.list ys) σ)) Q E->G):G:=by
 unfold qS at h
 cases hf:fU ys with
 |false=>rw[hf] at h;exact h.elim
 |true=>rw[hf] at h;exact k (gy.mp hf) h
theorem AT(o:Ok c X A env fr μ σ s)(hp:aj μ i=some (a,a))(sb:Heap.SameBut a s.heap s'.heap)(hl:s'.heap.get? a=some {cls:=.type "list",data:=.seq its m})(hg:s'.gens=s.gens)(ho:s'.os=s.os)
 (hz:ay (ad c X μ s.heap) ys its.toList)(hf:ys.length<=4000){Q:Value->Shared->Prop}(h:ac c X A env fr (DV c X) μ s (.ok v (put i (.list ys) σ)) Q E)(rv:ad c X μ s.heap v y):Q y s':=
 have k:=(aY.same sb hl).mono λ_ _ _ q=>.inl q
 have nx:=aK.put hp k hg ho
 h.ok nx (o.put hp k ⟨rfl,its,⟨m,hl⟩,hz.nxt o nx,cz hz▸hf⟩) (rv.nxt o nx)
theorem Mg{its:Array Value}(eo:aJ c n A env fr)(o:Ok c X A env fr μ σ s)(rx:ad c X μ s.heap x xv)(hz:ay (ad c X μ s.heap) l its.toList){Q:Value->Shared->Prop}
 (h:ac c X A env fr (DV c X) μ s (aX (x4 x l) λm=>nR m σ) Q E){G:Prop}(k:(∀y,y∈its->EqAt A.in1 s y xv (jp y==jp xv))->Q (.int (its.toList.countP λy=>jp y==jp xv) s.toks) {s with toks:=s.toks+1}->G):G:=
 bk h λm hm h=>by
  have w:=Yt o rx (AW eo) hz hm
  refine k (λy hy=>w.1 y (Array.mem_toList_iff.mpr hy)) ?_
  rw[w.2];exact nq o h
theorem WB(eo:aJ c n A env fr)(o:Ok c X A env fr μ σ s){a:Addr}(hw:ci w=some i)(hp:aj μ i=some (a,a))(hl:s.heap.PlainList a its)(hz:ay (ad c X μ s.heap) ys its.toList)(cK:its.size<=4000)
 (z:ay (ad c X μ s.heap) vs xs){Q:Value->Shared->Prop}(h:ac c X A env fr (DV c X) μ s (JH k i ys vs σ) Q E):wpAny c.M A (PySem.call (.builtin (dD k w)) (.ref a::xs)) Q E s:=
 hl.elim λn0 e0=>by
 have le:=gs cK
 cases z with
 |nil=>
  refine bB h λhk h=>bk h λv hv h=>fa (P:=λk=>wpAny c.M A (PySem.call (.builtin (dD k w)) [.ref a]) Q E s) hk ?_
  rw[List.getLast?_eq_getElem?,← cz hz] at hv
  refine(hz.get _ _ hv).elim λy y1=>?_
  rw[Array.getElem?_toList] at y1
  have z2:ay (ad c X μ s.heap) ys.dropLast (its.eraseIdxIfInBounds (its.size-1)).toList:=by
   rw[Array.toList_eraseIdxIfInBounds,← Array.length_toList,List.eraseIdx_length_sub_one,List.dropLast_eq_take,List.dropLast_eq_take,hz.length];exact hz.take _
  show wpAny c.M A (PySem.call (.builtin "list.pop") [.ref a]) Q E s
  exact call_meets PySem.F.slot_list_pop ⟨_,e0,rfl⟩ PySem.F.entry_list_pop (PySem.F.args_list_pop_1 _) (list_pop_last a its n0 y y1.1 le)
   ⟨e0,AT (s':={s with heap:=s.heap.update a (Obj.mapSeq λxs=>xs.eraseIdxIfInBounds (its.size-1))}) o hp (Heap.SameBut.update ..) (IsL.update e0 λxs=>xs.eraseIdxIfInBounds (its.size-1)) rfl rfl z2 (fe (List.length_dropLast▸Nat.sub_le ..) (cz hz▸cK)) h y1.2⟩
 | @cons v x vs xs rv z=>cases z with
  |cons=>exact h.elim
  |nil=>
   refine gG h (λhk h=>?_) λ_ h=>gG h (λhk h=>?_) λ_ h=>bB h λhk h=>?_
   · refine J2 h λhf h=>fa (P:=λk=>wpAny c.M A (PySem.call (.builtin (dD k w)) [.ref a,x]) Q E s) hk ?_
     exact wpAny_list_append_plain ⟨n0,e0⟩ (λh' hH sb=>hH.elim λm e=>AT (s':={s with heap:=h'}) o hp sb e rfl rfl (by rw[cq,Array.toList_push];exact hz.append (.cons rv .nil)) hf h rfl) le
   · refine bk h λzs hi h=>on hi λp hq e=>J2 h λhf h=>fa (P:=λk=>wpAny c.M A (PySem.call (.builtin (dD k w)) [.ref a,x]) Q E s) hk ?_
     refine fh o hq rv λb gF _ _ mr z2 _=>mr.elim λn2 hb=>?_
     have e:=af e
     subst e
     have sz:its.size+gF.size<=4000:=by rw[cz hz,cz z2,← List.length_append,← cq];exact hf
     show wpAny c.M A (PySem.call (.builtin "list.extend") [.ref a,.ref b]) Q E s
     exact call_meets PySem.F.slot_list_extend ⟨_,e0,rfl⟩ PySem.F.entry_list_extend (PySem.F.args_list_extend_2 _ _) (AutoSeq1.list_extend_list_list_0 a its n0 b gF n2 (extend_door (gs sz)) (gs (fe (gI ..) sz)) (Nat.le_succ_of_le (gs sz)))
      ⟨e0,hb,AT (s':={s with heap:=s.heap.update a (Obj.mapSeq λx=>x++gF)}) o hp (Heap.SameBut.update ..) (IsL.update e0 λx=>x++gF) rfl rfl (by rw[cq,Array.toList_append];exact hz.append z2) hf h rfl⟩
   · refine fa (P:=λk=>wpAny c.M A (PySem.call (.builtin (dD k w)) [.ref a,x]) Q E s) hk ?_
     have e3:dD 3 w= "list.count" :=by show(Option.rec "tuple.count" (λ_=> "list.count") (ci w):String)=_;rw[hw]
     rw[e3]
     exact Mg eo o rv hz h λhe q=>call_meets PySem.F.slot_list_count ⟨_,e0,rfl⟩ PySem.F.entry_list_count (PySem.F.args_list_count_2 _ _) (list_countAt a its n0 none #[] x _) ⟨e0,he,q⟩
theorem BB{α:Type}{vs:List V}{xs:List Value}{f:V->R α}{D:Mu->Heap->α->β->Prop}{Q:β->Shared->Prop}{P:List Value->Prop}(h:ac c X A env fr D μ s (one vs f) Q E)(z:ay (ad c X μ s.heap) vs xs)(k:∀v x,ad c X μ s.heap v x->ac c X A env fr D μ s (f v) Q E->P [x]):P xs:=by
 cases z with
 |nil=>exact h.elim
 |cons r z=>cases z with|nil=>exact k _ _ r h|cons=>exact h.elim
theorem Wz(o:Ok c X A env fr μ σ s){k:Nat}{w:V}{bF:List (List Nat×V)}{vs:List V}{xs:List Value}{a:Addr}{l:List (Str×Value)}(hsm:(a==sysModules)=false)(e1:s.heap.DictOf (strKind c.prog c.w) a l)(z1:ay (lX c X μ s.heap) bF l)(z:ay (ad c X μ s.heap) vs xs){Q:Value->Shared->Prop}
 (h:ac c X A env fr (DV c X) μ s (LL k bF vs σ) Q E):wpAny c.M A (PySem.call (.builtin (dD k w)) (.ref a::xs)) Q E s:=
 BB (P:=λxs=>wpAny c.M A (PySem.call (.builtin (dD k w)) (.ref a::xs)) Q E s) h z λv x rv h=>bk h λx hx h=>bB h λhk h=>fa (P:=λk=>wpAny c.M A (PySem.call (.builtin (dD k w)) [.ref a,_]) Q E s) hk (by
  refine fV hx rv λt=>?_
  show wpAny c.M A (PySem.call (.builtin "dict.get") _) Q E s
  refine call_meetsIn PySem.F.slot_dict_get e1.mapOf.typeIs PySem.F.entry_dict_get (PySem.F.args_dict_get_2 _ _) (meets_dict_get _ a (strKind_is _ _ _ _) hsm) ⟨_,e1.mapOf,?_⟩
  have sl:=q8 z1 x
  cases hv:jF bF x with
  |none=>rw[hv] at h;rw[sl.2 hv];exact ac.ok h (iy _) (o.tok _) rfl
  |some v=>rw[hv] at h;exact(sl.1 v hv).elim λy y1=>by rw[y1.1];exact ac.ok h (iy _) (o.tok _) y1.2)
theorem W1(o:Ok c X A env fr μ σ s){cs:List Nat}(z:ay (ad c X μ s.heap) vs xs){Q:Value->Shared->Prop}
 (h:ac c X A env fr (DV c X) μ s (I2 k cs vs σ) Q E):wpAny c.M A (PySem.call (.builtin (dD k w)) (.str (aW cs) t::xs)) Q E s:=
 BB (P:=λxs=>wpAny c.M A (PySem.call (.builtin (dD k w)) (.str (aW cs) t::xs)) Q E s) h z λv x r h=>bB h λhk h=>bB h λhc h=>bk h λus hi h=>bk h λout hj h=>wZ h λhf h=>fa (P:=λk=>wpAny c.M A (PySem.call (.builtin (dD k w)) [.str (aW cs) t,_]) Q E s) hk (by
  have eV:∀its:Array Value,ay (ad c X μ s.heap) us its.toList->∃ys:List Str,StrsAre its.toList ys/\(ys.map (·.length)).sum+ys.length*(aW cs).length<=16777216/\∀t' k,Q (.str (Txt.join (aW cs) ys) t') {s with toks:=k}:=λits z=>
   (UQ z hj).imp λys g=>⟨g.1,fe g.2.2 (fe (Nat.add_le_add hf (gy.mp hc)) (by decide)),λt' k=>by rw[g.2.1];exact ac.ok h (iy _) (o.tok _) ⟨_,rfl⟩⟩
  exact zR o hi r (λa its n ha z _=>(eV its z).elim λys g=>join_list ⟨_,ha,rfl,n,rfl⟩ g.1 g.2.1 g.2.2) λa its ha _ z=>(eV its z).elim λys g=>join_tuple ha g.1 g.2.1 g.2.2)
theorem Y7(eo:aJ c n A env fr)(o:Ok c X A env fr μ σ s){us:List V}{x:Value}(hw:cJ w=some us)(rv:ad c X μ s.heap w x)(z:ay (ad c X μ s.heap) vs xs){Q:Value->Shared->Prop}
 (h:ac c X A env fr (DV c X) μ s (GU k us vs σ) Q E):wpAny c.M A (PySem.call (.builtin (dD k w)) (x::xs)) Q E s:=
 BB (P:=λxs=>wpAny c.M A (PySem.call (.builtin (dD k w)) (x::xs)) Q E s) h z λv y r h=>bB h λhk h=>fa (P:=λk=>wpAny c.M A (PySem.call (.builtin (dD k w)) [x,y]) Q E s) hk (by
  have e3:dD 3 w= "tuple.count" :=by show(Option.rec "tuple.count" (λ_=> "list.count") (ci w):String)=_;rw[Kw hw]
  rw[e3]
  refine j4 hw rv λa its hi hl hz=>hi.elim λob w=>?_
  obtain⟨oc,od,odt,osl⟩:=ob
  obtain⟨ha,hc,n',hd⟩:=w
  simp only at hc hd
  subst hc hd
  exact Mg eo o r hz h λhe q=>call_meets PySem.F.slot_tuple_count ⟨_,ha,rfl⟩ PySem.F.entry_tuple_count (PySem.F.args_tuple_count_2 _ _) (tuple_countAt a its n' od osl _ _) ⟨ha,he,q⟩)
theorem QY(eo:aJ c n A env fr)(o:Ok c X A env fr μ σ s)(rv:ad c X μ s.heap v x)(z:ay (ad c X μ s.heap) vs xs){Q:Value->Shared->Prop}
 (h:ac c X A env fr (DV c X) μ s (Ja k v vs σ) Q E):wpAny c.M A (PySem.call (.builtin (dD k v)) (x::xs)) Q E s:=
 fu h (λp hp h=>by refine fh o hp rv λa its _ hq hl hz cK=>WB eo o (Fq hp) hq hl hz cK z h)
  λh=>fu h (λp hp h=>by refine lQ o hp rv λa l _ _ hm e1 z1 _=>Wz o hm e1 z1 z h)
  λh=>fu h (λp hp h=>by refine fV hp rv λt=>W1 o z h) λh=>bk h λus hu h=>Y7 eo o hu rv z h
end
end
section
open PySem PySem.W PyProof.Rows
section
variable{c:Cx}{X:Addr->Prop}{A A':Around}{env:Env}{fr:Fr}{μ av:Mu}{σ:Sg}{s s':Shared}{E:Value->Shared->Prop}{n:Nat}{K:Frag}{ih:Ev}{α β:Type}
theorem ul{Q:Value->Shared->Prop}(h:lY c A f xs Q E s):wpAny c.M A (PySem.call f xs) Q E s:=wpAny_call h
theorem JB(id:String)(h:Heap):∃k,(k=Keeper.frame\/k=Keeper.machine\/k=Keeper.boundFrame)/\Looks c.M h (keeperOf (.builtin id)) k:=⟨.machine,.inr (.inl rfl),.now⟩
theorem Oh(id:String)(h:Heap):∃k,(k=Keeper.frame\/k=Keeper.machine\/k=Keeper.boundFrame)/\Looks c.M h (keeperOf (.type id)) k:=⟨.machine,.inr (.inl rfl),.now⟩
theorem YI(h:Aw H k v=true):k<6:=
 ob h (λ_ _ h=>Nat.lt_trans (cF h) (by decide)) λh=>ob h (λ_ _ h=>fa (P:=λk=>k<6) h (by decide)) λh=>ob h (λ_ _ h=>fa (P:=λk=>k<6) h (by decide)) λh=>ob h (λ_ _ h=>fa (P:=λk=>k<6) h (by decide)) λh=>ft h
theorem NA(h:AK T H o a=some kb)(hb:kb.2=true):∃p cl,oj H o=some p/\au p.2.2 a=none/\T.cls p.2.1=some cl/\au cl.meth a=some kb.1:=by
 unfold AK at h
 cases hi:oj H o with
 |none=>rw[hi] at h;exact ft ((aq Prod.snd (af h)).trans hb)
 |some p=>
  rw[hi] at h
  have h:(Option.rec (a7 (T.cls p.2.1) (λcl=>a7 (au cl.meth a) (λk=>some (k,true)) .none) .none) (λ_=>.none) (au p.2.2 a):Option (Nat×Bool))=some kb:=h
  cases ha:au p.2.2 a with
  |some _=>rw[ha] at h;exact ns h
  |none=>
   rw[ha] at h
   exact on h λcl hc h=>on h λk hk h=>⟨p,cl,rfl,ha,hc,hk.trans (aq some (aq Prod.fst (af h)))⟩
theorem Qm(G:bp c K)(o:Ok c X A env fr μ σ s)(hp:oj σ.H v=some p)(rv:ad c X μ s.heap v x)(hn:au p.2.2 a=none)(hc:c.T.cls p.2.1=some cl)(hf:au cl.meth a=some f):
 nc c A x (c.nm a) (.ref (c.fnA f)) [x] s:=by
 refine AO o hp rv λq m _ _ hx vA z1 z2=>⟨λpl Q E w=>?_⟩
 have g:=G.meth p.2.1 cl a f hc hf
 refine(rY vA.ns (c.nm a)).elim λod d=>?_
 have e:=Option.eq_none_iff_forall_ne_some.mpr λy hm=>(z2 _ _ hm).elim λb z=>z.elim λv z=>cg (G.inj _ _ z.2▸z.1) hn
 exact method_fn (o.kin G) (zO hx d.1) (plainGet_of g.1).1 (plainGet_of g.1).2 g.2.1 g.2.2 (by show(lookIn (c.nm a) od).map _=_;rw[d.2,e];rfl) w
def qz(c:Cx):Prop:=∀a k,c.mc a=some k->k<6->c.nm a=ir k
theorem NF(G:bp c K)(lg:qz c)(S:SE c n ih.eE)(C:SC c n ih.call)(eo:aJ c n A env fr)(o:Ok c X A env fr μ σ s){ob:Mine.E}{Q:Value->Shared->Prop}
 (hl:Nat.beq (aE p).endLine (aE q).line=true)(hn:Nat.blt (len es) 30=true)
 (h:ac c X A env fr (DV c X) μ s (KH c.T ih c.mc ob a es fr σ) Q E):wpAny c.M A (eval (an c.nm (.call (.attr ob a p) es q)) env) Q E s:=by
 show wpAny c.M A (do
  let ov ← attributeBase (an c.nm ob) (c.nm a) env (eval (an c.nm ob) env)
  standAt (aE p).atName
  methodCall (an c.nm ob) (c.nm a) (aE p) (aE q) env ov ((bC c.nm es).length+([]:List Keyword).length) (backTo (aE q) (starEach (bC c.nm es) env)) (backToKw (aE q) (keywordEach [] env))) Q E s
 rw[Fe G]
 exact ah (S X A env fr μ σ s ob _ E eo o (ac.bind (D':=DV c X) h λov aM ao x s₁ n₁ aC bj h₁=>ah (fZ (bk h₁ λkb hm h₁=>gG h₁
  (λhb h₁=>bB h₁ λhk h₁=>(NA hm hb).elim λp w=>w.elim λcl w=>I8 S eo aC hl hn (Qm G aC w.1 bj w.2.1 w.2.2.1 w.2.2.2)
   (ac.bind (D':=DL c X) h₁ λvs σ₂ a9 ys aB bG bc dB bh=>⟨G3 G bc hk,ul (C X A env fr a9 σ₂ aB kb.1 _ _ Q E eo bc (.cons (bj.nxt aC bG) dB) bh)⟩))
  λ_ h₁=>bk h₁ λk hk h₁=>bB h₁ λhf h₁=>I8 S eo aC hl hn (lg a k hk (YI hf)▸N7 aC bj hf)
   (ac.bind (D':=DL c X) h₁ λvs σ₂ a9 ys aB bG bc dB bh=>⟨JB _ _,QY eo bc (bj.nxt aC bG) dB bh⟩)))))
end
section
variable{c:Cx}{X:Addr->Prop}{A A':Around}{env:Env}{fr:Fr}{μ av:Mu}{σ:Sg}{s s':Shared}{E:Value->Shared->Prop}{n:Nat}{K:Frag}{ih:Ev}{α β:Type}
theorem Tv{h h':Heap}(hk:∀b ob,h.get? b=some ob->h'.get? b=some ob):h.get? h'.objs.size=none:=Option.eq_none_iff_forall_ne_some.mpr λob e=>cg (hk _ _ e) (cY _)
theorem V8(o:Ok c X A env fr μ σ s){v:V}(rv:ad c X μ s.heap v x){Q:Value->Shared->Prop}
 (h:ac c X A env fr (DV c X) μ s (aX (bf σ.H v) λxs=>nS xs σ) Q E):wpAny c.M A (PySem.call (.type "tuple") [x]) Q E s:=
 bk h λxs hi h=>bB h λhf h=>by
  refine zR o hi rv (λa its n ha z hz=>?_) λa its ht hl z=>?_
  · exact call_tuple_list ⟨_,ha,rfl,n,rfl⟩ (λh' hk=>vX o z h (.of λb ob e=>d7 _ (hk b ob e)) (Tv hk) (dX _ rfl) rfl rfl) (gs hz)
  · exact call_tuple_same ht (h.ok .refl o ((iw (uy xs)).mpr ⟨a,its,rfl,ht,hl,by rw[vd];exact z⟩))
theorem Pa(h:Cg v=true):∃j,v=.atom j/\b9 (c.ρ j)=true:=bV h λj hj h=>⟨j,qA hj,c.ρt j (MT h).1 (MT h).2⟩
where
 MT {a b:Bool} (h:aa a b false=true):a=true/\b=true:=by cases a with|true=>exact⟨rfl,h⟩|false=>exact ft h
 bV {α:Type} {o:Option α} {f:α->Bool} {G:Prop} (h:Option.rec false f o=true) (k:∀a,o=some a->f a=true->G):G:=by cases o with|none=>exact ft h|some a=>exact k a rfl h
theorem Vu(o:Ok c X A env fr μ σ s)(rv:ad c X μ s.heap v x){Q:Value->Shared->Prop}(hv:Cg v=true)(h:ac c X A env fr (DV c X) μ s (.ok v σ) Q E):wpAny c.M A (PySem.call (.type "tuple") [x]) Q E s:=
 (Pa hv).elim λj w=>((iw (c:=c) (μ:=μ) w.2).mp ((xt (c:=c) (μ:=μ) _).1 x (w.1▸rv:ad c X μ s.heap (.atom j) x))).elim λa z=>z.elim λits z=>z.1.symm▸call_tuple_same z.2.1 (z.1▸h.ok .refl o rv)
theorem Sm(o:Ok c X A env fr μ σ s)(rv:ad c X μ s.heap v x){Q:Value->Shared->Prop}
 (h:ac c X A env fr (DV c X) μ s (aX (bf σ.H v) λxs=>lz xs σ) Q E):wpAny c.M A (PySem.call (.type "list") [x]) Q E s:=
 bk h λxs hi h=>bB h λhf h=>by
  have go:∀(a:Addr) (its:Array Value) (T:String) (ob:Obj) (m:Nat),(T= "list" \/T= "tuple")->s.heap.get? a=some ob->ob.cls=.type T->ob.data=.seq its m->ay (ad c X μ s.heap) xs its.toList->wpAny c.M A (PySem.call (.type "list") [.ref a]) Q E s:=λa its T ob m hT h1 h2 h3 z=>
   have hz:=cz z▸gy.mp hf
   call_list_seq a hT h1 h2 h3 (λh' c' hk hb=>wQ o z h hz (.of hk) (cY _) hb rfl rfl) (gs hz)
  exact zR o hi rv (λa its n ha z hz=>go a its _ _ n (.inl rfl) ha rfl rfl z) λa its ht _ z=>ht.elim λob w=>w.2.2.elim λm e=>go a its _ _ m (.inr rfl) w.1 w.2.1 e z
theorem yv(o:Ok c X A env fr μ σ s){Q:Value->Shared->Prop}(h:ac c X A env fr (DV c X) μ s (nR n σ) Q E)(e:m=n):Q (.int (Int.ofNat m) t) {s with toks:=s.toks+1+1}:=e▸ac.ok h (iy _) (o.tok _) ⟨_,rfl⟩
theorem SF(o:Ok c X A env fr μ σ s)(rv:ad c X μ s.heap v x){Q:Value->Shared->Prop}
 (h:ac c X A env fr (DV c X) μ s (Je v σ) Q E):wpAny c.M A (PySem.call (.builtin "len") [x]) Q E s:=
 have sm:∀{k:Nat},k<=4000->(k:Int)<2^63:=λh=>Int.lt_of_le_of_lt (Int.ofNat_le.mpr h) (by decide)
 fu h (λcs hc h=>bB h λhf h=>by
  refine fV hc rv λt=>?_
  exact P.len_str (by rw[jt];exact Int.not_le.mpr (sm (gy.mp hf))) (yv o h ((jt _).trans (bH _).symm)))
  λh=>fu h (λp hp h=>by
   refine fh o hp rv λa its _ _ hl hz cK=>?_
   exact Calls.call_len_list hl.isList (sm cK) (yv o h ((cz hz).trans (bH _).symm)))
  λh=>fu h (λp hp h=>by
   refine lQ o hp rv λa l _ _ hs hd z hz=>?_
   exact call_len_dict hs hd (sm hz) (yv o h (z.length.trans (bH _).symm)))
  λh=>bk h λxs hx h=>bB h λhf h=>by
   refine j4 hx rv λa its hi _ z=>?_
   exact len_tuple hi (by rw[cz z];exact sm (gy.mp hf)) (yv o h ((cz z).trans (bH _).symm))
theorem Za:∀k:Nat,k<10->Str.ofString (toString (Int.ofNat k))=aW [48+k]:=by decide+kernel
theorem VB(o:Ok c X A env fr μ σ s)(rv:ad c X μ s.heap v x){Q:Value->Shared->Prop}
 (h:ac c X A env fr (DV c X) μ s (aX (Ga v) λx=>oY x σ) Q E):wpAny c.M A (PySem.call (.type "str") [x]) Q E s:=
 bk h λcs hs h=>wZ h λ_ h=>oa hs (λw hw e=>by
  have e:=af e
  subst e
  refine fV hw rv λt=>?_
  exact P.str_of_str (ac.ok h .refl o ⟨t,rfl⟩))
  λhs=>on hs λi hi e=>by
   have e:=Mine.cs e
   refine iE hi rv λt=>?_
   cases i with
   |negSucc=>exact ft e.1
   |ofNat k=>
    have hk:=cF e.1
    have e2:[48+k]=cs:=af e.2
    subst e2
    exact P.str_of_int (jI (Nat.log2_le_self _) (Nat.lt_trans hk (by decide))) (ac.ok h (iy _) (o.tok _) ⟨s.toks,by rw[← Za k hk]⟩)
theorem Xo(z:ay (ad c X μ h) l its):∀{b:Bool},zi l=some b->∃bs:List Bool,its=bs.map .bool/\bs.all id=b:=by
 induction z with
 |nil=>exact λh=>⟨[],rfl,af h⟩
 |cons r _ ih=>exact λh=>on h λx hx h=>on h λy hy h=>(ih hy).elim λbs w=>⟨x::bs,List.cons_eq_cons.mpr ⟨(oz hx▸r:ad c X μ _ (.bool x) _),w.1⟩,by rw[← af h,List.all_cons,w.2];cases x<;>rfl⟩
theorem SR(bs:List Bool):((List.range bs.length).all λi=>(bs[i]?).getD true)=bs.all id:=by
 induction bs with
 |nil=>rfl
 |cons b r ih=>rw[List.length_cons,List.range_succ_eq_map,List.all_cons,List.all_map,List.all_cons,← ih];rfl
theorem NY(hh:A.handled=none)(o:Ok c X A env fr μ σ s)(rv:ad c X μ s.heap v x){Q:Value->Shared->Prop}
 (h:ac c X A env fr (DV c X) μ s (aX (vb σ.H v) λxs=>aX (zi xs) λb=>bl b σ) Q E):wpAny c.M A (PySem.call (.builtin "all") [x]) Q E s:=
 bk h λxs hi h=>bk h λb hb h=>on hi λp hp e=>by
  refine fh o hp rv λa its _ _ hl z _=>hl.elim λm ha=>(Xo (af e▸z) hb).elim λbs w=>?_
  have hl:s.heap.IsList a its:=⟨_,ha,rfl,m,rfl⟩
  have hn:its.size=bs.length:=by rw[← Array.length_toList,w.1,List.length_map]
  refine call_all_walk (wpAny_pyIter_list hl ?_)
  refine⟨s.heap.objs.size,[s.heap.objs.size,a],[s.heap.objs.size],its.size,_,_,λi=>(bs[i]?).getD true,rfl,Walks.list (A:=A.in1) hh _ a (Nat.ne_of_lt (Heap.lt_size ha)) its,
   ⟨⟨_,dX _ rfl,rfl,rfl⟩,hl.push _⟩,λi v s' Q' E' hP hQ=>?_,λh' tk hk=>?_⟩
  · have hP:its[i]?=some v:=hP
    rw[← Array.getElem?_toList,w.1,List.getElem?_map] at hP
    exact(Option.map_eq_some_iff.mp hP).elim λb q=>q.2▸wpAny_truthy_bool (by have hQ:Q' ((bs[i]?).getD true) s':=hQ;rw[q.1] at hQ;exact hQ)
  · rw[hn,SR,w.2]
    have k:aY (λ_=>False) s.heap h':=.of λb ob e=>hk b ob (λhm=>aV (Heap.lt_size e) (List.mem_singleton.mp hm▸Nat.lt_irrefl _)) (d7 _ e)
    exact ac.ok h ((aK.add (s':={s with heap:=h'}) k rfl rfl).tok tk) ((o.add (s':={s with heap:=h'}) k).tok tk) rfl
theorem Qs(hh:A.handled=none)(o:Ok c X A env fr μ σ s){Q:Value->Shared->Prop}
 (h:ac c X A env fr (DV c X) μ s (.ok (.int (aa (decide (a<b)) b a)) σ) Q E):wpAny c.M A (PySem.call (.builtin "max") [.int a t,.int b u]) Q E s:=
 max_two_ints hh λh' tk hk=>by
  have k:aY (λ_=>False) s.heap h':=.of hk
  have q:∀y,ad c X μ h' (.int (aa (decide (a<b)) b a)) y->Q y {s with heap:=h',toks:=tk}:=λy r=>h.ok ((aK.add (s':={s with heap:=h'}) k rfl rfl).tok tk) ((o.add (s':={s with heap:=h'}) k).tok tk) r
  by_cases yH:a<b
  · rw[aG yH];exact q _ ⟨u,by rw[decide_eq_true yH];rfl⟩
  · rw[ax yH];exact q _ ⟨t,by rw[decide_eq_false yH];rfl⟩
def oF(c:Cx):Prop:=∀X A env fr μ σ s v x Q E n,aJ c n A env fr->Ok c X A env fr μ σ s->ad c X μ s.heap v x->
 ac c X A env fr (DV c X) μ s (aX (vb σ.H v) λxs=>aX (yu [] xs) λbF=>tu bF σ) Q E->wpAny c.M A (PySem.call (.type "dict") [x]) Q E s
def Bi(c:Cx)(A:Around)(Q E:Value->Shared->Prop)(s:Shared)(xs:List Value)(k:Nat):Prop:=k<14/\wpAny c.M A (PySem.call (ie k) xs) Q E s
theorem SB(D:oF c)(eo:aJ c n A env fr)(o:Ok c X A env fr μ σ s)(rv:ad c X μ s.heap v x){Q:Value->Shared->Prop}
 (h:ac c X A env fr (DV c X) μ s (b1 k v σ) Q E):Bi c A Q E s [x] k:=
 gG h (λe h=>fa e ⟨by decide,SF o rv h⟩) λ_ h=>gG h (λe h=>fa e ⟨by decide,gG h (λe h=>Vu o rv e h) λ_ h=>V8 o rv h⟩) λ_ h=>gG h (λe h=>fa e ⟨by decide,Sm o rv h⟩) λ_ h=>
 gG h (λe h=>fa e ⟨by decide,VB o rv h⟩) λ_ h=>gG h (λe h=>fa e ⟨by decide,bk h λb hb h=>by
  rw[(oz hb▸rv:ad c X μ s.heap (.bool b) x)]
  exact call_int_bool (ac.ok h (iy _) (o.tok _) ⟨s.toks,by cases b<;>rfl⟩)⟩) λ_ h=>
 gG h (λe h=>fa e ⟨by decide,NY eo.handled o rv h⟩) λ_ h=>bB h λe h=>fa e ⟨by decide,D X A env fr μ σ s v x Q E n eo o rv h⟩
theorem S1(D:oF c)(eo:aJ c n A env fr)(o:Ok c X A env fr μ σ s)(z:ay (ad c X μ s.heap) vs xs){Q:Value->Shared->Prop}
 (h:ac c X A env fr (DV c X) μ s (builtin k vs σ) Q E):Bi c A Q E s xs k:=by
 cases z with
 |nil=>exact h.elim
 |cons r z=>cases z with
  |nil=>exact SB D eo o r h
  |cons r2 z=>cases z with
   |cons=>exact h.elim
   |nil=>exact bB h λhk h=>fa hk ⟨by decide,by refine ko h r r2 λa b t u h=>Qs eo.handled o h⟩
def Y3(v:Value):Bool:=match v with|.builtin _=>true|.type _=>true|_=>false
theorem AF(k:Nat)(hk:k<14)(h:Heap):∃j,(j=Keeper.frame\/j=Keeper.machine\/j=Keeper.boundFrame)/\Looks c.M h (keeperOf (ie k)) j:=by
 have e:=(by decide:∀k:_root_.Fin 14,Y3 (ie k.val)=true) ⟨k,hk⟩
 cases hv:ie k with
 |builtin id=>exact JB id h
 |type id=>exact Oh id h
 |_=>rw[hv] at e;exact ft e
end
section
variable{c:Cx}{X:Addr->Prop}{A A' B:Around}{env env':Env}{fr cW:Fr}{μ ao a9:Mu}{σ aM σ₂:Sg}{s s₁ aB:Shared}{E:Value->Shared->Prop}{n:Nat}{K:Frag}{ih:Ev}
theorem iu(h:aa b x false=true):b=true/\x=true:=by cases b with|true=>exact⟨rfl,h⟩|false=>exact ft h
structure ZF(p:Nat×Nat)(r:List (Nat×Nat)):Prop where
 n1:Nat.beq p.2 1=false
 le:p.2<=3
 ok:kL r=true
 one:∀k,au r p.1=some k->k=p.2
theorem J1(h:kL (p::r)=true):ZF p r:=
 have h1:=cf (h)
 have h2:=iu h1.2
 ob h2.2 (λk hk h=>⟨h1.1,dL h2.1,(iu h).2,λj hj=>bz hk hj▸bx.mp (iu h).1⟩) λh=>(by
  cases hk:au r p.1 with
  |none=>exact⟨h1.1,dL h2.1,h,λj hj=>ns (hk.symm.trans hj)⟩
  |some k=>have w:=h2.2;rw[hk] at w;exact⟨h1.1,dL h2.1,h,λj hj=>bz hk hj▸bx.mp (iu w).1⟩)
theorem Ox:kL sc=true->∀p∈sc,au sc p.1=some p.2:=by
 induction sc with
 |nil=>exact λ_ p hp=>nomatch hp
 |cons q r ih=>
  intro h p hp
  have w:=J1 h
  refine(dy q.1 q.2 r p.1).trans ?_
  refine(List.mem_cons.mp hp).elim (λe=>aG (e▸rfl) |>.trans (e▸rfl)) λhp=>?_
  have e:=ih w.ok p hp
  by_cases e1:q.1=p.1
  · rw[aG e1,w.one p.2 (e1▸e)]
  · rw[ax e1];exact e
theorem BL:kL sc=true->(∀p∈sc,p.2<=3)/\dm sc=[]:=by
 induction sc with
 |nil=>exact λ_=>⟨λp hp=>(nomatch hp),rfl⟩
 |cons p r ih=>
  intro h
  have w:=J1 h
  have i:=ih w.ok
  exact⟨bD ⟨w.le,i.1⟩,(aq (List.map λq:Nat×Nat=>q.1) (List.filter_cons_of_neg (p:=λq:Nat×Nat=>q.2==1) λq=>dY.mp w.n1 (beq_iff_eq.mp q))).trans i.2⟩
theorem N5(G:bp c K)(S:SE c n ih.eE)(eo:aJ c (n+1) A env fr)(o:Ok c X A env fr μ σ s){cs:List (Nat×Nat)}(C:nh c μ s.heap a l cs)(z:ay (ad c X μ s.heap) vs xs){Q:Value->Shared->Prop}
 (h:ac c X A env fr (DV c X) μ s (xF c.T ih (.clo l cs) vs σ) Q E):lY c A (.ref a) xs Q E s:=
 C.ex.elim λob w=>w.elim λfd w=>w.c11.elim λargs wa=>bk h λbs hb h=>by
  have b:=H8 hb
  have sc:=BL w.c4
  have em:ew (dm l.sc) σ.H cs=(σ.H,cs):=by rw[sc.2];rfl
  have lx:xs.length=(l.ps.map c.nm).length:=z.length.trans (b.1.symm.trans (List.length_map ..).symm)
  refine kla_callFunE eo.deep w.c1 w.c3 (w.c6▸rfl) (w.c6▸rfl) w.c5 w.c9 ?_
  refine xz (k:=xs.length) (od:=none) (ds:=[]) wa.1 wa.2 rfl (λQ q=>by rw[w.c12];exact aS q) w.c13 (by rw[← lx];exact dU _) (Nat.le_refl _) (Nat.le_of_eq lx) ?_
  rw[w.c7,w.c8,List.drop_nil,List.append_nil,LU l.ps vs b.1,b.2]
  refine El (lm:=false) (E2:=E) (tail:=λs1=>ih.eE l.body ⟨l.sc,cs,false⟩ s1) G eo o (sc:=l.sc) (w.c6▸rfl) (w.c6▸rfl) sc.1 (g0:=cs) w.c10 (λq=>ft q) (b.2▸z.zip b.1) (by rw[em];exact h) λenv' a9 σ₂ aB cL bc bh=>⟨NoLimit.stays G.nolim bc.stays,kla_codeExpr ?_⟩
  rw[em] at cL bc bh
  exact S X (A.deeper env') env' _ a9 σ₂ aB l.body _ _ cL bc bh
theorem OA(G:bp c K)(D:oF c)(S:SE c n ih.eE)(C:SC c n ih.call):SV c n (xF c.T ih):=by
 intro X A env fr μ σ s fv vs x xs Q E eo o rf z h
 cases fv with
 |fn k=>
  have e:=rf
  subst e
  exact bB h λhk h=>⟨G3 G o hk,ul (C X A env fr μ σ s k vs xs Q E eo.of_succ o z h)⟩
 |cls k=>
  have e:=rf
  subst e
  exact bk h λcl hc _=>⟨keeps_K (G.make k cl hc).1 _ (o.kin G),ul (Z3 G C eo o z h)⟩
 |bi k=>
  have e:=rf
  have w:=S1 D eo o z h
  rw[e,G.bi k w.1]
  exact⟨AF k w.1 _,w.2⟩
 |clo l cs=>
  refine rf.elim λa w=>?_
  rw[w.1]
  refine⟨w.2.ex.elim λob y=>y.elim λfd y=>⟨.frame,.inl rfl,?_⟩,ul (N5 G S eo o w.2 z h)⟩
  refine(Looks.ld (part:=none) y.c1).andThen ?_
  rw[y.c3]
  exact .now
 |_=>exact h.elim
end
theorem LR{v:V}(h:zy v=true):v=.nil:=by cases v<;>first|rfl|exact ft h
theorem KT{v:V}{p:V×V}(h:wL v=some p):v=.cons p.1 p.2:=by cases v<;>first|exact ns h|exact af h▸rfl
theorem qZ{v:V}{k:Nat}(h:dS v=some k):v=.bi k:=by cases v<;>first|exact ns h|exact aq V.bi (af h)
theorem bV{α:Type}{o:Option α}{f:α->Bool}{G:Prop}(h:Option.rec false f o=true)(k:∀a,o=some a->f a=true->G):G:=ob h k λh=>ft h
theorem Sr{x y:Bool}(h:aa x y (!y)=true):x=y:=by cases x<;>cases y<;>first|rfl|exact ft h
theorem HY(a:V):∀{b:V},V.beq a b=true->a=b:=by
 induction a with
 |none=>exact λh=>(nj h).symm
 |bool x=>exact λh=>bV h λy hy h=>(oz hy).symm▸aq V.bool (Sr h)
 |int x=>exact λh=>bV h λy hy h=>(qY hy).symm▸aq V.int (of_decide_eq_true h)
 |str x=>exact λh=>bV h λy hy h=>(jC hy).symm▸aq V.str (fj.mp h)
 |nil=>exact λh=>(LR h).symm
 |cons p q CW CX=>exact λh=>bV h λy hy h=>(KT hy).symm▸(CW (iu h).1▸CX (iu h).2▸rfl)
 |loc n=>exact λh=>bV h λy hy h=>(xM hy).symm▸aq V.loc (bx.mp h)
 |bi n=>exact λh=>bV h λy hy h=>(qZ hy).symm▸aq V.bi (bx.mp h)
 |atom n=>exact λh=>bV h λy hy h=>(qA hy).symm▸aq V.atom (bx.mp h)
 |_=>exact λh=>ft h
theorem N6(a:List V):∀{b:List V},tm a b=true->a=b:=by
 induction a with
 |nil=>exact λ{b} h=>by cases b with|nil=>rfl|cons=>exact ft h
 |cons x r ih=>exact λ{b} h=>by cases b with|nil=>exact ft h|cons y q=>exact List.cons_eq_cons.mpr ⟨HY x (iu h).1,ih (iu h).2⟩
theorem Ux{H:HT}{lk:List (Nat×List V)}:fi H lk=true->∀p∈lk,gH H p.1=some (.list p.2):=by
 induction lk with
 |nil=>exact λ_ p hp=>nomatch hp
 |cons q r ih=>exact λh=>bV h λo ho h=>bV h λys hy h=>bD ⟨ho.trans (aq some ((sv hy).trans (aq aF.list (N6 _ (iu h).1).symm))),ih (iu h).2⟩
section
variable{c:Cx}{X X':Addr->Prop}{A A' B:Around}{env env':Env}{fr cW:Fr}{μ ao a9 be:Mu}{σ aM σ₂ eN:Sg}{s s₁ aB sb:Shared}{E:Value->Shared->Prop}{n:Nat}{K:Frag}{ih:Ev}{α dJ β fS:Type}
 {D:Mu->Heap->α->β->Prop}{D':Mu->Heap->dJ->fS->Prop}
theorem YM(le:∀b,X b->X' b):di X' X h h:=⟨λa its x l=>⟨x,λq=>l.1 (le a q),l.2⟩,λa o fd e _ _=>⟨o,e,rfl,rfl⟩,λ_ _ x=>x⟩
theorem Ok.less(o:Ok c X' A env fr μ σ s)(le:∀b,X b->X' b):Ok c X A env fr μ σ s:=
 o.exc0 (S:=λ_=>False) (λb ob e _=>.inl e) (λ_ _ f=>f.elim) (λ_ f=>f.elim) le λb hb=>(o.xlt b (le b hb)).1
theorem ad.less(r:ad c X' μ h v x)(le:∀b,X b->X' b):ad c X μ h v x:=r.mono (YM le) (.refl _)
theorem cC.less{lo h:Heap}(x:cC c X' μ lo k m v e h)(le:∀b,X b->X' b):cC c X μ lo k m v e h:=
 ⟨x.ex.imp λ_=>bg λ_=>bg λ_=>bg λ_=>bg λ_ x=>⟨x.e1,x.e2,x.e3,x.e4,x.e5,x.e6,x.e7,x.e8,x.e9,x.e10,x.e11,x.e12,x.e13.imp λ_ q=>⟨q.1,q.2.less le⟩,x.e14.imp λ_ q=>⟨q.1,q.2.less le⟩⟩⟩
theorem ac.bindX{Q:β->Shared->Prop}{Q':fS->Shared->Prop}(h:ac c X A env fr D be sb (r.bind f) Q E)(le:∀b,X b->X' b)(n:aK A env be μ sb s)
 (k:∀a aM ao y s₁,aK A env μ ao s s₁->Ok c X' A env fr ao aM s₁->D' ao s₁.heap a y->ac c X A env fr D be sb (f a aM) Q E->Q' y s₁):ac c X' A env fr D' μ s r Q' E:=by
 cases r with
 |ok a ba=>exact λao s₁ y nx o d=>k a ba ao y s₁ nx o d h
 |exc k m v ba=>exact λao s₁ e nx o d=>h ao s₁ e (n.trans nx) (o.less le) ((d.lower n.keep.1).less le)
 |stuck=>exact h.elim
structure eC(c:Cx)(X X':Addr->Prop)(A:Around)(target:Expr)(it:Value)(wr:List Addr)(bf:List V)(lk:List (Nat×List V))(be:Mu)(sb:Shared)(St:Nat->Heap->Prop):Prop where
 le:∀b,X b->X' b
 out:∀b∈wr,¬X b
 fresh:∀b∈wr,sb.heap.get? b=none
 side:∀i h,St i h->∀b∈wr,∃o,h.get? b=some o/\kw X' b o/\¬mi o
 keep:∀i h h',St i h->(∀b∈wr,∀o,h.get? b=some o->h'.get? b=some o)->St i h'
 self:∀i (s:Shared) (Q:Value->Shared->Prop) (E':Value->Shared->Prop),St i s.heap->Q it s->wpAny c.M A (pyIter it) Q E' s
 item:∀i env fr μ σ s v (Q:Value->Shared->Prop) (E':Value->Shared->Prop),bf[i]?=some v->ce be μ->di X X sb.heap s.heap->Ok c X' A env fr μ σ s->fi σ.H lk=true->St i s.heap->
  (∀y h' tk,aY (· ∈wr) s.heap h'->St (i+1) h'->ad c X' μ h' v y->Q y {s with heap:=h',toks:=tk})->
  ∀P:Option Value->Shared->Prop,(∀y s₁,wpAny c.M A (letOwnedTupleGo target it y) (λ_ aB=>Q y aB) E' s₁->P (some y) s₁)->wpAny c.M A (pyNext it) P E' s
 done:∀env fr μ σ s (Q:Shared->Prop) (E':Value->Shared->Prop),ce be μ->di X X sb.heap s.heap->Ok c X' A env fr μ σ s->fi σ.H lk=true->St bf.length s.heap->
  (∀h' tk,(∀b o,s.heap.get? b=some o->b∉wr->h'.get? b=some o)->Q {s with heap:=h',toks:=tk})->∀P:Option Value->Shared->Prop,(∀s₁,Q s₁->P none s₁)->wpAny c.M A (pyNext it) P E' s
section
variable{target:Expr}{it:Value}{wr:List Addr}{bf:List V}{lk:List (Nat×List V)}{St:Nat->Heap->Prop}
theorem zM(hf:∀b∈wr,sb.heap.get? b=none)(n:aK A env be μ sb s)(k:∀b o,s.heap.get? b=some o->b∉wr->h'.get? b=some o)(tk:Tok):aK A env be μ sb {s with heap:=h',toks:=tk}:=
 have nb:=λb o e q=>cg e (hf b q)
 ⟨n.ext,n.fresh,⟨λb o e=>(n.keep.1 b o e).imp λo' e'=>k b o' e' (nb b o e),λb o e nm nv=>(n.keep.2 b o e nm nv).imp (λq=>k b o q (nb b o e)) λq=>⟨q.1,q.2.imp λsl q=>k b _ q (nb b o e)⟩⟩,n.gens,n.os⟩
theorem eC.bases(T:eC c X X' A target it wr bf lk be sb St)(ob:c.base.StaysIn sb.heap)(hb:b∈wr):c.base.get? b=none:=
 Option.eq_none_iff_forall_ne_some.mpr λo e=>cg (ob b o e) (T.fresh b hb)
theorem eC.side'(T:eC c X X' A target it wr bf lk be sb St)(st:St i h)(hb:b∈wr)(e:h.get? b=some o):kw X' b o/\¬mi o:=(T.side i _ st b hb).elim λo' w=>bz w.1 e▸w.2
theorem eC.ok(T:eC c X X' A target it wr bf lk be sb St)(ob:c.base.StaysIn sb.heap)(o:Ok c X' A env fr μ σ s){i:Nat}(st:St i s.heap){h':Heap}(k:aY (· ∈wr) s.heap h')(tk:Tok):Ok c X' A env fr μ σ {s with heap:=h',toks:=tk}:=
 (o.exc (s':={s with heap:=h'}) (.of_only k) (λb ob hb e=>(T.side' st hb e).1) λb hb=>T.bases ob hb).tok tk
theorem eC.okEnd(T:eC c X X' A target it wr bf lk be sb St)(ob:c.base.StaysIn sb.heap)(o:Ok c X' A env fr μ σ s)(st:St i s.heap)(k:∀b o,s.heap.get? b=some o->b∉wr->h'.get? b=some o)(tk:Tok):Ok c X A env fr μ σ {s with heap:=h',toks:=tk}:=
 (o.exc0 (s':={s with heap:=h'}) (S:=(· ∈wr)) (λb ob e nb=>.inl (k b ob e nb)) (λb ob hb e=>(T.side' st hb e).1) (λb hb=>T.bases ob hb) T.le λb hb=>(o.xlt b (T.le b hb)).1.imp λC7 e=>k b C7 e λq=>T.out b q hb).tok tk
theorem eC.stays(T:eC c X X' A target it wr bf lk be sb St)(o:Ok c X' A env fr μ σ s)(st:St i s.heap)(n:aK A env μ ao s s₁):St i s₁.heap:=
 T.keep i _ _ st λb hb ob e=>
  have w:=T.side' st hb e
  (n.keep.2 b ob e (λm=>Ce w.1 (o.mut b ob e m)) w.2).elim id λhf=>o.frs.elim λl y=>
   have hf:=(kS y.1).mp hf.1
   w.1.elim (λq=>q.elim λvs q=>(y.2.1.at hf).elim λo' z=>aV q.1 (bz z.1 e▸z.2 vs)) λq=>aV q.1 (y.2.2 b hf).2
structure u5(c:Cx)(X X':Addr->Prop)(A:Around)(env:Env)(fr:Fr)(D:Mu->Heap->α->β->Prop)(bf:List V)(lk:List (Nat×List V))(be:Mu)(sb:Shared)(St:Nat->Heap->Prop)(loop:List V->Sg->R α)(Q:β->Shared->Prop)(E:Value->Shared->Prop)(s:Shared)(pre rest:List V)(μ:Mu)(σ:Sg):Prop where
 eq:pre++rest=bf
 nx:aK A env be μ sb s
 ok:Ok c X' A env fr μ σ s
 st:St pre.length s.heap
 lo:fi σ.H lk=true
 th:ac c X A env fr D be sb (loop rest σ) Q E
structure AC(c:Cx)(X X':Addr->Prop)(A:Around)(env:Env)(fr:Fr)(D:Mu->Heap->α->β->Prop)(bf:List V)(lk:List (Nat×List V))(be:Mu)(sb:Shared)(St:Nat->Heap->Prop)(loop:List V->Sg->R α)(Q:β->Shared->Prop)(E:Value->Shared->Prop)(k:Nat)(s:Shared):Prop where
 ex:∃pre rest μ σ,k=rest.length/\u5 c X X' A env fr D bf lk be sb St loop Q E s pre rest μ σ
structure yt(c:Cx)(X:Addr->Prop)(A:Around)(env:Env)(wr:List Addr)(gi:Mu)(dQ:Shared)(be:Mu)(sb:Shared):Prop where
 ext:ce gi be
 fr:∀b∈wr,sb.heap.get? b=none
 st:∀μ s,aK A env be μ sb s->di X X dQ.heap s.heap
 bs:c.base.StaysIn dQ.heap
theorem Wy(pre:List V)(v:V)(r:List V):(pre++v::r)[pre.length]?=some v:=by rw[List.getElem?_append_right (Nat.le_refl _),Nat.sub_self];rfl
theorem u5.item{Q:β->Shared->Prop}(L:u5 c X X' A env fr D bf lk be sb St loop Q E s pre (v::r) μ σ)(T:eC c X X' A target it wr bf lk gi dQ St)(B:yt c X A env wr gi dQ be sb){Q':Value->Shared->Prop}{E':Value->Shared->Prop}
 (k:∀y s₁,aK A env be μ sb s₁->Ok c X' A env fr μ σ s₁->ad c X' μ s₁.heap v y->(∀a9 σ₂ aB,aK A env μ a9 s₁ aB->Ok c X' A env fr a9 σ₂ aB->fi σ₂.H lk=true->ac c X A env fr D be sb (loop r σ₂) Q E->∃m,m<r.length+1/\AC c X X' A env fr D bf lk be sb St loop Q E m aB)->Q' y s₁)
 (P:Option Value->Shared->Prop)(hP:∀y s₁,wpAny c.M A (letOwnedTupleGo target it y) (λ_ aB=>Q' y aB) E' s₁->P (some y) s₁):wpAny c.M A (pyNext it) P E' s:=
 T.item pre.length env fr μ σ s v Q' E' (L.eq▸Wy pre v r) (B.ext.trans L.nx.ext) (B.st μ s L.nx) L.ok L.lo L.st (λy h' tk kk mu ry=>
  have n1:=zM B.fr L.nx kk.2 tk
  have o1:=T.ok B.bs L.ok L.st kk tk
  k y _ n1 o1 ry λa9 σ₂ aB bG bc lo h=>⟨r.length,Nat.lt_succ_self _,pre++[v],r,a9,σ₂,rfl,(List.append_assoc ..).trans L.eq,n1.trans bG,bc,by rw[List.length_append];exact T.stays o1 mu bG,lo,h⟩) P hP
theorem u5.done{Q:β->Shared->Prop}(L:u5 c X X' A env fr D bf lk be sb St loop Q E s pre [] μ σ)(T:eC c X X' A target it wr bf lk gi dQ St)(B:yt c X A env wr gi dQ be sb){E':Value->Shared->Prop}
 (P:Option Value->Shared->Prop)(hP:∀s₁,aK A env be μ sb s₁->Ok c X A env fr μ σ s₁->P none s₁):wpAny c.M A (pyNext it) P E' s:=
 have e:=(List.append_nil pre).symm.trans L.eq
 T.done env fr μ σ s (P none) E' (B.ext.trans L.nx.ext) (B.st μ s L.nx) L.ok L.lo (e▸L.st) (λh' tk k=>hP _ (zM B.fr L.nx k tk) (T.okEnd B.bs L.ok L.st k tk)) P λ_ h=>h
theorem ZG(G:bp c K)(S:SE c n ih.eE)(vD:SS c n ih.eS)(eo:aJ c n A env fr)(T:eC c X X' A (an c.nm t) it wr bf lk be sb St)(ob:Ok c X A env fr be eN sb){Q:Flow->Shared->Prop}
 (n0:aK A env be μ sb s)(o:Ok c X' A env fr μ σ s)(st:St 0 s.heap)(lo:fi σ.H lk=true)(h:ac c X A env fr (DF c X) be sb (wh c.T ih fr t b lk bf σ) Q E):
 codeAny c.M A (.forLoop (an c.nm t) it (cU c.nm b) [] env) (λr s'=>match r with|.ok f=>Q f s'|.error e=>cameBackBy c.M A env E e s') s:=by
 refine codeAny_forLoop_any (AC c X X' A env fr (DF c X) bf lk be sb St (wh c.T ih fr t b lk) Q E) (λk s La=>La.ex.elim λpre w=>w.elim λrest w=>w.elim λμ w=>w.elim λσ w=>?_) bf.length ⟨[],bf,μ,σ,rfl,rfl,n0,o,st,lo,h⟩
 obtain⟨e,L⟩:=w
 have B:yt c X A env wr be sb be sb:=⟨.refl _,T.fresh,λμ s n=>n.stays ob,ob.stays⟩
 cases rest with
 |nil=>exact L.done T B _ λs₁ n₁ aC=>wpAny_execs_nil (ac.ok (y:=Flow.next) L.th n₁ aC trivial)
 |cons v r=>
  subst e
  refine L.item T B (Q':=λy s₁=>_) (λy s₁ n1 o1 ry nxt=>?_) _ λy s₁ h=>h
  exact xx G S X' A env fr μ σ _ t v y _ _ eo o1 ry ((ac.bindX (D':=DU) L.th T.le n1 λ_ aM ao _ aB n₁ aC _ h₁=>
   om vD eo b aC ((ac.bindX (D':=DF c X') h₁ T.le (n1.trans n₁) λf σ₂ a9 y dq bG bc dB bh=>by
    revert bh
    exact vq dB (λbh=>bB bh λvE bh=>nxt a9 σ₂ dq (n₁.trans bG) bc vE bh) λv w r bh=>ac.ok (y:=Flow.ret w) bh (n1.trans (n₁.trans bG)) (bc.less T.le) (ad.less r T.le)).loopE eo aC)).loopE eo o1)
end
end
section
variable{c:Cx}{X X':Addr->Prop}{A A' B:Around}{env env':Env}{fr cW:Fr}{μ ao a9 be:Mu}{σ aM σ₂ eN:Sg}{s s₁ aB sb:Shared}{E:Value->Shared->Prop}{n:Nat}{K:Frag}{ih:Ev}{α dJ β fS:Type}
 {target:Expr}{bf:List V}{lk:List (Nat×List V)}
def Bq:List String:=["enumerate","zip","dict_itemiterator","dict_reverseitemiterator","odict_iterator","itertools.zip_longest","itertools.pairwise"]
theorem TF{Q:Unit->Shared->Prop}(ho:s.heap.get? I=some o)(hc:o.cls=.type cls)(hd:o.data=.fields vs)(hn:Bq.contains cls=false)(q:Q () s):
 wpAny M A (letOwnedTupleGo target (.ref I) y) Q E s:=by
 have key:wpAny M A (do
  let (.ref r,.ref a):=(Value.ref I,y)|return
  let o ← load r
  match o.cls,o.data with
  |.type n,.fields vs=>
   if Bq.contains n&&vs[0]? ==some (rawInt a) then
    rule "for.unpacks-the-owned-tuple"
    updateField r 0 .none
  |_,_=>pure ()) Q E s:=by
  cases y with
  |ref a=>
   refine ah (wpAny_load ho ?_)
   rw[hc,hd]
   exact r8 (λh=>by rw[hn] at h;exact ft h) (aS q)
  |_=>exact aS q
 cases target with
 |Tuple|List=>exact key
 |_=>exact aS q
structure mF(I:Addr)(h:Heap)(o:Obj)(cls:String)(vs:Array Value):Prop where
 at1:h.get? I=some o
 cl:o.cls=.type cls
 da:o.data=.fields vs
 no:∀q t,vs[1]?≠some (.str q t)
 n1:cls≠ "code"
 n2:cls≠ "traceback"
theorem mF.sid(x:mF I h o cls vs):vg o/\¬mi o:=
 ⟨⟨vs,x.da,x.no,.inl ⟨_,x.cl,x.n1⟩⟩,λv=>v.elim λws z=>z.2.2.elim (λz=>x.n2 (Value.type.inj (x.cl.symm.trans z))) λz=>z.elim (λz=>z.elim λa z=>KY (z.symm.trans x.cl)) λz=>nomatch x.cl.symm.trans z⟩
theorem Fu{S:Addr->Prop}(k:aY S h h')(hS:∀b o,S b->h.get? b=some o->kw X b o):di X X h h':=Ke (Fs:=[]) (λb o e nb=>.inl (k.2 b o e nb)) hS λ_ q=>q
theorem BP(ob:Ok c X A env fr be eN sb)(hI:sb.heap.get? I=none){St:Nat->Heap->Prop}(io:∀i h,St i h->∃o cls vs,mF I h o cls vs/\Bq.contains cls=false)(kp:∀i h h',St i h->(∀o,h.get? I=some o->h'.get? I=some o)->St i h')
 (self:∀i (s:Shared) (Q:Value->Shared->Prop) (E':Value->Shared->Prop),St i s.heap->Q (.ref I) s->wpAny c.M A (pyIter (.ref I)) Q E' s)
 (item:∀i env fr μ σ s v (Q:Option Value->Shared->Prop) (E':Value->Shared->Prop),bf[i]?=some v->ce be μ->di X X sb.heap s.heap->Ok c X A env fr μ σ s->fi σ.H lk=true->St i s.heap->
  (∀y h' tk,Heap.SameBut I s.heap h'->St (i+1) h'->ad c X μ s.heap v y->Q (some y) {s with heap:=h',toks:=tk})->wpAny c.M A (pyNext (.ref I)) Q E' s)
 (done:∀env fr μ σ s (Q:Option Value->Shared->Prop) (E':Value->Shared->Prop),ce be μ->di X X sb.heap s.heap->Ok c X A env fr μ σ s->fi σ.H lk=true->St bf.length s.heap->
  (∀h',(∀b o,b≠I->s.heap.get? b=some o->h'.get? b=some o)->Q none {s with heap:=h'})->wpAny c.M A (pyNext (.ref I)) Q E' s):
 eC c X X A target (.ref I) [I] bf lk be sb St where
 le:=λ_ q=>q
 out:=λb hb=>List.mem_singleton.mp hb▸mB ob hI
 fresh:=λb hb=>List.mem_singleton.mp hb▸hI
 side:=λi h st b hb=>List.mem_singleton.mp hb▸(io i h st).elim λo w=>w.elim λcls w=>w.elim λvs w=>⟨o,w.1.at1,.inl w.1.sid.1,w.1.sid.2⟩
 keep:=λi h h' st k=>kp i h h' st (k I (.head _))
 self:=self
 item:=λi env fr μ σ s v Q E' hv ex sy o lo st hQ P hP=>item i env fr μ σ s v P E' hv ex sy o lo st λy h' tk sb' mu ry=>(io _ _ mu).elim λo' w=>w.elim λcls w=>w.elim λvs w=>
  have kk:=(aY.same sb' w.1.at1).mono λb _ _ q=>List.mem_singleton.mpr q
  hP y _ (TF w.1.at1 w.1.cl w.1.da w.2 (hQ y h' tk kk mu (ry.mono (Fu kk λb o2 hb e=>(io _ _ st).elim λo3 w=>w.elim λcls w=>w.elim λvs w=>.inl (bz w.1.at1 (List.mem_singleton.mp hb▸e)▸w.1.sid.1)) (.refl _))))
 done:=λenv fr μ σ s Q E' ex sy o lo st hQ P hP=>done env fr μ σ s P E' ex sy o lo st λh' k=>hP _ (hQ h' s.toks λb o e nb=>k b o (λq=>nb (List.mem_singleton.mpr q)) e)
theorem nD(o:Ok c X A env fr μ σ s)(e:ce be μ)(lo:fi σ.H lk=true)(hm:p∈lk)(hp:aj be p.1=some (a,a)):
 ∃its,s.heap.IsList a its/\ay (ad c X μ s.heap) p.2 its.toList:=
 (o.obj p.1 _ (Ux lo p hm)).elim λq z=>z.2.2.imp λits w=>by rw[bz z.1 (e _ _ hp)] at w;exact⟨w.1.isList,w.2.1⟩
theorem sJ{its:Array Value}{i:Nat}(h:its.toList[i]?=some x):its[i]?=some x:=Array.getElem?_toList.symm.trans h
theorem uH{its:Array Value}(z:ay (ad c X μ h) l its.toList):its[l.length]?=none:=Array.getElem?_eq_none (Nat.le_of_eq (cz z))
theorem z8(n1:cls≠ "code")(n2:cls≠ "traceback")(e:h.get? I=some o)(hc:o.cls=.type cls)(hd:o.data=.fields #[.ref a,.int i 0]):mF I h o cls #[.ref a,.int i 0]:=⟨e,hc,hd,(λq t e=>nomatch af e),n1,n2⟩
theorem Ws(hh:A.handled=none)(ob:Ok c X A env fr be eN sb){p:Nat×List V}{a:Addr}(hm:p∈lk)(hp:aj be p.1=some (a,a)):
 eC c X X A target (.ref sb.heap.objs.size) [sb.heap.objs.size] p.2 lk be sb (λi h=>h.IsListIter sb.heap.objs.size a i):=
 BP ob (cY _) (λi h st=>st.elim λo w=>⟨o,_,_,z8 (by decide) (by decide) w.1 w.2.1 w.2.2,by decide⟩) (λi h h' st k=>st.at k) (λi s Q E' st q=>wpAny_pyIter_listiter st q)
  (λi env fr μ σ s v Q E' hv ex sy o lo st hQ=>(nD o ex lo hm hp).elim λits w=>(w.2.get i v hv).elim λx y=>wpAny_pyNext_list_item st w.1 (sJ y.1) λh' nU k=>hQ x h' s.toks k nU y.2)
  λenv fr μ σ s Q E' ex sy o lo st hQ=>(nD o ex lo hm hp).elim λits w=>wpAny_pyNext_list_end hh st w.1 (uH w.2) λh' k=>hQ h' k
theorem YX(hh:A.handled=none)(ob:Ok c X A env fr be eN sb){a:Addr}{its:Array Value}(ht:sb.heap.IsTuple a its)(hl:Lv X sb.heap a)(z:ay (ad c X be sb.heap) bf its.toList):
 eC c X X A target (.ref sb.heap.objs.size) [sb.heap.objs.size] bf lk be sb (λi h=>h.IsTupleIter sb.heap.objs.size a i):=
 BP ob (cY _) (λi h st=>st.elim λo w=>⟨o,_,_,z8 (by decide) (by decide) w.1 w.2.1 w.2.2,by decide⟩) (λi h h' st k=>st.imp λo w=>⟨k o w.1,w.2⟩) (λi s Q E' st q=>wpAny_pyIter_tupleiter st q)
  (λi env fr μ σ s v Q E' hv ex sy o lo st hQ=>((BG z sy ex).get i v hv).elim λx y=>wpAny_pyNext_tuple_item st (sy.tup a its ht hl).1 (sJ y.1) λh' nU k=>hQ x h' s.toks k nU y.2)
  λenv fr μ σ s Q E' ex sy o lo st hQ=>wpAny_pyNext_tuple_end hh st (sy.tup a its ht hl).1 (uH z) λh' k=>hQ h' k
theorem Z8(m:Nat):∀{a i:Nat} {v:V},(sd a m)[i]?=some v->i<m/\v=.int ((a+i:Nat):Int):=by
 induction m with
 |zero=>exact λh=>ns h
 |succ m ih=>exact λ{a i v}=>Nat.casesOn i (λh=>⟨Nat.succ_pos _,(af h).symm⟩) λi h=>⟨Nat.succ_lt_succ (ih h).1,(ih h).2.trans (by rw[Nat.add_assoc,Nat.add_comm 1])⟩
theorem Z0(m:Nat):∀a,(sd a m).length=m:=by induction m with|zero=>exact λ_=>rfl|succ m ih=>exact λa=>aq Nat.succ (ih _)
theorem Tl(hh:A.handled=none)(ob:Ok c X A env fr be eN sb)(hI:sb.heap.get? I=none)(m:Nat):
 eC c X X A target (.ref I) [I] (sd 0 m) lk be sb (λi h=>IsRangeIter h I (i:Int) ((m:Int)-i) 1):=
 BP ob hI (λi h st=>⟨_,"range_iterator",_,⟨st,rfl,rfl,(λq t e=>nomatch af e),by decide,by decide⟩,by decide⟩) (λi h h' st k=>k _ st) (λi s Q E' st q=>wpAny_pyIter_rangeiter st q)
  (λi env fr μ σ s v Q E' hv ex sy o lo st hQ=>by
   have w:=Z8 m hv
   have e2:(m:Int)-i-1=(m:Int)-((i+1:Nat):Int):=Int.sub_sub ..
   refine wpAny_pyNext_range_item st (Int.sub_pos_of_lt (Int.ofNat_lt.mpr w.1)) λh' nU k=>?_
   rw[e2] at nU
   exact hQ _ h' (s.toks+1) k nU (w.2▸⟨s.toks,by rw[dU]⟩))
  λenv fr μ σ s Q E' ex sy o lo st hQ=>by
   rw[Z0] at st
   exact wpAny_pyNext_range_end hh st (Int.le_of_eq (Int.sub_self _)) λh' k=>hQ h' k
end
theorem qd{P:Addr->Prop}(h1:P a)(h2:P b):∀x∈[a,b],P x:=bD ⟨h1,λx h=>List.mem_singleton.mp h▸h2⟩
theorem Kg{P:Addr->Prop}(h1:P a)(h2:P b)(h3:P d)(h4:P e)(h5:P f):∀x∈[a,b,d,e,f],P x:=bD ⟨h1,bD ⟨h2,bD ⟨h3,qd h4 h5⟩⟩⟩
section
variable{c:Cx}{X X':Addr->Prop}{A A' B:Around}{env env':Env}{fr cW:Fr}{μ ao a9 be:Mu}{σ aM σ₂ eN:Sg}{s s₁ aB sb:Shared}{E:Value->Shared->Prop}{n:Nat}{K:Frag}{ih:Ev}{α dJ β fS:Type}
 {target:Expr}{bf:List V}{lk:List (Nat×List V)}
abbrev oH(X:Addr->Prop)(h:Heap)(b:Addr):Prop:=∃o,h.get? b=some o/\kw X b o/\¬mi o
theorem mF.side(x:mF I h o cls vs):oH X h I:=⟨o,x.at1,.inl x.sid.1,x.sid.2⟩
theorem uu(st:h.IsListIter I a i):oH X h I:=st.elim λo w=>(z8 (by decide) (by decide) w.1 w.2.1 w.2.2).side
theorem An(st:IsEnum h e it i old):oH X h e:=mF.side ⟨st,rfl,rfl,(λq t e=>nomatch af e),by decide,by decide⟩
theorem Hc{wr:List Addr}(k:aY (· ∈wr) h h')(hS:∀b∈wr,oH X h b):di X X h h':=Fu k λb o hb e=>(hS b hb).elim λo' w=>bz w.1 e▸w.2.1
theorem Ii{wr:List Addr}(k:∀b o,h.get? b=some o->b∉wr->h'.get? b=some o)(l:∀b∈wr,oH X h' b):aY (· ∈wr) h h':=.at k λb hb=>(l b hb).imp λ_ w=>w.1
theorem Ih(hT:h.get? T=some {cls:=.type "tuple",data:=.seq #[x,y]})(nx:¬X T)(ru:ad c X μ h u x)(rv:ad c X μ h v y):ad c X μ h (.cons u (.cons v .nil)) (.ref T):=
 (iw rfl).mpr ⟨T,#[x,y],rfl,⟨_,hT,rfl,_,rfl⟩,⟨nx,_,hT,rfl⟩,.cons ru (.cons rv .nil)⟩
theorem N9(xs:List V):∀{a i:Nat} {v:V},(wG a xs)[i]?=some v->∃x,xs[i]?=some x/\v=.cons (.int ((a+i:Nat):Int)) (.cons x .nil):=by
 induction xs with
 |nil=>exact λh=>ns h
 |cons x r ih=>exact λ{a i v}=>Nat.casesOn i (λh=>⟨x,rfl,(af h).symm⟩) λi h=>(ih h).imp λy w=>⟨w.1,w.2.trans (by rw[Nat.add_assoc,Nat.add_comm 1])⟩
theorem Xy(xs:List V):∀a,(wG a xs).length=xs.length:=by induction xs with|nil=>exact λ_=>rfl|cons x r ih=>exact λa=>aq Nat.succ (ih _)
theorem VT(hh:A.handled=none)(ob:Ok c X A env fr be eN sb){elts:List Expr}(hm:p∈lk)(hp:aj be p.1=some (a,a))(he:sb.heap.get? e=none)(hit:sb.heap.get? it=none)(iA:e≠it):
 eC c X X A (.Tuple elts k0 pos) (.ref e) [e,it] (wG 0 p.2) lk be sb (λi h=>(∃old,IsEnum h e it (i:Int) old)/\h.IsListIter it a i) where
 le:=λ_ q=>q
 out:=qd (mB ob he) (mB ob hit)
 fresh:=qd he hit
 side:=λi h st=>qd (st.1.elim λ_ w=>An w) (uu st.2)
 keep:=λi h h' st k=>⟨st.1.imp λold w=>k e (.head _) _ w,st.2.at λo e1=>k it (.tail _ (.head _)) o e1⟩
 self:=λi s Q E' st q=>st.1.elim λ_ w=>wpAny_pyIter_enum w q
 item:=λi env fr μ σ s v Q E' hv ex sy o lo st hQ P hP=>st.1.elim λold ib=>(N9 p.2 hv).elim λx w=>(nD o ex lo hm hp).elim λits z=>(z.2.get i x w.1).elim λy r=>by
  refine wpAny_pyNext_enum_item ib st.2 z.1 (sJ r.1) iA λh' a1 a2 a3 _ a5=>hP _ _ (wpAny_letOwnedTupleGo_enum a1 λh2 b1 b2=>?_)
  have hi:h2.IsListIter it a (i+1):=a2.imp λo z=>⟨(b2.2 it (λq=>iA q.symm)).trans z.1,z.2⟩
  have hT:=(b2.2 _ (Nat.ne_of_gt (Heap.lt_size ib))).trans a3
  have kk:=Ii (X:=X) (λb ob eb nb=>(b2.2 b (λq=>nb (q▸.head _))).trans (a5 b ob (λq=>nb (q▸.head _)) (λq=>nb (q▸.tail _ (.head _))) eb)) (qd (An b1) (uu hi))
  have mu:di X X s.heap h2:=Hc kk (qd (An ib) (uu st.2))
  rw[w.2,dU] at hQ
  exact hQ _ h2 (s.toks+1) kk ⟨⟨y,b1⟩,hi⟩ (Ih hT (mB o (cY _)) ⟨s.toks,rfl⟩ (r.2.mono mu (.refl _)))
 done:=λenv fr μ σ s Q E' ex sy o lo st hQ P hP=>st.1.elim λold ib=>(nD o ex lo hm hp).elim λits z=>by
  rw[Xy] at ib st
  exact wpAny_pyNext_enum_end hh ib st.2 z.1 (uH z.2) λh' k=>hP _ (hQ h' s.toks λb ob e nb=>k b ob (λq=>nb (q▸.tail _ (.head _))) e)
theorem Up(xs:List V):∀{ys:List V} {i:Nat} {v:V},(tD xs ys)[i]?=some v->∃x y,xs[i]?=some x/\ys[i]?=some y/\v=.cons x (.cons y .nil):=by
 induction xs with
 |nil=>exact λh=>ns h
 |cons x r ih=>exact λ{ys i v}=>by cases ys with|nil=>exact λh=>ns h|cons y q=>exact Nat.casesOn i (λh=>⟨x,y,rfl,rfl,(af h).symm⟩) λi h=>ih h
theorem Tx(xs:List V):∀ys:List V,(tD xs ys).length=xs.length\/(tD xs ys).length=ys.length:=by
 induction xs with
 |nil=>exact λ_=>.inl rfl
 |cons x r ih=>exact λys=>by cases ys with|nil=>exact .inr rfl|cons y q=>exact(ih q).imp (aq Nat.succ) (aq Nat.succ)
def zx(X:Addr->Prop)(TI TO:Addr)(b:Addr):Prop:=X b\/b=TI\/b=TO
structure xA(z TI TO i1 i2 a1 a2:Addr)(i:Nat)(h:Heap):Prop where
 z:IsZip h z TI TO .none
 pi:IsPair h TI (.ref i1) (.ref i2)
 po:∃a b,IsPair h TO a b
 l1:h.IsListIter i1 a1 i
 l2:h.IsListIter i2 a2 i
theorem IJ(p:IsPair h T x y)(hX:X T):oH X h T:=⟨_,p,.inr ⟨hX,rfl,_,_,rfl⟩,λv=>v.elim λ_ z=>nomatch z.1⟩
theorem xA.side{z TI TO i1 i2 a1 a2:Addr}(x:xA z TI TO i1 i2 a1 a2 i h):∀b∈[z,TI,TO,i1,i2],oH (zx X TI TO) h b:=
 Kg (mF.side ⟨x.z,rfl,rfl,(λq t e=>nomatch af e),by decide,by decide⟩) (IJ x.pi (.inr (.inl rfl))) (x.po.elim λ_ w=>w.elim λ_ w=>IJ w (.inr (.inr rfl))) (uu x.l1) (uu x.l2)
theorem Y0(hh:A.handled=none)(ob:Ok c X A env fr be eN sb){elts:List Expr}(MU:p∈lk)(MV:aj be p.1=some (a1,a1))(MW:q∈lk)(yI:aj be q.1=some (a2,a2))
 (D:ZipApart z TI TO i1 i2 a1 a2)(hf:∀b∈[z,TI,TO,i1,i2],sb.heap.get? b=none):eC c X (zx X TI TO) A (.Tuple elts k0 pos) (.ref z) [z,TI,TO,i1,i2] (tD p.2 q.2) lk be sb (xA z TI TO i1 i2 a1 a2) where
 le:=λ_ q=>.inl q
 out:=λb hb=>mB ob (hf b hb)
 fresh:=hf
 side:=λi h x=>x.side
 keep:=λi h h' x k=>⟨k z (.head _) _ x.z,k TI (.tail _ (.head _)) _ x.pi,x.po.imp λa=>bg λb w=>k TO (.tail _ (.tail _ (.head _))) _ w,x.l1.at λo e=>k i1 (.tail _ (.tail _ (.tail _ (.head _)))) o e,x.l2.at λo e=>k i2 (.tail _ (.tail _ (.tail _ (.tail _ (.head _))))) o e⟩
 self:=λi s Q E' st q=>wpAny_pyIter_zip st.z q
 item:=λi env fr μ σ s v Q E' hv ex sy0 o lo st hQ P hP=>(Up p.2 hv).elim λx w=>w.elim λy w=>(nD o ex lo MU MV).elim λits z1=>(nD o ex lo MW yI).elim λgF z2=>
  (z1.2.get i x w.1).elim λx' r1=>(z2.2.get i y w.2.1).elim λy' r2=>st.po.elim λa po=>po.elim λb po=>by
  refine wpAny_pyNext_zip_item D st.z st.pi po st.l1 st.l2 z1.1 z2.1 (sJ r1.1) (sJ r2.1) λh' b1 b2 b3 b4 b5 _ b7=>hP _ _ (wpAny_letOwnedTupleGo_zip b1 λh2 c1 c2=>?_)
  have mu:xA z TI TO i1 i2 a1 a2 (i+1) h2:=⟨c1,c2.extBut _ _ D.TIz (b7 _ _ D.TIz D.TITO D.TIi1 D.TIi2 st.pi),⟨_,_,c2.extBut _ _ D.TOz b2⟩,b3.extBut c2.extBut D.i1z,b4.extBut c2.extBut D.i2z⟩
  have kk:=Ii (X:=zx X TI TO) (λb ob eb nb=>
   have n1:=λq=>nb (q▸.head _)
   c2.extBut _ _ n1 (b7 b ob n1 (λq=>nb (q▸.tail _ (.tail _ (.head _)))) (λq=>nb (q▸.tail _ (.tail _ (.tail _ (.head _))))) (λq=>nb (q▸.tail _ (.tail _ (.tail _ (.tail _ (.head _)))))) eb)) mu.side
  have hT:=c2.extBut _ _ (Nat.ne_of_gt (Heap.lt_size st.z)) b5
  have sy:di (zx X TI TO) (zx X TI TO) s.heap h2:=Hc kk st.side
  rw[w.2.2] at hQ
  exact hQ _ h2 s.toks kk mu (Ih hT (mB o (cY _)) (r1.2.mono sy (.refl _)) (r2.2.mono sy (.refl _)))
 done:=λenv fr μ σ s Q E' ex sy0 o lo st hQ P hP=>(nD o ex lo MU MV).elim λits z1=>(nD o ex lo MW yI).elim λgF z2=>st.po.elim λa po=>po.elim λb po=>
  wpAny_pyNext_zip_end hh D st.z st.pi po st.l1 st.l2 z1.1 z2.1 ((Tx p.2 q.2).elim (λe=>.inl (by rw[e];exact uH z1.2)) λe=>.inr (by rw[e];exact uH z2.2)) λh' k=>hP _ (hQ h' s.toks λb ob e nb=>
   k b ob (λq=>nb (q▸.head _)) (λq=>nb (q▸.tail _ (.tail _ (.head _)))) (λq=>nb (q▸.tail _ (.tail _ (.tail _ (.head _))))) (λq=>nb (q▸.tail _ (.tail _ (.tail _ (.tail _ (.head _)))))) e)
theorem Ok.more(o:Ok c X A env fr μ σ s)(k:aY (λ_=>False) s.heap s'.heap){X':Addr->Prop}(hx:∀b,X' b->X b\/s.heap.get? b=none)(xl:∀b,X' b->(∃o,s'.heap.get? b=some o)/\c.base.get? b=none):Ok c X' A env fr μ σ s':=
 have y:=o.add k
 have nx:=λb ob e q=>(hx b q).resolve_right λw=>cg e w
 have kk:=λb ob e=>k.2 b ob e id
 have st:=(k.keepX []).stays (λ_ _ _ f=>f.elim) nx
 ⟨y.len,λi oi e=>(o.obj i oi e).imp λq z=>⟨z.1,z.2.keep (λ_=>kk _ _) (λ_=>kk _ _) st (.refl _)⟩,y.apart,λb hb=>⟨(o.new b hb).1,λq=>(o.own_mut hb).elim λob w=>(o.new b hb).2 (nx b ob w.1 q)⟩,
  nu o.ns (λm a=>a.keeps kk) st (.refl _),⟨o.lout.1,o.lout.2.1,λq=>o.loc_mut.elim λob w=>o.lout.2.2 (nx _ ob w.1 q)⟩,y.cells,y.stays,
  y.frs.elim λl w=>⟨l,w.1,w.2.1,λb hb=>⟨(w.2.2 b hb).1,λq=>(o.frame_alive ((kS w.1).mpr hb)).elim λob e=>(w.2.2 b hb).2 (nx b ob e q)⟩⟩,y.tabs,xl⟩
end
section
variable{c:Cx}{X X':Addr->Prop}{A A' B:Around}{env env':Env}{fr cW:Fr}{μ ao a9 be:Mu}{σ aM σ₂ eN:Sg}{s s₁ aB sb:Shared}{E:Value->Shared->Prop}{n:Nat}{K:Frag}{ih:Ev}{α dJ β fS:Type}
 {D:Mu->Heap->α->β->Prop}
theorem xC(h:glob c.T fr x=some v):au fr.sc x=some 3/\c.T.gl x=some v:=
 on (h) λk hk h=>⟨hk.trans (aq some (bx.mp (cs h).1)),(cs h).2⟩
theorem Kj(G:bp c K)(eo:aJ c n A env fr)(o:Ok c X A env fr μ σ s)(h:glob c.T fr x=some v){Q:Value->Shared->Prop}(q:∀y,ad c X μ s.heap v y->Q y s):wpAny c.M A (eval (.Name (c.nm x) (aE p)) env) Q E s:=
 BK G eo o (xC h).1 (xC h).2 q
theorem ac.args1{r:R V}{Q:β->Shared->Prop}{Q':List Value->Shared->Prop}(h:ac c X A env fr D μ s (r.bind f) Q E)
 (k:∀v aM ao y s₁,aK A env μ ao s s₁->Ok c X A env fr ao aM s₁->ad c X ao s₁.heap v y->ac c X A env fr D ao s₁ (f v aM) Q E->Q' [y] s₁):ac c X A env fr (DL c X) μ s (r.bind λv s=>.ok [v] s) Q' E:=by
 cases r with
 |ok a ba=>
  intro ao s₁ ys nx o d
  cases d with
  |cons d1 d2=>cases d2 with|nil=>exact k a ba ao _ s₁ nx o d1 (ac.shift (h) nx)
 |exc k m v ba=>exact h
 |stuck=>exact h.elim
theorem oy{γ:Type}{o:Option γ}{f:γ->R dJ}{Q:β->Shared->Prop}{G:Prop}(h:ac c X A env fr D μ s ((aX o f).bind g) Q E)(k:∀a,o=some a->ac c X A env fr D μ s ((f a).bind g) Q E->G):G:=by
 cases o with|none=>exact h.elim|some a=>exact k a rfl h
theorem pG{r r':R dJ}{Q:β->Shared->Prop}{G:Prop}(h:ac c X A env fr D μ s ((aa b r r').bind g) Q E)(k:b=true->ac c X A env fr D μ s (r.bind g) Q E->G)(k':b=false->ac c X A env fr D μ s (r'.bind g) Q E->G):G:=by
 cases b with|false=>exact k' rfl h|true=>exact k rfl h
theorem yY{γ:Type}{o:Option γ}{f:γ->R dJ}{Q:β->Shared->Prop}{G:Prop}(h:ac c X A env fr D μ s ((dG o f d).bind g) Q E)(k:∀a,o=some a->ac c X A env fr D μ s ((f a).bind g) Q E->G)(k':ac c X A env fr D μ s (d.bind g) Q E->G):G:=by
 cases o with|none=>exact k' h|some a=>exact k a rfl h
structure Te(c:Cx)(X:Addr->Prop)(A:Around)(env:Env)(fr:Fr)(D:Mu->Heap->α->β->Prop)(t:Mine.E)(f:(List V×List (Nat×List V)×Bool)->Sg->R α)(Q:β->Shared->Prop)(E:Value->Shared->Prop)(μ:Mu)(s:Shared)(it:Value)(aB:Shared)
 (X':Addr->Prop)(wr:List Addr)(bf:List V)(lk:List (Nat×List V))(own:Bool)(aM:Sg)(ao:Mu)(s₁:Shared)(St:Nat->Heap->Prop):Prop where
 nx:aK A env μ ao s s₁
 o1:Ok c X A env fr ao aM s₁
 T:eC c X X' A (an c.nm t) it wr bf lk ao s₁ St
 only:aY (λ_=>False) s₁.heap aB.heap
 gens:aB.gens=s₁.gens
 os:aB.os=s₁.os
 o2:Ok c X' A env fr ao aM aB
 st:St 0 aB.heap
 lo:fi aM.H lk=true
 th:ac c X A env fr D ao s₁ (f (bf,lk,own) aM) Q E
structure mO(c:Cx)(X:Addr->Prop)(A:Around)(env:Env)(fr:Fr)(D:Mu->Heap->α->β->Prop)(t:Mine.E)(f:(List V×List (Nat×List V)×Bool)->Sg->R α)(Q:β->Shared->Prop)(E:Value->Shared->Prop)(μ:Mu)(s:Shared)(it:Value)(aB:Shared):Prop where
 ex:∃X' wr bf lk own aM ao s₁ St,Te c X A env fr D t f Q E μ s it aB X' wr bf lk own aM ao s₁ St
theorem mO.shift{Q:β->Shared->Prop}(x:mO c X A env fr D t f Q E ao s₁ it aB)(n:aK A env μ ao s s₁):mO c X A env fr D t f Q E μ s it aB:=
 ⟨x.ex.imp λ_=>bg λ_=>bg λ_=>bg λ_=>bg λ_=>bg λ_=>bg λ_=>bg λ_=>bg λ_ a=>⟨n.trans a.nx,a.o1,a.T,a.only,a.gens,a.os,a.o2,a.st,a.lo,a.th⟩⟩
noncomputable abbrev kT(t:Mine.E)(f:(List V×List (Nat×List V)×Bool)->Sg->R α)(it:List V×List (Nat×List V)×Bool)(s:Sg):R α:=aa (qs it t s) (f it s) .stuck
theorem uX{bf:List V}{own:Bool}{Q:β->Shared->Prop}{G:Prop}(h:ac c X A env fr D μ s (R.bind (.ok (bf,lk,own) σ) (kT t f)) Q E)
 (k:AQ own t=true->fi σ.H lk=true->ac c X A env fr D μ s (f (bf,lk,own) σ) Q E->G):G:=bB h λh1 h=>k (iu h1).1 (iu h1).2 h
theorem Xj{E':Value->Shared->Prop}(hh:A.handled=none)(o:Ok c X A env fr μ σ s){t:Mine.E}{f:(List V×List (Nat×List V)×Bool)->Sg->R α}{Q:β->Shared->Prop}(rv:ad c X μ s.heap v x)
 (h:ac c X A env fr D μ s ((I7 v σ).bind (kT t f)) Q E):wpAny c.M A (pyIter x) (λit aB=>mO c X A env fr D t f Q E μ s it aB) E' s:=
 yY h (λp hp h=>uX h λ_ lo h=>by
  refine fh o hp rv λa its _ hq hl _ _=>?_
  have k:aY (λ_=>False) s.heap (s.heap.push {cls:=.type "list_iterator",data:=.fields #[.ref a,.int 0 0]}):=aY.push _ _ _
  exact wpAny_pyIter_list hl.isList ⟨X,_,_,_,_,σ,μ,s,_,.refl,o,Ws hh o (.head _) hq,k,rfl,rfl,o.add k,⟨_,dX _ rfl,rfl,rfl⟩,lo,h⟩)
  λh=>oy h λxs hx h=>uX h λ_ lo h=>by
   refine j4 hx rv λa its ht hl z=>?_
   have k:aY (λ_=>False) s.heap (s.heap.push {cls:=.type "tuple_iterator",data:=.fields #[.ref a,.int 0 0]}):=aY.push _ _ _
   exact wpAny_pyIter_tuple ht ⟨X,_,_,_,_,σ,μ,s,_,.refl,o,YX hh o ht hl z,k,rfl,rfl,o.add k,⟨_,dX _ rfl,rfl,rfl⟩,lo,h⟩
theorem lT{γ:Type}(r:R dJ)(f:dJ->Sg->R γ)(g:γ->Sg->R α):(r.bind f).bind g=r.bind λa s=>(f a s).bind g:=by cases r<;>rfl
theorem ac.args2{f:V->V->Sg->R α}{Q:β->Shared->Prop}{Q':List Value->Shared->Prop}(h:ac c X A env fr D μ s ((ih.eE a fr σ).bind λv s=>(ih.eE b fr s).bind λw s=>f v w s) Q E)
 (k:∀v w aM ao y z s₁,aK A env μ ao s s₁->Ok c X A env fr ao aM s₁->ad c X ao s₁.heap v y->ad c X ao s₁.heap w z->ac c X A env fr D ao s₁ (f v w aM) Q E->Q' [y,z] s₁):ac c X A env fr (DL c X) μ s (jE ih fr [a,b] σ) Q' E:=by
 show ac c X A env fr (DL c X) μ s ((ih.eE a fr σ).bind λv s=>((ih.eE b fr s).bind λw s=>.ok [w] s).bind λvs s=>.ok (v::vs) s) Q' E
 cases hr:ih.eE a fr σ with
 |ok v ba=>
  rw[hr] at h
  have h:ac c X A env fr D μ s ((ih.eE b fr ba).bind λw s=>f v w s) Q E:=h
  show ac c X A env fr (DL c X) μ s (((ih.eE b fr ba).bind λw s=>.ok [w] s).bind λvs s=>.ok (v::vs) s) Q' E
  cases C9:ih.eE b fr ba with
  |ok w σ2=>
   rw[C9] at h
   intro ao s₁ ys nx o d
   cases d with
   |cons d1 d2=>cases d2 with
    |cons d2 d3=>cases d3 with|nil=>exact k v w σ2 ao _ _ s₁ nx o d1 d2 (ac.shift (h) nx)
  |exc=>rw[C9] at h;exact h
  |stuck=>rw[C9] at h;exact h.elim
 |exc=>rw[hr] at h;exact h
 |stuck=>rw[hr] at h;exact h.elim
theorem Hq(h:AQ true t=true):∃es p,t=.tup es p:=ob (h) (λes he _=>⟨es,tT he⟩) λh=>ft h
theorem Vv(h:LC v=some m):eM v=some (.ofNat m):=on h λi hi h=>by cases i with|ofNat k=>exact af h▸hi|negSucc k=>exact ns h
theorem Q9{E':Value->Shared->Prop}(hh:A.handled=none)(o:Ok c X A env fr μ σ s){t:Mine.E}{f:(List V×List (Nat×List V)×Bool)->Sg->R α}{Q:β->Shared->Prop}(rv:ad c X μ s.heap v x)
 (h:ac c X A env fr D μ s ((E6 v σ).bind (kT t f)) Q E):wpAny c.M A (PySem.call (.type "range") [x]) (λx s'=>wpAny c.M A (pyIter x) (λit aB=>mO c X A env fr D t f Q E μ s it aB) E' s') E s:=
 oy h λm hm h=>pG h (λhb h=>uX h λ_ lo h=>by
  refine iE (Vv hm) rv λtk=>call_range_1 ?_
  have hb:=dL hb
  refine wpAny_pyIter_range (IsRange.new ..) (small_one (by decide) (by decide) (Int.le_trans (by decide) (Int.natCast_nonneg m)) (Int.le_trans (b:=4001) (Int.ofNat_le.mpr (Nat.succ_le_succ hb)) (by decide))) ?_
  have k1:aY (λ_=>False) s.heap (s.heap.push {cls:=.type "range",data:=.fields #[.int 0 s.toks,.int m tk,.int 1 (s.toks+1)]}):=aY.push _ _ _
  have k:aY (λ_=>False) s.heap ((s.heap.push {cls:=.type "range",data:=.fields #[.int 0 s.toks,.int m tk,.int 1 (s.toks+1)]}).push {cls:=.type "range_iterator",data:=.fields #[rawInt 0,rawInt (Builtin.Range.rangeSize 0 m 1),rawInt 1]}):=k1.trans (aY.push _ _ _)
  have e:Builtin.Range.rangeSize 0 m 1=(m:Int)-((0:Nat):Int):=by
   rw[rangeSize_one];split<;>omega
  refine⟨X,_,_,[],_,σ,μ,s,_,.refl,o,Tl hh o (k1.1.none (cY _)) m,k,rfl,rfl,(o.add (s':={s with heap:=_}) k).tok _,?_,lo,h⟩
  rw[← e]
  exact dX _ rfl) λ_ h=>h.elim
theorem Pg{E':Value->Shared->Prop}(hh:A.handled=none)(o:Ok c X A env fr μ σ s){t:Mine.E}{f:(List V×List (Nat×List V)×Bool)->Sg->R α}{Q:β->Shared->Prop}{v:V}(rv:ad c X μ s.heap v x)
 (h:ac c X A env fr D μ s ((FL v σ).bind (kT t f)) Q E):
 wpAny c.M A (PySem.call (.type "enumerate") [x]) (λx s'=>wpAny c.M A (pyIter x) (λit aB=>mO c X A env fr D t f Q E μ s it aB) E' s') E s:=
 oy h λp hp h=>uX h λht lo h2=>(Hq ht).elim λes e=>e.elim λq e=>by
  subst e
  refine fh o hp rv λa its _ hq hl _ _=>call_enumerate_list hl.isList λh' he hit _ hk=>wpAny_pyIter_enum he ?_
  have k:aY (λ_=>False) s.heap h':=.of hk
  exact⟨X,_,_,_,_,σ,μ,s,_,.refl,o,VT hh o (.head _) hq (Heap.get?_none_of_le (Nat.le_succ _)) (cY _) (Nat.succ_ne_self _),k,rfl,rfl,o.add (s':={s with heap:=h'}) k,⟨⟨.none,he⟩,hit⟩,lo,h2⟩
theorem W7(h1:a<m)(h2:b<m):ZipApart (m+4) (m+2) (m+3) m (m+1) a b:=
 have ne:∀i j:Nat,i≠j->m+i≠m+j:=λi j n e=>n (Nat.add_left_cancel e)
 have la:∀i:Nat,m+i≠a:=λi e=>aV (e▸h1) (Nat.not_lt_of_le (gI ..))
 have lb:∀i:Nat,m+i≠b:=λi e=>aV (e▸h2) (Nat.not_lt_of_le (gI ..))
 ⟨ne 2 4 (by decide),ne 3 4 (by decide),ne 0 4 (by decide),ne 1 4 (by decide),ne 2 3 (by decide),ne 2 0 (by decide),ne 2 1 (by decide),ne 3 0 (by decide),ne 3 1 (by decide),ne 0 1 (by decide),(la 4).symm,(la 3).symm,(la 0).symm,(la 1).symm,(lb 4).symm,(lb 3).symm,(lb 0).symm,(lb 1).symm⟩
theorem Oo{E':Value->Shared->Prop}(hh:A.handled=none)(o:Ok c X A env fr μ σ s){t:Mine.E}{f:(List V×List (Nat×List V)×Bool)->Sg->R α}{Q:β->Shared->Prop}{v w:V}(rv:ad c X μ s.heap v x)(rw':ad c X μ s.heap w y)
 (h:ac c X A env fr D μ s ((yl v w σ).bind (kT t f)) Q E):
 wpAny c.M A (PySem.call (.type "zip") [x,y]) (λx s'=>wpAny c.M A (pyIter x) (λit aB=>mO c X A env fr D t f Q E μ s it aB) E' s') E s:=
 oy h λp hp h=>oy h λq hq h=>uX h λht lo h2=>(Hq ht).elim λes e=>e.elim λpp e=>by
  subst e
  refine fh o hp rv λa its _ hqa hl _ _=>?_
  refine fh o hq rw' λb gF _ hqb mr _ _=>?_
  refine call_zip_2 hl.isList mr.isList λh' z1 z2 z3 z4 z5 _ hk=>wpAny_pyIter_zip z1 ?_
  have k:aY (λ_=>False) s.heap h':=.of hk
  have fr:∀j,s.heap.get? (s.heap.objs.size+j)=none:=λj=>Heap.get?_none_of_le (gI _ _)
  have bn:=λj=>(o.fresh (fr j)).1
  exact⟨zx X (s.heap.objs.size+2) (s.heap.objs.size+3),_,_,_,_,σ,μ,s,_,.refl,o,Y0 hh o (.head _) hqa (.tail _ (.head _)) hqb (W7 (hl.elim λ_ e=>Heap.lt_size e) (mr.elim λ_ e=>Heap.lt_size e)) (Kg (fr 4) (fr 2) (fr 3) (fr 0) (fr 1)),k,rfl,rfl,
   o.more (s':={s with heap:=h'}) k (λb hb=>hb.imp id λhb=>hb.elim (λe=>e▸fr 2) λe=>e▸fr 3) (λb hb=>hb.elim (λhb=>⟨(o.xlt b hb).1.imp λob e=>hk b ob e,(o.xlt b hb).2⟩) λhb=>hb.elim (λe=>e▸⟨⟨_,z2⟩,bn 2⟩) λe=>e▸⟨⟨_,z3⟩,bn 3⟩),⟨z1,z2,⟨_,_,z3⟩,z4,z5⟩,lo,h2⟩
end
section
variable{c:Cx}{X X':Addr->Prop}{A A' B:Around}{env env':Env}{fr cW:Fr}{μ ao a9 be:Mu}{σ aM σ₂ eN:Sg}{s s₁ aB sb:Shared}{E:Value->Shared->Prop}{n:Nat}{K:Frag}{ih:Ev}{α dJ β fS:Type}
 {D:Mu->Heap->α->β->Prop}
theorem OM(h:Ku i=some r):∃q p,i=.call (.name r.1 q) r.2 p:=by
 cases i with
 |call f es p=>exact on (h) λx hx h=>(Cu hx).elim λq e=>⟨q,p,by rw[e,← af h]⟩
 |_=>exact ns h
theorem P5(h:JQ c.T fr i=some b):∃x q p,i=.call (.name x q) b.2 p/\glob c.T fr x=some (.bi b.1):=
 on h λr hr h=>on h λv hv h=>on h λk hk h=>(OM hr).elim λq w=>w.elim λp w=>by
  have e:=af h
  subst e
  exact⟨r.1,q,p,w,qZ hk▸hv⟩
theorem Lf{γ:Type}{es:List γ}{f:γ->R dJ}{Q:β->Shared->Prop}{P:List γ->Prop}(h:ac c X A env fr D μ s ((one es f).bind g) Q E)(k:∀a,ac c X A env fr D μ s ((f a).bind g) Q E->P [a]):P es:=by
 cases es with|nil=>exact h.elim|cons a r=>cases r with|nil=>exact k a h|cons=>exact h.elim
theorem U1{γ:Type}{es:List γ}{f:γ->γ->R dJ}{Q:β->Shared->Prop}{P:List γ->Prop}(h:ac c X A env fr D μ s ((two es f).bind g) Q E)(k:∀a b,ac c X A env fr D μ s ((f a b).bind g) Q E->P [a,b]):P es:=by
 cases es with|nil=>exact h.elim|cons a r=>cases r with|nil=>exact h.elim|cons b r=>cases r with|nil=>exact k a b h|cons=>exact h.elim
theorem y7(G:bp c K)(S:SE c n ih.eE)(eo:aJ c n A env fr)(o:Ok c X A env fr μ σ s)(hk:k<14)(hg:glob c.T fr x=some (.bi k)){Q:Value->Shared->Prop}
 (h:ac c X A env fr (DL c X) μ s (jE ih fr es σ) (λys s₁=>wpAny c.M A (PySem.call (ie k) ys) Q E s₁) E):wpAny c.M A (eval (an c.nm (.call (.name x q) es p)) env) Q E s:=
 Call_ (Kj G eo o hg λy ry=>by
  rw[show y=c.biV k from ry,G.bi k hk]
  exact tL S eo o (first:=[]) (h.imp λys s₁ w=>⟨AF k hk _,w⟩)) rfl
abbrev iX(c:Cx)(X:Addr->Prop)(A:Around)(env:Env)(fr:Fr)(D:Mu->Heap->α->β->Prop)(t:Mine.E)(f:(List V×List (Nat×List V)×Bool)->Sg->R α)(Q:β->Shared->Prop)(E:Value->Shared->Prop)(μ:Mu)(s:Shared):Value->Shared->Prop:=
 λx s'=>wpAny c.M A (pyIter x) (λit aB=>mO c X A env fr D t f Q E μ s it aB) E s'
theorem iX.shift{Q:β->Shared->Prop}(h:wpAny c.M A m (iX c X A env fr D t f Q E ao s₁) E s₁)(n:aK A env μ ao s s₁):wpAny c.M A m (iX c X A env fr D t f Q E μ s) E s₁:=
 wpAny_mono h (λx s' q=>wpAny_mono q (λit aB st=>st.shift n) λ_ _ e=>e) λ_ _ e=>e
theorem yW(G:bp c K)(S:SE c n ih.eE)(eo:aJ c n A env fr)(o:Ok c X A env fr μ σ s){i t:Mine.E}{f:(List V×List (Nat×List V)×Bool)->Sg->R α}{Q:β->Shared->Prop}
 (h:ac c X A env fr D μ s ((yo c.T ih fr i σ).bind (kT t f)) Q E):wpAny c.M A (eval (an c.nm i) env) (iX c X A env fr D t f Q E μ s) E s:=
 have hh:=eo.handled
 have plain:=λh=>
  S X A env fr μ σ s i _ E eo o (ac.bind (D':=DV c X) (lT .. ▸h) λv aM ao x s₁ n₁ aC bj h₁=>wpAny_mono (Xj hh aC bj h₁) (λit aB st=>st.shift n₁) λ_ _ e=>e)
 yY h (λb hb h=>(P5 hb).elim λx w=>w.elim λq w=>w.elim λp w=>
  pG h (λe h=>w.1▸Lf (P:=λes=>wpAny c.M A (eval (an c.nm (.call (.name x q) es p)) env) (iX c X A env fr D t f Q E μ s) E s) h λa h=>
   y7 G S eo o (k:=7) (by decide) (bx.mp e▸w.2) (ac.args1 (lT .. ▸h) λv aM ao y s₁ n₁ aC bj h₁=>iX.shift (Pg hh aC bj h₁) n₁)) λ_ h=>
  pG h (λe h=>w.1▸U1 (P:=λes=>wpAny c.M A (eval (an c.nm (.call (.name x q) es p)) env) (iX c X A env fr D t f Q E μ s) E s) h λa b h=>by
   rw[lT,show(λv s=>((ih.eE b fr s).bind λw s=>yl v w s).bind (kT t f))=λv s=>(ih.eE b fr s).bind λw s=>(yl v w s).bind (kT t f) from funext λv=>funext λs=>lT ..] at h
   exact y7 G S eo o (k:=8) (by decide) (bx.mp e▸w.2) (ac.args2 h λv w aM ao y z s₁ n₁ aC bj dB h₁=>iX.shift (Oo hh aC bj dB h₁) n₁)) λ_ h=>
  pG h (λe h=>w.1▸Lf (P:=λes=>wpAny c.M A (eval (an c.nm (.call (.name x q) es p)) env) (iX c X A env fr D t f Q E μ s) E s) h λa h=>
   y7 G S eo o (k:=6) (by decide) (bx.mp e▸w.2) (ac.args1 (lT .. ▸h) λv aM ao y s₁ n₁ aC bj h₁=>iX.shift (Q9 hh aC bj h₁) n₁)) λ_ h=>plain h) plain
theorem QP(h:EF i=some x):∃p,i=.ife x.1 x.2.1 x.2.2 p:=by cases i<;>first|exact ns h|exact af h▸⟨_,rfl⟩
theorem Ao(G:bp c K)(S:SE c n ih.eE)(T:ST c n ih.eT)(eo:aJ c n A env fr)(o:Ok c X A env fr μ σ s){Q:β->Shared->Prop}
 (h:ac c X A env fr D μ s ((rA c.T ih fr i σ).bind (kT t f)) Q E):wpAny c.M A (eval (an c.nm i) env) (iX c X A env fr D t f Q E μ s) E s:=
 yY h (λx hx h=>(QP hx).elim λp e=>by
  rw[lT] at h
  rw[e]
  show wpAny c.M A (eval (.IfExp (an c.nm x.1) (an c.nm x.2.1) (an c.nm x.2.2) (aE p)) env) _ E s
  rw[arm_eval_IfExp]
  refine ah (T X A env fr μ σ s x.1 _ E eo o (ac.bind (D':=DB) h λv aM ao y s₁ n₁ aC bj h₁=>?_))
  have e:=bj
  subst e
  exact pG h₁ (λe h₁=>by rw[e];exact iX.shift (yW G S eo aC h₁) n₁) λe h₁=>by rw[e];exact iX.shift (yW G S eo aC h₁) n₁) λh=>yW G S eo o h
theorem B5(e:Mine.E)(x:Value):foldedSetIterable (an c.nm e) env x=pure x:=by cases e<;>rfl
theorem NM(G:bp c K)(S:SE c n ih.eE)(T:ST c n ih.eT)(vD:SS c n ih.eS)(eo:aJ c n A env fr)(o:Ok c X A env fr μ σ s){Q:Flow->Shared->Prop}
 (h:ac c X A env fr (DF c X) μ s (I3 c.T ih t i b fr σ) Q E):wpAny c.M A (exec (cS c.nm (.forS t i b p)) env) Q E s:=
 wpAny_For (wpAny_mono (Ao G S T eo o (t:=t) (f:=λit s=>wh c.T ih fr t b it.2.1 it.1 s) h) (λx s₁ h₁=>wpAny_mono h₁ (λit aB st=>
  st.ex.elim λX' w=>w.elim λwr w=>w.elim λbf w=>w.elim λlk w=>w.elim λown w=>w.elim λaM w=>w.elim λao w=>w.elim λdq w=>w.elim λSt a=>ZG G S vD eo a.T a.o1 (aK.add a.only a.gens a.os) a.o2 a.st a.lo a.th) λ_ _ e=>e) λ_ _ e=>e) (B5 i)
end
def qv(env:Env)(target:Expr)(pos:Pos)(ifs:List Expr)(em:Sem Fin->Sem Fin)(it:Value)(code:Code):Sem Fin:=do
 standAt pos
 match ← pyNext it with
 |none=>pure (.done .next)
 |some v=>
  letOwnedTupleGo target it v
  PySem.assign target env v
  let mut ok:=true
  for c in ifs do
   if ok then ok ← isTrue c env (eval c env)
  if ok then em (again code) else again code
def tM(elt:Expr)(acc:Value)(env:Env)(k:Sem Fin):Sem Fin:=
 ((eval elt env >>= λx=>PySem.call (.builtin "list.append") [acc,x] >>= λ_=>pure ()):Sem Unit) >>= λ_=>k
def wu(e:Expr)(i2:Expr)(acc:Value)(env:Env)(k:Sem Fin):Sem Fin:=do
 let x ← eval i2 env
 standAt i2.pos
 let x ← foldedSetIterable i2 env x
 let it ← holding [x] (pyIter x)
 let _ ← runOwn (.compStart e 1 it acc env) env
 k
theorem Jg(elt t i:Expr)(ifs:List Expr)(sc:Scope)(pos:Pos)(it acc:Value)(env:Env):
 compTurn (.ListComp elt [⟨t,i,ifs,0⟩] sc pos) 0 it acc env=qv env t i.pos ifs (tM elt acc env) it (.compLoop (.ListComp elt [⟨t,i,ifs,0⟩] sc pos) 0 it acc env):=by rfl
theorem G5(elt t i t2 i2:Expr)(sc:Scope)(pos:Pos)(it acc:Value)(env:Env):
 compTurn (.ListComp elt [⟨t,i,[],0⟩,⟨t2,i2,[],0⟩] sc pos) 0 it acc env=
  qv env t i.pos [] (wu (.ListComp elt [⟨t,i,[],0⟩,⟨t2,i2,[],0⟩] sc pos) i2 acc env) it (.compLoop (.ListComp elt [⟨t,i,[],0⟩,⟨t2,i2,[],0⟩] sc pos) 0 it acc env):=by rfl
theorem Wm(elt t i t2 i2:Expr)(sc:Scope)(pos:Pos)(it acc:Value)(env:Env):
 compTurn (.ListComp elt [⟨t,i,[],0⟩,⟨t2,i2,[],0⟩] sc pos) 1 it acc env=
  qv env t2 i2.pos [] (tM elt acc env) it (.compLoop (.ListComp elt [⟨t,i,[],0⟩,⟨t2,i2,[],0⟩] sc pos) 1 it acc env):=by rfl
section
variable{prog:Program}{w:World}{A:Around}{E:Value->Shared->Prop}{R:Result->Shared->Prop}{s:Shared}{env:Env}
theorem Gl(hg:gens[d]?=some g)(ha:g.is_async=0)
 (h0:codeAny (model prog w) A (.compLoop (.ListComp elt gens sc pos) d it acc env) R s)(hi:∀(Q:Value->Shared->Prop) (E':Value->Shared->Prop),Q it s->wpAny (model prog w) A (pyIter it) Q E' s):
 codeAny (model prog w) A (.compStart (.ListComp elt gens sc pos) d it acc env) R s:=by
 refine codeAny_of_tree ?_
 refine wpAny_notedAt ?_
 unfold compStart
 show wpAny _ _ (if (gens[d]?.elim false λx=>x.is_async !=0)=true then _ else _) _ _ s
 rw[hg]
 show wpAny _ _ (if (g.is_async !=0)=true then _ else _) _ _ s
 rw[ha]
 refine ah (wpAny_askSetting (wpAny_ite ?_))
 split
 · first
    |exact ah (aS (aS (And.intro rfl h0)))
    |exact aS (And.intro rfl h0)
 · refine ah (wpAny_rule ?_)
   have eV:wpAny (model prog w) A (pyIter it >>= λnU=>again (.compLoop (.ListComp elt gens sc pos) d nU acc env)) (λeV s'=>match eV with|.done f=>R (.ok f) s'|.again c'=>c'.quiet=true/\codeAny (model prog w) A c' R s') (notedBy (model prog w) A env λx s'=>R (.error x) s') s:=
    ah (hi _ _ (aS ⟨rfl,h0⟩))
   have e:(clausesOf (.ListComp elt gens sc pos))[d]?=some g:=hg
   dsimp only
   rw[e]
   exact ah (fZ eV)
end
section
variable{c:Cx}{X X':Addr->Prop}{A A' B:Around}{env env':Env}{fr cW:Fr}{μ ao a9 be gi:Mu}{σ aM σ₂ eN:Sg}{s s₁ aB sb dQ:Shared}{E:Value->Shared->Prop}{n:Nat}{K:Frag}{ih:Ev}{α dJ β fS:Type}
 {D:Mu->Heap->α->β->Prop}{wr:List Addr}{bf:List V}{lk:List (Nat×List V)}{St:Nat->Heap->Prop}
theorem PS(T:ST c n ih.eT)(eo:aJ c n A env fr)(o:Ok c X A env fr μ σ s){Q:Bool->Shared->Prop}(h:ac c X A env fr DB μ s (IL ih fr tsts σ) Q E):
 wpAny c.M A (forIn (bC c.nm tsts) true λc r=>if r=true then do let ok ← isTrue c env (eval c env);pure (ForInStep.yield ok) else pure (ForInStep.yield r)) Q E s:=by
 cases tsts with
 |nil=>exact wpAny_tests_nil (ac.ok h .refl o rfl)
 |cons e r=>cases r with
  |nil=>exact wpAny_tests_one (T X A env fr μ σ s e Q E eo o h)
  |cons=>exact h.elim
theorem HR(G:bp c K)(S:SE c n ih.eE)(T:ST c n ih.eT)(eo:aJ c n A env fr){Rr:Result->Shared->Prop}
 (vF:compTurn (.ListComp nV gens nW kg) d it acc env=qv env (an c.nm t) pos (bC c.nm tsts) emS it (.compLoop (.ListComp nV gens nW kg) d it acc env))
 (Tn:eC c X X' A (an c.nm t) it wr bf lk gi dQ St)(B:yt c X A env wr gi dQ be sb)
 (EM:∀μ σ s (Q:Shared->Prop) (E:Value->Shared->Prop) (k:Sem Fin) (Qf:Fin->Shared->Prop),ce be μ->Ok c X' A env fr μ σ s->ac c X' A env fr DU μ s (emit σ) (λ(_:Unit) s'=>Q s') E->(∀s',Q s'->wpAny c.M A k Qf E s')->wpAny c.M A (emS k) Qf E s)
 (hE:∀{α β:Type} {D:Mu->Heap->α->β->Prop} {r:R α} {Q:β->Shared->Prop} {μ σ s},Ok c X' A env fr μ σ s->ac c X' A env fr D μ s r Q E->ac c X' A env fr D μ s r Q (notedBy c.M A env λe s'=>Rr (.error e) s'))
 (n0:aK A env be μ sb s)(o:Ok c X' A env fr μ σ s)(st:St 0 s.heap)(lo:fi σ.H lk=true)(h:ac c X A env fr DU be sb (jX c.T ih fr t tsts emit lk bf σ) (λ(_:Unit) s'=>Rr (.ok .next) s') E):
 codeAny c.M A (.compLoop (.ListComp nV gens nW kg) d it acc env) Rr s:=by
 refine codeAny_loop rfl (AC c X X' A env fr DU bf lk be sb St (jX c.T ih fr t tsts emit lk) (λ(_:Unit) s'=>Rr (.ok .next) s') E) (λk s La=>La.ex.elim λpre w=>w.elim λrest w=>w.elim λμ w=>w.elim λσ w=>?_) bf.length ⟨[],bf,μ,σ,rfl,rfl,n0,o,st,lo,h⟩
 obtain⟨e,L⟩:=w
 refine wpAny_noted ?_
 rw[vF]
 refine ah (fZ (ah ?_))
 cases rest with
 |nil=>exact L.done Tn B _ λs₁ n₁ aC=>aS (ac.ok (y:=()) L.th n₁ aC trivial)
 |cons v r=>
  subst e
  refine L.item Tn B (Q':=λy s₁=>_) (λy s₁ n1 o1 ry nxt=>?_) _ λy s₁ h=>ah h
  refine ah (xx G S X' A env fr μ σ _ t v y _ _ eo o1 ry (hE o1 (ac.bindX (D':=DU) L.th Tn.le n1 λ_ aM ao _ s₁ n₁ aC _ h₁=>
   ah (PS T eo aC (hE aC (ac.bindX (D':=DB) h₁ Tn.le (n1.trans n₁) λb σ₂ a9 b' aB bG bc dB bh=>?_))))))
  have e:=dB
  subst e
  refine pG bh (λe bh=>?_) λe bh=>?_
  · rw[e]
    exact EM a9 σ₂ aB _ _ _ _ (n1.trans (n₁.trans bG)).ext bc (hE bc (ac.bindX (D':=DU) bh Tn.le (n1.trans (n₁.trans bG)) λ_ yG jw _ dq lc hJ _ cD=>bB cD λvE cD=>nxt jw yG dq (n₁.trans (bG.trans lc)) hJ vE cD)) λs' q=>aS ⟨rfl,q⟩
  · rw[e]
    exact bB bh λvE bh=>aS ⟨rfl,nxt a9 σ₂ aB (n₁.trans bG) bc vE bh⟩
end
section
variable{c:Cx}{X X':Addr->Prop}{A A' B:Around}{env env' dw:Env}{fr cW mv:Fr}{μ mw ao a9 be gi av:Mu}{σ aM σ₂ eN ba:Sg}{s lh s₁ aB sb dQ s':Shared}{E:Value->Shared->Prop}{n:Nat}{K:Frag}{ih:Ev}{α dJ β fS:Type}
 {D:Mu->Heap->α->β->Prop}
noncomputable def j7(sc:List (Nat×Nat)):List Nat:=List.rec [] (λp _ ih=>aa (Nat.beq p.2 2) (p.1::ih) ih) sc
theorem Ms(h:Nat.beq p.2 2=true):j7 (p::r)=p.1::j7 r:=mP (x:=p.1::j7 r) h
theorem D9(h:Nat.beq p.2 2=false):j7 (p::r)=j7 r:=l9 (x:=p.1::j7 r) h
theorem OY:∀{g':List (Nat×Nat)},fJ g sc=some g'->(∀x∈j7 sc,∃l,au g x=some l)/\∀x l,au g' x=some l->au g x=some l/\x∈j7 sc:=by
 induction sc with
 |nil=>exact λ{g'} h=>⟨λx q=>(nomatch q),λx l q=>by rw[← af h] at q;exact ns q⟩
 |cons p r ih=>
  intro g' h
  have h:aa (Nat.beq p.2 2) (a7 (au g p.1) (λl=>a7 (fJ g r) (λq=>some ((p.1,l)::q)) .none) .none) (fJ g r)=some g':=h
  cases hb:Nat.beq p.2 2 with
  |false=>rw[hb] at h;rw[D9 hb];exact ih h
  |true=>
   rw[hb] at h
   refine on h λl hl h=>on h λq hq h=>?_
   have i:=ih hq
   rw[Ms hb,← af h]
   refine⟨bD ⟨⟨l,hl⟩,i.1⟩,λx l' hx=>?_⟩
   rw[dy] at hx
   by_cases e:p.1=x
   · rw[aG e] at hx;exact e▸⟨hl.trans hx,.head _⟩
   · rw[ax e] at hx;exact⟨(i.2 x l' hx).1,.tail _ (i.2 x l' hx).2⟩
theorem Zb(k:Nat):(kd k==NameKind.free)=Nat.beq k 2:=Nat.casesOn k rfl λk=>Nat.casesOn k rfl λk=>Nat.casesOn k rfl λ_=>rfl
theorem Rf{a:Nat->Addr}(sc:List (Nat×Nat)):∀{acc:List (Str×Addr)},(∀x∈j7 sc,env.cells.lookup (c.nm x)=some (a x))->
 (forIn (names c sc) acc λx cs=>if (x.2==NameKind.free)=true then(do let b ← cellOf env x.1;pure (.yield ((x.1,b)::cs))) else pure (.yield cs):Sem (List (Str×Addr)))=pure ((j7 sc).foldl (λacc x=>(c.nm x,a x)::acc) acc):=by
 induction sc with
 |nil=>exact λ_=>rfl
 |cons p r ih=>
  intro acc h
  rw[show names c (p::r)=(c.nm p.1,kd p.2)::names c r from rfl,List.forIn_cons]
  rw[Zb]
  cases hb:Nat.beq p.2 2 with
  |true=>
   rw[Ms hb] at h ⊢
   have w:=ug h
   rw[aG rfl]
   unfold cellOf
   rw[w.1]
   exact ih w.2
  |false=>
   rw[D9 hb] at h ⊢
   exact ih h
theorem ZU(inj:∀i j,c.nm i=c.nm j->i=j){a:Nat->Addr}(xs:List Nat):∀{acc:List (Str×Addr)},x∈xs\/acc.lookup (c.nm x)=some (a x)->(xs.foldl (λacc x=>(c.nm x,a x)::acc) acc).lookup (c.nm x)=some (a x):=by
 induction xs with
 |nil=>exact λh=>h.elim (λq=>nomatch q) id
 |cons y r ih=>
  intro acc h
  refine ih (acc:=(c.nm y,a y)::acc) ?_
  by_cases e:x=y
  · exact .inr (by rw[fw,beq_iff_eq.mpr (aq c.nm e),e])
  · exact h.imp (λq=>(List.mem_cons.mp q).resolve_left e) λq=>by rw[fw,beq_false_of_ne λw=>e (inj _ _ w)];exact q
theorem FH(inj:∀i j,c.nm i=c.nm j->i=j)(o:Ok c X A env fr μ σ s)(h:fJ fr.g sc=some g'):∃cl,closureFor (dW c.nm sc) env=pure cl/\∀av,ce μ av->mD c av g' cl:=
 have w:=OY h
 have hc:=λx l hl=>(o.cells x l hl).elim λp q=>by rw[q.2];rfl
 ⟨_,aq (λm=>m >>= λcs=>pure cs) (Rf (c:=c) (env:=env) (a:=λx=>(env.cells.lookup (c.nm x)).getD 0) (acc:=[]) sc λx hx=>(w.1 x hx).elim λl hl=>hc x l hl),
  λav ex x l hx=>(o.cells x l (w.2 x l hx).1).imp λp q=>⟨ex _ _ q.1,(ZU inj (j7 sc) (.inl (w.2 x l hx).2)).trans (by rw[q.2];rfl)⟩⟩
theorem O4(env:Env)(l:List (Str×NameKind))(y:Str):
 (l.map λ(n,k)=>if (k==NameKind.free&&env.scope.kind== .function&&env.kindOf n==some .cell) then(n,NameKind.cell) else(n,k)).lookup y=(l.lookup y).map λk=>if (k==NameKind.free&&env.scope.kind== .function&&env.kindOf y==some .cell) then .cell else k:=by
 induction l with
 |nil=>rfl
 |cons p r ih=>
  show List.lookup y ((if (p.2==NameKind.free&&env.scope.kind== .function&&env.kindOf p.1==some .cell)=true then(p.1,NameKind.cell) else(p.1,p.2))::_)=(List.lookup y ((p.1,p.2)::r)).map _
  have e0:∀b:Bool,(if b=true then(p.1,NameKind.cell) else(p.1,p.2))=(p.1,if b=true then NameKind.cell else p.2):=λb=>by cases b<;>rfl
  rw[e0,fw,fw]
  cases hx:y==p.1 with
  |true=>rw[beq_iff_eq.mp hx];rfl
  |false=>exact ih
theorem Ue(G:bp c K)(eo:aJ c n A env fr)(hs:kL sc=true)(cl:List (Str×Addr))(L:Addr):aJ c n A (compEnvC (dW c.nm sc) cl L env) ⟨sc,g,false⟩:=
 have h1:=(BL hs).1
 have e:∀x,(compEnvC (dW c.nm sc) cl L env).kindOf (c.nm x)=(au sc x).map λk=>if (kd k==NameKind.free&&env.scope.kind== .function&&env.kindOf (c.nm x)==some .cell) then .cell else kd k:=λx=>
  (O4 env (names c sc) (c.nm x)).trans (by rw[xH G.inj,Option.map_map];rfl)
 have m:∀x k,au sc x=some k->(compEnvC (dW c.nm sc) cl L env).kindOf (c.nm x)=some (if (kd k==NameKind.free&&env.scope.kind== .function&&env.kindOf (c.nm x)==some .cell) then .cell else kd k):=λx k q=>by rw[e,q];rfl
 ⟨λx=>m x 0,λx=>m x 1,λx q=>by rw[m x 2 q];exact Bool.rec (.inr rfl) (.inl rfl) (kd 2==NameKind.free&&env.scope.kind== .function&&env.kindOf (c.nm x)==some .cell),λx=>m x 3,λx k q=>Md h1 q,
  λx q=>(Option.map_eq_some_iff.mp ((e x).symm.trans q)).elim λk w=>by
   have h2:=w.2
   cases hb:(kd k==NameKind.free&&env.scope.kind== .function&&env.kindOf (c.nm x)==some .cell) with
   |true=>rw[hb] at h2;exact NameKind.noConfusion h2
   |false=>rw[hb] at h2;exact BZ k h2▸w.1,
  rfl,eo.globs,eo.bis,eo.frame,eo.handled,(λq=>ft q),eo.depth,eo.units⟩
end
section
variable{c:Cx}{X X':Addr->Prop}{A A' B:Around}{env env' dw:Env}{fr cW mv:Fr}{μ mw ao a9 be gi av:Mu}{σ aM σ₂ eN ba:Sg}{s lh s₁ aB sb dQ s':Shared}{E:Value->Shared->Prop}{n:Nat}{K:Frag}{ih:Ev}{α dJ β fS:Type}
 {D:Mu->Heap->α->β->Prop}
structure dg(c:Cx)(X:Addr->Prop)(A:Around)(env:Env)(μ:Mu)(h:Heap)(L:Addr):Prop where
 ns:∃m,h.Ns L m
 own:¬own μ L
 loc:L≠env.locals
 base:c.base.get? L=none
 x:¬X L
 fs:L∉Fs A
theorem BD(aC:Ok c X A env fr ao aM s₁)(f:s₁.heap.get? L=none)(zm:∃m,h.Ns L m)(no:¬own μ L):dg c X A env μ h L:=
 ⟨zm,no,λe=>aC.loc_mut.elim λob w=>cg w.1 (e▸f),(aC.fresh f).1,(aC.fresh f).2,λq=>(aC.frame_alive q).elim λob e=>cg e f⟩
theorem dg.dict{L:Addr}{h:Heap}(j:dg c X A env μ h L):∃o es ep,h.get? L=some o/\o.data=.dict es ep:=j.ns.elim λm=>bg λo=>bg λes=>bg λep w=>⟨w.1,w.2.1⟩
theorem dg.ne(j:dg c X A env μ h L){ob:Obj}(e:h.get? b=some ob)(n:∀es ep,ob.data≠.dict es ep):b≠L:=λq=>j.dict.elim λo w=>w.elim λes w=>w.elim λep w=>n es ep (bz w.1 (q▸e)▸w.2)
theorem dg.mut(j:dg c X A env μ h L){ob:Obj}(e:h.get? b=some ob)(n:¬gm ob):b≠L:=j.ne e λes ep d=>n (.inl ⟨es,ep,d⟩)
theorem dg.stays(j:dg c X A env μ h L)(k:∀b ob,h.get? b=some ob->b≠L->h'.get? b=some ob):di X X h h' where
 tup:=λt its x hn=>x.elim λo x=>x.2.2.elim λn hd=>
  have q:=k t o x.1 (j.mut x.1 (zE x.2.1 hd))
  ⟨⟨_,q,x.2.1,n,hd⟩,hn.1,_,q,hn.2.elim λo' e=>(bz x.1 e.1).symm▸e.2⟩
 fn:=λt o fd ho hc hd=>⟨o,k t o ho (j.mut ho (JT hd)),rfl,rfl⟩
 code:=λcd q=>bg λt=>bg λo=>bg λvs=>bg λtk x=>⟨x.1,k t o x.2.1 (j.mut x.2.1 (mJ x.2.2.1)),x.2.2⟩
theorem dg.ok{L:Addr}(j:dg c X A env μ s.heap L)(o:Ok c X A env fr μ σ s){h':Heap}(k:∀b ob,s.heap.get? b=some ob->b≠L->h'.get? b=some ob):Ok c X A env fr μ σ {s with heap:=h'}:=
 have st:=j.stays k
 ⟨o.len,λi oi e=>(o.obj i oi e).imp λp z=>⟨z.1,z.2.keep (λob w=>k _ _ w λq=>j.own (dR.mpr ⟨i,p,z.1,.inl q.symm⟩)) (λob w=>k _ _ w λq=>j.own (dR.mpr ⟨i,p,z.1,.inr q.symm⟩)) st (.refl _)⟩,o.apart,o.new,
  nu o.ns (λm a=>a.at' λob e=>k _ _ e λq=>j.loc q.symm) st (.refl _),o.lout,o.cells,λb ob e=>k _ _ (o.stays b ob e) λq=>cg e (q▸j.base),
  o.frs.imp λl y=>⟨y.1,y.2.1.keep λb hb ob e n=>⟨ob,k b ob e λq=>j.fs ((kS y.1).mpr (q▸hb)),n⟩,y.2.2⟩,λq hq=>zV (o.tabs q hq) λb ob e nm=>k b ob e (j.mut e nm),λb hb=>⟨(o.xlt b hb).1.imp λob e=>k _ _ e λq=>j.x (q▸hb),(o.xlt b hb).2⟩⟩
theorem dg.nxt(f:s₁.heap.get? L=none)(nx:aK A env ao μ s₁ s)(k:∀b ob,s.heap.get? b=some ob->b≠L->h'.get? b=some ob):aK A env ao μ s₁ {s with heap:=h'}:=
 zM (wr:=[L]) (λb hb=>List.mem_singleton.mp hb▸f) nx (λb o e n=>k b o e λq=>n (List.mem_singleton.mpr q)) s.toks
theorem dg.step(j:dg c X A env μ s.heap L)(nx:aK A env μ av s s'):dg c X A env av s'.heap L:=
 ⟨j.ns.imp λm hm=>wt hm λob e=>x5 nx.keep e (λq=>q.elim j.own j.loc) λv=>v.elim λvs w=>j.ne e (λes ep d=>nomatch w.1.symm.trans d) rfl,
  λq=>(nx.fresh L q).elim j.own λq=>j.dict.elim λo w=>w.elim λes w=>w.elim λep w=>cg w.1 q,j.loc,j.base,j.x,j.fs⟩
theorem cC.junk{lo h h':Heap}(x:cC c X μ lo k m v e h)(hL:∃o,lo.get? L=some o)(st:di X X h h')(kk:∀b ob,h.get? b=some ob->b≠L->h'.get? b=some ob):cC c X μ lo k m v e h':=
 have ne:∀b,lo.get? b=none->b≠L:=λb f=>(ic hL f).symm
 x.ex.elim λoe x=>x.elim λvs x=>x.elim λdx x=>x.elim λms x=>x.elim λtb x=>x.at (oe':=oe) (vs':=vs) (tb':=tb) ⟨kk _ _ x.e1 (ne _ x.e9),x.e2,x.e3,x.e4,x.e5,x.e6,x.e7,x.e8.imp id (bg λT=>bg λoT=>bg λts z=>⟨z.1,z.2.t1,z.2.t2,kk _ _ z.2.t3 (ne _ z.2.t2),z.2.t4,z.2.t5,z.2.t6,z.2.t7⟩),x.e9⟩
  x.e11 (λo w=>⟨o.slots,kk _ _ w (ne _ x.e10)⟩) λ_ _ r=>r.mono st (.refl _)
theorem JP{α:Type}(o:Ok c X A env fr μ σ s){lo:Heap}(x:cC c X μ lo k m v e s.heap)(iB:fq lo s.heap)(hb:c.base.StaysIn lo)(ht:jT s.heap e){Q:α->Shared->Prop}
 (hE:∀s',aK A env μ μ s s'->Ok c X A env fr μ σ s'->cC c X μ lo k m v e s'.heap->E (.ref e) s'):wpAny c.M A (PySem.passOn w (.ref e) dw:Sem α) Q E s:=
 ht.elim λoe z=>z.elim λvs z=>z.elim λT z=>ah (wpAny_field z.1 z.2.1 z.2.2 (r8 (λh=>nomatch (beq_iff_eq.mp h:Value.ref T=.none)) (ah (sQ o x iB hb λs' n' o' x' _=>wpAny_throw (hE s' n' o' x')))))
theorem Uw(aC:Ok c X A env fr ao aM s₁)(f:s₁.heap.get? L=none)(nx:aK A env ao μ s₁ s)(o:Ok c X A env fr μ σ s)(j:dg c X A env μ s.heap L){lo:Heap}(x:cC c X μ lo k m v e s.heap)
 (hL:∃o,lo.get? L=some o)(hl:fq s₁.heap lo)(ht:jT s.heap e){Q:Value->Shared->Prop}
 (hE:∀av s' e,aK A env ao av s₁ s'->Ok c X A env fr av σ s'->cC c X av s₁.heap k m v e s'.heap->E (.ref e) s'):compPost c.M A E use Q acc L (.error (.ref e)) s:=by
 have main:∃m,s.heap.Ns L m/\∀h',Heap.SameBut L s.heap h'->∀dw:Env,dw.locals=L->wpAny c.M A (PySem.passOn "comprehension.variables-let-go" (.ref e) dw:Sem Value) (λ_ _=>False) E {s with heap:=h'}:=
  j.ns.imp λm' hm=>⟨hm,λh' sb dw _=>
   have kk:=λb ob e ne=>(sb.2 b ne).trans e
   have n':=dg.nxt f nx kk
   have ne:=x.ex.elim λ_ x=>x.elim λ_ x=>x.elim λ_ x=>x.elim λ_ x=>x.elim λ_ x=>(ic hL x.e9).symm
   JP (j.ok o kk) ((x.junk hL (j.stays kk) kk).lower hl) n'.keep.1 aC.stays (ht.imp λoe=>bg λvs=>bg λT z=>⟨kk _ _ z.1 ne,z.2⟩) λs' n2 o2 x2=>hE _ _ _ (n'.trans n2) o2 x2⟩
 cases use<;>exact main
end
section
variable{c:Cx}{X X':Addr->Prop}{A A' B:Around}{env env' dw:Env}{fr cW mv:Fr}{μ mw ao a9 be gi av:Mu}{σ aM σ₂ eN ba:Sg}{s lh s₁ aB sb dQ s':Shared}{E:Value->Shared->Prop}{n:Nat}{K:Frag}{ih:Ev}{α dJ β fS:Type}
 {D:Mu->Heap->α->β->Prop}
theorem ac.notedT(eo:aJ c n A env fr)(o:Ok c X A env fr μ σ s){Q:β->Shared->Prop}{P:Value->Shared->Prop}(h:ac c X A env fr D μ s r Q (λe s'=>(∀a,e=.ref a->jT s'.heap a)->P e s')):ac c X A env fr D μ s r Q (notedBy c.M A env P):=by
 cases r with
 |ok a ba=>exact h
 |stuck=>exact h
 |exc k m v ba=>exact λav s' e nx o' x=>KB eo o' x nx.keep.1 o.stays λs₁ n₁ aC vz yF=>h av s₁ e (nx.trans n₁) aC vz λa q=>Value.ref.inj q▸yF
def v8(c:Cx)(n:Nat)(emit:Nat->Fr->Sg->R Unit)(emS:Value->Env->Sem Fin->Sem Fin):Prop:=
 ∀X A env fr μ σ s N a (Q:Shared->Prop) (E:Value->Shared->Prop) (k:Sem Fin) (Qf:Fin->Shared->Prop),aJ c n A env fr->Ok c X A env fr μ σ s->aj μ N=some (a,a)->
  ac c X A env fr DU μ s (emit N fr σ) (λ(_:Unit) s'=>Q s') E->(∀s',Q s'->wpAny c.M A k Qf E s')->wpAny c.M A (emS (.ref a) env k) Qf E s
theorem SX(h:kL sc=true):∀y∈(dW c.nm sc).names,y.2≠.cell:=λy hy e=>(List.mem_map.mp hy).elim λp hp=>
 have e1:=(yy p.2).symm.trans (beq_iff_eq.mpr ((aq Prod.snd hp.2).trans e))
 have m:p.1∈dm sc:=List.mem_map.mpr ⟨p,List.mem_filter.mpr ⟨hp.1,e1⟩,rfl⟩
 nomatch (BL h).2▸m
theorem UB(G:bp c K)(h:kL sc=true):∀y∈(dW c.nm sc).names,y.2=.local->(dW c.nm sc).names.lookup y.1=some .local:=λy hy e=>(List.mem_map.mp hy).elim λp hp=>
 hp.2▸(xH G.inj sc p.1).trans (by rw[Ox h p hp.1,BZ p.2 ((aq Prod.snd hp.2).trans e)];rfl)
theorem V0(w:HW H){ob:aF}:fi H lk=true->fi (aH H ob) lk=true:=by
 induction lk with
 |nil=>exact id
 |cons p r ih=>
  intro h
  refine bV h λo ho h=>bV h λys hy h=>?_
  show Option.rec false (λo=>Option.rec false (λys=>aa (tm p.2 ys) (fi (aH H ob) r) false) (lL o)) (gH (aH H ob) p.1)=true
  rw[w.old ho]
  show Option.rec false (λys=>aa (tm p.2 ys) (fi (aH H ob) r) false) (lL o)=true
  rw[hy]
  show aa (tm p.2 ys) (fi (aH H ob) r) false=true
  rw[(iu h).1,ih (iu h).2];rfl
theorem Qy(G:bp c K)(S:SE c n ih.eE)(T:ST c n ih.eT){bf:List V}{St:Nat->Heap->Prop}
 (vF:compTurn (.ListComp nV gens nW kg) 0 it (.ref a) dw=qv dw (an c.nm t) pos (bC c.nm tsts) (emS (.ref a) dw) it (.compLoop (.ListComp nV gens nW kg) 0 it (.ref a) dw))
 (EM:v8 c n emit emS)(Da:aJ c n A dw ⟨sc,g',false⟩)(o1:Ok c X A env fr ao aM s₁)(Tn:eC c X X' A (an c.nm t) it wr bf lk ao s₁ St)(o4:Ok c X' A dw ⟨sc,g',false⟩ (ao++[(a,a)]) ⟨aH aM.H (.list []),[]⟩ s)
 (k14:aY (λ_=>False) s₁.heap s.heap)(hg:s.gens=s₁.gens)(ho:s.os=s₁.os)(MX:s₁.heap.get? a=none)(vG:s₁.heap.get? dw.locals=none)(rh:St 0 s.heap)(lo:fi aM.H lk=true){Q:β->Shared->Prop}{Qk:Value->Shared->Prop}
 (h:ac c X A env fr D ao s₁ ((xc (λs'=>jX c.T ih ⟨sc,g',false⟩ t tsts (emit (aM.H.n) ⟨sc,g',false⟩) lk bf s') aM).bind g) Q E)
 (eV:∀v ba av a s' L,aK A env ao av s₁ s'->Ok c X A env fr av ba s'->s₁.heap.get? L=none->dg c X A env av s'.heap L->ad c X av s'.heap v (.ref a)->ac c X A env fr D ao s₁ (g v ba) Q E->compPost c.M A E use Qk (.ref a) L (.ok .next) s'):
 codeAny c.M A (.compLoop (.ListComp nV gens nW kg) 0 it (.ref a) dw) (compPost c.M A E use Qk (.ref a) dw.locals) s:=
 have MY:=o1.last _
 have hid:=λb obj e nb=>hideAll_get wr e nb
 have ob:=Tn.okEnd o1.stays o4 rh hid s.toks
 have En:yk A env ao s₁ A dw (ao++[(a,a)]) {s with heap:=hideAll s.heap wr}:=
  ⟨.of λb obj e=>hid b obj (k14.2 b obj e id) λq=>cg e (Tn.fresh b q),ce.app _ _,λb q=>(mz.mp q).imp id λe=>e.elim (λe=>e▸MX) λe=>e▸MX,vG,λl' hH=>⟨l',hH,λ_ q=>q⟩,λb q=>.inr q,hg,ho⟩
 have nb4:=⟨.refl _,λ_ q=>.inl q,⟨λb obj e=>⟨obj,of_hideAll wr e⟩,λb obj e _ _=>.inl (of_hideAll wr e)⟩,rfl,rfl⟩
 have ib:=o1.stays_of En.only λ_ _ _ f=>f.elim
 have vx:ac c X A dw ⟨sc,g',false⟩ DU (ao++[(a,a)]) {s with heap:=hideAll s.heap wr} (jX c.T ih ⟨sc,g',false⟩ t tsts (emit (aM.H.n) ⟨sc,g',false⟩) lk bf ⟨aH aM.H (.list []),[]⟩)
  (λ(_:Unit) s'=>compPost c.M A E use Qk (.ref a) dw.locals (.ok .next) s') (λe s'=>(∀a,e=.ref a->jT s'.heap a)->compPost c.M A E use Qk (.ref a) dw.locals (.error e) s'):=by
  have h:ac c X A env fr D ao s₁ ((jf aM.r ((jX c.T ih ⟨sc,g',false⟩ t tsts (emit (aM.H.n) ⟨sc,g',false⟩) lk bf ⟨aH aM.H (.list []),[]⟩).bind λ_ s'=>.ok (.loc (aM.H.n)) s')).bind g) Q E:=h
  cases hr:jX c.T ih ⟨sc,g',false⟩ t tsts (emit (aM.H.n) ⟨sc,g',false⟩) lk bf ⟨aH aM.H (.list []),[]⟩ with
  |stuck=>rw[hr] at h;exact h.elim
  |ok u aaB=>
   rw[hr] at h
   exact λav s' y nx o' _=>(En.back o1 ob nx o').elim λn2 k2=>eV (.loc (aM.H.n)) _ av _ s' _ n2 k2 vG (BD o1 vG (o'.ns.imp λ_ w=>w.1) o'.lout.1) ⟨_,nx.ext _ _ MY,rfl⟩ h
  |exc k m v aaB=>
   rw[hr] at h
   exact λav s' e nx o' x ht=>(En.back o1 ob nx o').elim λn2 k2=>Uw o1 vG n2 k2 (BD o1 vG (o'.ns.imp λ_ w=>w.1) o'.lout.1) x (ob.loc_mut.imp λ_ w=>w.1) En.only.1 (ht e rfl) h
 HR G S T Da vF Tn ⟨ce.app _ _,λb hb=>hideAll_none wr hb,λμ s' nx=>ib.trans (nx.stays ob),o1.stays⟩ (λμ σ s Q' E' k Qf ex o' h' kk=>EM X' A dw _ μ σ s _ _ Q' E' k Qf Da o' (ex _ _ MY) h' kk) (λo' h'=>ac.notedT Da o' h') nb4 o4 rh (V0 o1.len.w lo) vx
theorem vT(G:bp c K)(S:SE c n ih.eE)(T:ST c n ih.eT)(eo:aJ c n A env fr)(o:Ok c X A env fr μ σ s)
 (vF:∀it acc env,compTurn (.ListComp nV (⟨an c.nm t,an c.nm i,bC c.nm tsts,0⟩::rest) (dW c.nm sc) kg) 0 it acc env=qv env (an c.nm t) pos (bC c.nm tsts) (emS acc env) it (.compLoop (.ListComp nV (⟨an c.nm t,an c.nm i,bC c.nm tsts,0⟩::rest) (dW c.nm sc) kg) 0 it acc env))
 (EM:v8 c n emit emS){Q:β->Shared->Prop}{Qk:Value->Shared->Prop}
 (h:ac c X A env fr D μ s ((comp c.T ih t i tsts sc emit fr σ).bind g) Q E)
 (eV:∀v ba ao s₁ av a s' L,aK A env ao av s₁ s'->Ok c X A env fr av ba s'->s₁.heap.get? L=none->dg c X A env av s'.heap L->ad c X av s'.heap v (.ref a)->ac c X A env fr D ao s₁ (g v ba) Q E->compPost c.M A E use Qk (.ref a) L (.ok .next) s'):
 wpAny c.M A (comprehension (.ListComp nV (⟨an c.nm t,an c.nm i,bC c.nm tsts,0⟩::rest) (dW c.nm sc) kg) (dW c.nm sc) env pos' (newList []) false (eval (an c.nm i) env) use) Qk E s:=
 pG h (λkc h=>oy h λg' hc h=>(FH G.inj o hc).elim λcl w=>by
  have e0:(((rA c.T ih fr i σ).bind λit s=>aa (qs it t s) (xc (λs'=>jX c.T ih ⟨sc,g',false⟩ t tsts (emit (s.H.n) ⟨sc,g',false⟩) it.2.1 it.1 s') s) .stuck).bind g)=
   (rA c.T ih fr i σ).bind (kT t λit s=>(xc (λs'=>jX c.T ih ⟨sc,g',false⟩ t tsts (emit (s.H.n) ⟨sc,g',false⟩) it.2.1 it.1 s') s).bind g):=
   (lT ..).trans (aq _ (funext λit=>funext λs=>(by show R.bind (aa _ _ _) g=aa _ _ _;cases qs it t s<;>rfl)))
  rw[e0] at h
  refine wpAny_comprehension_free rfl (λx=>B5 i x) w.1 rfl (UB G kc) (wpAny_mono (Ao G S T eo o h) (λx s' h'=>wpAny_mono h' (λit aB st=>?_) λ_ _ e=>e) λ_ _ e=>e)
  refine st.ex.elim λX' z=>z.elim λwr z=>z.elim λbf z=>z.elim λlk z=>z.elim λown z=>z.elim λaM z=>z.elim λao z=>z.elim λs₁ z=>z.elim λSt B=>?_
  refine wpAny_newObj_type (wpAny_newFunctionEnv (SX kc) (λy hy=>nomatch hy) (λh₁ Db Dc=>?_) rfl)
  dsimp only at Db Dc ⊢
  generalize MZ:aB.heap.push {cls:=.type "list",dict:=none,data:=.seq ([]:List Value).toArray}=H2 at Db Dc ⊢
  have Dd:aY (λ_=>False) aB.heap H2:=MZ▸aY.push _ _ _
  have De:H2.get? H2.objs.size=none:=cY _
  have M0:aY (λ_=>False) H2 h₁:=.of λb ob e=>Dc.extBut b ob (λq=>cg (q▸e) De) (d7 _ e)
  have Df:=Dd.trans M0
  have Dg:aB.heap.get? aB.heap.objs.size=none:=cY _
  have o3:Ok c X' A env fr (ao++[(aB.heap.objs.size,aB.heap.objs.size)]) ⟨aH aM.H (.list []),aM.r⟩ {aB with heap:=H2}:=
   B.o2.new1 (s':={aB with heap:=H2}) Dd Dg Dg ⟨rfl,#[],⟨_,MZ▸dX _ rfl⟩,.nil,Nat.zero_le _⟩
  refine Gl rfl rfl (Qy (s:={aB with heap:=h₁,toks:=aB.toks+([]:List (Str×Value)).length}) G S T (vF ..) EM (Ue G eo kc cl H2.objs.size) B.o1 B.T ?_ (B.only.trans Df) B.gens B.os (B.only.1.none Dg) ((B.only.trans Dd).1.none De)
   (B.T.keep 0 _ _ B.st λb hb ob e=>Df.2 b ob e id) B.lo B.th λv ba av a s' L=>eV v ba ao s₁ av a s' L) λQ' E' q=>B.T.self 0 _ _ _ (B.T.keep 0 _ _ B.st λb hb ob e=>Df.2 b ob e id) q
  exact(Ok.setg (fr:=⟨sc,[],false⟩) (o3.frame (s₁:={aB with heap:=h₁}) (env':=compEnvC (dW c.nm sc) cl H2.objs.size env) M0 Db De) λx l hx=>w.2 _ (B.nx.ext.trans (ce.app _ _)) x l hx).tok _) λ_ h=>h.elim
end
section
variable{c:Cx}{X X':Addr->Prop}{A A' B:Around}{env env' dw:Env}{fr cW mv:Fr}{μ mw ao a9 be gi av:Mu}{σ aM σ₂ eN ba:Sg}{s lh s₁ aB sb dQ s':Shared}{E:Value->Shared->Prop}{n:Nat}{K:Frag}{ih:Ev}{α dJ β fS:Type}
 {D:Mu->Heap->α->β->Prop}
theorem zY(S:SE c n ih.eE)(elt:Mine.E):v8 c n (λN fr s=>vo ih elt N fr s) (λacc env k=>tM (an c.nm elt) acc env k):=λX A env fr μ σ s N a Q E k Qf eo o hN h hk=>
 ah (ah (S X A env fr μ σ s elt _ E eo o (ac.bind (D':=DV c X) h λv aM ao y s₁ n₁ aC bj h₁=>ah (bk h₁ λob ho h₁=>bk h₁ λys hy h₁=>bB h₁ λhf bh=>(aC.obj N ob ho).elim λp w=>by
  have Dh:=n₁.ext _ _ hN
  have e1:=sv hy
  have e2:=bz w.1 Dh
  subst e1 e2
  exact w.2.2.elim λits z=>z.1.elim λn0 e0=>wpAny_list_append_plain ⟨n0,e0⟩ (λh' hH sb=>hH.elim λm e=>
   have kk:=(aY.same sb e).mono λ_ _ _ q=>.inl q
   have nx:aK A env ao ao s₁ ({s₁ with heap:=h'}:Shared):=aK.put Dh kk rfl rfl
   have hz:ay (ad c X ao s₁.heap) (app ys [v]) (its.push y).toList:=by rw[cq,Array.toList_push];exact z.2.1.append (.cons bj .nil)
   aS (hk _ ((bh).ok (y:=()) nx (aC.put (o:=.list (app ys [v])) Dh kk ⟨rfl,_,⟨m,e⟩,hz.nxt aC nx,cz hz▸gy.mp hf⟩) trivial))) (gs z.2.2)))))
theorem LY(G:bp c K)(S:SE c n ih.eE)(T:ST c n ih.eT)(elt t i t2 i2:Mine.E)(nW:Scope)(kg:Pos):v8 c n (λN fr s=>zn c.T ih elt t2 i2 N fr s)
 (λacc env k=>wu (.ListComp (an c.nm elt) [⟨an c.nm t,an c.nm i,[],0⟩,⟨an c.nm t2,an c.nm i2,[],0⟩] nW kg) (an c.nm i2) acc env k):=λX A env fr μ σ s N a Q E k Qf eo o hN h hk=>
 ah (wpAny_mono (Ao G S T eo o (t:=t2) (f:=λit s=>jX c.T ih fr t2 [] (vo ih elt N fr) it.2.1 it.1 s) h) (λx s' h'=>ah (fZ (ah (wpAny_of_eq (B5 i2 x) (ah (d9 (wpAny_mono h' (λit aB st=>
  st.ex.elim λX' z=>z.elim λwr z=>z.elim λbf z=>z.elim λlk z=>z.elim λown z=>z.elim λaM z=>z.elim λao z=>z.elim λs₁ z=>z.elim λSt B=>
   ah (wpAny_runOwn (Gl (A:=A.mark none) rfl rfl (HR G S T eo (Wm (an c.nm elt) (an c.nm t) (an c.nm i) (an c.nm t2) (an c.nm i2) nW kg it (.ref a) env) B.T ⟨.refl _,B.T.fresh,λμ s' nx=>nx.stays B.o1,B.o1.stays⟩
    (λμ σ s Q' E' k' Qf' ex o' h' kk=>zY S elt X' A env fr μ σ s N a Q' E' k' Qf' eo o' (ex _ _ (B.nx.ext _ _ hN)) h' kk) (λo' h'=>ac.loopE eo o' h') (aK.add B.only B.gens B.os) B.o2 B.st B.lo (B.th.imp λ_ s' q=>hk s' q)) λQ' E' q=>B.T.self 0 _ _ _ B.st q))) λ_ _ e=>e))))))) λ_ _ e=>e)
theorem FD(r:R α):(r.bind λv s=>.ok v s)=r:=by cases r<;>rfl
theorem Jo{Q:Value->Shared->Prop}(v:V)(ba:Sg)(ao:Mu)(s₁:Shared)(av:Mu)(a:Addr)(s':Shared)(L:Addr)(nx:aK A env ao av s₁ s')(o':Ok c X A env fr av ba s')(f:s₁.heap.get? L=none)(j:dg c X A env av s'.heap L)(rv:ad c X av s'.heap v (.ref a))
 (h:ac c X A env fr (DV c X) ao s₁ (.ok v ba) Q E):compPost c.M A E none Q (.ref a) L (.ok .next) s':=by
 exact j.ns.imp λm hm=>⟨hm,λh' sb=>
  have kk:=λb ob e ne=>(sb.2 b ne).trans e
  h.ok (dg.nxt f nx kk) (j.ok o' kk) (rv.mono (j.stays kk) (.refl _))⟩
theorem KG(G:bp c K)(S:SE c n ih.eE)(T:ST c n ih.eT)(eo:aJ c n A env fr)(o:Ok c X A env fr μ σ s){Q:Value->Shared->Prop}
 (h:ac c X A env fr (DV c X) μ s (vW c.T ih elt t i tsts sc fr σ) Q E):wpAny c.M A (eval (an c.nm (.comp elt t i tsts sc p)) env) Q E s:=by
 have h:ac c X A env fr (DV c X) μ s ((comp c.T ih t i tsts sc (λn fr=>vo ih elt n fr) fr σ).bind λv s=>.ok v s) Q E:=by rw[FD];exact h
 show wpAny _ A (eval (.ListComp (an c.nm elt) [⟨an c.nm t,an c.nm i,bC c.nm tsts,0⟩] (dW c.nm sc) (aE p)) env) _ _ _
 rw[eval_ListComp]
 exact vT G S T eo o (pos:=(an c.nm i).pos) (emS:=λacc env k=>tM (an c.nm elt) acc env k) (λit acc env=>Jg ..) (zY S elt) h Jo
theorem Lx(G:bp c K)(S:SE c n ih.eE)(T:ST c n ih.eT)(eo:aJ c n A env fr)(o:Ok c X A env fr μ σ s){Q:Value->Shared->Prop}
 (h:ac c X A env fr (DV c X) μ s (wn c.T ih elt t i t2 i2 sc fr σ) Q E):wpAny c.M A (eval (an c.nm (.comp2 elt t i t2 i2 sc p)) env) Q E s:=by
 have h:ac c X A env fr (DV c X) μ s ((comp c.T ih t i [] sc (λn fr=>zn c.T ih elt t2 i2 n fr) fr σ).bind λv s=>.ok v s) Q E:=by rw[FD];exact h
 show wpAny _ A (eval (.ListComp (an c.nm elt) [⟨an c.nm t,an c.nm i,[],0⟩,⟨an c.nm t2,an c.nm i2,[],0⟩] (dW c.nm sc) (aE p)) env) _ _ _
 rw[eval_ListComp]
 exact vT (tsts:=[]) G S T eo o (pos:=(an c.nm i).pos) (emS:=λacc env k=>wu (.ListComp (an c.nm elt) [⟨an c.nm t,an c.nm i,[],0⟩,⟨an c.nm t2,an c.nm i2,[],0⟩] (dW c.nm sc) (aE p)) (an c.nm i2) acc env k)
  (λit acc env=>G5 ..) (LY G S T elt t i t2 i2 _ _) h Jo
end
section
variable{c:Cx}{X X':Addr->Prop}{A A' B:Around}{env env' dw:Env}{fr cW mv:Fr}{μ mw ao a9 be gi av:Mu}{σ aM σ₂ eN ba:Sg}{s lh s₁ aB sb dQ s':Shared}{E:Value->Shared->Prop}{n:Nat}{K:Frag}{ih:Ev}{α dJ β fS:Type}
 {D:Mu->Heap->α->β->Prop}
theorem Eh(G:bp c K)(S:SE c n ih.eE)(eo:aJ c n A env fr){Q:Flow->Shared->Prop}(v:V)(ba:Sg)(ao:Mu)(s₁:Shared)(av:Mu)(a:Addr)(s':Shared)(L:Addr)(nx:aK A env ao av s₁ s')(o':Ok c X A env fr av ba s')(f:s₁.heap.get? L=none)(j:dg c X A env av s'.heap L)(rv:ad c X av s'.heap v (.ref a))
 (h:ac c X A env fr (DF c X) ao s₁ ((Mine.assign c.T ih fr t v ba).bind λ_ s=>.ok .next s) Q E):compPost c.M A E (some (PySem.assign (an c.nm t) env)) (λ_ s'=>Q .next s') (.ref a) L (.ok .next) s':=by
 refine xx G S X A env fr av ba s' t v (.ref a) _ E eo o' rv (ac.bindX (D':=DU) h (λ_ q=>q) nx λ_ σ₂ a9 _ aB bG bc _ bh=>?_)
 have j2:=j.step bG
 exact j2.ns.imp λm hm=>⟨hm,λh' sb=>
  have kk:=λb ob e ne=>(sb.2 b ne).trans e
  ac.ok (y:=Flow.next) bh (dg.nxt f (nx.trans bG) kk) (j2.ok bc kk) trivial⟩
theorem O2(h:sU t=none):swapsWithSole [an c.nm t] (.ListComp elt gens sc p) l env=pure false:=by cases t<;>first|rfl|exact sn h
theorem GL(G:bp c K)(S:SE c n ih.eE)(eo:aJ c n A env fr)(o:Ok c X A env fr μ σ s){Q:Flow->Shared->Prop}(hv:an c.nm v=.ListComp elt gens sc ps)(fm:wD t v=true)
 (ev:∀{Q E},ac c X A env fr (DV c X) μ s r Q E->wpAny c.M A (eval (an c.nm v) env) Q E s)
 (use:ac c X A env fr (DF c X) μ s (r.bind λx s=>(Mine.assign c.T ih fr t x s).bind λ_ s=>.ok .next s) Q E->
  wpAny c.M A (comprehension (.ListComp elt gens sc ps) sc env (firstIterPos gens ps) (newList []) (firstAsync gens) (firstIter gens env) (some (PySem.assign (an c.nm t) env))) (λ_ s'=>Q .next s') E s)
 (h:ac c X A env fr (DF c X) μ s (r.bind λx s=>(Mine.assign c.T ih fr t x s).bind λ_ s=>.ok .next s) Q E):wpAny c.M A (exec (cS c.nm (.assign t v p)) env) Q E s:=by
 cases hx:sU t with
 |none=>exact CI G S eo o fm (hv▸O2 hx) ev h
 |some x=>
  refine(Cu hx).elim λq e=>?_
  subst e
  have hb:∃b,swapsWithSole [.Name (c.nm x) (aE q)] (.ListComp elt gens sc ps) (aE p).line env=pure b:=⟨_,rfl⟩
  obtain⟨b,hb⟩:=hb
  cases b with
  |false=>exact CI G S eo o fm (hv▸hb) ev h
  |true=>
   show wpAny _ A (exec (.Assign [.Name (c.nm x) (aE q)] (an c.nm v) (aE p)) env) _ _ _
   have hb:swapsWith (.ListComp elt gens sc ps) (some (.Name (c.nm x) (aE q))) (aE p).line env=pure true:=hb
   rw[hv,exec_Assign_Name_used _ _ _ _ hb]
   refine ah (fZ (ah ?_))
   rw[arm_evalThenUse_ListComp]
   exact ah (wpAny_mono (use h) (λ_ s' hq=>aS (aS hq)) λ_ _ e=>e)
theorem WR(G:bp c K)(S:SE c n ih.eE)(T:ST c n ih.eT)(eo:aJ c n A env fr)(o:Ok c X A env fr μ σ s){Q:Flow->Shared->Prop}(h:ac c X A env fr (DF c X) μ s (BM c.T ih t v fr σ) Q E):
 wpAny c.M A (exec (cS c.nm (.assign t v p)) env) Q E s:=by
 cases v with
 |comp elt t1 i tsts sc q=>
  exact bB h λfm h=>GL G S eo o (v:=.comp elt t1 i tsts sc q) (r:=vW c.T ih elt t1 i tsts sc fr σ) rfl fm (λh=>KG G S T eo o h)
   (λh=>vT G S T eo o (pos:=(an c.nm i).pos) (emS:=λacc env k=>tM (an c.nm elt) acc env k) (λit acc env=>Jg ..) (zY S elt) h (Eh G S eo)) h
 |comp2 elt t1 i t2 i2 sc q=>
  exact bB h λfm h=>GL G S eo o (v:=.comp2 elt t1 i t2 i2 sc q) (r:=wn c.T ih elt t1 i t2 i2 sc fr σ) rfl fm (λh=>Lx G S T eo o h)
   (λh=>vT (tsts:=[]) G S T eo o (pos:=(an c.nm i).pos) (emS:=λacc env k=>wu (.ListComp (an c.nm elt) [⟨an c.nm t1,an c.nm i,[],0⟩,⟨an c.nm t2,an c.nm i2,[],0⟩] (dW c.nm sc) (aE q)) (an c.nm i2) acc env k)
    (λit acc env=>G5 ..) (LY G S T elt t1 i t2 i2 _ _) h (Eh G S eo)) h
 |_=>exact ZT G S eo o rfl h
end
section
variable{M:Model}{prog:Program}{w:World}{A:Around}{E:Value->Shared->Prop}{s:Shared}
theorem CR{T id:String}{Q:Value->Shared->Prop}(hT:s.TypeIs o T)
 (hl:typeLookup (.type T) "__getitem__" =pure (some (.builtin id)))(h:wpAny (model prog w) A (getItem o i) Q E s)
 (hs:subscripted slice false o i=operate ops (getItem o i)):wpAny (model prog w) A (subscriptTail value slice o i) Q E s:=by
 unfold subscriptTail
 refine ah ?_
 rw[getitemInPython_of_ne hT.not_modules]
 refine ah (wpAny_specialOf hT hl ?_)
 have eV:wpAny (model prog w) A (subscripted slice false o i) (λr dq=>wpAny (model prog w) A (letTemporaryGo value o r >>= λ_=>pure r) Q E dq) E s:=by
  rw[hs]
  exact wpAny_operating (wpAny_mono h (λr dq cD=>ah (wpAny_letTemporaryGo (aS cD))) λ_ _ x=>x)
 first
  |exact aS (ah eV)
  |exact ah (aS (ah eV))
  |exact ah eV
theorem FC(h:IsPart v p){Q:Option Int->Shared->Prop}(q:Q p s):wpAny (model prog w) A (Builtin.Slice.slicePartIndex v) Q E s:=by
 cases h with
 |none=>exact slicePart_none q
 |int i t=>exact slicePart_int q
theorem Yb(n:Nat)(v:Int):(if v<0 then max (v+(n:Int)) 0 else min v (n:Int))=((clipAt n v:Nat):Int):=by
 rw[clipAt_cast]
 split<;>omega
theorem Rp(p q:Option Int)(n:Nat):Builtin.Slice.sliceAdjust p q 1 (n:Int)=(((p.elim 0 (clipAt n):Nat):Int),((q.elim n (clipAt n):Nat):Int)):=by
 unfold Builtin.Slice.sliceAdjust
 have h1:¬((1:Int)<0):=by omega
 simp only[h1,if_false]
 cases p<;>cases q<;>simp[Yb]
theorem Rc(a b:Nat):Builtin.Slice.slicePlaces (a:Int) (b:Int) 1=b-a:=by
 unfold Builtin.Slice.slicePlaces
 have h1:(1:Int)>0:=by omega
 simp only[h1,if_true,Int.ediv_one]
 split<;>omega
theorem Yr{Q:Int×Int×Nat->Shared->Prop}(hs:s.heap.IsSliceOf sl y z .none)(hp:IsPart y p)(hq:IsPart z q)(h:Q (((p.elim 0 (clipAt n):Nat):Int),1,q.elim n (clipAt n)-p.elim 0 (clipAt n)) s):
 wpAny (model prog w) A (Builtin.Slice.sliceApplied (.ref sl) (pure (n:Int))) Q E s:=by
 obtain⟨os,vH,hcs,yJ⟩:=id hs
 unfold Builtin.Slice.sliceApplied Builtin.Slice.sliceFields
 refine ah (ah (wpAny_field vH yJ (x:=y) rfl (ah (wpAny_field vH yJ (x:=z) rfl (ah (wpAny_field vH yJ (x:=.none) rfl (aS ?_)))))))
 refine ah (slicePart_none ?_)
 rw[ax (by decide)]
 refine ah (FC hp (ah (FC hq (ah (aS ?_)))))
 show wpAny _ _ (match Builtin.Slice.sliceAdjust p q 1 (n:Int) with|(lo,hi)=>pure (lo,(1:Int),Builtin.Slice.slicePlaces lo hi 1)) _ _ s
 rw[Rp p q n]
 show wpAny _ _ (pure (((p.elim 0 (clipAt n):Nat):Int),(1:Int),Builtin.Slice.slicePlaces _ _ 1)) _ _ s
 rw[Rc]
 exact aS h
theorem WD(xs:Array Value)(a k:Nat):((List.range k).filterMap λ(k:Nat)=>xs[((a:Int)+(k:Int)*1).toNat]?)=(xs.toList.drop a).take k:=by
 have e:(λ(k:Nat)=>xs[((a:Int)+(k:Int)*1).toNat]?)=λk=>xs[a+k]?:=by
  funext k
  have:((a:Int)+(k:Int)*1).toNat=a+k:=by omega
  rw[this]
 rw[e,← pick_run xs a k,List.filterMap_map];rfl
theorem Zj{bf:Array Value}{Q:Value->Shared->Prop}(ht:IsTup s.heap t bf)(hs:s.heap.IsSliceOf sl y z .none)(hp:IsPart y p)(hq:IsPart z q)(ha:p.elim 0 (clipAt bf.size)=a)(hb:q.elim bf.size (clipAt bf.size)=b)
 (h1:a=0->b-a=bf.size->Q (.ref t) s)(h2:Q (.ref s.heap.objs.size) {s with heap:=s.heap.push {cls:=.type "tuple",data:=.seq ((bf.toList.drop a).take (b-a)).toArray}})
 (cK:bf.size<=sizeLine:=by size_fits):wpAny (model prog w) A (getItem (.ref t) (.ref sl)) Q E s:=by
 have yK:sizeOk (.seq ((bf.toList.drop a).take (b-a)).toArray):=by
  show((bf.toList.drop a).take (b-a)).toArray.size<=sizeLine
  rw[List.size_toArray,List.length_take,List.length_drop,Array.length_toList]
  omega
 obtain⟨os,vH,hcs,yJ⟩:=id hs
 have hTs:s.TypeIs (.ref sl) "slice" :=⟨os,vH,hcs⟩
 unfold getItem
 try with_reducible refine d9 ?_
 first|refine ah (aS ?_)|skip
 refine ah (wpAny_sequenceKey ht.typeIs (by decide) ?_)
 refine ah (wpAny_callSpecial?_slot (name:=Str.ofString "__getitem__") ht.typeIs slot_tuple_getitem
  (wpAny_call_entry slot_tuple_getitem ht.typeIs entry_tuple_getitem ?_ (args_tuple_getitem _ _)))
 show wpAny _ _ (Builtin.Tuple.tupleItemsOf (.ref t) >>= _) _ _ s
 refine ah (tupleItemsOf_ ht ?_)
 refine ah (wpAny_typeOf hTs ?_)
 rw[aG (by decide)]
 refine ah (Yr hs hp hq ?_)
 show wpAny _ _ (if (((p.elim 0 (clipAt bf.size):Nat):Int)==0&&(1:Int)==1&&(q.elim bf.size (clipAt bf.size)-p.elim 0 (clipAt bf.size))==bf.size)=true then _ else _) _ _ s
 rw[ha,hb]
 by_cases hw:(((a:Nat):Int)==0&&(1:Int)==1&&(b-a)==bf.size)=true
 · rw[aG hw]
   simp only[Bool.and_eq_true,beq_iff_eq] at hw
   have q:=h1 (by omega) hw.2
   refine ah (ah (wpAny_typeOf ht.typeIs (aS ?_)))
   rw[aG (by decide)]
   refine ah (wpAny_rule (ah (aS (aS ⟨_,rfl,?_⟩))))
   first|exact aS q|exact q
 · rw[ax hw,WD]
   first
    |exact ah (m:=Builtin.Tuple.tupleExact _) (wpAny_newObj_type (aS ⟨_,rfl,aS h2⟩) yK)
    |exact ah (m:=Builtin.Tuple.tupleExact _) (wpAny_newObj_type (ah (aS (aS ⟨_,rfl,aS h2⟩))) yK)
    |exact ah (ah (m:=Builtin.Tuple.tupleExact _) (wpAny_newObj_type (aS (aS ⟨_,rfl,aS h2⟩)) yK))
    |exact ah (ah (m:=Builtin.Tuple.tupleExact _) (wpAny_newObj_type (aS ⟨_,rfl,aS h2⟩) yK))
theorem Zr(p q:Option Int)(n:Nat):Builtin.Str.strSliceIndices p q 1 n=(List.range (q.elim n (clipAt n)-p.elim 0 (clipAt n))).map (p.elim 0 (clipAt n)+ ·):=by
 rw[← sliceRange_one]
 unfold Builtin.Str.strSliceIndices
 have h1:(1:Int)>0:=by omega
 simp only[h1,if_true]
 cases p<;>cases q<;>simp[clipAt_cast]
end
section
variable{c:Cx}{X X':Addr->Prop}{A A' B:Around}{env env' dw:Env}{fr cW mv:Fr}{μ mw ao a9 be gi av:Mu}{σ aM σ₂ eN ba:Sg}{s lh s₁ aB sb dQ s':Shared}{E:Value->Shared->Prop}{n:Nat}{K:Frag}{ih:Ev}{α dJ β fS:Type}
 {D:Mu->Heap->α->β->Prop}
def DO(c:Cx)(X:Addr->Prop):Mu->Heap->Option V->Value->Prop:=λμ h o y=>Option.rec (y=.none) (λv=>ad c X μ h v y) o
theorem Kn(S:SE c n ih.eE)(eo:aJ c n A env fr)(o:Ok c X A env fr μ σ s){Q:Value->Shared->Prop}(h:ac c X A env fr (DO c X) μ s (B0 ih fr l σ) Q E):wpAny c.M A (evalPart (Bd c.nm l) env) Q E s:=by
 cases l with
 |nil=>exact aS ((h).ok (y:=Value.none) .refl o rfl)
 |cons e r=>exact S X A env fr μ σ s e _ E eo o (ac.bind (D':=DV c X) h λv aM ao y s₁ n₁ aC bj h₁=>h₁.ok .refl aC bj)
theorem DO.nxt(r:DO c X μ s.heap a y)(o:Ok c X A env fr μ σ s)(n:aK A env μ av s s'):DO c X av s'.heap a y:=by
 cases a with
 |none=>exact r
 |some a=>exact ad.nxt (v:=a) r o n
theorem NX(j n:Nat):min j n=aa (Nat.ble j n) j n:=by
 cases e:Nat.ble j n with
 |true=>exact Nat.min_eq_left (dL e)
 |false=>exact Nat.min_eq_right (Nat.le_of_not_le λq=>tf ((Nat.ble_eq_true_of_le q).symm.trans e))
structure Cz(y:Value)(d n k:Nat)(l:Option (Int×Tok)):Prop where
 e:y=partValue l
 k:(l.map (·.1)).elim d (clipAt n)=k
theorem LZ(r:DO c X μ h ov y)(hb:bound d n ov=some k):∃l,Cz y d n k l:=by
 cases ov with
 |none=>exact⟨none,r,af hb⟩
 |some v=>
  cases v with
  |none=>exact⟨none,r,af hb⟩
  |int i=>
   refine(r).elim λt e=>⟨some (i,t),e,?_⟩
   cases i with
   |ofNat j=>exact(clipAt_nat n j).trans ((NX j n).trans (af hb))
   |negSucc j=>exact(clipAt_neg n (j+1) (Nat.succ_pos j)).trans (af hb)
  |_=>exact ns hb
theorem xy(l:Option (Int×Tok)):IsPart (partValue l) (l.map (·.1)):=by
 cases l with
 |none=>exact .none
 |some q=>exact .int _ _
theorem zu{Q:Value->Shared->Prop}{G:Prop}(ry:DO c X μ h' a y)(rz:DO c X μ h' b z)(h:ac c X A env fr (DV c X) μ s (oo m a b f) Q E)
 (k:∀ka kb la lb,Cz y 0 m ka la->Cz z m m kb lb->ac c X A env fr (DV c X) μ s (f ka kb) Q E->G):G:=
 bk h λka ha h=>bk h λkb hb h=>(LZ ry ha).elim λla wa=>(LZ rz hb).elim λlb wb=>k ka kb la lb wa wb h
theorem Hv{α:Type}(w:List α)(h0:ka=0)(h1:kb-ka=w.length):cut w ka kb=w:=by
 subst h0;exact(vn w 0 kb).trans (List.take_of_length_le (Nat.le_of_eq h1.symm))
theorem YQ(o:Ok c X A env fr μ σ s){Q:Value->Shared->Prop}(hx:cJ u=some xs)(hfu:fU xs=true)(jx:s.heap.IsSliceOf sl y z .none)
 (ru:ad c X μ s.heap u x)(ry:DO c X μ s.heap a y)(rz:DO c X μ s.heap b z)(hs:subscripted slice false x (.ref sl)=operate ops (getItem x (.ref sl)))(h:ac c X A env fr (DV c X) μ s (oo (len xs) a b λa b=>nS (cut xs a b) σ) Q E):wpAny c.M A (subscriptTail value slice x (.ref sl)) Q E s:=by
 revert hs
 refine j4 hx ru λl its hi lv hz hs=>zu ry rz h λka kb la lb wa wb h=>?_
 have hn:=(bH xs).trans (cz hz).symm
 rw[hn] at wa wb
 have z2:=(vn _ _ _).symm▸(hz.drop ka).take (kb-ka)
 obtain⟨hf,h⟩:=v5 h
 rw[wa.e,wb.e] at jx
 refine CR hi.typeIs slot_tuple_getitem.lookup (Zj (a:=ka) (b:=kb) hi jx (xy la) (xy lb) wa.k wb.k (λe1 e2=>h.ok .refl o ((iw (uy _)).mpr ⟨l,its,rfl,hi,lv,?_⟩)) ?_ (gs (cz hz▸gy.mp hfu))) hs
 · rw[Hv xs e1 (e2.trans (cz hz)),vd];exact hz
 · exact vX o (its:=((its.toList.drop ka).take (kb-ka)).toArray) (by rw[List.toList_toArray];exact z2) h (aY.push _ _ _) (cY _) (dX _ rfl) rfl rfl
theorem Wu(o:Ok c X A env fr μ σ s){Q:Value->Shared->Prop}(hx:dj σ.H u=some p)(jx:s.heap.IsSliceOf sl y z .none)
 (ru:ad c X μ s.heap u x)(ry:DO c X μ s.heap a y)(rz:DO c X μ s.heap b z)(hs:subscripted slice false x (.ref sl)=operate ops (getItem x (.ref sl)))(h:ac c X A env fr (DV c X) μ s (oo (len p.2) a b λa b=>lz (cut p.2 a b) σ) Q E):wpAny c.M A (subscriptTail value slice x (.ref sl)) Q E s:=by
 revert hs
 refine fh o hx ru λl its _ _ hl hz cK hs=>zu ry rz h λka kb la lb wa wb h=>?_
 have hn:=(bH p.2).trans (cz hz).symm
 rw[hn] at wa wb
 have z2:=(vn _ _ _).symm▸(hz.drop ka).take (kb-ka)
 obtain⟨hf,h⟩:=v5 h
 rw[wa.e,wb.e] at jx
 have C3:slicePick its (la.map (·.1)) (lb.map (·.1)) none=((its.toList.drop ka).take (kb-ka)).toArray:=by rw[slicePick_plain,wa.k,wb.k]
 refine CR hl.isList.typeIs list_getitem_lookup (wpAny_getItem_list_slice hl.isList jx (xy la) (xy lb) .none (λq=>nomatch q) ?_ (gs cK)) hs
 rw[C3]
 exact wQ o (by rw[List.toList_toArray];exact z2) h (by rw[List.size_toArray];exact v9 z2 hf) (aY.push _ _ _) (cY _) (dX _ rfl) rfl rfl
theorem Xq(w:Nat)(q:Option Int):q.elim w (clipAt w)<=w:=by
 cases q with
 |none=>exact Nat.le_refl _
 |some i=>have:=clipAt_cast w i;show clipAt w i<=w;omega
theorem Sk(o:Ok c X A env fr μ σ s){Q:Value->Shared->Prop}(hx:cQ u=some w)(jx:s.heap.IsSliceOf sl y z .none)
 (ru:ad c X μ s.heap u x)(ry:DO c X μ s.heap a y)(rz:DO c X μ s.heap b z)(hs:subscripted slice false x (.ref sl)=operate ops (getItem x (.ref sl)))(h:ac c X A env fr (DV c X) μ s (oo (len w) a b λa b=>oY (cut w a b) σ) Q E):wpAny c.M A (subscriptTail value slice x (.ref sl)) Q E s:=by
 revert hs
 refine fV hx ru λt hs=>zu ry rz h λka kb la lb wa wb h=>wZ h λhl h=>?_
 rw[bH] at wa wb
 rw[wa.e,wb.e] at jx
 have M1:slicePicked (aW w) la lb none=(List.range (kb-ka)).map (ka+ ·):=by
  show Builtin.Str.strSliceIndices (la.map (·.1)) (lb.map (·.1)) 1 (aW w).length=_
  rw[jt,Zr,wa.k,wb.k]
 have aaF:((slicePicked (aW w) la lb none).filterMap ((aW w).cps[·]?)).toArray=(aW (cut w ka kb)).cps:=by
  rw[M1,pick_run,vn];rfl
 refine CR (typeIs_str _ _ _) PySem.F.slot_str_getitem.lookup (wpAny_getItem_str_slice (l:=la) (u:=lb) (st:=none) jx rfl ?_) hs
 unfold sliceMade
 split
 · rename_i hw
   refine h.ok .refl o ⟨t,?_⟩
   rw[M1] at hw
   simp only[Bool.and_eq_true,beq_iff_eq,List.length_map,List.length_range,jt] at hw
   have h0:=hw.2
   have hkb:kb<=w.length:=wb.k▸Xq w.length (lb.map (·.1))
   have e:cut w ka kb=w:=by
    rcases Nat.eq_zero_or_pos w.length with e|e
    · have:=List.length_eq_zero_iff.mp e
      subst this;exact((vn _ _ _).trans (List.take_eq_nil_iff.mpr (.inr List.drop_nil)))
    · exact Hv w (by omega) h0
   rw[e]
 · rw[aaF];exact⟨by rw[jt];exact gs hl,h.ok (aK.tok .refl _) (o.tok _) ⟨_,rfl⟩⟩
theorem YF(o:Ok c X A env fr μ σ s){Q:Value->Shared->Prop}(jx:s.heap.IsSliceOf sl y z .none)
 (ru:ad c X μ s.heap u x)(ry:DO c X μ s.heap a y)(rz:DO c X μ s.heap b z)(hs:subscripted slice false x (.ref sl)=operate ops (getItem x (.ref sl)))(h:ac c X A env fr (DV c X) μ s (Ha u a b σ) Q E):wpAny c.M A (subscriptTail value slice x (.ref sl)) Q E s:=
 fu h (λ_ hx h=>Sk o hx jx ru ry rz hs h) λh=>fu h (λ_ hx h=>Wu o hx jx ru ry rz hs h) λh=>bk h λ_ hx h=>bB h λhf h=>YQ o hx hf jx ru ry rz hs h
theorem XY(S:SE c n ih.eE)(eo:aJ c n A env fr)(o:Ok c X A env fr μ σ s){ob:Mine.E}{lo hi:List Mine.E}{Q:Value->Shared->Prop}(h:ac c X A env fr (DV c X) μ s (D7 ih ob lo hi fr σ) Q E):
 wpAny c.M A (eval (an c.nm (.slice ob lo hi p q)) env) Q E s:=
 PyProof.Rows.Subscript_ (S X A env fr μ σ s ob _ E eo o (ac.bind (D':=DV c X) h λv aM ao x s₁ n₁ aC bj h₁=>
  wpAny_Slice (Kn S eo aC (ac.bind (D':=DO c X) h₁ λa σ₂ a9 y aB bG bc dB bh=>Kn S eo bc (ac.bind (D':=DO c X) bh λb yG jw z dq lc hJ C8 cD=>aS
   (have k1:=aY.push _ _ _
   have n4:aK A env jw jw dq {dq with heap:=dq.heap.push {cls:=.type "slice",data:=.fields #[y,z,.none]}}:=aK.add k1 rfl rfl
   have o4:=hJ.add (s':={dq with heap:=_}) k1
   YF o4 (Heap.IsSliceOf.new dq.heap y z .none) (((ad.nxt bj aC bG).nxt bc lc).nxt hJ n4) ((DO.nxt dB bc lc).nxt hJ n4) (DO.nxt C8 hJ n4) rfl (cD.shift n4)))))))
end
section
variable{c:Cx}{X X':Addr->Prop}{A A' B:Around}{env env' dw:Env}{fr cW mv:Fr}{μ mw ao a9 be gi av:Mu}{σ aM σ₂ eN ba:Sg}{s lh s₁ aB sb dQ s':Shared}{E:Value->Shared->Prop}{n:Nat}{K:Frag}{ih:Ev}{α dJ β fS:Type}
 {D:Mu->Heap->α->β->Prop}
theorem Q0(S:SE c n ih.eE)(eo:aJ c n A env fr)(o:Ok c X A env fr μ σ s){Q:Value->Shared->Prop}(h:ac c X A env fr (DV c X) μ s (K0 ih x fr σ) Q E):
 wpAny c.M A (eval (an c.nm (.neg x p)) env) Q E s:=
 wpAny_UnaryOp (S X A env fr μ σ s x _ E eo o (ac.bind (D':=DV c X) h λv aM ao y s₁ n₁ aC bj h₁=>bk h₁ λi hi h₁=>iE hi bj λt=>PyProof.Rows.neg_int (nq aC h₁)))
theorem ol(o:Ok c X A env fr μ σ s){Q:Value->Shared->Prop}:
 (∀p,ac c X A env fr (DV c X) μ s (.ok .none σ) Q E->wpAny c.M A (eval (an c.nm (.none p)) env) Q E s)/\(∀b p,ac c X A env fr (DV c X) μ s (.ok (.bool b) σ) Q E->wpAny c.M A (eval (an c.nm (.bool b p)) env) Q E s)/\
 (∀i p,ac c X A env fr (DV c X) μ s (.ok (.int (.ofNat i)) σ) Q E->wpAny c.M A (eval (an c.nm (.int i p)) env) Q E s)/\(∀k p,ac c X A env fr (DV c X) μ s (.ok (.str k) σ) Q E->wpAny c.M A (eval (an c.nm (.str k p)) env) Q E s):=
 ⟨λp h=>wpAny_Constant_none (h.ok .refl o rfl),λb p h=>wpAny_Constant_bool (h.ok .refl o rfl),λi p h=>wpAny_Constant_int (h.ok (aK.tok .refl _) (o.tok _) ⟨_,rfl⟩),λk p h=>wpAny_Constant_str (h.ok (aK.tok .refl _) (o.tok _) ⟨_,rfl⟩)⟩
theorem Lc(G:bp c K)(o:Ok c X A env fr μ σ s):(s.heap.objs.size==sysModules)=false:=
 G.nolim.elim λmc w=>w.1.elim λob w=>w.elim λ_ w=>w.elim λ_ w=>beq_eq_false_iff_ne.mpr λq=>aV (Nat.lt_of_lt_of_eq (Heap.lt_size (o.stays _ _ w.1)) q) (by decide)
theorem HS:∀{l:List (Str×Value)},(l.map (·.1)).Nodup->((stored l k v).map (·.1)).Nodup:=λ{l} nd=>by
 unfold stored
 split
 · have:(l.map λkv=>if kv.1=k then(kv.1,v) else kv).map (·.1)=l.map (·.1):=by
    rw[List.map_map]
    refine List.map_congr_left λkv _=>?_
    simp only[Function.comp]
    split<;>rfl
   rw[this];exact nd
 · rename_i h
   rw[List.map_append,List.nodup_append]
   refine⟨nd,by simp,λa ha b hb e=>h ?_⟩
   obtain⟨kv,hkv,e1⟩:=List.mem_map.mp ha
   have e2:b=k:=by simpa using hb
   exact List.any_eq_true.mpr ⟨kv,hkv,by rw[decide_eq_true_eq,e1,e,e2]⟩
theorem dg.same(j:dg c X A env μ s.heap L){ob:Obj}(e:s.heap.get? L=some ob)(nx:aK A env μ av s s'):s'.heap.get? L=some ob:=
 (nx.keep.2 L _ e (λq=>q.elim j.own j.loc) λv=>v.elim λvs w=>j.ne e (λes ep d=>nomatch w.1.symm.trans d) rfl).elim id λq=>aV q.1 j.fs
theorem dg.adopt(j:dg c X A env μ s.heap L)(o:Ok c X A env fr μ σ s)(k:∀b ob,s.heap.get? b=some ob->b≠L->h'.get? b=some ob){ob:aF}(r:RO c X (μ++[(L,L)]) h' (L,L) ob):
 Ok c X A env fr (μ++[(L,L)]) ⟨aH σ.H ob,σ.r⟩ {s with heap:=h',toks:=tk}:=
 have y:=(j.ok o k).tok tk
 have e:=ce.app μ [(L,L)]
 have st:=(iM.refl (λ_=>False) [] _).stays (λ_ _ _ f=>f.elim) λ_ _ _ q=>q
 have no:∀b,b≠L->¬Mine.own μ b->¬Mine.own (μ++[(L,L)]) b:=λb nb n q=>(mz.mp q).elim n λq=>nb (q.elim id id)
 have a1:∀{n q},aj μ n=some q->q.1≠L:=λhq w=>j.own (dR.mpr ⟨_,_,hq,.inl w.symm⟩)
 have a2:∀{n q},aj μ n=some q->q.2≠L:=λhq w=>j.own (dR.mpr ⟨_,_,hq,.inr w.symm⟩)
 ⟨⟨by rw[List.length_append,o.len.n];rfl,o.len.w.add ob⟩,
  λn oi hn=>by
   have hn:=hn
   rw[o.len.w.aget] at hn
   by_cases hi:n=σ.H.n
   · rw[aG hi] at hn;exact⟨(L,L),by rw[hi,← o.len.n];exact CO _ _,af hn▸r⟩
   · rw[ax hi] at hn;exact(y.obj n oi hn).imp λq z=>⟨e _ _ z.1,z.2.keep (λ_ z=>z) (λ_ z=>z) st e⟩,
  λi j a b hi hj vu=>(qr hi).elim (λw=>(qr hj).elim (λv=>o.apart i j a b w.2 v.2 vu) λv=>v.2.symm▸⟨a1 w.2,a1 w.2,a2 w.2,a2 w.2⟩)
   λw=>(qr hj).elim (λv=>w.2.symm▸⟨(a1 v.2).symm,(a2 v.2).symm,(a1 v.2).symm,(a2 v.2).symm⟩) λv=>aV (w.1.trans v.1.symm) vu,
  λb hb=>(mz.mp hb).elim (o.new b) λq=>(q.elim id id:b=L).symm▸⟨j.base,j.x⟩,
  nu y.ns (λm a=>a) st e,⟨no _ j.loc.symm o.lout.1,o.lout.2⟩,λn l hl=>(o.cells n l hl).imp λq z=>⟨e _ _ z.1,z.2⟩,y.stays,
  y.frs.imp λl z=>⟨z.1,z.2.1,λb hb=>⟨no b (λq=>j.fs ((kS z.1).mpr (q▸hb))) (z.2.2 b hb).1,(z.2.2 b hb).2⟩⟩,y.tabs,y.xlt⟩
structure Fg(c:Cx)(X:Addr->Prop)(A:Around)(env:Env)(fr:Fr)(be:Mu)(sb:Shared)(D0:Addr)(od:Obj)(μ:Mu)(σ:Sg)(s:Shared)(acc:List (List Nat×V))(l:List (Str×Value))(pre:List (Value×Value)):Prop where
 nx:aK A env be μ sb s
 o:Ok c X A env fr μ σ s
 j:dg c X A env μ s.heap D0
 e:s.heap.get? D0=some od
 z:ay (lX c X μ s.heap) acc (merged [] l)
 nd:((merged [] l).map (·.1)).Nodup
 hc:Carries (strKind c.prog c.w) pre l
theorem Gb{K:Type}[DecidableEq K]{knd:KeyKind c.prog c.w K}{k:K}(h:knd.is k key=true):∀{a:List (Value×Value)} {b:List (K×Value)},Carries knd a b->Carries knd (a++[(key,v)]) (b++[(k,v)])
 |[],[],_=>⟨h,rfl,trivial⟩
 |[],_::_,h=>h.elim
 |(_,_)::_,[],h=>h.elim
 |(_,_)::_,(_,_)::_,⟨a,b,d⟩=>⟨a,b,Gb h d⟩
theorem JR(S:SE c n ih.eE)(eo:aJ c n A env fr){pos:Pos}{D0:Addr}{g:List (List Nat×V)->Sg->R V}{P:List (Value×Value)->Shared->Prop}{Q:Value->Shared->Prop}:
 ∀(ks vs:List Mine.E) (acc:List (List Nat×V)) (l:List (Str×Value)) {μ:Mu} {σ:Sg} {s:Shared} (pre:List (Value×Value)),Fg c X A env fr be sb D0 od μ σ s acc l pre->
  ac c X A env fr (DV c X) be sb ((xU ih fr ks vs acc σ).bind g) Q E->
  (∀ps l acc μ σ s,Fg c X A env fr be sb D0 od μ σ s acc l (pre++ps)->ac c X A env fr (DV c X) be sb (g acc σ) Q E->P ps s)->
  wpAny c.M A (evalPairs (pairTrees (vj c.nm ks) (bC c.nm vs) env pos)) P E s
 |[],[],acc,l,μ,σ,s,pre,p,h,hP=>pairTrees_nil_walk (hP [] l acc μ σ s ((List.append_nil pre).symm▸p) h)
 |[],_::_,_,_,_,_,_,_,_,h,_=>h.elim
 |_::_,[],_,_,_,_,_,_,_,h,_=>h.elim
 |k::ks,v::vs,acc,l,μ,σ,s,pre,p,h,hP=>by
  have h:ac c X A env fr (DV c X) be sb (((ih.eE k fr σ).bind λkv s=>(ih.eE v fr s).bind λvv s=>aX (cQ kv) λx=>xU ih fr ks vs (nM acc x vv) s).bind g) Q E:=h
  rw[lT] at h
  refine pairTrees_cons_walk (S X A env fr μ σ s k _ E eo p.o (ac.bindX (D':=DV c X) h (λ_ q=>q) p.nx λkv aM ao y s₁ n₁ aC bj h₁=>?_))
  rw[lT] at h₁
  refine S X A env fr ao aM s₁ v _ E eo aC (ac.bindX (D':=DV c X) h₁ (λ_ q=>q) (p.nx.trans n₁) λvv σ₂ a9 w aB bG bc dB bh=>?_)
  refine oy bh λx hx bh=>fV hx bj λt=>?_
  have yL:=n₁.trans bG
  have em:merged [] (l++[(aW x,w)])=stored (merged [] l) (aW x) w:=List.foldl_append ..
  exact JR S eo ks vs (nM acc x vv) (l++[(aW x,w)]) (pre++[(.str (aW x) t,w)])
   ⟨p.nx.trans yL,bc,p.j.step yL,p.j.same p.e yL,em▸BY dB (p.z.mono λ_ _ q=>⟨q.1,q.2.nxt p.o yL⟩) p.nd,em▸HS p.nd,Gb (strKind_is _ _ _ _) p.hc⟩ bh
   λps l acc μ σ s q h=>hP ((.str (aW x) t,w)::ps) l acc μ σ s ((show pre++[(Value.str (aW x) t,w)]++ps=pre++((.str (aW x) t,w)::ps) from List.append_assoc ..)▸q) h
theorem Mv(nm:Nat->Str):∀l:List Mine.E,(bC nm l).length=l.length
 |[]=>rfl
 |e::r=>aq (· +1) (Mv nm r)
theorem ze(nm:Nat->Str):∀l:List Mine.E,(vj nm l).length=l.length/\(vj nm l).all (·.isSome)=true
 |[]=>⟨rfl,rfl⟩
 |e::r=>⟨aq (· +1) (ze nm r).1,(ze nm r).2⟩
theorem Ru(G:bp c K)(S:SE c n ih.eE)(eo:aJ c n A env fr)(o:Ok c X A env fr μ σ s){Q:Value->Shared->Prop}(h:ac c X A env fr (DV c X) μ s (K9 ih ks vs fr σ) Q E):
 wpAny c.M A (eval (an c.nm (.dct ks vs p)) env) Q E s:=by
 refine bB h λyM h=>bB h λhl h=>?_
 have yM:=dL yM
 rw[bH] at yM
 have hl:=bx.mp hl
 rw[bH,bH] at hl
 have Di:=Lc G o
 have k1:aY (λ_=>False) s.heap (s.heap.push {cls:=.type "dict",data:=.dict #[]}):=aY.push _ _ _
 have hD:=cY s.heap
 have j1:=BD o hD ⟨_,Heap.Ns.new s.heap (.type "dict")⟩ λq=>(o.own_mut q).elim λob e=>cg e.1 hD
 have e1:(s.heap.push {cls:=.type "dict",data:=.dict #[]}).get? s.heap.objs.size=some {cls:=.type "dict",data:=.dict #[]}:=dX _ rfl
 have new:=Heap.DictOf.new (knd:=strKind c.prog c.w) s.heap
 generalize M2:s.heap.objs.size=D0 at hD j1 e1 Di new
 have M3:∀h:Heap,h.get? D0=some {cls:=.type "dict",data:=.dict #[]}->h.DictOf (strKind c.prog c.w) D0 []:=λh e=>Cd new λob q=>bz e1 q▸e
 cases ks with
 |nil=>
  cases vs with
  |cons=>exact aV hl (λq=>nomatch q)
  |nil=>exact wpAny_Dict_empty (M2.symm▸bB (show ac c X A env fr (DV c X) μ s (tu [] σ) Q E from h) λ_ h=>h.ok (aK.new1 (s':={s with heap:=_}) (p:=(D0,D0)) k1 hD hD rfl rfl) (o.new1 (s':={s with heap:=_}) (o:=.dict []) (p:=(D0,D0)) k1 hD hD ⟨rfl,Di,[],M3 _ e1,.nil,Nat.zero_le _⟩) (⟨(D0,D0),o.last _,rfl⟩))
 |cons k ks=>
  have mx:=ze c.nm (k::ks)
  refine wpAny_Dict_walk (knd:=strKind c.prog c.w) mx.2 (mx.1.trans (hl.trans (Mv c.nm vs).symm)) (λq=>nomatch q) (mx.1▸yM) ?_
  rw[M2]
  refine JR S eo (D0:=D0) (g:=λbF s=>tu bF s) (k::ks) vs [] [] [] ⟨aK.add k1 rfl rfl,o.add (s':={s with heap:=_}) k1,j1,e1,.nil,List.nodup_nil,trivial⟩ h λps l acc a9 σ₂ aB p bh=>⟨l,p.hc,M3 _ p.e,λh' hd sb=>bB bh λhf bh=>?_⟩
  have kk:∀b ob,aB.heap.get? b=some ob->b≠D0->h'.get? b=some ob:=λb ob e ne=>(sb.2 b ne).trans e
  have n2:=(dg.nxt (s₁:=s) hD p.nx kk).tok (aB.toks+ps.length)
  exact bh.ok ⟨n2.ext.trans (ce.app _ _),λb q=>((mz (p:=(D0,D0))).mp q).elim (n2.fresh b) λq=>.inr ((q.elim id id)▸hD),n2.keep,n2.gens,n2.os⟩
   (p.j.adopt p.o (ob:=.dict acc) kk ⟨rfl,Di,_,hd,p.z.mono λ_ _ q=>⟨q.1,q.2.mono (p.j.stays kk) (ce.app _ _)⟩,p.z.length▸gy.mp hf⟩) ⟨(D0,D0),p.o.last _,rfl⟩
end
abbrev yw(nm:Nat->Str)(ps:List (Nat×Nat)):Arguments:=⟨[],ps.map λq=>⟨nm q.1,none,aE q.2⟩,none,[],[],none,[]⟩
theorem Rd(nm:Nat->Str)(ps:List (Nat×Nat))(body:Mine.E)(sc:List (Nat×Nat))(p:Nat):an nm (.lam ps body sc p)=.Lambda (yw nm ps) (an nm body) (dW nm sc) (aE p):=by rfl
theorem eQ.ok{h:Heap}{nm:Str}{l:List Value}(x:eQ h nm l):TriplesOk l:=by
 induction x with
 |nil=>trivial
 |cons l k a r _ _ ih=>exact ih
theorem PF{α:Type}{x y r:α}{o:Option α}{G:Prop}(e:(if b=true then some x else o)=some r)(k:x=r->G)(k':o=some r->G):G:=by
 cases b with
 |true=>exact k (af e)
 |false=>exact k' e
theorem eQ.found{nm:Str}{l:List Value}(x:eQ h nm l):codeAmong pos l=some cv->∃a,cv=.ref a/\h.CodeRec (.ref a) nm:=by
 induction x with
 |nil=>exact λe=>ns e
 |cons l k a r h1 _ ih=>exact λe=>PF (b:=l==(pos.line:Int)&&k==(pos.col:Int)) (x:=Value.ref a) (y:=.none) e (λe=>⟨a,e.symm,h1⟩) ih
theorem eQ.snoc(x:eQ h nm l)(c:h.CodeRec (.ref a) nm):eQ h nm (l++[rawInt i,rawInt j,.ref a]):=by
 induction x with
 |nil=>exact .cons _ _ _ _ c .nil
 |cons l k a r h1 _ ih=>exact .cons _ _ _ _ h1 ih
theorem eQ.two(x:eQ h nm l)(q:Str)(t:Tok):l[1]?≠some (.str q t):=by
 cases x<;>exact λe=>nomatch e
theorem eQ.vs{h:Heap}{nm:Str}{ps:Array Value}(x:eQ h nm ps.toList)(q:Str)(t:Tok):ps[1]?≠some (.str q t):=λe=>x.two q t (Array.getElem?_toList.trans e)
section
variable{c:Cx}{X X':Addr->Prop}{A A' B:Around}{env env' dw:Env}{fr cW mv:Fr}{μ mw ao a9 be gi av:Mu}{σ aM σ₂ eN ba:Sg}{s lh s₁ aB sb dQ s':Shared}{E:Value->Shared->Prop}{n:Nat}{K:Frag}{ih:Ev}{α dJ β fS:Type}
 {D:Mu->Heap->α->β->Prop}
structure WZ(c:Cx)(X:Addr->Prop)(A:Around)(env:Env)(fr:Fr)(μ:Mu)(σ:Sg)(s:Shared)(h':Heap):Prop where
 ok:Ok c X A env fr μ σ {s with heap:=h'}
 nx:aK A env μ μ s {s with heap:=h'}
theorem FJ{h h':Heap}{ps:Array Value}(e0:h.get? P=some (tabObj ps))(tr:eQ h nm ps.toList)(k:∀b ob,h.get? b=some ob->b≠P->h'.get? b=some ob)(cd:Value)(q:Str):h.CodeRec cd q->h'.CodeRec cd q:=
 bg λt=>bg λob=>bg λvs=>bg λtk x=>⟨x.1,k _ _ x.2.1 λw=>tr.vs q tk ((Data.fields.inj ((aq Obj.data (bz e0 (w▸x.2.1))).trans x.2.2.1)).symm▸x.2.2.2),x.2.2⟩
theorem Ok.table(G:bp c K)(o:Ok c X A env fr μ σ s){cd P:Addr}(hm:(cd,P)∈c.tabs)(k:∀b ob,s.heap.get? b=some ob->b≠P->h'.get? b=some ob){ps Dj:Array Value}(e0:s.heap.get? P=some (tabObj ps))(M4:eQ s.heap (c.tq cd) ps.toList)
 (hP:h'.get? P=some (tabObj Dj))(tr:eQ h' (c.tq cd) Dj.toList):WZ c X A env fr μ σ s h':=
 have rO:∀b ob,s.heap.get? b=some ob->(∀vs,ob.data≠.fields vs)->b≠P:=λb ob e n q=>n ps (aq Obj.data (bz (q▸e) e0))
 have Dk:∀b,(∃ob,s.heap.get? b=some ob/\gm ob)->b≠P:=λb w q=>w.elim λob w=>mJ (o:=tabObj ps) rfl (bz (q▸w.1) e0▸w.2)
 have M5:=FJ e0 M4 k
 have st:=⟨λa its x lv=>x.elim λob x=>x.2.2.elim λnn hd=>
  have q:=k a ob x.1 (rO a ob x.1 λvs e=>nomatch hd.symm.trans e)
  ⟨⟨ob,q,x.2.1,nn,hd⟩,lv.1,ob,q,lv.2.elim λo' l=>bz l.1 x.1▸l.2⟩,
  λa ob fd ho hc hd=>⟨ob,k _ _ ho (rO a ob ho λvs e=>nomatch hd.symm.trans e),rfl,rfl⟩,M5⟩
 have live:=λb ob e=>(Classical.em (b=P)).elim (λw=>⟨_,w▸hP⟩) λw=>⟨ob,k b ob e w⟩
 ⟨⟨o.len,λi oi e=>(o.obj i oi e).imp λp z=>⟨z.1,z.2.keep (λob w=>k _ _ w (Dk _ (o.own_mut (dR.mpr ⟨i,p,z.1,.inl rfl⟩)))) (λob w=>k _ _ w (Dk _ (o.own_mut (dR.mpr ⟨i,p,z.1,.inr rfl⟩)))) st (.refl _)⟩,o.apart,o.new,
  nu o.ns (λm a=>a.at' λob e=>k _ _ e (Dk _ o.loc_mut)) st (.refl _),o.lout,o.cells,λb ob e=>k _ _ (o.stays b ob e) λq=>cg e (q▸G.tabB _ hm),
  o.frs.imp λl y=>⟨y.1,y.2.1.keep λb hb ob e n=>⟨ob,k b ob e (rO b ob e n),n⟩,y.2.2⟩,
  λq hq=>⟨(o.tabs q hq).1.imp λob=>bg λvs=>bg λfile=>bg λtf=>bg λflags=>bg λtg=>bg λrL=>bg λtext=>bg λtt y=>
   ⟨k _ _ y.1 (λw=>aV ((aq Obj.cls (bz e0 (w▸y.1))).trans y.2.1:Value.none=.type "code") λq=>nomatch q),y.2⟩,
   (Classical.em (q.2=P)).elim (λw=>have e:=G.tabI q hq (cd,P) hm w;⟨Dj,w▸hP,e▸tr⟩) λw=>(o.tabs q hq).2.imp λpJ y=>⟨k _ _ y.1 w,y.2.keep λa=>M5 _ _⟩⟩,
  λb hb=>⟨(o.xlt b hb).1.elim (live b),(o.xlt b hb).2⟩⟩,
  .refl _,λ_ q=>.inl q,⟨live,λb ob e nm nv=>.inl (k b ob e λw=>nv (bz e0 (w▸e)▸⟨ps,rfl,M4.vs,.inr (.inr rfl)⟩))⟩,rfl,rfl⟩
theorem Zx{α:Type}(l:List α)(h:l.length<=1):l.Nodup:=match l,h with
 |[],_=>.nil
 |[_],_=>.cons (λ_ h=>nomatch h) .nil
theorem OB(G:bp c K)(eo:aJ c n A env fr)(o:Ok c X A env fr μ σ s){ps:List (Nat×Nat)}{body:Mine.E}{Q:Value->Shared->Prop}(h:ac c X A env fr (DV c X) μ s (Mx ps body sc fr σ) Q E):
 wpAny c.M A (eval (an c.nm (.lam ps body sc p)) env) Q E s:=
 bB h λhlm h=>bB h λkc h=>bB h λhps h=>bk h λcs hc h=>(FH G.inj o hc).elim λcl pZ=>(eo.code hlm).elim λcd w=>w.elim λP w=>(o.tabs _ w.2.1).2.elim λM6 hT=>
 G.bmain.elim λmg g=>g.elim λbm g=>g.elim λob g=>by
 rw[Rd]
 refine kla_eval rfl ?_
 have hg:=o.base_ns g.1
 have M7:=o.stays _ _ g.2.2.2.2.1
 have hP:=hT.1
 have tr:=hT.2
 have rO:∀b ob,s.heap.get? b=some ob->(∀vs,ob.data≠.fields vs)->b≠P:=λb ob e n q=>n M6 (aq Obj.data (bz (q▸e) hP))
 have hB:s.heap.BuiltinsAt mg P:=⟨bm,ob,g.2.1,g.2.2.1,g.2.2.2.1,rO bm ob M7 (λvs e=>nomatch g.2.2.2.2.2.2.2.symm.trans e),M7,g.2.2.2.2.2⟩
 have hgP:=hg.elim λo' z=>z.elim λes z=>z.elim λep z=>rO _ o' z.1 λvs e=>nomatch z.2.1.symm.trans e
 have hq:=w.2.2
 generalize (env.qual++ "<lambda>" :Str)=qn at hq ⊢
 have clo:∀{h':Heap} {a:Addr} {cv vI pm:Value},h'.get? a=some {cls:=.type "function",data:=.func (kla_fn "<lambda>" qn (yw c.nm ps) (an c.nm body) (dW c.nm sc) cl pm cv vI)}->
  h'.CodeRec cv (c.tq cd)->nh c μ h' a ⟨ps.map (·.1),sc,body⟩ cs:=λe hr=>
  ⟨_,_,e,rfl,rfl,kc,rfl,rfl,rfl,rfl,hq.symm▸hr,pZ.2 μ (.refl _),⟨_,rfl,by rw[List.map_map];exact(List.map_map (f:=Prod.fst) (g:=c.nm)).symm⟩,rfl,Zx _ (by rw[List.length_map,List.length_map,← bH];exact dL hps)⟩
 cases hf:codeAmong (aE p) M6.toList with
 |some cv=>
  refine(tr.found hf).elim λa z=>?_
  have z1:=z.1
  subst z1
  refine kla_makeFunctionHit (mg:=mg) pZ.1 eo.globs hg w.1 (o.tabs _ w.2.1).1 hP tr.ok hf hB λvI h' tk keep size=>?_
  have k:aY (λ_=>False) s.heap (h'.push {cls:=.type "function",data:=.func (kla_fn "<lambda>" qn (yw c.nm ps) (an c.nm body) (dW c.nm sc) cl ((mg "__name__").getD .none) (.ref a) vI)}):=.of λb ob e=>d7 _ (keep b ob e)
  exact h.ok ((aK.add (s':={s with heap:=_}) k rfl rfl).tok _) ((o.add (s':={s with heap:=_}) k).tok _) (⟨_,rfl,clo (dX _ rfl) (z.2.keeps λb ob e=>k.2 b ob e id)⟩)
 |none=>
  refine kla_makeFunction (mg:=mg) pZ.1 eo.globs hg w.1 (o.tabs _ w.2.1).1 hP tr.ok hf hgP hB λc' vI h' tk hx hge hlt aaK htb=>?_
  have hr:=hq▸aaK
  have kx:=λb ob e ne=>hx b ob ne e
  have T:=o.table G w.2.1 kx hP tr htb (by rw[Array.toList_append];exact(tr.keep λa=>FJ hP tr kx _ _).snoc hr)
  have k:aY (λ_=>False) h' (h'.push (kla_obj "<lambda>" qn (yw c.nm ps) (an c.nm body) (dW c.nm sc) cl ((mg "__name__").getD .none) c' vI)):=aY.push _ _ _
  exact h.ok ((T.nx.trans (aK.add (s:={s with heap:=h'}) (s':={s with heap:=_}) k rfl rfl)).tok _) ((T.ok.add (s':={s with heap:=_}) k).tok _) (⟨_,rfl,clo (dX _ rfl) (hr.push _)⟩)
end
def wv(c:Cx):Prop:=∀n (ih:Ev),SE c n ih.eE->∀X A env fr μ σ s k es pn pc p Q E,aJ c n A env fr->Ok c X A env fr μ σ s->ac c X A env fr (DF c X) μ s (J3 c.T ih k es fr σ) Q E->wpAny c.M A (exec (cS c.nm (.raise k es pn pc p)) env) Q E s
def x3(c:Cx):Prop:=∀n (ih:Ev),SS c n ih.eS->∀X A env fr μ σ s b hs p Q E,aJ c n A env fr->Ok c X A env fr μ σ s->ac c X A env fr (DF c X) μ s (KK c.T ih b hs fr σ) Q E->wpAny c.M A (exec (cS c.nm (.tryS b hs p)) env) Q E s
section
variable{c:Cx}{n:Nat}{K:Frag}{ih:Ev}
theorem PU(G:bp c K)(lg:qz c)(D:oF c)(H:lK c n ih):SE c (n+1) (Ch c.T ih c.mc):=by
 intro X A env fr μ σ s e Q E eo o h
 have cL:=eo.of_succ
 have S:=H.eE
 cases e with
 |none p=>exact(ol o).1 p h
 |bool b p=>exact(ol o).2.1 b p h
 |int i p=>exact(ol o).2.2.1 i p h
 |str k p=>exact(ol o).2.2.2 k p h
 |name x p=>exact Ap G eo o h
 |attr ob a p=>exact VF G S cL o h
 |sub ob i p=>exact QE S cL o h
 |slice ob lo hi p q=>exact XY S cL o h
 |bin op l r p=>exact Uz S cL o h
 |cmp op l r p=>exact OP S cL o h
 |bop a es p=>exact Sh S cL o h
 |not x p=>exact Wq S cL o h
 |neg x p=>exact Q0 S cL o h
 |ife t b e p=>exact Wd S H.eT cL o h
 |tup es p=>exact Vz S cL o h
 |lst es p=>exact XZ S cL o h
 |dct ks vs p=>exact Ru G S cL o h
 |comp elt t i tsts sc p=>exact KG G S H.eT cL o h
 |comp2 elt t i t2 i2 sc p=>exact Lx G S H.eT cL o h
 |lam ps body sc p=>exact OB G cL o h
 |call f es q=>
  cases f with
  |attr ob a p=>exact bB (h) λhl h=>bB h λhn h=>NF G lg S H.call cL o hl hn h
  |_=>exact S8 S (OA G D S H.call) eo o rfl h
theorem Js(G:bp c K)(Rz:wv c)(Tr:x3 c)(H:lK c n ih):SS c (n+1) (xJ c.T ih):=by
 intro X A env fr μ σ s e Q E eo o h
 have cL:=eo.of_succ
 have S:=H.eE
 cases e with
 |expr e p=>exact Tz S cL o h
 |assign t v p=>exact WR G S H.eT cL o h
 |forS t i b p=>exact NM G S H.eT H.eS cL o h
 | «while» t b p=>exact UE H.eW cL o h
 |ifS t b e p=>exact Yl H.eS H.eT cL o h
 |ret e p=>exact QN S cL o h
 |raise k es pn pc p=>exact Rz n ih S X A env fr μ σ s k es pn pc p Q E cL o h
 |tryS b hs p=>exact Tr n ih H.eS X A env fr μ σ s b hs p Q E cL o h
 |pass p=>exact wpAny_Pass ((h).ok (y:=Flow.next) .refl o trivial)
theorem Zm(G:bp c K)(lg:qz c)(D:oF c)(Or:qU c)(Rz:wv c)(Tr:x3 c)(H:lK c n ih):
 lK c (n+1) ⟨jk c.T ih n,Ch c.T ih c.mc,zL ih,xJ c.T ih,Am ih⟩ where
 call:=Z9 G Or H.eS
 eE:=PU G lg D H
 eT:=λX A env fr μ σ s e Q E eo o h=>S0 H.eE H.eT eo.of_succ o h
 eS:=Js G Rz Tr H
 eW:=λX A env fr μ σ s t b Q E eo o h=>OH H.eS H.eT H.eW eo.of_succ o h
theorem Mm(G:bp c K)(lg:qz c)(D:oF c)(Or:qU c)(Rz:wv c)(Tr:x3 c):∀n,lK c n (ev c.T c.mc n)
 |0=>⟨λ_ _ _ _ _ _ _ _ _ _ _ _ _ _ _ h=>h.elim,λ_ _ _ _ _ _ _ _ _ _ _ _ h=>h.elim,λ_ _ _ _ _ _ _ _ _ _ _ _ h=>h.elim,λ_ _ _ _ _ _ _ _ _ _ _ _ h=>h.elim,λ_ _ _ _ _ _ _ _ _ _ _ _ _ h=>h.elim⟩
 |n+1=>Zm G lg D Or Rz Tr (Mm G lg D Or Rz Tr n)
end
def Aa(c:Cx):Prop:=∀k d b,c.T.sub k d=some b->∀(A:Around) (E:Value->Shared->Prop) (s:Shared) e oe (Q:Bool->Shared->Prop),c.base.StaysIn s.heap->s.heap.get? e=some oe->oe.cls=.ref (c.clA k)->Q b s->wpAny c.M A (excMatches (.ref e) (.ref (c.clA d))) Q E s
def tZ(c:Cx):Prop:=∀k d b,c.T.sub k d=some b->∀a,a<=1->∀(A:Around) (E:Value->Shared->Prop) (s:Shared) e oe dx ms y (Q:Value->Shared->Prop) ex,c.base.StaysIn s.heap->s.heap.get? e=some oe->oe.cls=.ref (c.clA k)->oe.dict=some dx->(∃vs,oe.data=.fields vs)->s.heap.Ns dx ms->ms (c.nm a)=some y->handedIn y=true->(∀tk,Q y {s with toks:=tk})->
 wpAny c.M A (getAttr (.ref e) (c.nm a) ex) Q E s
section
variable{c:Cx}{X X':Addr->Prop}{A A' B:Around}{env env' dw:Env}{fr cW mv:Fr}{μ mw ao a9 be gi av:Mu}{σ aM σ₂ eN ba:Sg}{s lh s₁ aB sb dQ s':Shared}{E:Value->Shared->Prop}{n:Nat}{K:Frag}{ih:Ev}{α dJ β fS:Type}
 {D:Mu->Heap->α->β->Prop}
theorem LB(r:List (Nat×V))(x y:Nat)(v:V):au (r.filter λq=> !Nat.beq q.1 x) y=some v->y≠x/\au r y=some v:=by
 induction r with
 |nil=>exact λh=>ns h
 |cons p r ih=>
  rw[List.filter_cons]
  cases hb:Nat.beq p.1 x with
  |true=>exact λh=>(ih h).imp id λh2=>(dy p.1 p.2 r y).trans ((ax λq=>(ih h).1 (q.symm.trans (bx.mp hb))).trans h2)
  |false=>
   intro h
   have h:au ((p.1,p.2)::r.filter λq=> !Nat.beq q.1 x) y=some v:=h
   rw[dy] at h ⊢
   by_cases e:p.1=y
   · rw[aG e] at h ⊢;exact⟨λq=>dY.mp hb (e.trans q),h⟩
   · rw[ax e] at h ⊢;exact ih h
theorem L8(h:za fr x=true):au fr.sc x=some 0:=bV h λk hk h=>hk.trans (aq some (bx.mp h))
theorem oP.pick{lo h:Heap}{oe:Obj}(x:oP c X μ lo k m v e h oe vs dx ms tb):∀{a:Nat},Nat.ble a 1=true->∃y,ms (c.nm a)=some y/\ad c X μ h (sk a m v) y
 |0,_=>x.e13
 |1,_=>x.e14
 |_+2,h=>ft h
theorem S6(G:bp c K)(XA:tZ c)(eo:aJ c n A env fr){lo:Heap}{hd:Hd}(rP:c.T.sub k d=some b)(hx:za fr hd.x=true)(ha:Nat.ble hd.a 1=true)(nb:hW (sk hd.a m v)=true){Q:Flow->Shared->Prop}
 (o:Ok c X A env fr μ σ s)(x:cC c X μ lo k m v e s.heap)(hL:∃o,lo.get? env.locals=some o)(hm:s.heap.Ns env.locals m0)(hme:m0 (c.nm hd.x)=some (.ref e)){E':Value->Shared->Prop}
 (hQ:∀y s',aK A env μ μ s s'->Ok c X A env fr μ σ s'->cC c X μ lo k m v e s'.heap->s'.heap.Ns env.locals m0->ad c X μ s'.heap (.cons (.str hd.tag) (.cons (sk hd.a m v) .nil)) y->Q (.ret y) s'):
 wpAny c.M A' (PySem.execs [.Return (some (.Tuple [.Constant (.str (aW hd.tag)) 0 (aE hd.ps),.Attribute (.Name (c.nm hd.x) (aE hd.px)) (c.nm hd.a) (aE hd.pa)] 0 (aE hd.pt))) (aE hd.pr)] env) Q E' s:=
 x.ex.elim λoe z=>z.elim λvs z=>z.elim λdx z=>z.elim λms z=>z.elim λtb z=>(z.pick ha).elim λy g=>by
 refine wpAny_execs_cons (wpAny_Return_some ?_)
 rw[arm_eval_Tuple]
 refine ah (fZ (ah ?_))
 show wpAny c.M A' (spliced [(false,eval (.Constant (.str (aW hd.tag)) 0 (aE hd.ps)) env),(false,eval (.Attribute (.Name (c.nm hd.x) (aE hd.px)) (c.nm hd.a) (aE hd.pa)) env)]) _ _ s
 refine Calls.spliced_cons (wpAny_Constant_str (Calls.spliced_cons ?_))
 have base:∀whole,attributeBase (.Name (c.nm hd.x) (aE hd.px)) (c.nm hd.a) env whole=whole:=λ_=>rfl
 rw[arm_eval_Attribute,base]
 have kp:aY (λ_=>False) s.heap (s.heap.push {cls:=.type "tuple",data:=.seq [Value.str (aW hd.tag) s.toks,y].toArray}):=aY.push _ _ _
 have nx:aK A env μ μ s {s with heap:=s.heap.push {cls:=.type "tuple",data:=.seq [Value.str (aW hd.tag) s.toks,y].toArray}}:=aK.add kp rfl rfl
 exact ah (wpAny_Name (wpAny_loadName_local eo.kfun (eo.k0 _ (L8 hx)) hm hme (ah (fZ (ah (d9 (XA k d b rP hd.a (dL ha) A' _ _ e oe dx ms y _ _ o.stays z.e1 z.e2 z.e3 ⟨vs,z.e4⟩ z.e12 g.1 (qq G.opq g.2 nb) λtk=>
  ah (wpAny_letTemporaryGo (aS (Calls.spliced_nil (wpAny_newTuple (hQ _ _ (nx.tok tk) ((o.add (s':={s with heap:=_}) kp).tok tk) (x.junk hL (nx.stays o) λb ob e _=>kp.2 b ob e id) (hm.keeps λb ob e=>kp.2 b ob e id)
   ((iw rfl).mpr ⟨_,_,rfl,⟨_,dX _ rfl,rfl,_,rfl⟩,⟨mB o (cY _),_,dX _ rfl,rfl⟩,.cons ⟨_,rfl⟩ (.cons (g.2.nxt o (nx.tok tk)) .nil)⟩)))))))))))) (G.nodebug hd.x))
structure Rv(c:Cx)(X:Addr->Prop)(A:Around)(env:Env)(fr:Fr)(μ:Mu)(H:HT)(r:List (Nat×V))(s s':Shared)(m:Str->Option Value):Prop where
 nx:aK A env μ μ s s'
 ok:Ok c X A env fr μ ⟨H,r⟩ s'
 z:∀y v,au r y=some v->∃z,m (c.nm y)=some z/\ad c X μ s'.heap v z
theorem CN(G:bp c K)(o:Ok c X A env fr μ ⟨H,r⟩ s)(hr:∀y v,au r y=some v->y≠x){m:Str->Option Value}
 (hz:∀y v,au r y=some v->∃z,m (c.nm y)=some z/\ad c X μ s.heap v z)(hn:h'.Ns env.locals (λz=>if z=c.nm x then u else m z))(sb:Heap.SameBut env.locals s.heap h')(tk:Tok):
 Rv c X A env fr μ H r s {s with heap:=h',toks:=tk} (λz=>if z=c.nm x then u else m z):=
 have k:=hn.elim λod w=>w.elim λ_ w=>w.elim λ_ w=>aY.same sb w.1
 have nx:=aK.locs (s':={s with heap:=h'}) k rfl rfl
 have nT:=λy v hy=>(hz y v hy).imp λz q=>⟨(ax λe=>hr y v hy (G.inj _ _ e)).trans q.1,q.2⟩
 ⟨nx.tok _,(o.locs (s':={s with heap:=h'}) (r':=r) k ⟨_,hn,nT⟩).tok _,λy v hy=>(nT y v hy).imp λz q=>⟨q.1,q.2.nxt o (nx.tok tk)⟩⟩
theorem ZK(G:bp c K)(XA:tZ c)(eo:aJ c n A env fr){Q:Flow->Shared->Prop}(o:Ok c X A env fr μ σ s){hd:Hd}(rP:c.T.sub k d=some b)(nx:aK A env μ ao s s₁)(aC:Ok c X A env fr ao aM s₁)(x:cC c X ao s.heap k m v e s₁.heap)
 (h:ac c X A env fr (DF c X) μ s (E9 fr hd (sk hd.a m v) aM) Q E){R:Except Value Flow->Shared->Prop}
 (hR:∀y my,wpAny c.M A (do bindName env (c.nm hd.x) .none;unbindBehindTheSuite env (c.nm hd.x) (aE hd.ph)) (λ_ Dl=>Q (.ret y) Dl) E my->R (.ok (.ret y)) my):
 codeAny c.M (A.mark (some (.ref e))) (.handlers (.ref e) [.ExceptHandler none (some (c.nm hd.x)) [.Return (some (.Tuple [.Constant (.str (aW hd.tag)) 0 (aE hd.ps),.Attribute (.Name (c.nm hd.x) (aE hd.px)) (c.nm hd.a) (aE hd.pa)] 0 (aE hd.pt))) (aE hd.pr)] (aE hd.ph)] env) R s₁:=
 bB h λhx h=>bB h λha h=>bB h λnb h=>by
 have hA:(A.mark (some (.ref e))).frames=A.frames:=rfl
 have hk:=eo.k0 _ (L8 hx)
 have hp:(env.scope.kind== .class||(env.scope.kind== .module&&env.locals !=env.globals))=false:=by rw[eo.kfun];rfl
 have hL:=o.loc_mut.imp λ_ w=>w.1
 refine codeAny_handlers_suite_as (sQ (aC.under hA) x nx.keep.1 o.stays λaB bG bc k9 _=>?_)
 have bG:=bG.under (A':=A) hA.symm
 have bc:=bc.under (A':=A) hA.symm
 have Dm:Ok c X A env fr ao ⟨aM.H,aM.r.filter λq=> !Nat.beq q.1 hd.x⟩ aB:=bc.same_r λy v hy=>(LB _ _ _ _ hy).2
 have hr:∀y v,au (aM.r.filter λq=> !Nat.beq q.1 hd.x) y=some v->y≠hd.x:=λy v hy=>(LB _ _ _ _ hy).1
 refine Dm.ns.elim λm1 w=>wpAny_storeName_local hk w.1 (λcD M8 M9=>?_) hp
 have L3:=CN G Dm hr w.2 M8 M9 (aB.toks+1)
 refine S6 G XA eo rP hx ha nb L3.ok (k9.junk hL (L3.nx.stays Dm) λb ob e ne=>(M9.2 b ne).trans e) hL M8 (aG rfl) λy my Do vJ abX abY aaN=>hR y my ?_
 refine vJ.ns.elim λm4 w4=>ah (wpAny_bindName (wpAny_storeName_local hk w4.1 (λabZ Na aaO=>?_) hp))
 have L5:=CN G vJ hr w4.2 Na aaO (my.toks+1)
 refine wpAny_onRaise (wpAny_unbindName_local hk Na (aG rfl) hp λab0 u aaP aaQ=>?_)
 have L6:=CN G L5.ok hr L5.z aaP aaQ (my.toks+1)
 exact h.ok (y:=Flow.ret y) (nx.trans (bG.trans (L3.nx.trans (Do.trans (L5.nx.trans L6.nx))))) L6.ok ((ad.nxt aaN vJ L5.nx).nxt L5.ok L6.nx)
theorem Bh(h:vV v=some i):v=.cls i:=by cases v<;>first|exact ns h|exact aq V.cls (af h)
theorem Om(G:bp c K)(SO:Aa c)(XA:tZ c)(eo:aJ c n A env fr){Q:Flow->Shared->Prop}(o:Ok c X A env fr μ σ s)(nx:aK A env μ ao s s₁)(aC:Ok c X A env fr ao aM s₁)(x:cC c X ao s.heap k m v e s₁.heap)(ht:jT s₁.heap e)(hs:List Hd):
 ac c X A env fr (DF c X) μ s (xW c.T fr k m v hs aM) Q E->wpAny c.M A (handleBy (.ref e) env (hs.map (Ei c.nm))) Q E s₁:=by
 induction hs with
 |nil=>exact λh=>JP aC x nx.keep.1 o.stays ht λs' n' o' x'=>(h) ao s' e (nx.trans n') o' x'
 |cons hd r bP=>
  intro h
  refine bk h λw hg h=>bk h λd j9 h=>bk h λb rP h=>wpAny_handleBy_cons (codeAny_handlers_test (BK G eo aC (xC hg).1 (xC hg).2 λy ry=>?_)) (λq=>nomatch q)
  have ry:=(Bh j9▸ry:ad c X ao s₁.heap (.cls d) y)
  subst ry
  refine x.ex.elim λoe z=>z.elim λvs z=>z.elim λdx z=>z.elim λms z=>z.elim λtb z=>SO k d b rP _ _ s₁ e oe _ aC.stays z.e1 z.e2 ?_
  cases b with
  |false=>exact bP h
  |true=>exact ZK G XA eo o rP nx aC x h λy my q=>q
theorem FG(G:bp c K)(SO:Aa c)(XA:tZ c):x3 c:=by
 intro n ih vD X A env fr μ σ s b hs p Q E eo o h
 cases hs with
 |nil=>exact h.elim
 |cons hd r=>
  have h:ac c X A env fr (DF c X) μ s (R.rec (λf s=>.ok f s) (λk m v s=>xW c.T fr k m v (hd::r) s) .stuck (Mine.execs ih fr b σ)) Q E:=h
  refine wpAny_Try_except (om vD eo b o ?_)
  cases hr:Mine.execs ih fr b σ with
  |stuck=>rw[hr] at h;exact h.elim
  |ok f aM=>
   rw[hr] at h
   refine λao s₁ y nx aC bj=>?_
   have q:=(h).ok nx aC bj
   cases y with
   |next=>exact wpAny_execs_nil q
   |ret y=>exact q
   |_=>cases f<;>exact bj.elim
  |exc k m v aM=>
   rw[hr] at h
   exact λao s₁ e nx aC x=>Ca eo aC x nx.keep.1 o.stays λaB bG bc k9 aaR=>sQ bc k9 (nx.trans bG).keep.1 o.stays λdq lc hJ aaS aaT=>Om G SO XA eo o (nx.trans (bG.trans lc)) hJ aaS (aaT aaR) (hd::r) h
end
structure nL(c:Cx)(K:Frag):Prop where
 keep:∀k d b,c.T.sub k d=some b->keepIn K (.ref (c.clA k))=true
 cls:∀k d b,c.T.sub k d=some b->∃oc cd,c.base.get? (c.clA d)=some oc/\oc.data=.cls cd
 sub:∀k d b,c.T.sub k d=some b->mroIn K (c.clA d) (.type "BaseException")=some true/\mroIn K (c.clA k) (.type "BaseException")=some true/\typeIn K (.ref (c.clA d))=some (.type "type")/\mroIn K (c.clA k) (.ref (c.clA d))=some b
 attr:∀k d b,c.T.sub k d=some b->∀a,a<=1->findIn K (.ref (c.clA k)) "__getattribute__" =some (some (.builtin "BaseException.__getattribute__"))/\findIn K (.ref (c.clA k)) "__getattr__" =some none/\hasDictIn K (c.clA k)=true/\∃at_,findIn K (.ref (c.clA k)) (c.nm a)=some at_/\noGet K at_=true
section
variable{c:Cx}{K:Frag}{A:Around}{E:Value->Shared->Prop}{s:Shared}
theorem Hk(G:bp c K)(XK:nL c K):Aa c:=by
 intro k d b hs A E s e oe Q stays he hc q
 have X:=G.kin.keeps λb ob e=>stays b ob e
 obtain⟨m1,m0,t1,m2⟩:=XK.sub k d b hs
 have L1:=looks_typeIn (M:=c.M) X t1
 have L2:=looks_mroIn (M:=c.M) X m1
 have L3:=looks_mroIn (M:=c.M) X m2
 have k0:∀b o,s.heap.get? b=some o->s.heap.get? b=some o:=λ_ _ h=>h
 unfold excMatches isInstance
 refine ah (ah (L1 A _ E s k0 ?_))
 refine wpAny_of_eq tc_notTuple ?_
 rw[ax (by decide)]
 refine ah (aS ?_)
 dsimp only
 obtain⟨oc,cd,ec,dc⟩:=XK.cls k d b hs
 have ec:=stays _ _ ec
 have E1:∀(Q:Bool->Shared->Prop),Q true s->wpAny c.M A (isExcClass (.ref (c.clA d))) Q E s:=λQ q=>by
  unfold isExcClass isType
  refine ah (ah (wpAny_loadPart ec ?_))
  rw[dc]
  refine aS ?_
  rw[aG rfl]
  exact L2 A _ E s k0 q
 simp only[List.forIn_cons,List.forIn_nil]
 refine ah (ah (ah (E1 _ ?_)))
 refine aS ?_
 refine aS ?_
 have T1:∀(Q:Value->Shared->Prop),Q (.ref (c.clA k)) s->wpAny c.M A (typeOf (.ref e)) Q E s:=λQ q=>by
  unfold typeOf
  refine ah (wpAny_loadPart he ?_)
  rw[hc];exact aS q
 refine ah (T1 _ ?_)
 refine ah (ah (ah (L3 A _ E s k0 ?_)))
 cases b with
 |true=>exact aS (aS (aS q))
 |false=>exact aS (aS (aS q))
theorem FK(G:bp c K)(XK:nL c K):tZ c:=by
 intro k d b hs a ha A E s e oe dx ms y Q ex stays he hc hd ⟨vs,dv⟩ ns hy hh q
 have X:=G.kin.keeps λb ob e=>stays b ob e
 obtain⟨g1,g2,g3,at1,g4,g5⟩:=XK.attr k d b hs a ha
 obtain⟨_,m0,_,_⟩:=XK.sub k d b hs
 obtain⟨od,d1,d2⟩:=rY ns (c.nm a)
 rw[hy] at d2
 have I:InstAt s.heap e oe (c.clA k) (some od):=⟨he,hc,by unfold notCls;rw[dv],by rw[hd];exact d1⟩
 have hf:=findObj_own g3 g4 g5 d2
 have L0:=I.type (M:=c.M)
 have L1:=looks_findIn (M:=c.M) X g1
 have L2:=looks_findIn (M:=c.M) X g2
 have L3:=looks_mroIn (M:=c.M) X m0
 have L4:=looks_find (M:=c.M) X I hf
 obtain⟨yN,g,dr,t,os⟩:=s
 have k0:∀b o,yN.get? b=some o->yN.get? b=some o:=λ_ _ h=>h
 unfold getAttr getAttrBy
 refine ah (wpAny_mkText (d9 (ah (L0.at (ah (L1.at ?_))))))
 have C0:(onTheHeap (Value.ref (c.clA k))&&Value.builtin "BaseException.__getattribute__" ==Value.builtin "object.__getattribute__")=false:=by
  rw[show(Value.builtin "BaseException.__getattribute__" ==Value.builtin "object.__getattribute__")=false from by decide+kernel];rfl
 dsimp only
 rw[C0,ax (by decide)]
 unfold getAttrByItsOwn hookBefore
 rw[aG (show onTheHeap (Value.ref (c.clA k))=true from rfl)]
 refine ah (L2.at ?_)
 refine ah (wpAny_attempt (d9 ?_))
 have hx0:(ex&&onTheHeap (Value.builtin "BaseException.__getattribute__"))=false:=by cases ex<;>rfl
 unfold callGetattribute boundAndCalled
 rw[hx0,ax (by decide)]
 refine ah (wpAny_of_eq (PySem.F.attr_Exception.ga.bind (.ref e)) ?_)
 refine wpAny_call (codeAny_call_builtin PySem.F.attr_Exception.ga.plain PySem.F.entry_bexc_ga ?_)
 have hk:builtinKind "BaseException.__getattribute__" =some .slot:=by decide+kernel
 have aaV:splitId "BaseException.__getattribute__" =some ("BaseException","__getattribute__"):=by decide+kernel
 have ab1:=PySem.F.args_bexc_ga (.ref e) (.str (c.nm a) t)
 have jy:∀{A':Around} {E':Value->Shared->Prop} {Q':Unit->Shared->Prop},Q' () ⟨yN,g,dr,t+1,os⟩->wpAny c.M A' (checkBuiltinCall "BaseException.__getattribute__" ⟨[.ref e,.str (c.nm a) t],[]⟩) Q' E' ⟨yN,g,dr,t+1,os⟩:=λq'=>by
  simp only[checkBuiltinCall,hk,aaV]
  refine ah ?_
  unfold isInstance
  refine ah (L0.at (L3.at ?_))
  repeat (first|wp_step)
  exact q'
 refine jy ?_
 refine ah (aS (ah (aS (ah (L0.at (ah (L4.at ?_)))))))
 refine aS ?_
 show wpAny _ _ (handedOut y) _ _ _
 rw[handedOut_of hh];exact aS (q _)
end
structure E5(c:Cx)(X:Addr->Prop)(μ:Mu)(lo:Heap)(k:Nat)(m v:V)(e:Addr)(h:Heap):Prop where
 ex:cC c X μ lo k m v e h
 nw:∃oe vs,h.get? e=some oe/\oe.data=.fields vs/\vs[1]?=some .none
def LF(c:Cx):Prop:=∀k,c.T.sub k k=some true->∀n X A env fr μ σ s (m v:V) x y (Q:Value->Shared->Prop) E,aJ c n A env fr->Ok c X A env fr μ σ s->ad c X μ s.heap m x->ad c X μ s.heap v y->
 (∀s' e,aK A env μ μ s s'->Ok c X A env fr μ σ s'->E5 c X μ s.heap k m v e s'.heap->Q (.ref e) s')->lY c A (.ref (c.clA k)) [x,y] Q E s
section
variable{c:Cx}{X X':Addr->Prop}{A A' B:Around}{env env' dw:Env}{fr cW mv:Fr}{μ mw ao a9 be gi av:Mu}{σ aM σ₂ eN ba:Sg}{s lh s₁ aB sb dQ s':Shared}{E:Value->Shared->Prop}{n:Nat}{K:Frag}{ih:Ev}
theorem GP{α β:Type}{P:α->β->Prop}{a b:α}{l:List β}(x:ay P [a,b] l):∃x y,l=[x,y]/\P a x/\P b y:=by
 cases x with|cons h1 r=>cases r with|cons h2 r=>cases r with|nil=>exact⟨_,_,rfl,h1,h2⟩
theorem QU{α β:Type}{D:Mu->Heap->α->β->Prop}{vs:List V}{f:V->V->R α}{Q:β->Shared->Prop}{G:Prop}(h:ac c X A env fr D μ s (two vs f) Q E)(k:∀v w,vs=[v,w]->ac c X A env fr D μ s (f v w) Q E->G):G:=by
 match vs,h with
 |[v,w],h=>exact k v w rfl h
 |[],h=>exact h.elim
 |[_],h=>exact h.elim
 |_::_::_::_,h=>exact h.elim
theorem V6{m:Sem Value}{Q:Flow->Shared->Prop}(h:wpAny c.M A m (λv s=>wpAny c.M A (raiseStmt env (some (pure v)) none) Q E s) E s):wpAny c.M A (raiseStmt env (some m) none) Q E s:=
 ah (wpAny_mono h (λv s h=>h) λ_ _ e=>e)
theorem Sx(G:bp c K)(XK:nL c K){j:Nat}{b:Bool}(hs:c.T.sub j j=some b)(hh:A.handled=none){lo:Heap}(o:Ok c X A env fr μ σ s)(x:E5 c X μ lo j m v e s.heap){Q:Flow->Shared->Prop}(h:E (.ref e) s):
 wpAny c.M A (raiseStmt env (some (pure (.ref e))) none) Q E s:=
 x.ex.ex.elim λoe z=>z.elim λfs z=>z.elim λdx z=>z.elim λms z=>z.elim λtb z=>x.nw.elim λoe' y=>y.elim λvs' y=>by
 have hd:=Data.fields.inj (z.e4.symm.trans (bz y.1 z.e1▸y.2.1))
 have hn:=y.2.2
 subst hd
 have L3:=looks_mroIn (M:=c.M) (o.kin G) (XK.sub j j b hs).2.1
 have t1:=looks_typeIn (M:=c.M) (o.kin G) (XK.sub j j b hs).2.2.1
 have T1:∀(Q:Value->Shared->Prop),Q (.ref (c.clA j)) s->wpAny c.M A (typeOf (.ref e)) Q E s:=λQ q=>ah (wpAny_loadPart z.e1 (z.e2.symm▸aS q))
 have T2:∀(Q:Bool->Shared->Prop),Q false s->wpAny c.M A (isType (.ref e)) Q E s:=λQ q=>ah (wpAny_loadPart z.e1 (z.e4.symm▸aS q))
 unfold raiseStmt
 refine ah (aS (ah (aS (ah (d9 ?_)))))
 unfold excFromValue isExcClass
 refine ah (ah (T2 _ ?_))
 rw[ax (by decide)]
 refine aS ?_
 rw[ax (by decide)]
 unfold isInstance
 refine ah (ah (T1 _ (L3.here ?_)))
 rw[aG rfl]
 refine aS ?_
 dsimp only
 refine ah (T2 _ ?_)
 rw[ax (by decide)]
 unfold raisedInstance
 refine ah (ah (T1 _ (ah (t1.here ?_))))
 rw[aG (by rfl)]
 refine aS ?_
 unfold setFlight
 refine ah (ah (wpAny_field z.e1 z.e4 hn ?_))
 rw[ax (by decide)]
 exact aS (wpAny_raiseNew_none hh h)
theorem KZ(G:bp c K)(XK:nL c K)(MK:LF c):wv c:=λn ih S X A env fr μ σ s k es pn pc p Q E eo o h=>
 bk h λw hg h=>bk h λj hj h=>bk h λb hs h=>bB h λhb h=>by
  subst hb
  show wpAny c.M A (exec (.Raise (some (.Call (.Name (c.nm k) (aE pn)) (bC c.nm es) [] (aE pc))) none (aE p)) env) Q E s
  rw[arm_exec_Raise]
  refine ah (fZ ?_)
  refine V6 (ah (Call_ (Kj G eo o hg λy ry=>?_) rfl))
  have ry:=(Bh hj▸ry:ad c X μ s.heap (.cls j) y)
  subst ry
  refine tL S eo o (ac.bind (D':=DL c X) h λvs aM ao ys s₁ n₁ aC bj h₁=>⟨keeps_K (XK.keep j j true hs) _ (aC.kin G),QU h₁ λm v e h₁=>?_⟩)
  subst e
  refine(GP bj).elim λx q=>q.elim λy q=>?_
  rw[q.1]
  exact ul (MK j hs n X A env fr ao aM s₁ m v x y _ E eo aC q.2.1 q.2.2 λaB e bG bc k9=>ah (fZ (aS (Sx G XK hs eo.handled bc k9 ((h₁) ao aB e bG bc k9.ex)))))
end
end
section
open PySem PySem.W
section
variable{prog:Program}{w:World}{A:Around}{R:Result->Shared->Prop}{E:Value->Shared->Prop}{h:Heap}{g:Array GenState}{d:Drawn}{t:Nat}{os:OsState}
variable{nm q:Str}{C N:Addr}{bs bm Dp:List Value}{hdct:Bool}{sn:List Str}{sub:List Value}{ab:Bool}{col:Option Bool}{dd:Option Addr}{k0 k1 k2 k3 k5:Option Value}{B newId initId:String}
theorem Zz(F:ExcBaseFacts B newId initId Dp)(c1:bm.contains (.type B)=true){Q:Unit->Shared->Prop}(hC:h.get? C=some (excClassObj nm q C N bs bm hdct sn sub ab col dd k0 k1 k2 k3 k5 newId))
 (hq:Q () ⟨h,g,d,t,os⟩):wpAny M A (checkBuiltinCall newId ⟨.ref C::rest,[]⟩) Q E ⟨h,g,d,t,os⟩:=by
 have aaW:(Value.ref C::bm).contains (.type B)=true:=by rw[List.contains_cons,c1,Bool.or_true]
 have ab2:=F.noStar
 simp only[checkBuiltinCall,F.newKind,F.newSplit,F.newRow]
 repeat (first|refine wpAny_loadPart_at hC ?_|(refine wpAny_isSubtype_exc hC ?_;rw[aaW])|refine wpAny_staticBase_exc hC ?_|refine wpAny_madeBy_exc hC ?_|simp only[bne_self_eq_false,Bool.false_eq_true,if_false]|wp_step)
 exact hq
theorem P0(F:ExcBaseFacts B newId initId Dp)(c1:bm.contains (.type B)=true)(c2:bm.contains (.type "AttributeError")=false)(c3:bm.contains (.type "NameError")=false)(hC:h.get? C=some (excClassObj nm q C N bs bm hdct sn sub ab col dd k0 k1 k2 k3 k5 newId))
 (hq:R (.ok (.ret (.ref (h.objs.size+1)))) ⟨(h.push {cls:=.type "tuple",data:=.seq rest.toArray}).push
  {cls:=.ref C,data:=.fields #[.ref h.objs.size,.none,.none,.none,.bool false,.none]},g,d,t,os⟩)(Nb:rest.length<=sizeLine:=by size_fits):
 codeAny (model prog w) A (.builtin newId ⟨.ref C::rest,[]⟩) R ⟨h,g,d,t,os⟩:=by
 have ab3:=F.ends
 have hcB:(Value.ref C::bm).contains (.type B)=true:=by rw[List.contains_cons,c1,Bool.or_true]
 have hcA:(Value.ref C::bm).contains (.type "AttributeError")=false:=by rw[List.contains_cons,c2];rfl
 have hcN:(Value.ref C::bm).contains (.type "NameError")=false:=by rw[List.contains_cons,c3];rfl
 refine codeAny_builtinAt F.entry ?_
 unfold Builtin.«BaseException.__new__»
 refine wpAt_bind ?_
 refine wpAt_bind (wpAt_stack λp below=>wpAt_of_wpAny ?_)
 wp_walk
 refine wpAt_of_wpAny ?_
 rw[F.owner]
 repeat (first|with_reducible refine wpAny_madeHere_exc F.canon hC ?_|with_reducible refine wpAny_loadPart_at hC ?_|(with_reducible refine wpAny_isSubtype_exc hC ?_;first|rw[hcB]|rw[hcA]|rw[hcN])|wp_step)
 rw[Heap.size_push]
 exact hq
theorem WS(F:ExcBaseFacts B newId initId Dp)(c1:bm.contains (.type B)=true)(c2:bm.contains (.type "AttributeError")=false)(c3:bm.contains (.type "NameError")=false)(hC:h.get? C=some (excClassObj nm q C N bs bm hdct sn sub ab col dd k0 k1 k2 k3 k5 newId))
 (hi:Looks (model prog w) h (typeLookup (.ref C) "__init__") (some (.ref fI)))(hb:∀self,Looks (model prog w) h (bindSpecial (.ref fI) self) (.ref fI,[self]))
 (hq:codeAny (model prog w) (A.under (.builtin "type.__call__" ⟨.ref C::rest,[]⟩)) (.call (.ref fI) ⟨.ref (h.objs.size+1)::rest,[]⟩) (InitBack (h.objs.size+1) R)
  ⟨(h.push {cls:=.type "tuple",data:=.seq rest.toArray}).push {cls:=.ref C,data:=.fields #[.ref h.objs.size,.none,.none,.none,.bool false,.none]},g,d,t,os⟩)(Nb:rest.length<=sizeLine:=by size_fits):
 codeAny (model prog w) A (.call (.ref C) ⟨rest,[]⟩) R ⟨h,g,d,t,os⟩:=by
 have f1:=tc_lookup
 have f2:=PySem.tc_bind (.ref C)
 have hT:(⟨h,g,d,t,os⟩:Shared).TypeIs (.ref C) "type" :=⟨_,hC,rfl⟩
 refine codeAny_of_tree ?_
 repeat (any_goals (first|assumption|with_reducible refine wpAny_loadPart_at hC ?_|wp_step))
 refine⟨rfl,?_⟩
 refine codeAny_call_builtin_at (Code.quiet_builtin _ (by decide+kernel)) entry_typeCall (wpAny_check_type_call_sub hC ?_)
 repeat (first|with_reducible refine wpAny_loadPart_at hC ?_|with_reducible refine wpAny_madeBy_exc hC ?_|wp_step)
 refine codeAny_call_builtin_code (Code.quiet_builtin _ F.quiet) (Zz F c1 hC ?_)
 refine P0 F c1 c2 c3 hC ?_ Nb
 have aa0:=d7 {cls:=.ref C,data:=.fields #[.ref h.objs.size,.none,.none,.none,.bool false,.none]}
  (d7 {cls:=.type "tuple",data:=.seq rest.toArray} hC)
 have aj:((h.push {cls:=.type "tuple",data:=.seq rest.toArray}).push
  {cls:=.ref C,data:=.fields #[.ref h.objs.size,.none,.none,.none,.bool false,.none]}).get? (h.objs.size+1)=some
  {cls:=.ref C,data:=.fields #[.ref h.objs.size,.none,.none,.none,.bool false,.none]}:=by heap_get
 have hcC:(Value.ref C::bm).contains (.ref C)=true:=by simp
 have k:∀b o,h.get? b=some o->((h.push {cls:=.type "tuple",data:=.seq rest.toArray}).push {cls:=.ref C,data:=.fields #[.ref h.objs.size,.none,.none,.none,.bool false,.none]}).get? b=some o:=λb o e=>d7 _ (d7 _ e)
 have i1:=hi.keeps k
 have b1:=(hb (.ref (h.objs.size+1))).keeps k
 have t1:Looks (model prog w) ((h.push {cls:=.type "tuple",data:=.seq rest.toArray}).push {cls:=.ref C,data:=.fields #[.ref h.objs.size,.none,.none,.none,.bool false,.none]}) (typeOf (.ref (h.objs.size+1))) (.ref C):=(Looks.ld aj).andThen .now
 unfold isInstance
 repeat (first|with_reducible refine wpAny_loadPart_at aj ?_|wp_step)
 refine wpAny_isSubtype_exc aa0 ?_
 rw[hcC]
 rw[ax (by decide)]
 unfold callSpecial? specialOf
 refine ah (d9 (ah (ah (t1.at (i1.at ?_)))))
 refine d9 (ah (b1.at (ah (wpAny_call ?_))))
 refine codeAny_mono hq λr s' z=>?_
 rcases r with e|(v|_|_|_)<;>first|exact z|exact z.elim|skip
 obtain⟨rfl,z⟩:=z
 exact aS (aS z)
end
end
section
open PySem PySem.W PyProof.Rows
section
variable{prog:Program}{w:World}{K:Frag}{A:Around}{E:Value->Shared->Prop}{s:Shared}{C e:Addr}{name:Str}{v:Value}{ob:Obj}{vs:Array Value}{Q:Unit->Shared->Prop}
def B4:List Value->Bool
 |.ref _::r=>B4 r
 |[.type a,.type b,.type d]=>a== "Exception" &&b== "BaseException" &&d== "object"
 |_=>false
theorem Pk(self:Value):refuseLoop self "__setattr__" [.type "Exception",.type "BaseException",.type "object"]=pure ():=by kernel_rfl
theorem WL:B4 l=true->l.contains (.type "object")=true/\∀self,refuseLoop self "__setattr__" l=pure ():=by
 induction l with
 |nil=>exact λh=>ft h
 |cons x r ih=>
  cases x with
  |ref a=>exact λh=>⟨by rw[List.contains_cons,(ih h).1,Bool.or_true],λself=>(refuseLoop_ref self _ a r).trans ((ih h).2 self)⟩
  |type a=>
   intro h
   cases r with
   |nil=>exact ft h
   |cons b r=>cases b with
    |type b=>cases r with
     |nil=>exact ft h
     |cons d r=>cases d with
      |type d=>cases r with
       |nil=>
        have h:=Bool.and_eq_true_iff.mp h
        have h1:=Bool.and_eq_true_iff.mp h.1
        rw[beq_iff_eq.mp h1.1,beq_iff_eq.mp h1.2,beq_iff_eq.mp h.2]
        exact⟨by simp[List.contains_cons],Pk⟩
       |cons=>exact ft h
      |_=>exact ft h
    |_=>exact ft h
  |_=>exact λh=>ft h
def wY(K:Frag)(C:Addr):Bool:=(clsIn K C).any λcd=>B4 cd.mro
theorem F9{R:Result->Shared->Prop}(X:K.In s.heap)(I:InstAt s.heap x ox C od)(hp:wY K C=true)(ht:takerIn K C name=some none)
 (h:∀b,wpAny (model prog w) A.in1 (Builtin.ObjectAttr.storeInOwnDict (.ref x) (.ref C) (.str name tk) name v b)
  (λeV s'=>match eV with|.done f=>R (.ok f) s'|.again c'=>c'.quiet=true/\codeAny (model prog w) A c' R s') (λe s'=>R (.error e) s') s):
 codeAny (model prog w) A (.call (.builtin "object.__setattr__") ⟨[.ref x,.str name tk,v],[]⟩) R s:=by
 obtain⟨cd,hc,ho⟩:=any_some hp
 obtain⟨aa2,aa3⟩:=WL ho
 have ne:¬cd.mro.isEmpty=true:=λq=>by rw[List.isEmpty_iff.mp q] at ho;exact ft ho
 have over:mroIn K C (.type "object")=some true:=by unfold mroIn;rw[hc,Option.bind_some,ax ne,aa2]
 have F:=PySem.F.store_object
 refine codeAny_call_builtin F.slot.plain F.entry (@check_slot (model prog w) _ _ s "object.__setattr__" "object" "__setattr__" (.ref x) [.str name tk,v] [] _ F.kind F.split (I.type.andThen (looks_mroIn X over)) (F.args (.ref x) (.str name tk) v) ?_)
 obtain⟨attr,ha,hr⟩:=Option.bind_eq_some_iff.mp ht
 have taker:Looks (model prog w) s.heap (Builtin.ObjectAttr.storeTaker? attr) none:=by
  cases attr with
  |none=>exact .now
  |some a=>
   obtain⟨b,hb,nX⟩:=Option.map_eq_some_iff.mp hr
   cases b with
   |true=>exact sn nX
   |false=>exact(looks_takesIn X hb).andThen .now
 rw[osa_eq,refuse_eq]
 refine ah (ah (I.type.here (ah (((looks_clsIn X hc).andThen .now:Looks (model prog w) s.heap (mroOf (.ref C)) cd.mro).here ?_))))
 rw[aa3]
 exact aS (ah (I.type.here (ah ((looks_findIn X ha).here (ah (taker.here (h _)))))))
structure oE(K:Frag)(C:Addr)(name:Str):Prop where
 s:findIn K (.ref C) "__setattr__" =some (some (.builtin "object.__setattr__"))
 o:wY K C=true
 t:takerIn K C name=some none
 d:hasDictIn K C=true
theorem Zf(X:K.In s.heap)(F:oE K C name)(he:s.heap.get? e=some ob)(hc:ob.cls=.ref C)(hv:ob.data=.fields vs)(hd:ob.dict=none)
 (h:∀h' tk,h'.get? e=some {ob with dict:=some s.heap.objs.size}->h'.Ns1 s.heap.objs.size (λx=>if x=name then some v else none)->(∀b o,b≠e->s.heap.get? b=some o->h'.get? b=some o)->Q () {s with heap:=h',toks:=tk}):
 wpAny (model prog w) A (setAttr (.ref e) name v) Q E s:=by
 have I:InstAt s.heap e ob C none:=⟨he,hc,by unfold notCls;rw[hv],by rw[hd];trivial⟩
 obtain⟨cd,pY,j9⟩:=any_some F.d
 have k0:∀b o,s.heap.get? b=some o->s.heap.get? b=some o:=λ_ _ h=>h
 refine set_plain X I F.s (F9 (s:={s with toks:=s.toks+1}) X I F.o F.t λb=>?_)
 refine ah (aS (ah ?_))
 show wpAny _ _ (instanceDict e true) _ _ _
 unfold instanceDict
 refine ah (wpAny_loadPart he ?_)
 rw[hc]
 refine ah (looks_clsIn X pY _ _ _ _ k0 ?_)
 rw[j9,hd,ax (by decide)]
 dsimp only
 rw[ax (λq=>by(first|with_reducible exact ns q|with_reducible exact sn q|with_reducible exact ft q|with_reducible exact tf q|(replace q:=af q;first|subst q|cases q)|cases q)),hv]
 dsimp only
 have Nc:=d7 (h:=s.heap) {cls:=.type "dict",data:=.dict #[]} he
 refine ah (wpAny_alloc ?_)
 have he2:=Heap.get?_update_self (λo=>{o with dict:=some s.heap.objs.size}) Nc (by unfold Obj.isFreed;rw[hv])
 refine ah (wpAny_update Nc ?_)
 refine ah (aS (aS ?_))
 dsimp only
 have iA:=Nat.ne_of_lt (Heap.lt_size he)
 have hD:((s.heap.push {cls:=.type "dict",data:=.dict #[]}).update e λo=>{o with dict:=some s.heap.objs.size}).get? s.heap.objs.size=some {cls:=.type "dict",data:=.dict #[]}:=
  (Heap.get?_update_other _ _ iA).trans (dX _ rfl)
 have n0:((s.heap.push {cls:=.type "dict",data:=.dict #[]}).update e λo=>{o with dict:=some s.heap.objs.size}).Ns1 s.heap.objs.size λ_=>none:=
  Heap.Ns1.of_empty ⟨_,_,_,hD,rfl,(λe he=>by simp at he),λ_=>rfl⟩
 refine ah (aS (ah (wpAny_nsSet1 n0 λh' bI sb=>?_)))
 obtain⟨oe,es,ep,e1,dd,hs⟩:=Af (l:=[name]) bI λnn w hw=>by
  by_cases q:nn=name
  · exact q▸.head _
  · (first|with_reducible exact cg hw (ax q)|with_reducible exact cg (ax q) hw|(replace hw:=bz (ax q) hw;first|subst hw|cases hw)|(rw[ax q] at hw;(first|with_reducible exact ns hw|with_reducible exact sn hw|with_reducible exact ft hw|with_reducible exact tf hw|(replace hw:=af hw;first|subst hw|cases hw)))|cases hw)
 refine ah (wpAny_lookBehind e1 (by rw[dd];exact pastItsLine_dict (by rw[sizeLine_eq];exact fe hs (show 1<=16777216+1 by decide))) (aS ?_))
 refine h h' _ ((sb.2 e iA).trans he2) bI λb o nb eb=>?_
 have lb:=Heap.lt_size eb
 exact(sb.2 b (Nat.ne_of_lt lb)).trans ((Heap.get?_update_other _ _ nb.symm).trans (d7 _ eb))
theorem Yi(X:K.In s.heap)(F:oE K C name)(he:s.heap.get? e=some ob)(hc:ob.cls=.ref C)(hv:ob.data=.fields vs)(hd:ob.dict=some D)(hn:s.heap.Ns1 D m){l:List Str}(hl:∀n y,m n=some y->n∈l)(hlen:l.length<=100)
 (h:∀h' tk,h'.Ns1 D (λx=>if x=name then some v else m x)->Heap.SameBut D s.heap h'->Q () {s with heap:=h',toks:=tk}):
 wpAny (model prog w) A (setAttr (.ref e) name v) Q E s:=by
 obtain⟨od,d1,_⟩:=rY hn.ns name
 have I:InstAt s.heap e ob C (some od):=⟨he,hc,by unfold notCls;rw[hv],by rw[hd];exact d1⟩
 obtain⟨cd,pY,j9⟩:=any_some F.d
 have k0:∀b o,s.heap.get? b=some o->s.heap.get? b=some o:=λ_ _ h=>h
 refine set_plain X I F.s (F9 (s:={s with toks:=s.toks+1}) X I F.o F.t λb=>?_)
 refine ah (aS (ah ?_))
 show wpAny _ _ (instanceDict e true) _ _ _
 unfold instanceDict
 refine ah (wpAny_loadPart he ?_)
 rw[hc]
 refine ah (looks_clsIn X pY _ _ _ _ k0 ?_)
 rw[j9,hd,ax (by decide)]
 dsimp only
 refine aS ?_
 refine ah (aS (ah (wpAny_nsSet1 hn λh' bI sb=>?_)))
 obtain⟨oe,es,ep,e1,dd,hs⟩:=Af (l:=name::l) bI λnn w hw=>by
  by_cases q:nn=name
  · exact q▸.head _
  · rw[ax q] at hw;exact .tail _ (hl nn w hw)
 refine ah (wpAny_lookBehind e1 (by rw[dd];exact pastItsLine_dict (by rw[sizeLine_eq];rw[List.length_cons] at hs;omega)) (aS ?_))
 exact h h' _ bI sb
end
theorem Qh{E:Value->Shared->Prop}{K:Frag}{Q:Value×List Value->Shared->Prop}(X:K.In s.heap)(ht:typeOf (.type T)=pure (.type "type"))(hs:Manifest.isStub T=false)
 (e:findCls K (.type T) (.type "type") name=some (.val v))(hh:handedIn v=true)(h:Q (v,[]) {s with toks:=s.toks+1}):wpAny (model prog w) A (getMethod (.type T) name pl) Q E s:=by
 have aa5:opaqueClassAbove (.type T)=pure none:=by unfold opaqueClassAbove;dsimp only;rw[hs];rfl
 have L0:Looks (model prog w) s.heap (typeOf (.type T)) (.type "type"):=Looks.of_pure ht
 have hg:findIn K (.type "type") "__getattribute__" =some (some (.builtin "type.__getattribute__")):=type_tga
 unfold getMethod specialOf
 refine ah (ah (L0.here ((looks_findIn X hg).here ?_)))
 dsimp only
 rw[aG canon_tga]
 refine ah (wpAny_mono (Q:=λv=>Q (v,[])) (E:=E) ?_ (λ_ _ z=>aS z) λ_ _ z=>z)
 have LO:Looks (model prog w) s.heap (opaqueClassAbove (.type T)) none:=Looks.of_pure aa5
 refine cls_open X LO L0 hg (looks_hook X (r:=none) (by rfl)) (by rfl) e
  (aS (by show wpAny _ _ (handedOut v) _ _ _;rw[handedOut_of hh];exact aS h))
theorem Qo:findCls [] (.type "Exception") (.type "type") "__init__" =some (.val (.builtin "Exception.__init__")):=by kernel_rfl
theorem Ua:typeOf (.type "Exception")=pure (.type "type"):=by kernel_rfl
section
variable{prog:Program}{w:World}{A:Around}{E:Value->Shared->Prop}{s:Shared}{K:Frag}{C e:Addr}{x:Value}{t0:Addr}{Q:Value->Shared->Prop}
theorem ZA(hC:s.heap.get? C=some oc)(dC:oc.data=.cls cd)(X:K.In s.heap)(hb:mroIn K C (.type "Exception")=some true)(he:s.heap.get? e=some {cls:=.ref C,data:=.fields #[.ref t0,.none,.none,.none,.bool false,.none]})
 (h:∀h',h'.get? e=some {cls:=.ref C,data:=.fields #[.ref s.heap.objs.size,.none,.none,.none,.bool false,.none]}->(∀b o,b≠e->s.heap.get? b=some o->h'.get? b=some o)->Q .none {s with heap:=h'}):
 wpAny (model prog w) A (PySem.call (.builtin "Exception.__init__") [.ref e,x]) Q E s:=by
 have F:=PySem.F.excBase_Exception
 have T1:Looks (model prog w) s.heap (typeOf (.ref e)) (.ref C):=(Looks.ld he).andThen .now
 have L1:=looks_mroIn (M:=model prog w) X hb
 have hlt:=Heap.lt_size he
 have jy:∀{A':Around} {E':Value->Shared->Prop} {Q':Unit->Shared->Prop},Q' () s->wpAny (model prog w) A' (checkBuiltinCall "Exception.__init__" ⟨[.ref e,x],[]⟩) Q' E' s:=λq'=>by
  simp only[checkBuiltinCall,F.initKind,F.initSplit,F.initRow]
  unfold isInstance
  refine ah (ah (T1.here (L1.here ?_)))
  rw[ax (by decide)]
  have ab4:=F.noStar
  obtain⟨hp,g,d,tk,os⟩:=s
  repeat (first|(with_reducible refine wpAny_load (s:=⟨hp,g,d,tk,os⟩) hC ?_;rw[dC])|wp_step)
  exact q'
 refine wpAny_call (codeAny_call_builtin F.init.plain F.initEntry (jy ?_))
 unfold Builtin.«BaseException.__init__»
 dsimp only
 rw[ax (by simp)]
 unfold newTuple Builtin.BaseException.bexcPut
 have rM:=d7 (h:=s.heap) {cls:=.type "tuple",data:=.seq [x].toArray} he
 refine ah (wpAny_newObj_type (ah (ah (wpAny_field rM rfl (x:=.ref t0) rfl (ah (wpAny_setField rM rfl (Nat.succ_pos _) ?_))))) (by size_fits))
 refine wpAny_letGo (aS ?_)
 have e1:((s.heap.push {cls:=.type "tuple",data:=.seq [x].toArray}).update e (Obj.mapFields (·.setIfInBounds 0 (.ref s.heap.objs.size)))).get? e=some {cls:=.ref C,data:=.fields #[.ref s.heap.objs.size,.none,.none,.none,.bool false,.none]}:=by
  rw[Heap.get?_update_self _ rM rfl];rfl
 refine h _ e1 λb o nb eb=>?_
 exact(Heap.get?_update_other _ _ nb.symm).trans (d7 _ eb)
end
noncomputable def IB(sl xE aI:Nat)(p:Nat->Nat):List S:=
 [.expr (.call (.attr (.name xE (p 0)) aI (p 1)) [.name sl (p 2),.name 0 (p 3)] (p 4)) (p 5),.assign (.attr (.name sl (p 6)) 0 (p 7)) (.name 0 (p 8)) (p 9),.assign (.attr (.name sl (p 10)) 1 (p 11)) (.name 1 (p 12)) (p 13)]
section
variable{c:Cx}{K:Frag}{A:Around}{E:Value->Shared->Prop}{s:Shared}{env:Env}{e C:Addr}{x y:Value}{mL:Str->Option Value}{sl xE aI:Nat}
structure uU(c:Cx)(env:Env)(sl xE aI:Nat):Prop where
 kf:env.scope.kind=.function
 ks:env.kindOf (c.nm sl)=some .local
 k0:env.kindOf (c.nm 0)=some .local
 k1:env.kindOf (c.nm 1)=some .local
 kE:env.kindOf (c.nm xE)=some .globalImplicit
 gl:env.globals=mainGlobals
 bi:env.builtins=builtinsNs
 gE:∃mg mb,c.base.Ns mainGlobals mg/\c.base.Ns builtinsNs mb/\mg (c.nm xE)=none/\mb (c.nm xE)=some (.type "Exception")
 nI:c.nm aI= "__init__"
theorem wN(G:bp c K)(F:uU c env sl xE aI)(hk:env.kindOf (c.nm a)=some .local)(hn:s.heap.Ns env.locals mL)(hv:mL (c.nm a)=some v){Q:Value->Shared->Prop}(q:Q v s):wpAny c.M A (eval (.Name (c.nm a) (aE p)) env) Q E s:=
 wpAny_Name (wpAny_loadName_local F.kf hk hn hv q) (G.nodebug a)
theorem QC:Manifest.isStub "Exception" =false:=by decide+kernel
theorem Yg:handedIn (.builtin "Exception.__init__")=true:=by decide+kernel
theorem YH(h:Heap):Frag.In [] h:=λa o q=>nomatch q
theorem V4{Q:Value×List Value->Shared->Prop}(h:Q (.builtin "Exception.__init__",[]) {s with toks:=s.toks+1}):wpAny c.M A (getMethod (.type "Exception") "__init__" pl) Q E s:=
 Qh (K:=[]) (T:= "Exception") (name:= "__init__") (v:=.builtin "Exception.__init__") (YH _) Ua QC Qo Yg h
theorem Uh(G:bp c K)(F:uU c env sl xE aI)(hl:Nat.beq (aE p1).endLine (aE p4).line=true)(stays:c.base.StaysIn s.heap)(hn:s.heap.Ns env.locals mL)(h1:mL (c.nm sl)=some (.ref e))(h2:mL (c.nm 0)=some x){Q:Flow->Shared->Prop}
 (h:wpAny c.M A (PySem.call (.builtin "Exception.__init__") [.ref e,x]) (λ_ s'=>Q .next s') E {s with toks:=s.toks+1}):
 wpAny c.M A (exec (cS c.nm (.expr (.call (.attr (.name xE p0) aI p1) [.name sl p2,.name 0 p3] p4) p5)) env) Q E s:=by
 obtain⟨mg,mb,g1,g2,g3,g4⟩:=F.gE
 have g1:=g1.keeps stays
 have g2:=g2.keeps stays
 refine wpAny_Expr_any ?_ (by unfold interactive;rw[F.kf];rfl) rfl
 show wpAny c.M A (do
  let ov ← attributeBase (.Name (c.nm xE) (aE p0)) (c.nm aI) env (eval (.Name (c.nm xE) (aE p0)) env)
  standAt (aE p1).atName
  methodCall (.Name (c.nm xE) (aE p0)) (c.nm aI) (aE p1) (aE p4) env ov 2 (backTo (aE p4) (starEach [.Name (c.nm sl) (aE p2),.Name (c.nm 0) (aE p3)] env)) (backToKw (aE p4) (keywordEach [] env))) _ E s
 have base:∀whole,attributeBase (.Name (c.nm xE) (aE p0)) (c.nm aI) env whole=whole:=λ_=>rfl
 rw[base]
 refine ah (Calls.Name_function_global F.kf F.kE (Calls.loadGlobal_builtin (F.gl▸g1) g3 (F.bi▸g2) g4 ?_) (G.nodebug xE))
 refine ah (fZ ?_)
 unfold methodCall
 have C4:methodCallForm 2 (backTo (aE p4) (starEach [.Name (c.nm sl) (aE p2),.Name (c.nm 0) (aE p3)] env)) (backToKw (aE p4) (keywordEach [] env))=true:=rfl
 have C5:methodCallPos true (.Name (c.nm xE) (aE p0)) env (aE p1) (aE p4)=pure (aE p4):=by
  unfold methodCallPos
  have:=beq_iff_eq.mpr (bx.mp hl)
  simp[this]
 rw[C4,F.nI]
 refine ah (d9 (V4 ?_))
 refine ah (wpAny_of_eq C5 ?_)
 refine callWith_of (P:=λ_=>True) rfl (λ_ _=>⟨.machine,.inr (.inl rfl),.now⟩) ?_
 refine Calls.evalArgs_plain ?_
 have nY:({s with toks:=s.toks+1}:Shared).heap.Ns env.locals mL:=hn
 refine Calls.spliced_cons (wN G F F.ks nY h1 (Calls.spliced_cons (wN G F F.k0 nY h2 (Calls.spliced_nil ⟨trivial,?_⟩))))
 exact h
theorem HZ(G:bp c K)(F:uU c env sl xE aI)(ha:env.kindOf (c.nm a)=some .local)(hn:s.heap.Ns env.locals mL)(h1:mL (c.nm sl)=some (.ref e))(h2:mL (c.nm a)=some x){Q:Flow->Shared->Prop}
 (h:wpAny c.M A (setAttr (.ref e) (c.nm a) x) (λ_ s'=>Q .next s') E s):
 wpAny c.M A (exec (cS c.nm (.assign (.attr (.name sl p6) a p7) (.name a p8) p9)) env) Q E s:=by
 refine wpAny_Assign_stores (wN G F ha hn h2 ?_) rfl rfl
 show wpAny c.M A (PySem.assign (.Attribute (.Name (c.nm sl) (aE p6)) (c.nm a) (aE p7)) env x) _ E s
 rw[arm_assign_Attribute]
 refine ah (d9 (wN G F F.ks hn h1 ?_))
 exact ah (fZ (ah (d9 (wpAny_mono h (λ_ _ q=>wpAny_release q) λ_ _ z=>z))))
end
section
variable{c:Cx}{K:Frag}{A:Around}{E:Value->Shared->Prop}{s:Shared}{env:Env}{e C:Addr}{x y:Value}{mL:Str->Option Value}{sl xE aI:Nat}
theorem tQ{h:Heap}(eb:h.get? e=none):∀b o,h.get? b=some o->b≠e:=λb o q w=>cg q (w▸eb)
theorem tn{h h':Heap}(k:∀o,h.get? e=some o->∃o',h'.get? e=some o')(q:h'.get? e=none):h.get? e=none:=Option.eq_none_iff_forall_ne_some.mpr λo z=>(k o z).elim λo' w=>cg w q
structure L7(C e:Addr)(x y:Value)(n0 n1:Str)(h h':Heap)(D t1:Addr)(m:Str->Option Value):Prop where
 q1:h'.get? e=some {cls:=.ref C,dict:=some D,data:=.fields #[.ref t1,.none,.none,.none,.bool false,.none]}
 q2:h'.Ns D m
 q3:m n0=some x
 q4:m n1=some y
 q5:h.get? D=none
 q6:∀b o,b≠e->h.get? b=some o->h'.get? b=some o
theorem VM(G:bp c K)(F:uU c env sl xE aI){p:Nat->Nat}(hl:Nat.beq (aE (p 1)).endLine (aE (p 4)).line=true)(hC:c.base.get? C=some oc)(dC:oc.data=.cls cd)(hb:mroIn K C (.type "Exception")=some true)(F0:oE K C (c.nm 0))(F1:oE K C (c.nm 1))
 (stays:c.base.StaysIn s.heap)(hn:s.heap.Ns env.locals mL)(h1:mL (c.nm sl)=some (.ref e))(h2:mL (c.nm 0)=some x)(h3:mL (c.nm 1)=some y)(he:s.heap.get? e=some {cls:=.ref C,data:=.fields #[.ref t0,.none,.none,.none,.bool false,.none]})
 (eL:env.locals≠e)(eb:c.base.get? e=none){Q:Flow->Shared->Prop}
 (h:∀h' tk D t1 m,L7 C e x y (c.nm 0) (c.nm 1) s.heap h' D t1 m->Q .next {s with heap:=h',toks:=tk}):
 wpAny c.M A (PySem.execs (cU c.nm (IB sl xE aI p)) env) Q E s:=by
 have nb:=tQ eb
 refine wpAny_execs_cons (Uh G F hl stays hn h1 h2 (ZA (s:={s with toks:=s.toks+1}) (stays _ _ hC) dC (G.kin.keeps λb ob e=>stays b ob e) hb he λha e1 k1=>?_))
 have s1:=λb o q=>k1 b o (nb b o q) (stays b o q)
 have nY:=hn.at' λo q=>k1 _ o eL q
 refine wpAny_execs_cons (HZ (a:=0) G F F.k0 (s:={s with heap:=ha,toks:=s.toks+1}) nY h1 h2 (Zf (s:={s with heap:=ha,toks:=s.toks+1}) (G.kin.keeps λb ob e=>s1 b ob e) F0 e1 rfl rfl rfl λNd sF e2 n2 k2=>?_))
 have hn2:=nY.at' λo q=>k2 _ o eL q
 refine wpAny_execs_cons (HZ (a:=1) G F F.k1 (s:={s with heap:=Nd,toks:=sF}) hn2 h1 h3 (Yi (s:={s with heap:=Nd,toks:=sF}) (G.kin.keeps λb ob e=>k2 b ob (nb b ob e) (s1 b ob e)) F1 e2 rfl rfl rfl n2 (l:=[c.nm 0]) (λn y hy=>?_) (show 1<=100 by decide) λhc ku n3 sb=>?_))
 · by_cases q:n=c.nm 0
   · exact q▸.head _
   · exact cg hy (ax q)
 have iA:=Nat.ne_of_lt (Heap.lt_size e1)
 have hD:=tn (λo q=>⟨o,k1 _ o iA.symm q⟩) (cY ha)
 exact wpAny_execs_nil (h hc ku ha.objs.size _ _ ⟨(sb.2 e iA).trans e2,n3.ns,(ax λq=>aV (G.inj 0 1 q) (by decide)).trans (aG rfl),aG rfl,hD,λb o ne q=>(sb.2 b (tQ hD b o q)).trans (k2 b o ne (k1 b o ne q))⟩)
theorem B3{r:List (Str×Value)}:List.lookup k ((k,v)::r)=some v:=by rw[fw,beq_self_eq_true]
theorem zg{r:List (Str×Value)}(h:k≠j):List.lookup k ((j,v)::r)=List.lookup k r:=by rw[fw,beq_false_of_ne h]
structure Hx where
 ini:Nat
 f:Fn
 sl:Nat
 xE:Nat
 aI:Nat
 p:Nat->Nat
 nm:Str
 q:Str
 N:Addr
 bs:List Value
 bm:List Value
 hdct:Bool
 sn:List Str
 sub:List Value
 ab:Bool
 col:Option Bool
 dd:Option Addr
 k0:Option Value
 k1:Option Value
 k2:Option Value
 k3:Option Value
 k5:Option Value
structure Kq(c:Cx)(K:Frag)(k:Nat)(D:Hx):Prop where
 hC:c.base.get? (c.clA k)=some (excClassObj D.nm D.q (c.clA k) D.N D.bs D.bm D.hdct D.sn D.sub D.ab D.col D.dd D.k0 D.k1 D.k2 D.k3 D.k5 "Exception.__new__")
 c1:D.bm.contains (.type "Exception")=true
 c2:D.bm.contains (.type "AttributeError")=false
 c3:D.bm.contains (.type "NameError")=false
 hi:findIn K (.ref (c.clA k)) "__init__" =some (some (.ref (c.fnA D.ini)))
 ht:typeIn K (.ref (c.fnA D.ini))=some (.type "function")
 hf:c.T.fns D.ini=some D.f
 hps:D.f.ps=[D.sl,0,1]
 hbody:D.f.body=IB D.sl D.xE D.aI D.p
 hcs:D.f.cs=[]
 a0:au D.f.sc D.sl=some 0
 a1:au D.f.sc 0=some 0
 a2:au D.f.sc 1=some 0
 a3:au D.f.sc D.xE=some 3
 hl:Nat.beq (aE (D.p 1)).endLine (aE (D.p 4)).line=true
 F0:oE K (c.clA k) (c.nm 0)
 F1:oE K (c.clA k) (c.nm 1)
 hb:mroIn K (c.clA k) (.type "Exception")=some true
 gE:∃mg mb,c.base.Ns mainGlobals mg/\c.base.Ns builtinsNs mb/\mg (c.nm D.xE)=none/\mb (c.nm D.xE)=some (.type "Exception")
 nI:c.nm D.aI= "__init__"
def xu(c:Cx)(K:Frag)(k:Nat):Prop:=∃D,Kq c K k D
theorem Q4(G:bp c K){X:Addr->Prop}{k:Nat}(M:Kq c K k D)
 (stays:c.base.StaysIn s.heap)(xb:∀b,X b->c.base.get? b=none)(dep:A.depth<1000){t0:Addr}(he:s.heap.get? e=some {cls:=.ref (c.clA k),data:=.fields #[.ref t0,.none,.none,.none,.bool false,.none]})(eb:c.base.get? e=none){R:Result->Shared->Prop}
 (h:∀h' tk D1 t1 m,L7 (c.clA k) e x y (c.nm 0) (c.nm 1) s.heap h' D1 t1 m->R (.ok (.ret .none)) {s with heap:=h',toks:=tk}):
 codeAny c.M A (.call (.ref (c.fnA D.ini)) ⟨[.ref e,x,y],[]⟩) R s:=
 have FO:=G.fn D.ini D.f M.hf
 FO.ex.elim λob z=>z.elim λfd z=>z.elim λargs z=>z.elim λj8 z=>z.elim λod z=>by
 have hA:args.map (·.arg)=[c.nm D.sl,c.nm 0,c.nm 1]:=z.f13.trans (aq (List.map c.nm) M.hps)
 have Dq:=M.hps▸FO.nd
 have d1:D.sl≠0:=λq=>(List.nodup_cons.mp Dq).1 (q▸.head _)
 have d2:D.sl≠1:=λq=>(List.nodup_cons.mp Dq).1 (q▸.tail _ (.head _))
 have n1:=λq=>d1 (G.inj _ _ q)
 have n2:=λq=>d2 (G.inj _ _ q)
 have n3:c.nm 0≠c.nm 1:=λq=>aV (G.inj 0 1 q) (by decide)
 have nd:=K7 G.inj Dq
 have hlen:(od.getD #[]).toList.length+(3-(od.getD #[]).toList.length)=3:=Nat.add_sub_cancel' (((z.f15 X [] _ xb λ_ _ e=>e).length▸fe FO.le (Nat.le_of_eq (aq List.length M.hps))))
 refine codeAny_call_function dep (stays _ _ z.f1) z.f2 z.f7 z.f6 z.f3 (CodeRec.stays z.f11 stays) (xz z.f12 hA rfl (λQ q=>z.f14 _ _ _ _ Q stays q) nd hlen (Nat.sub_le _ _) (Nat.le_refl 3) ?_)
 have aa7:[c.nm D.sl,c.nm 0,c.nm 1].zip ([.ref e,x,y]++(od.getD #[]).toList.drop ([Value.ref e,x,y].length-(3-(od.getD #[]).toList.length)))=[(c.nm D.sl,.ref e),(c.nm 0,x),(c.nm 1,y)]:=rfl
 rw[aa7,z.f10,z.f8,z.f9]
 have hk:∀z' j,au D.f.sc z'=some j->fd.scope.names.lookup (c.nm z')=some (kd j):=λz' j hz=>by rw[z.f4,xH G.inj,hz];rfl
 refine wpAny_newFunctionEnv (λz' hz e=>?_) (λz' hz=>?_) (λh2 hn Nf=>?_) z.f5
 · rw[z.f4] at hz
   exact(List.mem_map.mp hz).elim λw hw=>
    have m:=List.mem_map.mpr ⟨w,List.mem_filter.mpr ⟨hw.1,(yy w.2).symm.trans (beq_iff_eq.mpr ((aq Prod.snd hw.2).trans e))⟩,rfl⟩
    aV ((M.hcs.symm.trans FO.cs).symm▸m:w.1∈([]:List Nat)) (λh=>nomatch h)
 · exact(List.mem_cons.mp hz).elim (λq=>q▸hk D.sl 0 M.a0) λhz=>(List.mem_cons.mp hz).elim (λq=>q▸hk 0 0 M.a1) λhz=>(List.mem_singleton.mp hz)▸hk 1 0 M.a2
 dsimp only at hn Nf ⊢
 have yO:∀b o',s.heap.get? b=some o'->h2.get? b=some o':=λb o' e=>(Nf.2 b (Nat.ne_of_lt (Heap.lt_size e))).trans (d7 _ e)
 have rK:=λb o' e=>yO b o' (stays b o' e)
 refine⟨NoLimit.stays G.nolim rK,codeAny_func ?_⟩
 rw[M.hbody]
 have F:uU c (newEnv fd.scope s.heap.objs.size mainGlobals [] (fd.qualname++ ".<locals>.") (some (c.fnA D.ini)) fd.code none builtinsNs) D.sl D.xE D.aI:=⟨z.f5,hk D.sl 0 M.a0,hk 0 0 M.a1,hk 1 0 M.a2,hk D.xE 3 M.a3,rfl,rfl,M.gE,M.nI⟩
 refine VM (x:=x) (y:=y) G F M.hl M.hC rfl M.hb M.F0 M.F1 (s:={heap:=h2,gens:=s.gens,drawn:=s.drawn,toks:=_,os:=s.os}) rK hn ((zg n2).trans ((zg n1).trans B3)) ((zg n3).trans B3) B3 (yO _ _ he) (Nat.ne_of_gt (Heap.lt_size he)) eb λh3 tk D1 t1 mm w=>?_
 exact h h3 tk D1 t1 mm ⟨w.q1,w.q2,w.q3,w.q4,tn (λo q=>⟨o,yO _ o q⟩) w.q5,λb o ne q=>w.q6 b o ne (yO b o q)⟩
theorem JD(G:bp c K)(XK:nL c K)(MK:∀k,c.T.sub k k=some true->xu c K k):LF c:=λk hs n X A env fr μ σ s m v x y Q E eo o rm rv hQ=>
 (MK k hs).elim λD0 M=>by
 have st:=o.stays
 have X0:=o.kin G
 obtain⟨hh,g,d,t,os⟩:=s
 refine WS PySem.F.excBase_Exception M.c1 M.c2 M.c3 (st _ _ M.hC) (looks_findIn X0 M.hi) (λself=>bind_fn X0 self M.ht) ?_
 have kp:∀b o',hh.get? b=some o'->((hh.push {cls:=.type "tuple",data:=.seq [x,y].toArray}).push {cls:=.ref (c.clA k),data:=.fields #[.ref hh.objs.size,.none,.none,.none,.bool false,.none]}).get? b=some o':=λb o' e=>d7 _ (d7 _ e)
 have he:((hh.push {cls:=.type "tuple",data:=.seq [x,y].toArray}).push {cls:=.ref (c.clA k),data:=.fields #[.ref hh.objs.size,.none,.none,.none,.bool false,.none]}).get? (hh.objs.size+1)=some {cls:=.ref (c.clA k),data:=.fields #[.ref hh.objs.size,.none,.none,.none,.bool false,.none]}:=by heap_get
 have e0:hh.get? (hh.objs.size+1)=none:=Heap.get?_none_of_le (Nat.le_succ _)
 refine Q4 G M (X:=X) (s:=⟨_,g,d,t,os⟩) (λb o' e=>kp b o' (st b o' e)) (λb hb=>(o.xlt b hb).2) (jI (fe (Nat.add_le_add_left (by decide:1<=4) _) (fe (Nat.add_le_add_right (gI _ _) _) eo.depth)) (by decide)) he (tn (λo' z=>⟨o',st _ _ z⟩) e0) λh3 tk D t1 mm w=>?_
 have k3:aY (λ_=>False) hh h3:=.of λb o' e=>w.q6 b o' (tQ e0 b o' e) (kp b o' e)
 have hD:=tn (λo' z=>⟨o',kp _ _ z⟩) w.q5
 have nx:aK A env μ μ (⟨hh,g,d,t,os⟩:Shared) {heap:=h3,gens:=g,drawn:=d,toks:=tk,os:=os}:=(aK.add (s:=⟨hh,g,d,t,os⟩) (s':=⟨h3,g,d,t,os⟩) k3 rfl rfl).tok tk
 exact⟨rfl,hQ _ _ nx ((o.add (s':=⟨h3,g,d,t,os⟩) k3).tok tk) ⟨⟨_,_,D,mm,.none,w.q1,rfl,rfl,rfl,(show 4<6 by decide),rfl,(λ_ _ z=>nomatch z),.inl rfl,e0,hD,λw=>(o.own_mut w).elim λo' z=>cg z.1 hD,w.q2,⟨x,w.q3,rm.nxt o nx⟩,⟨y,w.q4,rv.nxt o nx⟩⟩,_,_,w.q1,rfl,rfl⟩⟩
end
end
section
open PySem
section
variable{prog:Program}{w:World}{A:Around}{E:Value->Shared->Prop}{s:Shared}
theorem Vj:typeLookup (.type "list") "keys" =pure none:=am_miss_of_fast (by decide+kernel)
theorem YZ{Q:Option Value->Shared->Prop}(hx:s.heap.get? a=some {cls:=.type "list",dict:=none,data:=.seq xs k,slots:=sl})(hA:A.handled=none)
 (h:∀h' tk,(∀b o,s.heap.get? b=some o->h'.get? b=some o)->Q none {s with heap:=h',toks:=tk}):wpAny (model prog w) A (getAttr? (.ref a) "keys") Q E s:=by
 obtain⟨hp,g,d,tk,os⟩:=s
 have hT:∀Ng,(⟨hp,g,d,Ng,os⟩:Shared).TypeIs (.ref a) "list" :=λ_=>⟨_,hx,rfl⟩
 have f1:=sub_AttributeError
 have f3:=F.slot_list_getattribute.lookup
 have f4:=F.slot_list_getattribute.bind (.ref a)
 have f5:=am_list_getattr_none
 have cK:("keys" :Str).length+100<=sizeLine:=by rw[ofString_length,sizeLine_eq];decide
 have aa8:(["__module__","__name__","__qualname__","__doc__","__annotations__"]:List Str).contains "keys" =false:=by decide+kernel
 unfold getAttr? getAttrBy? getAttrBy
 repeat (any_goals (first|assumption|exact hT _|((with_reducible show wpAny _ _ (call (Value.builtin "list.__getattribute__") _ _) _ _ _);refine call_meets F.slot_list_getattribute (hT _) am_entry_list_getattribute (F.args_list_getattribute_2 _ _) (meets_getattribute_miss_list a xs k sl "keys" _ Vj aa8 cK) ⟨hx,hA,λh' Ng e yP=>?_⟩)|wp_step))
 obtain⟨t',u',he⟩:=yP.there
 unfold getattributeRaised
 repeat (any_goals (first|assumption|wp_step))
 exact h _ _ yP.keeps
end
theorem LH:entryFor table "dict.update.loop" =some Builtin.«dict.update.loop» :=entryFor_of_tree (by kernel_rfl)
section
variable{prog:Program}{w:World}{A:Around}{E:Value->Shared->Prop}{R:Result->Shared->Prop}
def kD(prog:Program)(w:World)(h:Heap):List Value->List (Str×Value)->Prop
 |[],[]=>True
 |x::xs,(k,v)::l=>(∃a t,x=.ref a/\h.IsTuple a #[.str k t,v])/\kD prog w h xs l
 |_,_=>False
theorem kD.keeps(k:∀b o,(∃its n,o.data=.seq its n/\o.cls=.type "tuple")->h.get? b=some o->h'.get? b=some o):∀{xs:List Value} {l:List (Str×Value)},kD prog w h xs l->kD prog w h' xs l
 |[],[],_=>trivial
 |x::xs,(k',v)::l,⟨⟨a,t,e,o,ho,hc,n,hd⟩,r⟩=>⟨⟨a,t,e,o,k a o ⟨_,n,hd,hc⟩ ho,hc,n,hd⟩,kD.keeps k r⟩
 |[],_::_,x=>x.elim
 |_::_,[],x=>x.elim
theorem Lw(hh:A.handled=none)(rQ:D≠I)(Nh:l≠D)(Ni:l≠I):∀(rem:List Value) (bF:List (Str×Value)) (acc:List (Str×Value)) (i:Nat) {s:Shared},
 its.toList.drop i=rem->s.heap.IsListIter I l i->s.heap.IsList l its->s.heap.DictOf (strKind prog w) D acc->kD prog w s.heap rem bF->acc.length+bF.length<=4000->
 (∀h' tk,h'.DictOf (strKind prog w) D (merged acc bF)->(∀b o,b≠D->b≠I->s.heap.get? b=some o->h'.get? b=some o)->R (.ok (.ret .none)) {s with heap:=h',toks:=tk})->
 codeAny (model prog w) A (.builtin "dict.update.loop" ⟨[.ref D,.ref I,rawInt i,.none],[]⟩) R s
 |[],bF,acc,i,s,yQ,hit,hl,hd,hp,hlen,h=>by
  cases bF with
  |cons=>exact hp.elim
  |nil=>
  refine codeAny_builtin LH ?_
  unfold Builtin.«dict.update.loop»
  have aa9:its[i]?=none:=by
   rw[← Array.getElem?_toList]
   have:=aq (·[0]?) yQ
   simp only[List.getElem?_drop,Nat.add_zero] at this
   simpa using this
  refine ah (wpAny_pyNext_list_end (by exact hh) hit hl aa9 λh' ex=>?_)
  refine ah (aS (aS ?_))
  exact h h' s.toks (hd.extBut ex rQ) λb o _ nb e=>ex b o nb e
 |x::rem,bF,acc,i,s,yQ,hit,hl,hd,hp,hlen,h=>by
  match bF,hp with
  |(k,v)::bF,⟨⟨a,t,hx,ht⟩,hp0⟩=>
  subst hx
  refine codeAny_builtin LH ?_
  unfold Builtin.«dict.update.loop»
  have abb:its[i]?=some (.ref a):=by
   rw[← Array.getElem?_toList]
   have:=aq (·[0]?) yQ
   simpa [List.getElem?_drop] using this
  refine ah (wpAny_pyNext_list_item hit hl abb λh1 abd yR=>?_)
  have ht1:h1.IsTuple a #[.str k t,v]:=by
   obtain⟨o,ho,hc,n,Ds⟩:=ht
   refine⟨o,(yR.2 a λq=>?_).trans ho,hc,n,Ds⟩
   obtain⟨oi,Dt,Du,_⟩:=hit
   rw[q,Dt] at ho;(first|with_reducible exact ns ho|with_reducible exact sn ho|with_reducible exact ft ho|with_reducible exact tf ho|(replace ho:=af ho;first|subst ho|cases ho)|cases ho);rw[Du] at hc;exact aV hc (by decide)
  have hd1:=hd.extBut yR.extBut rQ
  have mx:=hl.extBut yR.extBut Ni
  obtain⟨o,ho,hc,n,Ds⟩:=ht1
  have hT:({s with heap:=h1}:Shared).TypeIs (.ref a) "tuple" :=⟨o,ho,hc⟩
  refine ah (d9 (ah (m:=(tryCatch (Builtin.Dict.pairItems (.ref a)) _:Sem (List Value))) (wpAny_tryCatch ?_)))
  unfold Builtin.Dict.pairItems
  refine ah (wpAny_typeOf hT ?_)
  rw[aG (by decide)]
  refine ah (wpAny_seqItems ho Ds (aS ?_))
  have cK:acc.length<=sizeLine:=by rw[sizeLine_eq];rw[List.length_cons] at hlen;omega
  refine d9 (wpAny_dictSet_pairs (strKind_is _ _ _ _) hd1 (λh2 hd2 Dv=>?_) (cK))
  refine aS (a:=Fin.again _) ⟨Code.quiet_builtin _ (by decide+kernel),?_⟩
  have hI2:=abd.extBut Dv.extBut rQ.symm
  have mr:=mx.extBut Dv.extBut Nh
  have keep:∀b o,b≠D->b≠I->s.heap.get? b=some o->h2.get? b=some o:=λb o n1 n2 e=>(Dv.2 b n1).trans ((yR.2 b n2).trans e)
  have yI:kD prog w h2 rem bF:=by
   refine kD.keeps (λb o ⟨ys,m,ys1,yS⟩ e=>keep b o (λq=>?_) (λq=>?_) e) hp0
   · obtain⟨od,_,_,g1,g2,_⟩:=hd
     rw[q,g1] at e;(first|with_reducible exact ns e|with_reducible exact sn e|with_reducible exact ft e|with_reducible exact tf e|(replace e:=af e;first|subst e|cases e)|cases e);rw[g2.1] at yS;exact aV yS (by decide)
   · obtain⟨oi,Dt,Du,_⟩:=hit
     rw[q,Dt] at e;(first|with_reducible exact ns e|with_reducible exact sn e|with_reducible exact ft e|with_reducible exact tf e|(replace e:=af e;first|subst e|cases e)|cases e);rw[Du] at yS;exact aV yS (by decide)
  have abh:(stored acc k v).length+bF.length<=4000:=by
   have:=stored_length_le acc k v
   rw[List.length_cons] at hlen;omega
  have abi:its.toList.drop (i+1)=rem:=by
   rw[← List.drop_drop,yQ];rfl
  have q:=Lw hh rQ Nh Ni rem bF (stored acc k v) (i+1) (s:={s with heap:=h2,toks:=s.toks+1}) abi hI2 mr hd2 yI abh λh' tk j9 kk=>h h' tk j9 λb o n1 n2 e=>kk b o n1 n2 (keep b o n1 n2 e)
  exact q
end
end
section
open PySem PySem.W PyProof.Rows
section
variable{c:Cx}{X:Addr->Prop}{μ:Mu}{h:Heap}
theorem Si(h':GW v=some p)(r:ad c X μ h v y):∃a t u,y=.ref a/\h.IsTuple a #[.str (aW p.1) t,u]/\ad c X μ h p.2 u:=
 on h' λl hl h'=>by
  match l,h' with
  |[k,w],h'=>
   refine on h' λx hx h'=>(rU hl r).elim λa z=>z.elim λits z=>(GP z.2.2.2).elim λy1 q=>q.elim λu q=>?_
   have e:=af h'
   subst e
   refine(fV (P:=λy1=>∃t,y1=.str (aW x) t) hx q.2.1 λt=>⟨t,rfl⟩).elim λt e=>⟨a,t,u,z.1,?_,q.2.2⟩
   exact(Array.toList_inj.mp (q.1.trans (by rw[e])):its=#[.str (aW x) t,u])▸z.2.1
  |[],h'=>exact ns h'
  |[_],h'=>exact ns h'
  |_::_::_::_,h'=>exact ns h'
structure Vk(c:Cx)(X:Addr->Prop)(μ:Mu)(h:Heap)(its:List Value)(bF:List (List Nat×V))(l0 l:List (Str×Value)):Prop where
 at_:kD c.prog c.w h its l
 rel:ay (lX c X μ h) bF (merged l0 l)
 len:l.length=its.length
theorem ZI(z:ay (ad c X μ h) xs its):∀{Dx bF:List (List Nat×V)} {l0:List (Str×Value)},yu Dx xs=some bF->ay (lX c X μ h) Dx l0->(l0.map (·.1)).Nodup->∃l,Vk c X μ h its bF l0 l:=by
 induction z with
 |nil=>exact λe z0 nd=>⟨[],trivial,af e▸z0,rfl⟩
 |cons r _ ih=>exact λ{Dx bF l0} e z0 nd=>on e λp hp e=>(Si hp r).elim λa w=>w.elim λt w=>w.elim λu w=>
  (ih (l0:=stored l0 (aW p.1) u) e (BY w.2.2 z0 nd) (HS nd)).elim λl q=>⟨(aW p.1,u)::l,⟨⟨a,t,w.1,w.2.1⟩,q.at_⟩,q.rel,aq (· +1) q.len⟩
theorem OR{K:Frag}(G:bp c K):oF c:=λX A env fr μ σ s v x Q E n eo o rv h=>
 bk h λxs hv h=>bk h λbF hp h=>on hv λpv hpv hv=>fh (P:=λx=>wpAny c.M A (PySem.call (.type "dict") [x]) Q E s) o hpv rv λa its _ _ ⟨ep,hl⟩ hz cK=>(ZI (af hv▸hz) hp .nil List.nodup_nil).elim λl W=>bB h λhf h=>by
  have hD:=cY s.heap
  have hh:=eo.handled
  refine callType_codes (Q₁:=λobj s₁=>obj=.ref s.heap.objs.size/\s₁={s with heap:=s.heap.push {cls:=.type "dict",data:=.dict #[]}}) F.kt_called_dict (F.kt_typeCall_dict_1 _) F.entry_dict_init (kt_code_dict_new _ ⟨rfl,rfl⟩) ?_
  rintro obj s₁ ⟨rfl,rfl⟩
  have yT:(s.heap.push {cls:=.type "dict",data:=.dict #[]}).DictOf (strKind c.prog c.w) s.heap.objs.size []:=Heap.DictOf.new s.heap
  have mx:=d7 (h:=s.heap) {cls:=.type "dict",data:=.dict #[]} hl
  have hT:({s with heap:=s.heap.push {cls:=.type "dict",data:=.dict #[]}}:Shared).TypeIs (.ref a) "list" :=⟨_,mx,rfl⟩
  refine⟨yT.typeIs,F.args_dict_init_2 _ _,?_⟩
  unfold Builtin.«dict.__init__»
  refine ah ?_
  unfold Builtin.Dict.selfAndRest
  refine ah (wpAny_notOrdered_dict yT.typeIs ?_)
  refine aS ?_
  show wpAny _ _ (Builtin.Dict.updateFrom "dict.__init__" s.heap.objs.size (.ref a) [] .none) _ _ _
  unfold Builtin.Dict.updateFrom
  refine ah (wpAny_typeOf hT ?_)
  rw[aG (by decide)]
  refine ah (YZ mx hh λh1 lP k1=>?_)
  rw[aG (by rfl)]
  have mr:=k1 _ _ mx
  refine ah (wpAny_rule (ah (wpAny_pyIter_list ⟨_,mr,rfl,ep,rfl⟩ (aS (a:=Fin.again _) ⟨Code.quiet_builtin _ (by decide+kernel),?_⟩))))
  have kI:∀b o',h1.get? b=some o'->(h1.push {cls:=.type "list_iterator",data:=.fields #[.ref a,.int 0 0]}).get? b=some o':=λb o' e=>d7 _ e
  have hd2:=Cd yT λob e=>kI _ _ (k1 _ _ e)
  have old:∀b o',s.heap.get? b=some o'->(h1.push {cls:=.type "list_iterator",data:=.fields #[.ref a,.int 0 0]}).get? b=some o':=λb o' e=>kI _ _ (k1 _ _ (d7 _ e))
  have hIn:=tn (λo' z=>⟨o',k1 _ _ (d7 _ z)⟩) (cY h1)
  have Nj:=tQ hIn
  have rQ:=yT.elim λod w=>w.elim λ_ w=>w.elim λ_ w=>Nat.ne_of_lt (Heap.lt_size (k1 _ _ w.1))
  refine Lw (its:=its) (l:=a) (by exact eo.handled) rQ (Nat.ne_of_lt (Heap.lt_size hl)) (Nj _ _ hl) its.toList l [] 0 (by rw[List.drop_zero]) ⟨_,dX _ rfl,rfl,rfl⟩ ⟨_,kI _ _ mr,rfl,ep,rfl⟩ hd2 (kD.keeps (λb o' _ e=>old b o' e) W.at_) (by rw[List.length_nil,W.len,Array.length_toList,dU];exact cK) λh' tk j9 kk=>?_
  have k3:aY (λ_=>False) s.heap h':=.of λb o' e=>kk b o' (tQ hD b o' e) (Nj b o' e) (old b o' e)
  exact⟨rfl,h.ok ((aK.new1 (s:=s) (s':={s with heap:=h'}) (p:=(s.heap.objs.size,s.heap.objs.size)) k3 hD hD rfl rfl).tok tk) ((Ok.new1 (x:=o) (o:=.dict bF) (s':={s with heap:=h'}) (p:=(s.heap.objs.size,s.heap.objs.size)) k3 hD hD ⟨rfl,Lc G o,_,j9,W.rel.mono λ_ _ q=>⟨q.1,q.2.mono (o.stays_of k3 λ_ _ _ f=>f.elim) (ce.app _ _)⟩,W.rel.length▸gy.mp hf⟩).tok tk)
   (⟨(s.heap.objs.size,s.heap.objs.size),o.last _,rfl⟩)⟩
end
theorem aac{K:Frag}(G:bp c K)(XK:nL c K)(MK:∀k,c.T.sub k k=some true->xu c K k)(lg:qz c)(Or:qU c):∀n,lK c n (ev c.T c.mc n):=
 Mm G lg (OR G) Or (KZ G XK (JD G XK MK)) (FG G (Hk G XK) (FK G XK))
structure Mt where
 is:List (Nat×Nat)
 hid:List (Nat×V)
def fg(l:List (Nat×Nat))(i b:Nat):Bool:=List.rec false (λp _ ih=>aa (Nat.beq p.1 i) (aa (Nat.beq p.2 b) true ih) ih) l
def dz(v:V):Bool:=V.rec true (λ_=>true) (λ_=>true) (λ_=>true) true (λ_ _ a b=>aa a b false) (λ_=>false) (λ_=>false) (λ_=>false) (λ_=>false) (λ_ _=>false) (λ_=>false) v
def Hu(v:V):Option Nat:=V.rec .none (λ_=>.none) (λ_=>.none) (λ_=>.none) .none (λ_ _ _ _=>.none) (λ_=>.none) (λk=>some k) (λ_=>.none) (λ_=>.none) (λ_ _=>.none) (λ_=>.none) v
def dK(o:Option Nat)(k:Nat):Bool:=Option.rec false (λi=>Nat.beq i k) o
def b8(m:Mt)(b:V):V->Bool:=
 V.rec (motive:=λ_=>V->Bool) isNone (λx a=>Option.rec false (λy=>aa x y (!y)) (k4 a)) (λi a=>Option.rec false (λj=>decide (i=j)) (eM a)) (λs a=>Option.rec false (λt=>seq s t) (cQ a)) zy
  (λ_ q hp hq a=>Option.rec false (λr=>aa (hp r.1) (Option.rec (hq r.2) (λ_=>false) (cu q)) false) (wL a))
  (λn a=>Option.rec (Option.rec false (λk=>aa (Nat.ble 14 k) (Option.rec false (λw=>dK (ci w) n) (au m.hid k)) false) (dS a)) (λi=>fg m.is i n) (ci a))
  (λk a=>dK (Hu a) k) (λk a=>dK (vV a) k) (λk a=>aa (Nat.blt k 14) (dK (dS a) k) (Option.rec false (λj=>aa (Nat.ble 14 j) (Option.rec false (λw=>dK (dS w) k) (au m.hid j)) false) (dS a))) (λ_ _ _=>false)
  (λn a=>dK (cu a) n) b
def dk{α β:Type}(f:α->β->Bool)(l:List α):List β->Bool:=
 List.rec (λk=>List.rec true (λ_ _ _=>false) k) (λx _ ih k=>List.rec false (λy q _=>aa (f x y) (ih q) false) k) l
def Vx(o:aF):Option Nat:=aF.rec (λ_=>.none) (λ_=>.none) (λ_ _=>.none) (λ_=>.none) (λj=>some j) .none o
def oW(o:aF):Bool:=aF.rec (λ_=>false) (λ_=>false) (λ_ _=>false) (λ_=>false) (λ_=>false) true o
def EP{α β:Type}(f:α->β->Bool)(o:Option α)(p:Option β):Bool:=Option.rec (Option.rec true (λ_=>false) p) (λx=>Option.rec false (λy=>f x y) p) o
def i4(m:Mt)(o:aF):aF->Bool:=
 aF.rec (motive:=λ_=>aF->Bool) (λxs o=>Option.rec false (λys=>dk (b8 m) xs ys) (lL o)) (λxs o=>Option.rec false (λys=>dk (λx y=>aa (seq x.1 y.1) (b8 m x.2 y.2) false) xs ys) (yA o))
  (λk xs o=>Option.rec false (λy=>aa (Nat.beq k y.1) (dk (λx y=>aa (Nat.beq x.1 y.1) (b8 m x.2 y.2) false) xs y.2) false) (wI o))
  (λv o=>Option.rec false (λw=>EP (b8 m) v w) (qT o))
  (λj o=>dK (Vx o) j) oW o
structure rI(c0 c:Cx)(m:Mt)(hM μ:Mu):Prop where
 loc:∀i b,fg m.is i b=true->∃p,aj hM i=some p/\aj μ b=some p
 hid:∀k b,14<=k->au m.hid k=some (.loc b)->∃p,aj μ b=some p/\c0.biV k=.ref p.1
 hib:∀k j,14<=k->14<=j->au m.hid k=some (.bi j)->c0.biV k=c.biV j
 bi:∀k,k<14->c0.biV k=c.biV k
 rho:c0.ρ=c.ρ
 seg:c0.seg=c.seg
 sp:∀j,∀v∈c.seg j,dz v=true
 fn:c0.fnA=c.fnA
 cl:c0.clA=c.clA
 nm:c0.nm=c.nm
 prog:c0.prog=c.prog
 w:c0.w=c.w
section
variable{c0 c:Cx}{X:Addr->Prop}{hM μ:Mu}{m:Mt}{h:Heap}
theorem Cm(v:V):dz v=true->(∀x,ad c X μ h v x↔(PV X h v).1 x)/\(∀l,jh c X μ h v l↔(PV X h v).2 l):=by
 induction v with
 |none|bool|int|str|nil=>exact λ_=>⟨λ_=>Iff.rfl,λ_=>Iff.rfl⟩
 |cons p q hp hq=>
  intro e
  have e:=aO e
  have k:∀l,jh c X μ h (.cons p q) l↔(PV X h (.cons p q)).2 l:=λl=>fN λ_=>fN λ_=>cO (and_congr ((hp e.1).1 _) ((hq e.2).2 _))
  exact⟨λx=>⟨λr=>⟨r.ex.imp λ_=>bg λ_ z=>⟨z.1,z.2.1,z.2.2.1,(k _).mp z.2.2.2⟩⟩,λr=>⟨r.ex.imp λ_=>bg λ_ z=>⟨z.1,z.2.1,z.2.2.1,(k _).mpr z.2.2.2⟩⟩⟩,k⟩
 |_=>exact λe=>ft e
theorem mn(e:dK o k=true):o=some k:=bV e λi hi e=>hi.trans (aq some (bx.mp e))
theorem PN(h:Hu v=some k):v=.fn k:=by cases v<;>first|exact ns h|exact aq V.fn (af h)
theorem Jq{P Q:List Value->Prop}(k:∀l,P l↔Q l)(x:Value):iG X h P x↔iG X h Q x:=
 ⟨λr=>⟨r.ex.imp λ_=>bg λ_ z=>⟨z.1,z.2.1,z.2.2.1,(k _).mp z.2.2.2⟩⟩,λr=>⟨r.ex.imp λ_=>bg λ_ z=>⟨z.1,z.2.1,z.2.2.1,(k _).mpr z.2.2.2⟩⟩⟩
theorem D3{P P':Value->Prop}{Q Q':List Value->Prop}(k:∀y,P y↔P' y)(k':∀l,Q l↔Q' l)(l:List Value):jS P Q l↔jS P' Q' l:=fN λ_=>fN λ_=>cO (and_congr (k _) (k' _))
theorem ma(C:rI c0 c m hM μ)(b:V):∀{a:V},b8 m b a=true->(∀x,ad c0 X hM h a x↔ad c X μ h b x)/\(cu b=none->∀l,jh c0 X hM h a l↔jh c X μ h b l):=by
 induction b with
 |none=>exact λe=>(nj e).symm▸⟨λ_=>Iff.rfl,λ_ _=>Iff.rfl⟩
 |bool x=>
  exact λe=>bV e λy hy e=>by
   have q:x=y:=by revert e;cases x<;>cases y<;>first|exact λ_=>rfl|exact λe=>ft e
   exact(oz hy).symm▸q.symm▸⟨λ_=>Iff.rfl,λ_ _=>Iff.rfl⟩
 |int x=>exact λe=>bV e λy hy e=>(qY hy).symm▸(of_decide_eq_true e:x=y)▸⟨λ_=>Iff.rfl,λ_ _=>Iff.rfl⟩
 |str x=>exact λe=>bV e λy hy e=>(jC hy).symm▸(fj.mp e:x=y)▸⟨λ_=>Iff.rfl,λ_ _=>Iff.rfl⟩
 |nil=>exact λe=>(LR e).symm▸⟨λ_=>Iff.rfl,λ_ _=>Iff.rfl⟩
 |cons p q hp hq=>
  exact λe=>bV e λr hr e=>by
   have e:=aO e
   rw[KT hr]
   cases gM:cu q with
   |some _=>exact ft ((by rw[gM]:Option.rec (b8 m q r.2) (λ_=>false) (cu q)=false).symm.trans e.2)
   |none=>
    have e2:=(by rw[gM]:Option.rec (b8 m q r.2) (λ_=>false) (cu q)=b8 m q r.2).symm.trans e.2
    have k:=D3 (hp e.1).1 ((hq e2).2 gM)
    exact⟨Jq k,λ_=>k⟩
 |loc n=>
  exact λ{a} e=>by
   cases hl:ci a with
   |some i=>
    have e:Option.rec (Option.rec false (λk=>aa (Nat.ble 14 k) (Option.rec false (λw=>dK (ci w) n) (au m.hid k)) false) (dS a)) (λi=>fg m.is i n) (ci a)=true:=e
    rw[hl] at e
    rw[xM hl]
    refine(C.loc i n e).elim λp w=>⟨λx=>⟨λr=>r.elim λq z=>⟨p,w.2,(bz w.1 z.1).symm▸z.2⟩,λr=>r.elim λq z=>⟨p,w.1,(bz w.2 z.1).symm▸z.2⟩⟩,λ_ _=>Iff.rfl⟩
   |none=>
    have e:Option.rec (Option.rec false (λk=>aa (Nat.ble 14 k) (Option.rec false (λw=>dK (ci w) n) (au m.hid k)) false) (dS a)) (λi=>fg m.is i n) (ci a)=true:=e
    rw[hl] at e
    refine bV e λk hk e=>?_
    have e:=aO e
    rw[qZ hk]
    refine bV e.2 λw hw e2=>?_
    exact(C.hid k n (dL e.1) (xM (mn e2)▸hw)).elim λp w=>⟨λx=>⟨λr=>⟨p,w.1,(r).trans w.2⟩,λr=>r.elim λq z=>z.2.trans ((bz w.1 z.1)▸w.2.symm:Value.ref q.1=c0.biV k)⟩,λ_ _=>Iff.rfl⟩
 |fn k=>exact λe=>(PN (mn e)).symm▸⟨λx=>by show x=.ref (c0.fnA k)↔x=.ref (c.fnA k);rw[C.fn],λ_ _=>Iff.rfl⟩
 |cls k=>exact λe=>(Bh (mn e)).symm▸⟨λx=>by show x=.ref (c0.clA k)↔x=.ref (c.clA k);rw[C.cl],λ_ _=>Iff.rfl⟩
 |bi k=>
  exact λ{a} e=>by
   have e:aa (Nat.blt k 14) (dK (dS a) k) (Option.rec false (λj=>aa (Nat.ble 14 j) (Option.rec false (λw=>dK (dS w) k) (au m.hid j)) false) (dS a))=true:=e
   cases hk:Nat.blt k 14 with
   |true=>
    rw[hk] at e
    exact(qZ (mn e)).symm▸⟨λx=>by show x=c0.biV k↔x=c.biV k;rw[C.bi k (cF hk)],λ_ _=>Iff.rfl⟩
   |false=>
    rw[hk] at e
    refine bV e λj hj e=>?_
    have e:=aO e
    refine bV e.2 λw hw e2=>?_
    exact(qZ hj).symm▸⟨λx=>by show x=c0.biV j↔x=c.biV k;rw[C.hib j k (dL e.1) (Nat.le_of_not_lt λq=>ft (hk.symm.trans (mQ q))) (qZ (mn e2)▸hw)],λ_ _=>Iff.rfl⟩
 |clo=>exact λe=>ft e
 |atom n=>exact λ{a} e=>(qA (mn e)).symm▸⟨λx=>by show(PV X h (c0.ρ n)).1 x↔(PV X h (c.ρ n)).1 x;rw[C.rho],λ_ _=>Iff.rfl⟩
theorem P8{α β:Type}{f:α->β->Bool}{P:β->Value->Prop}{Q:α->Value->Prop}(k:∀x y,f x y=true->∀z,P y z↔Q x z)(l:List α):∀{l0:List β},dk f l l0=true->∀its,ay P l0 its↔ay Q l its:=by
 induction l with
 |nil=>exact λ{l0} e its=>by cases l0 with|nil=>exact⟨λz=>by cases z;exact .nil,λz=>by cases z;exact .nil⟩|cons=>exact ft e
 |cons x r ih=>
  intro l0 e its
  cases l0 with
  |nil=>exact ft e
  |cons y q=>
   have e:=aO e
   exact⟨λz=>by cases z with|cons a b=>exact .cons ((k x y e.1 _).mp a) ((ih e.2 _).mp b),λz=>by cases z with|cons a b=>exact .cons ((k x y e.1 _).mpr a) ((ih e.2 _).mpr b)⟩
theorem P2{α β γ:Type}{f:α->β->Bool}{P:β->γ->Prop}{Q:α->γ->Prop}(k:∀x y,f x y=true->∀z,P y z↔Q x z)(l:List α):∀{l0:List β},dk f l l0=true->∀its,ay P l0 its↔ay Q l its:=by
 induction l with
 |nil=>exact λ{l0} e its=>by cases l0 with|nil=>exact⟨λz=>by cases z;exact .nil,λz=>by cases z;exact .nil⟩|cons=>exact ft e
 |cons x r ih=>
  intro l0 e its
  cases l0 with
  |nil=>exact ft e
  |cons y q=>
   have e:=aO e
   exact⟨λz=>by cases z with|cons a b=>exact .cons ((k x y e.1 _).mp a) ((ih e.2 _).mp b),λz=>by cases z with|cons a b=>exact .cons ((k x y e.1 _).mpr a) ((ih e.2 _).mpr b)⟩
theorem TR(l:List (Nat×V)):∀{l0:List (Nat×V)},dk (λx y=>aa (Nat.beq x.1 y.1) (b8 m x.2 y.2) false) l l0=true->
 (∀x v,au l x=some v->∃v0,au l0 x=some v0/\b8 m v v0=true)/\(∀x v0,au l0 x=some v0->∃v,au l x=some v/\b8 m v v0=true):=by
 induction l with
 |nil=>exact λ{l0} e=>by cases l0 with|nil=>exact⟨λx v q=>ns q,λx v q=>ns q⟩|cons=>exact ft e
 |cons p r ih=>
  intro l0 e
  cases l0 with
  |nil=>exact ft e
  |cons q r0=>
   obtain⟨x1,v1⟩:=p
   obtain⟨x2,v2⟩:=q
   have e:=aO e
   have e1:=aO e.1
   have ex:=bx.mp e1.1
   subst ex
   refine⟨λx v w=>?_,λx v w=>?_⟩
   · rw[dy] at w ⊢
     by_cases hx:x1=x
     · rw[aG hx] at w ⊢;exact⟨v2,rfl,af w▸e1.2⟩
     · rw[ax hx] at w ⊢;exact(ih e.2).1 x v w
   · rw[dy] at w ⊢
     by_cases hx:x1=x
     · rw[aG hx] at w ⊢;exact⟨v1,rfl,af w▸e1.2⟩
     · rw[ax hx] at w ⊢;exact(ih e.2).2 x v w
theorem TY(h:qT o=some v):o=.cell v:=by cases o<;>first|exact ns h|exact aq aF.cell (af h)
theorem w9(l:List V)(e:∀v∈l,dz v=true):∀its:List Value,ay (ad c X μ h) l its↔ay (λv x=>(PV X h v).1 x) l its:=by
 induction l with
 |nil=>exact λits=>⟨λz=>by cases z;exact .nil,λz=>by cases z;exact .nil⟩
 |cons v r ih=>
  have w:=ug e
  exact λits=>⟨λz=>by cases z with|cons a b=>exact .cons (((Cm v w.1).1 _).mp a) ((ih w.2 _).mp b),λz=>by cases z with|cons a b=>exact .cons (((Cm v w.1).1 _).mpr a) ((ih w.2 _).mpr b)⟩
theorem GI(C:rI c0 c m hM μ){l l0:List V}(e:dk (b8 m) l l0=true)(its:List Value):ay (ad c0 X hM h) l0 its↔ay (ad c X μ h) l its:=
 P8 (P:=ad c0 X hM h) (Q:=ad c X μ h) (λx y e z=>(ma (X:=X) (h:=h) C x e).1 z) l e its
theorem AE(C:rI c0 c m hM μ){p:Addr×Addr}(e:i4 m o o0=true):RO c0 X hM h p o0↔RO c X μ h p o:=by
 cases o with
 |list xs=>
  refine bV e λys hy e=>?_
  rw[sv hy]
  exact cO (fN λits=>cO (and_congr_left' (GI C e _)))
 |dict bF=>
  refine bV e λys hy e=>?_
  rw[LI hy]
  have k:=P2 (P:=λ(a:List Nat×V) (b:Str×Value)=>b.1=aW a.1/\ad c0 X hM h a.2 b.2) (Q:=λ(a:List Nat×V) (b:Str×Value)=>b.1=aW a.1/\ad c X μ h a.2 b.2) (λx y e z=>by
   have e:=aO e
   rw[fj.mp e.1,(ma (X:=X) (h:=h) C x.2 e.2).1 z.2]) bF e
  show _/\_/\(∃l,h.DictOf (strKind c0.prog c0.w) _ l/\_/\_)↔_
  rw[C.prog,C.w]
  exact cO (cO (fN λl=>cO (and_congr_left' (k l))))
 |inst k as=>
  refine bV e λy hy e=>?_
  have e:=aO e
  rw[HN hy,← bx.mp e.1]
  have a:=TR (m:=m) as e.2
  show(h.get? p.1=some (instObj (c0.clA k) p.2)/\∃n:Str->Option Value,h.Ns1 p.2 n/\(∀x v,au y.2 x=some v->∃z,n (c0.nm x)=some z/\ad c0 X hM h v z)/\(∀n' z,n n'=some z->∃x v,au y.2 x=some v/\n'=c0.nm x))↔_
  rw[C.cl,C.nm]
  refine cO (fN λn=>cO (and_congr ⟨λq x v hv=>?_,λq x v hv=>?_⟩ ⟨λq n' z hz=>?_,λq n' z hz=>?_⟩))
  · exact(a.1 x v hv).elim λv0 w=>(q x v0 w.1).imp λz u=>⟨u.1,((ma C v w.2).1 z).mp u.2⟩
  · exact(a.2 x v hv).elim λv1 w=>(q x v1 w.1).imp λz u=>⟨u.1,((ma C v1 w.2).1 z).mpr u.2⟩
  · exact(q n' z hz).imp λx=>λu=>u.elim λv u=>(a.2 x v u.1).imp λv1 w=>⟨w.1,u.2⟩
  · exact(q n' z hz).imp λx=>λu=>u.elim λv u=>(a.1 x v u.1).imp λv1 w=>⟨w.1,u.2⟩
 |cell v=>
  refine bV e λw hw e=>?_
  rw[TY hw]
  refine cO (fN λy=>cO ?_)
  cases v with
  |none=>cases w with|none=>cases y<;>exact Iff.rfl|some _=>exact ft e
  |some v=>cases w with
   |none=>exact ft e
   |some w=>cases y with|none=>exact Iff.rfl|some y=>exact(ma C v e).1 y
 |opq j=>
  have q:=mn e
  cases o0 with
  |opq i=>
   have q:=af q
   subst q
   refine cO (fN λits=>cO (and_congr_left' ?_))
   rw[C.seg]
   exact(w9 _ (C.sp i) _).trans (w9 _ (C.sp i) _).symm
  |_=>exact ns q
 |dead=>
  have q:=e
  cases o0 with
  |dead=>exact Iff.rfl
  |_=>exact ft q
end
def Cx.wit(c:Cx)(T:Tb)(b:Nat->Value):Cx:={c with T:=T,biV:=b}
def dh(bs:List Nat):Nat->List (Nat×Nat):=List.rec (λ_=>[]) (λb _ ih i=>(i,b)::ih (Nat.succ i)) bs
def jY(r:List (Nat×V)):List (Nat×V):=r.map λp=>(p.1,aa (hW p.2) (.bi (1000+p.1)) p.2)
section
variable{c:Cx}{X:Addr->Prop}{A:Around}{env:Env}{fr:Fr}{μ hM:Mu}{σ:Sg}{s:Shared}{n:Nat}
theorem sh(i b:Nat)(l:List (Nat×Nat))(j d:Nat):fg ((i,b)::l) j d=true↔(i=j/\b=d)\/fg l j d=true:=by
 show aa (Nat.beq i j) (aa (Nat.beq b d) true (fg l j d)) (fg l j d)=true↔_
 by_cases h1:i=j
 · rw[bx.mpr h1,fK]
   by_cases h2:b=d
   · rw[bx.mpr h2,fK];exact⟨λ_=>.inl ⟨h1,h2⟩,λ_=>rfl⟩
   · rw[dY.mpr h2,cV];exact⟨.inr,λq=>q.elim (λq=>aV q.2 h2) id⟩
 · rw[dY.mpr h1,cV];exact⟨.inr,λq=>q.elim (λq=>aV q.1 h1) id⟩
theorem HQ(bs:List Nat):∀{k i b:Nat},fg (dh bs k) i b=true->∃j,i=k+j/\aj bs j=some b:=by
 induction bs with
 |nil=>exact λe=>ft e
 |cons d r ih=>exact λ{k i b} e=>((sh k d (dh r (Nat.succ k)) i b).mp e).elim (λw=>⟨0,w.1.symm,aq some w.2⟩) λw=>(ih w).elim λj z=>⟨j+1,z.1.trans (by omega),z.2⟩
theorem RG(bs:List Nat):∀{k j b:Nat},aj bs j=some b->fg (dh bs k) (k+j) b=true:=by
 induction bs with
 |nil=>exact λe=>ns e
 |cons d r ih=>
  intro k j b e
  refine(sh k d (dh r (Nat.succ k)) (k+j) b).mpr ?_
  cases j with
  |zero=>exact .inl ⟨rfl,af e⟩
  |succ j=>exact .inr ((by omega:Nat.succ k+j=k+(j+1))▸ih e)
theorem zA{α β:Type}(f:α->β)(l:List α)(i:Nat):aj (l.map f) i=(aj l i).map f:=by rw[de,de,List.getElem?_map]
theorem wf(r:List (Nat×V))(x:Nat):au (jY r) x=(au r x).map λv=>aa (hW v) (.bi (1000+x)) v:=by
 induction r with
 |nil=>rfl
 |cons p q ih=>
  obtain⟨k,v⟩:=p
  show au ((k,aa (hW v) (.bi (1000+k)) v)::jY q) x=_
  rw[dy,dy,ih]
  by_cases e:k=x
  · rw[aG e,aG e,e];rfl
  · rw[ax e,ax e]
theorem aJ.wit{T:Tb}{b:Nat->Value}(x:aJ c n A env fr){g:List (Nat×Nat)}:aJ (c.wit T b) n A env ⟨fr.sc,g,fr.lm⟩:=
 ⟨x.k0,x.k1,x.k2,x.k3,x.kl,x.kk,x.kfun,x.globs,x.bis,x.frame,x.handled,x.code,x.depth,x.units⟩
noncomputable def Aq(c:Cx)(μ:Mu)(v:V):Value:=match v with|.loc b=>((aj μ b).map λp=>Value.ref p.1).getD .none|.bi j=>if 14<=j then c.biV j else .none|_=>.none
noncomputable def fE(c:Cx)(hid:List (Nat×V))(μ:Mu)(mm:Str->Option Value)(k:Nat):Value:=
 if k<14 then c.biV k else(au hid k).elim (((mm (c.nm (k-1000))).filter λy=>handedIn y).getD .none) λv=>Aq c μ v
theorem wS(h:k<14):fE c hid μ mm k=c.biV k:=aG h
theorem OZ(hh:∀k,14<=k->handedIn (c.biV k)=true)(h:14<=k):handedIn (fE c hid μ mm k)=true:=by
 unfold fE
 rw[ax (Nat.not_lt.mpr h)]
 cases au hid k with
 |none=>
  cases e:(mm (c.nm (k-1000))).filter λy=>handedIn y with
  |none=>rfl
  |some y=>exact(Option.filter_eq_some_iff.mp e).2
 |some v=>
  show handedIn (Aq c μ v)=true
  unfold Aq
  cases v with
  |loc b=>dsimp only;cases aj μ b<;>rfl
  |bi j=>exact(Nat.lt_or_ge j 14).elim (λq=>by show handedIn (if 14<=j then c.biV j else .none)=true;rw[ax (Nat.not_le.mpr q)];rfl) λq=>by show handedIn (if 14<=j then c.biV j else .none)=true;rw[aG q];exact hh j q
  |_=>rfl
structure gp(c:Cx)(m:Mt)(bs:List Nat)(H0 H:HT):Prop where
 is:m.is=dh bs 0
 n:bs.length=H0.n
 w:HW H0
 nd:bs.Nodup
 obj:∀i o0,gH H0 i=some o0->∃b o,aj bs i=some b/\gH H b=some o/\i4 m o o0=true
 hid:∀k v,au m.hid k=some v->k<1000/\∀b,v=.loc b->(gH H b).isSome=true
 sp:∀j,∀v∈c.seg j,dz v=true
noncomputable def dH(μ:Mu)(bs:List Nat):Mu:=bs.map λb=>(aj μ b).getD (0,0)
theorem oK{bs:List Nat}{i b:Nat}{p:Addr×Addr}(h:aj bs i=some b)(e:aj μ b=some p):aj (dH μ bs) i=some p:=by unfold dH;rw[zA,h];exact aq some (show(aj μ b).getD (0,0)=p by rw[e];rfl)
theorem Ok.at_mu(o:Ok c X A env fr μ σ s){ob:aF}(e:gH σ.H b=some ob):∃p,aj μ b=some p:=(o.obj b ob e).imp λ_ w=>w.1
theorem gp.cor{m:Mt}{bs:List Nat}{H0:HT}(K:gp c m bs H0 σ.H)(o:Ok c X A env fr μ σ s){T:Tb}{mm:Str->Option Value}:rI (c.wit T (fE c m.hid μ mm)) c m (dH μ bs) μ where
 loc:=λi b e=>(HQ bs (K.is▸e)).elim λj w=>by
  have e:=w.1.trans (dU j)
  subst e
  exact(K.w.some (K.n▸i7 w.2)).elim λo0 h0=>(K.obj i o0 h0).elim λb' z=>z.elim λob z=>by
   have q:=bz w.2 z.1
   subst q
   exact(o.at_mu z.2.1).imp λp hp=>⟨oK z.1 hp,hp⟩
 hid:=λk b hk e=>(Option.isSome_iff_exists.mp ((K.hid k _ e).2 b rfl)).elim λob ho=>(o.at_mu ho).imp λp hp=>⟨hp,by
  show fE c m.hid μ mm k=_
  unfold fE
  rw[ax (Nat.not_lt.mpr hk),e]
  show((aj μ b).map λp=>Value.ref p.1).getD .none=_
  rw[hp];rfl⟩
 hib:=λk j hk hj e=>by
  show fE c m.hid μ mm k=_
  unfold fE
  rw[ax (Nat.not_lt.mpr hk),e]
  exact aG hj
 bi:=λk h=>wS h
 rho:=rfl
 seg:=rfl
 sp:=K.sp
 fn:=rfl
 cl:=rfl
 nm:=rfl
 prog:=rfl
 w:=rfl
theorem yh(h:hW v=false):∃k,v=.bi k/\k<14:=by
 cases v<;>first|exact tf h|exact⟨_,rfl,Nat.lt_of_not_le λq=>tf ((Nat.ble_eq_true_of_le q).symm.trans h)⟩
theorem j6(hb:∀i b,aj bs i=some b->∃p,aj μ b=some p)(h:own (dH μ bs) b):own μ b:=by
 obtain⟨i,p,e,w⟩:=dR.mp h
 unfold dH at e
 rw[zA] at e
 obtain⟨d,e1,e2⟩:=Option.map_eq_some_iff.mp e
 obtain⟨q,hq⟩:=hb i d e1
 rw[hq] at e2
 have e2:q=p:=e2
 exact dR.mpr ⟨d,q,hq,e2▸w⟩
theorem mZ(hb:∀i b,aj bs i=some b->∃p,aj μ b=some p)(e:aj (dH μ bs) i=some p):∃b,aj bs i=some b/\aj μ b=some p:=by
 unfold dH at e
 rw[zA] at e
 obtain⟨d,e1,e2⟩:=Option.map_eq_some_iff.mp e
 obtain⟨q,hq⟩:=hb i d e1
 rw[hq] at e2
 have e2:=e2
 exact⟨d,e1,e2▸hq⟩
theorem gp.at{m:Mt}{bs:List Nat}{H0:HT}(K:gp c m bs H0 σ.H)(o:Ok c X A env fr μ σ s):∀i b,aj bs i=some b->∃p,aj μ b=some p:=λi b e=>
 (K.w.some (K.n▸i7 e)).elim λo0 h0=>(K.obj i o0 h0).elim λb' z=>z.elim λob z=>(bz e z.1).symm▸o.at_mu z.2.1
theorem ym(nd:bs.Nodup)(hi:aj bs i=some b)(hj:aj bs j=some b):i=j:=by
 rw[de] at hi hj
 have li:=(List.getElem?_eq_some_iff.mp hi)
 have lj:=(List.getElem?_eq_some_iff.mp hj)
 exact(List.getElem_inj (h₀:=li.1) (h₁:=lj.1) nd).mp (li.2.trans lj.2.symm)
theorem gp.ok{m:Mt}{bs:List Nat}{H0:HT}(K:gp c m bs H0 σ.H)(o:Ok c X A env fr μ σ s)(hh:∀k,14<=k->handedIn (c.biV k)=true){T:Tb}{mm:Str->Option Value}(hm:s.heap.Ns env.locals mm)(hr:∀x v,au σ.r x=some v->∃y,mm (c.nm x)=some y/\ad c X μ s.heap v y):
 Ok (c.wit T (fE c m.hid μ mm)) X A env ⟨fr.sc,[],fr.lm⟩ (dH μ bs) ⟨H0,jY σ.r⟩ s:=
 have C:=K.cor o (T:=T) (mm:=mm)
 have B:=K.at o
 { len:=⟨by unfold dH;rw[List.length_map];exact K.n,K.w⟩
   obj:=λi o0 h0=>(K.obj i o0 h0).elim λb z=>z.elim λob z=>(o.obj b ob z.2.1).elim λp w=>⟨p,oK z.1 w.1,(AE C z.2.2).mpr w.2⟩
   apart:=λi j p q hi hj ne=>(mZ B hi).elim λa u=>(mZ B hj).elim λb w=>o.apart a b p q u.2 w.2 λe=>ne (ym K.nd u.1 (e.symm▸w.1))
   new:=λb hb=>o.new b (j6 B hb)
   ns:=⟨mm,hm,λx v0 h0=>by
    rw[wf] at h0
    obtain⟨v,hv,e⟩:=Option.map_eq_some_iff.mp h0
    refine(hr x v hv).imp λy w=>⟨w.1,?_⟩
    subst e
    cases hb:hW v with
    |true=>
     show y=fE c m.hid μ mm (1000+x)
     unfold fE
     rw[ax (by omega)]
     cases hk:au m.hid (1000+x) with
     |some b=>exact aV (K.hid _ b hk).1 (by omega)
     |none=>
      rw[Nat.add_sub_cancel_left,w.1,Option.filter_some,aG (qq hh w.2 hb)];rfl
    |false=>
     obtain⟨k,e,lt⟩:=yh hb
     subst e
     exact(w.2).trans (wS lt).symm⟩
   lout:=⟨λq=>o.lout.1 (j6 B q),o.lout.2⟩
   cells:=λx l q=>ns q
   stays:=o.stays
   frs:=o.frs.imp λl y=>⟨y.1,y.2.1,λb hb=>⟨λq=>(y.2.2 b hb).1 (j6 B q),(y.2.2 b hb).2⟩⟩
   tabs:=o.tabs
   xlt:=o.xlt}
end
section
variable{c:Cx}{X:Addr->Prop}{A:Around}{env:Env}{fr:Fr}{μ eO:Mu}{σ:Sg}{s s':Shared}{n:Nat}
structure ix(m m':Mt)(bs ns:List Nat)(eu H H':HT):Prop where
 w:HW H'
 n:H'.n=H.n+ns.length
 nd:ns.Nodup
 lo:∀i∈ns,bs.length<=i/\i<eu.n
 hid:m'.hid=m.hid
 is:∀i b,fg m'.is i b=true->aj bs i=some b\/∃j,aj ns j=some i/\b=H.n+j
 obj:∀b ob,gH H' b=some ob->(b<H.n/\(∀i,aj bs i≠some b)/\gH H b=some ob)\/(∃i o0,fg m'.is i b=true/\gH eu i=some o0/\(oW ob=true\/i4 m' ob o0=true))
noncomputable def wo(μ eO:Mu)(ns:List Nat):Mu:=μ++dH eO ns
theorem x9{α:Type}{l k:List α}{i:Nat}{a:α}(h:aj l i=some a):aj (l++k) i=some a:=by
 rw[de] at h ⊢
 rw[List.getElem?_append_left (List.getElem?_eq_some_iff.mp h).1];exact h
theorem F7{α:Type}{l k:List α}{j:Nat}:aj (l++k) (l.length+j)=aj k j:=by
 rw[de,de,List.getElem?_append_right (gI _ _),Nat.add_sub_cancel_left]
theorem sA{α:Type}{l k:List α}{i:Nat}{a:α}(h:aj (l++k) i=some a):aj l i=some a\/∃j,i=l.length+j/\aj k j=some a:=by
 by_cases hi:i<l.length
 · rw[de,List.getElem?_append_left hi] at h;exact .inl ((de _ _).trans h)
 · exact .inr ⟨i-l.length,(by omega),by rw[de] at h ⊢;rw[List.getElem?_append_right (by omega)] at h;exact h⟩
theorem uG{μ ν:Mu}{b:Addr}(h:own (μ++ν) b):own μ b\/own ν b:=h.elim λp w=>(List.mem_append.mp w.1).imp (λq=>⟨p,q,w.2⟩) λq=>⟨p,q,w.2⟩
theorem ix.cor{m m':Mt}{bs ns:List Nat}{H0 eu H':HT}(K:gp c m bs H0 σ.H)(G:ix m m' bs ns eu σ.H H')(o:Ok c X A env fr μ σ s){T:Tb}{mm:Str->Option Value}{r0:List (Nat×V)}{ll:Fr}(nx:aK A env (dH μ bs) eO s s')
 (o':Ok (c.wit T (fE c m.hid μ mm)) X A env ll eO ⟨eu,r0⟩ s'):rI (c.wit T (fE c m.hid μ mm)) c m' eO (wo μ eO ns):=
 have C:=K.cor o (T:=T) (mm:=mm)
 { loc:=λi b e=>(G.is i b e).elim (λh=>(K.at o i b h).imp λp hp=>⟨nx.ext _ _ (oK h hp),x9 hp⟩) λh=>h.elim λj w=>(vc (l:=eO) (o'.len.n▸(G.lo i (na w.1)).2)).imp λp hp=>⟨hp,by
    rw[w.2,← o.len.n];exact F7.trans (oK w.1 hp)⟩
   hid:=λk b hk e=>(C.hid k b hk (G.hid▸e)).imp λp w=>⟨x9 w.1,w.2⟩
   hib:=λk j hk hj e=>C.hib k j hk hj (G.hid▸e)
   bi:=C.bi
   rho:=rfl
   seg:=rfl
   sp:=K.sp
   fn:=rfl
   cl:=rfl
   nm:=rfl
   prog:=rfl
   w:=rfl}
theorem YA{o:Obj}(m:gm o):¬mi o:=λv=>v.elim λvs w=>mJ w.1 m
theorem ix.at{m m':Mt}{bs ns:List Nat}{H eu H':HT}(G:ix m m' bs ns eu H H'){c0:Cx}{ll:Fr}{r0:List (Nat×V)}(o':Ok c0 X A env ll eO ⟨eu,r0⟩ s'):∀i b,aj ns i=some b->∃p,aj eO b=some p:=
 λi b e=>vc (l:=eO) (o'.len.n▸(G.lo b (na e)).2)
theorem ix.fresh{m m':Mt}{bs ns:List Nat}{H0 eu H':HT}(K:gp c m bs H0 σ.H)(G:ix m m' bs ns eu σ.H H')(o:Ok c X A env fr μ σ s){c0:Cx}{r0:List (Nat×V)}{ll:Fr}(nx:aK A env (dH μ bs) eO s s')
 (o':Ok c0 X A env ll eO ⟨eu,r0⟩ s'){b:Addr}(hb:own (dH eO ns) b):s.heap.get? b=none:=by
 obtain⟨j,p,hj,hp⟩:=dR.mp hb
 obtain⟨i,hi,Nk⟩:=mZ (G.at o') hj
 refine(nx.fresh b (dR.mpr ⟨i,p,Nk,hp⟩)).elim (λq=>?_) id
 obtain⟨d,q,hd,hq⟩:=dR.mp q
 have ld:d<bs.length:=by have:=i7 hd;unfold dH at this;rwa [List.length_map] at this
 have ne:d≠i:=λe=>aV (G.lo i (na hi)).1 (e▸Nat.not_le.mpr ld)
 have ap:=o'.apart d i q p (nx.ext _ _ hd) Nk ne
 exact hp.elim (λe1=>hq.elim (λe2=>aV (e2.symm.trans e1) ap.1) λe2=>aV (e2.symm.trans e1) ap.2.2.1) λe1=>hq.elim (λe2=>aV (e2.symm.trans e1) ap.2.1) λe2=>aV (e2.symm.trans e1) ap.2.2.2
theorem ix.nxt{m m':Mt}{bs ns:List Nat}{H0 eu H':HT}(K:gp c m bs H0 σ.H)(G:ix m m' bs ns eu σ.H H')(o:Ok c X A env fr μ σ s){c0:Cx}{r0:List (Nat×V)}{ll:Fr}(nx:aK A env (dH μ bs) eO s s')
 (o':Ok c0 X A env ll eO ⟨eu,r0⟩ s'):aK A env μ (wo μ eO ns) s s':=
 ⟨ce.app _ _,λb hb=>(uG hb).imp id λq=>G.fresh K o nx o' q,nx.keep.mono (λb ob e w=>w.imp (j6 (K.at o)) id) λ_ _ _ q=>q,nx.gens,nx.os⟩
theorem gp.keep1{m:Mt}{bs:List Nat}{H0:HT}(K:gp c m bs H0 σ.H)(o:Ok c X A env fr μ σ s)(nx:aK A env (dH μ bs) eO s s'){b:Nat}{p:Addr×Addr}(hb:aj μ b=some p)(hn:∀i,aj bs i≠some b){a:Addr}(ha:a=p.1\/a=p.2){ob:Obj}(e:s.heap.get? a=some ob):s'.heap.get? a=some ob:=by
 have ow:=dR.mpr ⟨b,p,hb,ha⟩
 have mt:=(o.own_mut ow).elim λo' w=>bz w.1 e▸w.2
 have nm:¬lI (dH μ bs) env a:=λq=>q.elim (λq=>by
  obtain⟨i,q,hi,hq⟩:=dR.mp q
  obtain⟨d,hd,hdq⟩:=mZ (K.at o) hi
  have ne:d≠b:=λw=>hn i (w▸hd)
  have ap:=o.apart d b q p hdq hb ne
  exact ha.elim (λe1=>hq.elim (λe2=>ap.1 (e2.symm.trans e1)) λe2=>ap.2.2.1 (e2.symm.trans e1)) λe1=>hq.elim (λe2=>ap.2.1 (e2.symm.trans e1)) λe2=>ap.2.2.2 (e2.symm.trans e1)) λq=>o.lout.1 (q▸ow)
 exact(nx.keep.2 a ob e nm (YA mt)).elim id λq=>aV ow (o.frs.elim λl y=>(y.2.2 a ((kS y.1).mp q.1)).1)
theorem Wn{c0:Cx}{hM:Mu}{h:Heap}{p:Addr×Addr}{ob o0:aF}(d:oW ob=true)(x:RO c0 X hM h p o0):RO c X μ h p ob:=by
 cases ob with
 |dead=>exact⟨x.at1,x.at2⟩
 |_=>exact ft d
theorem ix.ok{m m':Mt}{bs ns:List Nat}{H0 eu H':HT}(K:gp c m bs H0 σ.H)(G:ix m m' bs ns eu σ.H H')(o:Ok c X A env fr μ σ s)(hh:∀k,14<=k->handedIn (c.biV k)=true){T:Tb}{mm:Str->Option Value}{ll:Fr}
 (hr:∀x v,au σ.r x=some v->∃y,mm (c.nm x)=some y/\ad c X μ s.heap v y)(o0:Ok (c.wit T (fE c m.hid μ mm)) X A env ll (dH μ bs) ⟨H0,jY σ.r⟩ s)(nx:aK A env (dH μ bs) eO s s')
 (o':Ok (c.wit T (fE c m.hid μ mm)) X A env ll eO ⟨eu,jY σ.r⟩ s'):Ok c X A env fr (wo μ eO ns) ⟨H',σ.r⟩ s':=
 have C:=G.cor K o nx o'
 have st:=nx.stays o0
 have ex:=ce.app _ _
 have al:∀{i p},aj μ i=some p->∀{a},(a=p.1\/a=p.2)->∃ob,s.heap.get? a=some ob:=λ{i p} h {a} w=>(o.own_mut (dR.mpr ⟨_,_,h,w⟩)).imp λ_ z=>z.1
 have cW:∀{j p},aj (dH eO ns) j=some p->∀{a},(a=p.1\/a=p.2)->s.heap.get? a=none:=λ{j p} h {a} w=>G.fresh K o nx o' (dR.mpr ⟨_,_,h,w⟩)
 have lr:∀{i j:Nat} {p q:Addr×Addr},aj μ i=some p->aj (dH eO ns) j=some q->p.1≠q.1/\p.1≠q.2/\p.2≠q.1/\p.2≠q.2:=λh k=>
  ⟨ic (al h (.inl rfl)) (cW k (.inl rfl)),ic (al h (.inl rfl)) (cW k (.inr rfl)),ic (al h (.inr rfl)) (cW k (.inl rfl)),ic (al h (.inr rfl)) (cW k (.inr rfl))⟩
 { len:=⟨by unfold wo dH;rw[List.length_append,List.length_map,o.len.n,G.n],G.w⟩
   obj:=λb ob hb=>(G.obj b ob hb).elim
    (λw=>(o.obj b ob w.2.2).imp λp z=>⟨ex _ _ z.1,z.2.keep (λ_ e=>K.keep1 o nx z.1 w.2.1 (.inl rfl) e) (λ_ e=>K.keep1 o nx z.1 w.2.1 (.inr rfl) e) st ex⟩)
    λw=>by
     obtain⟨i,q,w1,w2,w3⟩:=w
     obtain⟨p,z1,z2⟩:=o'.obj i q w2
     obtain⟨p',u1,u2⟩:=C.loc i b w1
     have e:=bz u1 z1
     exact⟨p',u2,w3.elim (λd=>Wn d (e▸z2)) λw3=>(AE C w3).mp (e▸z2)⟩
   apart:=λi j p q hi hj ne=>(sA hi).elim (λh=>(sA hj).elim (λk=>o.apart i j p q h k ne) λk=>k.elim λd k=>lr h k.2)
    λh=>h.elim λd h=>(sA hj).elim (λk=>⟨(lr k h.2).1.symm,(lr k h.2).2.2.1.symm,(lr k h.2).2.1.symm,(lr k h.2).2.2.2.symm⟩) λk=>k.elim λd' k=>
     (mZ (G.at o') h.2).elim λa u=>(mZ (G.at o') k.2).elim λb w=>o'.apart a b p q u.2 w.2 λe=>ne (by rw[h.1,k.1,ym G.nd u.1 (e.symm▸w.1)])
   new:=λb hb=>(uG hb).elim (o.new b) λq=>o'.new b (j6 (G.at o') q)
   ns:=o'.ns.imp λm1 y=>⟨y.1,λx v hv=>by
    have h0:au (jY σ.r) x=some (aa (hW v) (.bi (1000+x)) v):=by rw[wf,hv];rfl
    refine(y.2 x _ h0).imp λz w=>⟨w.1,?_⟩
    cases hb:hW v with
    |true=>
     have w2:z=fE c m.hid μ mm (1000+x):=by have:=w.2;rw[hb] at this;exact this
     obtain⟨y0,h1,h2⟩:=hr x v hv
     have e:fE c m.hid μ mm (1000+x)=y0:=by
      unfold fE
      rw[ax (by omega)]
      cases hk:au m.hid (1000+x) with
      |some b=>exact aV (K.hid _ b hk).1 (by omega)
      |none=>
       rw[Nat.add_sub_cancel_left,h1,Option.filter_some,aG (qq hh h2 hb)];rfl
     rw[w2,e]
     exact h2.mono st ex
    |false=>
     obtain⟨k,e,lt⟩:=yh hb
     have w2:=w.2
     rw[hb] at w2
     subst e
     exact(w2).trans (wS lt)⟩
   lout:=⟨λq=>(uG q).elim o.lout.1 λq=>o'.lout.1 (j6 (G.at o') q),o'.lout.2⟩
   cells:=λx l h=>(o.cells x l h).imp λp w=>⟨ex _ _ w.1,w.2⟩
   stays:=o'.stays
   frs:=by
    obtain⟨l,y1,y2,y3⟩:=o.frs
    obtain⟨l',z1,z2,z3⟩:=o'.frs
    have e:=bz z1 y1
    subst e
    exact⟨l',z1,z2,λb hb=>⟨λq=>(uG q).elim (y3 b hb).1 λq=>(z3 b hb).1 (j6 (G.at o') q),(z3 b hb).2⟩⟩
   tabs:=o'.tabs
   xlt:=o'.xlt}
end
def j5(c:Cx)(k:Nat)(vs:List V)(H:HT)(r:R0)(m:Nat):Prop:=∀n,m<=n->∀X A env fr μ σ s xs Q E,σ.H=H->aJ c (n+1) A env fr->Ok c X A env fr μ σ s->ay (ad c X μ s.heap) vs xs->
 ac c X A env fr (DV c X) μ s (R0.rec (λv H=>.ok v ⟨H,σ.r⟩) (λk m v H=>.exc k m v ⟨H,σ.r⟩) r) Q E->lY c A (.ref (c.fnA k)) xs Q E s
theorem zt(h:∀k vs H m r,c.T.O k vs H=some (m,r)->j5 c k vs H r m):qU c:=λn k vs H m r e hm X A env fr μ σ s xs Q E q eo o z t=>h k vs H m r e n hm X A env fr μ σ s xs Q E q eo o z t
inductive yD(m:Mt)(bs:List Nat)(H:HT):R0->R0->Prop
 |ok {m' ns v0 v eu H'}:ix m m' bs ns eu H H'->b8 m' v v0=true->yD m bs H (.ok v0 eu) (.ok v H')
 |exc {m' ns k a0 a v0 v eu H'}:ix m m' bs ns eu H H'->b8 m' a a0=true->b8 m' v v0=true->yD m bs H (.exc k a0 v0 eu) (.exc k a v H')
theorem X2(hh:∀k,14<=k->handedIn (c.biV k)=true)(K:gp c m bs H0 H)(az:dk (b8 m) vs Dy=true)(R:HW H->yD m bs H r0 r)
 (h0:∀b:Nat->Value,(∀k,k<14->b k=c.biV k)->(∀k,14<=k->handedIn (b k)=true)->j5 (c.wit T b) k Dy H0 r0 d):j5 c k vs H r d:=by
 intro n hn X A env fr μ σ s xs Q E q eo o z t
 subst q
 obtain⟨mm,hm,hr⟩:=o.ns
 have o0:=K.ok o hh (T:=T) hm hr
 have C:=K.cor o (T:=T) (mm:=mm)
 refine h0 (fE c m.hid μ mm) (λk h=>wS h) (λk h=>OZ hh h) n hn X A env ⟨fr.sc,[],fr.lm⟩ (dH μ bs) ⟨H0,jY σ.r⟩ s xs Q E rfl eo.wit o0 ((GI C az xs).mpr z) ?_
 cases R o.len.w with
 |ok G e=>exact λav s' y nx o' dv=>t _ s' y (G.nxt K o nx o') (G.ok K o hh hr o0 nx o') (((ma (G.cor K o nx o') _ e).1 y).mp dv)
 |exc G e1 e2=>
  refine λav s' e nx o' x=>t _ s' e (G.nxt K o nx o') (G.ok K o hh hr o0 nx o') ?_
  have C':=G.cor K o nx o'
  obtain⟨oe,ws,dx,ms,tb,x⟩:=x.ex
  exact⟨oe,ws,dx,ms,tb,x.e1,x.e2,x.e3,x.e4,x.e5,x.e6,x.e7,x.e8,x.e9,x.e10,
   λq=>(uG q).elim (λq=>(o.own_mut q).elim λob w=>cg w.1 x.e10) λq=>x.e11 (j6 (G.at o') q),x.e12,
   x.e13.imp λy w=>⟨w.1,((ma C' _ e1).1 y).mp w.2⟩,x.e14.imp λy w=>⟨w.1,((ma C' _ e2).1 y).mp w.2⟩⟩
noncomputable def kr(x:R V):Option R0:=R.rec (λv s=>some (.ok v s.H)) (λk m v s=>some (.exc k m v s.H)) none x
noncomputable def He(r:R0)(l:List (Nat×V)):R V:=R0.rec (λv H=>.ok v ⟨H,l⟩) (λk m v H=>.exc k m v ⟨H,l⟩) r
theorem aJ.le(h:m<=n)(x:aJ c n A env fr):aJ c m A env fr:=by
 induction h with
 |refl=>exact x
 |step _ ih=>exact ih x.of_succ
theorem Xk(h:kr (jf [] x)=some r):jf l x=He r l:=by
 cases x with
 |ok a s=>exact af h▸rfl
 |exc=>exact af h▸rfl
 |stuck=>exact ns h
theorem Od(l:List (Nat×V))(h:kr (jk T ih n k vs ⟨H,[]⟩)=some r):jk T ih n k vs ⟨H,l⟩=He r l:=by
 unfold jk at h ⊢
 cases e:T.O k vs H with
 |some x=>
  have h:kr (x7 n ⟨H,[]⟩ x)=some r:=by rw[e] at h;exact h
  show x7 n ⟨H,l⟩ x=_
  unfold x7 at h ⊢
  cases hb:Nat.ble x.1 n with
  |false=>rw[hb] at h;exact ns h
  |true=>
   rw[hb] at h
   obtain⟨x1,x2⟩:=x
   cases x2 with
   |ok v H'=>exact af h▸rfl
   |exc a b c H'=>exact af h▸rfl
 |none=>
  have h:kr (aX (T.fns k) λf=>mS ih f vs ⟨H,[]⟩)=some r:=by rw[e] at h;exact h
  cases ef:T.fns k with
  |none=>rw[ef] at h;exact ns h
  |some f=>
   rw[ef] at h
   have h:kr (mS ih f vs ⟨H,[]⟩)=some r:=h
   show mS ih f vs ⟨H,l⟩=_
   unfold mS at h ⊢
   cases hb:yf f.ps (u4 f.ps f.df vs) with
   |none=>rw[hb] at h;exact ns h
   |some bs=>rw[hb] at h;exact Xk h
theorem Op(S:SC c (m+1) (jk c.T (ev c.T c.mc m) m))(h:kr (jk c.T (ev c.T c.mc m) m k vs ⟨H,[]⟩)=some r):j5 c k vs H r m:=by
 intro n hn X A env fr μ σ s xs Q E q eo o z t
 subst q
 exact S X A env fr μ σ s k vs xs Q E (eo.le (Nat.succ_le_succ hn)) o z ((Od σ.r h).symm▸t)
structure cc where
 ρ:Nat->V
 seg:Nat->List V
 ρe:∀i H,eH H 20 (ρ i) (ρ i)=some true
 ρd:∀i j,wM i j=true->i≠j->∃a b,ρ i=.str a/\ρ j=.str b/\seq a b=false
 ρt:∀i,Nat.ble 64 i=true->Nat.blt i 128=true->b9 (ρ i)=true
 ρz:∀i,Nat.ble 6000 i=true->Nat.blt i 7000=true->∃d:Int,ρ i=.int d/\ρ (i+1000)=.bool (decide (d=0))
 sp:∀j,∀v∈seg j,dz v=true
def Cx.vw(c:Cx)(T:Tb)(b:Nat->Value)(v:cc):Cx:={c with T:=T,biV:=b,ρ:=v.ρ,seg:=v.seg,ρe:=v.ρe,ρd:=v.ρd,ρt:=v.ρt,ρz:=v.ρz}
structure gk(c:Cx)(b:Nat->Value):Prop where
 lt:∀k,k<14->b k=c.biV k
 ge:∀k,14<=k->handedIn (b k)=true
def CT(c:Cx)(v:cc)(k:Nat)(vs:List V)(H:HT)(r:R0)(d:Nat):Prop:=∀T b,gk c b->j5 (c.vw T b v) k vs H r d
section
variable{c:Cx}{v:cc}{X:Addr->Prop}{A:Around}{env:Env}{fr:Fr}{μ:Mu}{σ:Sg}{s:Shared}{h:Heap}
theorem H4(x:nh (c.vw T b v) μ h a l cp):nh (c.vw T' b v) μ h a l cp:=
 x.ex.elim λo x=>x.elim λfd x=>⟨o,fd,x.c1,x.c2,x.c3,x.c4,x.c5,x.c6,x.c7,x.c8,x.c9,x.c10,x.c11,x.c12,x.c13⟩
theorem XQ(a:V):RV (c.vw T b v) X μ h a=RV (c.vw T' b v) X μ h a:=by
 induction a with
 |cons p q hp hq=>show(iG X h (jS (RV _ X μ h p).1 (RV _ X μ h q).2),jS (RV _ X μ h p).1 (RV _ X μ h q).2)=_;rw[hp,hq];rfl
 |clo l cp=>exact Prod.ext (funext λx=>propext (fN λa=>cO ⟨H4,H4⟩)) rfl
 |_=>rfl
theorem jv:ad (c.vw T b v) X μ h=ad (c.vw T' b v) X μ h:=by
 funext a x;show(RV _ X μ h a).1 x=_;rw[XQ a (T':=T')];rfl
theorem WW(o:aF):RO (c.vw T b v) X μ h p o=RO (c.vw T' b v) X μ h p o:=by
 cases o with
 |list xs=>show(_/\∃its,h.PlainList p.1 its/\ay (ad (c.vw T b v) X μ h) xs its.toList/\_)=_;rw[jv (T':=T')];rfl
 |dict bF=>show(_/\_/\∃l,h.DictOf (strKind c.prog c.w) p.1 l/\ay (λa z=>z.1=aW a.1/\ad (c.vw T b v) X μ h a.2 z.2) bF l/\_)=_;rw[jv (T':=T')];rfl
 |inst k as=>show(_/\∃m,h.Ns1 p.2 m/\(∀x w,au as x=some w->∃y,m (c.nm x)=some y/\ad (c.vw T b v) X μ h w y)/\(∀n y,m n=some y->∃x w,au as x=some w/\n=c.nm x))=_;rw[jv (T':=T')];rfl
 |opq j=>show(_/\∃its,h.PlainList p.1 its/\ay (ad (c.vw T b v) X μ h) (v.seg j) its.toList/\_)=_;rw[jv (T':=T')];rfl
 |cell w=>
  refine propext (cO (fN λy=>cO ?_))
  cases w with
  |none=>cases y<;>exact Iff.rfl
  |some w=>cases y with
   |none=>exact Iff.rfl
   |some y=>show ad (c.vw T b v) X μ h w y↔ad (c.vw T' b v) X μ h w y;rw[jv (T':=T')]
 |dead=>rfl
theorem Ok.tbl(o:Ok (c.vw T b v) X A env fr μ σ s):Ok (c.vw T' b v) X A env fr μ σ s:=
 ⟨o.len,λn ob h=>(o.obj n ob h).imp λp w=>⟨w.1,WW (T':=T') ob▸w.2⟩,o.apart,o.new,o.ns.imp λm y=>⟨y.1,λx w h=>(y.2 x w h).imp λz u=>⟨u.1,jv (T:=T) (T':=T') (c:=c) (v:=v)▸u.2⟩⟩,o.lout,o.cells,o.stays,o.frs,o.tabs,o.xlt⟩
theorem aJ.tbl(x:aJ (c.vw T b v) n A env fr):aJ (c.vw T' b v) n A env fr:=
 ⟨x.k0,x.k1,x.k2,x.k3,x.kl,x.kk,x.kfun,x.globs,x.bis,x.frame,x.handled,x.code,x.depth,x.units⟩
theorem cC.tbl{lo:Heap}(x:cC (c.vw T b v) X μ lo k m w e h):cC (c.vw T' b v) X μ lo k m w e h:=
 x.ex.elim λoe y=>y.elim λvs y=>y.elim λdx y=>y.elim λms y=>y.elim λtb y=>⟨oe,vs,dx,ms,tb,y.e1,y.e2,y.e3,y.e4,y.e5,y.e6,y.e7,y.e8,y.e9,y.e10,y.e11,y.e12,
  y.e13.imp λ_ u=>⟨u.1,jv (T:=T) (T':=T') (c:=c) (v:=v)▸u.2⟩,y.e14.imp λ_ u=>⟨u.1,jv (T:=T) (T':=T') (c:=c) (v:=v)▸u.2⟩⟩
theorem j5.tbl(x:j5 (c.vw T b v) k vs H r d):j5 (c.vw T' b v) k vs H r d:=by
 intro n hn X A env fr μ σ s xs Q E q eo o z t
 refine x n hn X A env fr μ σ s xs Q E q eo.tbl o.tbl (jv (T:=T') (T':=T) (c:=c) (v:=v)▸z) ?_
 cases r with
 |ok a H'=>exact λav s' y nx o' dv=>t av s' y nx o'.tbl (by show ad (c.vw T' b v) X av s'.heap a y;rw[jv (T':=T)];exact dv)
 |exc k' m w H'=>exact λav s' e nx o' x'=>t av s' e nx o'.tbl x'.tbl
end
theorem K8(K:∀c:Cx,(∀j,∀v∈c.seg j,dz v=true)->gp c m bs H0 H)(az:dk (b8 m) vs Dy=true)(R:HW H->yD m bs H r0 r)(h0:CT c v k Dy H0 r0 d):CT c v k vs H r d:=
 λT b hb=>X2 (c:=c.vw T b v) hb.ge (K _ v.sp) az R (T:=T) λb' h1 h2=>h0 T b' ⟨λk hk=>(h1 k hk).trans (hb.lt k hk),h2⟩
structure Bt(c:Cx)(tb:(Nat->List V->HT->Option (Nat×R0))->Tb):Prop where
 o:∀O,(tb O).O=O
 s:∀O b v,gk c b->qU (c.vw (tb O) b v)->∀n,lK (c.vw (tb O) b v) n (ev (tb O) c.mc n)
theorem FN(F:Bt c tb)(hO:∀k vs H m r,O k vs H=some (m,r)->CT c v k vs H r m)
 (h:kr (jk (tb O) (ev (tb O) c.mc m) m k vs ⟨H,[]⟩)=some r):CT c v k vs H r m:=λT b hb=>
 have S:=F.s O b v hb (zt λk vs H m r e=>hO k vs H m r ((dI (dI (dI (F.o O) k) vs) H).symm.trans e) _ _ hb) (m+1)
 j5.tbl (T:=tb O) (Op (c:=c.vw (tb O) b v) S.call h)
def ky(H:HT)(l:List aF):HT:=List.rec (motive:=λ_=>HT->HT) (λH=>H) (λo _ ih H=>ih (aH H o)) l H
def lN(H:HT)(l:List (Nat×aF)):HT:=List.rec (motive:=λ_=>HT->HT) (λH=>H) (λp _ ih H=>ih (pH H p.1 p.2)) l H
def co(a:Nat)(k:Nat):List Nat:=Nat.rec (motive:=λ_=>Nat->List Nat) (λ_=>[]) (λ_ ih a=>a::ih (Nat.succ a)) k a
def aD{α β:Type}(o:Option α)(f:α->Option β):Option β:=a7 o f .none
def i3(m:Mt)(a:V):Option V:=
 V.rec (some .none) (λb=>some (.bool b)) (λi=>some (.int i)) (λs=>some (.str s)) (some .nil) (λ_ q hp hq=>Option.rec (aD hp λx=>aD hq λy=>some (.cons x y)) (λ_=>.none) (cu q))
  (λn=>aD (au m.is n) λb=>some (.loc b)) (λk=>some (.fn k)) (λk=>some (.cls k))
  (λk=>aa (Nat.blt k 14) (some (.bi k)) (aD (au m.hid k) λw=>Option.rec (aD (dS w) λj=>aa (Nat.blt j 14) .none (some (.bi j))) (λb=>some (.loc b)) (ci w))) (λ_ _=>.none) (λn=>some (.atom n)) a
def aN{α β:Type}(f:α->Option β)(l:List α):Option (List β):=List.rec (some []) (λx _ ih=>aD (f x) λy=>aD ih λr=>some (y::r)) l
def Br(m:Mt)(o:aF):Option aF:=
 aF.rec (λxs=>aD (aN (i3 m) xs) λys=>some (.list ys)) (λxs=>aD (aN (λp=>aD (i3 m p.2) λv=>some (p.1,v)) xs) λys=>some (.dict ys))
  (λk xs=>aD (aN (λp=>aD (i3 m p.2) λv=>some (p.1,v)) xs) λys=>some (.inst k ys)) (λv=>Option.rec (some (.cell .none)) (λv=>aD (i3 m v) λw=>some (.cell (some w))) v) (λj=>some (.opq j)) (some .dead) o
theorem xf(l:List aF):∀{H:HT},HW H->HW (ky H l)/\(ky H l).n=H.n+l.length/\∀j,gH (ky H l) j=if j<H.n then gH H j else aj l (j-H.n):=by
 induction l with
 |nil=>exact λ{H} w=>⟨w,rfl,λj=>by
  show gH H j=_
  by_cases hj:j<H.n
  · rw[aG hj]
  · rw[ax hj]
    cases e:gH H j with
    |none=>rfl
    |some o=>exact aV (w.lt e) hj⟩
 |cons o r ih=>
  intro H w
  obtain⟨a,b,d⟩:=ih (w.add o)
  refine⟨a,b.trans (by show H.n+1+r.length=H.n+(r.length+1);omega),λj=>(d j).trans ?_⟩
  show(if j<H.n+1 then gH (aH H o) j else aj r (j-(H.n+1)))=_
  rw[w.aget]
  by_cases h1:j<H.n
  · rw[aG h1,aG (by omega),ax (by omega)]
  · rw[ax h1]
    by_cases h2:j=H.n
    · subst h2;rw[aG (by omega),aG rfl,Nat.sub_self];rfl
    · rw[ax (by omega),show j-H.n=(j-(H.n+1))+1 by omega];rfl
theorem xe(l:List aF):HW (hL l)/\(hL l).n=l.length/\∀j,gH (hL l) j=aj l j:=by
 obtain⟨a,b,d⟩:=xf l qO
 exact⟨a,b.trans (dU _),λj=>(d j).trans (ax (Nat.not_lt_zero j))⟩
theorem Wt(l:List (Nat×aF)):∀{H:HT},HW H->HW (lN H l)/\(lN H l).n=H.n:=by
 induction l with
 |nil=>exact λw=>⟨w,rfl⟩
 |cons p r ih=>exact λw=>⟨(ih (w.put p.1 p.2)).1,(ih (w.put p.1 p.2)).2⟩
theorem jo:∀(k a j:Nat),aj (co a k) j=if j<k then some (a+j) else none
 |0,a,j=>by rw[ax (Nat.not_lt_zero j)];rfl
 |k+1,a,0=>by rw[aG (Nat.succ_pos k)];rfl
 |k+1,a,j+1=>by
  show aj (co (a+1) k) j=_
  rw[jo k (a+1) j]
  by_cases h:j<k
  · rw[aG h,aG (Nat.succ_lt_succ h)];exact aq some (by omega)
  · rw[ax h,ax (by omega)]
theorem qW:∀(k a:Nat),(co a k).length=k
 |0,_=>rfl
 |k+1,a=>aq (· +1) (qW k (a+1))
theorem O7(h:i∈co a k):a<=i/\i<a+k:=by
 obtain⟨j,hj⟩:=Ia h
 rw[jo] at hj
 by_cases hk:j<k
 · rw[aG hk] at hj;have:=af hj;omega
 · rw[ax hk] at hj;exact ns hj
theorem NT(h:∀i j b,aj l i=some b->aj l j=some b->i=j):l.Nodup:=by
 refine List.pairwise_iff_getElem.mpr λi j hi hj lt e=>Nat.ne_of_lt lt (h i j l[i] (by rw[de];exact List.getElem?_eq_getElem hi) (by rw[de,List.getElem?_eq_getElem hj];exact aq some e.symm))
theorem TT(a k:Nat):(co a k).Nodup:=NT λi j b hi hj=>by
 rw[jo] at hi hj
 by_cases h1:i<k
 · by_cases h2:j<k
   · rw[aG h1] at hi;rw[aG h2] at hj;have:=af hi;have:=af hj;omega
   · rw[ax h2] at hj;exact ns hj
 · rw[ax h1] at hi;exact ns hi
theorem me:eJ x l=true↔x∈l:=by
 induction l with
 |nil=>exact⟨λh=>ft h,λh=>nomatch h⟩
 |cons y r ih=>
  show aa (Nat.beq x y) true (eJ x r)=true↔_
  by_cases h:x=y
  · subst h;rw[bx.mpr rfl];exact⟨λ_=>.head _,λ_=>rfl⟩
  · rw[dY.mpr h,cV,ih];exact⟨.tail _,λq=>(List.mem_cons.mp q).elim (λq=>aV q h) id⟩
theorem yn(h:lw l=true):l.Nodup:=by
 induction l with
 |nil=>exact .nil
 |cons x r ih=>
  have h:=cf (h)
  exact List.nodup_cons.mpr ⟨λq=>tf ((me.mpr q).symm.trans h.1),ih h.2⟩
theorem XM(l:List (Nat×Nat)):au l i=some b->fg l i b=true:=by
 induction l with
 |nil=>exact λe=>ns e
 |cons p r ih=>
  obtain⟨j,d⟩:=p
  intro e
  rw[dy] at e
  refine(sh j d r i b).mpr ?_
  by_cases h:j=i
  · rw[aG h] at e;exact .inl ⟨h,af e⟩
  · rw[ax h] at e;exact .inr (ih e)
theorem bq{α β:Type}{o:Option α}{f:α->Option β}{b:β}{G:Prop}(h:aD o f=some b)(k:∀a,o=some a->f a=some b->G):G:=by cases o with|none=>exact ns h|some a=>exact k a rfl h
theorem r5(k:Nat):dK (some k) k=true:=Nat.beq_refl k
theorem xd(a:List Nat):seq a a=true:=fj.mpr rfl
theorem XT{m:Mt}{a b:V}(h:i3 m a=some b)(k:cu a=none):cu b=none:=by
 cases a with
 |cons p q=>
  have h:Option.rec (aD (i3 m p) λx=>aD (i3 m q) λy=>some (.cons x y)) (λ_=>.none) (cu q)=some b:=h
  cases hq:cu q with
  |some _=>rw[hq] at h;exact ns h
  |none=>rw[hq] at h;exact bq h λx _ h=>bq h λy _ h=>af h▸rfl
 |loc n=>exact bq (h) λx _ h=>af h▸rfl
 |bi j=>
  have h:aa (Nat.blt j 14) (some (.bi j)) (aD (au m.hid j) λw=>Option.rec (aD (dS w) λj=>aa (Nat.blt j 14) .none (some (.bi j))) (λb=>some (.loc b)) (ci w))=some b:=h
  cases hj:Nat.blt j 14 with
  |true=>rw[hj] at h;exact af h▸rfl
  |false=>
   rw[hj] at h
   refine bq h λw _ h=>?_
   cases hl:ci w with
   |some _=>rw[hl] at h;exact af h▸rfl
   |none=>
    rw[hl] at h
    refine bq (h) λj' _ h=>?_
    cases Nl:Nat.blt j' 14 with
    |true=>rw[Nl] at h;exact ns h
    |false=>rw[Nl] at h;exact af h▸rfl
 |clo=>exact ns h
 |atom=>exact sn k
 |_=>exact af h▸rfl
theorem pD{m:Mt}(a:V):∀{b:V},i3 m a=some b->b8 m b a=true:=by
 induction a with
 |none|nil=>exact λh=>af h▸rfl
 |bool x=>exact λh=>af h▸by cases x<;>rfl
 |int i=>exact λh=>af h▸decide_eq_true rfl
 |str s=>exact λh=>af h▸xd s
 |fn k|cls k|atom k=>exact λh=>af h▸r5 k
 |clo=>exact λh=>ns h
 |loc n=>exact λ{b} h=>bq (h) λx hx h=>af h▸XM _ hx
 |cons p q hp hq=>
  intro b h
  have h:Option.rec (aD (i3 m p) λx=>aD (i3 m q) λy=>some (.cons x y)) (λ_=>.none) (cu q)=some b:=h
  cases gM:cu q with
  |some _=>rw[gM] at h;exact ns h
  |none=>
   rw[gM] at h
   refine bq h λx hx h=>bq h λy hy h=>af h▸?_
   show aa (b8 m x p) (Option.rec (b8 m y q) (λ_=>false) (cu y)) false=true
   rw[hp hx,XT hy gM]
   exact hq hy
 |bi j=>
  intro b h
  have h:aa (Nat.blt j 14) (some (.bi j)) (aD (au m.hid j) λw=>Option.rec (aD (dS w) λj=>aa (Nat.blt j 14) .none (some (.bi j))) (λb=>some (.loc b)) (ci w))=some b:=h
  cases hj:Nat.blt j 14 with
  |true=>
   rw[hj] at h
   refine af h▸?_
   show aa (Nat.blt j 14) (dK (some j) j) _=true
   rw[hj];exact r5 j
  |false=>
   rw[hj] at h
   have hle:=Nat.ble_eq_true_of_le (Nat.le_of_not_lt λq=>ft (hj.symm.trans (mQ q)))
   refine bq h λw hw h=>?_
   cases hl:ci w with
   |some n=>
    rw[hl] at h
    refine af h▸?_
    show aa (Nat.ble 14 j) (Option.rec false (λw=>dK (ci w) n) (au m.hid j)) false=true
    rw[hle,hw]
    show dK (ci w) n=true
    rw[hl];exact r5 n
   |none=>
    rw[hl] at h
    refine bq (h) λk hk h=>?_
    cases Dz:Nat.blt k 14 with
    |true=>rw[Dz] at h;exact ns h
    |false=>
     rw[Dz] at h
     refine af h▸?_
     show aa (Nat.blt k 14) (dK (some j) k) (aa (Nat.ble 14 j) (Option.rec false (λw=>dK (dS w) k) (au m.hid j)) false)=true
     rw[Dz,hle,hw]
     show dK (dS w) k=true
     rw[hk];exact r5 k
structure CA(m m':Mt):Prop where
 is:∀i b,fg m.is i b=true->fg m'.is i b=true
 hid:m'.hid=m.hid
theorem Zn(L:CA m m')(b:V):∀{a:V},b8 m b a=true->b8 m' b a=true:=by
 induction b with
 |cons p q hp hq=>
  exact λ{a} e=>bV (e) λr hr e=>by
   have e:=aO e
   show Option.rec false (λr:V×V=>aa (b8 m' p r.1) (Option.rec (b8 m' q r.2) (λ_=>false) (cu q)) false) (wL a)=true
   rw[hr]
   show aa (b8 m' p r.1) (Option.rec (b8 m' q r.2) (λ_=>false) (cu q)) false=true
   rw[hp e.1]
   have e2:=e.2
   cases gM:cu q with
   |some _=>rw[gM] at e2;exact ft e2
   |none=>rw[gM] at e2;exact hq e2
 |loc n=>
  intro a e
  have e:Option.rec (Option.rec false (λk=>aa (Nat.ble 14 k) (Option.rec false (λw=>dK (ci w) n) (au m.hid k)) false) (dS a)) (λi=>fg m.is i n) (ci a)=true:=e
  show Option.rec (Option.rec false (λk=>aa (Nat.ble 14 k) (Option.rec false (λw=>dK (ci w) n) (au m'.hid k)) false) (dS a)) (λi=>fg m'.is i n) (ci a)=true
  rw[L.hid]
  cases hl:ci a with
  |some i=>rw[hl] at e;exact L.is i n e
  |none=>rw[hl] at e;exact e
 |bi k=>
  intro a e
  have e:=e
  show aa (Nat.blt k 14) (dK (dS a) k) (Option.rec false (λj=>aa (Nat.ble 14 j) (Option.rec false (λw=>dK (dS w) k) (au m'.hid j)) false) (dS a))=true
  rw[L.hid];exact e
 |_=>exact λe=>e
theorem CV{α β:Type}{f g:α->β->Bool}(k:∀x y,f x y=true->g x y=true)(l:List α):∀{l0:List β},dk f l l0=true->dk g l l0=true:=by
 induction l with
 |nil=>exact λe=>e
 |cons x r ih=>
  intro l0 e
  cases l0 with
  |nil=>exact ft e
  |cons y q=>
   have e:=aO e
   show aa (g x y) (dk g r q) false=true
   rw[k x y e.1];exact ih e.2
theorem Wo{m m':Mt}(L:CA m m')(e:i4 m o o0=true):i4 m' o o0=true:=by
 have kk:∀x y,b8 m x y=true->b8 m' x y=true:=λx y=>Zn L x
 cases o with
 |list xs=>
  refine bV e λys hy e=>?_
  show Option.rec false (λys=>dk (b8 m') xs ys) (lL o0)=true
  rw[hy];exact CV kk xs e
 |dict xs=>
  refine bV e λys hy e=>?_
  show Option.rec false (λys=>dk (λx y=>aa (seq x.1 y.1) (b8 m' x.2 y.2) false) xs ys) (yA o0)=true
  rw[hy]
  exact CV (λx y e=>by have e:=aO e;rw[e.1];exact kk _ _ e.2) xs e
 |inst k xs=>
  refine bV e λy hy e=>?_
  show Option.rec false (λy=>aa (Nat.beq k y.1) (dk (λx y=>aa (Nat.beq x.1 y.1) (b8 m' x.2 y.2) false) xs y.2) false) (wI o0)=true
  rw[hy]
  have e:=aO e
  show aa _ _ _=true
  rw[e.1]
  exact CV (λx y e=>by have e:=aO e;rw[e.1];exact kk _ _ e.2) xs e.2
 |cell v=>
  refine bV e λw hw e=>?_
  show Option.rec false (λw=>EP (b8 m') v w) (qT o0)=true
  rw[hw]
  cases v with
  |none=>exact e
  |some v=>cases w with
   |none=>exact e
   |some w=>exact kk v w e
 |opq j=>exact e
 |dead=>exact e
theorem wx{α β:Type}{f:α->Option β}{g:β->α->Bool}(k:∀x y,f x=some y->g y x=true)(l:List α):∀{r:List β},aN f l=some r->dk g r l=true:=by
 induction l with
 |nil=>exact λe=>af e▸rfl
 |cons x q ih=>
  intro r e
  refine bq (e) λy hy e=>bq e λr' hr e=>af e▸?_
  show aa (g y x) (dk g r' q) false=true
  rw[k x y hy];exact ih hr
theorem IU{m:Mt}{o o':aF}(h:Br m o=some o'):i4 m o' o=true:=by
 cases o with
 |list xs=>exact bq (h) λys hy e=>af e▸wx (λx y=>pD x) xs hy
 |dict xs=>
  refine bq (h) λys hy e=>af e▸?_
  exact wx (g:=λx y=>aa (seq x.1 y.1) (b8 m x.2 y.2) false) (λx y e=>bq e λw hw e=>af e▸by rw[xd];exact pD _ hw) xs hy
 |inst k xs=>
  refine bq (h) λys hy e=>af e▸?_
  show aa (Nat.beq k k) (dk (λx y=>aa (Nat.beq x.1 y.1) (b8 m x.2 y.2) false) ys xs) false=true
  rw[Nat.beq_refl]
  exact wx (g:=λx y=>aa (Nat.beq x.1 y.1) (b8 m x.2 y.2) false) (λx y e=>bq e λw hw e=>af e▸by rw[Nat.beq_refl];exact pD _ hw) xs hy
 |cell v=>
  cases v with
  |none=>exact af h▸rfl
  |some v=>exact bq (h) λw hw e=>af e▸(pD v hw:b8 m w v=true)
 |opq j=>exact af h▸r5 j
 |dead=>exact af h▸rfl
inductive gx|arg (j:Nat)|at (p f:Nat)|tup (q:gx) (j:Nat)
inductive Rz|ok (v:V)|exc (k:Nat) (m v:V)
def Rz.at(r:Rz)(H:HT):R0:=Rz.rec (λv=>.ok v H) (λk m v=>.exc k m v H) r
structure En where
 k:Nat
 vs:List V
 l0:List aF
 pl:List gx
 hd:List (Nat×gx)
 d:Nat
 r:Rz
 ch:List (Nat×aF)
 nw:List aF
 np:List gx
def En.end(e:En):HT:=ky (lN (hL e.l0) e.ch) e.nw
def Tm(o:aF)(f:Nat):Option V:=aF.rec (λxs=>aj xs f) (λbF=>a7 (aj bF f) (λp=>some p.2) .none) (λ_ as=>au as f) (λv=>v) (λ_=>.none) .none o
def IQ(vs:List V)(H:HT)(p:gx)(bs:List Nat):Option V:=
 gx.rec (λj=>aj vs j) (λp f=>a7 (aj bs p) (λb=>a7 (gH H b) (λo=>Tm o f) .none) .none) (λ_ j ih=>a7 ih (λv=>a7 (cJ v) (λl=>aj l j) .none) .none) p
def qh(vs:List V)(H:HT)(pl:List gx):List Nat->Option (List Nat):=
 List.rec (λbs=>some bs) (λp _ ih bs=>a7 (IQ vs H p bs) (λv=>a7 (ci v) (λb=>ih (app bs [b])) .none) .none) pl
def RX(vs:List V)(H:HT)(bs:List Nat)(hd:List (Nat×gx)):Option (List (Nat×V)):=
 List.rec (some []) (λp _ ih=>a7 (IQ vs H p.2 bs) (λv=>a7 ih (λl=>some ((p.1,v)::l)) .none) .none) hd
def Kh(H:HT)(hid:List (Nat×V)):Bool:=List.rec true (λp _ ih=>aa (Nat.blt p.1 1000) (aa (Option.rec true (λb=>(gH H b).isSome) (ci p.2)) ih false) false) hid
def tF(m:Mt)(bs:List Nat)(l0:List aF)(H:HT):Bool:=
 aa (lw bs) (aa (Kh H m.hid) (dk (λb o0=>Option.rec false (λo=>i4 m o o0) (gH H b)) bs l0) false) false
def Hg(m:Mt)(bs:List Nat)(ch:List (Nat×aF)):Option (List (Nat×aF)):=aN (λp=>aD (aj bs p.1) λb=>aD (Br m p.2) λo=>some (b,o)) ch
def QR(m:Mt)(r:Rz):Option Rz:=Rz.rec (λv=>aD (i3 m v) λw=>some (.ok w)) (λk a v=>aD (i3 m a) λb=>aD (i3 m v) λw=>some (.exc k b w)) r
def Ol(e:En)(bs:List Nat)(H:HT)(m:Mt):Option (Nat×R0):=
 aD (Hg m bs e.ch) λch=>aD (aN (Br m) e.nw) λnw=>aD (QR m e.r) λr=>some (e.d,r.at (ky (lN H ch) nw))
def Pu(e:En)(vs:List V)(H:HT)(bs:List Nat)(hid:List (Nat×V)):Option (Nat×R0):=
 aa (aa (tF ⟨dh bs 0,hid⟩ bs e.l0 H) (dk (b8 ⟨dh bs 0,hid⟩) vs e.vs) false) (Ol e bs H ⟨dh (app bs (co H.n (len e.nw))) 0,hid⟩) .none
def sE(e:En)(vs:List V)(H:HT):Option (Nat×R0):=aD (qh vs H e.pl []) λbs=>aD (RX vs H bs e.hd) λhid=>Pu e vs H bs hid
def lZ(es:List En)(k:Nat)(vs:List V)(H:HT):Option (Nat×R0):=
 List.rec .none (λe _ ih=>aa (Nat.beq e.k k) (Option.rec ih (λx=>some x) (sE e vs H)) ih) es
def bT(c:Cx)(v:cc)(e:En):Prop:=CT c v e.k e.vs (hL e.l0) (e.r.at e.end) e.d
theorem wW{α β:Type}{f:α->β->Bool}{l:List α}:∀{l0:List β},dk f l l0=true->l.length=l0.length/\∀i y,aj l0 i=some y->∃x,aj l i=some x/\f x y=true:=by
 induction l with
 |nil=>exact λ{l0} e=>by cases l0 with|nil=>exact⟨rfl,λi y q=>ns q⟩|cons=>exact ft e
 |cons x r ih=>
  intro l0 e
  cases l0 with
  |nil=>exact ft e
  |cons y q=>
   have e:=aO e
   exact⟨aq (· +1) (ih e.2).1,λi z hz=>by
    cases i with
    |zero=>exact⟨x,rfl,af hz▸e.1⟩
    |succ i=>exact(ih e.2).2 i z hz⟩
theorem nZ{α:Type}{l:List (Nat×α)}{v:α}(h:au l k=some v):(k,v)∈l:=by
 induction l with
 |nil=>exact ns h
 |cons p r ih=>
  obtain⟨j,w⟩:=p
  rw[dy] at h
  by_cases e:j=k
  · rw[aG e] at h;exact e▸af h▸.head _
  · rw[ax e] at h;exact .tail _ (ih h)
theorem W9(h:Kh H hid=true):∀p∈hid,p.1<1000/\∀b,p.2=.loc b->(gH H b).isSome=true:=by
 induction hid with
 |nil=>exact λp q=>nomatch q
 |cons p r ih=>
  have h:=aO (h)
  have h2:=aO h.2
  refine bD ⟨⟨cF h.1,λb e=>?_⟩,ih h2.2⟩
  have:=h2.1
  rw[e] at this
  exact this
theorem BX{bs:List Nat}{hid:List (Nat×V)}{l0:List aF}(h:tF ⟨dh bs 0,hid⟩ bs l0 H=true)(c:Cx)(sp:∀j,∀v∈c.seg j,dz v=true):gp c ⟨dh bs 0,hid⟩ bs (hL l0) H:=
 have h1:=aO h
 have h2:=aO h1.2
 have h3:=wW h2.2
 { is:=rfl
   n:=h3.1.trans (xe l0).2.1.symm
   w:=(xe l0).1
   nd:=yn h1.1
   obj:=λi o0 e=>(h3.2 i o0 ((xe l0).2.2 i▸e)).elim λb w=>ob w.2 (λo ho e=>⟨b,o,w.1,ho,e⟩) λe=>ft e
   hid:=λk v e=>W9 h2.1 (k,v) (nZ e)
   sp:=sp}
structure nJ(m:Mt)(bs:List Nat)(H kh Ht:HT):Prop where
 w0:HW kh
 w:HW Ht
 n0:kh.n=bs.length
 n:Ht.n=H.n
 rel:∀i b,aj bs i=some b->∃o0 o,gH kh i=some o0/\gH Ht b=some o/\i4 m o o0=true
 out:∀b,(∀i,aj bs i≠some b)->gH Ht b=gH H b
theorem nJ.put(S:nJ m bs H kh Ht)(nd:bs.Nodup)(hb:aj bs i=some b)(e:i4 m o' o=true):nJ m bs H (pH kh i o) (pH Ht b o') where
 w0:=S.w0.put i o
 w:=S.w.put b o'
 n0:=S.n0
 n:=S.n
 rel:=λj d hd=>by
  obtain⟨o1,o2,h1,h2,h3⟩:=S.rel j d hd
  rw[qB,qB]
  by_cases ej:j=i
  · subst ej
    have ed:=bz hb hd
    subst ed
    rw[aG rfl,aG rfl,h1,h2]
    exact⟨o,o',rfl,rfl,e⟩
  · rw[ax ej,ax λq:d=b=>ej (ym nd hd (q▸hb))]
    exact⟨o1,o2,h1,h2,h3⟩
 out:=λd hd=>by
  rw[qB,ax λq:d=b=>hd i (q▸hb)]
  exact S.out d hd
theorem nJ.puts(nd:bs.Nodup)(l:List (Nat×aF)):∀{kh Ht:HT} {l':List (Nat×aF)},nJ m bs H kh Ht->Hg m bs l=some l'->nJ m bs H (lN kh l) (lN Ht l'):=by
 induction l with
 |nil=>exact λS e=>af e▸S
 |cons p r ih=>
  exact λ{kh Ht l'} S e=>bq (e) λy hy e=>bq e λr' hr e=>af e▸
   bq hy λb hb hy=>bq hy λo ho hy=>by
    obtain rfl:=af hy
    exact ih (Ht:=pH Ht b o) (l':=r') (S.put nd hb (IU ho)) hr
theorem Bw(h:fg (dh bs 0) i b=true):aj bs i=some b:=(HQ bs h).elim λj w=>by rw[w.1,dU];exact w.2
theorem BV(h:aj bs i=some b):fg (dh bs 0) i b=true:=by have:=RG bs (k:=0) h;rwa [dU] at this
theorem Oz{bs:List Nat}{hid:List (Nat×V)}(S:nJ ⟨dh (bs++co H.n nw.length) 0,hid⟩ bs H kh Ht)(hn:dk (i4 ⟨dh (bs++co H.n nw.length) 0,hid⟩) DA nw=true):
 ix ⟨dh bs 0,hid⟩ ⟨dh (bs++co H.n nw.length) 0,hid⟩ bs (co bs.length nw.length) (ky kh nw) H (ky Ht DA):=by
 obtain⟨a1,a2,a3⟩:=xf nw S.w0
 obtain⟨b1,b2,b3⟩:=xf DA S.w
 have hl:=(wW hn).1
 refine⟨b1,by rw[b2,S.n,hl,qW],TT _ _,λi hi=>?_,rfl,λi b h=>?_,λb ob h=>?_⟩
 · have:=O7 hi;rw[a2,S.n0];exact this
 · refine(sA (Bw h)).imp id λw=>w.elim λj w=>⟨j,?_,?_⟩
   · have h2:=w.2
     rw[jo] at h2 ⊢
     by_cases q:j<nw.length
     · rw[aG q,w.1]
     · rw[ax q] at h2;exact ns h2
   · have h2:=w.2
     rw[jo] at h2
     by_cases q:j<nw.length
     · rw[aG q] at h2;exact(af h2).symm
     · rw[ax q] at h2;exact ns h2
 · rw[b3,S.n] at h
   by_cases hb:b<H.n
   · rw[aG hb] at h
     by_cases hx:∃i,aj bs i=some b
     · obtain⟨i,hi⟩:=hx
       obtain⟨o0,o,h1,h2,h3⟩:=S.rel i b hi
       refine .inr ⟨i,o0,BV (x9 hi),?_,.inr (bz h2 h▸h3)⟩
       rw[a3,aG (S.n0▸i7 hi)];exact h1
     · exact .inl ⟨hb,λi q=>hx ⟨i,q⟩,S.out b (λi q=>hx ⟨i,q⟩)▸h⟩
   · rw[ax hb] at h
     have lt:=i7 h
     obtain⟨o0,h0⟩:=vc (l:=nw) (hl▸lt)
     obtain⟨o1,h1,h2⟩:=(wW hn).2 _ o0 h0
     refine .inr ⟨bs.length+(b-H.n),o0,BV ?_,?_,.inr (bz h1 h▸h2)⟩
     · rw[F7,jo,aG (hl▸lt)];exact aq some (by omega)
     · rw[a3,S.n0,ax (by omega),Nat.add_sub_cancel_left];exact h0
theorem GM(E:bT c v e)(h:sE e vs H=some (d,r)):CT c v e.k vs H r d:=
 bq h λbs _ h=>bq h λhid _ h=>by
  have h:=cs (h)
  have h1:=aO h.1
  have h2:=h.2
  rw[cq,bH] at h2
  have K:=BX h1.1
  refine bq h2 λch hch h2=>bq h2 λnw hnw h2=>bq h2 λr' hr h2=>?_
  have ed:=aq Prod.fst (af h2)
  have er:=aq Prod.snd (af h2)
  subst ed;subst er
  refine K8 K h1.2 (λw=>?_) E
  have L:CA ⟨dh bs 0,hid⟩ ⟨dh (bs++co H.n e.nw.length) 0,hid⟩:=⟨λi b q=>BV (x9 (Bw q)),rfl⟩
  have Kd:gp (c.vw c.T c.biV v) ⟨dh bs 0,hid⟩ bs (hL e.l0) H:=K _ v.sp
  have S:nJ ⟨dh (bs++co H.n e.nw.length) 0,hid⟩ bs H (hL e.l0) H:=⟨Kd.w,w,Kd.n.symm,rfl,λi b q=>by
   obtain⟨o0,ho⟩:=Kd.w.some (Kd.n▸i7 q)
   obtain⟨b',o,z1,z2,z3⟩:=Kd.obj i o0 ho
   exact⟨o0,o,ho,bz z1 q▸z2,Wo L z3⟩,λb _=>rfl⟩
  have G:=Oz (S.puts Kd.nd e.ch hch) (wx (λx y=>IU) e.nw hnw)
  revert hr
  cases e.r with
  |ok v=>exact λhr=>bq hr λx hx hr=>af hr▸.ok G (pD v hx)
  |exc k a v=>exact λhr=>bq hr λx hx hr=>bq hr λy hy hr=>af hr▸.exc G (pD a hx) (pD v hy)
theorem vr(h:∀e∈es,bT c v e)(q:lZ es k vs H=some (d,r)):CT c v k vs H r d:=by
 induction es with
 |nil=>exact ns q
 |cons e l ih=>
  have w:=ug h
  have q:aa (Nat.beq e.k k) (Option.rec (lZ l k vs H) (λx=>some x) (sE e vs H)) (lZ l k vs H)=some (d,r):=q
  cases hk:Nat.beq e.k k with
  |false=>rw[hk] at q;exact ih w.2 q
  |true=>
   rw[hk] at q
   cases hu:sE e vs H with
   |none=>rw[hu] at q;exact ih w.2 q
   |some x=>rw[hu] at q;exact bx.mp hk▸GM w.1 (hu.trans q)
def nG(bs:List Nat):Nat->List (Nat×Nat):=List.rec (λ_=>[]) (λb _ ih i=>(b,i)::ih (Nat.succ i)) bs
def zq(k:Nat):Nat->List (Nat×V):=Nat.rec (λ_=>[]) (λ_ ih a=>(a,.bi a)::ih (Nat.succ a)) k
def iS:List (Nat×V):=zq 26 14
def IM(m:Mt)(ob o1:aF):Bool:=aa (oW ob) true (i4 m ob o1)
def ZC(m:Mt)(G H1:HT)(b i:Nat):Bool:=Option.rec false (λob=>Option.rec false (λo1=>IM m ob o1) (gH H1 i)) (gH G b)
def EJ(a n:Nat)(l:List Nat):Bool:=List.rec true (λi _ ih=>aa (Nat.ble a i) (aa (Nat.blt i n) ih false) false) l
def Fd(e:En)(qa:List V)(H1:HT)(vs:List V)(full:List Nat):Bool:=
 aa (lw full) (aa (Nat.beq (len full) (Nat.add (len e.l0) (len e.nw))) (aa (EJ (len e.l0) H1.n (nl (len e.l0) full)) (aa (dk (ZC ⟨nG full 0,iS⟩ e.end H1) (co 0 (len full)) full) (dk (b8 ⟨nG full 0,iS⟩) vs qa) false) false) false) false
def LV(e:En)(qa:List V)(H1:HT)(vs:List V):Bool:=Option.rec false (λfull=>Fd e qa H1 vs full) (qh qa H1 e.np (co 0 (len e.l0)))
def GR(e:En)(r1:R0):Bool:=
 R0.rec (λv1 H1=>Rz.rec (λv=>LV e [v1] H1 [v]) (λ_ _ _=>false) e.r) (λk1 m1 v1 H1=>Rz.rec (λ_=>false) (λk m v=>aa (Nat.beq k k1) (LV e [m1,v1] H1 [m,v]) false) e.r) r1
def TE(e:En)(r1:R0):Bool:=
 aa (tF ⟨dh (co 0 (len e.l0)) 0,iS⟩ (co 0 (len e.l0)) e.l0 (hL e.l0)) (aa (dk (b8 ⟨dh (co 0 (len e.l0)) 0,iS⟩) e.vs e.vs) (GR e r1) false) false
def fX(T:Tb)(mc:Nat->Option Nat)(e:En):Bool:=Option.rec false (λr1=>TE e r1) (kr (jk T (ev T mc e.d) e.d e.k e.vs ⟨hL e.l0,[]⟩))
theorem Oy(bs:List Nat):∀{k i b:Nat},fg (nG bs k) i b=true->∃j,b=k+j/\aj bs j=some i:=by
 induction bs with
 |nil=>exact λe=>ft e
 |cons d r ih=>exact λ{k i b} e=>((sh d k (nG r (Nat.succ k)) i b).mp e).elim (λw=>⟨0,w.2.symm,aq some w.1⟩) λw=>(ih w).elim λj z=>⟨j+1,z.1.trans (by omega),z.2⟩
theorem PA(bs:List Nat):∀{k j i:Nat},aj bs j=some i->fg (nG bs k) i (k+j)=true:=by
 induction bs with
 |nil=>exact λe=>ns e
 |cons d r ih=>
  intro k j i e
  refine(sh d k (nG r (Nat.succ k)) i (k+j)).mpr ?_
  cases j with
  |zero=>exact .inl ⟨af e,rfl⟩
  |succ j=>exact .inr ((by omega:Nat.succ k+j=k+(j+1))▸ih e)
theorem oC{α β:Type}{o:Option α}{f:α->Option β}{b:β}{G:Prop}(h:a7 o f none=some b)(k:∀a,o=some a->f a=some b->G):G:=by cases o with|none=>exact ns h|some a=>exact k a rfl h
theorem Ud{vs:List V}{H:HT}(pl:List gx):∀{bs full:List Nat},qh vs H pl bs=some full->∃l,full=bs++l:=by
 induction pl with
 |nil=>exact λe=>⟨[],by rw[List.append_nil];exact(af e).symm⟩
 |cons p r ih=>
  exact λ{bs full} e=>oC (e) λv _ e=>oC e λb _ e=>(ih e).elim λl w=>⟨b::l,by rw[w,cq,List.append_assoc];rfl⟩
theorem YK(h:EJ a n l=true):∀i∈l,a<=i/\i<n:=by
 induction l with
 |nil=>exact λi q=>nomatch q
 |cons x r ih=>
  have h:=aO (h)
  have h2:=aO h.2
  exact bD ⟨⟨dL h.1,cF h2.1⟩,ih h2.2⟩
theorem NW(w:aj (co 0 n) b=some i):aj (co 0 n) i=some b:=by
 rw[jo] at w
 by_cases q:b<n
 · rw[aG q,dU] at w
   obtain rfl:=af w
   rw[jo,aG q,dU]
 · rw[ax q] at w;exact ns w
theorem Ty{ob o1:aF}(h:IM m ob o1=true):oW ob=true\/i4 m ob o1=true:=by
 have h:aa (oW ob) true (i4 m ob o1)=true:=h
 cases e:oW ob with
 |true=>exact .inl rfl
 |false=>rw[e] at h;exact .inr h
theorem Ex(hp:qh qa H1 e.np (co 0 (len e.l0))=some full)(h:Fd e qa H1 vs full=true):
 ix ⟨dh (co 0 (len e.l0)) 0,iS⟩ ⟨nG full 0,iS⟩ (co 0 (len e.l0)) (nl (len e.l0) full) H1 (hL e.l0) e.end/\dk (b8 ⟨nG full 0,iS⟩) vs qa=true:=by
 have h1:=aO h
 have h2:=aO h1.2
 have h3:=aO h2.2
 have h4:=aO h3.2
 obtain⟨l,hl⟩:=Ud e.np hp
 have hd:nl (len e.l0) full=l:=by rw[xq,hl,List.drop_left' (qW _ _)]
 have w0:=xe e.l0
 have w1:=Wt e.ch w0.1
 have w2:=xf e.nw w1.1
 have hn:e.end.n=e.l0.length+e.nw.length:=by show(ky (lN (hL e.l0) e.ch) e.nw).n=_;rw[w2.2.1,w1.2,w0.2.1]
 have hf:full.length=e.l0.length+e.nw.length:=by have:=bx.mp h2.1;rw[bH,bH,bH] at this;exact this
 have hll:l.length=e.nw.length:=by have:=hf;rw[hl,List.length_append,qW,bH] at this;omega
 refine⟨⟨w2.1,?_,?_,λi hi=>?_,rfl,λi b q=>?_,λb ob q=>?_⟩,h4.2⟩
 · rw[hn,w0.2.1,hd,hll]
 · rw[hd];have:=yn h1.1;rw[hl] at this;exact(List.nodup_append.mp this).2.1
 · rw[qW];exact YK h3.1 i hi
 · obtain⟨j,hj,hg⟩:=Oy full q
   rw[dU] at hj
   subst hj
   rw[hl] at hg
   refine(sA hg).imp (λw=>NW w) λw=>w.elim λd w=>⟨d,by rw[hd];exact w.2,?_⟩
   have:=w.1
   rw[qW,bH] at this
   rw[w0.2.1];exact this
 · have hb:b<full.length:=by rw[hf,← hn];exact w2.1.lt q
   obtain⟨i,hi⟩:=vc (l:=full) hb
   obtain⟨b',nX,ho⟩:=(wW h4.1).2 b i hi
   rw[jo,bH,aG hb,dU] at nX
   obtain rfl:=af nX
   refine bV (ho) λC7 h5 h6=>bV h6 λo1 h7 h8=>?_
   have e1:=bz h5 q
   subst e1
   exact .inr ⟨i,o1,by have:=PA full (k:=0) hi;rwa [dU] at this,h7,Ty h8⟩
theorem ER(h:dk f [a,b] [x,y]=true):f a x=true/\f b y=true:=⟨(aO h).1,(aO (aO h).2).1⟩
theorem qk(F:Bt c tb)(hO:∀k vs H m r,O k vs H=some (m,r)->CT c v k vs H r m)
 (h:fX (tb O) c.mc e=true):bT c v e:=by
 refine bV (h) λr1 hr h=>?_
 have C:=FN F hO hr
 have h1:=aO h
 have h2:=aO h1.2
 refine K8 (BX h1.1) h2.1 (λ_=>?_) C
 have h3:=h2.2
 revert h3
 unfold GR
 cases r1 with
 |ok v1 H1=>cases e.r with
  |ok v=>exact λh=>bV (h) λfull hp h=>let G:=Ex hp h;.ok G.1 (aO G.2).1
  |exc=>exact λh=>ft h
 |exc k1 m1 v1 H1=>cases e.r with
  |ok=>exact λh=>ft h
  |exc k m v=>
   intro h
   have h:=aO (h)
   obtain rfl:=bx.mp h.1
   exact bV (h.2) λfull hp h=>let G:=Ex hp h;.exc G.1 (ER G.2).1 (ER G.2).2
structure jK(c c':Cx):Prop where
 prog:c'.prog=c.prog
 w:c'.w=c.w
 base:c'.base=c.base
 nm:c'.nm=c.nm
 fn:c'.fnA=c.fnA
 cl:c'.clA=c.clA
 tabs:c'.tabs=c.tabs
 tq:c'.tq=c.tq
def VE(c c':Cx)(a a':V):Prop:=∀X μ h x,ad c X μ h a x↔ad c' X μ h a' x
def OE(c c':Cx)(o o':aF):Prop:=∀X μ h p,RO c X μ h p o↔RO c' X μ h p o'
structure HE(c c':Cx)(H H':HT):Prop where
 n:H'.n=H.n
 w:HW H
 w':HW H'
 o:∀i o,gH H i=some o->∃o',gH H' i=some o'/\OE c c' o o'
section
variable{c c':Cx}{X:Addr->Prop}{A:Around}{env:Env}{fr:Fr}{μ:Mu}{σ:Sg}{s:Shared}{h:Heap}{H H':HT}
theorem OE.symm(x:OE c c' a a'):OE c' c a' a:=λX μ h y=>(x X μ h y).symm
theorem HE.symm(x:HE c c' H H'):HE c' c H' H:=⟨x.n.symm,x.w',x.w,λi o' e=>(x.w.some (x.n▸x.w'.lt e)).elim λo q=>(x.o i o q).elim λo1 z=>⟨o,q,bz z.1 e▸z.2.symm⟩⟩
theorem jK.symm(K:jK c c'):jK c' c:=⟨K.prog.symm,K.w.symm,K.base.symm,K.nm.symm,K.fn.symm,K.cl.symm,K.tabs.symm,K.tq.symm⟩
theorem HE.put(x:HE c c' H H')(i:Nat){o o':aF}(e:OE c c' o o'):HE c c' (pH H i o) (pH H' i o'):=⟨x.n,x.w.put i o,x.w'.put i o',λj o1 h=>by
 rw[qB] at h ⊢
 by_cases q:j=i
 · rw[aG q] at h ⊢
   obtain⟨o2,h2,h3⟩:=Option.map_eq_some_iff.mp h
   obtain⟨o3,h4,_⟩:=x.o i o2 h2
   rw[h4];exact⟨o',rfl,h3▸e⟩
 · rw[ax q] at h ⊢;exact x.o j o1 h⟩
theorem HE.add(x:HE c c' H H'){o o':aF}(e:OE c c' o o'):HE c c' (aH H o) (aH H' o'):=⟨aq (· +1) x.n,x.w.add o,x.w'.add o',λj o1 h=>by
 rw[x.w.aget] at h
 rw[x.w'.aget,x.n]
 by_cases q:j=H.n
 · rw[aG q] at h ⊢;exact⟨o',rfl,af h▸e⟩
 · rw[ax q] at h ⊢;exact x.o j o1 h⟩
theorem HE.adds(z:ay (OE c c') l l'):∀{H H':HT},HE c c' H H'->HE c c' (ky H l) (ky H' l'):=by
 induction z with
 |nil=>exact λx=>x
 |cons a _ ih=>exact λx=>ih (x.add a)
theorem HE.puts(z:ay (λp q=>p.1=q.1/\OE c c' p.2 q.2) l l'):∀{H H':HT},HE c c' H H'->HE c c' (lN H l) (lN H' l'):=by
 induction z with
 |nil=>exact λx=>x
 |cons a _ ih=>exact λx=>ih (a.1▸x.put _ a.2)
theorem HE.nil:HE c c' hE hE:=⟨rfl,qO,qO,λi o e=>aV (qO.lt e) (Nat.not_lt_zero i)⟩
theorem HE.list(z:ay (OE c c') l l'):HE c c' (hL l) (hL l'):=HE.nil.adds z
theorem Ok.turn(K:jK c c')(x:HE c c' σ.H H')(k:∀n v',au r' n=some v'->∃v,au σ.r n=some v/\VE c c' v v')(o:Ok c X A env fr μ σ s):Ok c' X A env fr μ ⟨H',r'⟩ s where
 len:=⟨o.len.n.trans x.n.symm,x.w'⟩
 obj:=λn ob h=>(x.symm.o n ob h).elim λo1 q=>(o.obj n o1 q.1).imp λp w=>⟨w.1,(q.2 X μ s.heap p).mpr w.2⟩
 apart:=o.apart
 new:=λb h=>K.base▸o.new b h
 ns:=o.ns.imp λm y=>⟨y.1,λn v' h=>(k n v' h).elim λv q=>(y.2 n v q.1).imp λz w=>⟨K.nm▸w.1,(q.2 X μ s.heap z).mp w.2⟩⟩
 lout:=K.base▸o.lout
 cells:=λn l h=>(o.cells n l h).imp λp w=>⟨w.1,K.nm▸w.2⟩
 stays:=K.base▸o.stays
 frs:=K.base▸o.frs
 tabs:=K.tabs▸K.tq▸o.tabs
 xlt:=K.base▸o.xlt
theorem aJ.turn(K:jK c c')(x:aJ c n A env fr):aJ c' n A env fr:=
 ⟨K.nm▸x.k0,K.nm▸x.k1,K.nm▸x.k2,K.nm▸x.k3,x.kl,K.nm▸x.kk,x.kfun,x.globs,x.bis,x.frame,x.handled,λq=>K.tabs▸K.tq▸x.code q,x.depth,x.units⟩
theorem cC.turn(K:jK c c'){lo:Heap}(hm:VE c c' m m')(hw:VE c c' w w')(x:cC c X μ lo k m w e h):cC c' X μ lo k m' w' e h:=
 x.ex.elim λoe y=>y.elim λvs y=>y.elim λdx y=>y.elim λms y=>y.elim λtb y=>⟨oe,vs,dx,ms,tb,y.e1,K.cl▸y.e2,y.e3,y.e4,y.e5,y.e6,y.e7,y.e8,y.e9,y.e10,y.e11,y.e12,
  y.e13.imp λ_ u=>⟨K.nm▸u.1,(hm _ _ _ _).mp u.2⟩,y.e14.imp λ_ u=>⟨K.nm▸u.1,(hw _ _ _ _).mp u.2⟩⟩
theorem N4(z:ay (VE c c') vs vs'):∀{xs:List Value},ay (ad c' X μ h) vs' xs->ay (ad c X μ h) vs xs:=by
 induction z with
 |nil=>exact λy=>by cases y;exact .nil
 |cons a _ ih=>exact λy=>by cases y with|cons p q=>exact .cons ((a _ _ _ _).mpr p) (ih q)
end
def kA(b b1:Nat->Value):Prop:=∀k,k<1000->b1 k=b k
def VV(c:Cx)(v v':cc)(a a':V):Prop:=∀T b b1,kA b b1->VE (c.vw T b1 v) (c.vw T b v') a a'
def HH(c:Cx)(v v':cc)(H H':HT):Prop:=∀T b b1,kA b b1->HE (c.vw T b1 v) (c.vw T b v') H H'
inductive RR(c:Cx)(v v':cc):R0->R0->Prop
 |ok {a a' H H'}:VV c v v' a a'->HH c v v' H H'->RR c v v' (.ok a H) (.ok a' H')
 |exc {k m m' a a' H H'}:VV c v v' m m'->VV c v v' a a'->HH c v v' H H'->RR c v v' (.exc k m a H) (.exc k m' a' H')
noncomputable def jj(b:Nat->Value)(nm:Nat->Str)(mm:Str->Option Value)(k:Nat):Value:=if k<1000 then b k else((mm (nm (k-1000))).filter λy=>handedIn y).getD .none
theorem Vw(h:gk c b):gk c (jj b nm mm):=⟨λk hk=>(aG (Nat.lt_trans hk (by decide))).trans (h.lt k hk),λk hk=>by
 unfold jj
 by_cases q:k<1000
 · rw[aG q];exact h.ge k hk
 · rw[ax q]
   cases e:(mm (nm (k-1000))).filter λy=>handedIn y with
   |none=>rfl
   |some y=>exact(Option.filter_eq_some_iff.mp e).2⟩
theorem Kv(h:mm (nm x)=some y)(k:handedIn y=true):jj b nm mm (1000+x)=y:=by
 unfold jj
 rw[ax (by omega),Nat.add_sub_cancel_left,h,Option.filter_some,aG k];rfl
theorem yq(c:Cx)(T:Tb)(b b1:Nat->Value)(v v':cc):jK (c.vw T b1 v) (c.vw T b v'):=⟨rfl,rfl,rfl,rfl,rfl,rfl,rfl,rfl⟩
theorem CT.turn(zv:∀T b b1,kA b b1->ay (VE (c.vw T b1 v) (c.vw T b v')) vs vs')(zh:HH c v v' H H')(zr:RR c v v' r r')(x:CT c v k vs H r d):CT c v' k vs' H' r' d:=by
 intro T b hb n hn X A env fr μ σ s xs Q E q eo o z t
 subst q
 obtain⟨mm,hm,hr⟩:=o.ns
 have ag:kA b (jj b c.nm mm):=λk hk=>aG hk
 have hb1:=Vw hb (nm:=c.nm) (mm:=mm)
 have K:=yq c T b (jj b c.nm mm) v v'
 have zh0:=zh T b (jj b c.nm mm) ag
 have o0:Ok (c.vw T (jj b c.nm mm) v) X A env fr μ ⟨H,jY σ.r⟩ s:=
  { (o.turn K.symm zh0.symm (r':=[]) λn v h=>ns h) with
    ns:=⟨mm,hm,λx v0 h0=>by
     rw[wf] at h0
     obtain⟨w,hw,e⟩:=Option.map_eq_some_iff.mp h0
     refine(hr x w hw).imp λy u=>⟨u.1,?_⟩
     subst e
     cases hn:hW w with
     |true=>exact(Kv (nm:=c.nm) u.1 (qq (c:=c.vw T b v') hb.ge u.2 hn)).symm
     |false=>
      obtain⟨k,e,lt⟩:=yh hn
      subst e
      exact(u.2).trans (ag k (Nat.lt_trans lt (by decide))).symm⟩}
 have back:∀{av s' Hr DC},aK A env μ av s s'->Ok (c.vw T (jj b c.nm mm) v) X A env fr av ⟨Hr,jY σ.r⟩ s'->HE (c.vw T (jj b c.nm mm) v) (c.vw T b v') Hr DC->Ok (c.vw T b v') X A env fr av ⟨DC,σ.r⟩ s':=λ{av s' Hr DC} nx o' eh=>
  { (o'.turn K eh (r':=[]) λn v h=>ns h) with
    ns:=o'.ns.imp λm1 y=>⟨y.1,λx w hv=>by
     have h0:au (jY σ.r) x=some (aa (hW w) (.bi (1000+x)) w):=by rw[wf,hv];rfl
     refine(y.2 x _ h0).imp λz u=>⟨u.1,?_⟩
     obtain⟨y0,h1,h2⟩:=hr x w hv
     cases hn:hW w with
     |true=>
      have u2:z=jj b c.nm mm (1000+x):=by have:=u.2;rw[hn] at this;exact this
      rw[u2,Kv (nm:=c.nm) h1 (qq (c:=c.vw T b v') hb.ge h2 hn)]
      exact h2.mono (nx.stays o) nx.ext
     |false=>
      obtain⟨k,e,lt⟩:=yh hn
      have u2:=u.2
      rw[hn] at u2
      subst e
      exact(u2).trans (ag k (Nat.lt_trans lt (by decide)))⟩}
 refine x T (jj b c.nm mm) hb1 n hn X A env fr μ ⟨H,jY σ.r⟩ s xs Q E rfl (eo.turn K.symm) o0 (N4 (zv T b _ ag) z) ?_
 cases zr with
 |ok ev eh=>exact λav s' y nx o' dv=>t av s' y nx (back nx o' (eh T b _ ag)) ((ev T b _ ag _ _ _ _).mp dv)
 |exc em ev eh=>exact λav s' e nx o' x'=>t av s' e nx (back nx o' (eh T b _ ag)) (x'.turn K (em T b _ ag) (ev T b _ ag))
def ai(θ:Nat->Option V)(a:V):Option V:=
 V.rec (some .none) (λb=>some (.bool b)) (λi=>some (.int i)) (λs=>some (.str s)) (some .nil) (λ_ q hp hq=>Option.rec (aD hp λx=>aD hq λy=>some (.cons x y)) (λ_=>.none) (cu q))
  (λn=>some (.loc n)) (λk=>some (.fn k)) (λk=>some (.cls k)) (λk=>aa (Nat.blt k 1000) (some (.bi k)) .none) (λ_ _=>.none) (λn=>θ n) a
def bA(θ:Nat->Option V)(sg:Nat->Option (List V))(o:aF):Option aF:=
 aF.rec (λxs=>aD (aN (ai θ) xs) λys=>some (.list ys)) (λxs=>aD (aN (λp=>aD (ai θ p.2) λv=>some (p.1,v)) xs) λys=>some (.dict ys))
  (λk xs=>aD (aN (λp=>aD (ai θ p.2) λv=>some (p.1,v)) xs) λys=>some (.inst k ys)) (λv=>Option.rec (some (.cell .none)) (λv=>aD (ai θ v) λw=>some (.cell (some w))) v)
  (λj=>aD (sg j) λl=>some (.list l)) (some .dead) o
def fQ(θ:Nat->Option V)(r:Rz):Option Rz:=Rz.rec (λv=>aD (ai θ v) λw=>some (.ok w)) (λk a v=>aD (ai θ a) λb=>aD (ai θ v) λw=>some (.exc k b w)) r
structure fW where
 k:Nat
 vs:List V
 l0:List aF
 d:Nat
 r:Rz
 ch:List (Nat×aF)
 nw:List aF
def ja(θ:Nat->Option V)(sg:Nat->Option (List V))(e:En):Option fW:=
 aD (aN (ai θ) e.vs) λvs=>aD (aN (bA θ sg) e.l0) λl0=>aD (fQ θ e.r) λr=>aD (aN (λp=>aD (bA θ sg p.2) λo=>some (p.1,o)) e.ch) λch=>aD (aN (bA θ sg) e.nw) λnw=>some ⟨e.k,vs,l0,e.d,r,ch,nw⟩
structure b6(v:cc)(θ:Nat->Option V)(sg:Nat->Option (List V)):Prop where
 a:∀n w,θ n=some w->v.ρ n=w/\dz w=true
 s:∀j l,sg j=some l->v.seg j=l
section
variable{c:Cx}{v v':cc}{θ a6:Nat->Option V}{sg cE:Nat->Option (List V)}{X:Addr->Prop}{μ:Mu}{h:Heap}{T:Tb}{b b1:Nat->Value}
theorem lO(O:b6 v θ sg)(v':cc)(ag:kA b b1)(a:V):∀{w:V},ai θ a=some w->(∀x,ad (c.vw T b1 v) X μ h a x↔ad (c.vw T b v') X μ h w x)/\(cu a=none->∀l,jh (c.vw T b1 v) X μ h a l↔jh (c.vw T b v') X μ h w l):=by
 induction a with
 |none|bool|int|str|nil|loc|fn|cls=>exact λe=>af e▸⟨λ_=>Iff.rfl,λ_ _=>Iff.rfl⟩
 |clo=>exact λe=>ns e
 |bi k=>
  exact λ{w} e=>by
   have e:=cs (e)
   have q:=cF e.1
   exact af e.2▸⟨λx=>by show x=b1 k↔x=b k;rw[ag k q],λ_ _=>Iff.rfl⟩
 |atom n=>
  exact λ{w} e=>by
   obtain⟨h1,h2⟩:=O.a n w e
   exact⟨λx=>(by show(PV X h (v.ρ n)).1 x↔_;rw[h1];exact((Cm w h2).1 x).symm),λz=>sn z⟩
 |cons p q hp hq=>
  intro w e
  have e:Option.rec (aD (ai θ p) λx=>aD (ai θ q) λy=>some (.cons x y)) (λ_=>.none) (cu q)=some w:=e
  cases gM:cu q with
  |some _=>rw[gM] at e;exact ns e
  |none=>
   rw[gM] at e
   exact bq e λx hx e=>bq e λy hy e=>af e▸
    have k:=D3 (hp hx).1 ((hq hy).2 gM)
    ⟨Jq k,λ_=>k⟩
theorem ud(O:b6 v θ sg)(O':b6 v' a6 cE)(e:ai θ a=some w)(e':ai a6 a'=some w):VV c v v' a a':=λT b b1 ag X μ h x=>
 ((lO O v' ag a e).1 x).trans ((lO O' v' (λ_ _=>rfl) a' e').1 x).symm
theorem j0{α β:Type}{f:α->Option β}{P:α->β->Prop}(k:∀x y,f x=some y->P x y)(l:List α):∀{r:List β},aN f l=some r->ay P l r:=by
 induction l with
 |nil=>exact λe=>af e▸.nil
 |cons x q ih=>exact λ{r} e=>bq (e) λy hy e=>bq e λr' hr e=>af e▸.cons (k x y hy) (ih hr)
theorem ay.meet{α β γ:Type}{P:α->γ->Prop}{Q:β->γ->Prop}{R:α->β->Prop}{l:List α}{n:List γ}(p:ay P l n):∀{m:List β},ay Q m n->(∀x y z,P x z->Q y z->R x y)->ay R l m:=by
 induction p with
 |nil=>exact λq _=>by cases q;exact .nil
 |cons a _ ih=>exact λq k=>by cases q with|cons b r=>exact .cons (k _ _ _ a b) (ih r k)
theorem XX(O:b6 v θ sg)(v':cc)(ag:kA b b1)(z:ay (λp q=>p.1=q.1/\ai θ p.2=some q.2) xs ys)(l:List (Str×Value)):
 ay (λ(a:List Nat×V) (z:Str×Value)=>z.1=aW a.1/\ad (c.vw T b1 v) X μ h a.2 z.2) xs l↔ay (λ(a:List Nat×V) (z:Str×Value)=>z.1=aW a.1/\ad (c.vw T b v') X μ h a.2 z.2) ys l:=by
 induction z generalizing l with
 |nil=>exact⟨λq=>by cases q;exact .nil,λq=>by cases q;exact .nil⟩
 |cons e _ ih=>exact⟨λq=>by cases q with|cons a r=>exact .cons ⟨e.1▸a.1,((lO O v' ag _ e.2).1 _).mp a.2⟩ ((ih _).mp r),λq=>by cases q with|cons a r=>exact .cons ⟨e.1▸a.1,((lO O v' ag _ e.2).1 _).mpr a.2⟩ ((ih _).mpr r)⟩
theorem S5(O:b6 v θ sg)(v':cc)(ag:kA b b1)(z:ay (λx y=>ai θ x=some y) xs ys)(its:List Value):ay (ad (c.vw T b1 v) X μ h) xs its↔ay (ad (c.vw T b v') X μ h) ys its:=by
 induction z generalizing its with
 |nil=>exact⟨λq=>by cases q;exact .nil,λq=>by cases q;exact .nil⟩
 |cons e _ ih=>exact⟨λq=>by cases q with|cons a r=>exact .cons (((lO O v' ag _ e).1 _).mp a) ((ih _).mp r),λq=>by cases q with|cons a r=>exact .cons (((lO O v' ag _ e).1 _).mpr a) ((ih _).mpr r)⟩
theorem Qt(e:∀x∈l,dz x=true)(its:List Value):ay (ad (c.vw T b1 v) X μ h) l its↔ay (ad (c.vw T b v') X μ h) l its:=(w9 l e its).trans (w9 l e its).symm
theorem As(O:b6 v θ sg)(v':cc)(ag:kA b b1)(z:ay (λp q=>p.1=q.1/\ai θ p.2=some q.2) xs ys):
 (∀x w,au xs x=some w->∃w',au ys x=some w'/\ai θ w=some w')/\(∀x w',au ys x=some w'->∃w,au xs x=some w/\ai θ w=some w'):=by
 induction z with
 |nil=>exact⟨λx w q=>ns q,λx w q=>ns q⟩
 | @cons p q r r' e _ ih=>
  obtain⟨x1,v1⟩:=p
  obtain⟨x2,v2⟩:=q
  obtain rfl:x1=x2:=e.1
  refine⟨λx w k=>?_,λx w k=>?_⟩
  · rw[dy] at k ⊢
    by_cases hx:x1=x
    · rw[aG hx] at k ⊢;exact⟨v2,rfl,af k▸e.2⟩
    · rw[ax hx] at k ⊢;exact ih.1 x w k
  · rw[dy] at k ⊢
    by_cases hx:x1=x
    · rw[aG hx] at k ⊢;exact⟨v1,rfl,af k▸e.2⟩
    · rw[ax hx] at k ⊢;exact ih.2 x w k
theorem xg{α:Type}{xs ys:List (α×V)}(e:aN (λp=>aD (ai θ p.2) λv=>some (p.1,v)) xs=some ys):ay (λp q=>p.1=q.1/\ai θ p.2=some q.2) xs ys:=
 j0 (λx y e=>bq e λw hw e=>by obtain rfl:=af e;exact⟨rfl,hw⟩) xs e
theorem Fv(O:b6 v θ sg)(v':cc)(ag:kA b b1){p:Addr×Addr}(e:bA θ sg o=some w):RO (c.vw T b1 v) X μ h p o↔RO (c.vw T b v') X μ h p w:=by
 cases o with
 |list xs=>
  refine bq (e) λys hy e=>af e▸?_
  exact cO (fN λits=>cO (and_congr_left' (S5 O v' ag (j0 (λ_ _ e=>e) xs hy) _)))
 |dict xs=>
  refine bq (e) λys hy e=>af e▸?_
  have z:=xg hy
  refine cO (cO (fN λl=>cO (and_congr_left' ?_)))
  exact XX O v' ag z l
 |inst k xs=>
  refine bq (e) λys hy e=>af e▸?_
  have a:=As O v' ag (xg hy)
  show(_/\∃n:Str->Option Value,h.Ns1 p.2 n/\(∀x w,au xs x=some w->∃z,n (c.nm x)=some z/\ad (c.vw T b1 v) X μ h w z)/\(∀n' z,n n'=some z->∃x w,au xs x=some w/\n'=c.nm x))↔
   (_/\∃n:Str->Option Value,h.Ns1 p.2 n/\(∀x w,au ys x=some w->∃z,n (c.nm x)=some z/\ad (c.vw T b v') X μ h w z)/\(∀n' z,n n'=some z->∃x w,au ys x=some w/\n'=c.nm x))
  refine cO (fN λn=>cO (and_congr ⟨λq x w hw=>?_,λq x w hw=>?_⟩ ⟨λq n' z hz=>?_,λq n' z hz=>?_⟩))
  · exact(a.2 x w hw).elim λw0 u=>(q x w0 u.1).imp λz y=>⟨y.1,((lO O v' ag w0 u.2).1 z).mp y.2⟩
  · exact(a.1 x w hw).elim λw1 u=>(q x w1 u.1).imp λz y=>⟨y.1,((lO O v' ag w u.2).1 z).mpr y.2⟩
  · exact(q n' z hz).imp λx=>λu=>u.elim λw u=>(a.1 x w u.1).imp λw1 y=>⟨y.1,u.2⟩
  · exact(q n' z hz).imp λx=>λu=>u.elim λw u=>(a.2 x w u.1).imp λw1 y=>⟨y.1,u.2⟩
 |cell u=>
  cases u with
  |none=>
   refine af e▸cO (fN λy=>cO ?_)
   cases y<;>exact Iff.rfl
  |some u=>
   refine bq (e) λx hx e=>af e▸cO (fN λy=>cO ?_)
   cases y with
   |none=>exact Iff.rfl
   |some y=>exact(lO O v' ag u hx).1 y
 |opq j=>
  refine bq (e) λl hl e=>af e▸?_
  have q:=O.s j l hl
  refine cO (fN λits=>cO (and_congr_left' ?_))
  show ay _ (v.seg j) _↔_
  rw[q]
  exact Qt (q▸v.sp j) _
 |dead=>exact af e▸Iff.rfl
theorem uw(O:b6 v θ sg)(O':b6 v' a6 cE)(ag:kA b b1)(e:bA θ sg o=some w)(e':bA a6 cE o'=some w):OE (c.vw T b1 v) (c.vw T b v') o o':=λX μ h p=>
 (Fv O v' ag e).trans (Fv O' v' (λ_ _=>rfl) e').symm
theorem gw{e e':En}{z:fW}(O:b6 v θ sg)(O':b6 v' a6 cE)(h:ja θ sg e=some z)(h':ja a6 cE e'=some z)(E:bT c v e):bT c v' e':=by
 refine bq h λvs a1 h=>bq h λl0 a2 h=>bq h λr a3 h=>bq h λch a4 h=>bq h λnw a5 h=>?_
 refine bq h' λvs' g1 h'=>bq h' λNm g2 h'=>bq h' λr' g3 h'=>bq h' λch' g4 h'=>bq h' λDA g5 h'=>?_
 have q:=af (h.trans h'.symm)
 have q1:=aq fW.k q
 have q2:=aq fW.vs q
 have q3:=aq fW.l0 q
 have q4:=aq fW.d q
 have q5:=aq fW.r q
 have q6:=aq fW.ch q
 have q7:=aq fW.nw q
 dsimp only at q1 q2 q3 q4 q5 q6 q7
 subst q2;subst q3;subst q5;subst q6;subst q7
 have m1:=j0 (λ_ _ e=>e) _ a1
 have m2:=j0 (λ_ _ e=>e) _ g1
 have m3:=j0 (λ_ _ e=>e) _ a2
 have m4:=j0 (λ_ _ e=>e) _ g2
 have m5:=j0 (λ_ _ e=>e) _ a5
 have m6:=j0 (λ_ _ e=>e) _ g5
 have pr:∀{l:List (Nat×aF)} {θ:Nat->Option V} {sg:Nat->Option (List V)} {m},aN (λp=>aD (bA θ sg p.2) λo=>some (p.1,o)) l=some m->ay (λp q=>p.1=q.1/\bA θ sg p.2=some q.2) l m:=λ{l θ sg m} e=>
  j0 (λx y e=>bq e λw hw e=>by obtain rfl:=af e;exact⟨rfl,hw⟩) l e
 have m7:=pr a4
 have m8:=pr g4
 have hv:=λT b b1 ag=>m1.meet m2 (λx y z p q=>(ud O O' p q:VV c v v' x y) T b b1 ag)
 have hl:=λT b b1 ag=>HE.list (m3.meet m4 (λx y z p q=>(uw O O' ag p q:OE (c.vw T b1 v) (c.vw T b v') x y)))
 have he:=λT b b1 ag=>((hl T b b1 ag).puts (m7.meet m8 (λx y z p q=>⟨p.1.trans q.1.symm,(uw O O' ag p.2 q.2:OE (c.vw T b1 v) (c.vw T b v') x.2 y.2)⟩))).adds (m5.meet m6 (λx y z p q=>(uw O O' ag p q:OE (c.vw T b1 v) (c.vw T b v') x y)))
 show CT c v' e'.k e'.vs (hL e'.l0) (e'.r.at e'.end) e'.d
 refine q1▸q4▸CT.turn hv hl ?_ E
 revert a3 g3
 cases e.r with
 |ok a=>
  cases e'.r with
  |ok a'=>
   intro a3 g3
   refine bq a3 λw hw a3=>bq g3 λw' rR g3=>?_
   have this:=af (a3.trans g3.symm)
   injection this with this
   exact .ok (ud O O' hw (this▸rR)) he
  |exc=>exact λa3 g3=>bq a3 λw hw a3=>bq g3 λw' rR g3=>bq g3 λw' rR g3=>nomatch af (a3.trans g3.symm)
 |exc k m a=>
  cases e'.r with
  |ok=>exact λa3 g3=>bq a3 λw hw a3=>bq a3 λw hw a3=>bq g3 λw' rR g3=>nomatch af (a3.trans g3.symm)
  |exc k' m' a'=>
   intro a3 g3
   refine bq a3 λx hx a3=>bq a3 λw hw a3=>bq g3 λx' yP g3=>bq g3 λw' rR g3=>?_
   have this:=af (a3.trans g3.symm)
   injection this with t1 t2 t3
   subst t1
   exact .exc (ud O O' hx (t2▸yP)) (ud O O' hw (t3▸rR)) he
end
def bw(v:V):Nat->Bool:=
 V.rec (motive:=λ_=>Nat->Bool) (λn=>Nat.blt 0 n) (λ_ n=>Nat.blt 0 n) (λ_ n=>Nat.blt 0 n) (λ_ n=>Nat.blt 0 n) (λn=>Nat.blt 0 n) (λ_ q hp hq n=>aa (hp (Nat.pred n)) (aa (hq n) (b9 q) false) false)
  (λ_ _=>false) (λ_ _=>false) (λ_ _=>false) (λ_ _=>false) (λ_ _ _=>false) (λ_ _=>false) v
def gq(nm:Nat->List Nat×List Nat)(tp:Nat->V)(z:Nat->Int)(rs:Nat->V)(i:Nat):V:=
 aa (Nat.blt i 64) (.str (aa (Nat.beq (Nat.mod i 2) 0) (nm (Nat.div i 2)).1 (nm (Nat.div i 2)).2)) (aa (Nat.blt i 128) (tp i)
  (aa (aa (Nat.ble 6000 i) (Nat.blt i 7000) false) (.int (z i)) (aa (aa (Nat.ble 7000 i) (Nat.blt i 8000) false) (.bool (decide (z (i-1000)=0))) (rs i))))
theorem i8(v:V):∀{n:Nat},bw v n=true->dz v=true:=by
 induction v with
 |none|bool|int|str|nil=>exact λ_=>rfl
 |cons p q hp hq=>
  intro n h
  have h1:=aO (h)
  show aa (dz p) (dz q) false=true
  rw[hp h1.1];exact hq (aO h1.2).1
 |_=>exact λh=>ft h
theorem WG(h:a=some true)(k:b=some true):yB a b=some true:=by rw[h,k];rfl
theorem Fx:∀{l:List V},(∀v∈l,f v v=some true)->lU f l l=some true
 |[],_=>rfl
 |x::r,h=>WG (h x (.head _)) (Fx λv hv=>h v (.tail _ hv))
theorem R4(v:V):∀{n:Nat},bw v (n+1)=true->∀x∈gC v,bw x n=true:=by
 induction v with
 |cons p q hp hq=>
  intro n h
  have h1:=aO (h)
  exact bD ⟨h1.1,hq (aO h1.2).1⟩
 |_=>exact λ_ x hx=>nomatch hx
theorem Go(v:V)(h:bw v 0=true):False:=by
 induction v with
 |cons p q hp hq=>exact hp (aO (h)).1
 |_=>exact ft h
theorem ZB(H:HT):∀(m n:Nat) (v:V),bw v n=true->n<=m->eH H m v v=some true:=by
 intro m
 induction m with
 |zero=>exact λn v h q=>(Go v ((Nat.le_zero.mp q)▸h)).elim
 |succ m ih=>
  intro n v h q
  cases v with
  |none=>rfl
  |bool b=>cases b<;>rfl
  |int i=>show some (decide (i=i))=some true;rw[decide_eq_true rfl]
  |str s=>show some (seq s s)=some true;rw[xd]
  |nil=>rfl
  |cons p r=>
   cases n with
   |zero=>exact(Go _ h).elim
   |succ n=>
    have ht:b9 (.cons p r)=true:=(aO (aO (h)).2).2
    have e:cJ (.cons p r)=some (gC (.cons p r)):=by show aa (b9 (.cons p r)) _ _=_;rw[ht];rfl
    show a7 (cJ (.cons p r)) (λxs=>a7 (cJ (.cons p r)) (λys=>lU (eH H m) xs ys) (unlike 4 (fz H (.cons p r)))) none=some true
    rw[e]
    exact Fx λx hx=>ih n x (R4 _ h x hx) (by omega)
  |_=>exact ft h
section
variable{nm:Nat->List Nat×List Nat}{tp:Nat->V}{z:Nat->Int}{rs:Nat->V}
theorem KS(yU:∀i,b9 (tp i)=true/\bw (tp i) 20=true)(DE:∀i,bw (rs i) 20=true)(i:Nat):bw (gq nm tp z rs i) 20=true:=by
 unfold gq
 cases Nat.blt i 64 with
 |true=>rfl
 |false=>
  rw[cV]
  cases Nat.blt i 128 with
  |true=>exact(yU i).2
  |false=>
   rw[cV]
   cases aa (Nat.ble 6000 i) (Nat.blt i 7000) false with
   |true=>rfl
   |false=>
    rw[cV]
    cases aa (Nat.ble 7000 i) (Nat.blt i 8000) false with
    |true=>rfl
    |false=>exact DE i
theorem Pw{i j:Nat}(h:i/2=j/2)(k:i<64):j<64:=(Nat.div_lt_iff_lt_mul (by decide)).mp (h▸(Nat.div_lt_iff_lt_mul (k:=2) (y:=32) (by decide)).mpr k)
noncomputable def Lz(nm:Nat->List Nat×List Nat)(tp:Nat->V)(z:Nat->Int)(rs:Nat->V)(seg:Nat->List V)(hn:∀i,seq (nm i).1 (nm i).2=false)(yU:∀i,b9 (tp i)=true/\bw (tp i) 20=true)(DE:∀i,bw (rs i) 20=true)
 (hs:∀j,∀v∈seg j,dz v=true):cc where
 ρ:=gq nm tp z rs
 seg:=seg
 ρe:=λi H=>ZB H 20 20 _ (KS yU DE i) (Nat.le_refl _)
 ρd:=λi j h ne=>by
  have h:=aO (h)
  have hd:i/2=j/2:=bx.mp h.2
  have hi:=cF h.1
  have hj:Nat.blt j 64=true:=mQ (Pw hd hi)
  have sw:seq (nm (Nat.div i 2)).2 (nm (Nat.div i 2)).1=false:=by
   cases e:seq (nm (Nat.div i 2)).2 (nm (Nat.div i 2)).1 with
   |false=>rfl
   |true=>have:=hn (Nat.div i 2);rw[fj.mp e,xd] at this;exact tf this
  refine⟨_,_,by unfold gq;rw[h.1];rfl,by unfold gq;rw[hj];rfl,?_⟩
  rw[show Nat.div j 2=Nat.div i 2 from hd.symm]
  by_cases e:i%2=0
  · rw[show Nat.beq (Nat.mod i 2) 0=true from bx.mpr e,show Nat.beq (Nat.mod j 2) 0=false from dY.mpr (show j%2≠0 from λq=>ne (u8 hd (e.trans q.symm)))]
    exact hn _
  · rw[show Nat.beq (Nat.mod i 2) 0=false from dY.mpr e,show Nat.beq (Nat.mod j 2) 0=true from bx.mpr (show j%2=0 from(Nat.mod_two_eq_zero_or_one j).resolve_right λq=>ne (u8 hd (((Nat.mod_two_eq_zero_or_one i).resolve_left e).trans q.symm)))]
    exact sw
 ρt:=λi h1 h2=>by
  have:Nat.blt i 64=false:=by
   have:=dL h1
   cases e:Nat.blt i 64 with
   |false=>rfl
   |true=>have:=cF e;omega
  unfold gq
  rw[this,h2];exact(yU i).1
 ρz:=λi h1 h2=>by
  have a:=dL h1
  have b:=cF h2
  have n:∀{x y:Nat},y<=x->Nat.blt x y=false:=λ{x y} q=>by
   cases e:Nat.blt x y with
   |false=>rfl
   |true=>have:=cF e;omega
  refine⟨z i,?_,?_⟩
  · unfold gq
    rw[n (by omega),n (by omega),h1,h2];rfl
  · unfold gq
    rw[n (by omega),n (by omega),show Nat.ble 6000 (i+1000)=true from Nat.ble_eq_true_of_le (by omega),n (x:=i+1000) (y:=7000) (by omega),show Nat.ble 7000 (i+1000)=true from Nat.ble_eq_true_of_le (by omega),show Nat.blt (i+1000) 8000=true from mQ (by omega),Nat.add_sub_cancel]
    rfl
 sp:=hs
end
section
variable{θ:Nat->Option V}{sg:Nat->Option (List V)}
theorem ij(v:V):dz v=true->ai θ v=some v:=by
 induction v with
 |none|bool|int|str|nil=>exact λ_=>rfl
 |cons p q hp hq=>
  intro h
  have h:=aO (h)
  show(Option.rec (motive:=λ_=>Option V) (aD (ai θ p) λx=>aD (ai θ q) λy=>some (.cons x y)) (λ_=>.none) (cu q))=_
  have:cu q=none:=by cases q<;>first|rfl|exact ft h.2
  rw[this,hp h.1,hq h.2];rfl
 |_=>exact λh=>ft h
theorem cG{p q x y:V}(ht:cu q=none)(h1:ai θ p=some x)(h2:ai θ q=some y):ai θ (.cons p q)=some (.cons x y):=by
 show(Option.rec (motive:=λ_=>Option V) (aD (ai θ p) λx=>aD (ai θ q) λy=>some (.cons x y)) (λ_=>.none) (cu q))=_
 rw[ht,h1,h2];rfl
theorem aT{α β:Type}{f:α->Option β}:aN f []=some []:=rfl
theorem ae{α β:Type}{f:α->Option β}{x:α}{l:List α}{y:β}{r:List β}(h1:f x=some y)(h2:aN f l=some r):aN f (x::l)=some (y::r):=by
 show aD (f x) (λy=>aD (aN f l) λr=>some (y::r))=_
 rw[h1,h2];rfl
theorem ue{α β:Type}{f:α->Option β}{l m:List α}{r s:List β}(h1:aN f l=some r)(h2:aN f m=some s):aN f (l++m)=some (r++s):=by
 induction l generalizing r with
 |nil=>obtain rfl:=af h1;exact h2
 |cons x q ih=>
  refine bq (h1) λy hy h1=>bq h1 λr' hr h1=>?_
  obtain rfl:=af h1
  exact ae hy (ih hr)
theorem jb(l:List V)(h:∀v∈l,dz v=true):aN (ai θ) l=some l:=by
 induction l with
 |nil=>rfl
 |cons x r ih=>have w:=ug h;exact ae (ij x w.1) (ih w.2)
theorem bX{l r:List V}(h:aN (ai θ) l=some r):bA θ sg (.list l)=some (.list r):=by
 show aD (aN (ai θ) l) (λys=>some (aF.list ys))=_
 rw[h];rfl
theorem bR{k:Nat}{v w:V}{l r:List (Nat×V)}(h1:ai θ v=some w)(h2:aN (λp=>aD (ai θ p.2) λv=>some (p.1,v)) l=some r):aN (λp=>aD (ai θ p.2) λv=>some (p.1,v)) ((k,v)::l)=some ((k,w)::r):=
 ae (f:=λp:Nat×V=>aD (ai θ p.2) λv=>some (p.1,v)) (by rw[h1];rfl) h2
theorem mh(h:aN (λp=>aD (ai θ p.2) λv=>some (p.1,v)) l=some r):bA θ sg (.inst k l)=some (.inst k r):=by
 show aD (aN (λp=>aD (ai θ p.2) λv=>some (p.1,v)) l) (λys=>some (aF.inst k ys))=_
 rw[h];rfl
theorem AD(h:aN (λp=>aD (ai θ p.2) λv=>some (p.1,v)) l=some r):bA θ sg (.dict l)=some (.dict r):=by
 show aD (aN (λp=>aD (ai θ p.2) λv=>some (p.1,v)) l) (λys=>some (aF.dict ys))=_
 rw[h];rfl
theorem qM(h:sg j=some l):bA θ sg (.opq j)=some (.list l):=by
 show aD (sg j) (λl=>some (aF.list l))=_
 rw[h];rfl
theorem gW{v w:V}(h:ai θ v=some w):fQ θ (.ok v)=some (.ok w):=by
 show aD (ai θ v) (λw=>some (Rz.ok w))=_
 rw[h];rfl
theorem qc(h1:ai θ m=some m')(h:ai θ v=some w):fQ θ (.exc k m v)=some (.exc k m' w):=by
 show aD (ai θ m) (λb=>aD (ai θ v) λw=>some (Rz.exc k b w))=_
 rw[h1,h];rfl
theorem Lh{k:Nat}{o o':aF}{l r:List (Nat×aF)}(h1:bA θ sg o=some o')(h2:aN (λp=>aD (bA θ sg p.2) λo=>some (p.1,o)) l=some r):aN (λp=>aD (bA θ sg p.2) λo=>some (p.1,o)) ((k,o)::l)=some ((k,o')::r):=
 ae (f:=λp:Nat×aF=>aD (bA θ sg p.2) λo=>some (p.1,o)) (by rw[h1];rfl) h2
theorem dN{e:En}{vs:List V}{l0:List aF}{r:Rz}{ch:List (Nat×aF)}{nw:List aF}(h1:aN (ai θ) e.vs=some vs)(h2:aN (bA θ sg) e.l0=some l0)(h3:fQ θ e.r=some r)(h4:aN (λp=>aD (bA θ sg p.2) λo=>some (p.1,o)) e.ch=some ch)(h5:aN (bA θ sg) e.nw=some nw):
 ja θ sg e=some ⟨e.k,vs,l0,e.d,r,ch,nw⟩:=by
 show aD (aN (ai θ) e.vs) (λvs=>aD (aN (bA θ sg) e.l0) λl0=>aD (fQ θ e.r) λr=>aD (aN (λp=>aD (bA θ sg p.2) λo=>some (p.1,o)) e.ch) λch=>aD (aN (bA θ sg) e.nw) λnw=>some (⟨e.k,vs,l0,e.d,r,ch,nw⟩:fW))=_
 rw[h1,h2,h3,h4,h5];rfl
end
noncomputable def j3(t:Tr (List Nat))(conv:List Nat->Str)(i:Nat):Str:=Option.rec (aW [Nat.add 5000000 i]) conv (dn t i)
noncomputable def sO(l:List Nat):Str:=Str.ofString (String.ofList (l.map Char.ofNat))
noncomputable def aZ{α β:Type}(f:α->β)(l:List α):List β:=List.rec [] (λx _ ih=>f x::ih) l
noncomputable def rV{α β:Type}(l:List α):List β->List (α×β):=List.rec (λ_=>[]) (λx _ ih m=>List.rec [] (λy q _=>(x,y)::ih q) m) l
section
variable(n:Nat->Str)
noncomputable def AY(ps ds:List Nat)(df:List Expr):Arguments:=⟨[],aZ (λp=>⟨n p.1,none,aE p.2⟩) (rV ps ds),none,[],[],none,df⟩
noncomputable def gh(k:ScopeKind)(l:List (Nat×Nat))(more:List Nat):Scope:={kind:=k,names:=aZ (λp=>(n p.1,kd p.2)) l,isGenerator:=false,isCoroutine:=false,more:=aZ (λx=>(n 2,.str (n x))) more}
noncomputable def Rh(x:Nat)(a:Arguments)(b:List Stmt)(s:Scope)(p:Nat):Stmt:=.FunctionDef (n x) a b [] none [] s none (n x) (aE p)
noncomputable def iq(x:Nat)(bs:List E)(b:List Stmt)(s:Scope)(sa:List Nat)(p:Nat):Stmt:=.ClassDef (n x) (bC n bs) [] b [] [] s none (n x) (aZ n sa) (aE p)
noncomputable def HU(b:List Stmt)(names:List (Nat×Nat))(file:Nat):Program:=
 { main:={body:=b,scope:=gh n .module names [],futureAnnotations:=false,file:=n file,more:=[]},modules:=[],parses:=[],absent:=[],harvested:=[],
   given:={argv:=[],stdin:=[],environ:=some [([76,67,95,65,76,76],[67,46,85,84,70,45,56])]}}
end
noncomputable abbrev TH:=PySem.W.SL.s7174869446012820540x8
noncomputable abbrev OW:=PySem.W.SL.s5856160107412720595x4
noncomputable abbrev Xz:=PySem.W.SL.s2766695959194262286x5
noncomputable abbrev gN:=PySem.W.SL.s17162191345867700912x4
noncomputable abbrev bW:=PySem.W.SL.s14018661285674007319x4
noncomputable abbrev Xh:=PySem.W.SL.s658472552662922059x5
noncomputable abbrev im:=PySem.W.SL.s4290257624100764138x5
noncomputable abbrev fH:=PySem.W.SL.s14755015743595814543x17
noncomputable abbrev dp:=PySem.W.SL.s11030030927630378310x26
noncomputable abbrev cN:=PySem.W.SL.s2742458400755230247x6
noncomputable abbrev fb:=PySem.W.SL.s5946037652744460706x9
noncomputable abbrev il:=PySem.W.SL.s4278001404047624695x13
noncomputable abbrev l7:=PySem.W.SL.s5160863994218179198x17
noncomputable abbrev kP:=PySem.W.SL.s10220274742760427390x26
noncomputable abbrev GQ:=PySem.W.SL.s7097527257260152453x26
noncomputable abbrev mj:=PySem.W.SL.s6511155373996960695x17
noncomputable abbrev lE:=PySem.W.SL.s12411053484034534018x21
noncomputable abbrev iz:=PySem.W.SL.s4860613602091757760x24
noncomputable abbrev l3:=PySem.W.SL.s11443829558043349243x14
noncomputable abbrev h9:=PySem.W.SL.s10062305145149207511x16
noncomputable def Bz(nm ql:Str)(a:Arguments)(b:List Stmt)(s:Scope)(df md:Value)(cd:Nat):Obj:=
 {cls:=.type TH,data:=.func {name:=nm,qualname:=ql,params:=a,body:=.stmts b,scope:=s,globals:=3,closure:=[],defaults:=df,kwdefaults:=.none,pyModule:=md,code:=.ref cd}}
noncomputable def PP(c:Value)(nm ql:Str)(a:Arguments)(b:List Stmt)(s:Scope)(df:Value):Obj:=
 {cls:=c,data:=.func {name:=nm,qualname:=ql,params:=a,body:=.stmts b,scope:=s,globals:=0,closure:=[],defaults:=df,kwdefaults:=.none}}
noncomputable def ak(l:List Value):Obj:={cls:=.type Xz,data:=.seq ⟨l⟩}
noncomputable def aw(c:Value)(l:List Value):Obj:={cls:=c,data:=.fields ⟨l⟩}
noncomputable def R6(c:Value)(l:List (Option Value)):Obj:={cls:=c,slots:=⟨l⟩}
noncomputable def gb(cd:ClassData)(l:List (Option Value)):Obj:={cls:=.type gN,data:=.cls cd,slots:=⟨l⟩}
noncomputable def bQ(c:Value)(l:List DictEntry)(k:Nat):Obj:={cls:=c,data:=.dict ⟨l⟩ k}
noncomputable def aU(P:Params)(s:Str)(t:Nat)(v:Value):DictEntry:={hash:=PyData.keyHash P s,key:=.str s t,val:=v}
noncomputable def tB(f:Nat->Obj)(m:Nat)(d:Nat):Nat->Nat->BT:=Nat.rec (λ_ _=>.nil) (λ_ ih a b=>aa (Nat.blt b m) (.node (f b) (ih (Nat.mul 2 a) (Nat.add a b)) (ih (Nat.mul 2 a) (Nat.add (Nat.mul 2 a) b))) .nil) d
noncomputable def sB(a:Nat)(o:Obj)(t:BT):BT:=t.set a λ_=>o
noncomputable def SG(l:List Obj)(a:Nat):Obj:=Option.rec default (λo=>o) (aj l a)
noncomputable def bv(t:Tr (Params->List Obj))(P:Params)(a:Nat):Obj:=Option.rec default (λl=>SG (l P) (Nat.mod a 16)) (dn t (Nat.div a 16))
noncomputable def SH(f:Params->BT)(m k:Nat)(w:World)(os:OsState):SharedT:={tree:=f w.params,n:=m,life:={},gens:=#[],drawn:={},toks:=k,os:=os}
noncomputable abbrev fO:=PySem.W.Fast.tw10110043849684766642 PySem.W.Fast.tw14364793385576792824
theorem OU{k:Nat}(h:Nat.blt k 55296=true):(Char.ofNat k).toNat=k:=by
 have h':k<55296:=dL h
 have v:k.isValidChar:=.inl h'
 unfold Char.ofNat
 rw[dif_pos v]
 rfl
theorem Vp(l:List Nat)(h:l.all (λk=>Nat.blt k 55296)=true):sO l=aW l:=by
 unfold sO aW
 rw[PySem.W.Fast.ofString_ofList,List.map_map]
 refine aq (λx:List Nat=>(⟨x.toArray⟩:Str)) ?_
 refine(List.map_congr_left λk hk=>?_).trans (List.map_id l)
 exact OU (List.all_eq_true.mp h k hk)
noncomputable def pU{α:Type}(p:α->Bool)(t:Tr α):Bool:=Tr.rec true (λ_ _ v _ fR bP=>aa (p v) (aa fR bP false) false) t
theorem Og{α:Type}{p:α->Bool}{i:Nat}{v:α}:∀(t:Tr α),pU p t=true->dn t i=some v->p v=true:=by
 intro t
 induction t with
 |lf=>exact λ_ h=>nomatch h
 |nd l k w r fR bP=>
  intro h g
  have h:aa (p w) (aa (pU p l) (pU p r) false) false=true:=h
  have g:aa (Nat.beq i k) (some w) (aa (Nat.blt i k) (dn l i) (dn r i))=some v:=g
  cases hp:p w with
  |false=>rw[hp] at h;cases h
  |true=>
   rw[hp] at h
   have h:aa (pU p l) (pU p r) false=true:=h
   cases hl:pU p l with
   |false=>rw[hl] at h;cases h
   |true=>
    rw[hl] at h
    cases hb:Nat.beq i k with
    |true=>rw[hb] at g;exact af g▸hp
    |false=>
     rw[hb] at g
     have g:aa (Nat.blt i k) (dn l i) (dn r i)=some v:=g
     cases hc:Nat.blt i k with
     |true=>rw[hc] at g;exact fR hl g
     |false=>rw[hc] at g;exact bP h g
theorem QM{t:Tr (List Nat)}(h:pU (λl=>l.all λk=>Nat.blt k 55296) t=true):j3 t sO=j3 t aW:=by
 funext i
 unfold j3
 cases e:dn t i with
 |none=>rfl
 |some l=>exact Vp l (Og (p:=λl=>l.all λk=>Nat.blt k 55296) t h e)
theorem Vn:segRunT treeTable=fO:=congr PySem.W.Fast.te10110043849684766642 PySem.W.Fast.te14364793385576792824
noncomputable abbrev zc:=PySem.W.Fast.tw14374325043358763698 PySem.W.Fast.tw14364793385576792824
theorem Q6:segRun treeTable=zc:=congr PySem.W.Fast.te14374325043358763698 PySem.W.Fast.te14364793385576792824
noncomputable abbrev Lb:=PySem.W.Fast.tw14082659384304107361 PySem.W.Fast.tw14364793385576792824
theorem Pq:topRun treeTable=Lb:=congr PySem.W.Fast.te14082659384304107361 PySem.W.Fast.te14364793385576792824
noncomputable abbrev Ak:=PySem.W.Fast.tw15667345088766844465 PySem.W.Fast.tw14364793385576792824
theorem YR:topGo treeTable=Ak:=congr PySem.W.Fast.te15667345088766844465 PySem.W.Fast.te14364793385576792824
noncomputable abbrev A6:=PySem.W.Fast.tw11892475500146522536 PySem.W.Fast.tw14364793385576792824
theorem Vd:denote treeTable=A6:=congr PySem.W.Fast.te11892475500146522536 PySem.W.Fast.te14364793385576792824
section
variable{p:Program}{w:World}{m0:Nat}{ann:Option Value}{env:Env}{q:Pos}
theorem gB{k N:Nat}{S S':SharedT}{r:Shared}{l rest:List Stmt}{c:Code}{pos p':Pos}(h:fO p w m0 ann 1 k S (piecesOf l env c pos [topFrame q])=some (.next,S',c,p'))
 (kk:topRun treeTable p w m0 ann N S'.abs (restOf rest env c p' [topFrame q])=some r):topRun treeTable p w m0 ann (k+N) S.abs (restOf (l++rest) env c pos [topFrame q])=some r:=
 piece_app (segRun_of (Vn▸h)) kk
theorem VU{N:Nat}{s r:Shared}{b b':List Stmt}{c:Code}{pos:Pos}(e:b=b')(kk:topRun treeTable p w m0 ann N s (restOf b' env c pos [topFrame q])=some r):topRun treeTable p w m0 ann N s (restOf b env c pos [topFrame q])=some r:=e▸kk
theorem X5{N:Nat}{s s' r:Shared}{b:List Stmt}{c:Code}{pos p':Pos}(h:zc p w m0 ann 1 1 s (blockOf b env c pos [topFrame q])=some (.next,s',c,p'))
 (kk:topRun treeTable p w m0 ann N s' (restOf b env c p' [topFrame q])=some r):topRun treeTable p w m0 ann (1+N) s ⟨denote treeTable (.body b env),c,pos,[topFrame q]⟩=some r:=piece_block (Q6▸h) kk
theorem W0{n N:Nat}{s s' r:Shared}{t:Thread}{cd:Code}{c:Code}{pos:Pos}{st:List Frame}(h:Ak p w m0 ann n s t=some (s',⟨A6 cd,c,pos,st⟩))(k:topRun treeTable p w m0 ann N s' ⟨denote treeTable cd,c,pos,st⟩=some r):topRun treeTable p w m0 ann (n+N) s t=some r:=
 go_top (by rw[YR,Vd];exact h) k
end
theorem Kl(e:t.get a=some o)(lt:a<m)(nf:o.isFreed=false):(absHeap t m {}).get? a=some o:=by
 unfold Heap.get?
 rw[absHeap_at,aG lt,e]
 obtain⟨c,d,x,s⟩:=o
 cases x<;>first|rfl|exact tf nf
noncomputable def jW(ts:List Addr)(h:Heap):Heap:=List.rec h (λa _ ih=>ih.hide a) ts
theorem rC(n:b∉ts):(jW ts h).get? b=h.get? b:=by
 induction ts with
 |nil=>rfl
 |cons a r ih=>exact(Heap.hide_ne _ λe:b=a=>n (e▸.head _)).trans (ih λq=>n (.tail _ q))
theorem J4(n:b∈ts):(jW ts h).get? b=none:=by
 induction ts with
 |nil=>nomatch n
 |cons a r ih=>
  by_cases e:b=a
  · subst e;exact Heap.hide_self _ _
  · exact(Heap.hide_ne _ e).trans (ih ((List.mem_cons.mp n).elim (λq=>aV q e) id))
theorem zf{α β:Type}(f:α->β)(l:List α):aZ f l=l.map f:=by induction l with|nil=>rfl|cons x r ih=>exact aq (f x:: ·) ih
theorem FB{α β:Type}:∀(l:List α) (m:List β),l.length=m.length->(rV l m).map (·.1)=l
 |[],_,_=>rfl
 |x::r,[],h=>nomatch h
 |x::r,y::q,h=>aq (x:: ·) (FB r q (Nat.succ.inj h))
noncomputable def iW{α:Type}(t:Tr α):List (Nat×α):=Tr.rec [] (λ_ k v _ l r=>app l ((k,v)::r)) t
theorem CM{α:Type}{v:α}:∀(t:Tr α),dn t x=some v->(x,v)∈iW t:=by
 intro t
 induction t with
 |lf=>exact λh=>ns h
 |nd l k w r fR bP=>
  intro h
  have h:aa (Nat.beq x k) (some w) (aa (Nat.blt x k) (dn l x) (dn r x))=some v:=h
  show(x,v)∈app (iW l) ((k,w)::iW r)
  rw[cq]
  cases e:Nat.beq x k with
  |true=>rw[e] at h;exact List.mem_append.mpr (.inr (by rw[bx.mp e,af h];exact .head _))
  |false=>
   rw[e] at h
   have h:=h
   cases q:Nat.blt x k with
   |true=>rw[q] at h;exact List.mem_append.mpr (.inl (fR h))
   |false=>rw[q] at h;exact List.mem_append.mpr (.inr (.tail _ (bP h)))
noncomputable def uq(x:List Nat)(l:List (List Nat)):Bool:=List.rec false (λy _ ih=>aa (seq x y) true ih) l
noncomputable def Ae(l:List (List Nat)):Bool:=List.rec true (λx r ih=>aa (uq x r) false ih) l
theorem B2(h:x∈l):uq x l=true:=by
 induction l with
 |nil=>nomatch h
 |cons y r ih=>
  show aa (seq x y) true (uq x r)=true
  cases e:seq x y with
  |true=>rfl
  |false=>exact ih ((List.mem_cons.mp h).elim (λq=>aV (fj.mpr q) (by rw[e];exact Bool.noConfusion)) id)
theorem Tf{l:List (Nat×List Nat)}(h:Ae (l.map (·.2))=true):∀{i j:Nat} {s:List Nat},(i,s)∈l->(j,s)∈l->i=j:=by
 induction l with
 |nil=>exact λa=>nomatch a
 |cons p r ih=>
  intro i j s a b
  have h:=cf (h)
  rcases List.mem_cons.mp a with a|a
  · rcases List.mem_cons.mp b with b|b
    · exact aq Prod.fst (a.trans b.symm)
    · exact tf ((B2 (List.mem_map.mpr ⟨(j,s),b,(aq Prod.snd a:s=p.2)⟩)).symm.trans h.1)
  · rcases List.mem_cons.mp b with b|b
    · exact tf ((B2 (List.mem_map.mpr ⟨(i,s),a,(aq Prod.snd b:s=p.2)⟩)).symm.trans h.1)
    · exact ih h.2 a b
theorem wc(t:Tr (List Nat))(i:Nat):(∃s,(i,s)∈iW t/\j3 t aW i=aW s)\/j3 t aW i=aW [5000000+i]:=by
 unfold j3
 cases e:dn t i with
 |none=>exact .inr rfl
 |some s=>exact .inl ⟨s,CM t e,rfl⟩
noncomputable def BA(s:List Nat):Bool:=List.rec true (λx _ ih=>aa (Nat.blt x 55296) ih false) s
noncomputable def A4(l:List (Nat×List Nat)):Bool:=List.rec true (λp _ ih=>aa (BA p.2) ih false) l
theorem Qw(h:A4 l=true)(hp:p∈l):BA p.2=true:=by
 induction l with
 |nil=>nomatch hp
 |cons q r ih=>
  have h:=aO (h)
  rcases List.mem_cons.mp hp with e|e
  · exact e▸h.1
  · exact ih h.2 e
theorem UU{t:Tr (List Nat)}(h1:Ae ((iW t).map (·.2))=true)(h2:A4 (iW t)=true)(i j:Nat)(h:j3 t aW i=j3 t aW j):i=j:=by
 have hi:∀(i k:Nat) (s:List Nat),(i,s)∈iW t->aW s=aW [5000000+k]->False:=λi k s hs e=>by
  have:=Qw h2 hs
  rw[kW e] at this
  have:=cF (aO (this)).1
  omega
 rcases wc t i with⟨s,a,b⟩|b
 · rcases wc t j with⟨s',a',b'⟩|b'
   · have e:=kW (b.symm.trans (h.trans b'));subst e;exact Tf h1 a a'
   · exact(hi _ _ _ a (b.symm.trans (h.trans b'))).elim
 · rcases wc t j with⟨s',a',b'⟩|b'
   · exact(hi _ _ _ a' (b'.symm.trans (h.symm.trans b))).elim
   · have e:=kW (b.symm.trans (h.trans b'));injection e with e;omega
theorem Bj(h:uq s ((iW t).map (·.2))=false)(hl:BA s=true)(i:Nat):j3 t aW i≠aW s:=λe=>by
 rcases wc t i with⟨s',a,b⟩|b
 · have q:=kW (b.symm.trans e);subst q
   exact tf ((B2 (l:=(iW t).map (·.2)) (List.mem_map.mpr ⟨(i,s'),a,rfl⟩)).symm.trans h)
 · have q:=kW (b.symm.trans e)
   rw[← q] at hl
   have:=cF (aO (hl)).1
   omega
inductive lM(c:Cx):Value->List V->Option (Array Value)->Prop
 |none:lM c .none [] none
 |tup {a:Addr} {l:List Value} {df:List V}:c.base.get? a=some (ak l)->(∀X μ h,(∀b,X b->c.base.get? b=Option.none)->c.base.StaysIn h->ay (ad c X μ h) df l)->lM c (.ref a) df (some ⟨l⟩)
theorem lM.seq(x:lM c df d od):∀M A E (s:Shared) (Q:Option (Array Value)->Shared->Prop),c.base.StaysIn s.heap->Q od s->wpAny M A (seqItems? df) Q E s:=by
 cases x with
 |none=>exact λM A E s Q _ q=>aS q
 |tup h _=>exact λM A E s Q st q=>ah (wpAny_load (st _ _ h) (aS q))
theorem lM.rel(x:lM c df d od):∀X μ h,(∀b,X b->c.base.get? b=Option.none)->c.base.StaysIn h->ay (ad c X μ h) d (od.getD #[]).toList:=by
 cases x with
 |none=>exact λ_ _ _ _ _=>.nil
 |tup _ z=>exact z
noncomputable def Ub{α β:Type}(l:List α)(m:List β):Bool:=Nat.beq (len l) (len m)
noncomputable def HB(sc:List (Nat×Nat)):Bool:=List.rec true (λp _ ih=>aa (Nat.ble p.2 3) ih false) sc
theorem Qe(h:HB sc=true):∀p∈sc,p.2<=3:=by
 induction sc with
 |nil=>exact λ_ q=>nomatch q
 |cons p r ih=>
  have h:=aO (h)
  exact bD ⟨dL h.1,ih h.2⟩
noncomputable def EZ(f:Fn)(ds:List Nat):Bool:=aa (lw f.ps) (aa (Nat.ble (len f.df) (len f.ps)) (aa (seq f.cs (dm f.sc)) (aa (HB f.sc) (Ub f.ps ds) false) false) false) false
theorem PX
 (ha:c.fnA k=a)(h1:c.base.get? a=some (Bz BC ql (AY c.nm f.ps ds j8) (cU c.nm f.body) (gh c.nm .function f.sc more) df md cd))(h2:c.base.get? cd=some oc)(h3:oc.data=.fields vs)(h4:vs[1]?=some (.str ql t))
 (hd:lM c df f.df od)(hb:EZ f ds=true)(hl:f.lm=true->∃P,(cd,P)∈c.tabs/\ql++ ".<locals>." ++ "<lambda>" =c.tq cd):CU c k f:=by
 have b1:=aO hb
 have b2:=aO b1.2
 have b3:=aO b2.2
 have b4:=aO b3.2
 have hlen:f.ps.length=ds.length:=by have:=bx.mp b4.2;rw[bH,bH] at this;exact this
 have hle:f.df.length<=f.ps.length:=by have:=dL b2.1;rw[bH,bH] at this;exact this
 refine⟨⟨Bz BC ql (AY c.nm f.ps ds j8) (cU c.nm f.body) (gh c.nm .function f.sc more) df md cd,_,aZ (λp=>⟨c.nm p.1,none,aE p.2⟩) (rV f.ps ds),j8,od,
  { f1:=by rw[ha];exact h1
    f2:=rfl
    f3:=rfl
    f4:=zf _ _
    f5:=rfl
    f6:=rfl
    f7:=rfl
    f8:=rfl
    f9:=rfl
    f10:=rfl
    f11:=⟨cd,oc,vs,t,rfl,h2,h3,h4⟩
    f12:=rfl
    f13:=?_
    f14:=?_
    f15:=?_
    f16:=λq=>⟨cd,(hl q).imp λP z=>⟨rfl,z⟩⟩}⟩,yn b1.1,hle,fj.mp b3.1,Qe b4.1⟩
 · rw[zf,List.map_map]
   show(rV f.ps ds).map (λp=>c.nm p.1)=f.ps.map c.nm
   rw[show(λp:Nat×Nat=>c.nm p.1)=c.nm∘(·.1) from rfl,← List.map_map,FB _ _ hlen]
 · exact hd.seq
 · exact hd.rel
theorem bU{α β:Type}{f g:α->β}{l:List α}(h:aZ f l=aZ g l):∀a∈l,f a=g a:=by
 induction l with
 |nil=>exact λ_ q=>nomatch q
 |cons x r ih=>
  have h:=h
  injection h with h1 h2
  exact bD ⟨h1,ih h2⟩
theorem Sn{g:Nat->Obj}(h:(aZ (λa=>(a,g a)) l).lookup a=some o):a∈l/\g a=o:=by
 induction l with
 |nil=>exact ns h
 |cons x r ih=>
  have h:List.lookup a ((x,g x)::aZ (λa=>(a,g a)) r)=some o:=h
  rw[fw] at h
  cases e:a==x with
  |true=>rw[e] at h;have:=beq_iff_eq.mp e;subst this;exact⟨.head _,af h⟩
  |false=>rw[e] at h;exact⟨.tail _ (ih h).1,(ih h).2⟩
noncomputable def bO(f:Nat->Bool)(n:Nat):Bool:=Nat.rec true (λk ih=>aa (f k) ih false) n
theorem bZ{f:Nat->Bool}{n:Nat}(h:bO f n=true):∀k,k<n->f k=true:=by
 induction n with
 |zero=>exact λk q=>aV q (Nat.not_lt_zero k)
 |succ n ih=>
  have h:=aO (h)
  exact λk q=>(Nat.lt_succ_iff_lt_or_eq.mp q).elim (ih h.2 k) λe=>e▸h.1
noncomputable def H6(am:Nat)(l:List Nat):Bool:=aa (Nat.blt am (2^200)) (bO (λa=>aa (lA am a) (eJ a l) true) 200) false
theorem Zh(h:H6 am l=true)(hb:lA am a=true):a∈l:=by
 have h:=aO h
 have lt:=cF h.1
 by_cases q:a<200
 · have:=bZ h.2 a q
   rw[hb] at this
   exact me.mp this
 · have z:Nat.shiftRight am a=0:=by
    show am>>>a=0
    rw[Nat.shiftRight_eq_div_pow]
    exact Nat.div_eq_of_lt (Nat.lt_of_lt_of_le lt (Nat.pow_le_pow_right (by decide) (Nat.le_of_not_lt q)))
   unfold lA at hb
   rw[z] at hb
   exact ft hb
noncomputable def bK(l:List Nat)(k:Nat):Nat:=Option.rec 0 (λa=>a) (aj l k)
theorem V9(h:k<l.length):bK l k∈l:=by
 obtain⟨a,e⟩:=vc h
 unfold bK;rw[e];exact na e
noncomputable def rW(es:List DictEntry):Bool:=List.rec true (λe _ ih=>aa (match e.key with|.str _ _=>true|_=>false) ih false) es
theorem PW(h:rW es=true):StrKeys ⟨es⟩:=by
 have k:∀e∈es,∃n t,e.key=.str n t:=by
  induction es with
  |nil=>exact λ_ q=>nomatch q
  |cons e r ih=>
   have h:=aO (h)
   refine bD ⟨?_,ih h.2⟩
   have h1:=h.1
   cases q:e.key with
   |str n t=>exact⟨n,t,rfl⟩
   |_=>rw[q] at h1;exact ft h1
 exact λe he=>k e (Array.mem_def.mp he)
theorem Cq{h:Heap}(e:h.get? a=some o)(d:o.data=.dict ⟨es⟩ ep)(k:rW es=true):h.Ns a (nsFind ⟨es⟩):=⟨o,_,ep,e,d,PW k,λ_=>rfl⟩
structure uv(c:Cx)(K:Frag)(k:Nat)(cl:Cl):Prop where
 g:plainGet K (c.clA k) "" =true
 d:hasDictIn K (c.clA k)=true
 s:findIn K (.ref (c.clA k)) "__setattr__" =some (some (.builtin "object.__setattr__"))
 o:plainOver K (c.clA k)=true
 kp:keepIn K (.ref (c.clA k))=true
 mks:makesIn K (c.clA k)=true
 i:findIn K (.ref (c.clA k)) "__init__" =some (some (.ref (c.fnA cl.init)))
 a:∀a,lA cl.am a=true->findIn K (.ref (c.clA k)) (c.nm a)=some none
 m:∀a f,au cl.meth a=some f->findIn K (.ref (c.clA k)) (c.nm a)=some (some (.ref (c.fnA f)))
 it:typeIn K (.ref (c.fnA cl.init))=some (.type "function")
 mt:∀a f,au cl.meth a=some f->typeIn K (.ref (c.fnA f))=some (.type "function")
section
variable{c:Cx}{K:Frag}{k:Nat}{cl:Cl}
theorem uv.attr(x:uv c K k cl)(a:Nat)(hb:lA cl.am a=true):plainGet K (c.clA k) (c.nm a)=true/\hasDictIn K (c.clA k)=true/\(∃at_,findIn K (.ref (c.clA k)) (c.nm a)=some at_/\noGet K at_=true)/\
 findIn K (.ref (c.clA k)) "__setattr__" =some (some (.builtin "object.__setattr__"))/\plainOver K (c.clA k)=true/\takerIn K (c.clA k) (c.nm a)=some none:=
 ⟨x.g,x.d,⟨none,x.a a hb,rfl⟩,x.s,x.o,by unfold takerIn;rw[x.a a hb];rfl⟩
theorem uv.meth(x:uv c K k cl)(a f:Nat)(h:au cl.meth a=some f):plainGet K (c.clA k) (c.nm a)=true/\findIn K (.ref (c.clA k)) (c.nm a)=some (some (.ref (c.fnA f)))/\typeIn K (.ref (c.fnA f))=some (.type "function"):=
 ⟨x.g,x.m a f h,x.mt a f h⟩
end
theorem uF{X:Addr->Prop}(ht:b9 v=true)(e:c.base.get? a=some (ak l))(hX:∀b,X b->c.base.get? b=none)(st:c.base.StaysIn h)(z:ay (ad c X μ h) (gC v) l):ad c X μ h v (.ref a):=
 (iw ht).mpr ⟨a,⟨l⟩,rfl,⟨_,st _ _ e,rfl,0,rfl⟩,⟨λq=>cg e (hX a q),_,st _ _ e,rfl⟩,z⟩
structure mN(c:Cx)(mg mb:Str->Option Value)(x:Nat)(v:V):Prop where
 ex:∃y,(mg (c.nm x)=some y\/(mg (c.nm x)=none/\mb (c.nm x)=some y))/\∀X μ h,(∀b,X b->c.base.get? b=none)->c.base.StaysIn h->ad c X μ h v y
def TA{α:Type}(P:Nat->α->Prop)(t:Tr α):Prop:=Tr.rec True (λ_ k v _ l r=>P k v/\l/\r) t
theorem TA.lf{α:Type}{P:Nat->α->Prop}:TA P .lf:=trivial
theorem TA.nd{α:Type}{P:Nat->α->Prop}{l r:Tr α}{v:α}(a:TA P l)(p:P k v)(b:TA P r):TA P (.nd l k v r):=⟨p,a,b⟩
theorem TA.at{α:Type}{P:Nat->α->Prop}{x:Nat}{v:α}:∀{t:Tr α},TA P t->dn t x=some v->P x v:=by
 intro t
 induction t with
 |lf=>exact λ_ h=>ns h
 |nd l k w r fR bP=>
  intro a h
  have a:=a
  have h:aa (Nat.beq x k) (some w) (aa (Nat.blt x k) (dn l x) (dn r x))=some v:=h
  cases e:Nat.beq x k with
  |true=>rw[e] at h;exact bx.mp e▸af h▸a.1
  |false=>
   rw[e] at h
   have h:=h
   cases q:Nat.blt x k with
   |true=>rw[q] at h;exact fR a.2.1 h
   |false=>rw[q] at h;exact bP a.2.2 h
def LA{α:Type}(P:Nat->α->Prop):Nat->List (Option α)->Prop
 |_,[]=>True
 |k,o::r=>(∀v,o=some v->P k v)/\LA P (k+1) r
theorem LA.at{α:Type}{P:Nat->α->Prop}{v:α}:∀{l:List (Option α)} {k j:Nat},LA P k l->aj l j=some (some v)->P (k+j) v
 |[],_,_,_,h=>ns h
 |o::r,k,0,a,h=>a.1 v (af h)
 |o::r,k,j+1,a,h=>(by omega:k+1+j=k+(j+1))▸a.2.at (h)
theorem VA{α:Type}{l:List (Option α)}{v:α}(h:Option.rec none (λo=>o) (aj l k)=some v):aj l k=some (some v):=by
 cases e:aj l k with
 |none=>rw[e] at h;exact ns h
 |some o=>rw[e] at h;exact aq some h
theorem Ug{l:List (Nat×Nat)}(h:(l.map (·.2)).Nodup)(a:q∈l)(b:q'∈l)(e:q.2=q'.2):q=q':=by
 induction l with
 |nil=>nomatch a
 |cons p r ih=>
  have h:=List.nodup_cons.mp h
  rcases List.mem_cons.mp a with a|a
  · rcases List.mem_cons.mp b with b|b
    · exact a.trans b.symm
    · exact aV (List.mem_map.mpr ⟨q',b,a▸e.symm⟩) h.1
  · rcases List.mem_cons.mp b with b|b
    · exact aV (List.mem_map.mpr ⟨q,a,b▸e⟩) h.1
    · exact ih h.2 a b
section
variable{c:Cx}{X:Addr->Prop}{A B:Around}{env:Env}{fr:Fr}{μ:Mu}{σ:Sg}{s:Shared}{E:Value->Shared->Prop}{n:Nat}{K:Frag}{ih:Ev}
def gd(_:Addr):Prop:=False
theorem RQ(G:bp c K)(hA:A.frames=some [])(hh:A.handled=none)(hd:A.depth+1+2*n+4<=990)(hu:A.units+3+12*n+400<=9000)(st:c.base.StaysIn s.heap)(tb:∀q∈c.tabs,uz (c.tq q.1) s.heap q)
 (kc:scope.names=names c sc)(hk:scope.kind=.function)(hs:∀p∈sc,p.2<=3){code:Value}(hc:lm=true->∃cd P,code=.ref cd/\(cd,P)∈c.tabs/\qual++ "<lambda>" =c.tq cd)
 (z:ay (λb y=>ad c gd [] s.heap b.2 y) bs ys)(hb:rt ⟨sc,(ew (dm sc) hE []).2,lm⟩ bs ⟨(ew (dm sc) hE []).1,[]⟩=.ok () σ₂){Q':Env->Shared->Prop}{E':Value->Shared->Prop}
 (k:∀env' a9 aB,aJ c n (A.deeper env') env' ⟨sc,(ew (dm sc) hE []).2,lm⟩->Ok c gd (A.deeper env') env' ⟨sc,(ew (dm sc) hE []).2,lm⟩ a9 σ₂ aB->aB.gens=s.gens->aB.os=s.os->Q' env' aB):
 wpAny c.M B (newFunctionEnv scope mainGlobals [] ((bs.map λb=>c.nm b.1).zip ys) qual func code none builtinsNs) Q' E' s:=by
 refine ah (wpAny_alloc (ah (wpAny_layCells _ (λ_ _ _=>rfl) _ _ _ _ ?_)))
 rw[kc]
 have W:y5 c sc lm (newEnv scope s.heap.objs.size mainGlobals (cellsFrom (s.heap.push {cls:=.type "frame",data:=.dict #[]}).objs.size (names c sc) []) qual func code none builtinsNs) s.heap.objs.size (cellsFrom (s.heap.push {cls:=.type "frame",data:=.dict #[]}).objs.size (names c sc) []):=
  ⟨rfl,rfl,E3 G.inj kc hs,hk,rfl,rfl,rfl,hc⟩
 have k1:aY (λ_=>False) s.heap (s.heap.push {cls:=.type "frame",data:=.dict #[]}):=aY.push _ _ _
 have hL:s.heap.get? s.heap.objs.size=none:=cY _
 have ib:=λb o e=>k1.2 b o (st b o e) id
 have bn:=Option.eq_none_iff_forall_ne_some.mpr λo e=>cg (st _ _ e) hL
 have o1:Ok c gd A (newEnv scope s.heap.objs.size mainGlobals (cellsFrom (s.heap.push {cls:=.type "frame",data:=.dict #[]}).objs.size (names c sc) []) qual func code none builtinsNs) ⟨sc,[],lm⟩ [] ⟨hE,[]⟩ {s with heap:=s.heap.push {cls:=.type "frame",data:=.dict #[]}}:=
  { len:=⟨rfl,qO⟩
    obj:=λn o e=>aV (qO.lt e) (Nat.not_lt_zero n)
    apart:=λi j p q h=>ns h
    new:=λb h=>(dR.mp h).elim λn q=>q.elim λp q=>Mine.ns q.1
    ns:=⟨λ_=>none,Heap.Ns.new s.heap _,λx v h=>Mine.ns h⟩
    lout:=⟨λh=>(dR.mp h).elim λn q=>q.elim λp q=>Mine.ns q.1,bn,id⟩
    cells:=λx l h=>Mine.ns h
    stays:=ib
    frs:=⟨[],hA,λe he=>aV he List.not_mem_nil,λb hb=>aV hb List.not_mem_nil⟩
    tabs:=λq hq=>zV (tb q hq) λb o e _=>k1.2 b o e id
    xlt:=λb h=>h.elim}
 obtain⟨ao,C⟩:=DZ G sc o1 (g:=[]) (acc:=[]) λx l h=>Mine.ns h
 have o2:=(C.ok.setg (g:=(ew (dm sc) hE []).2) λx l hl=>C.rel x l hl).deeper W.fr W.fn
 have eo:aJ c n (A.deeper (newEnv scope s.heap.objs.size mainGlobals (cellsFrom (s.heap.push {cls:=.type "frame",data:=.dict #[]}).objs.size (names c sc) []) qual func code none builtinsNs)) (newEnv scope s.heap.objs.size mainGlobals (cellsFrom (s.heap.push {cls:=.type "frame",data:=.dict #[]}).objs.size (names c sc) []) qual func code none builtinsNs) ⟨sc,(ew (dm sc) hE []).2,lm⟩:=
  ⟨W.kd.k0,W.kd.k1,λx q=>.inr (W.kd.k2 x q),W.kd.k3,W.kd.kl,W.kd.kk,W.fn,W.gl,W.bi,⟨_,[],_,aq (Option.map _) hA,W.fr,W.fr⟩,hh,W.code,by
   exact hd,by
   exact hu⟩
 have sy:di gd gd s.heap (pushCells (s.heap.push {cls:=.type "frame",data:=.dict #[]}) (names c sc)):=(k1.trans C.only).keepX [] |>.stays (λb o e f=>f.elim) λ_ _ _ q=>q
 refine ah (wpAny_mono (Q:=λ_ aB=>Q' (newEnv scope s.heap.objs.size mainGlobals (cellsFrom (s.heap.push {cls:=.type "frame",data:=.dict #[]}).objs.size (names c sc) []) qual func code none builtinsNs) aB) (E:=E') ?_ (λ_ aB bh=>aS bh) λ_ _ e=>e)
 exact EL (E':=E') G.inj W.kd.k0 W.kd.k1 W.fn bs o2 (z.mono λ_ _ q=>q.mono sy C.ext) (E:=λ_ _=>False) (by rw[hb];exact λav s' y nx o' _=>k _ _ _ eo o' nx.gens nx.os)
theorem Z2(S:SS c n ih.eS)(eo:aJ c n A env fr)(b2:List Mine.S){E:Value->Shared->Prop}{Q:Flow->Shared->Prop}(b:List Mine.S):∀{μ:Mu} {σ:Sg} {s:Shared},Ok c X A env fr μ σ s->
 ac c X A env fr (DF c X) μ s (Mine.execs ih fr b σ) (λf s'=>match f with|.next=>wpAny c.M A (PySem.execs (cU c.nm b2) env) Q E s'|f=>Q f s') E->wpAny c.M A (PySem.execs (cU c.nm (b++b2)) env) Q E s:=by
 induction b with
 |nil=>exact λo h=>ac.ok h (y:=Flow.next) .refl o trivial
 |cons st r bP=>
  intro μ σ s o h
  refine wpAny_execs_cons (S X A env fr μ σ s st _ E eo o (ac.bind (D':=DF c X) h λf aM ao y s₁ n₁ aC bj h₁=>?_))
  revert h₁
  exact vq bj (λh₁=>bP aC h₁) λv w r h₁=>ac.ok h₁ (y:=Flow.ret w) .refl aC r
end
section
variable{c:Cx}{X:Addr->Prop}{A:Around}{env:Env}{fr:Fr}{μ:Mu}{σ:Sg}{s:Shared}
theorem CQ:∀{k a i:Nat} {v:V},au (zq k a) i=some v->v=.bi i
 |0,_,_,_,h=>ns h
 |k+1,a,i,v,h=>by
  have h:au ((a,V.bi a)::zq k (a+1)) i=some v:=h
  rw[dy] at h
  by_cases e:a=i
  · rw[aG e] at h;exact e▸(af h).symm
  · rw[ax e] at h;exact CQ h
theorem XB(K:gp c ⟨dh bs 0,iS⟩ bs H0 σ.H)(o:Ok c X A env fr μ σ s):rI c c ⟨dh bs 0,iS⟩ (dH μ bs) μ where
 loc:=λi b e=>by
  have hb:=Bw e
  obtain⟨o0,h0⟩:=K.w.some (K.n▸i7 hb)
  obtain⟨b',ob,z1,z2,_⟩:=K.obj i o0 h0
  have q:=bz hb z1
  subst q
  exact(o.at_mu z2).imp λp hp=>⟨oK hb hp,hp⟩
 hid:=λk b _ e=>V.noConfusion (CQ (k:=26) (a:=14) e)
 hib:=λk j _ _ e=>(show j=k from by have:=CQ (k:=26) (a:=14) e;injection this)▸rfl
 bi:=λ_ _=>rfl
 rho:=rfl
 seg:=rfl
 sp:=K.sp
 fn:=rfl
 cl:=rfl
 nm:=rfl
 prog:=rfl
 w:=rfl
noncomputable def Bn(m:Mt)(r r0:List (Nat×V)):Bool:=List.rec true (λp _ ih=>aa (Option.rec false (λv=>b8 m v p.2) (au r p.1)) ih false) r0
noncomputable def AH(g:List (Nat×Nat))(bs:List Nat):Bool:=List.rec true (λp _ ih=>aa (dK (aj bs p.2) p.2) ih false) g
theorem Vt(h:Bn m r r0=true)(e:au r0 x=some v0):∃v,au r x=some v/\b8 m v v0=true:=by
 induction r0 with
 |nil=>exact ns e
 |cons p q ih=>
  have h:=aO (h)
  have e:=e
  rw[dy] at e
  by_cases k:p.1=x
  · rw[aG k] at e
    exact bV h.1 λv hv hm=>⟨v,k▸hv,af e▸hm⟩
  · rw[ax k] at e;exact ih h.2 e
theorem P4(h:AH g bs=true)(e:au g x=some l):aj bs l=some l:=by
 induction g with
 |nil=>exact ns e
 |cons p q ih=>
  have h:=aO (h)
  have e:=e
  rw[dy] at e
  by_cases k:p.1=x
  · rw[aG k] at e;obtain rfl:=af e;exact mn h.1
  · rw[ax k] at e;exact ih h.2 e
theorem Ok.cut(sp:∀j,∀v∈c.seg j,dz v=true)(hc:tF ⟨dh bs 0,iS⟩ bs l0 σ.H=true)(hr:Bn ⟨dh bs 0,iS⟩ σ.r r0=true)(hg:AH fr.g bs=true)(o:Ok c X A env fr μ σ s):
 Ok c X A env fr (dH μ bs) ⟨hL l0,r0⟩ s:=
 have K:=BX hc c sp
 have C:=XB K o
 have B:=K.at o
 { len:=⟨by unfold dH;rw[List.length_map];exact K.n,K.w⟩
   obj:=λi o0 h0=>(K.obj i o0 h0).elim λb z=>z.elim λob z=>(o.obj b ob z.2.1).elim λp w=>⟨p,oK z.1 w.1,(AE C z.2.2).mpr w.2⟩
   apart:=λi j p q hi hj ne=>(mZ B hi).elim λa u=>(mZ B hj).elim λb w=>o.apart a b p q u.2 w.2 λe=>ne (ym K.nd u.1 (e.symm▸w.1))
   new:=λb hb=>o.new b (j6 B hb)
   ns:=o.ns.imp λm y=>⟨y.1,λx v0 h0=>(Vt hr h0).elim λv w=>(y.2 x v w.1).imp λz u=>⟨u.1,((ma C v w.2).1 z).mpr u.2⟩⟩
   lout:=⟨λq=>o.lout.1 (j6 B q),o.lout.2⟩
   cells:=λx l e=>(o.cells x l e).imp λp w=>⟨oK (P4 hg e) w.1,w.2⟩
   stays:=o.stays
   frs:=o.frs.imp λl y=>⟨y.1,y.2.1,λb hb=>⟨λq=>(y.2.2 b hb).1 (j6 B q),(y.2.2 b hb).2⟩⟩
   tabs:=o.tabs
   xlt:=o.xlt}
end
section
variable{c:Cx}{v v':cc}{θ a6:Nat->Option V}{sg cE:Nat->Option (List V)}{X:Addr->Prop}{A:Around}{env:Env}{fr:Fr}{μ:Mu}{s:Shared}{T T':Tb}{b:Nat->Value}
theorem H7(O:b6 v θ sg)(O':b6 v' a6 cE)(h1:aN (bA θ sg) l0=some x)(h2:aN (bA a6 cE) Nm=some x)
 (h3:aN (λp=>aD (ai θ p.2) λv=>some (p.1,v)) r0=some y)(h4:aN (λp=>aD (ai a6 p.2) λv=>some (p.1,v)) r0'=some y)(o:Ok (c.vw T b v) X A env fr μ ⟨hL l0,r0⟩ s):Ok (c.vw T' b v') X A env fr μ ⟨hL Nm,r0'⟩ s:=by
 have m1:=j0 (λ_ _ e=>e) _ h1
 have m2:=j0 (λ_ _ e=>e) _ h2
 have a1:=As (b:=b) (b1:=b) O v' (λ_ _=>rfl) (xg h3)
 have a2:=As (b:=b) (b1:=b) O' v' (λ_ _=>rfl) (xg h4)
 refine(o.tbl (T':=T')).turn (yq c T' b b v v') (HE.list (m1.meet m2 λx y z p q=>(uw O O' (λ_ _=>rfl) p q:OE (c.vw T' b v) (c.vw T' b v') x y))) λn w' hw=>?_
 obtain⟨z,e1,e2⟩:=a2.1 n w' hw
 obtain⟨w,e3,e4⟩:=a1.2 n z e1
 exact⟨w,e3,ud O O' e4 e2 T' b b λ_ _=>rfl⟩
end
inductive Dw|n (d:Nat)|z|t (l:List (List Nat))
structure Dr where
 top:Nat
 w:Dw
inductive DT(α:Type)|leaf (a:α)|ask (top:Nat) (f:Nat->DT α)|skip (d:Dr) (t:DT α)
def qQ{α:Type}(t:DT α):(α->List Dr->Bool)->List Dr->Bool:=
 DT.rec (λa jy p=>jy a p) (λtop _ ih jy p=>aa (Nat.blt 0 top) (bO (λd=>ih d jy (app p [⟨top,.n d⟩])) top) false) (λd _ ih jy p=>ih jy (app p [d])) t
structure ik where
 d:Int->Int->Nat->Nat
 n:Int->Int->Nat->Int×Int
 lt:∀A B t,0<t->d A B t<t
def ik.at(D:ik):List Dr->Int×Int->Int×Int
 |[],p=>p
 |x::r,p=>D.at r (D.n p.1 p.2 x.top)
def ik.is(D:ik):List Dr->Int×Int->Prop
 |[],_=>True
 |x::r,p=>(∀d,x.w=.n d->D.d p.1 p.2 x.top=d)/\D.is r (D.n p.1 p.2 x.top)
theorem ik.is_app(D:ik)(x:Dr):∀(l:List Dr) (p:Int×Int),D.is l p->(∀d,x.w=.n d->D.d (D.at l p).1 (D.at l p).2 x.top=d)->D.is (l++[x]) p
 |[],_,_,h=>⟨h,trivial⟩
 |_::r,p,h,k=>⟨h.1,D.is_app x r _ h.2 k⟩
def zo(d:Dr):Prop:=∀k,d.w≠.n k
def DT.open{α:Type}:DT α->Prop
 |.leaf _=>True
 |.ask _ f=>∀d,(f d).open
 |.skip d t=>zo d/\t.open
theorem xS{α:Type}(D:ik){jy:α->List Dr->Bool}(t:DT α):∀{l:List Dr} {p:Int×Int},t.open->qQ t jy l=true->D.is l p->∃a l',jy a l'=true/\D.is l' p:=by
 induction t with
 |leaf a=>exact λ_ h k=>⟨a,_,h,k⟩
 |ask top f ih=>
  intro l p ho h k
  have h:=aO (h)
  have lt:=D.lt (D.at l p).1 (D.at l p).2 top (cF h.1)
  refine ih _ (ho _) (bZ h.2 _ lt) ?_
  rw[cq]
  exact D.is_app _ l p k λd e=>by injection e
 |skip d t ih=>
  intro l p ho h k
  refine ih ho.2 (h) ?_
  rw[cq]
  exact D.is_app _ l p k λe he=>aV he (ho.1 e)
def ik.pt(D:ik)(l:List Dr)(p:Int×Int)(k:Nat):Int×Int:=D.at (l.take k) p
theorem ik.pt_succ(D:ik):∀(l:List Dr) (p:Int×Int) (k:Nat) (x:Dr),aj l k=some x->D.pt l p (k+1)=D.n (D.pt l p k).1 (D.pt l p k).2 x.top
 |[],_,_,_,h=>ns h
 |y::r,p,0,x,h=>by obtain rfl:=af h;rfl
 |y::r,p,k+1,x,h=>D.pt_succ r (D.n p.1 p.2 y.top) k x h
theorem ik.is_get(D:ik):∀(l:List Dr) (p:Int×Int) (k:Nat) (x:Dr),D.is l p->aj l k=some x->∀d,x.w=.n d->D.d (D.pt l p k).1 (D.pt l p k).2 x.top=d
 |[],_,_,_,_,h=>ns h
 |y::r,p,0,x,i,h=>by obtain rfl:=af h;exact i.1
 |y::r,p,k+1,x,i,h=>D.is_get r (D.n p.1 p.2 y.top) k x i.2 h
end
section
open PySem
noncomputable def nk:Tr (List Nat):=(.nd (.nd (.nd (.nd (.nd (.nd (.nd (.nd (.nd .lf 0 [109,101,115,115,97,103,101] .lf) 1 [115,112,111,116] .lf) 2 [102,97,115,116] (.nd .lf 3 [107] .lf)) 4 [115,101,108,102] (.nd (.nd (.nd .lf 5 [69,120,99,101,112,116,105,111,110] .lf) 6 [95,95,105,110,105,116,95,95] .lf) 7 [116,111,108,100] (.nd .lf 8 [107,105,110,100] .lf))) 9 [105,110,110,101,114] (.nd (.nd (.nd (.nd .lf 10 [102,111,117,110,100] .lf) 11 [111,110,101] .lf) 12 [114,101,103,105,111,110,115,95,111,102] (.nd .lf 13 [108,105,115,116] .lf)) 14 [101,120,116,101,110,100] (.nd (.nd (.nd .lf 15 [107,110,111,119,110] .lf) 16 [114,101,103,105,111,110] .lf) 17 [78,97,109,101,70,97,117,108,116] (.nd .lf 18 [83,84,65,84,73,67] .lf)))) 19 [115,116,114] (.nd (.nd (.nd (.nd (.nd .lf 20 [109,111,100,117,108,101,115] .lf) 21 [109,111,100,117,108,101] .lf) 22 [103,101,110,101,114,105,99,115] (.nd .lf 23 [115,101,108,102,95,116,121,112,101] .lf)) 24 [102,114,101,115,104] (.nd (.nd (.nd .lf 25 [119,114,105,116,116,101,110] .lf) 26 [114,101,103,105,111,110,95,116,111,108,100] .lf) 27 [116,117,112,108,101] (.nd .lf 28 [77,79,83,84,95,69,76,69,77,69,78,84,83] .lf))) 29 [84,121,112,101,70,97,117,108,116] (.nd (.nd (.nd (.nd .lf 30 [112,97,116,104] .lf) 31 [114,101,97,100] .lf) 32 [46,48] (.nd .lf 33 [117,110,107,110,111,119,110] .lf)) 34 [115,112,97,116,104] (.nd (.nd (.nd .lf 35 [114,111,119] .lf) 36 [110,97,109,101,115] .lf) 37 [108,101,110] (.nd .lf 38 [115,105,110,103,108,101] .lf))))) 39 [110,97,109,101,100] (.nd (.nd (.nd (.nd (.nd (.nd .lf 40 [110,97,109,101] .lf) 41 [114,101,103,105,111,110,115] .lf) 42 [116,121,112,101,115] (.nd .lf 43 [73,78,84,95,75,73,78,68,83] .lf)) 44 [98,97,114,101] (.nd (.nd (.nd .lf 45 [112,97,114,97,109,115] .lf) 46 [102,105,110,100] .lf) 47 [107,105,110,100,115] (.nd .lf 48 [82,101,97,100,101,114] .lf))) 49 [105,115,95,116,111,108,100] (.nd (.nd (.nd (.nd .lf 50 [97,108,108] .lf) 51 [98,111,117,110,100,115] .lf) 52 [112,97,116,104,115] (.nd .lf 53 [116,114,97,105,116,95,111,102] .lf)) 54 [97,112,112,101,110,100] (.nd (.nd (.nd .lf 55 [97,116] .lf) 56 [114,102,105,110,100] .lf) 57 [111,119,110,101,114] (.nd .lf 58 [115,116,97,114,116,115,119,105,116,104] .lf)))) 59 [105,115,95,112,117,98] (.nd (.nd (.nd (.nd (.nd .lf 60 [118,97,108,117,101,115] .lf) 61 [117,115,101,115] .lf) 62 [115,112,97,99,101] (.nd .lf 63 [115,112,97,99,101,115] .lf)) 64 [105,116,101,109,115] (.nd (.nd (.nd .lf 65 [108,101,102,116] .lf) 66 [105,116,101,109] .lf) 67 [84,97,98,108,101] (.nd .lf 68 [106,111,105,110,101,100] .lf))) 69 [112,117,98,108,105,99,115] (.nd (.nd (.nd (.nd .lf 70 [116,97,98,108,101,115] .lf) 71 [107,101,112,116] .lf) 72 [112,111,112] (.nd .lf 73 [101,110,116,101,114] .lf)) 74 [101,110,116,101,114,95,117,115,101] (.nd (.nd .lf 75 [100,101,99,108,97,114,101] .lf) 76 [100,101,99,108,97,114,101,95,116,121,112,101] (.nd .lf 77 [101,110,116,101,114,95,118,97,114,105,97,110,116,115] .lf)))))) 78 [116,97,98,108,101] (.nd (.nd (.nd (.nd (.nd (.nd (.nd .lf 79 [80,76,65,73,78,95,78,65,77,69,83] .lf) 80 [105,115,95,116,97,107,101,110] .lf) 81 [97,108,105,97,115] (.nd .lf 82 [87,65,89,83] .lf)) 83 [85,115,101] (.nd (.nd (.nd .lf 84 [97,115,107,101,114] .lf) 85 [105,115,95,119,105,116,104,105,110] .lf) 86 [119,97,108,107] (.nd .lf 87 [115,101,101,110] .lf))) 88 [104,101,114,101] (.nd (.nd (.nd (.nd .lf 89 [119,97,110,116,101,100] .lf) 90 [98,101,103,105,110] .lf) 91 [115,116,101,112] (.nd .lf 92 [106,111,105,110] .lf)) 93 [112,97,114,101,110,116,95,111,102] (.nd (.nd (.nd .lf 94 [80,82,69,76,85,68,69,95,78,65,77,69,83] .lf) 95 [108,111,111,107] .lf) 96 [117,115,101] (.nd .lf 97 [86,105,115,105,98,105,108,105,116,121,70,97,117,108,116] .lf)))) 98 [103,101,116] (.nd (.nd (.nd (.nd (.nd .lf 99 [99,97,110,95,115,101,101] .lf) 100 [102,111,108,108,111,119] .lf) 101 [77,79,83,84,95,85,83,69,83] (.nd .lf 102 [95,119,97,108,108] .lf)) 103 [118,97,114,105,97,110,116,115] (.nd (.nd (.nd .lf 104 [105,115,95,101,110,117,109] .lf) 105 [111,119,110] .lf) 106 [105,110,112,117,116,115] (.nd .lf 107 [111,117,116,112,117,116] .lf))) 108 [115,101,108,102,95,107,105,110,100] (.nd (.nd (.nd (.nd .lf 109 [104,97,115,95,98,111,100,121] .lf) 110 [97,100,116,115] .lf) 111 [115,105,103,115] (.nd .lf 112 [116,114,97,105,116,115] .lf)) 113 [105,109,112,108,115] (.nd (.nd (.nd .lf 114 [99,111,110,115,116,115] .lf) 115 [98,111,100,105,101,115] .lf) 116 [110,117,109,98,101,114] (.nd .lf 117 [83,99,111,112,101] .lf))))) 118 [99,111,117,110,116] (.nd (.nd (.nd (.nd (.nd (.nd .lf 119 [77,111,100,117,108,101,115] .lf) 120 [87,111,114,108,100] .lf) 121 [119,111,114,108,100] (.nd .lf 122 [108,97,116,101] .lf)) 123 [111,119,101,100] (.nd (.nd (.nd .lf 124 [115,99,111,112,101] .lf) 125 [116,121,112,101,95,111,102] .lf) 126 [114,111,119,115] (.nd .lf 127 [98,111,117,110,100,115,95,111,102] .lf))) 128 [119,105,116,104,105,110] (.nd (.nd (.nd (.nd .lf 129 [102,111,114,109,115] .lf) 130 [102,111,114,109] .lf) 131 [102,105,101,108,100,115] (.nd .lf 132 [115,105,103] .lf)) 133 [101,110,117,109,101,114,97,116,101] (.nd (.nd (.nd .lf 134 [65,100,116] .lf) 135 [83,105,103] .lf) 136 [111,112,101,110,101,100] (.nd .lf 137 [102,105,101,108,100] .lf)))) 138 [99,104,101,99,107,95,114,101,103,105,111,110,115] (.nd (.nd (.nd (.nd (.nd .lf 139 [116,111,108,100,95,116,121,112,101] .lf) 140 [105,115,95,107,101,112,116] .lf) 141 [110,97,109,101,115,95,119,105,116,104,105,110] (.nd .lf 142 [67,111,104,101,114,101,110,99,101,70,97,117,108,116] .lf)) 143 [115,99,114,105,112,116] (.nd (.nd (.nd .lf 144 [99,101,108,108] .lf) 145 [103,114,101,97,116] .lf) 146 [109,97,120] (.nd .lf 147 [105,110,116] .lf))) 148 [115,111,117,114,99,101] (.nd (.nd (.nd (.nd .lf 149 [116,111,112] .lf) 150 [100,114,97,119,110] .lf) 151 [116,104,105,110,103,115] (.nd .lf 152 [95,108,97,119,95,116,97,107,101] .lf)) 153 [99,97,108,108] (.nd (.nd .lf 154 [102,97,117,108,116] .lf) 155 [119,111,114,100] (.nd .lf 156 [117,56] .lf))))))) 157 [95,108,97,119,95,112,97,116,104] (.nd (.nd (.nd (.nd (.nd (.nd (.nd (.nd .lf 158 [100,117,101] .lf) 159 [116,114,101,101,115] .lf) 160 [112,97,105,114,115] (.nd .lf 161 [95,108,97,119,95,116,121,112,101] .lf)) 162 [95,108,97,119,95,105,115,95,102,97,117,108,116] (.nd (.nd (.nd .lf 163 [112,97,105,114] .lf) 164 [105,115,95,115,117,109] .lf) 165 [108,111,116,115] (.nd .lf 166 [112,97,114,116,115] .lf))) 167 [102,97,117,108,116,115] (.nd (.nd (.nd (.nd .lf 168 [97,100,116] .lf) 169 [116,114,97,105,116] .lf) 170 [119,104,111,108,101] (.nd .lf 171 [99,111,108,108,101,99,116,111,114] .lf)) 172 [122,105,112] (.nd (.nd (.nd .lf 173 [67,111,108,108,101,99,116,111,114] .lf) 174 [95,108,97,119,95,104,101,97,114,100] .lf) 175 [100,105,99,116] (.nd .lf 176 [105,115,95,97,115,107,101,100] .lf)))) 177 [95,108,97,119,95,114,111,119,115,95,100,117,101] (.nd (.nd (.nd (.nd (.nd .lf 178 [108,111,116] .lf) 179 [116,97,107,101,95,116,121,112,101] .lf) 180 [116,114,101,101] (.nd .lf 181 [119,111,114,100,115] .lf)) 182 [109,101,110,117] (.nd (.nd (.nd .lf 183 [109,101,116] .lf) 184 [99,104,101,99,107,95,112,97,114,97,109,115] .lf) 185 [109,97,110,121] (.nd .lf 186 [95,108,97,119,95,116,97,107,101,110,95,114,105,103,104,116] .lf))) 187 [95,108,97,119,95,97,108,111,110,101,95,114,105,103,104,116] (.nd (.nd (.nd (.nd .lf 188 [95,108,97,119,95,112,97,114,97,109,115,95,114,105,103,104,116] .lf) 189 [95,108,97,119,95,116,111,108,100,95,114,105,103,104,116] .lf) 190 [95,108,97,119,95,115,101,108,102,95,114,105,103,104,116] (.nd .lf 191 [95,108,97,119,95,112,111,111,108] .lf)) 192 [95,108,97,119,95,111,110,101] (.nd (.nd (.nd .lf 193 [114,97,110,103,101] .lf) 194 [95,108,97,119,95,119,111,114,100,115] .lf) 195 [116,117,114,110] (.nd .lf 196 [95,95,110,97,109,101,95,95] .lf))))) 197 [76,101,110,100,69,114,114,111,114] (.nd (.nd (.nd (.nd (.nd (.nd .lf 198 [102,105,110,100,95,112,114,101,102,105,120] .lf) 199 [99,104,101,99,107,101,100,95,117,115,101,115] .lf) 200 [99,104,101,99,107,101,100,95,112,117,98,108,105,99,115] (.nd .lf 201 [109,97,121,95,116,101,108,108,95,111,110] .lf)) 202 [105,115,95,102,105,101,108,100,95,115,101,101,110] (.nd (.nd (.nd .lf 203 [114,117,110] .lf) 204 [99,104,101,99,107,95,111,119,101,100] .lf) 205 [116,97,107,101,95,102,110] (.nd .lf 206 [115,101,108,102,95,105,110,112,117,116] .lf))) 207 [116,97,107,101,95,99,111,110,115,116] (.nd (.nd (.nd (.nd .lf 208 [116,97,107,101,95,116,114,97,105,116] .lf) 209 [116,97,107,101,95,105,109,112,108] .lf) 210 [99,108,111,115,101,100] (.nd .lf 211 [116,114,97,105,116,95,111,102,95,105,109,112,108] .lf)) 212 [108,97,119] (.nd (.nd (.nd .lf 213 [47,99,108,97,105,109,47,99,117,116,46,112,121] .lf) 214 [116,121,112,101,46,95,95,115,117,98,99,108,97,115,115,101,115,95,95,46,69,120,99,101,112,116,105,111,110,46,48] .lf) 215 [116,121,112,101,46,95,95,115,117,98,99,108,97,115,115,101,115,95,95,46,69,120,99,101,112,116,105,111,110,46,110] (.nd .lf 216 [108,97,119,95,120,119,48,49,56,50,95,48,49] .lf)))) 217 [95,95,100,111,99,95,95] (.nd (.nd (.nd (.nd (.nd .lf 218 [95,95,112,97,99,107,97,103,101,95,95] .lf) 219 [95,95,108,111,97,100,101,114,95,95] .lf) 220 [95,95,115,112,101,99,95,95] (.nd .lf 221 [95,95,97,110,110,111,116,97,116,105,111,110,115,95,95] .lf)) 222 [95,95,98,117,105,108,116,105,110,115,95,95] (.nd (.nd (.nd .lf 223 [95,95,102,105,108,101,95,95] .lf) 224 [95,95,99,97,99,104,101,100,95,95] .lf) 225 [39,115,116,97,116,105,99] (.nd .lf 226 [60,109,111,100,117,108,101,62] .lf))) 227 [95,95,109,97,105,110,95,95] (.nd (.nd (.nd (.nd .lf 228 [95,95,109,111,100,117,108,101,95,95] .lf) 229 [108,101,110,100,99,111,114,101,46,101,114,114,111,114,115] .lf) 230 [95,95,113,117,97,108,110,97,109,101,95,95] (.nd .lf 231 [95,95,102,105,114,115,116,108,105,110,101,110,111,95,95] .lf)) 232 [95,95,115,116,97,116,105,99,95,97,116,116,114,105,98,117,116,101,115,95,95] (.nd (.nd .lf 233 [76,101,110,100,69,114,114,111,114,46,95,95,105,110,105,116,95,95] .lf) 234 [95,95,119,101,97,107,114,101,102,95,95] (.nd .lf 235 [105,56] .lf)))))) 236 [105,49,54] (.nd (.nd (.nd (.nd (.nd (.nd (.nd .lf 237 [105,51,50] .lf) 238 [105,54,52] .lf) 239 [117,49,54] (.nd .lf 240 [117,51,50] .lf)) 241 [117,54,52] (.nd (.nd (.nd .lf 242 [117,115,105,122,101] .lf) 243 [108,101,110,100,99,111,114,101,46,110,97,109,101,115] .lf) 244 [82,101,97,100,101,114,46,95,95,105,110,105,116,95,95] (.nd .lf 245 [82,101,97,100,101,114,46,114,101,97,100] .lf))) 246 [82,101,97,100,101,114,46,117,110,107,110,111,119,110] (.nd (.nd (.nd (.nd .lf 247 [82,101,97,100,101,114,46,112,97,116,104] .lf) 248 [82,101,97,100,101,114,46,115,105,110,103,108,101] .lf) 249 [82,101,97,100,101,114,46,98,97,114,101] (.nd .lf 250 [82,101,97,100,101,114,46,110,97,109,101,100] .lf)) 251 [95,95,100,105,99,116,95,95] (.nd (.nd (.nd .lf 252 [67,108,111,110,101] .lf) 253 [67,111,112,121] .lf) 254 [68,101,102,97,117,108,116] (.nd .lf 255 [68,114,111,112] .lf)))) 256 [69,114,114] (.nd (.nd (.nd (.nd (.nd .lf 257 [78,111,110,101] .lf) 258 [79,107] .lf) 259 [79,112,116,105,111,110] (.nd .lf 260 [82,97,110,103,101,56] .lf)) 261 [82,101,115,117,108,116] (.nd (.nd (.nd .lf 262 [83,111,109,101] .lf) 263 [86,101,99,56] .lf) 264 [115,119,97,112,112,101,100] (.nd .lf 265 [99,114,97,116,101] .lf))) 266 [115,117,112,101,114,33] (.nd (.nd (.nd (.nd .lf 267 [98,111,111,108] .lf) 268 [66,111,120] .lf) 269 [108,101,110,100,99,111,114,101,46,109,111,100,117,108,101,115] (.nd .lf 270 [85,115,101,46,95,95,105,110,105,116,95,95] .lf)) 271 [84,97,98,108,101,46,95,95,105,110,105,116,95,95] (.nd (.nd (.nd .lf 272 [84,97,98,108,101,46,115,112,97,99,101] .lf) 273 [84,97,98,108,101,46,105,115,95,116,97,107,101,110] .lf) 274 [77,111,100,117,108,101,115,46,95,95,105,110,105,116,95,95] (.nd .lf 275 [77,111,100,117,108,101,115,46,101,110,116,101,114] .lf))))) 276 [77,111,100,117,108,101,115,46,100,101,99,108,97,114,101] (.nd (.nd (.nd (.nd (.nd (.nd .lf 277 [77,111,100,117,108,101,115,46,100,101,99,108,97,114,101,95,116,121,112,101] .lf) 278 [77,111,100,117,108,101,115,46,101,110,116,101,114,95,118,97,114,105,97,110,116,115] .lf) 279 [77,111,100,117,108,101,115,46,101,110,116,101,114,95,117,115,101] (.nd .lf 280 [77,111,100,117,108,101,115,46,99,97,110,95,115,101,101] .lf)) 281 [77,111,100,117,108,101,115,46,102,105,110,100] (.nd (.nd (.nd .lf 282 [77,111,100,117,108,101,115,46,119,97,108,107] .lf) 283 [77,111,100,117,108,101,115,46,98,101,103,105,110] .lf) 284 [77,111,100,117,108,101,115,46,115,116,101,112] (.nd .lf 285 [77,111,100,117,108,101,115,46,108,111,111,107] .lf))) 286 [77,111,100,117,108,101,115,46,102,111,108,108,111,119] (.nd (.nd (.nd (.nd .lf 287 [77,111,100,117,108,101,115,46,102,105,110,100,95,112,114,101,102,105,120] .lf) 288 [77,111,100,117,108,101,115,46,99,104,101,99,107,101,100,95,117,115,101,115] .lf) 289 [77,111,100,117,108,101,115,46,99,104,101,99,107,101,100,95,112,117,98,108,105,99,115] (.nd .lf 290 [77,111,100,117,108,101,115,46,109,97,121,95,116,101,108,108,95,111,110] .lf)) 291 [108,101,110,100,99,111,114,101,46,119,111,114,108,100] (.nd (.nd (.nd .lf 292 [] .lf) 293 [65,100,116,46,95,95,105,110,105,116,95,95] .lf) 294 [83,105,103,46,95,95,105,110,105,116,95,95] (.nd .lf 295 [87,111,114,108,100,46,95,95,105,110,105,116,95,95] .lf)))) 296 [87,111,114,108,100,46,105,115,95,102,105,101,108,100,95,115,101,101,110] (.nd (.nd (.nd (.nd (.nd .lf 297 [83,99,111,112,101,46,95,95,105,110,105,116,95,95] .lf) 298 [83,99,111,112,101,46,110,97,109,101,115] .lf) 299 [83,99,111,112,101,46,119,105,116,104,105,110] (.nd .lf 300 [67,111,108,108,101,99,116,111,114,46,95,95,105,110,105,116,95,95] .lf)) 301 [67,111,108,108,101,99,116,111,114,46,114,117,110] (.nd (.nd (.nd .lf 302 [67,111,108,108,101,99,116,111,114,46,99,104,101,99,107,95,111,119,101,100] .lf) 303 [67,111,108,108,101,99,116,111,114,46,116,111,108,100,95,116,121,112,101] .lf) 304 [67,111,108,108,101,99,116,111,114,46,111,112,101,110,101,100] (.nd .lf 305 [67,111,108,108,101,99,116,111,114,46,116,97,107,101,95,116,121,112,101] .lf))) 306 [67,111,108,108,101,99,116,111,114,46,102,105,101,108,100,115] (.nd (.nd (.nd (.nd .lf 307 [67,111,108,108,101,99,116,111,114,46,116,97,107,101,95,102,110] .lf) 308 [67,111,108,108,101,99,116,111,114,46,115,101,108,102,95,105,110,112,117,116] .lf) 309 [67,111,108,108,101,99,116,111,114,46,116,97,107,101,95,99,111,110,115,116] (.nd .lf 310 [67,111,108,108,101,99,116,111,114,46,116,97,107,101,95,116,114,97,105,116] .lf)) 311 [67,111,108,108,101,99,116,111,114,46,116,97,107,101,95,105,109,112,108] (.nd (.nd .lf 312 [67,111,108,108,101,99,116,111,114,46,99,104,101,99,107,95,112,97,114,97,109,115] .lf) 313 [67,111,108,108,101,99,116,111,114,46,99,108,111,115,101,100] (.nd .lf 314 [67,111,108,108,101,99,116,111,114,46,116,114,97,105,116,95,111,102,95,105,109,112,108] .lf))))))))
def fx{β:Type}(n:Nat)(k:Nat->β):β:=Nat.rec (k 0) (λm _=>k m) (Nat.add n 1)
def su{α β:Type}(d:α)(l:List α):Nat->(α->β)->β:=List.rec (λ_ k=>k d) (λa _ ih n k=>Nat.rec (k a) (λm _=>ih m k) n) l
def cT{α β:Type}(l:List α)(k:α->List α->List β):List β:=List.rec [] (λx r _=>k x r) l
def hZ{α β:Type}(n:Nat)(l:List α)(k:List α->List α->List β):List β:=Nat.rec (motive:=λ_=>List α->List α->List β) (λa l=>k a l) (λ_ ih a l=>List.rec [] (λx r _=>ih (x::a) r) l) n [] l
def Iv{α β:Type}(b:Nat)(f:Nat->(α->List β)->List β)(x:Nat)(k:List α->List β):List β:=
 Nat.rec (motive:=λ_=>Nat->List α->List β) (λ_ a=>k a) (λ_ ih x a=>aa (Nat.ble x 1) (k a) (f (Nat.mod x b) λc=>fx (Nat.div x b) λy=>ih y (c::a))) 900 x []
def tl(x:Nat):Nat:=len (Option.rec [] (λl=>l) (dn nk x))
def pE(L M:Nat):Nat:=Nat.add (Nat.mul L 1000001000) (Nat.add (Nat.mul (Nat.mod M 512) 1000001) (Nat.mod (Nat.div M 512) 512))
def pN(L c x:Nat):Nat:=Nat.add (Nat.mul L 1000001000) (Nat.add (Nat.mul c 1000001) (tl x))
def pS(L M:Nat):Nat:=Nat.add (Nat.mul (Nat.sub L (Nat.mod (Nat.div M 262144) 64)) 1000000000) (Nat.add (Nat.mul (Nat.mod M 512) 1000000) (Nat.add (Nat.mul L 1000) (Nat.mod (Nat.div M 512) 512)))
abbrev Hn:=Nat->Nat->List E->List S->(Nat->List E->List S->List S)->List S
def eX(M:Nat)(k:Nat->List S):List S:=fx (Nat.div M 262144) k
def sX(M:Nat)(k:Nat->List S):List S:=fx (Nat.div M 16777216) k
def zp(x:Nat)(k:List (Nat×Nat)->List S):List S:=Iv 4096 (λd k=>fx (Nat.div d 4) λa=>fx (Nat.mod d 4) λb=>k (a,b)) x k
def Wi:List Hn:=[
 λM L es ss k=>k L (.none (pE L M)::es) ss,
 λM L es ss k=>eX M λx=>su true [false] x λb=>k L (.bool b (pE L M)::es) ss,
 λM L es ss k=>eX M λx=>k L (.int x (pE L M)::es) ss,
 λM L es ss k=>eX M λx=>Iv 128 fx x λs=>k L (.str s (pE L M)::es) ss,
 λM L es ss k=>fx (Nat.div M 512) λx=>k L (.name x (pN L (Nat.mod M 512) x)::es) ss,
 λM L es ss k=>eX M λa=>cT es λo es=>k L (.attr o a (pE L M)::es) ss,
 λM L es ss k=>cT es λi es=>cT es λo es=>k L (.sub o i (pE L M)::es) ss,
 λM L es ss k=>eX M λx=>hZ (Nat.mod (Nat.div x 262144) 2) es λh es=>hZ (Nat.div x 524288) es λl es=>cT es λo es=>k L (.slice o l h (pE L M) (pE L x)::es) ss,
 λM L es ss k=>eX M λx=>cT es λr es=>cT es λl es=>su .pow [.add,.sub,.mul,.fdiv,.mod] x λo=>k L (.bin o l r (pE L M)::es) ss,
 λM L es ss k=>eX M λx=>cT es λr es=>cT es λl es=>su .le [.eq,.ne,.is,.isNot,.isin,.notIn,.lt,.gt,.ge] x λo=>k L (.cmp o l r (pE L M)::es) ss,
 λM L es ss k=>eX M λx=>hZ (Nat.div x 2) es λl es=>su true [false] (Nat.mod x 2) λb=>k L (.bop b l (pE L M)::es) ss,
 λM L es ss k=>cT es λo es=>k L (.not o (pE L M)::es) ss,
 λM L es ss k=>cT es λo es=>k L (.neg o (pE L M)::es) ss,
 λM L es ss k=>cT es λo es=>cT es λb es=>cT es λt es=>k L (.ife t b o (pE L M)::es) ss,
 λM L es ss k=>eX M λx=>hZ x es λl es=>k L (.tup l (pE L M)::es) ss,
 λM L es ss k=>eX M λx=>hZ x es λl es=>k L (.lst l (pE L M)::es) ss,
 λM L es ss k=>eX M λx=>hZ x es λl es=>hZ x es λm es=>k L (.dct m l (pE L M)::es) ss,
 λM L es ss k=>eX M λx=>hZ x es λl es=>cT es λf es=>k L (.call f l (pE L M)::es) ss,
 λM L es ss k=>eX M λx=>hZ (Nat.mod x 2) es λc es=>cT es λi es=>cT es λt es=>cT es λe es=>zp (Nat.div x 2) λs=>k L (.comp e t i c s (pE L M)::es) ss,
 λM L es ss k=>eX M λx=>cT es λi2 es=>cT es λt2 es=>cT es λi es=>cT es λt es=>cT es λe es=>zp x λs=>k L (.comp2 e t i t2 i2 s (pE L M)::es) ss,
 λM L es ss k=>eX M λx=>cT es λe es=>zp x λs=>k L (.lam [] e s (pE L M)::es) ss,
 λM L es ss k=>cT es λe es=>k L es (.expr e (pS L M)::ss),
 λM L es ss k=>cT es λv es=>cT es λt es=>k L es (.assign t v (pS L M)::ss),
 λM L es ss k=>sX M λx=>hZ x ss λb ss=>cT es λi es=>cT es λt es=>k L es (.forS t i b (pS L M)::ss),
 λM L es ss k=>sX M λx=>hZ x ss λb ss=>cT es λc es=>k L es (.while c b (pS L M)::ss),
 λM L es ss k=>sX M λx=>hZ (Nat.mod x 64) ss λo ss=>hZ (Nat.div x 64) ss λb ss=>cT es λc es=>k L es (.ifS c b o (pS L M)::ss),
 λM L es ss k=>cT es λe es=>k L es (.ret e (pS L M)::ss),
 λM L es ss k=>sX M λx=>hZ (Nat.mod (Nat.div x 512) 8) es λl es=>fx (Nat.div x 4096) λc=>k L es (.raise c l (pN L (Nat.mod x 512) c) (Nat.add (Nat.mul L 1000001000) (Nat.add (Nat.mul (Nat.mod x 512) 1000000) (Nat.mod (Nat.div M 512) 512))) (pS L M)::ss),
 λM L es ss k=>k L es (.pass (pS L M)::ss),
 λM L es ss k=>fx (Nat.add L M) λL=>k L es ss]
def Nz(l:List S):List S->List S:=List.rec (λa=>a) (λx _ ih a=>ih (x::a)) l
def bo(l:List Nat):List S:=List.rec (motive:=λ_=>Nat->List E->List S->List S) (λ_ _ ss=>Nz ss []) (λN _ ih L es ss=>fx (Nat.div N 32) λM=>su (λ_ _ _ _ _=>[]) Wi (Nat.mod N 32) λh=>h M L es ss ih) l 0 [] []
noncomputable def KA:Fn:=⟨[3],[],[(3,0)],[],bo [93,8454465,61,196892,545456280],false⟩
noncomputable def yi:Fn:=⟨[4,0,1],[.int 0],[(4,0),(0,0),(1,0),(5,3)],[],bo [285,82180,50626821,66404,1060,17318161,672021,61,65796,196869,740,491798,61,65796,8536325,17028,393494],false⟩
noncomputable def EE:Fn:=⟨[7],[],[(7,0),(8,0),(9,0),(10,0),(11,0),(12,3),(13,3)],[],bo [797,131204,115044,16898,115046,295062,61,131300,33369530384867,213225,61,115204,8405666,115206,8536559,197476,115908,25183586,115910,8700785,508392,753946,34368880793,61,131300,31181395542531,508676240497033955,17039854,33947881,61,197092,115524,8405986,115526,8700401,557338,34368684185,61,147588,131812,551512950280668131,246505,115076,8405538,115078,132836,31032111876067,214761,116100,25183778,116102,35150,525709,1048973,1245334,61,163972,132004,31032111875235,213929,213380,115236,16794306,115238,8602001,34319,622989,819350,61,180484,147940,61,164100,117637381,197284,181252,8635057,8864017,606485,545865879,61,164196,262298],false⟩
noncomputable def Eo:Fn:=⟨[7,15,1],[],[(7,0),(15,0),(1,0),(16,0),(12,3),(17,3),(18,3),(19,3)],[],bo [1149,262404,197188,115620,8651345,61,262500,66208,17006953,61,43150669761821037588932690612427274939132973000373453699,18148,37942815818139,34369110297,61,262500,295588,8651113,263172,247236,42255369,42598762,61,170462753970693648268525002939694492210094752643,312964,263940,8570513,574344,18468,37942815981979,34369274137,1108443287],false⟩
noncomputable def FZ:Fn:=⟨[16,1],[],[(16,0),(1,0),(17,3)],[],bo [1341,262372,66080,17006825,262948,180111869027,230185,34078954,61,66016,311578,34368438425,61,262372,16794082,2207730794727,180111868579,295145,61,170462753970693648268525002939694492210094752515,263684,492296,18180,37940668350747,34369126553,61,262500,278682],false⟩
noncomputable def Ge:Fn:=⟨[4,20,21,22,23,24],[],[(4,0),(20,0),(21,0),(22,0),(23,0),(24,0)],[],bo [1597,65796,167969029,328420,491798,61,65796,176341253,344772,459030,61,65796,184762629,361220,524566,61,65796,193167621,377636,557334,61,65796,201490693,393892,426262],false⟩
noncomputable def K3:Fn:=⟨[4,25],[],[(4,1),(25,0),(8,0),(1,0),(26,3),(27,3),(28,3),(29,3)],[4],bo [1821,131332,16836,16941326,410308,17346,164550,410692,8406338,164934,17171118,737558,61,131428,4235581655712355,229737,61,66148,251806309,17316,410724,16794978,164966,17220209,754074,34368880921,61,131428,33369530384995,213353,61,33369530385027,426852,410852,16795106,165094,18020,17253233,411460,25184322,165702,67780,260196549,412164,33573634,166406,8734929,34751086,1507738,34369634585,61,131428,551512950280667747,246121,61,551512950280667779,443300,66692,260195461,181700,8619153,181988,411588,16795842,165830,1188953325585400946,9126833,17695342,1229210,34369356057,61,131428,508676240497033827,246121,61,410084,25182946,164326,459652,59146729,61,10665765997442358455700570493592294748636163,18084,64333242335771,34369077657,61,508676240497033859,66468,260195237,410852,16795106,165094,8733617,411268,25184130,165510,25887342,1032602,68745675033,61,131428,537721493648425571,246121,61,537721493648425603,8553070,475546,34368602393,61,66020,277021157,229873,475418],false⟩
noncomputable def Gk:Fn:=⟨[4],[],[(4,0)],[],bo [2333,66468,201491365,66912,17073065,526618625231143427,8552942,67236,201492133,198321,819693,1065242],false⟩
noncomputable def DQ:Fn:=⟨[4,1,34],[],[(4,0),(1,0),(34,0),(35,0),(36,0),(7,0),(27,3),(37,3),(29,3)],[],bo [2429,590084,442884,574180,17250,99046,574532,558372,290273418953426,8913425,786710,61,606564,557540,8552817,8405794,246121,61,115076,66148,318947941,17380,558244,17762,132262,17220209,754070,61,115172,66400,25428457,61,115428,442906,34368569753,68745085209,61,573828,557668,8405858,33612,2212118037095,61,573924,8405602,98790,33582,8585705,574436,16794722,99302,34094,8586217,34013674,61,610284070053699555034446855829737425777727486951408808311683178195478963434712242297573172717984718265136548328342531,19204,64333242909211,34369651097,555172119,61,66020,327320037,17220,590852,558308,8406466,34220,148710,25723377,803098],false⟩
noncomputable def Mo:Fn:=⟨[4,1,35],[],[(4,0),(1,0),(35,0),(40,0),(41,0),(42,0),(43,3),(37,3),(29,3)],[],bo [2781,655620,672196,688868,25493774,574436,557334,61,655716,66148,184762981,33898857,656548,3725949409527203,8619177,42598762,61,66148,369246821,17316,574564,542154170438894883,656964,17024270,25772657,917914,34369044761,61,655716,3725949409526371,229737,66500,193168325,67200,25592777,42680682,61,66148,369246821,17316,574564,66820,193168645,25756273,901530,34369028377,61,655716,705124,33833321,61,66148,369246821,17316,574564,32142360921379,656900,16991502,25739889,885146,34369011993,61,655716,3991209861284451,229737,61,66148,369246821,17316,574564,3991209861285155,8537358,25674353,819610,34368946457,61,655716,26783349031523,8601961,61,66144,377242,34368504089,61,672100,33486,8601961,607108,689156,8553361,8406338,8635273,34079082,61,20575753981959504946709198967942058888213987427203,18052,64331094835611,34369061145,61,31181395542531,66276,260195045,689188,17634,132134,8700657,17236462,704794],false⟩
noncomputable def Kt:Fn:=⟨[4,1,35,7],[],[(4,0),(1,0),(35,0),(7,0),(29,3)],[],bo [3293,573796,8405474,98662,33454,8585577,574308,16794594,99174,33966,8586089,34013546,61,574340,17410,99206,54723691443134178012232645402866007442595,443272,18212,64331094917531,34369143065,61,115172,311578],false⟩
noncomputable def KU:Fn:=⟨[4,1,36,35],[],[(4,1),(1,1),(36,0),(35,0),(30,0),(41,0),(45,0),(7,0),(29,3),(37,3),(27,3)],[4,1],bo [3453,491780,66020,167969253,386154981,66596,176342053,591300,4309244614641315,18340,34390513,1081622,61,65892,167969125,394559845,492484,393574,70303211880093713795,4043855431304899,17073518,42762601,61,492420,1592756900233803735938877310051,328584,17988,64331094802843,34369028377,61,672004,737828,17023246,66372,167969605,184894277,493060,443206,868630,61,573796,8405474,98662,33454,8585577,607108,574468,8406146,99334,8569745,607588,673252,8586609,8831881,42664298,61,492420,17342630076107554967542144393583723640153431508315689996560192017794147,639880,18596,64331095114139,34369339673,61,606564,573924,16794210,98790,8569201,607044,738244,8569681,8814953,61,492420,1058510136481174009249398461522444069833583466083726169942643934307,607112,18532,64331095081371,34369306905,61,114948,575812,8407490,100678,35470,8587593,442852,426692,263236,17732,17187537,263812,575428,8407106,100294,4869958457210916569778,9290225,68512,8506254,609476,675140,8588497,17140616,1622509,1868054,61,31032111874563,492260,115620,443492,66884,260195653,181892,8619345,182180,575620,16795906,100486,1188953325585335602,9061489,34570734,1261850],false⟩
noncomputable def Gx:Fn:=⟨[20,21,22,23,25,24],[.none],[(20,0),(21,0),(22,0),(23,0),(25,0),(24,0),(48,3)],[],bo [3805,786788,328260,344932,361572,378276,395012,42778993,260964709,411780,9453937,1245338],false⟩
noncomputable def KW:Fn:=⟨[7],[],[(7,0),(8,0),(9,0),(49,3),(50,3)],[],bo [3869,131204,115044,16898,115046,295062,61,131300,33369530384867,213225,61,803300,115428,25183106,115430,8651249,508186,34368635033,61,131300,31181395542531,508676240497033955,17039854,33947881,61,803300,115428,8405890,115430,8651249,508186,34368635033,61,147588,131812,551512950280668131,246505,115076,8405538,115078,132836,31032111876067,214761,116100,25183778,116102,35150,525709,1048973,1245334,61,131428,526618625231143523,8634729,820196,803972,181636,8586385,181924,149380,1188953328621962354,8979441,42860906,1097882],false⟩
noncomputable def JA:Fn:=⟨[20,21,34,1],[],[(20,0),(21,0),(34,0),(1,0),(30,0),(29,3),(17,3),(27,3)],[],bo [4125,573700,573956,557796,8405986,33740,2212151591655,574628,8406306,99494,34286,8586409,575140,16795426,100006,34798,8586921,34014378,290273427898610,35023,9453801,61,610284070053699555034446855829737425777727486951408808311683178195478963434712242297573172717984718265136548328342275,18948,64328947810587,34369519769,61,557284,8405442,33196,147686,8405538,196838,33518,8683753,61,11583176308931329233302174944072746735714531039821259189898396419,18148,37940668334363,34369110169,61,491652,328036,386072933,344836,443396,574692,17762,99558,575044,558884,290273418953938,8913937,4309244614641731,18756,34668913,1294486,61,327908,394477797,492196,311526,551458109042836419,8880361,61,492292,203872883229926878074974649943011,344840,17892,37940668203291,34368979097,61,491876,245914],false⟩
noncomputable def II:Fn:=⟨[20,21,22,1],[],[(20,0),(21,0),(22,0),(1,0),(10,0),(16,0),(40,0),(51,0),(52,0),(34,0),(30,0),(17,3),(43,3),(53,3),(27,3)],[],bo [4413,163972,33167,229526,61,262404,361028,17250,180806,61,262500,16794210,2207764349287,180111868707,295273,61,45758247093138960109264124004586643092714490889001911171,263940,557960,18436,37942815965595,34369257753,554778775,61,655620,836036,16974094,361220,8406050,180998,61,655716,574084,17154,98950,574436,165060,290273418953330,34095465,656900,706308,33834505,657572,3725949409528259,3991209861286595,26783349033923,25545134,34064553,51790186,61,310344546897846437982631274709891,656804,344968,4655633635771133593079017819671058754392968099480922324601512640845629679535747,983944,19268,37942816391579,34369683737,61,852228,33295,295190,61,557444,836260,61,557540,8405698,33452,147942,8405794,197094,33774,8684009,558244,8406402,34156,148646,16795106,197798,34478,8684713,34210282,61,106835422758289330515566213510916907069684209386549405704415426065095294243347989507,18692,37944963580443,34369388953,61,491908,868964,328580,345252,558500,18052,34177649,934294,61,328164,184812005,492548,360934,8406210,410086,34190,8897001,61,106835422758289330515566213510916907069684209386549405704415426065095294243347989507,18692,37944963580443,34369388953,61,852356,453181829,492324,8683921,491925,2198307095,61,164100,453181701,656068,443268,853060,8586129,17105582,8945937,688405,2240446615,61,164196,262298],false⟩
noncomputable def Ic:Fn:=⟨[21,40],[],[(21,0),(40,0)],[],bo [5149,344676,8422307,197225,655716,345252,200202585539,214184,657060,328872,754029,934042],false⟩
noncomputable def Ec:Fn:=⟨[30],[],[(30,0),(55,0)],[],bo [5213,901252,491812,469926181,200202584707,8651057,409750,61,901668,17090,50430505,8421731,492452,902244,2212193518503,442733,622746],false⟩
noncomputable def Iu:Fn:=⟨[21,57],[],[(21,0),(57,0)],[],bo [5309,934244,8422019,180585,344900,935044,246601,345508,486819237,935908,200202586339,198632,8897969,51396970,1245338],false⟩
noncomputable def Gz:Fn:=⟨[4,36,59,1],[],[(4,0),(36,0),(59,0),(1,0)],[],bo [5437,65796,302153989,590500,426262,61,65796,495108357,967364,459030,61,65796,8536325,17028,393494],false⟩
noncomputable def EA:Fn:=⟨[4],[],[(4,0)],[],bo [5629,65796,352485637,33456,377110,61,65796,503496965,33488,393494,61,65796,511852805,33424,360726],false⟩
noncomputable def Ed:Fn:=⟨[4,62],[],[(4,0),(62,0)],[],bo [5789,1016740,4309244614640835,246697,66020,352485861,67140,503498309,754157,999706],false⟩
noncomputable def Jd:Fn:=⟨[4,40,63],[],[(4,1),(40,1),(63,0)],[4,40],bo [5885,655844,66276,511853285,33833449,1016996,1017316,1033988,657476,67908,520259909,1018532,8669521,33966153,4870010252386412397714,35855,9405577,34914794,1605914],false⟩
noncomputable def L9:Fn:=⟨[4,64],[],[(4,0),(64,0),(65,0),(21,0),(9,0),(66,0),(67,3),(13,3),(68,3)],[],bo [6013,65796,394428677,8422083,32693056258883,8569520,524566,61,65796,579010821,8422147,8455041,8553200,540950,61,65796,587383045,8422115,1098596,115569,8602320,573718,61,65796,184762629,33552,426262,61,65796,537035013,33456,377110,61,65796,595738885,33424,360726,61,1065220,8421923,213668,1049412,8569521,17056270,8700399,557334,61,1065412,33487,8552905,61,344452,148100,16990606,1065860,604111749,164753,622998,61,1081860,148228,61,1081956,17154,115302,32693056259011,262761,61,1065604,453165701,1115172,345348,1082884,16795298,116230,17155121,214852,1083364,25184386,116710,8603473,17433614,9257617,1196693,34369323545,61,66052,612532741,344932,1082468,17170961,655893,1099563415,1116340504],false⟩
noncomputable def Mk:Fn:=⟨[4,21,66],[],[(4,0),(21,0),(66,0),(8,0),(1,0),(63,0),(68,3),(67,3)],[],bo [6493,131332,16836,16941326,1082052,17250,115398,1082340,8406146,115686,17072814,639254,61,131428,33796871242339,213353,61,65924,620986757,344932,1082468,17236369,655765,61,131492,32693056258723,213417,61,65924,629342597,344868,1082404,16794818,115750,132420,4309244614641187,8537614,1083236,33572866,116582,18564,51331473,1196437,61,65924,587383173,1114884,345060,1082596,16795010,115942,17154833,590214,1099364,116337,950678,61,131492,70303211880093713059,262569,61,1032580,1082436,33572066,115782,537649887836226979,296009,4309244614640323,8536750,4309244614641507,555664166095013987,17057614,885421,1229206,61,65924,637813125,345028,1082564,1033604,1083012,50349858,116358,34341265,983445,61,131492,4043855431303843,229801,61,65924,637813125,345028,1082564,4309244614641059,8537486,1083108,41961346,116454,34390417,1032597,61,65924,646234501,1115140,345316,1082852,16795266,116198,17155089,1083172,17596817,1016213,61,131492,551458109042836131,246185,61,65924,637813125,345028,1082564,4309244614641059,8537486,1083108,41961346,116454,34390417,1032597,61,131492,247883432643,513126533095867267,17023662,33931689,61,65924,629342597,344868,1082404,16794818,115750,132420,555664166095013411,8553998,133348,247883434467,198889,1083268,67127330,116614,1084196,41962434,117542,591757,19524,51822993,1687957,61,65924,537035141,1114852,345028,1082564,16794978,115910,17154801,573830,1082948,885142,68737138969,34931048729,69315952921,69341118745,69366284569,35023323417],false⟩
noncomputable def Ez:Fn:=⟨[4,21,40,8,63,59,1],[],[(4,0),(21,0),(40,0),(8,0),(63,0),(59,0),(1,0),(78,0),(30,0),(62,0),(68,3),(79,3),(17,3)],[],bo [7101,1278212,492004,16957710,66276,587383525,345188,312038,1115524,345700,657252,17106321,17482446,1065238,61,4309244614639971,1032868,33816937,656388,1295620,33866761,42598762,61,147983811822297639714734979,656708,295816,3943475079838421119941769030039765911466936603463714768419,770952,18852,37942816178587,34369470745,61,1278308,671318373,656196,1033220,17236337,492900,67172,394430053,33850729,34373994,61,147983811822297639714734979,656708,295816,3340253319303707771077428236253398563,607112,18532,37942816014747,34369306905,61,1016196,1032868,61,1278340,520274309,1016580,8683921,656356,393606,492772,704918,545964311,61,65796,394428677,492132,262406,131940,508182,61,65796,579010821,492196,295174,967588,573718],false⟩
noncomputable def GC:Fn:=⟨[4,21,66,63,59],[],[(4,0),(21,0),(66,0),(63,0),(59,0),(30,0),(41,0),(45,0),(68,3),(27,3)],[],bo [7453,65796,629342469,344740,1082276,16794690,115622,1082564,17762,115910,1033700,968420,1083364,8407170,116710,51364113,1163541,61,491780,1114596,344772,1082308,16794722,115654,17154545,622870,61,672004,737828,17023246,1082180,25183202,115526,540950,61,65796,184762629,492228,311558,443364,672932,8618993,443876,575172,18242,100038,575524,739588,290273418970802,8930801,17613774,1327382,61,65796,537035013,492132,262406,1082212,508182],false⟩
noncomputable def Mi:Fn:=⟨[4,30,66],[],[(4,0),(30,0),(66,0),(35,0),(68,3),(17,3)],[],bo [7677,573828,1081956,33571586,115302,61,1114596,492228,574340,17410,99206,17105393,66788,394429669,34111977,61,310344546968535522903428423713795,575012,18082,99878,377864,3340253319303707771077428236253398851,689160,1083780,8407586,117126,37944963695131,34369503641,61,65924,394428805,1114852,492484,574596,17666,99462,17105649,524678,9104014996560773531107,917910,1099825431],false⟩
noncomputable def Jn:Fn:=⟨[4,21,66],[],[(4,0),(21,0),(66,0),(1,0),(36,0),(81,0),(59,0),(40,0),(78,0),(79,3),(17,3),(82,3),(83,3),(27,3)],[],bo [7869,16644,590276,1327780,967556,33980686,1082564,8406370,115910,1082852,16795266,116198,1083140,25184162,116486,1083428,33573058,116774,34145454,1196310,61,655620,1328004,66720,16991113,590308,8405698,33452,147942,1328612,606701,852246,61,1278212,66052,587383301,344964,311814,573718,61,655716,1294948,33866089,61,147983811822297639714734979,656708,295816,3943475079838421119941769030039765911466936603463714768419,770952,18852,37942816178587,34369470745,61,655716,1344100,33751401,1278820,671318885,656708,4309244614641187,555664166095013667,17057294,17417073,34455914,61,147983811822297639714734979,656708,295816,3340253319303707771077428236253398563,607112,18532,37942816014747,34369306905,61,1278212,511869189,655972,262406,1360740,443364,591012,8586225,968100,18084,25674609,950550],false⟩
noncomputable def Kb:Fn:=⟨[4,84,57,59],[],[(4,0),(84,0),(57,0),(59,0),(85,3)],[],bo [8189,967140,1393444,1377380,935236,17154865,34095594,786714],false⟩
noncomputable def Fw:Fn:=⟨[4,21,36,62,1],[.int 0],[(4,0),(21,0),(36,0),(62,0),(1,0),(27,3)],[],bo [8285,65796,595738885,33424,360726,61,66020,721568229,344868,443428,591076,8586289,1017316,18116,34703,42729969,1032474],false⟩
noncomputable def IA:Fn:=⟨[4,21,36,62,1,87],[],[(4,0),(21,0),(36,0),(62,0),(1,0),(87,0),(88,0),(55,0),(89,0),(10,0),(37,3),(17,3)],[],bo [8413,1442052,901572,16908558,66148,755139173,345028,591044,17828,25674353,819478,61,901572,606820,590564,8553073,50577865,61,1458564,902084,8406114,99272,607492,591236,8553745,328649,1016484,4309244614641411,672429,1016214,61,164228,66180,763511429,345028,1443012,591236,902724,148870,1459940,18404,1427620,51217041,1212822,61,164324,66304,16990697,61,10404443926675897006941334081154420325008387,200202585795,771901125,591876,8652497,623624,18692,37944963580443,34369388953,61,1442180,901700,16908686,164612,902116,8406146,99304,17023726,622998,2190049560,61,1442148,66144,16974185,1016708,555664166095013027,263049,67108,394429989,1443716,263718,32693056260259,411177,42697610,34603370,61,10404443926675897006941334081154420325008259,200202585667,771900997,591748,8652369,623496,18564,37942816031131,34369323289,61,1442276,311578],false⟩
noncomputable def HG:Fn:=⟨[4,21,36,1],[],[(4,0),(21,0),(36,0),(1,0),(88,0),(55,0),(17,3),(82,3),(37,3),(93,3)],[],bo [8797,590180,33422,180585,61,2633706422222139166236207479995142768204058840122243,18084,37942815785371,34369077529,61,590180,16930,131430,513177523895517923,311657,61,8422019,8405762,16892526,426394,34368553241,61,590180,16930,131430,1344356,42271081,61,66176,17218,16925294,459162,34368586009,61,1442052,901572,16908558,344708,590884,17634,132134,4288899362948515,295977,8405890,18210,492429,17433198,966934,61,901572,606820,590564,8553073,50577865,590916,902404,148550,549261143059842531,328777,42598858,61,1442276,8422115,164329,61,3379353402935887764427495158271691899566134926961422271844477563788870659,18532,37944963498523,34369307033,61,1442180,901700,16908686,1524484,1442884,8635153,902436,8406466,99624,17187566,786838,1099694360,61,1442308,901828,16941550,409882],false⟩
noncomputable def G1:Fn:=⟨[4,21,88,40,62,1,87],[],[(4,0),(21,0),(88,0),(40,0),(62,0),(1,0),(87,0),(10,0),(94,3)],[],bo [9245,1442148,66272,25428329,61,66148,797065829,344996,1442980,656740,1017380,18180,1427396,51118705,1098138,34369224985,61,164100,66052,797065733,344900,345156,656708,1017348,18148,1427364,51151377,1081622,61,164196,66176,16990569,656292,1541284,33899433,42582378,61,164228,66180,797065861,345028,8422595,656708,1017348,18148,1427364,51085969,1081750,34369208601,61,164324,327962],false⟩
noncomputable def LN:Fn:=⟨[4,84,57,40,62,1,87],[],[(4,0),(84,0),(57,0),(40,0),(62,0),(1,0),(87,0),(30,0),(78,0),(96,0),(68,3),(97,3)],[],bo [9501,65892,394428773,934596,278886,4043855431304195,442729,61,491908,1114724,934724,656420,17089137,622998,61,66404,394429285,822313829,492868,8717169,9104014996560773531235,541545,492132,67648,836205,1147290,68737401113,61,65892,394428773,934596,278886,32693056259075,8814953,61,66144,377242,34368504089,61,1278212,66052,587383301,934788,295430,557334,61,491780,1278436,520274405,1016676,8684017,822444517,656580,8847857,704790,61,491876,66272,25428329,61,66148,830669413,1377284,935140,67012,579012037,493412,296390,25920113,819691,61,492740,7005018928110927715571561125962178330150307,427208,18500,213866823926299,34369290649,61,492132,377242,68745019673,61,1573124,1278404,511869381,822313413,656292,8716753,557334,61,1573220,66112,16957801,61,66144,377242,34368504089,61,66020,830669285,1377156,935012,1574212,495093061,25788913,688491,61,2424566773159947875594036003907,656964,328776,7005018928110927715571561125962178330150691,689224,18884,213864676639131,34369487129,61,66020,839041509,934756,656452,1574148,1017252,1427076,42631665,934170],false⟩
noncomputable def E8:Fn:=⟨[4,57,40,96,62,87],[],[(4,0),(57,0),(40,0),(96,0),(62,0),(87,0),(10,0),(37,3),(101,3),(17,3)],[],bo [10109,934276,655972,1016612,25493870,66660,595739749,34095465,61,66148,595739237,934820,656516,1017156,25461678,475750,786842,34368913689,61,934276,655972,16990574,1426308,33898857,607364,1426692,8537233,1656356,67470473,34324842,61,512938632270904733082480083681669745773006509775768958011767936669895244649240072278640748594051,657764,836488,1575460,8522277,37942816309659,34369601817,61,164100,66052,721568261,934724,1573924,302138405,1017220,1574500,8521317,1427364,936132,657828,16992430,8636559,362408,43057681,1376534,61,65796,595738885,934468,656164,1016804,25461326,475398,165124,737558,61,164324,327962],false⟩
noncomputable def FE:Fn:=⟨[4,21,36,1],[.int 0],[(4,0),(21,0),(36,0),(1,0),(102,3)],[],bo [10397,1671428,16834,8519953,262421],false⟩
noncomputable def LW:Fn:=⟨[4],[],[(4,0),(102,3)],[],bo [10493,1671428,8405442,8519953,262421],false⟩
noncomputable def Mn:Fn:=⟨[4],[],[(4,0),(102,3)],[],bo [10589,1671428,16794050,8519953,262421],false⟩
noncomputable def Ji:Fn:=⟨[4,21,96],[],[(4,0),(21,0),(96,0),(102,3)],[],bo [10685,1671428,25182658,8519953,262421],false⟩
noncomputable def Jv:Fn:=⟨[4,30,41,45,103,104,21,69],[.str [],.nil],[(4,0),(30,0),(41,0),(45,0),(103,0),(104,0),(21,0),(69,0)],[],bo [10845,65796,251805957,492164,393494,61,65796,176341253,344772,459030,61,65796,344129797,672484,491798,61,65796,377667845,737988,459030,61,65796,864239877,1688324,524566,61,65796,579010821,1131236,491798,61,65796,872612101,1704676,491798],false⟩
noncomputable def Mj:Fn:=⟨[4,30,41,45,105,106,107,108,109],[],[(4,0),(30,0),(41,0),(45,0),(105,0),(106,0),(107,0),(108,0),(109,0)],[],bo [11165,65796,251805957,492164,393494,61,65796,344129797,672484,491798,61,65796,377667845,737988,459030,61,65796,880935173,1720932,360726,61,65796,889372933,1737412,459030,61,65796,897761541,1753796,459030,61,65796,906199301,1770276,557334,61,65796,914571525,1786628,524566],false⟩
noncomputable def J5:Fn:=⟨[4,20],[.none],[(4,0),(20,0)],[],bo [11517,65796,167969029,328420,491798,61,65796,922894597,33424,360726,61,65796,864239877,33552,426262,61,65796,931283205,33424,360726,61,65796,939704581,33488,393494,61,65796,948076805,33455,377110,61,65796,956481797,33488,393494,61,65796,964870405,33488,393494],false⟩
noncomputable def HL:Fn:=⟨[4,30,116,3,21],[],[(4,0),(30,0),(116,0),(3,0),(21,0),(102,3)],[],bo [11837,1671428,33571266,8519953,262421],false⟩
noncomputable def Kz:Fn:=⟨[4,21,41,45,23],[],[(4,0),(21,0),(41,0),(45,0),(23,0),(27,3),(13,3)],[],bo [11965,65796,176341253,344772,459030,61,65796,344129797,443108,672676,8618737,606486,61,65796,377667845,213700,738148,8585937,557334,61,65796,193167621,377636,557334],false⟩
noncomputable def Jc:Fn:=⟨[4],[],[(4,0)],[],bo [12157,573956,17026,98822,574308,66628,377668677,290273419051506,753946],false⟩
noncomputable def F4:Fn:=⟨[4,1,41,45],[],[(4,0),(1,0),(41,0),(45,0),(40,0),(51,0),(17,3),(117,3),(27,3),(13,3)],[],bo [12253,655748,672388,61,655844,66276,344130277,33882601,672996,990069989,657060,8701169,8406946,59098345,657476,6194621945153363003715,280649,51446250,61,2424566773045237973723453277187,656900,328712,3340253319303707771077428236253398755,640008,18724,37944963596827,34369405337,554926359,61,655748,836164,16974222,738180,61,655844,66276,302154469,197361,33882601,61,310344546897846437982631274710019,656932,345096,3340253319303707771077428236253398787,656392,18756,37944963613211,34369421721,554942743,61,1917412,66212,176341669,66628,344130629,443940,673508,8619569,476232,67620,377669669,215524,739972,8587761,428072,68516,193170341,35078641,1769754],false⟩
noncomputable def IH:Fn:=⟨[4,64],[],[(4,0),(64,0),(119,3),(120,3)],[],bo [12573,65796,537035013,1049252,426262,61,65796,167969029,1950436,1049572,8618737,606486,61,65796,1015185669,1966756,66404,167969637,8700593,655638,61,65796,1023557893,33423,360726,61,65796,1031946501,33423,360726],false⟩
noncomputable def EC:Fn:=⟨[4],[],[(4,0),(102,3)],[],bo [12797,1671428,41959874,8519953,262421],false⟩
noncomputable def GA:Fn:=⟨[4],[],[(4,0),(102,3)],[],bo [12893,1671428,50348482,8519953,262421],false⟩
noncomputable def DY:Fn:=⟨[4,124,25],[],[(4,0),(124,0),(25,0),(7,0),(125,3),(49,3),(29,3)],[],bo [12989,114948,2048484,66276,167969509,2032804,176358565,2033252,302171749,214641,2033732,193185861,412260,43188721,1491222,61,803300,115428,8602097,278891,61,2633709410346750037537559089146774309378006209381251,411300,8406946,165542,64331094950299,34369175833,61,65796,1031946501,453247237,115524,2032644,410852,8406498,165094,25576238,9093393,835861,61,115172,311578],false⟩
noncomputable def Fy:Fn:=⟨[4,124,22,1],[],[(4,0),(124,0),(22,0),(1,0),(126,0),(127,3)],[],bo [13213,2064644,2081252,66340,167969573,2032868,176358629,362148,18404,34423281,1114390,61,2032132,1073938949,17316,361572,17794,181350,2065924,25772561,2066148,17514990,983322],false⟩
noncomputable def FM:Fn:=⟨[4,21,66],[],[(4,0),(21,0),(66,1),(1,0),(30,0),(124,0),(126,0),(129,0),(103,0),(69,0),(116,0),(40,0),(130,0),(131,0),(36,0),(132,0),(68,3),(117,3),(27,3),(13,3),(133,3),(134,3),(135,3)],[66],bo [13341,16644,491972,16941326,1082052,8405858,115398,1115108,345284,1082820,16795234,116166,17155057,17334958,901398,61,2031876,2064868,16957710,66244,1141031621,1918020,345348,34318,34447,67328,33997905,1083364,25184386,116710,18692,26067665,1261846,61,2031876,193184005,31032111874915,492612,443652,1082820,25183842,116166,18114,165318,8668433,444260,542154170438895715,575876,18946,100742,17057870,576260,2067428,290273419118642,9078641,34800462,1671446,61,2113796,1082756,17954,116102,70303211880093714147,312713,8421955,1082052,33571682,115398,1082340,41960578,115686,25526830,8782351,215204,1083716,33573346,117062,8603825,1081869,1343766,61,1687812,1131076,17056014,33711,33839,16909198,590102,61,1900932,656036,2130788,2147364,25494158,17236366,2180484,2115268,8652177,61,1687940,453230981,656548,8422819,8553641,656292,1083044,16795458,116390,508845,2131908,67716,1099090053,2034180,2149092,19428,25692305,26362766,9863569,1671573,61,1130884,453214597,1082244,17442,115590,4043855431304419,279433,2246180,16795362,132646,34030474,2246596,2148580,1188987964362638194,9486737,1294741,61,65924,1015185797,864338309,1082628,17826,115974,70303211880093714019,312585,492548,1116196,493828,657860,17074225,836621,1180038,494340,1903556,17009390,1655190,1637433623,61,590084,442884,574180,17250,99046,574532,2065700,290273418937042,8897041,770326,61,65796,1015185669,922992901,492292,344326,2196484,492676,443716,1082884,25183906,116230,18178,165382,8668497,591780,1689732,1083844,19042,117190,4043855431306019,281033,347172,1133860,60048401,1851670,61,573828,574084,2065252,574564,8406242,99430,34222,8586345,290273427538290,34447,9093481,61,2163076,2212420,492228,2032516,344146821,2032996,377685349,2066212,34798,2033764,193185893,68224,84801,68387409,1573270,61,65924,1015185797,931381637,8998811120652246991747,492804,263048,541062,2164228,835990,68737089817],false⟩
noncomputable def GV:Fn:=⟨[4,124,131,1],[],[(4,0),(124,0),(131,0),(1,0),(10,0),(40,0),(25,0),(59,0),(7,0),(17,3),(138,3)],[],bo [13853,164100,33295,295190,61,655748,410180,967524,25510286,2147492,61,655844,574212,17282,99078,574564,165188,290273418953458,34095593,61,18941927910966129570626077699,656868,312328,3340253319303707771077428236253398723,623624,18692,37944963580443,34369388953,61,115076,66148,1166246501,2032708,410916,17269361,803222,61,2261380,115524,2032644,344146949,411108,8406754,165350,25919889,950677,61,164228,453181829,656196,115716,16974638,8814993,622997,2190049559,61,164324,327962],false⟩
noncomputable def J0:Fn:=⟨[4,30,66,124,140],[],[(4,0),(30,0),(66,0),(124,0),(140,0),(102,3)],[],bo [14173,1671428,58737090,8519953,262421],false⟩
noncomputable def Hl:Fn:=⟨[4,23,108],[],[(4,0),(23,0),(108,0),(102,3)],[],bo [14269,1671428,67125698,8519953,262421],false⟩
noncomputable def GY:Fn:=⟨[4,21,66],[],[(4,0),(21,0),(66,0),(102,3)],[],bo [14365,1671428,75514306,8519953,262421],false⟩
noncomputable def EY:Fn:=⟨[4,21,66],[],[(4,0),(21,0),(66,0),(102,3)],[],bo [14461,1671428,83919298,8536337,278805],false⟩
noncomputable def I4:Fn:=⟨[4,21,66],[],[(4,0),(21,0),(66,0),(102,3)],[],bo [14557,1671428,92307906,8536337,278805],false⟩
noncomputable def Jx:Fn:=⟨[4,126,42,1],[],[(4,0),(126,0),(42,0),(1,0),(15,0),(7,0),(40,0),(51,0),(141,3),(142,3)],[],bo [14653,246020,33295,295190,61,115076,688772,61,246148,117637509,2310948,115908,8684337,8913297,721301,545980695,61,655748,836164,16974222,2065284,61,655844,246628,42222057,61,310344546897846437982631274710179,657092,345256,4657897863431876193250077609292947292744361572160485569442991727355265819412387,984232,19556,312822870966811,34369831321,555352343],false⟩
noncomputable def GG:Fn:=⟨[4,105,124,1],[],[(4,0),(105,0),(124,0),(1,0),(102,3)],[],bo [14909,1671428,100696514,8536337,278805],false⟩
noncomputable def Ey:Fn:=⟨[4,124,66],[],[(4,0),(124,0),(66,0),(102,3)],[],bo [15005,1671428,109085122,8536337,278805],false⟩
noncomputable def HI:Fn:=⟨[7],[],[(7,0),(8,0),(10,0),(11,0),(141,3)],[],bo [15069,131204,115044,16898,115046,295062,61,131300,542154170438894051,245993,61,115204,8405666,115206,8536559,393498,34368520345,61,131300,33369530384867,213225,61,2310628,115588,25183266,115590,8733169,590106,34368716953,61,131300,31181395542531,508676240497033955,17039854,33947881,61,2310628,115588,8406050,115590,8733169,590106,34368716953,61,163972,33167,229526,61,180484,131908,551512950280668227,246601,115172,8405634,115174,132932,31032111876163,214857,116196,25183874,116198,35246,525805,1049069,61,164100,117637381,2310820,181316,8667825,8896785,639253,545898647,61,164196,262298],false⟩
noncomputable def lD:Fn:=⟨[143],[],[(143,0),(144,0),(145,0),(37,3),(146,3),(147,3)],[],[.assign (.name 144 483004483008) (.ife (.cmp .gt (.call (.name 37 483024483027) [(.name 143 483028483034)] 483024483035) (.int 0 483038483039) 483024483039) (.sub (.name 143 483011483017) (.int 0 483018483019) 483011483020) (.int 0 483045483046) 483011483046) 483004483046,.assign (.name 145 484004484009) (.call (.name 146 484012484015) [(.name 144 484016484020),(.bin .sub (.neg (.int 1 484023484024) 484022484024) (.name 144 484027484031) 484022484031)] 484012484032) 484004484032,.ret (.lst [(.bin .mul (.name 145 485012485017) (.call (.name 147 485020485023) [(.cmp .ge (.name 145 485024485029) (.bin .pow (.int 10 485033485035) (.int 18 485039485041) 485033485041) 485024485041)] 485020485042) 485012485042),(.bin .mod (.bin .mul (.bin .add (.bin .mod (.name 145 485045485050) (.int 2147483629 485053485063) 485045485063) (.int 17 485066485068) 485045485068) (.int 48271 485072485077) 485044485077) (.int 2147483647 485080485090) 485044485090)] 485011485091) 485004485091],false⟩
noncomputable def mX:Fn:=⟨[148,149],[],[(148,0),(149,0),(150,0)],[],[.ifS (.cmp .gt (.sub (.name 148 487007487013) (.int 0 487014487015) 487007487016) (.int 0 487019487020) 487007487020) [.assign (.name 150 488008488013) (.bin .mod (.sub (.name 148 488016488022) (.int 0 488023488024) 488016488025) (.name 149 488028488031) 488016488031) 488008488031,.assign (.sub (.name 148 489008489014) (.int 0 489015489016) 489008489017) (.bin .fdiv (.sub (.name 148 489020489026) (.int 0 489027489028) 489020489029) (.name 149 489033489036) 489020489036) 489008489036,.ret (.name 150 490015490020) 490008490020] [] 487004490020,.assign (.sub (.name 148 491004491010) (.int 1 491011491012) 491004491013) (.bin .mod (.bin .add (.bin .mul (.sub (.name 148 491017491023) (.int 1 491024491025) 491017491026) (.int 39373 491029491034) 491017491034) (.int 7 491037491038) 491017491038) (.int 2147483647 491042491052) 491016491052) 491004491052,.ret (.bin .mod (.bin .fdiv (.bin .mod (.bin .mul (.sub (.name 148 492011492017) (.int 1 492018492019) 492011492020) (.sub (.name 148 492023492029) (.int 1 492030492031) 492023492032) 492011492032) (.int 2147483629 492035492045) 492011492045) (.int 32 492049492051) 492011492051) (.name 149 492054492057) 492011492057) 492004492057],false⟩
noncomputable def G4:Fn:=⟨[148,151],[],[(148,0),(151,0),(152,3),(37,3)],[],bo [15837,2474340,2490948,2425732,607364,2475268,8570001,17269329,622950,802970],false⟩
noncomputable def Hh:Fn:=⟨[153],[],[(153,0),(154,0),(142,3),(29,3),(17,3)],[],[.tryS [.ret (.call (.name 153 497015497019) [] 497015497021) 497008497021] [⟨142,154,[99,111,104,101,114,101,110,99,101],1,498011498025,499008499040,499015499040,499016499027,499029499034,499029499039,498004499040⟩,⟨29,154,[116,121,112,101,32,102,97,117,108,116],1,500011500020,501008501041,501015501041,501016501028,501030501035,501030501040,500004501041⟩,⟨17,154,[110,97,109,101,32,102,97,117,108,116],1,502011502020,503008503041,503015503041,503016503028,503030503035,503030503040,502004503041⟩] 496004503041],false⟩
noncomputable def H9:Fn:=⟨[40],[],[(40,0)],[],bo [16189,655780,33390,33518,25395598,8667502,458906],false⟩
noncomputable def GS:Fn:=⟨[155,1,41,36],[],[(155,0),(1,0),(41,0),(36,0),(156,0),(116,0),(126,0),(16,0),(157,3)],[],bo [16253,2556036,1900804,16941198,32142360920675,263536575299,16990798,4235581655712835,17732,2573828,263536576323,8635921,25674798,17564206,1065110,61,2539748,263536574979,180732625603,1870709635,25444847,33964265,61,2064644,263536574979,180732626051,1901284,2556900,16974542,551512950280668547,18084,34670,25478510,551512950280669219,35150,16992270,17368398,17826288,1294614,61,2540452,1870709923,8569769,2064868,2540164,164326,526618625231144451,18212,17024494,18952258251931896804066658339,18916,17106958,17417678,1147373,1392922,68737646745,61,2539748,1778434531,180457,2540228,1786823619,180937,33980650,61,4235581655712291,17188,2573284,2540836,8635377,25674254,2541700,592260,33769609,542154170438895171,2541412,17024558,18473509460265055041947372291,19652,17107694,951853,18301422,1769754,34369896601,61,2539748,145533074651136597378122211,311529,61,2064644,1901060,4235581655712547,17444,2573540,1778435619,8619249,25658126,17433070,901398,61,551512950280667683,17220,2065412,25510414,1778436419,592420,33753417,551512950280668419,2557508,542154170438895331,1778436099,17008334,17106478,17286382,18473509460265055041947372451,19812,17107854,1197293,18383342,1851674,68738105497,61,2539748,1071384663982422163096035,295145,61,4235581655712291,17188,26783349031971,34062,526618625231144387,18148,8406978,132840,17089966,8750478,25740302,9012206,26051086,18952258251931896804066658595,19172,17107214,18055662,1523994,34369650841,61,262276,2540324,8405954,4406888235815,8422563,8618793,2539940,8405570,4406787572135,66976,590253,802966,61,33369530384803,17028,262980,8455233,1901828,42516878,264644,674564,33835465,33369530385987,263972,8456225,2558180,33965614,18473509460265055041947372739,20100,17108142,1181229,18596206,1999002],false⟩
noncomputable def Hy:Fn:=⟨[],[],[],[],bo [16701,263536574851,263536575043,1778434819,1778434979,1786823747,180732626147,145533074651136597378123171,22857555986243,22857564375075,22857555986691,1392560611,1870711427,1071384663982422163098403,110510447,1638554],false⟩
noncomputable def Fi:Fn:=⟨[158],[],[(158,0)],[],bo [16765,2589028,16866,98662,18952258251931896804066656963,18473509460265055041947370627,17236655,34177385,802970],false⟩
noncomputable def Il:Fn:=⟨[126,41,36],[],[(126,0),(41,0),(36,0),(159,0),(160,0),(154,0),(55,0),(40,0),(155,0),(59,0),(7,0),(158,0),(133,3),(161,3),(162,3),(27,3)],[],bo [16829,2605188,2621796,2523716,25477262,33647,33775,66656,25396046,655510,61,901380,655780,2540132,967460,25493902,17170702,2180228,2065860,8635537,61,114948,2589124,16924942,2638468,2540484,335578242,902436,115848,673188,591556,34210449,983318,61,2605316,453181701,656068,115588,967748,25494190,8945937,688405,61,2523492,66176,16990569,656292,2671812,17762,115910,2672196,2623300,290282008921266,34128809,42811754,61,2523524,18473509460265055041947370147,25183330,17056398,606614,34368733465,61,2523492,66176,16990569,2655140,2590052,8684465,42533226,61,2523524,2589316,377238,34368504089,61,2621700,453181701,656068,2589572,16958126,8798481,540949,2743615639,61,442756,2605636,8585617,2622276,2524196,25624942,639130],false⟩
noncomputable def KN:Fn:=⟨[21,164,41,45,129],[],[(21,1),(164,1),(41,1),(45,0),(129,0),(36,1),(30,1),(22,0),(126,0),(165,0),(166,0),(64,0),(7,0),(167,0),(168,0),(169,1),(103,0),(69,0),(158,0),(170,0),(105,0),(132,0),(171,1),(66,1),(27,3),(172,3),(173,3),(174,3),(175,3),(133,3),(13,3),(37,3)],[21,164,41,36,30,169,171,66],bo [17181,589956,491876,16957582,574084,17154,98950,574436,738500,290273418969714,345892,1988151395,214825,32635795621379,8423811,493069,1744882243,624104,17891918,1409174,61,360580,672260,443172,656420,2885508,2573572,1719715395,8619281,8668398,35150,607469,17515534,657988,2886404,17009230,740484,4869985519844694623218,9749297,18317806,1786006,61,2703492,2900356,2065220,672772,591140,25739665,657028,2131780,2066436,25429646,2115844,334662855766562619115098527023474,1278102,61,2719876,442756,2130564,17186,115334,2130852,8406082,115622,2917572,17730,99526,25592430,2131524,2918148,16926286,2820068,2115684,2705732,17041393,1188986047700107858,9519505,1327254,61,1081476,4043855431303555,25182850,1744880355,361348,2720964,83361,50987374,835734,61,2687332,164075,61,1081604,70303211880093712899,25183042,1744880547,361540,2114948,17986,132486,8406690,181638,2705188,18370,116518,18466,165670,84129,59703790,1229078,34369355929,61,1048708,551458109042835907,16794338,1719714627,33806,33934,16909294,34094,8455585,50938286,1083012,17514895,934038,61,2801796,2834948,346212,1988151715,215145,32693056258947,8406114,1988150467,443748,1050148,8586609,8455969,42517358,8995663,1051332,1065805,9634321,1507478,61,114820,2851172,2802628,1501873093,345668,1083204,17318865,673015809727677140,9257329,1048726,61,2736260,2916804,16794178,98758,2917156,2704388,2917636,16795010,99590,67264,25462025,290283024253362,966806,61,2736356,33327,8585449,115428,66656,25428713,34078954,61,2736612,33583,8585705,115716,2737412,17890,148742,279561,42500586,803098,34368929945,61,2752644,2769188,16941198,2802244,1015267909,923075141,492772,426566,345860,1988151363,214793,32635795621347,8423779,493037,1719716387,624072,17891886,1392790,61,2064516,655780,2884580,2769540,8520302,34222,459373,17367438,657060,2885476,17008302,739556,4869985519845483004274,1278102,61,1687684,2687876,2130468,17090,115238,1744880899,426541,2131364,8406594,116134,2918084,8406850,100038,25903630,2132036,2918660,16926798,2820580,2116196,2706244,17041905,4870086851386519339506,1573014,61,2752772,251789573,2753092,176325189,2753476,344114117,2753892,377652581,34324718,493412,346148,674084,444996,592644,8587857,34162510,9830633,61,82401,327962,34368454809,61,1130628,2687492,574276,16794562,99142,33817098,574628,2131332,16795170,116102,1188959933392568818,2131748,2115620,1188986046794056146,1163414,61,2752740,864223461,1688292,8782057,2753636,872596581,2688580,8733801,2754436,578996101,1132900,8750985,51560682,61,82401,327962,34368454809,61,2588804,2689860,2867524,492068,200202584835,180776,2130916,17538,115686,344616,492836,902628,16942350,17351182,902916,2131844,16910094,2181252,2116036,8652945,4870002395690373841394,9634129,494820,495044,20098,16928174,8670416,1786189,1949846,61,2801892,1015267557,864420069,2589796,8896745,61,82401,327962,34368454809,61,2785412,2671044,8405602,115142,335577826,902020,115432,17072558,2917508,2704740,902788,2672388,16909966,2181124,2918724,8407490,100678,8669201,9974048482860985205490067,1343638,61,573732,16802,98598,573988,16794274,98854,17039630,574372,2802820,1032029317,290273419264242,2787044,9257193,61,82401,327962,34368454809,61,573700,573956,738020,574500,8406178,99366,290273427472626,34191,639209,61,2802148,1015267813,931463653,34032,426473,672026,34368798873,61,1720452,31032111874403,492100,672516,443428,542154170438894883,656964,17024270,657284,592004,290273754662130,9077809,34636110,1245334,61,2162820,2801988,1015267653,931463493,8998811120652246991843,492900,263144,622918,786582,61,114820,2163076,251789701,2163396,344113861,214116,2163972,377652485,8651889,214692,2164548,880920389,8603313,2164868,889358469,2165252,897747461,2165636,906185605,2166116,914558309,68895086,1966230,61,115044,492164,672580,2065508,2065700,34286,1721956,67328,83905,67912302,934249,608548,2804132,1015269797,931465637,8800561,8408258,493865,43450730,1687706],true⟩
noncomputable def DX:Fn:=⟨[155,36],[],[(155,0),(36,0),(158,0),(7,0),(171,1),(124,1),(180,1),(173,3),(117,3),(161,3),(174,3),(162,3)],[171,124,180],bo [18269,2801796,2032100,17039502,2835204,33871,8602385,1918180,8422819,180128646723,8504878,657284,34894,16942958,657732,592452,290273754580818,68416,34473201,17973998,1573014,61,2949252,2588996,16924814,2638340,2540356,75514882,180128646275,180137035075,67072,25461871,591588,34292241,999574,61,114820,2851172,2802628,1166328773,2033220,2950948,17302481,673023786522116820,9240945,1032342,61,115044,2589284,180585,2802532,1032029029,2655876,2590788,8685201,34255,2591172,2034276,75516738,25414062,8669583,771533,1098601,43303274,1540250],true⟩
noncomputable def IR:Fn:=⟨[36,181],[],[(36,0),(181,0),(182,1),(183,1),(158,0),(126,1),(42,1),(27,3),(174,3)],[182,183,126,42],bo [18429,2982020,263536574851,1778435299,178954242211,30190105349955,48614884724569151011,3473999849955011,32142360920707,263536575331,16990830,33871,17089102,542154170438895043,1778435811,17008046,1778436035,8472495,17155470,33369530386851,68224,84801,542154170438896707,1786826083,17009710,34146702,1786826339,8474191,17516910,508676240497037411,31181395546531,542154170438898339,1778439107,17011342,17158542,16798882,25776206,1778439491,8475951,17535022,551512950280673187,542154170438899971,1786829347,17012974,542154170438900483,1795218467,17013486,17307854,17487758,1786830147,1795218915,16948527,17717102,31032111882243,1652613347,41358,32142360928835,263536583459,16998958,542154170438902819,1795220803,17015822,17293838,34365422,1795221091,8480335,17735630,55279984,5128342,61,2998404,655716,2540164,2966404,656580,2983364,2541156,165318,8406818,214470,2435057480476123758931,983190,61,2064516,688452,16957582,656036,33646,16941710,656484,591204,290273754579570,444004,2983748,2541540,165702,18594,214854,2541956,2968196,1188992919949297458,9045617,17990222,1507478,61,2588804,655972,656260,590980,656804,3000100,42190249,1188961309065658962,34863,803401,65856,137741129498391479840852291,50350818,17041710,1294669,1458326,61,2851172,2835396,34063,8602577,1543930821,2066212,690148,50350274,25854929,647679768397644500,9404785,2591140,1130857,1310874],true⟩
noncomputable def E7:Fn:=⟨[],[],[(7,0),(66,0),(171,0),(105,0),(157,3),(173,3)],[],bo [18621,114820,4235581655712131,335577730,26783349031747,33838,4235581655712995,343967202,2573924,3725949409527715,8668785,25674958,8946862,25936686,9208590,26214766,1228950,61,1081476,70303211880093712771,25182914,1744880419,180128646147,8504302,1778435395,34286,16925998,8586510,17155022,537649887836227299,1887488067,116964,84385,25462830,8734734,84705,60064110,1523862,61,2801796,1720804,17006734,2835140,1082404,8487951,8667857,31032111875395,1744881187,180128646883,8505038,542154170438895651,1778436419,17008654,8669166,34211118,17777326,1343638,61,2801796,1501872261,8422147,1082244,17252497,540821,61,2802020,1015267685,923074917,1744880643,409958,864584037,1744881251,537649887836227331,1887488099,31181395544355,1722884,16976142,17090638,8734767,25773646,9029167,1261929,1441946],false⟩
noncomputable def Lr:Fn:=⟨[],[],[(11,0),(185,0),(155,0),(41,0),(126,0),(36,0),(181,0),(186,3),(187,3),(188,3)],[],bo [18813,180356,8421763,537649887836226051,1887486819,1778435075,8455329,25428814,1895876003,22857555985987,83745,25478542,17417007,26050926,9306447,1081494,61,3031172,1619050915,4325317581832771,33615,25444750,1627440131,551512950280668323,1476445699,263536576163,83809,25462254,8717775,25756654,17711471,1114262,61,3047780,8422275,82945,180128646403,8504558,1778435651,8455905,16959022,8603151,182244,42860913,983275,3049828,1988152195,8457249,36078,36207,3034596,42617201,739563,35340522,61,82401,327962,34368454809,61,2539780,672196,16990478,1870709603,33806,16925518,1392559299,34158,16925870,22857564374563,180128646947,8505102,17040910,1786824803,35086,16926798,1071384663982422163098051,35662,17041838,43074351,61,2064644,1476444707,263536575171,8455041,25444878,1484833923,2540836,8455649,25445486,17400303,868630,61,3047908,8422403,83073,673124,1778435779,83809,16975534,8619663,8423619,551512950280669507,2067044,25479342,8734863,43172337,1294699,61,82529,393626,34368520473,1099301015,61,3047780,8422275,82945,34030,34159,8422947,537649887836227235,1887488003,263536576675,8456545,25446382,1887488611,263536577283,8457153,25446990,17401807,26035726,9291247,43450737,1573099,61,82401,327962,34368454809,61,2539780,263536575011,1778434787,1786823555,1870709795,1392559299,1071384663982422163096931,145533074651136597378123491,59556367,61,3064292,2540548,1778435299,8471759,17252849,541035,61,82529,393626,34368520473,554041495,61,2064516,1778434499,8470959,30190105346723,8503951,17039758,1778435075,8471535,263536575715,8488143,17023950,34319,34447,16909806,1786824547,1795213315,16942927,178954242275,3473999849949603,17008847,17237806,1778436899,8473359,48614884724569148419,8555503,17091310,43516271,1753238,61,590084,2965988,16974094,2065156,61,3080676,590884,2966788,17285617,573803,61,82529,393626,34368520473,554041495,61,8454497,245914],false⟩
noncomputable def lR:Fn:=⟨[143],[],[(143,0),(148,1),(164,0),(41,0),(40,0),(45,0),(129,0),(130,0),(126,0),(55,0),(137,0),(181,0),(189,3),(190,3),(191,3),(152,3),(192,3),(193,3),(19,3),(194,3),(186,3),(187,3),(188,3)],[148],bo [19421,3096932,278897,344299,3114116,279697,345099,34308330,61,82401,327962,34368454809,61,2424964,3129764,2343652,8667569,491670,61,2687108,672132,17023118,2491108,2425892,16794914,17105649,17890,410345,180128646755,180137035555,16975438,2492420,2427204,25184834,17106961,2289746626119,17826510,1409174,61,737412,655844,2491044,2425828,16794850,17105585,17826,410281,17318350,657028,1778436003,1786824771,16942991,2492676,2427460,25185090,17107217,2289813702535,4869985513453162611122,1540246,61,2113668,33167,229526,61,655620,2688836,1619051043,1627439811,1635828579,25412111,2491428,2426212,33572450,17105969,2289486627335,8423651,8456399,950797,61,2130180,2064836,16941326,3146436,2425828,4325317581833475,551512950280668675,537649887836227363,25593071,17498833,34959,17597102,1163542,61,901508,3162692,2131460,4325317581833987,8619529,2491140,2425924,25183554,17105681,18562,738061,9241169,61,2244996,2130916,551512950280668387,246761,311940,901892,8503953,3147396,2426788,1887488195,1895876963,1904265731,25413807,17319569,1065613,1393046,61,2064772,453165445,2245412,3146756,2426148,3180068,198193,17269777,2492420,2427204,16796226,17106961,19202,411657,26247950,9683345,1491349,1092010263,61,2113796,453181701,656068,2130820,2065476,25461422,8913169,655637,1653211287,61,3047780,3146628,2426020,8422851,1988150851,16926127,17220497,2688804,673828,739652,2116164,43204977,1327339,61,82401,327962,34368454809,61,3064164,3146628,2426020,3179940,198065,17269649,1778436003,1786824771,16942991,2492676,2427460,25185090,17107217,2289813702535,18137457,1425643,61,82401,327962,34368454809,61,2965636,3146148,2425540,263536575459,1778435235,178954241347,30190105347587,48614884724569147107,3473999849949219,51020751,17760689,3197380,3164868,2493316,2428100,25185730,17107857,8833745,4870160038933839839634,1867926,61,3080548,1778435011,1786823779,1795212547,25412527,8406466,2491972,2426756,25184386,17106513,394696,2306775614375,2967844,17891697,1294490],false⟩
noncomputable def uo:Tr Fn:=(.nd (.nd (.nd (.nd (.nd (.nd (.nd .lf 0 KA .lf) 1 yi .lf) 2 EE (.nd .lf 3 Eo .lf)) 4 FZ (.nd (.nd (.nd .lf 5 Ge .lf) 6 K3 .lf) 7 Gk (.nd .lf 8 DQ .lf))) 9 Mo (.nd (.nd (.nd (.nd .lf 10 Kt .lf) 11 KU .lf) 12 Gx (.nd .lf 13 KW .lf)) 14 JA (.nd (.nd (.nd .lf 15 II .lf) 16 Ic .lf) 17 Ec (.nd .lf 18 Iu .lf)))) 19 Gz (.nd (.nd (.nd (.nd (.nd .lf 20 EA .lf) 21 Ed .lf) 22 Jd (.nd .lf 23 L9 .lf)) 24 Mk (.nd (.nd (.nd .lf 25 Ez .lf) 26 GC .lf) 27 Mi (.nd .lf 28 Jn .lf))) 29 Kb (.nd (.nd (.nd (.nd .lf 30 Fw .lf) 31 IA .lf) 32 HG (.nd .lf 33 G1 .lf)) 34 LN (.nd (.nd (.nd .lf 35 E8 .lf) 36 FE .lf) 37 LW (.nd .lf 38 Mn .lf))))) 39 Ji (.nd (.nd (.nd (.nd (.nd (.nd .lf 40 Jv .lf) 41 Mj .lf) 42 J5 (.nd .lf 43 HL .lf)) 44 Kz (.nd (.nd (.nd .lf 45 Jc .lf) 46 F4 .lf) 47 IH (.nd .lf 48 EC .lf))) 49 GA (.nd (.nd (.nd (.nd .lf 50 DY .lf) 51 Fy .lf) 52 FM (.nd .lf 53 GV .lf)) 54 J0 (.nd (.nd (.nd .lf 55 Hl .lf) 56 GY .lf) 57 EY (.nd .lf 58 I4 .lf)))) 59 Jx (.nd (.nd (.nd (.nd (.nd .lf 60 GG .lf) 61 Ey .lf) 62 HI (.nd .lf 63 lD .lf)) 64 mX (.nd (.nd (.nd .lf 65 G4 .lf) 66 Hh .lf) 67 H9 (.nd .lf 68 GS .lf))) 69 Hy (.nd (.nd (.nd (.nd .lf 70 Fi .lf) 71 Il .lf) 72 KN (.nd .lf 73 DX .lf)) 74 IR (.nd (.nd .lf 75 E7 .lf) 76 Lr (.nd .lf 77 lR .lf))))))
noncomputable def CL:List (Option Cl):=[.none,.none,.none,.none,.none,some ⟨5,[(31,6),(33,7),(30,8),(38,9),(44,10),(39,11)],32505856⟩,some ⟨19,[],576460821022900226⟩,some ⟨20,[(62,21),(80,22)],3458768911867052032⟩,some ⟨23,[(73,24),(75,25),(76,26),(77,27),(74,28),(99,29),(46,30),(86,31),(90,32),(91,33),(95,34),(100,35),(198,36),(199,37),(200,38),(201,39)],4150517557322141663232⟩,some ⟨40,[],30423614406067801483664053764096⟩,some ⟨41,[],1257509395426403566322114048819200⟩,some ⟨42,[(202,43)],81788816726725360984567290811908096⟩,some ⟨44,[(36,45),(128,46)],37383405830144⟩,some ⟨47,[(203,48),(204,49),(139,50),(136,51),(179,52),(131,53),(205,54),(206,55),(207,56),(208,57),(209,58),(184,59),(210,60),(211,61)],18609191940988822239100042917635424256⟩]
noncomputable def n7:List (List Nat):=[[0],[1,0],[2,0],[3,0],[4,0],[],[],[],[],[],[],[],[],[]]
noncomputable def jP:Tr V:=(.nd (.nd (.nd (.nd (.nd (.nd .lf 12 (.fn 2) .lf) 13 (.bi 5) (.nd .lf 17 (.cls 1) .lf)) 18 (.str [39,115,116,97,116,105,99]) (.nd (.nd .lf 19 (.bi 3) .lf) 26 (.fn 4) (.nd .lf 27 (.bi 4) .lf))) 28 (.int 10000) (.nd (.nd (.nd .lf 29 (.cls 3) .lf) 37 (.bi 0) (.nd .lf 43 (.cons (.str [105,56]) (.cons (.str [105,49,54]) (.cons (.str [105,51,50]) (.cons (.str [105,54,52]) (.cons (.str [117,56]) (.cons (.str [117,49,54]) (.cons (.str [117,51,50]) (.cons (.str [117,54,52]) (.cons (.str [117,115,105,122,101]) (.nil)))))))))) .lf)) 48 (.cls 5) (.nd (.nd .lf 49 (.fn 13) .lf) 50 (.bi 9) .lf))) 53 (.fn 14) (.nd (.nd (.nd (.nd .lf 67 (.cls 7) .lf) 68 (.fn 16) (.nd .lf 79 (.cons (.str [105,56]) (.cons (.str [105,49,54]) (.cons (.str [105,51,50]) (.cons (.str [105,54,52]) (.cons (.str [117,56]) (.cons (.str [117,49,54]) (.cons (.str [117,51,50]) (.cons (.str [117,54,52]) (.cons (.str [117,115,105,122,101]) (.cons (.str [98,111,111,108]) (.cons (.str [66,111,120]) (.nil)))))))))))) .lf)) 82 (.cons (.str [99,114,97,116,101]) (.cons (.str [115,101,108,102]) (.cons (.str [115,117,112,101,114]) (.nil)))) (.nd (.nd .lf 83 (.cls 6) .lf) 85 (.fn 18) (.nd .lf 93 (.fn 17) .lf))) 94 (.cons (.str [67,108,111,110,101]) (.cons (.str [67,111,112,121]) (.cons (.str [68,101,102,97,117,108,116]) (.cons (.str [68,114,111,112]) (.cons (.str [69,114,114]) (.cons (.str [78,111,110,101]) (.cons (.str [79,107]) (.cons (.str [79,112,116,105,111,110]) (.cons (.str [82,97,110,103,101,56]) (.cons (.str [82,101,115,117,108,116]) (.cons (.str [83,111,109,101]) (.cons (.str [86,101,99,56]) (.cons (.str [115,119,97,112,112,101,100]) (.nil)))))))))))))) (.nd (.nd (.nd .lf 97 (.cls 2) .lf) 101 (.int 30) (.nd .lf 102 (.fn 0) .lf)) 117 (.cls 12) (.nd (.nd .lf 119 (.cls 8) .lf) 120 (.cls 11) .lf)))) 125 (.fn 12) (.nd (.nd (.nd (.nd (.nd .lf 127 (.fn 15) .lf) 133 (.bi 7) (.nd .lf 134 (.cls 9) .lf)) 135 (.cls 10) (.nd (.nd .lf 138 (.fn 3) .lf) 141 (.fn 62) (.nd .lf 142 (.cls 4) .lf))) 146 (.bi 1) (.nd (.nd (.nd .lf 147 (.bi 2) .lf) 152 (.fn 64) (.nd .lf 157 (.fn 67) .lf)) 161 (.fn 68) (.nd (.nd .lf 162 (.fn 70) .lf) 172 (.bi 8) .lf))) 173 (.cls 13) (.nd (.nd (.nd (.nd .lf 174 (.fn 66) .lf) 175 (.bi 10) (.nd .lf 177 (.fn 71) .lf)) 186 (.fn 72) (.nd (.nd .lf 187 (.fn 73) .lf) 188 (.fn 74) (.nd .lf 189 (.fn 76) .lf))) 190 (.fn 75) (.nd (.nd (.nd .lf 191 (.fn 63) .lf) 192 (.fn 65) (.nd .lf 193 (.bi 6) .lf)) 194 (.fn 69) (.nd (.nd .lf 197 (.cls 0) .lf) 212 (.fn 77) .lf)))))
noncomputable def Jw:List (Nat×Nat):=[(54,0),(14,1),(72,2),(118,3),(98,4),(92,5),(58,6)]
noncomputable def TB:Tb:=⟨78,dn jP,dn uo,λk=>Option.rec .none (λo=>o) (aj CL k),
 λc d=>(aj n7 c).bind λl=>cond (Nat.beq (len l) 0) .none ((aj n7 d).bind λm=>cond (Nat.beq (len m) 0) .none (some (l.any (Nat.beq d)))),λ_ _ _=>.none⟩
noncomputable def MC(k:Nat):Option Nat:=au Jw k
end
section
open PySem PySem.W PyProof.Rows
structure Dn where
 x:Nat
 y:Nat
 f:Fn
 ar:List Nat
 ds:List E
 m:List Nat
 p:Nat
 df:Value
 u:Nat
 t:Nat
def ID(p q:Nat):Nat:=Nat.add (Nat.mul (Nat.div p 1000000000) 1000001000) (Nat.add (Nat.mul (Nat.div q 1000) 1000000) (Nat.mod q 1000))
def g0:Dn:=⟨102,102,KA,[10011],[],[],1000003012,.none,227,164⟩
def g1:Dn:=⟨6,233,yi,[17021,23030,32036],[(.int 0 7037007038)],[],7004010024,.ref 29,229,194⟩
def g2:Dn:=⟨12,12,EE,[15019],[],[],23000033016,.none,243,292⟩
def g3:Dn:=⟨138,138,Eo,[18022,24029,31035],[],[],34000039070,.none,243,292⟩
def g4:Dn:=⟨26,26,FZ,[16022,24028],[],[],40000045017,.none,243,292⟩
def g5:Dn:=⟨6,244,Ge,[17021,23030,32038,40048,50059,61066],[],[],48004053026,.none,243,292⟩
def g6:Dn:=⟨31,245,K3,[13017,19026],[],[4,25,8,1,11],55004069029,.none,243,292⟩
def g7:Dn:=⟨33,246,Gk,[16020],[],[],71004072065,.none,243,292⟩
def g8:Dn:=⟨30,247,DQ,[13017,19023,25030],[],[4,1,34,35,36,7],74004083049,.none,243,292⟩
def g9:Dn:=⟨38,248,Mo,[15019,21025,27030],[],[],85004099043,.none,243,292⟩
def uT:Dn:=⟨44,249,Kt,[13017,19023,25028,30034],[],[],101004104019,.none,243,292⟩
def sq:Dn:=⟨39,250,KU,[14018,20024,26031,33036],[],[4,1,36,35,30,41,45,16,7,11],106004116077,.none,243,292⟩
def qD:Dn:=⟨125,125,Gx,[12019,21027,29037,39048,50057,59064],[(.none 117065117069)],[],117000118076,.ref 170,243,292⟩
def sS:Dn:=⟨49,49,KW,[12016],[],[7,8,9,11],119000126067,.none,243,292⟩
def uK:Dn:=⟨53,53,JA,[13020,22028,30035,37041],[],[20,21,34,1,35,30],127000135015,.none,243,292⟩
def sY:Dn:=⟨127,127,II,[14021,23029,31039,41045],[],[20,21,22,1,10,16,40,51,35,52,34,30],136000153016,.none,243,292⟩
def sV:Dn:=⟨68,68,Ic,[11017,19023],[],[],159000160057,.none,269,451⟩
def rX:Dn:=⟨93,93,Ec,[14018],[],[],161000163038,.none,269,451⟩
def r4:Dn:=⟨85,85,Iu,[14020,22027],[],[],164000165076,.none,269,451⟩
def sP:Dn:=⟨6,270,Gz,[17021,23028,30036,38042],[],[],168004171024,.none,269,451⟩
def uh:Dn:=⟨6,271,EA,[17021],[],[],174004177022,.none,269,451⟩
def uY:Dn:=⟨62,272,Ed,[14018,20025],[],[],179004180061,.none,269,451⟩
def tc:Dn:=⟨80,273,Jd,[17021,23027,29035],[],[4,40,63,62],182004183098,.none,269,451⟩
def se:Dn:=⟨6,274,L9,[17021,23028],[],[],186004199040,.none,269,451⟩
def rT:Dn:=⟨73,275,Mk,[14018,20026,28032],[],[],201004218054,.none,269,451⟩
def uI:Dn:=⟨75,276,Ez,[16020,22028,30034,36040,42048,50056,58062],[],[],220004229035,.none,269,451⟩
def uQ:Dn:=⟨76,277,GC,[21025,27033,35039,41047,49055],[],[4,21,66,63,59,30,41,45,35],231004236031,.none,269,451⟩
def rS:Dn:=⟨77,278,Mi,[23027,29033,35039],[],[],238004242056,.none,269,451⟩
def ux:Dn:=⟨74,279,Jn,[18022,24030,32036],[],[],244004252058,.none,269,451⟩
def ur:Dn:=⟨99,280,Kb,[16020,22027,29034,36042],[],[],254004255048,.none,269,451⟩
def rH:Dn:=⟨46,281,Fw,[13017,19025,27032,34039,41045],[(.int 0 257046257047)],[],257004259063,.ref 326,269,451⟩
def sH:Dn:=⟨86,282,IA,[13017,19025,27032,34039,41045,47051],[],[],261004271019,.none,269,451⟩
def sT:Dn:=⟨90,283,HG,[14018,20026,28033,35039],[],[],273004285025,.none,269,451⟩
def tS:Dn:=⟨91,284,G1,[13017,19025,27031,33037,39044,46050,52056],[],[],287004293020,.none,269,451⟩
def uM:Dn:=⟨95,285,LN,[13017,19024,26031,33037,39044,46050,52056],[],[],295004312057,.none,269,451⟩
def u6:Dn:=⟨100,286,E8,[15019,21026,28032,34037,39044,46050],[],[],314004321020,.none,269,451⟩
def rJ:Dn:=⟨198,287,FE,[20024,26032,34039,41045],[(.int 0 323046323047)],[],323004324016,.ref 369,269,451⟩
def uV:Dn:=⟨199,288,LW,[21025],[],[],326004327016,.none,269,451⟩
def ub:Dn:=⟨200,289,Mn,[24028],[],[],329004330016,.none,269,451⟩
def sN:Dn:=⟨201,290,Ji,[20024,26032,34037],[],[],332004333016,.none,269,451⟩
def qE:Dn:=⟨6,293,Jv,[17021,23027,29036,38044,46054,56063,65071,76083],[(.str [] 337072337074),(.tup [] 337084337086)],[],337004344030,.ref 413,291,801⟩
def uN:Dn:=⟨6,294,Mj,[17021,23027,29036,38044,46049,51057,59065,67076,78086],[],[],347004355032,.none,291,801⟩
def qm:Dn:=⟨6,295,J5,[17021,23030],[(.none 358031358035)],[],358004366024,.ref 456,291,801⟩
def u0:Dn:=⟨202,296,HL,[22026,28032,34040,42043,45051],[],[],368004369016,.none,291,801⟩
def tK:Dn:=⟨6,297,Kz,[17021,23029,31038,40046,48057],[],[],372004376034,.none,291,801⟩
def vp:Dn:=⟨36,298,Jc,[14018],[],[4,35],378004379046,.none,291,801⟩
def uA:Dn:=⟨128,299,F4,[15019,21025,27034,36042],[],[],381004388108,.none,291,801⟩
def sG:Dn:=⟨6,300,IH,[17021,23028],[],[],391004396022,.none,291,801⟩
def sL:Dn:=⟨203,301,EC,[12016],[],[],398004399016,.none,291,801⟩
def uk:Dn:=⟨204,302,GA,[19023],[],[],401004402016,.none,291,801⟩
def sM:Dn:=⟨139,303,DY,[18022,24029,31038],[],[],404004409019,.none,291,801⟩
def tz:Dn:=⟨136,304,Fy,[15019,21026,28036,38042],[],[],411004413060,.none,291,801⟩
def uO:Dn:=⟨179,305,FM,[18022,24030,32036],[],[4,21,66,1,30,124,126,35,129,103,69,116,40,130,131,137,36,132],415004429051,.none,291,801⟩
def um:Dn:=⟨131,306,GV,[15019,21026,28034,36040],[],[4,124,131,1,10,40,25,59,35,7],431004439020,.none,291,801⟩
def tE:Dn:=⟨205,307,J0,[16020,22026,28032,34039,41048],[],[],441004442016,.none,291,801⟩
def sx:Dn:=⟨206,308,Hl,[19023,25034,36045],[],[],444004445016,.none,291,801⟩
def ti:Dn:=⟨207,309,GY,[19023,25031,33037],[],[],447004448016,.none,291,801⟩
def u9:Dn:=⟨208,310,EY,[19023,25031,33037],[],[],450004451017,.none,291,801⟩
def tx:Dn:=⟨209,311,I4,[18022,24030,32036],[],[],453004454017,.none,291,801⟩
def sD:Dn:=⟨184,312,Jx,[21025,27031,33038,40044],[],[],456004462104,.none,291,801⟩
def rZ:Dn:=⟨210,313,GG,[15019,21024,26031,33037],[],[],464004465017,.none,291,801⟩
def uC:Dn:=⟨211,314,Ey,[22026,28033,35039],[],[],467004468017,.none,291,801⟩
def s0:Dn:=⟨141,141,HI,[17021],[],[],469000480016,.none,291,801⟩
def tV:Dn:=⟨191,191,lD,[14020],[],[],482000485091,.none,216,1158⟩
def uL:Dn:=⟨152,152,mX,[14020,22025],[],[],486000492057,.none,216,1158⟩
def vl:Dn:=⟨192,192,G4,[13019,21027],[],[],493000494049,.none,216,1158⟩
def r9:Dn:=⟨174,174,Hh,[15019],[],[],495000503041,.none,216,1158⟩
def uj:Dn:=⟨157,157,H9,[14018],[],[],504000505028,.none,216,1158⟩
def tN:Dn:=⟨161,161,GS,[14018,20024,26033,35040],[],[],506000519122,.none,216,1158⟩
def r6:Dn:=⟨194,194,Hy,[],[],[],520000521100,.none,216,1158⟩
def sI:Dn:=⟨162,162,Fi,[18021],[],[],522000523049,.none,216,1158⟩
def tG:Dn:=⟨177,177,Il,[18022,24031,33038],[],[126,41,36,159,160,154,55,40,155,59,7,158,163],524000534039,.none,216,1158⟩
def pV:Dn:=⟨186,186,KN,[21027,29035,37044,46052,54059],[],[21,164,41,45,129,35,36,30,40,176,22,130,126,165,178,166,64,7,167,168,169,103,69,55,158,163,170,105,132,171,66],535000568103,.none,216,1158⟩
def oA:Dn:=⟨187,187,DX,[21025,27032],[],[155,36,40,158,7,171,124,180],569000573094,.none,216,1158⟩
def oh:Dn:=⟨188,188,IR,[22027,29034],[],[36,181,182,155,40,183,158,126,42],574000579080,.none,216,1158⟩
def tw:Dn:=⟨190,190,E7,[],[],[],580000585088,.none,216,1158⟩
def tj:Dn:=⟨189,189,Lr,[],[],[],586000604015,.none,216,1158⟩
def nH:Dn:=⟨212,212,lR,[8014],[],[143,148,164,41,40,45,129,130,126,55,137,195,181],605000623079,.none,216,1158⟩
section
variable(n:Nat->Str)
def gA(g:Dn):Arguments:=AY n g.f.ps (aZ (ID g.p) g.ar) (aZ (an n) g.ds)
def gS(g:Dn):Scope:=gh n .function g.f.sc g.m
def gD(g:Dn):Stmt:=Rh n g.x (gA n g) (cU n g.f.body) (gS n g) g.p
def NK:Stmt:=iq n 197 [(.name 5 5016005025)] [gD n g1] (gh n .class [(6,0)] []) [0,1] 5000010024
def Ys:Stmt:=iq n 17 [(.name 197 11016011025)] [cS n (.pass 12004012008)] (gh n .class [] []) [] 11000012008
def Z6:Stmt:=iq n 97 [(.name 197 13022013031)] [cS n (.pass 14004014008)] (gh n .class [] []) [] 13000014008
def T0:Stmt:=iq n 29 [(.name 197 15016015025)] [cS n (.pass 16004016008)] (gh n .class [] []) [] 15000016008
def XG:Stmt:=iq n 142 [(.name 197 17021017030)] [cS n (.pass 18004018008)] (gh n .class [] []) [] 17000018008
def Pc:Stmt:=iq n 48 [] (aZ (gD n) [g5,g6,g7,g8,g9,uT,sq]) (gh n .class [(6,0),(31,0),(33,0),(30,0),(38,0),(44,0),(39,0)] []) [24,22,21,20,23] 46000116077
def SU:Stmt:=iq n 83 [] [gD n sP] (gh n .class [(6,0)] []) [59,36,1] 166000171024
def Z1:Stmt:=iq n 67 [] (aZ (gD n) [uh,uY,tc]) (gh n .class [(6,0),(62,0),(80,0)] []) [42,61,60] 172000183098
def Xw:Stmt:=iq n 119 [] (aZ (gD n) [se,rT,uI,uQ,rS,ux,ur,rH,sH,sT,tS,uM,u6,rJ,uV,ub,sN]) (gh n .class [(6,0),(73,0),(75,0),(76,0),(77,0),(74,0),(99,0),(46,0),(86,0),(90,0),(91,0),(95,0),(100,0),(198,0),(199,0),(200,0),(201,0)] []) [22,64,71,47,69,70] 184000333016
def Qb:Stmt:=iq n 134 [] [gD n qE] (gh n .class [(6,0)] []) [104,21,45,30,69,41,103] 335000344030
def Yz:Stmt:=iq n 135 [] [gD n uN] (gh n .class [(6,0)] []) [109,106,107,105,45,30,41,108] 345000355032
def VX:Stmt:=iq n 120 [] [gD n qm,gD n u0] (gh n .class [(6,0),(202,0)] []) [110,115,114,113,20,111,112,103] 356000369016
def NU:Stmt:=iq n 117 [] (aZ (gD n) [tK,vp,uA]) (gh n .class [(6,0),(36,0),(128,0)] []) [21,45,41,23] 370000388108
def Xi:Stmt:=iq n 173 [] (aZ (gD n) [sG,sL,uk,sM,tz,uO,um,tE,sx,ti,u9,tx,sD,rZ,uC]) (gh n .class [(6,0),(203,0),(204,0),(139,0),(136,0),(179,0),(131,0),(205,0),(206,0),(207,0),(208,0),(209,0),(184,0),(210,0),(211,0)] []) [64,122,20,123,121] 389000468017
end
def dQ(n:Nat->Str):List Stmt:=[gD n g0,cS n (.assign (.name 196 4000004008) (.str [108,101,110,100,99,111,114,101,46,101,114,114,111,114,115] 4011004028) 4000004028),NK n]
def ib(n:Nat->Str):List Stmt:=[Ys n]
def rK(n:Nat->Str):List Stmt:=[Z6 n]
def Ay(n:Nat->Str):List Stmt:=[T0 n]
def rh(n:Nat->Str):List Stmt:=[XG n,cS n (.assign (.name 196 19000019008) (.str [108,101,110,100,99,111,114,101,46,110,97,109,101,115] 19011019027) 19000019027),cS n (.assign (.name 43 20000020009) (.tup [(.str [105,56] 20013020017),(.str [105,49,54] 20019020024),(.str [105,51,50] 20026020031),(.str [105,54,52] 20033020038),(.str [117,56] 20040020044),(.str [117,49,54] 20046020051),(.str [117,51,50] 20053020058),(.str [117,54,52] 20060020065),(.str [117,115,105,122,101] 20067020074)] 20012020075) 20000020075),cS n (.assign (.name 18 21000021006) (.str [39,115,116,97,116,105,99] 21009021018) 21000021018),cS n (.assign (.name 28 22000022013) (.int 10000 22016022021) 22000022021),gD n g2,gD n g3,gD n g4]
def zF(n:Nat->Str):List Stmt:=[Pc n]
def zl(n:Nat->Str):List Stmt:=[gD n qD,gD n sS,gD n uK,gD n sY,cS n (.assign (.name 196 154000154008) (.str [108,101,110,100,99,111,114,101,46,109,111,100,117,108,101,115] 154011154029) 154000154029),cS n (.assign (.name 94 155000155013) (.tup [(.str [67,108,111,110,101] 155017155024),(.str [67,111,112,121] 155026155032),(.str [68,101,102,97,117,108,116] 155034155043),(.str [68,114,111,112] 155045155051),(.str [69,114,114] 155053155058),(.str [78,111,110,101] 155060155066),(.str [79,107] 155068155072),(.str [79,112,116,105,111,110] 155074155082),(.str [82,97,110,103,101,56] 155084155092),(.str [82,101,115,117,108,116] 155094155102),(.str [83,111,109,101] 155104155110),(.str [86,101,99,56] 155112155118),(.str [115,119,97,112,112,101,100] 155120155129)] 155016155130) 155000155130),cS n (.assign (.name 101 156000156009) (.int 30 156012156014) 156000156014),cS n (.assign (.name 82 157000157004) (.tup [(.str [99,114,97,116,101] 157008157015),(.str [115,101,108,102] 157017157023),(.str [115,117,112,101,114] 157025157032)] 157007157033) 157000157033),cS n (.assign (.name 79 158000158011) (.bin .add (.name 43 158014158023) (.tup [(.str [98,111,111,108] 158027158033),(.str [66,111,120] 158035158040)] 158026158041) 158014158041) 158000158041),gD n sV,gD n rX,gD n r4]
def Bm(n:Nat->Str):List Stmt:=[SU n]
def Bc(n:Nat->Str):List Stmt:=[Z1 n]
def Cc(n:Nat->Str):List Stmt:=[Xw n]
def zN(n:Nat->Str):List Stmt:=[cS n (.assign (.name 196 334000334008) (.str [108,101,110,100,99,111,114,101,46,119,111,114,108,100] 334011334027) 334000334027),Qb n]
def Bs(n:Nat->Str):List Stmt:=[Yz n]
def AR(n:Nat->Str):List Stmt:=[VX n]
def AA(n:Nat->Str):List Stmt:=[NU n]
def Bp(n:Nat->Str):List Stmt:=[Xi n]
def Az(n:Nat->Str):List Stmt:=[gD n s0,cS n (.assign (.name 196 481000481008) (.str [108,97,119,95,120,119,48,49,56,50,95,48,49] 481011481026) 481000481026),gD n tV,gD n uL,gD n vl,gD n r9,gD n uj,gD n tN,gD n r6,gD n sI,gD n tG,gD n pV,gD n oA,gD n oh]
def Ci(n:Nat->Str):List Stmt:=(aZ (gD n) [tw,tj,nH])
def PG(n:Nat->Str):Program:=HU n (dQ n++(ib n++(rK n++(Ay n++(rh n++(zF n++(zl n++(Bm n++(Bc n++(Cc n++(zN n++(Bs n++(AR n++(AA n++(Bp n++(Az n++(Ci n++([])))))))))))))))))) [(102,0),(196,0),(197,0),(5,3),(17,0),(97,0),(29,0),(142,0),(43,0),(18,0),(28,0),(12,0),(138,0),(26,0),(48,0),(125,0),(49,0),(53,0),(127,0),(94,0),(101,0),(82,0),(79,0),(68,0),(93,0),(85,0),(83,0),(67,0),(119,0),(134,0),(135,0),(120,0),(117,0),(173,0),(141,0),(191,0),(152,0),(192,0),(174,0),(157,0),(161,0),(194,0),(162,0),(177,0),(186,0),(187,0),(188,0),(190,0),(189,0),(212,0)] 213
def n:Nat->Str:=j3 nk aW
def o0(g:Dn):Obj:=PP .none (n g.x) (n g.y) (gA n g) (cU n g.f.body) (gS n g) .none
def o1(g:Dn)(cd:Nat):Obj:=Bz (n g.x) (n g.y) (gA n g) (cU n g.f.body) (gS n g) g.df (.str (n g.u) g.t) cd
def kC(x y:Nat)(l a:Int)(t A u f:Nat)(b:Bool)(c d e:Value):Obj:=aw (.type OW) [.str (n x) t,.str (n y) (Nat.add t 1),.str (n 213) (Nat.add t 2),.int l 0,.int a 0,.int 0 0,.int 0 0,.int (.ofNat f) 0,.ref A,.bool b,.int 181 0,.ref (Nat.add A 1),.none,c,d,e,.int (.ofNat u) 0,.int l 0,.str (n 213) (Nat.add u 1)]
def kF(g:Dn)(t A u:Nat):Obj:=kC g.x g.y (.ofNat (Nat.div g.p 1000000000)) (.ofNat (len g.f.ps)) t A u 3 true (.ref (Nat.add A 2)) (.ref (Nat.add A 3)) (.ref (Nat.add A 4))
def kG(g:Dn)(t A u:Nat):Obj:=kC g.x g.y (.ofNat (Nat.div g.p 1000000000)) (.ofNat (len g.f.ps)) t A u 3 true .none .none (.ref (Nat.add A 2))
def kK(x l t A u:Nat):Obj:=kC x x (.ofNat l) 0 t A u 0 false .none .none .none
def oN(t:Nat)(l:List Nat):Obj:=ak (List.rec (motive:=λ_=>Nat->List Value) (λ_=>[]) (λx _ ih t=>.str (n x) t::ih (Nat.succ t)) l t)
def oS(a b x t:Nat):Obj:=R6 (.type Xh) [some (.ref a),some (.ref 3),some (.ref b),none,some (.str (n x) t),none,some (.ref 0)]
def er(P:Params)(x t a:Nat):DictEntry:=aU P (n x) t (.ref a)
def UJ(P:Params):List Obj:=[PySem.W.boot_o_0 P,
 PySem.W.boot_o_1 P,
 bQ (.none) [aU P (n 214) 224 (.int 39 0),aU P (n 215) 225 (.int 1 0)] 2,
 bQ (.type bW) [aU P (n 196) 165 (.str (n 216) 1158),aU P (n 217) 166 (.none),aU P (n 218) 167 (.none),aU P (n 219) 168 (.builtin GQ),aU P (n 220) 169 (.none),er P 221 170 6,er P 222 171 4,aU P (n 223) 173 (.str (n 213) 172),aU P (n 224) 174 (.none),er P 102 193 21,er P 197 227 39,er P 17 243 52,er P 97 259 64,er P 29 275 76,er P 142 291 88,er P 43 303 91,aU P (n 18) 305 (.str (n 225) 304),aU P (n 28) 307 (.int 10000 306),er P 12 318 98,er P 138 328 105,er P 26 336 112,er P 48 420 165,er P 125 432 177,er P 49 438 182,er P 53 444 187,er P 127 450 192,er P 94 466 193,aU P (n 101) 468 (.int 30 467),er P 82 472 194,er P 79 475 196,er P 68 483 203,er P 93 491 210,er P 85 499 217,er P 83 532 234,er P 67 576 267,er P 119 800 400,er P 134 844 423,er P 135 887 444,er P 120 934 473,er P 117 987 506,er P 173 1147 621,er P 141 1157 632,er P 191 1168 639,er P 152 1177 646,er P 192 1185 653,er P 174 1193 660,er P 157 1200 667,er P 161 1214 674,er P 194 1220 681,er P 162 1227 688,er P 177 1233 693,er P 186 1239 698,er P 187 1245 703,er P 188 1251 708,er P 190 1261 715,er P 189 1274 722,er P 212 1280 727] 57,
 PySem.W.boot_o_4 P,
 PySem.W.boot_o_5 P,
 PySem.W.boot_o_6 P,
 PySem.W.boot_o_7 P,
 PySem.W.boot_o_8 P,
 PySem.W.boot_o_9 P,
 PySem.W.boot_o_10 P,
 ak [],
 aw (.none) [.int 1 0,.int 0 0,.ref 20,.int 5 0,.int 0 0,.ref 27,.int 11 0,.int 0 0,.ref 48,.int 13 0,.int 0 0,.ref 60,.int 15 0,.int 0 0,.ref 72,.int 17 0,.int 0 0,.ref 84,.int 23 0,.int 0 0,.ref 97,.int 34 0,.int 0 0,.ref 104,.int 40 0,.int 0 0,.ref 111,.int 46 0,.int 0 0,.ref 118,.int 117 0,.int 0 0,.ref 176,.int 119 0,.int 0 0,.ref 181,.int 127 0,.int 0 0,.ref 186,.int 136 0,.int 0 0,.ref 191,.int 159 0,.int 0 0,.ref 202,.int 161 0,.int 0 0,.ref 209,.int 164 0,.int 0 0,.ref 216,.int 166 0,.int 0 0,.ref 223,.int 172 0,.int 0 0,.ref 244,.int 184 0,.int 0 0,.ref 277,.int 335 0,.int 0 0,.ref 410,.int 345 0,.int 0 0,.ref 433,.int 356 0,.int 0 0,.ref 454,.int 370 0,.int 0 0,.ref 483,.int 389 0,.int 0 0,.ref 516,.int 469 0,.int 0 0,.ref 631,.int 482 0,.int 0 0,.ref 638,.int 486 0,.int 0 0,.ref 645,.int 493 0,.int 0 0,.ref 652,.int 495 0,.int 0 0,.ref 659,.int 504 0,.int 0 0,.ref 666,.int 506 0,.int 0 0,.ref 673,.int 520 0,.int 0 0,.ref 680,.int 522 0,.int 0 0,.ref 687,.int 524 0,.int 0 0,.ref 692,.int 535 0,.int 0 0,.ref 697,.int 569 0,.int 0 0,.ref 702,.int 574 0,.int 0 0,.ref 707,.int 580 0,.int 0 0,.ref 714,.int 586 0,.int 0 0,.ref 721,.int 605 0,.int 0 0,.ref 726],
 kK 226 1 182 11 185,
 oS 13 3 227 164,
 ak []]
def Xd(P:Params):List Obj:=[aw (.none) [],
 oN 190 [3],
 ak [],
 o0 g0,
 kF g0 187 15 191,
 o1 g0 20,
 ak [.type fb],
 aw (.type dp) [.builtin h9,.type gN],
 bQ (.type bW) [aU P (n 228) 203 (.str (n 229) 194),aU P (n 230) 205 (.str (n 197) 204),aU P (n 231) 207 (.int 5 206),er P 6 217 36,er P 232 220 37] 5,
 ak [],
 aw (.none) [.int 7 0,.int 4 0,.ref 35],
 kK 197 5 198 25 201,
 oS 27 24 229 194,
 ak [.int 0 208],
 ak [],
 aw (.none) []]
def W2(P:Params):List Obj:=[oN 212 [4,0,1],
 ak [],
 o0 g1,
 kF g1 209 30 215,
 o1 g1 35,
 oN 218 [0,1],
 bQ (.type bW) [aU P (n 228) 203 (.str (n 229) 194),aU P (n 231) 207 (.int 5 206),er P 6 217 36,er P 232 220 37,er P 234 222 40,aU P (n 217) 223 (.none)] 3,
 gb {name:=n 197,bases:=[.type fb],mro:=[.ref 39,.type fb,.type il,.type cN],ns:=38,qualname:=n 197,subclasses:=[.ref 52,.ref 64,.ref 76,.ref 88]} [some (.ref 22),none,some (.str (n 197) 196),some (.str (n 197) 204),some (.builtin l7),some (.bool true)],
 aw (.type fH) [.str (n 234) 221,.ref 39,.builtin kP,.none],
 aw (.type im) [.ref 39,.ref 39,.ref 39],
 aw (.type dp) [.builtin iz,.ref 39],
 ak [.ref 39],
 aw (.type dp) [.builtin h9,.type gN],
 bQ (.type bW) [aU P (n 228) 235 (.str (n 229) 194),aU P (n 230) 237 (.str (n 17) 236),aU P (n 231) 239 (.int 11 238),er P 232 240 50] 4,
 ak [],
 aw (.none) []]
def RZ(P:Params):List Obj:=[kK 17 11 230 46 233,
 oS 48 45 229 194,
 ak [],
 bQ (.type bW) [aU P (n 228) 235 (.str (n 229) 194),aU P (n 231) 239 (.int 11 238),er P 232 240 50,aU P (n 217) 241 (.none)] 2,
 gb {name:=n 17,bases:=[.ref 39],mro:=[.ref 52,.ref 39,.type fb,.type il,.type cN],ns:=51,qualname:=n 17} [some (.ref 43),none,some (.str (n 17) 228),some (.str (n 17) 236),some (.builtin l7),some (.bool true)],
 aw (.type im) [.ref 52,.ref 52,.ref 52],
 aw (.type dp) [.builtin iz,.ref 52],
 ak [.ref 39],
 aw (.type dp) [.builtin h9,.type gN],
 bQ (.type bW) [aU P (n 228) 251 (.str (n 229) 194),aU P (n 230) 253 (.str (n 97) 252),aU P (n 231) 255 (.int 13 254),er P 232 256 62] 4,
 ak [],
 aw (.none) [],
 kK 97 13 246 58 249,
 oS 60 57 229 194,
 ak [],
 bQ (.type bW) [aU P (n 228) 251 (.str (n 229) 194),aU P (n 231) 255 (.int 13 254),er P 232 256 62,aU P (n 217) 257 (.none)] 2]
def Oe(P:Params):List Obj:=[gb {name:=n 97,bases:=[.ref 39],mro:=[.ref 64,.ref 39,.type fb,.type il,.type cN],ns:=63,qualname:=n 97} [some (.ref 55),none,some (.str (n 97) 244),some (.str (n 97) 252),some (.builtin l7),some (.bool true)],
 aw (.type im) [.ref 64,.ref 64,.ref 64],
 aw (.type dp) [.builtin iz,.ref 64],
 ak [.ref 39],
 aw (.type dp) [.builtin h9,.type gN],
 bQ (.type bW) [aU P (n 228) 267 (.str (n 229) 194),aU P (n 230) 269 (.str (n 29) 268),aU P (n 231) 271 (.int 15 270),er P 232 272 74] 4,
 ak [],
 aw (.none) [],
 kK 29 15 262 70 265,
 oS 72 69 229 194,
 ak [],
 bQ (.type bW) [aU P (n 228) 267 (.str (n 229) 194),aU P (n 231) 271 (.int 15 270),er P 232 272 74,aU P (n 217) 273 (.none)] 2,
 gb {name:=n 29,bases:=[.ref 39],mro:=[.ref 76,.ref 39,.type fb,.type il,.type cN],ns:=75,qualname:=n 29} [some (.ref 67),none,some (.str (n 29) 260),some (.str (n 29) 268),some (.builtin l7),some (.bool true)],
 aw (.type im) [.ref 76,.ref 76,.ref 76],
 aw (.type dp) [.builtin iz,.ref 76],
 ak [.ref 39]]
def PM(P:Params):List Obj:=[aw (.type dp) [.builtin h9,.type gN],
 bQ (.type bW) [aU P (n 228) 283 (.str (n 229) 194),aU P (n 230) 285 (.str (n 142) 284),aU P (n 231) 287 (.int 17 286),er P 232 288 86] 4,
 ak [],
 aw (.none) [],
 kK 142 17 278 82 281,
 oS 84 81 229 194,
 ak [],
 bQ (.type bW) [aU P (n 228) 283 (.str (n 229) 194),aU P (n 231) 287 (.int 17 286),er P 232 288 86,aU P (n 217) 289 (.none)] 2,
 gb {name:=n 142,bases:=[.ref 39],mro:=[.ref 88,.ref 39,.type fb,.type il,.type cN],ns:=87,qualname:=n 142} [some (.ref 79),none,some (.str (n 142) 276),some (.str (n 142) 284),some (.builtin l7),some (.bool true)],
 aw (.type im) [.ref 88,.ref 88,.ref 88],
 aw (.type dp) [.builtin iz,.ref 88],
 oN 294 [235,236,237,238,156,239,240,241,242],
 ak [],
 aw (.none) [],
 oN 311 [7,8,9,10,11],
 ak []]
def O6(P:Params):List Obj:=[o0 g2,
 kF g2 308 92 316,
 o1 g2 97,
 ak [],
 aw (.none) [],
 oN 322 [7,15,1,16],
 ak [],
 o0 g3,
 kF g3 319 99 326,
 o1 g3 104,
 ak [],
 aw (.none) [],
 oN 332 [16,1],
 ak [],
 o0 g4,
 kF g4 329 106 334]
def Y4(P:Params):List Obj:=[o1 g4 111,
 ak [],
 aw (.type dp) [.builtin h9,.type gN],
 bQ (.type bW) [aU P (n 228) 344 (.str (n 243) 292),aU P (n 230) 346 (.str (n 48) 345),aU P (n 231) 348 (.int 46 347),er P 6 360 126,er P 31 366 131,er P 33 373 138,er P 30 379 143,er P 38 391 150,er P 44 401 157,er P 39 407 162,er P 232 413 163] 11,
 ak [],
 aw (.none) [.int 48 0,.int 4 0,.ref 125,.int 55 0,.int 4 0,.ref 130,.int 71 0,.int 4 0,.ref 137,.int 74 0,.int 4 0,.ref 142,.int 85 0,.int 4 0,.ref 149,.int 101 0,.int 4 0,.ref 156,.int 106 0,.int 4 0,.ref 161],
 kK 48 46 339 116 342,
 oS 118 115 243 292,
 ak [],
 aw (.none) [],
 oN 352 [4,20,21,22,23,24],
 ak [],
 o0 g5,
 kF g5 349 120 358,
 o1 g5 125,
 ak []]
def RM(P:Params):List Obj:=[aw (.none) [],
 o0 g6,
 kG g6 361 127 364,
 o1 g6 130,
 ak [],
 aw (.none) [],
 oN 370 [4],
 ak [],
 o0 g7,
 kF g7 367 132 371,
 o1 g7 137,
 ak [],
 aw (.none) [],
 o0 g8,
 kG g8 374 139 377,
 o1 g8 142]
def Xs(P:Params):List Obj:=[ak [],
 aw (.none) [],
 oN 383 [4,1,35,40,41,42],
 ak [],
 o0 g9,
 kF g9 380 144 389,
 o1 g9 149,
 ak [],
 aw (.none) [],
 oN 395 [4,1,35,7],
 ak [],
 o0 uT,
 kF uT 392 151 399,
 o1 uT 156,
 ak [],
 aw (.none) []]
def ZW(P:Params):List Obj:=[o0 sq,
 kG sq 402 158 405,
 o1 sq 161,
 oN 408 [24,22,21,20,23],
 bQ (.type bW) [aU P (n 228) 344 (.str (n 243) 292),aU P (n 231) 348 (.int 46 347),er P 6 360 126,er P 31 366 131,er P 33 373 138,er P 30 379 143,er P 38 391 150,er P 44 401 157,er P 39 407 162,er P 232 413 163,er P 251 415 166,er P 234 417 167,aU P (n 217) 418 (.none)] 4,
 gb {name:=n 48,bases:=[.type cN],mro:=[.ref 165,.type cN],ns:=164,qualname:=n 48} [none,none,some (.str (n 48) 337),some (.str (n 48) 345),some (.builtin l3),some (.bool true)],
 aw (.type fH) [.str (n 251) 414,.ref 165,.builtin mj,.builtin lE],
 aw (.type fH) [.str (n 234) 416,.ref 165,.builtin kP,.none],
 aw (.type im) [.ref 165,.ref 165,.ref 165],
 aw (.type dp) [.builtin iz,.ref 165],
 ak [.none],
 ak [],
 aw (.none) [],
 oN 424 [20,21,22,23,25,24],
 ak [],
 o0 qD]
def PI(P:Params):List Obj:=[kF qD 421 171 430,
 o1 qD 176,
 ak [],
 aw (.none) [],
 o0 sS,
 kG sS 433 178 436,
 o1 sS 181,
 ak [],
 aw (.none) [],
 o0 uK,
 kG uK 439 183 442,
 o1 uK 186,
 ak [],
 aw (.none) [],
 o0 sY,
 kG sY 445 188 448]
def Th(P:Params):List Obj:=[o1 sY 191,
 oN 453 [252,253,254,255,256,257,258,259,260,261,262,263,264],
 ak [.str (n 265) 469,.str (n 4) 470,.str (aW [115,117,112,101,114]) 471],
 oN 473 [267,268],
 ak [.str (n 235) 294,.str (n 236) 295,.str (n 237) 296,.str (n 238) 297,.str (n 156) 298,.str (n 239) 299,.str (n 240) 300,.str (n 241) 301,.str (n 242) 302,.str (n 267) 473,.str (n 268) 474],
 ak [],
 aw (.none) [],
 oN 479 [21,40],
 ak [],
 o0 sV,
 kF sV 476 197 481,
 o1 sV 202,
 ak [],
 aw (.none) [],
 oN 487 [30,55],
 ak []]
def Ro(P:Params):List Obj:=[o0 rX,
 kF rX 484 204 489,
 o1 rX 209,
 ak [],
 aw (.none) [],
 oN 495 [21,57],
 ak [],
 o0 r4,
 kF r4 492 211 497,
 o1 r4 216,
 ak [],
 aw (.type dp) [.builtin h9,.type gN],
 bQ (.type bW) [aU P (n 228) 507 (.str (n 269) 451),aU P (n 230) 509 (.str (n 83) 508),aU P (n 231) 511 (.int 166 510),er P 6 521 231,er P 232 525 232] 5,
 ak [],
 aw (.none) [.int 168 0,.int 4 0,.ref 230],
 kK 83 166 502 221 505]
def Xv(P:Params):List Obj:=[oS 223 220 269 451,
 ak [],
 aw (.none) [],
 oN 515 [4,36,59,1],
 ak [],
 o0 sP,
 kF sP 512 225 519,
 o1 sP 230,
 oN 522 [59,36,1],
 bQ (.type bW) [aU P (n 228) 507 (.str (n 269) 451),aU P (n 231) 511 (.int 166 510),er P 6 521 231,er P 232 525 232,er P 251 527 235,er P 234 529 236,aU P (n 217) 530 (.none)] 4,
 gb {name:=n 83,bases:=[.type cN],mro:=[.ref 234,.type cN],ns:=233,qualname:=n 83} [none,none,some (.str (n 83) 500),some (.str (n 83) 508),some (.builtin l3),some (.bool true)],
 aw (.type fH) [.str (n 251) 526,.ref 234,.builtin mj,.builtin lE],
 aw (.type fH) [.str (n 234) 528,.ref 234,.builtin kP,.none],
 aw (.type im) [.ref 234,.ref 234,.ref 234],
 aw (.type dp) [.builtin iz,.ref 234],
 ak []]
def VY(P:Params):List Obj:=[aw (.type dp) [.builtin h9,.type gN],
 bQ (.type bW) [aU P (n 228) 540 (.str (n 269) 451),aU P (n 230) 542 (.str (n 67) 541),aU P (n 231) 544 (.int 172 543),er P 6 551 252,er P 62 559 259,er P 80 565 264,er P 232 569 265] 7,
 ak [],
 aw (.none) [.int 174 0,.int 4 0,.ref 251,.int 179 0,.int 4 0,.ref 258,.int 182 0,.int 4 0,.ref 263],
 kK 67 172 535 242 538,
 oS 244 241 269 451,
 ak [],
 aw (.none) [],
 oN 548 [4],
 ak [],
 o0 uh,
 kF uh 545 246 549,
 o1 uh 251,
 ak [],
 aw (.none) [],
 oN 555 [4,62]]
def Qu(P:Params):List Obj:=[ak [],
 o0 uY,
 kF uY 552 253 557,
 o1 uY 258,
 ak [],
 aw (.none) [],
 o0 tc,
 kG tc 560 260 563,
 o1 tc 263,
 oN 566 [42,61,60],
 bQ (.type bW) [aU P (n 228) 540 (.str (n 269) 451),aU P (n 231) 544 (.int 172 543),er P 6 551 252,er P 62 559 259,er P 80 565 264,er P 232 569 265,er P 251 571 268,er P 234 573 269,aU P (n 217) 574 (.none)] 4,
 gb {name:=n 67,bases:=[.type cN],mro:=[.ref 267,.type cN],ns:=266,qualname:=n 67} [none,none,some (.str (n 67) 533),some (.str (n 67) 541),some (.builtin l3),some (.bool true)],
 aw (.type fH) [.str (n 251) 570,.ref 267,.builtin mj,.builtin lE],
 aw (.type fH) [.str (n 234) 572,.ref 267,.builtin kP,.none],
 aw (.type im) [.ref 267,.ref 267,.ref 267],
 aw (.type dp) [.builtin iz,.ref 267]]
def UK(P:Params):List Obj:=[ak [],
 aw (.type dp) [.builtin h9,.type gN],
 bQ (.type bW) [aU P (n 228) 584 (.str (n 269) 451),aU P (n 230) 586 (.str (n 119) 585),aU P (n 231) 588 (.int 184 587),er P 6 600 285,er P 73 612 292,er P 75 628 299,er P 76 634 304,er P 77 644 311,er P 74 659 318,er P 99 669 325,er P 46 681 333,er P 86 697 340,er P 90 709 347,er P 91 723 354,er P 95 739 361,er P 100 752 368,er P 198 763 376,er P 199 770 383,er P 200 777 390,er P 201 786 397,er P 232 793 398] 21,
 ak [],
 aw (.none) [.int 186 0,.int 4 0,.ref 284,.int 201 0,.int 4 0,.ref 291,.int 220 0,.int 4 0,.ref 298,.int 231 0,.int 4 0,.ref 303,.int 238 0,.int 4 0,.ref 310,.int 244 0,.int 4 0,.ref 317,.int 254 0,.int 4 0,.ref 324,.int 257 0,.int 4 0,.ref 332,.int 261 0,.int 4 0,.ref 339,.int 273 0,.int 4 0,.ref 346,.int 287 0,.int 4 0,.ref 353,.int 295 0,.int 4 0,.ref 360,.int 314 0,.int 4 0,.ref 367,.int 323 0,.int 4 0,.ref 375,.int 326 0,.int 4 0,.ref 382,.int 329 0,.int 4 0,.ref 389,.int 332 0,.int 4 0,.ref 396],
 kK 119 184 579 275 582,
 oS 277 274 269 451,
 ak [],
 aw (.none) [],
 oN 592 [4,64,65,21,9,66],
 ak [],
 o0 se,
 kF se 589 279 598,
 o1 se 284,
 ak [],
 aw (.none) []]
def UA(P:Params):List Obj:=[oN 604 [4,21,66,8,1,63],
 ak [],
 o0 rT,
 kF rT 601 286 610,
 o1 rT 291,
 ak [],
 aw (.none) [],
 oN 616 [4,21,40,8,63,59,1,78,30,62],
 ak [],
 o0 uI,
 kF uI 613 293 626,
 o1 uI 298,
 ak [],
 aw (.none) [],
 o0 uQ,
 kG uQ 629 300 632]
def Zl(P:Params):List Obj:=[o1 uQ 303,
 ak [],
 aw (.none) [],
 oN 638 [4,30,66,35],
 ak [],
 o0 rS,
 kF rS 635 305 642,
 o1 rS 310,
 ak [],
 aw (.none) [],
 oN 648 [4,21,66,1,36,81,59,40,78],
 ak [],
 o0 ux,
 kF ux 645 312 657,
 o1 ux 317,
 ak []]
def Yk(P:Params):List Obj:=[aw (.none) [],
 oN 663 [4,84,57,59],
 ak [],
 o0 ur,
 kF ur 660 319 667,
 o1 ur 324,
 ak [.int 0 670],
 ak [],
 aw (.none) [],
 oN 674 [4,21,36,62,1],
 ak [],
 o0 rH,
 kF rH 671 327 679,
 o1 rH 332,
 ak [],
 aw (.none) []]
def U2(P:Params):List Obj:=[oN 685 [4,21,36,62,1,87,88,55,89,10],
 ak [],
 o0 sH,
 kF sH 682 334 695,
 o1 sH 339,
 ak [],
 aw (.none) [],
 oN 701 [4,21,36,1,88,55],
 ak [],
 o0 sT,
 kF sT 698 341 707,
 o1 sT 346,
 ak [],
 aw (.none) [],
 oN 713 [4,21,88,40,62,1,87,10],
 ak []]
def Yv(P:Params):List Obj:=[o0 tS,
 kF tS 710 348 721,
 o1 tS 353,
 ak [],
 aw (.none) [],
 oN 727 [4,84,57,40,62,1,87,30,78,96],
 ak [],
 o0 uM,
 kF uM 724 355 737,
 o1 uM 360,
 ak [],
 aw (.none) [],
 oN 743 [4,57,40,96,62,87,10],
 ak [],
 o0 u6,
 kF u6 740 362 750]
def QD(P:Params):List Obj:=[o1 u6 367,
 ak [.int 0 753],
 ak [],
 aw (.none) [],
 oN 757 [4,21,36,1],
 ak [],
 o0 rJ,
 kF rJ 754 370 761,
 o1 rJ 375,
 ak [],
 aw (.none) [],
 oN 767 [4],
 ak [],
 o0 uV,
 kF uV 764 377 768,
 o1 uV 382]
def Uf(P:Params):List Obj:=[ak [],
 aw (.none) [],
 oN 774 [4],
 ak [],
 o0 ub,
 kF ub 771 384 775,
 o1 ub 389,
 ak [],
 aw (.none) [],
 oN 781 [4,21,96],
 ak [],
 o0 sN,
 kF sN 778 391 784,
 o1 sN 396,
 oN 787 [22,64,71,47,69,70],
 bQ (.type bW) [aU P (n 228) 584 (.str (n 269) 451),aU P (n 231) 588 (.int 184 587),er P 6 600 285,er P 73 612 292,er P 75 628 299,er P 76 634 304,er P 77 644 311,er P 74 659 318,er P 99 669 325,er P 46 681 333,er P 86 697 340,er P 90 709 347,er P 91 723 354,er P 95 739 361,er P 100 752 368,er P 198 763 376,er P 199 770 383,er P 200 777 390,er P 201 786 397,er P 232 793 398,er P 251 795 401,er P 234 797 402,aU P (n 217) 798 (.none)] 4]
def Yy(P:Params):List Obj:=[gb {name:=n 119,bases:=[.type cN],mro:=[.ref 400,.type cN],ns:=399,qualname:=n 119} [none,none,some (.str (n 119) 577),some (.str (n 119) 585),some (.builtin l3),some (.bool true)],
 aw (.type fH) [.str (n 251) 794,.ref 400,.builtin mj,.builtin lE],
 aw (.type fH) [.str (n 234) 796,.ref 400,.builtin kP,.none],
 aw (.type im) [.ref 400,.ref 400,.ref 400],
 aw (.type dp) [.builtin iz,.ref 400],
 ak [],
 aw (.type dp) [.builtin h9,.type gN],
 bQ (.type bW) [aU P (n 228) 810 (.str (n 291) 801),aU P (n 230) 812 (.str (n 134) 811),aU P (n 231) 814 (.int 335 813),er P 6 829 420,er P 232 837 421] 5,
 ak [],
 aw (.none) [.int 337 0,.int 4 0,.ref 419],
 kK 134 335 805 408 808,
 oS 410 407 291 801,
 ak [],
 ak [.str (n 292) 815,.ref 412],
 ak [],
 aw (.none) []]
def Pd(P:Params):List Obj:=[oN 819 [4,30,41,45,103,104,21,69],
 ak [],
 o0 qE,
 kF qE 816 414 827,
 o1 qE 419,
 oN 830 [104,21,45,30,69,41,103],
 bQ (.type bW) [aU P (n 228) 810 (.str (n 291) 801),aU P (n 231) 814 (.int 335 813),er P 6 829 420,er P 232 837 421,er P 251 839 424,er P 234 841 425,aU P (n 217) 842 (.none)] 4,
 gb {name:=n 134,bases:=[.type cN],mro:=[.ref 423,.type cN],ns:=422,qualname:=n 134} [none,none,some (.str (n 134) 803),some (.str (n 134) 811),some (.builtin l3),some (.bool true)],
 aw (.type fH) [.str (n 251) 838,.ref 423,.builtin mj,.builtin lE],
 aw (.type fH) [.str (n 234) 840,.ref 423,.builtin kP,.none],
 aw (.type im) [.ref 423,.ref 423,.ref 423],
 aw (.type dp) [.builtin iz,.ref 423],
 ak [],
 aw (.type dp) [.builtin h9,.type gN],
 bQ (.type bW) [aU P (n 228) 852 (.str (n 291) 801),aU P (n 230) 854 (.str (n 135) 853),aU P (n 231) 856 (.int 345 855),er P 6 871 441,er P 232 880 442] 5,
 ak []]
def X7(P:Params):List Obj:=[aw (.none) [.int 347 0,.int 4 0,.ref 440],
 kK 135 345 847 431 850,
 oS 433 430 291 801,
 ak [],
 aw (.none) [],
 oN 860 [4,30,41,45,105,106,107,108,109],
 ak [],
 o0 uN,
 kF uN 857 435 869,
 o1 uN 440,
 oN 872 [109,106,107,105,45,30,41,108],
 bQ (.type bW) [aU P (n 228) 852 (.str (n 291) 801),aU P (n 231) 856 (.int 345 855),er P 6 871 441,er P 232 880 442,er P 251 882 445,er P 234 884 446,aU P (n 217) 885 (.none)] 4,
 gb {name:=n 135,bases:=[.type cN],mro:=[.ref 444,.type cN],ns:=443,qualname:=n 135} [none,none,some (.str (n 135) 845),some (.str (n 135) 853),some (.builtin l3),some (.bool true)],
 aw (.type fH) [.str (n 251) 881,.ref 444,.builtin mj,.builtin lE],
 aw (.type fH) [.str (n 234) 883,.ref 444,.builtin kP,.none],
 aw (.type im) [.ref 444,.ref 444,.ref 444]]
def QZ(P:Params):List Obj:=[aw (.type dp) [.builtin iz,.ref 444],
 ak [],
 aw (.type dp) [.builtin h9,.type gN],
 bQ (.type bW) [aU P (n 228) 895 (.str (n 291) 801),aU P (n 230) 897 (.str (n 120) 896),aU P (n 231) 899 (.int 356 898),er P 6 907 463,er P 202 918 470,er P 232 927 471] 6,
 ak [],
 aw (.none) [.int 358 0,.int 4 0,.ref 462,.int 368 0,.int 4 0,.ref 469],
 kK 120 356 890 452 893,
 oS 454 451 291 801,
 ak [.none],
 ak [],
 aw (.none) [],
 oN 903 [4,20],
 ak [],
 o0 qm,
 kF qm 900 457 905,
 o1 qm 462]
def Pr(P:Params):List Obj:=[ak [],
 aw (.none) [],
 oN 911 [4,30,116,3,21],
 ak [],
 o0 u0,
 kF u0 908 464 916,
 o1 u0 469,
 oN 919 [110,115,114,113,20,111,112,103],
 bQ (.type bW) [aU P (n 228) 895 (.str (n 291) 801),aU P (n 231) 899 (.int 356 898),er P 6 907 463,er P 202 918 470,er P 232 927 471,er P 251 929 474,er P 234 931 475,aU P (n 217) 932 (.none)] 4,
 gb {name:=n 120,bases:=[.type cN],mro:=[.ref 473,.type cN],ns:=472,qualname:=n 120} [none,none,some (.str (n 120) 888),some (.str (n 120) 896),some (.builtin l3),some (.bool true)],
 aw (.type fH) [.str (n 251) 928,.ref 473,.builtin mj,.builtin lE],
 aw (.type fH) [.str (n 234) 930,.ref 473,.builtin kP,.none],
 aw (.type im) [.ref 473,.ref 473,.ref 473],
 aw (.type dp) [.builtin iz,.ref 473],
 ak [],
 aw (.type dp) [.builtin h9,.type gN]]
def Tq(P:Params):List Obj:=[bQ (.type bW) [aU P (n 228) 942 (.str (n 291) 801),aU P (n 230) 944 (.str (n 117) 943),aU P (n 231) 946 (.int 370 945),er P 6 957 491,er P 36 963 496,er P 128 975 503,er P 232 980 504] 7,
 ak [],
 aw (.none) [.int 372 0,.int 4 0,.ref 490,.int 378 0,.int 4 0,.ref 495,.int 381 0,.int 4 0,.ref 502],
 kK 117 370 937 481 940,
 oS 483 480 291 801,
 ak [],
 aw (.none) [],
 oN 950 [4,21,41,45,23],
 ak [],
 o0 tK,
 kF tK 947 485 955,
 o1 tK 490,
 ak [],
 aw (.none) [],
 o0 vp,
 kG vp 958 492 961]
def Ym(P:Params):List Obj:=[o1 vp 495,
 ak [],
 aw (.none) [],
 oN 967 [4,1,41,45,40,51],
 ak [],
 o0 uA,
 kF uA 964 497 973,
 o1 uA 502,
 oN 976 [21,45,41,23],
 bQ (.type bW) [aU P (n 228) 942 (.str (n 291) 801),aU P (n 231) 946 (.int 370 945),er P 6 957 491,er P 36 963 496,er P 128 975 503,er P 232 980 504,er P 251 982 507,er P 234 984 508,aU P (n 217) 985 (.none)] 4,
 gb {name:=n 117,bases:=[.type cN],mro:=[.ref 506,.type cN],ns:=505,qualname:=n 117} [none,none,some (.str (n 117) 935),some (.str (n 117) 943),some (.builtin l3),some (.bool true)],
 aw (.type fH) [.str (n 251) 981,.ref 506,.builtin mj,.builtin lE],
 aw (.type fH) [.str (n 234) 983,.ref 506,.builtin kP,.none],
 aw (.type im) [.ref 506,.ref 506,.ref 506],
 aw (.type dp) [.builtin iz,.ref 506],
 ak []]
def Ql(P:Params):List Obj:=[aw (.type dp) [.builtin h9,.type gN],
 bQ (.type bW) [aU P (n 228) 995 (.str (n 291) 801),aU P (n 230) 997 (.str (n 173) 996),aU P (n 231) 999 (.int 389 998),er P 6 1007 524,er P 203 1014 531,er P 204 1021 538,er P 139 1031 545,er P 136 1042 552,er P 179 1048 557,er P 131 1054 562,er P 205 1065 569,er P 206 1074 576,er P 207 1083 583,er P 208 1092 590,er P 209 1101 597,er P 184 1115 604,er P 210 1125 611,er P 211 1134 618,er P 232 1140 619] 19,
 ak [],
 aw (.none) [.int 391 0,.int 4 0,.ref 523,.int 398 0,.int 4 0,.ref 530,.int 401 0,.int 4 0,.ref 537,.int 404 0,.int 4 0,.ref 544,.int 411 0,.int 4 0,.ref 551,.int 415 0,.int 4 0,.ref 556,.int 431 0,.int 4 0,.ref 561,.int 441 0,.int 4 0,.ref 568,.int 444 0,.int 4 0,.ref 575,.int 447 0,.int 4 0,.ref 582,.int 450 0,.int 4 0,.ref 589,.int 453 0,.int 4 0,.ref 596,.int 456 0,.int 4 0,.ref 603,.int 464 0,.int 4 0,.ref 610,.int 467 0,.int 4 0,.ref 617],
 kK 173 389 990 514 993,
 oS 516 513 291 801,
 ak [],
 aw (.none) [],
 oN 1003 [4,64],
 ak [],
 o0 sG,
 kF sG 1000 518 1005,
 o1 sG 523,
 ak [],
 aw (.none) [],
 oN 1011 [4]]
def Y5(P:Params):List Obj:=[ak [],
 o0 sL,
 kF sL 1008 525 1012,
 o1 sL 530,
 ak [],
 aw (.none) [],
 oN 1018 [4],
 ak [],
 o0 uk,
 kF uk 1015 532 1019,
 o1 uk 537,
 ak [],
 aw (.none) [],
 oN 1025 [4,124,25,7],
 ak [],
 o0 sM]
def Z4(P:Params):List Obj:=[kF sM 1022 539 1029,
 o1 sM 544,
 ak [],
 aw (.none) [],
 oN 1035 [4,124,22,1,126],
 ak [],
 o0 tz,
 kF tz 1032 546 1040,
 o1 tz 551,
 ak [],
 aw (.none) [],
 o0 uO,
 kG uO 1043 553 1046,
 o1 uO 556,
 ak [],
 aw (.none) []]
def QX(P:Params):List Obj:=[o0 um,
 kG um 1049 558 1052,
 o1 um 561,
 ak [],
 aw (.none) [],
 oN 1058 [4,30,66,124,140],
 ak [],
 o0 tE,
 kF tE 1055 563 1063,
 o1 tE 568,
 ak [],
 aw (.none) [],
 oN 1069 [4,23,108],
 ak [],
 o0 sx,
 kF sx 1066 570 1072]
def ZS(P:Params):List Obj:=[o1 sx 575,
 ak [],
 aw (.none) [],
 oN 1078 [4,21,66],
 ak [],
 o0 ti,
 kF ti 1075 577 1081,
 o1 ti 582,
 ak [],
 aw (.none) [],
 oN 1087 [4,21,66],
 ak [],
 o0 u9,
 kF u9 1084 584 1090,
 o1 u9 589,
 ak []]
def R8(P:Params):List Obj:=[aw (.none) [],
 oN 1096 [4,21,66],
 ak [],
 o0 tx,
 kF tx 1093 591 1099,
 o1 tx 596,
 ak [],
 aw (.none) [],
 oN 1105 [4,126,42,1,15,7,40,51],
 ak [],
 o0 sD,
 kF sD 1102 598 1113,
 o1 sD 603,
 ak [],
 aw (.none) [],
 oN 1119 [4,105,124,1]]
def Xl(P:Params):List Obj:=[ak [],
 o0 rZ,
 kF rZ 1116 605 1123,
 o1 rZ 610,
 ak [],
 aw (.none) [],
 oN 1129 [4,124,66],
 ak [],
 o0 uC,
 kF uC 1126 612 1132,
 o1 uC 617,
 oN 1135 [64,122,20,123,121],
 bQ (.type bW) [aU P (n 228) 995 (.str (n 291) 801),aU P (n 231) 999 (.int 389 998),er P 6 1007 524,er P 203 1014 531,er P 204 1021 538,er P 139 1031 545,er P 136 1042 552,er P 179 1048 557,er P 131 1054 562,er P 205 1065 569,er P 206 1074 576,er P 207 1083 583,er P 208 1092 590,er P 209 1101 597,er P 184 1115 604,er P 210 1125 611,er P 211 1134 618,er P 232 1140 619,er P 251 1142 622,er P 234 1144 623,aU P (n 217) 1145 (.none)] 4,
 gb {name:=n 173,bases:=[.type cN],mro:=[.ref 621,.type cN],ns:=620,qualname:=n 173} [none,none,some (.str (n 173) 988),some (.str (n 173) 996),some (.builtin l3),some (.bool true)],
 aw (.type fH) [.str (n 251) 1141,.ref 621,.builtin mj,.builtin lE],
 aw (.type fH) [.str (n 234) 1143,.ref 621,.builtin kP,.none]]
def Po(P:Params):List Obj:=[aw (.type im) [.ref 621,.ref 621,.ref 621],
 aw (.type dp) [.builtin iz,.ref 621],
 ak [],
 aw (.none) [],
 oN 1151 [7,8,10,11],
 ak [],
 o0 s0,
 kF s0 1148 626 1155,
 o1 s0 631,
 ak [],
 aw (.none) [],
 oN 1163 [143,144,145],
 ak [],
 o0 tV,
 kF tV 1160 633 1166,
 o1 tV 638]
def Vb(P:Params):List Obj:=[ak [],
 aw (.none) [],
 oN 1172 [148,149,150],
 ak [],
 o0 uL,
 kF uL 1169 640 1175,
 o1 uL 645,
 ak [],
 aw (.none) [],
 oN 1181 [148,151],
 ak [],
 o0 vl,
 kF vl 1178 647 1183,
 o1 vl 652,
 ak [],
 aw (.none) []]
def Tu(P:Params):List Obj:=[oN 1189 [153,154],
 ak [],
 o0 r9,
 kF r9 1186 654 1191,
 o1 r9 659,
 ak [],
 aw (.none) [],
 oN 1197 [40],
 ak [],
 o0 uj,
 kF uj 1194 661 1198,
 o1 uj 666,
 ak [],
 aw (.none) [],
 oN 1204 [155,1,41,36,156,116,126,16],
 ak []]
def W4(P:Params):List Obj:=[o0 tN,
 kF tN 1201 668 1212,
 o1 tN 673,
 ak [],
 aw (.none) [],
 ak [],
 ak [],
 o0 r6,
 kF r6 1215 675 1218,
 o1 r6 680,
 ak [],
 aw (.none) [],
 oN 1224 [158],
 ak [],
 o0 sI,
 kF sI 1221 682 1225]
def Ta(P:Params):List Obj:=[o1 sI 687,
 ak [],
 aw (.none) [],
 o0 tG,
 kG tG 1228 689 1231,
 o1 tG 692,
 ak [],
 aw (.none) [],
 o0 pV,
 kG pV 1234 694 1237,
 o1 pV 697,
 ak [],
 aw (.none) [],
 o0 oA,
 kG oA 1240 699 1243,
 o1 oA 702]
def Oc(P:Params):List Obj:=[ak [],
 aw (.none) [],
 o0 oh,
 kG oh 1246 704 1249,
 o1 oh 707,
 ak [],
 aw (.none) [],
 oN 1255 [7,66,171,105],
 ak [],
 o0 tw,
 kF tw 1252 709 1259,
 o1 tw 714,
 ak [],
 aw (.none) [],
 oN 1265 [11,185,155,41,126,36,181],
 ak []]
def V7(P:Params):List Obj:=[o0 tj,
 kF tj 1262 716 1272,
 o1 tj 721,
 ak [],
 aw (.none) [],
 o0 nH,
 kG nH 1275 723 1278,
 o1 nH 726]
def oT:Tr (Params->List Obj):=(.nd (.nd (.nd (.nd (.nd (.nd .lf 0 UJ .lf) 1 Xd .lf) 2 W2 (.nd (.nd .lf 3 RZ .lf) 4 Oe .lf)) 5 PM (.nd (.nd (.nd .lf 6 O6 .lf) 7 Y4 .lf) 8 RM (.nd (.nd .lf 9 Xs .lf) 10 ZW .lf))) 11 PI (.nd (.nd (.nd (.nd .lf 12 Th .lf) 13 Ro .lf) 14 Xv (.nd (.nd .lf 15 VY .lf) 16 Qu .lf)) 17 UK (.nd (.nd (.nd .lf 18 UA .lf) 19 Zl .lf) 20 Yk (.nd (.nd .lf 21 U2 .lf) 22 Yv .lf)))) 23 QD (.nd (.nd (.nd (.nd (.nd .lf 24 Uf .lf) 25 Yy .lf) 26 Pd (.nd (.nd .lf 27 X7 .lf) 28 QZ .lf)) 29 Pr (.nd (.nd (.nd .lf 30 Tq .lf) 31 Ym .lf) 32 Ql (.nd (.nd .lf 33 Y5 .lf) 34 Z4 .lf))) 35 QX (.nd (.nd (.nd (.nd .lf 36 ZS .lf) 37 R8 .lf) 38 Xl (.nd (.nd .lf 39 Po .lf) 40 Vb .lf)) 41 Tu (.nd (.nd (.nd .lf 42 W4 .lf) 43 Ta .lf) 44 Oc (.nd .lf 45 V7 .lf)))))
def Jh(P:Params):List Value:=[]
def vQ(P:Params):BT:=sB 12 (aw (.none) (Jh P)) (sB 3 (PySem.W.boot_o_3 P) (sB 2 (PySem.W.boot_o_2 P) (tB (bv oT P) 15 11 1 0)))
def JX(P:Params):List DictEntry:=[aU P (n 196) 165 (.str (n 229) 194),aU P (n 217) 166 (.none),aU P (n 218) 167 (.none),aU P (n 219) 168 (.builtin GQ),aU P (n 220) 169 (.none),er P 221 170 6,er P 222 171 4,aU P (n 223) 173 (.str (n 213) 172),aU P (n 224) 174 (.none),er P 102 193 21,er P 197 227 39]
def Lo(P:Params):List Value:=(app (Jh P) [.int 1 0,.int 0 0,.ref 20,.int 5 0,.int 0 0,.ref 27])
def Hw(P:Params):BT:=sB 39 (gb {name:=n 197,bases:=[.type fb],mro:=[.ref 39,.type fb,.type il,.type cN],ns:=38,qualname:=n 197} [some (.ref 22),none,some (.str (n 197) 196),some (.str (n 197) 204),some (.builtin l7),some (.bool true)]) (sB 12 (aw (.none) (Lo P)) (sB 3 (bQ (.type bW) (JX P) 11) (tB (bv oT P) 43 11 1 0)))
def Gw(P:Params):List DictEntry:=(app (JX P) [er P 17 243 52])
def HC(P:Params):List Value:=(app (Lo P) [.int 11 0,.int 0 0,.ref 48])
def HD(P:Params):BT:=sB 39 (gb {name:=n 197,bases:=[.type fb],mro:=[.ref 39,.type fb,.type il,.type cN],ns:=38,qualname:=n 197,subclasses:=[.ref 52]} [some (.ref 22),none,some (.str (n 197) 196),some (.str (n 197) 204),some (.builtin l7),some (.bool true)]) (sB 12 (aw (.none) (HC P)) (sB 3 (bQ (.type bW) (Gw P) 12) (tB (bv oT P) 55 11 1 0)))
def G2(P:Params):List DictEntry:=(app (Gw P) [er P 97 259 64])
def IS(P:Params):List Value:=(app (HC P) [.int 13 0,.int 0 0,.ref 60])
def Jt(P:Params):BT:=sB 39 (gb {name:=n 197,bases:=[.type fb],mro:=[.ref 39,.type fb,.type il,.type cN],ns:=38,qualname:=n 197,subclasses:=[.ref 52,.ref 64]} [some (.ref 22),none,some (.str (n 197) 196),some (.str (n 197) 204),some (.builtin l7),some (.bool true)]) (sB 12 (aw (.none) (IS P)) (sB 3 (bQ (.type bW) (G2 P) 13) (tB (bv oT P) 67 11 1 0)))
def Fa(P:Params):List DictEntry:=(app (G2 P) [er P 29 275 76])
def Id(P:Params):List Value:=(app (IS P) [.int 15 0,.int 0 0,.ref 72])
def JE(P:Params):BT:=sB 39 (gb {name:=n 197,bases:=[.type fb],mro:=[.ref 39,.type fb,.type il,.type cN],ns:=38,qualname:=n 197,subclasses:=[.ref 52,.ref 64,.ref 76]} [some (.ref 22),none,some (.str (n 197) 196),some (.str (n 197) 204),some (.builtin l7),some (.bool true)]) (sB 12 (aw (.none) (Id P)) (sB 3 (bQ (.type bW) (Fa P) 14) (tB (bv oT P) 79 11 1 0)))
def Ej(P:Params):List DictEntry:=(app (qF (Fa P) 0 (aU P (n 196) 165 (.str (n 243) 292))) [er P 142 291 88,er P 43 303 91,aU P (n 18) 305 (.str (n 225) 304),aU P (n 28) 307 (.int 10000 306),er P 12 318 98,er P 138 328 105,er P 26 336 112])
def JK(P:Params):List Value:=(app (Id P) [.int 17 0,.int 0 0,.ref 84,.int 23 0,.int 0 0,.ref 97,.int 34 0,.int 0 0,.ref 104,.int 40 0,.int 0 0,.ref 111])
def IK(P:Params):BT:=sB 12 (aw (.none) (JK P)) (sB 3 (bQ (.type bW) (Ej P) 21) (tB (bv oT P) 113 11 1 0))
def EG(P:Params):List DictEntry:=(app (Ej P) [er P 48 420 165])
def IX(P:Params):List Value:=(app (JK P) [.int 46 0,.int 0 0,.ref 118])
def DP(P:Params):BT:=sB 12 (aw (.none) (IX P)) (sB 3 (bQ (.type bW) (EG P) 22) (tB (bv oT P) 170 11 1 0))
def Ff(P:Params):List DictEntry:=(app (qF (EG P) 0 (aU P (n 196) 165 (.str (n 269) 451))) [er P 125 432 177,er P 49 438 182,er P 53 444 187,er P 127 450 192,er P 94 466 193,aU P (n 101) 468 (.int 30 467),er P 82 472 194,er P 79 475 196,er P 68 483 203,er P 93 491 210,er P 85 499 217])
def IN(P:Params):List Value:=(app (IX P) [.int 117 0,.int 0 0,.ref 176,.int 119 0,.int 0 0,.ref 181,.int 127 0,.int 0 0,.ref 186,.int 136 0,.int 0 0,.ref 191,.int 159 0,.int 0 0,.ref 202,.int 161 0,.int 0 0,.ref 209,.int 164 0,.int 0 0,.ref 216])
def HM(P:Params):BT:=sB 12 (aw (.none) (IN P)) (sB 3 (bQ (.type bW) (Ff P) 33) (tB (bv oT P) 218 11 1 0))
def JJ(P:Params):List DictEntry:=(app (Ff P) [er P 83 532 234])
def Jy(P:Params):List Value:=(app (IN P) [.int 166 0,.int 0 0,.ref 223])
def KV(P:Params):BT:=sB 12 (aw (.none) (Jy P)) (sB 3 (bQ (.type bW) (JJ P) 34) (tB (bv oT P) 239 11 1 0))
def Im(P:Params):List DictEntry:=(app (JJ P) [er P 67 576 267])
def KI(P:Params):List Value:=(app (Jy P) [.int 172 0,.int 0 0,.ref 244])
def IC(P:Params):BT:=sB 12 (aw (.none) (KI P)) (sB 3 (bQ (.type bW) (Im P) 35) (tB (bv oT P) 272 11 1 0))
def F3(P:Params):List DictEntry:=(app (Im P) [er P 119 800 400])
def GT(P:Params):List Value:=(app (KI P) [.int 184 0,.int 0 0,.ref 277])
def HO(P:Params):BT:=sB 12 (aw (.none) (GT P)) (sB 3 (bQ (.type bW) (F3 P) 36) (tB (bv oT P) 405 11 1 0))
def Jr(P:Params):List DictEntry:=(app (qF (F3 P) 0 (aU P (n 196) 165 (.str (n 291) 801))) [er P 134 844 423])
def Ib(P:Params):List Value:=(app (GT P) [.int 335 0,.int 0 0,.ref 410])
def HA(P:Params):BT:=sB 12 (aw (.none) (Ib P)) (sB 3 (bQ (.type bW) (Jr P) 37) (tB (bv oT P) 428 11 1 0))
def Ka(P:Params):List DictEntry:=(app (Jr P) [er P 135 887 444])
def EH(P:Params):List Value:=(app (Ib P) [.int 345 0,.int 0 0,.ref 433])
def Mq(P:Params):BT:=sB 12 (aw (.none) (EH P)) (sB 3 (bQ (.type bW) (Ka P) 38) (tB (bv oT P) 449 11 1 0))
def J6(P:Params):List DictEntry:=(app (Ka P) [er P 120 934 473])
def Gc(P:Params):List Value:=(app (EH P) [.int 356 0,.int 0 0,.ref 454])
def Ml(P:Params):BT:=sB 12 (aw (.none) (Gc P)) (sB 3 (bQ (.type bW) (J6 P) 39) (tB (bv oT P) 478 11 1 0))
def FP(P:Params):List DictEntry:=(app (J6 P) [er P 117 987 506])
def Ip(P:Params):List Value:=(app (Gc P) [.int 370 0,.int 0 0,.ref 483])
def HV(P:Params):BT:=sB 12 (aw (.none) (Ip P)) (sB 3 (bQ (.type bW) (FP P) 40) (tB (bv oT P) 511 11 1 0))
def DN(P:Params):List DictEntry:=(app (FP P) [er P 173 1147 621])
def IY(P:Params):List Value:=(app (Ip P) [.int 389 0,.int 0 0,.ref 516])
def I1(P:Params):BT:=sB 12 (aw (.none) (IY P)) (sB 3 (bQ (.type bW) (DN P) 41) (tB (bv oT P) 626 11 1 0))
def To(P:Params):List DictEntry:=(app (qF (DN P) 0 (aU P (n 196) 165 (.str (n 216) 1158))) [er P 141 1157 632,er P 191 1168 639,er P 152 1177 646,er P 192 1185 653,er P 174 1193 660,er P 157 1200 667,er P 161 1214 674,er P 194 1220 681,er P 162 1227 688,er P 177 1233 693,er P 186 1239 698,er P 187 1245 703,er P 188 1251 708])
def UC(P:Params):List Value:=(app (IY P) [.int 469 0,.int 0 0,.ref 631,.int 482 0,.int 0 0,.ref 638,.int 486 0,.int 0 0,.ref 645,.int 493 0,.int 0 0,.ref 652,.int 495 0,.int 0 0,.ref 659,.int 504 0,.int 0 0,.ref 666,.int 506 0,.int 0 0,.ref 673,.int 520 0,.int 0 0,.ref 680,.int 522 0,.int 0 0,.ref 687,.int 524 0,.int 0 0,.ref 692,.int 535 0,.int 0 0,.ref 697,.int 569 0,.int 0 0,.ref 702,.int 574 0,.int 0 0,.ref 707])
def Le(P:Params):BT:=sB 12 (aw (.none) (UC P)) (sB 3 (bQ (.type bW) (To P) 54) (tB (bv oT P) 709 11 1 0))
def wK(P:Params):BT:=tB (bv oT P) 728 11 1 0
end
section
open PySem PySem.W PyProof.Rows
set_option maxHeartbeats 0
noncomputable def nO:Nat->Str:=j3 nk sO
theorem Rm:nO=n:=QM (by kernel_rfl)
noncomputable def fB:Env:={scope:=(PG n).main.scope,locals:=mainNs,globals:=mainNs,cells:=[],code:=.ref 13,frame:=some 14}
noncomputable def CD:Code:=.body (behindTheImports (PG n)) fB
noncomputable abbrev FR:List Frame:=[topFrame ⟨0,0,0,0⟩]
theorem p0:∀w:World,(λos=>fO (PG n) w 11 (some (.ref 6)) 1 271 (SH vQ 15 187 w os) (piecesOf (dQ n) fB CD ⟨0,0,0,0⟩ FR))=λos=>some (Flow.next,SH Hw 43 228 w os,CD,⟨5,0,10,24⟩):=λw=>by kernel_rfl
theorem p1:∀w:World,(λos=>fO (PG n) w 11 (some (.ref 6)) 1 214 (SH Hw 43 228 w os) (piecesOf (ib n) fB CD ⟨5,0,10,24⟩ FR))=λos=>some (Flow.next,SH HD 55 244 w os,CD,⟨11,0,12,8⟩):=λw=>by kernel_rfl
theorem p2:∀w:World,(λos=>fO (PG n) w 11 (some (.ref 6)) 1 214 (SH HD 55 244 w os) (piecesOf (rK n) fB CD ⟨11,0,12,8⟩ FR))=λos=>some (Flow.next,SH Jt 67 260 w os,CD,⟨13,0,14,8⟩):=λw=>by kernel_rfl
theorem p3:∀w:World,(λos=>fO (PG n) w 11 (some (.ref 6)) 1 214 (SH Jt 67 260 w os) (piecesOf (Ay n) fB CD ⟨13,0,14,8⟩ FR))=λos=>some (Flow.next,SH JE 79 276 w os,CD,⟨15,0,16,8⟩):=λw=>by kernel_rfl
theorem p4:∀w:World,(λos=>fO (PG n) w 11 (some (.ref 6)) 1 355 (SH JE 79 276 w os) (piecesOf (rh n) fB CD ⟨15,0,16,8⟩ FR))=λos=>some (Flow.next,SH IK 113 337 w os,CD,⟨40,0,45,17⟩):=λw=>by kernel_rfl
theorem p5:∀w:World,(λos=>fO (PG n) w 11 (some (.ref 6)) 1 416 (SH IK 113 337 w os) (piecesOf (zF n) fB CD ⟨40,0,45,17⟩ FR))=λos=>some (Flow.next,SH DP 170 421 w os,CD,⟨46,0,116,77⟩):=λw=>by kernel_rfl
theorem p6:∀w:World,(λos=>fO (PG n) w 11 (some (.ref 6)) 1 286 (SH DP 170 421 w os) (piecesOf (zl n) fB CD ⟨46,0,116,77⟩ FR))=λos=>some (Flow.next,SH HM 218 500 w os,CD,⟨164,0,165,76⟩):=λw=>by kernel_rfl
theorem p7:∀w:World,(λos=>fO (PG n) w 11 (some (.ref 6)) 1 227 (SH HM 218 500 w os) (piecesOf (Bm n) fB CD ⟨164,0,165,76⟩ FR))=λos=>some (Flow.next,SH KV 239 533 w os,CD,⟨166,0,171,24⟩):=λw=>by kernel_rfl
theorem p8:∀w:World,(λos=>fO (PG n) w 11 (some (.ref 6)) 1 284 (SH KV 239 533 w os) (piecesOf (Bc n) fB CD ⟨166,0,171,24⟩ FR))=λos=>some (Flow.next,SH IC 272 577 w os,CD,⟨172,0,183,98⟩):=λw=>by kernel_rfl
theorem p9:∀w:World,(λos=>fO (PG n) w 11 (some (.ref 6)) 1 802 (SH IC 272 577 w os) (piecesOf (Cc n) fB CD ⟨172,0,183,98⟩ FR))=λos=>some (Flow.next,SH HO 405 801 w os,CD,⟨184,0,333,16⟩):=λw=>by kernel_rfl
theorem jH:∀w:World,(λos=>fO (PG n) w 11 (some (.ref 6)) 1 248 (SH HO 405 801 w os) (piecesOf (zN n) fB CD ⟨184,0,333,16⟩ FR))=λos=>some (Flow.next,SH HA 428 845 w os,CD,⟨335,0,344,30⟩):=λw=>by kernel_rfl
theorem p11:∀w:World,(λos=>fO (PG n) w 11 (some (.ref 6)) 1 237 (SH HA 428 845 w os) (piecesOf (Bs n) fB CD ⟨335,0,344,30⟩ FR))=λos=>some (Flow.next,SH Mq 449 888 w os,CD,⟨345,0,355,32⟩):=λw=>by kernel_rfl
theorem UO:∀w:World,(λos=>fO (PG n) w 11 (some (.ref 6)) 1 266 (SH Mq 449 888 w os) (piecesOf (AR n) fB CD ⟨345,0,355,32⟩ FR))=λos=>some (Flow.next,SH Ml 478 935 w os,CD,⟨356,0,369,16⟩):=λw=>by kernel_rfl
theorem XN:∀w:World,(λos=>fO (PG n) w 11 (some (.ref 6)) 1 293 (SH Ml 478 935 w os) (piecesOf (AA n) fB CD ⟨356,0,369,16⟩ FR))=λos=>some (Flow.next,SH HV 511 988 w os,CD,⟨370,0,388,108⟩):=λw=>by kernel_rfl
theorem Un:∀w:World,(λos=>fO (PG n) w 11 (some (.ref 6)) 1 686 (SH HV 511 988 w os) (piecesOf (Bp n) fB CD ⟨370,0,388,108⟩ FR))=λos=>some (Flow.next,SH I1 626 1148 w os,CD,⟨389,0,468,17⟩):=λw=>by kernel_rfl
theorem Tc:∀w:World,(λos=>fO (PG n) w 11 (some (.ref 6)) 1 390 (SH I1 626 1148 w os) (piecesOf (Az n) fB CD ⟨389,0,468,17⟩ FR))=λos=>some (Flow.next,SH Le 709 1252 w os,CD,⟨574,0,579,80⟩):=λw=>by kernel_rfl
theorem QO:∀w:World,(λos=>fO (PG n) w 11 (some (.ref 6)) 1 94 (SH Le 709 1252 w os) (piecesOf (Ci n) fB CD ⟨574,0,579,80⟩ FR))=λos=>some (Flow.next,SH wK 728 1281 w os,CD,⟨605,0,623,79⟩):=λw=>by kernel_rfl
theorem bE:behindTheImports (PG n)=dQ n++(ib n++(rK n++(Ay n++(rh n++(zF n++(zl n++(Bm n++(Bc n++(Cc n++(zN n++(Bs n++(AR n++(AA n++(Bp n++(Az n++(Ci n++([]))))))))))))))))):=by kernel_rfl
noncomputable def HF(P:Params):Heap:=absHeap (wK P) 728 {}
theorem pre:∀w:World,(λos=>Ak (PG n) w 11 (some (.ref 6)) 12 ⟨boot_heap w.params,#[],boot_drawn,boot_toks,os⟩ (topStub (PG n)))=λos=>some ((SH vQ 15 187 w os).abs,⟨A6 CD,CD,⟨0,0,0,0⟩,FR⟩):=λw=>by kernel_rfl
theorem OX:∀w:World,(λos=>zc (PG n) w 11 (some (.ref 6)) 1 1 (SH vQ 15 187 w os).abs (blockOf (behindTheImports (PG n)) fB CD ⟨0,0,0,0⟩ FR))=λos=>some (Flow.next,(SH vQ 15 187 w os).abs,CD,⟨0,0,0,0⟩):=λw=>by kernel_rfl
theorem eV:∀w:World,(λos=>Lb (PG n) w 11 (some (.ref 6)) 2 (SH wK 728 1281 w os).abs ⟨doneF .next,CD,⟨605,0,623,79⟩,FR⟩)=λos=>some (⟨HF w.params,#[],{},1281,os⟩:Shared):=λw=>by kernel_rfl
theorem ck:∀(w:World) (os:OsState),topRun treeTable (PG n) w 11 (some (.ref 6)) (12+(1+(271+(214+(214+(214+(355+(416+(286+(227+(284+(802+(248+(237+(266+(293+(686+(390+(94+2))))))))))))))))))) ⟨boot_heap w.params,#[],boot_drawn,boot_toks,os⟩ (topStub (PG n))=some ⟨HF w.params,#[],{},1281,os⟩:=
 λw os=>W0 (dI (pre w) os) (X5 (dI (OX w) os) (VU bE (gB (dI (p0 w) os) (gB (dI (p1 w) os) (gB (dI (p2 w) os) (gB (dI (p3 w) os) (gB (dI (p4 w) os) (gB (dI (p5 w) os) (gB (dI (p6 w) os) (gB (dI (p7 w) os) (gB (dI (p8 w) os) (gB (dI (p9 w) os) (gB (dI (jH w) os) (gB (dI (p11 w) os) (gB (dI (UO w) os) (gB (dI (XN w) os) (gB (dI (Un w) os) (gB (dI (Tc w) os) (gB (dI (QO w) os) (piece_nil (Pq▸dI (eV w) os)))))))))))))))))))))
noncomputable def LG(n:Nat->Str):OpenLaw:={prog:=PG n,name:=n 212,about:=[n 173,n 184],foot:=15,most:=some 63,bound:=none,writes:=false}
theorem RF:PySem.Challenge.rw_xw0182_01=LG nO:=by kernel_rfl
theorem S4:PySem.Challenge.rw_xw0182_01=LG n:=Rm▸RF
noncomputable def QG:Program:=HU n [gD n nH] [(102,0),(196,0),(197,0),(5,3),(17,0),(97,0),(29,0),(142,0),(43,0),(18,0),(28,0),(12,0),(138,0),(26,0),(48,0),(125,0),(49,0),(53,0),(127,0),(94,0),(101,0),(82,0),(79,0),(68,0),(93,0),(85,0),(83,0),(67,0),(119,0),(134,0),(135,0),(120,0),(117,0),(173,0),(141,0),(191,0),(152,0),(192,0),(174,0),(157,0),(161,0),(194,0),(162,0),(177,0),(186,0),(187,0),(188,0),(190,0),(189,0),(212,0)] 213
noncomputable def LS:List Str:=aZ n [102,197,17,97,29,142,43,18,28,12,138,26,48,125,49,53,127,94,101,82,79,68,93,85,83,67,119,134,135,120,117,173,141,191,152,192,174,157,161,194,162,177,186,187,188,190,189]
theorem QK:(LG n).wellSaid=true:=(dI PySem.W.Fast.te9446332074065402090 (LG n)).trans (by kernel_rfl)
theorem Xm:∀w:World,((boot_heap w.params).isNs mainGlobals&&(#[]:Array GenState).size==0,(boot_heap w.params).objs.size,(boot_heap w.params).nsMap mainGlobals "__annotations__")=(true,11,some (.ref 6)):=λw=>by kernel_rfl
theorem VS:opening (PG n)=plainProg (PG n).main.scope.names:=by kernel_rfl
theorem Wk:∀w:World,(λos:OsState=>staticsOk (PySem.W.Fast.tw5923862056798008813 (PG n).main.body) (boot_heap w.params) (HF w.params)&&namesBound (PG n) (HF w.params)&&gensDone ⟨HF w.params,#[],{},1281,os⟩&&laidKept (boot_heap w.params) (HF w.params))=λ_=>true:=λw=>by kernel_rfl
theorem Xf:∀w:World,(λos:OsState=>PySem.W.Fast.tw4187177175401517315 QG LS (PySem.W.Fast.tw5923862056798008813 (PG n).main.body) (λ_=>true) true ⟨HF w.params,#[],{},1281,os⟩)=λ_=>openGood QG LS:=λw=>by kernel_rfl
theorem UL:∀w:World,(λos=>((staticsOk (importedModules (PG n).main.body) (boot_heap w.params) (HF w.params)&&namesBound (PG n) (HF w.params)&&gensDone ⟨HF w.params,#[],{},1281,os⟩&&laidKept (boot_heap w.params) (HF w.params)),
 openSeen QG LS (importedModules (PG n).main.body) (λ_=>true) true ⟨HF w.params,#[],{},1281,os⟩,(⟨HF w.params,#[],{},1281,os⟩:Shared).heap))=λ_=>(true,openGood QG LS,HF w.params):=λw=>funext λos=>by
 rw[PySem.W.Fast.te5923862056798008813,PySem.W.Fast.te4187177175401517315]
 exact Prod.ext (dI (Wk w) os) (Prod.ext (dI (Xf w) os) rfl)
theorem Tk:∀s,fenceModules? (PG n) s=some s:=λs=>by kernel_rfl
theorem left:LeftO (PG n) QG LS (λ_=>true) (λs=>s.heap) (λw=>HF w.params) 11124 true:=
 LeftO.of_pieces (boot_open VS (by decide) Tk) Xm ck (by kernel_rfl) UL
noncomputable def LD:DefRec:={name:=n 212,params:=gA n nH,body:=cU n lR.body,scope:=gS n nH,pos:=aE 605000623079}
noncomputable def Ax(w:World)(h:Heap):Prop:=∀b o,(HF w.params).get? b=some o->h.get? b=some o
theorem head(call:WalkO QG LS (λ_ _=>True) Ax (LG n).row.toRowW LD [] (λf vs=>PySem.call f vs)):PySem.Challenge.rw_xw0182_01.Holds:=by
 rw[S4]
 exact holds_law QK λk1=>holds_open (r:=(LG n).row) (q:=QG) (loose:=LS) (Xt:=λ_=>true) (XP:=λ_ _=>True) (Yf:=λs=>s.heap) (Ya:=λw=>HF w.params) (YP:=Ax) (N:=11124) left (λw s e b o h=>e▸h) (λw h h' y k b o e=>k b o (y b o e))
  (λ_ _=>trivial) (λ_ _ _ _ _=>trivial) (by kernel_rfl) (by kernel_rfl) (by kernel_rfl) (λ_ _=>recFacts_nil rfl) (by kernel_rfl) k1 (by kernel_rfl) ⟨rfl,rfl,rfl,rfl,rfl,by decide+kernel⟩ ⟨[.list []],by decide+kernel,by decide+kernel⟩ call
def iF:List Nat:=[21,36,98,105,112,126,131,138,143,150,157,162,177,182,187,192,203,210,217,231,252,259,264,285,292,299,304,311,318,325,333,340,347,354,361,368,376,383,390,397,420,441,463,470,491,496,503,524,531,538,545,552,557,562,569,576,583,590,597,604,611,618,632,639,646,653,660,667,674,681,688,693,698,703,708,715,722,727]
def cj:List Nat:=[39,52,64,76,88,165,234,267,400,423,444,473,506,621]
def pg:List (Nat×Nat):=[(697,695),(702,700),(707,705)]
def ee:List Nat:=[695,700,705]
def Ct:List Nat:=[39,52,64,76,88,165,234,267,400,423,444,473,506,621,38,51,63,75,87,164,233,266,399,422,443,472,505,620,21,36,98,105,112,126,131,138,143,150,157,162,177,182,187,192,203,210,217,231,252,259,264,285,292,299,304,311,318,325,333,340,347,354,361,368,376,383,390,397,420,441,463,470,491,496,503,524,531,538,545,552,557,562,569,576,583,590,597,604,611,618,632,639,646,653,660,667,674,681,688,693,698,703,708,715,722,727]
def KF(P:Params):Frag:=aZ (λa=>(a,bv oT P a)) Ct
def Mr(a:Nat):Str:=Option.rec (n 0) (λs=>aW s) (au [(697,[95,108,97,119,95,116,97,107,101,110,95,114,105,103,104,116,46,60,108,111,99,97,108,115,62,46,60,108,97,109,98,100,97,62]),(702,[95,108,97,119,95,97,108,111,110,101,95,114,105,103,104,116,46,60,108,111,99,97,108,115,62,46,60,108,97,109,98,100,97,62]),(707,[95,108,97,119,95,112,97,114,97,109,115,95,114,105,103,104,116,46,60,108,111,99,97,108,115,62,46,60,108,97,109,98,100,97,62])] a)
def v0:cc:=Lz (λ_=>([0],[1])) (λ_=>.nil) (λ_=>0) (λ_=>.nil) (λ_=>[]) (λ_=>rfl) (λ_=>⟨rfl,rfl⟩) (λ_=>rfl) (λ_ _ h=>nomatch h)
def c0(w:World)(H:Heap):Cx:={prog:=PG n,w:=w,base:=jW ee H,T:=TB,mc:=MC,nm:=n,fnA:=bK iF,clA:=bK cj,biV:=λk=>aa (Nat.blt k 14) (ie k) .none,tabs:=pg,tq:=Mr,ρ:=v0.ρ,seg:=v0.seg,ρe:=v0.ρe,ρd:=v0.ρd,ρt:=v0.ρt,ρz:=v0.ρz}
def cy(O:Nat->List V->HT->Option (Nat×R0)):Tb:={TB with O:=O}
theorem KL:∀P,aZ (λa=>(wK P).get a) (co 0 728)=aZ (λa=>some (bv oT P a)) (co 0 728):=λP=>by kernel_rfl
theorem G7:∀P,aZ (λa=>(bv oT P a).isFreed) (co 0 728)=aZ (λ_=>false) (co 0 728):=λP=>by kernel_rfl
abbrev bu(P:Params)(H:Heap):Prop:=∀b o,(HF P).get? b=some o->H.get? b=some o
theorem eP{P:Params}{H:Heap}(Y:bu P H){a:Nat}(h:aa (Nat.blt a 728) (eJ a ee) true=false):(jW ee H).get? a=some (bv oT P a):=by
 have lt:Nat.blt a 728=true:=by cases e:Nat.blt a 728 with|true=>rfl|false=>rw[e] at h;exact tf h
 rw[lt] at h
 have m:a∈co 0 728:=na (n:=a) (by rw[jo,aG (cF lt),dU])
 exact(rC λq=>tf ((me.mpr q).symm.trans (show eJ a ee=false from h))).trans (Y _ _ (Kl (bU (KL P) a m) (cF lt) (bU (G7 P) a m)))
theorem U5:aZ (λa=>aa (Nat.blt a 728) (eJ a ee) true) Ct=aZ (λ_=>false) Ct:=by kernel_rfl
theorem XD{P:Params}{H:Heap}(Y:bu P H):(KF P).In (jW ee H):=λa o e=>by
 obtain⟨h1,h2⟩:=Sn e
 exact h2▸eP Y (bU U5 a h1)
abbrev cX(w:World)(H:Heap)(O:Nat->List V->HT->Option (Nat×R0))(b:Nat->Value)(v:cc):Cx:=(c0 w H).vw (cy O) b v
theorem X8:Ae ((iW nk).map (·.2))=true:=by kernel_rfl
theorem UZ:A4 (iW nk)=true:=by kernel_rfl
theorem O9(i j:Nat)(h:n i=n j):i=j:=UU X8 UZ i j h
theorem SP(i:Nat):(n i==("__debug__" :Str))=false:=beq_false_of_ne λe=>Bj (t:=nk) (s:=[95,95,100,101,98,117,103,95,95]) (by kernel_rfl) (by kernel_rfl) i (e.trans (by kernel_rfl))
theorem Oa(i:Nat):(n i==("__classdict__" :Str))=false:=beq_false_of_ne λe=>Bj (t:=nk) (s:=[95,95,99,108,97,115,115,100,105,99,116,95,95]) (by kernel_rfl) (by kernel_rfl) i (e.trans (by kernel_rfl))
theorem BC(i:Nat):(n i==("super" :Str))=false:=beq_false_of_ne λe=>Bj (t:=nk) (s:=[115,117,112,101,114]) (by kernel_rfl) (by kernel_rfl) i (e.trans (by kernel_rfl))
section
variable{w:World}{H:Heap}{O:Nat->List V->HT->Option (Nat×R0)}{b:Nat->Value}{v:cc}
def FQ(l:List (Option Cl)):Nat->List (Nat×Cl):=List.rec (motive:=λ_=>Nat->List (Nat×Cl)) (λ_=>[]) (λo _ ih k=>Option.rec (ih (Nat.succ k)) (λc=>(k,c)::ih (Nat.succ k)) o) l
theorem EW{c:Cl}:∀(l:List (Option Cl)) (k i:Nat),aj l i=some (some c)->(k+i,c)∈FQ l k
 |[],_,_,h=>ns h
 |o::r,k,0,h=>by obtain rfl:=af h;exact .head _
 |o::r,k,i+1,h=>by
  have:=EW r (Nat.succ k) i h
  rw[show Nat.succ k+i=k+(i+1) by omega] at this
  cases o with
  |none=>exact this
  |some=>exact .tail _ this
def jQ:List (Nat×Cl):=FQ CL 0
def zK(m:Nat):List Nat:=List.rec [] (λa _ ih=>aa (lA m a) (a::ih) ih) (co 0 200)
theorem UG:∀P,aZ (λq:Nat×Cl=>(plainGet (KF P) (bK cj q.1) "",hasDictIn (KF P) (bK cj q.1),plainOver (KF P) (bK cj q.1),keepIn (KF P) (.ref (bK cj q.1)),makesIn (KF P) (bK cj q.1))) jQ=aZ (λ_=>(true,true,true,true,true)) jQ:=λP=>by kernel_rfl
theorem P7:∀P,aZ (λq:Nat×Cl=>(findIn (KF P) (.ref (bK cj q.1)) "__setattr__",findIn (KF P) (.ref (bK cj q.1)) "__init__",typeIn (KF P) (.ref (bK iF q.2.init)))) jQ=aZ (λq=>(some (some (.builtin "object.__setattr__")),some (some (.ref (bK iF q.2.init))),some (.type "function"))) jQ:=λP=>by kernel_rfl
theorem Qc:∀P,aZ (λq:Nat×Cl=>aZ (λa=>findIn (KF P) (.ref (bK cj q.1)) (n a)) (zK q.2.am)) jQ=aZ (λq=>aZ (λ_=>some none) (zK q.2.am)) jQ:=λP=>by kernel_rfl
theorem SJ:aZ (λq:Nat×Cl=>H6 q.2.am (zK q.2.am)) jQ=aZ (λ_=>true) jQ:=by kernel_rfl
theorem Rj:∀P,aZ (λq:Nat×Cl=>aZ (λr:Nat×Nat=>(findIn (KF P) (.ref (bK cj q.1)) (n r.1),typeIn (KF P) (.ref (bK iF r.2)))) q.2.meth) jQ=aZ (λq=>aZ (λr=>(some (some (.ref (bK iF r.2))),some (.type "function"))) q.2.meth) jQ:=λP=>by kernel_rfl
theorem qK{k:Nat}{cl:Cl}(h:(cy O).cls k=some cl):uv (cX w H O b v) (KF w.params) k cl:=by
 have q:(k,cl)∈jQ:=by have:=EW CL 0 k (VA h);rwa [dU] at this
 have h:=bU (UG w.params) _ q
 have s:=bU (P7 w.params) _ q
 have m:∀x f,au cl.meth x=some f->_:=λx f e=>bU (bU (Rj w.params) _ q) (x,f) (nZ e)
 exact⟨aq (·.1) h,aq (·.2.1) h,aq (·.1) s,aq (·.2.2.1) h,aq (·.2.2.2.1) h,aq (·.2.2.2.2) h,aq (·.2.1) s,λx hb=>bU (bU (Qc w.params) _ q) x (Zh (bU SJ _ q) hb),λx f e=>aq Prod.fst (m x f e),aq (·.2.2) s,λx f e=>aq Prod.snd (m x f e)⟩
theorem Su:∀P,aZ (λa=>keepIn (KF P) (.ref a)) iF=aZ (λ_=>true) iF:=λP=>by kernel_rfl
def gL:List Dn:=[g0,g1,g2,g3,g4,g5,g6,g7,g8,g9,uT,sq,qD,sS,uK,sY,sV,rX,r4,sP,uh,uY,tc,se,rT,uI,uQ,rS,ux,ur,rH,sH,sT,tS,uM,u6,rJ,uV,ub,sN,qE,uN,qm,u0,tK,vp,uA,sG,sL,uk,sM,tz,uO,um,tE,sx,ti,u9,tx,sD,rZ,uC,s0,tV,uL,vl,r9,uj,tN,r6,sI,tG,pV,oA,oh,tw,tj,nH]
def RL:List (Nat×Dn):=rV (co 0 78) gL
def lJ(r:Nat×Dn):Nat:=Nat.sub (bK iF r.1) 1
def D4(a:Nat):Bool:=aa (Nat.blt a 728) (eJ a ee) true
def Cf(o:Obj):Option Value:=match o.data with|.fields vs=>vs[1]? |_=>none
def Bg(v:Option Value):Option Str:=match v with|some (.str s _)=>some s|_=>none
def wH(r:Nat×Dn):Bool:=match r.2.df with|.none=>List.rec true (λ_ _ _=>false) r.2.f.df|_=>false
theorem Zv{o:Obj}{s:Str}(h:Bg (Cf o)=some s):∃vs t,o.data=.fields vs/\vs[1]?=some (.str s t):=by
 unfold Cf at h
 cases e:o.data with
 |fields vs=>
  rw[e] at h
  have h:Bg vs[1]?=some s:=h
  cases q:vs[1]? with
  |none=>rw[q] at h;exact ns h
  |some v=>
   rw[q] at h
   cases v with
   |str s' t=>obtain rfl:=af h;exact⟨vs,t,rfl,q⟩
   |_=>exact ns h
 |_=>rw[e] at h;exact ns h
theorem XI:aZ (λr:Nat×Dn=>aj gL r.1) RL=aZ (λr=>some r.2) RL:=by kernel_rfl
theorem RY:iW uo=aZ (λr:Nat×Dn=>(r.1,r.2.f)) RL:=by kernel_rfl
theorem VH:∀P,aZ (λr:Nat×Dn=>bv oT P (bK iF r.1)) RL=aZ (λr=>o1 r.2 (lJ r)) RL:=λP=>by kernel_rfl
theorem Q5:∀P,aZ (λr:Nat×Dn=>Bg (Cf (bv oT P (lJ r)))) RL=aZ (λr=>some (n r.2.y)) RL:=λP=>by kernel_rfl
theorem Xe:aZ (λr:Nat×Dn=>(D4 (bK iF r.1),D4 (lJ r))) RL=aZ (λ_=>(false,false)) RL:=by kernel_rfl
theorem Rq:aZ (λr:Nat×Dn=>EZ r.2.f (aZ (ID r.2.p) r.2.ar)) RL=aZ (λ_=>true) RL:=by kernel_rfl
theorem Vi:aZ (λr:Nat×Dn=>aa (eJ r.1 [1,12,30,36,40,42]) true (wH r)) RL=aZ (λ_=>true) RL:=by kernel_rfl
theorem VL:aZ (λr:Nat×Dn=>aa (eJ r.1 [72,73,74]) true (aa r.2.f.lm false true)) RL=aZ (λ_=>true) RL:=by kernel_rfl
theorem l8{k:Nat}{g g':Dn}(h:(k,g)∈RL)(e:aj gL k=some g'):g=g':=af ((bU XI _ h).symm.trans e)
theorem ZQ(Y:bu w.params H):∀r∈RL,∃od,lM (cX w H O b v) r.2.df r.2.f.df od:=λ⟨k,g⟩ h=>by
 have e:=bU Vi _ h
 cases m:eJ k [1,12,30,36,40,42] with
 |false=>
  have e:wH (k,g)=true:=by have e:aa (eJ k [1,12,30,36,40,42]) true (wH (k,g))=true:=e;rw[m] at e;exact e
  unfold wH at e
  cases q:g.df with
  |none=>
   have e:(match g.df with|.none=>List.rec true (λ_ _ _=>false) g.f.df|_=>false:Bool)=true:=e
   rw[q] at e
   show ∃od,lM (cX w H O b v) .none g.f.df od
   cases z:g.f.df with
   |nil=>exact⟨_,.none⟩
   |cons=>have e:(List.rec true (λ_ _ _=>false) g.f.df:Bool)=true:=e;rw[z] at e;exact ft e
  |_=>have e:(match g.df with|.none=>List.rec true (λ_ _ _=>false) g.f.df|_=>false:Bool)=true:=e;rw[q] at e;exact ft e
 |true=>
  have m:=me.mp m
  simp only[List.mem_cons,List.not_mem_nil,or_false] at m
  rcases m with rfl|rfl|rfl|rfl|rfl|rfl
  · obtain rfl:=l8 h (g':=g1) rfl;exact⟨_,.tup ((eP Y (a:=29) (by kernel_rfl)).trans (aq some (by kernel_rfl:bv oT w.params 29=ak [.int 0 208]))) λX μ h hX st=>.cons (⟨_,rfl⟩) (.nil)⟩
  · obtain rfl:=l8 h (g':=qD) rfl;exact⟨_,.tup ((eP Y (a:=170) (by kernel_rfl)).trans (aq some (by kernel_rfl:bv oT w.params 170=ak [.none]))) λX μ h hX st=>.cons (rfl) (.nil)⟩
  · obtain rfl:=l8 h (g':=rH) rfl;exact⟨_,.tup ((eP Y (a:=326) (by kernel_rfl)).trans (aq some (by kernel_rfl:bv oT w.params 326=ak [.int 0 670]))) λX μ h hX st=>.cons (⟨_,rfl⟩) (.nil)⟩
  · obtain rfl:=l8 h (g':=rJ) rfl;exact⟨_,.tup ((eP Y (a:=369) (by kernel_rfl)).trans (aq some (by kernel_rfl:bv oT w.params 369=ak [.int 0 753]))) λX μ h hX st=>.cons (⟨_,rfl⟩) (.nil)⟩
  · obtain rfl:=l8 h (g':=qE) rfl;exact⟨_,.tup ((eP Y (a:=413) (by kernel_rfl)).trans (aq some (by kernel_rfl:bv oT w.params 413=ak [.str (n 292) 815,.ref 412]))) λX μ h hX st=>.cons (⟨815,by kernel_rfl⟩) (.cons (uF rfl ((eP Y (a:=412) (by kernel_rfl)).trans (aq some (by kernel_rfl:bv oT w.params 412=ak []))) hX st .nil) (.nil))⟩
  · obtain rfl:=l8 h (g':=qm) rfl;exact⟨_,.tup ((eP Y (a:=456) (by kernel_rfl)).trans (aq some (by kernel_rfl:bv oT w.params 456=ak [.none]))) λX μ h hX st=>.cons (rfl) (.nil)⟩
theorem Vy:∀r∈RL,r.2.f.lm=true->∃P,(lJ r,P)∈pg/\n r.2.y++ ".<locals>." ++ "<lambda>" =Mr (lJ r):=λ⟨k,g⟩ h q=>by
 have e:=bU VL _ h
 cases m:eJ k [72,73,74] with
 |false=>have e:aa (eJ k [72,73,74]) true (aa g.f.lm false true)=true:=e;have q:g.f.lm=true:=q;rw[m,q] at e;exact ft e
 |true=>
  have m:=me.mp m
  simp only[List.mem_cons,List.not_mem_nil,or_false] at m
  rcases m with rfl|rfl|rfl
  · obtain rfl:=l8 h (g':=pV) rfl;rw[(by kernel_rfl:lJ (72,pV)=697)];exact⟨695,.head _,by kernel_rfl⟩
  · obtain rfl:=l8 h (g':=oA) rfl;rw[(by kernel_rfl:lJ (73,oA)=702)];exact⟨700,.tail _ (.head _),by kernel_rfl⟩
  · obtain rfl:=l8 h (g':=oh) rfl;rw[(by kernel_rfl:lJ (74,oh)=707)];exact⟨705,.tail _ (.tail _ (.head _)),by kernel_rfl⟩
theorem Pj(Y:bu w.params H){k:Nat}{f:Fn}(h:dn uo k=some f):CU (cX w H O b v) k f:=by
 have m:=CM uo h
 rw[RY,zf] at m
 obtain⟨r,hr,e⟩:=List.mem_map.mp m
 obtain⟨rfl,rfl⟩:=Prod.mk.inj e
 obtain⟨vs,t,h3,h4⟩:=Zv (bU (Q5 w.params) r hr)
 obtain⟨a1,a2⟩:=Prod.mk.inj (bU Xe r hr)
 obtain⟨od,hd⟩:=ZQ (O:=O) (b:=b) (v:=v) Y r hr
 exact PX (c:=cX w H O b v) (a:=bK iF r.1) (cd:=lJ r) rfl ((eP Y a1).trans (aq some (bU (VH w.params) r hr))) (eP Y a2) h3 h4 hd (bU Rq r hr) (Vy r hr)
def fk(P:Params):List DictEntry:=match (bv oT P 3).data with|.dict ⟨l⟩ _=>l|_=>[]
def iQ(P:Params):List DictEntry:=match (bv oT P 0).data with|.dict ⟨l⟩ _=>l|_=>[]
def xh(P:Params):List DictEntry:=match (bv oT P 2).data with|.dict ⟨l⟩ _=>l|_=>[]
theorem NN:∀P,rW (fk P)=true:=λP=>by kernel_rfl
theorem RS:∀P,rW (iQ P)=true:=λP=>by kernel_rfl
theorem RA:∀P,rW (xh P)=true:=λP=>by kernel_rfl
def zS(o:Obj):Nat:=match o.data with|.dict _ e=>e|_=>0
theorem Zu:∀P,(bv oT P 3).data=.dict ⟨fk P⟩ (zS (bv oT P 3)):=λP=>by kernel_rfl
theorem Q1:∀P,(bv oT P 0).data=.dict ⟨iQ P⟩ (zS (bv oT P 0)):=λP=>by kernel_rfl
theorem W3:∀P,(bv oT P 2).data=.dict ⟨xh P⟩ (zS (bv oT P 2)):=λP=>by kernel_rfl
theorem zZ{P:Params}{H:Heap}(Y:bu P H):(jW ee H).Ns mainGlobals (nsFind ⟨fk P⟩):=Cq (eP Y (by kernel_rfl)) (Zu P) (NN P)
theorem G6{P:Params}{H:Heap}(Y:bu P H):(jW ee H).Ns builtinsNs (nsFind ⟨iQ P⟩):=Cq (eP Y (by kernel_rfl)) (Q1 P) (RS P)
theorem OI{P:Params}{H:Heap}(Y:bu P H):(jW ee H).Ns cStatics (nsFind ⟨xh P⟩):=Cq (eP Y (by kernel_rfl)) (W3 P) (RA P)
theorem zm:∀P,nsFind ⟨xh P⟩ "sys.recursionlimit" =none:=λP=>by kernel_rfl
theorem Yo:∀P,nsFind ⟨fk P⟩ (n 18)=some (.str (n 225) 304):=λP=>by kernel_rfl
theorem WT(Y:bu w.params H)(hb:gk (c0 w H) b):mN (cX w H O b v) (nsFind ⟨fk w.params⟩) (nsFind ⟨iQ w.params⟩) 18 (.str [39,115,116,97,116,105,99]):=⟨⟨.str (n 225) 304,.inl (Yo w.params),λX μ h hX st=>⟨304,by kernel_rfl⟩⟩⟩
theorem NH:∀P,nsFind ⟨fk P⟩ (n 43)=some (.ref 91):=λP=>by kernel_rfl
theorem O8(Y:bu w.params H)(hb:gk (c0 w H) b):mN (cX w H O b v) (nsFind ⟨fk w.params⟩) (nsFind ⟨iQ w.params⟩) 43 (.cons (.str [105,56]) (.cons (.str [105,49,54]) (.cons (.str [105,51,50]) (.cons (.str [105,54,52]) (.cons (.str [117,56]) (.cons (.str [117,49,54]) (.cons (.str [117,51,50]) (.cons (.str [117,54,52]) (.cons (.str [117,115,105,122,101]) (.nil)))))))))):=⟨⟨.ref 91,.inl (NH w.params),λX μ h hX st=>uF rfl ((eP Y (a:=91) (by kernel_rfl)).trans (aq some (by kernel_rfl:bv oT w.params 91=ak [.str (n 235) 294,.str (n 236) 295,.str (n 237) 296,.str (n 238) 297,.str (n 156) 298,.str (n 239) 299,.str (n 240) 300,.str (n 241) 301,.str (n 242) 302]))) hX st (.cons (⟨294,by kernel_rfl⟩) (.cons (⟨295,by kernel_rfl⟩) (.cons (⟨296,by kernel_rfl⟩) (.cons (⟨297,by kernel_rfl⟩) (.cons (⟨298,by kernel_rfl⟩) (.cons (⟨299,by kernel_rfl⟩) (.cons (⟨300,by kernel_rfl⟩) (.cons (⟨301,by kernel_rfl⟩) (.cons (⟨302,by kernel_rfl⟩) (.nil))))))))))⟩⟩
theorem YW:∀P,nsFind ⟨fk P⟩ (n 28)=some (.int 10000 306):=λP=>by kernel_rfl
theorem WE(Y:bu w.params H)(hb:gk (c0 w H) b):mN (cX w H O b v) (nsFind ⟨fk w.params⟩) (nsFind ⟨iQ w.params⟩) 28 (.int 10000):=⟨⟨.int 10000 306,.inl (YW w.params),λX μ h hX st=>⟨306,rfl⟩⟩⟩
theorem UV:∀P,nsFind ⟨fk P⟩ (n 79)=some (.ref 196):=λP=>by kernel_rfl
theorem Qd(Y:bu w.params H)(hb:gk (c0 w H) b):mN (cX w H O b v) (nsFind ⟨fk w.params⟩) (nsFind ⟨iQ w.params⟩) 79 (.cons (.str [105,56]) (.cons (.str [105,49,54]) (.cons (.str [105,51,50]) (.cons (.str [105,54,52]) (.cons (.str [117,56]) (.cons (.str [117,49,54]) (.cons (.str [117,51,50]) (.cons (.str [117,54,52]) (.cons (.str [117,115,105,122,101]) (.cons (.str [98,111,111,108]) (.cons (.str [66,111,120]) (.nil)))))))))))):=⟨⟨.ref 196,.inl (UV w.params),λX μ h hX st=>uF rfl ((eP Y (a:=196) (by kernel_rfl)).trans (aq some (by kernel_rfl:bv oT w.params 196=ak [.str (n 235) 294,.str (n 236) 295,.str (n 237) 296,.str (n 238) 297,.str (n 156) 298,.str (n 239) 299,.str (n 240) 300,.str (n 241) 301,.str (n 242) 302,.str (n 267) 473,.str (n 268) 474]))) hX st (.cons (⟨294,by kernel_rfl⟩) (.cons (⟨295,by kernel_rfl⟩) (.cons (⟨296,by kernel_rfl⟩) (.cons (⟨297,by kernel_rfl⟩) (.cons (⟨298,by kernel_rfl⟩) (.cons (⟨299,by kernel_rfl⟩) (.cons (⟨300,by kernel_rfl⟩) (.cons (⟨301,by kernel_rfl⟩) (.cons (⟨302,by kernel_rfl⟩) (.cons (⟨473,by kernel_rfl⟩) (.cons (⟨474,by kernel_rfl⟩) (.nil))))))))))))⟩⟩
theorem RH:∀P,nsFind ⟨fk P⟩ (n 82)=some (.ref 194):=λP=>by kernel_rfl
theorem ON(Y:bu w.params H)(hb:gk (c0 w H) b):mN (cX w H O b v) (nsFind ⟨fk w.params⟩) (nsFind ⟨iQ w.params⟩) 82 (.cons (.str [99,114,97,116,101]) (.cons (.str [115,101,108,102]) (.cons (.str [115,117,112,101,114]) (.nil)))):=⟨⟨.ref 194,.inl (RH w.params),λX μ h hX st=>uF rfl ((eP Y (a:=194) (by kernel_rfl)).trans (aq some (by kernel_rfl:bv oT w.params 194=ak [.str (n 265) 469,.str (n 4) 470,.str (aW [115,117,112,101,114]) 471]))) hX st (.cons (⟨469,by kernel_rfl⟩) (.cons (⟨470,by kernel_rfl⟩) (.cons (⟨471,by kernel_rfl⟩) (.nil))))⟩⟩
theorem UN:∀P,nsFind ⟨fk P⟩ (n 101)=some (.int 30 467):=λP=>by kernel_rfl
theorem UW(Y:bu w.params H)(hb:gk (c0 w H) b):mN (cX w H O b v) (nsFind ⟨fk w.params⟩) (nsFind ⟨iQ w.params⟩) 101 (.int 30):=⟨⟨.int 30 467,.inl (UN w.params),λX μ h hX st=>⟨467,rfl⟩⟩⟩
theorem O5:∀P,nsFind ⟨fk P⟩ (n 94)=some (.ref 193):=λP=>by kernel_rfl
theorem XS(Y:bu w.params H)(hb:gk (c0 w H) b):mN (cX w H O b v) (nsFind ⟨fk w.params⟩) (nsFind ⟨iQ w.params⟩) 94 (.cons (.str [67,108,111,110,101]) (.cons (.str [67,111,112,121]) (.cons (.str [68,101,102,97,117,108,116]) (.cons (.str [68,114,111,112]) (.cons (.str [69,114,114]) (.cons (.str [78,111,110,101]) (.cons (.str [79,107]) (.cons (.str [79,112,116,105,111,110]) (.cons (.str [82,97,110,103,101,56]) (.cons (.str [82,101,115,117,108,116]) (.cons (.str [83,111,109,101]) (.cons (.str [86,101,99,56]) (.cons (.str [115,119,97,112,112,101,100]) (.nil)))))))))))))):=⟨⟨.ref 193,.inl (O5 w.params),λX μ h hX st=>uF rfl ((eP Y (a:=193) (by kernel_rfl)).trans (aq some (by kernel_rfl:bv oT w.params 193=ak [.str (n 252) 453,.str (n 253) 454,.str (n 254) 455,.str (n 255) 456,.str (n 256) 457,.str (n 257) 458,.str (n 258) 459,.str (n 259) 460,.str (n 260) 461,.str (n 261) 462,.str (n 262) 463,.str (n 263) 464,.str (n 264) 465]))) hX st (.cons (⟨453,by kernel_rfl⟩) (.cons (⟨454,by kernel_rfl⟩) (.cons (⟨455,by kernel_rfl⟩) (.cons (⟨456,by kernel_rfl⟩) (.cons (⟨457,by kernel_rfl⟩) (.cons (⟨458,by kernel_rfl⟩) (.cons (⟨459,by kernel_rfl⟩) (.cons (⟨460,by kernel_rfl⟩) (.cons (⟨461,by kernel_rfl⟩) (.cons (⟨462,by kernel_rfl⟩) (.cons (⟨463,by kernel_rfl⟩) (.cons (⟨464,by kernel_rfl⟩) (.cons (⟨465,by kernel_rfl⟩) (.nil))))))))))))))⟩⟩
def NQ(v:V):Option Value:=match v with|.fn k=>some (.ref (bK iF k))|.cls k=>some (.ref (bK cj k))|_=>none
def JL(v:V):Option Value:=match v with|.bi k=>some (ie k)|_=>none
def Ph(v:V):Bool:=match v with|.bi k=>Nat.blt k 14|_=>true
def xK(v:V):Bool:=match v with|.bi _=>false|.fn _=>false|.cls _=>false|_=>true
def gQ:List (Nat×V):=iW jP
theorem Wv:∀P,aZ (λq:Nat×V=>aa (xK q.2) none (nsFind ⟨fk P⟩ (n q.1))) gQ=aZ (λq=>NQ q.2) gQ:=λP=>by kernel_rfl
theorem P9:∀P,aZ (λq:Nat×V=>Option.rec (motive:=λ_=>Option Value) none (λ_=>nsFind ⟨iQ P⟩ (n q.1)) (JL q.2)) gQ=aZ (λq=>JL q.2) gQ:=λP=>by kernel_rfl
theorem Qx:aZ (λq:Nat×V=>(Ph q.2,aa (xK q.2) (eJ q.1 [18,28,43,79,82,94,101]) true)) gQ=aZ (λ_=>(true,true)) gQ:=by kernel_rfl
theorem Rn(Y:bu w.params H)(hb:gk (c0 w H) b){x:Nat}{y:V}(h:dn jP x=some y):mN (cX w H O b v) (nsFind ⟨fk w.params⟩) (nsFind ⟨iQ w.params⟩) x y:=by
 have m:(x,y)∈gQ:=CM jP h
 have e1:=bU (Wv w.params) _ m
 have e2:=bU (P9 w.params) _ m
 obtain⟨e3,e4⟩:=Prod.mk.inj (bU Qx _ m)
 cases hs:xK y with
 |true=>
  have e4:aa (xK y) (eJ x [18,28,43,79,82,94,101]) true=true:=e4
  rw[hs] at e4
  have m:=me.mp (show eJ x [18,28,43,79,82,94,101]=true from e4)
  simp only[List.mem_cons,List.not_mem_nil,or_false] at m
  rcases m with rfl|rfl|rfl|rfl|rfl|rfl|rfl
  · exact af ((show dn jP 18=some _ from rfl).symm.trans h)▸WT Y hb
  · exact af ((show dn jP 28=some _ from rfl).symm.trans h)▸WE Y hb
  · exact af ((show dn jP 43=some _ from rfl).symm.trans h)▸O8 Y hb
  · exact af ((show dn jP 79=some _ from rfl).symm.trans h)▸Qd Y hb
  · exact af ((show dn jP 82=some _ from rfl).symm.trans h)▸ON Y hb
  · exact af ((show dn jP 94=some _ from rfl).symm.trans h)▸XS Y hb
  · exact af ((show dn jP 101=some _ from rfl).symm.trans h)▸UW Y hb
 |false=>
  cases y with
  |fn k=>exact⟨⟨_,.inl e1,λ_ _ _ _ _=>rfl⟩⟩
  |cls k=>exact⟨⟨_,.inl e1,λ_ _ _ _ _=>rfl⟩⟩
  |bi k=>exact⟨⟨_,.inr ⟨e1,e2⟩,λ_ _ _ _ _=>(by show ie k=b k;rw[hb.lt k (cF e3)];show ie k=aa (Nat.blt k 14) (ie k) .none;rw[show Nat.blt k 14=true from e3];rfl)⟩⟩
  |_=>exact tf hs
theorem Ot:∀P,(bv oT P 4).cls=.type "module" :=λP=>by kernel_rfl
theorem V1:∀P,(bv oT P 4).dict=some builtinsNs:=λP=>by kernel_rfl
theorem V5:∀P,(bv oT P 4).data=.plain:=λP=>by kernel_rfl
theorem PB:∀P,nsFind ⟨fk P⟩ "__builtins__" =some (.ref 4):=λP=>by kernel_rfl
theorem T8:aZ (λq:Nat×Nat=>eJ q.2 ee) pg=aZ (λ_=>true) pg:=by kernel_rfl
theorem UP:lw (pg.map (·.2))=true:=by kernel_rfl
theorem yZ(Y:bu w.params H)(hb:gk (c0 w H) b):bp (cX w H O b v) (KF w.params) where
 kin:=XD Y
 inj:=O9
 nodebug:=SP
 noclass:=Oa
 nosuper:=BC
 glob:=λx y h=>by
  obtain⟨z,h1,h2⟩:=(Rn (O:=O) (v:=v) Y hb h).ex
  exact⟨_,_,z,zZ Y,G6 Y,h1,h2⟩
 attr:=λk cl a h hb=>(qK h).attr a hb
 meth:=λk cl a f h e=>(qK h).meth a f e
 bi:=λk h=>(hb.lt k h).trans (by show aa (Nat.blt k 14) (ie k) .none=ie k;rw[mQ h];rfl)
 opq:=hb.ge
 nolim:=⟨_,OI Y,zm w.params⟩
 bmain:=⟨_,4,_,zZ Y,PB w.params,by decide,by decide,eP Y (by kernel_rfl),Ot w.params,V1 w.params,V5 w.params⟩
 tabB:=λq hq=>J4 (me.mp (bU T8 q hq))
 tabI:=λq hq q' gM e=>Ug (yn UP) hq gM e
 fn:=λk f h=>Pj Y h
 keepF:=λk h=>bU (Su w.params) (bK iF k) (V9 h)
 make:=λk cl h=>⟨(qK h).kp,(qK h).mks,(qK h).i,(qK h).it⟩
def pF(i:Nat):Nat:=bK [8008008017,8008008026,8027008031,8033008040,8008008041,8008008041,9008009012,9008009020,9023009030,9008009030,10008010012,10008010017,10020010024,10008010024] i
theorem iT:∀P,typeIn (KF P) (.ref 36)=some (.type "function"):=λP=>by kernel_rfl
theorem Vs:∀P,nsFind ⟨fk P⟩ (n 5)=none:=λP=>by kernel_rfl
theorem YJ:∀P,nsFind ⟨iQ P⟩ (n 5)=some (.type "Exception"):=λP=>by kernel_rfl
theorem xI:n 6= "__init__" :=by kernel_rfl
theorem RD:bO (λk=>bO (λd=>aa (TB.sub k d).isSome (aa (Nat.blt k 5) (Nat.blt d 5) false) true) 14) 14=true:=by kernel_rfl
theorem PY:∀P,aZ (λq:Nat×Nat=>mroIn (KF P) (bK cj q.1) (.ref (bK cj q.2))) [(0,0),(0,1),(0,2),(0,3),(0,4),(1,0),(1,1),(1,2),(1,3),(1,4),(2,0),(2,1),(2,2),(2,3),(2,4),(3,0),(3,1),(3,2),(3,3),(3,4),(4,0),(4,1),(4,2),(4,3),(4,4)]=aZ (λq:Nat×Nat=>TB.sub q.1 q.2) [(0,0),(0,1),(0,2),(0,3),(0,4),(1,0),(1,1),(1,2),(1,3),(1,4),(2,0),(2,1),(2,2),(2,3),(2,4),(3,0),(3,1),(3,2),(3,3),(3,4),(4,0),(4,1),(4,2),(4,3),(4,4)]:=λP=>by kernel_rfl
theorem iZ{k d:Nat}{x:Bool}(h:TB.sub k d=some x):k<5/\d<5:=by
 have hk:k<14:=by
  refine Nat.lt_of_not_le λq=>?_
  have e:aj n7 k=none:=by rw[de];exact List.getElem?_eq_none q
  have h:(aj n7 k).bind _=some x:=h
  rw[e] at h;exact ns h
 have hd:d<14:=by
  refine Nat.lt_of_not_le λq=>?_
  have e:aj n7 d=none:=by rw[de];exact List.getElem?_eq_none q
  obtain⟨l,_,h⟩:=Option.bind_eq_some_iff.mp (show(aj n7 k).bind _=some x from h)
  cases c:Nat.beq (len l) 0 with
  |true=>rw[c] at h;exact ns h
  |false=>
   rw[c] at h
   have h:(aj n7 d).bind _=some x:=h
   rw[e] at h;exact ns h
 have:=bZ (bZ RD k hk) d hd
 rw[h] at this
 exact⟨cF (aO (show aa (Nat.blt k 5) (Nat.blt d 5) false=true from this)).1,cF (aO (show aa (Nat.blt k 5) (Nat.blt d 5) false=true from this)).2⟩
structure Xr where
 x:Nat
 N:Nat
 bs:List Value
 bm:List Value
 sub:List Value
 a:Nat
 t:Nat
 u:Nat
def xR(k:Nat):Xr:=Option.rec ⟨0,0,[],[],[],0,0,0⟩ (λr=>r) (aj [⟨197,38,[.type fb],[.type fb,.type il,.type cN],[.ref 52,.ref 64,.ref 76,.ref 88],22,196,204⟩,⟨17,51,[.ref 39],[.ref 39,.type fb,.type il,.type cN],[],43,228,236⟩,⟨97,63,[.ref 39],[.ref 39,.type fb,.type il,.type cN],[],55,244,252⟩,⟨29,75,[.ref 39],[.ref 39,.type fb,.type il,.type cN],[],67,260,268⟩,⟨142,87,[.ref 39],[.ref 39,.type fb,.type il,.type cN],[],79,276,284⟩] k)
def xD(k:Nat):Hx:={ini:=1,f:=yi,sl:=4,xE:=5,aI:=6,p:=pF,nm:=n (xR k).x,q:=n (xR k).x,N:=(xR k).N,bs:=(xR k).bs,bm:=(xR k).bm,hdct:=true,sn:=[],sub:=(xR k).sub,ab:=false,col:=none,dd:=none,k0:=some (.ref (xR k).a),k1:=none,k2:=some (.str (n (xR k).x) (xR k).t),k3:=some (.str (n (xR k).x) (xR k).u),k5:=some (.bool true)}
def xk:List Nat:=co 0 5
theorem kY{k:Nat}(h:k<5):k∈xk:=na (n:=k) (by unfold xk;rw[jo,aG h,dU])
theorem Km:∀P,aZ (λk=>bv oT P (bK cj k)) xk=aZ (λk=>excClassObj (xD k).nm (xD k).q (bK cj k) (xD k).N (xD k).bs (xD k).bm (xD k).hdct (xD k).sn (xD k).sub (xD k).ab (xD k).col (xD k).dd (xD k).k0 (xD k).k1 (xD k).k2 (xD k).k3 (xD k).k5 "Exception.__new__") xk:=λP=>by kernel_rfl
theorem pf:∀P,aZ (λk=>(findIn (KF P) (.ref (bK cj k)) "__init__",findIn (KF P) (.ref (bK cj k)) "__setattr__",wY (KF P) (bK cj k),hasDictIn (KF P) (bK cj k),mroIn (KF P) (bK cj k) (.type "Exception"),findIn (KF P) (.ref (bK cj k)) "__getattribute__",findIn (KF P) (.ref (bK cj k)) "__getattr__",keepIn (KF P) (.ref (bK cj k)),mroIn (KF P) (bK cj k) (.type "BaseException"),typeIn (KF P) (.ref (bK cj k)))) xk
 =aZ (λ_=>(some (some (.ref 36)),some (some (.builtin "object.__setattr__")),true,true,some true,some (some (.builtin "BaseException.__getattribute__")),some none,true,some true,some (.type "type"))) xk:=λP=>by kernel_rfl
theorem FI:∀P,aZ (λk=>aZ (λx=>findIn (KF P) (.ref (bK cj k)) (n x)) [0,1]) xk=aZ (λ_=>aZ (λ_=>some none) [0,1]) xk:=λP=>by kernel_rfl
theorem GZ:aZ (λk=>aa (Nat.blt (bK cj k) 728) (eJ (bK cj k) ee) true) xk=aZ (λ_=>false) xk:=by kernel_rfl
theorem Cj:aZ (λk=>((xD k).bm.contains (.type "Exception"),(xD k).bm.contains (.type "AttributeError"),(xD k).bm.contains (.type "NameError"))) xk=aZ (λ_=>(true,false,false)) xk:=by kernel_rfl
theorem It(Y:bu w.params H):∀k,k<5->xu (cX w H O b v) (KF w.params) k:=λk h=>by
 have m:=kY h
 have q:=bU (pf w.params) k m
 have a:∀x,x∈[0,1]->_:=bU (bU (FI w.params) k m)
 have s:∀x,x∈[0,1]->oE (KF w.params) (bK cj k) (n x):=λx hx=>⟨aq (·.2.1) q,aq (·.2.2.1) q,by unfold takerIn;rw[a x hx];rfl,aq (·.2.2.2.1) q⟩
 have hC:=(eP Y (bU GZ k m)).trans (aq some (bU (Km w.params) k m))
 exact⟨xD k,{hC:=hC,c1:=aq (·.1) (bU Cj k m),c2:=aq (·.2.1) (bU Cj k m),c3:=aq (·.2.2) (bU Cj k m),hi:=aq (·.1) q,ht:=iT w.params,hf:=(by kernel_rfl:dn uo 1=some yi),hps:=by kernel_rfl,hbody:=by kernel_rfl,hcs:=by kernel_rfl,a0:=by kernel_rfl,a1:=by kernel_rfl,a2:=by kernel_rfl,a3:=by kernel_rfl,hl:=by kernel_rfl,F0:=s 0 (.head _),F1:=s 1 (.tail _ (.head _)),hb:=aq (·.2.2.2.2.1) q,gE:=⟨_,_,zZ Y,G6 Y,Vs w.params,YJ w.params⟩,nI:=xI}⟩
theorem Yw:∀k,k<5->keepIn (KF w.params) (.ref (bK cj k))=true:=λk h=>aq (·.2.2.2.2.2.2.2.1) (bU (pf w.params) k (kY h))
theorem GH:∀k,k<5->mroIn (KF w.params) (bK cj k) (.type "BaseException")=some true:=λk h=>aq (·.2.2.2.2.2.2.2.2.1) (bU (pf w.params) k (kY h))
theorem QH:∀k,k<5->typeIn (KF w.params) (.ref (bK cj k))=some (.type "type"):=λk h=>aq (·.2.2.2.2.2.2.2.2.2) (bU (pf w.params) k (kY h))
theorem QF:∀k,k<5->findIn (KF w.params) (.ref (bK cj k)) "__getattribute__" =some (some (.builtin "BaseException.__getattribute__")):=λk h=>aq (·.2.2.2.2.2.1) (bU (pf w.params) k (kY h))
theorem Xp:∀k,k<5->findIn (KF w.params) (.ref (bK cj k)) "__getattr__" =some none:=λk h=>aq (·.2.2.2.2.2.2.1) (bU (pf w.params) k (kY h))
theorem N0:∀k,k<5->(wY (KF w.params) (bK cj k),hasDictIn (KF w.params) (bK cj k))=(true,true):=λk h=>aq (λq=>(q.2.2.1,q.2.2.2.1)) (bU (pf w.params) k (kY h))
theorem Oj:∀k,k<5->aZ (λx=>findIn (KF w.params) (.ref (bK cj k)) (n x)) [0,1]=aZ (λ_=>some none) [0,1]:=λk h=>bU (FI w.params) k (kY h)
theorem NG(Y:bu w.params H):∀k,k<5->∃oc cd,(jW ee H).get? (bK cj k)=some oc/\oc.data=.cls cd:=λk h=>⟨_,_,(eP Y (bU GZ k (kY h))).trans (aq some (bU (Km w.params) k (kY h))),rfl⟩
theorem Wg:∀k,k<5->∀d,d<5->(k,d)∈[(0,0),(0,1),(0,2),(0,3),(0,4),(1,0),(1,1),(1,2),(1,3),(1,4),(2,0),(2,1),(2,2),(2,3),(2,4),(3,0),(3,1),(3,2),(3,3),(3,4),(4,0),(4,1),(4,2),(4,3),(4,4)]:=by decide
theorem YC:∀{a:Nat},a<=1->a∈[0,1]
 |0,_=>.head _
 |1,_=>.tail _ (.head _)
 |a+2,h=>aV h (by omega)
theorem Es(Y:bu w.params H):nL (cX w H O b v) (KF w.params) where
 keep:=λk d x h=>Yw k (iZ h).1
 cls:=λk d x h=>NG Y d (iZ h).2
 sub:=λk d x h=>⟨GH d (iZ h).2,GH k (iZ h).1,QH d (iZ h).2,(bU (PY w.params) (k,d) (Wg k (iZ h).1 d (iZ h).2)).trans h⟩
 attr:=λk d x h a ha=>⟨QF k (iZ h).1,Xp k (iZ h).1,aq Prod.snd (N0 k (iZ h).1),none,bU (Oj k (iZ h).1) a (YC ha),rfl⟩
theorem WI:aZ (λq:Nat×Nat=>aa (Nat.blt q.2 6) (n q.1) (ir 0)) [(54,0),(14,1),(72,2),(118,3),(98,4),(92,5),(58,6)]=aZ (λq:Nat×Nat=>aa (Nat.blt q.2 6) (ir q.2) (ir 0)) [(54,0),(14,1),(72,2),(118,3),(98,4),(92,5),(58,6)]:=by kernel_rfl
theorem Y9:qz (cX w H O b v):=λa k h lt=>by
 have:=bU WI (a,k) (nZ (show au Jw a=some k from h))
 have this:aa (Nat.blt k 6) (n a) (ir 0)=aa (Nat.blt k 6) (ir k) (ir 0):=this
 rw[mQ lt] at this
 exact this
theorem found(Y:bu w.params H):Bt (c0 w H) cy:=⟨λO=>rfl,λO b v hb Or m=>aac (c:=cX w H O b v) (yZ Y hb) (Es Y) (λk h=>It Y k (iZ h).1) Y9 Or m⟩
end
def O0:Nat->List V->HT->Option (Nat×R0):=λ_ _ _=>none
def TZ:Tb:=cy O0
abbrev cb(n:Nat):Ev:=ev TZ MC n
def lB(A B:Int)(t:Int):Int:=if 0<A then A%t else(B*39373+7)%2147483647*((B*39373+7)%2147483647)%2147483629/32%t
def gU(A:Int)(t:Int):Int:=if 0<A then A/t else A
def hG(A B:Int):Int:=if 0<A then B else(B*39373+7)%2147483647
theorem Ss(h0:0<=y)(h:y<2147483647):oZ y=true:=Nat.ble_eq_true_of_le (by omega)
def tv(A B t:Int)(d:Nat):En:=⟨64,[.loc 0,.int t],[.list [.int A,.int B]],[.arg 0],[],d,.ok (.int (lB A B t)),[(0,.list [.int (gU A t),.int (hG A B)])],[],[]⟩
def eg:Fr:=⟨mX.sc,[],false⟩
def uc(A B:Int):HT:=hL [.list [.int A,.int B]]
def jd(A B t:Int):Sg:=⟨uc A B,[(148,.loc 0),(149,.int t)]⟩
def lP:S:=(aj mX.body 0).getD (.pass 0)
def sF:S:=(aj mX.body 1).getD (.pass 0)
def ku:S:=(aj mX.body 2).getD (.pass 0)
def oq(s:S):E:=match s with|.ifS c _ _ _=>c|.ret e _=>e|_=>.none 0
def vY(s:S):List S:=match s with|.ifS _ b _ _=>b|_=>[]
def i9(e:E):E:=match e with|.bin _ l _ _=>l|_=>.none 0
def jR(A B t:Int):Sg:=⟨pH (uc A B) 0 (.list [.int A,.int ((B*39373+7)%2147483647)]),[(148,.loc 0),(149,.int t)]⟩
theorem VQ(A B t:Int):(cb 9).eT (oq lP) eg (jd A B t)=.ok (decide (0<A)) (jd A B t):=by kernel_rfl
theorem PT(A B t:Int)(h:t=2\/t=3\/t=4\/t=6\/t=13):execs (cb 9) eg (vY lP) (jd A B t)=.ok (.ret (.int (A%t))) ⟨pH (uc A B) 0 (.list [.int (A/t),.int B]),[(148,.loc 0),(149,.int t),(150,.int (A%t))]⟩:=by
 rcases h with rfl|rfl|rfl|rfl|rfl<;>kernel_rfl
theorem Ts(A B t:Int):(cb 10).eS sF eg (jd A B t)=.ok .next (jR A B t):=by kernel_rfl
theorem Vf(A B t:Int):(cb 6).eE (i9 (i9 (i9 (oq ku)))) eg (jR A B t)=aa (oZ ((B*39373+7)%2147483647)) (.ok (.int ((B*39373+7)%2147483647*((B*39373+7)%2147483647))) (jR A B t)) .stuck:=by kernel_rfl
theorem OV(A B t:Int):(cb 7).eE (i9 (i9 (oq ku))) eg (jR A B t)=.ok (.int ((B*39373+7)%2147483647*((B*39373+7)%2147483647)%2147483629)) (jR A B t):=by
 have e:(cb 7).eE (i9 (i9 (oq ku))) eg (jR A B t)=((cb 6).eE (i9 (i9 (i9 (oq ku)))) eg (jR A B t)).bind λv s=>((cb 6).eE (.int 2147483629 492035492045) eg s).bind λw s=>sf .mod v w s:=by kernel_rfl
 rw[e,Vf,Ss (Int.emod_nonneg _ (by decide)) (Int.emod_lt_of_pos _ (by decide))]
 kernel_rfl
theorem Rt(A B t:Int)(h:t=2\/t=3\/t=4\/t=6\/t=13):(cb 10).eS ku eg (jR A B t)=.ok (.ret (.int ((B*39373+7)%2147483647*((B*39373+7)%2147483647)%2147483629/32%t))) (jR A B t):=by
 have e:(cb 10).eS ku eg (jR A B t)=((((cb 7).eE (i9 (i9 (oq ku))) eg (jR A B t)).bind λv s=>((cb 7).eE (.int 32 492049492051) eg s).bind λw s=>sf .fdiv v w s).bind λv s=>((cb 8).eE (.name 149 492054492057) eg s).bind λw s=>sf .mod v w s).bind λv s=>.ok (.ret v) s:=by kernel_rfl
 rw[e,OV]
 rcases h with rfl|rfl|rfl|rfl|rfl<;>kernel_rfl
theorem W8(A B t:Int)(h:t=2\/t=3\/t=4\/t=6\/t=13):kr (jk TZ (cb 10) 10 64 [.loc 0,.int t] ⟨uc A B,[]⟩)=some ((tv A B t 10).r.at (tv A B t 10).end):=by
 have e1:jk TZ (cb 10) 10 64 [.loc 0,.int t] ⟨uc A B,[]⟩=jf [] ((execs (cb 10) eg mX.body (jd A B t)).bind λfl s2=>Fl.rec (.ok .none s2) (λv=>.ok v s2) fl):=rfl
 have e2:execs (cb 10) eg mX.body (jd A B t)=((cb 10).eS lP eg (jd A B t)).bind λf s=>Fl.rec (((cb 10).eS sF eg s).bind λf s=>Fl.rec (((cb 10).eS ku eg s).bind λf s=>Fl.rec (.ok .next s) (λv=>.ok (.ret v) s) f) (λv=>.ok (.ret v) s) f) (λv=>.ok (.ret v) s) f:=rfl
 have e3:(cb 10).eS lP eg (jd A B t)=((cb 9).eT (oq lP) eg (jd A B t)).bind λb s=>aa b (execs (cb 9) eg (vY lP) s) (.ok .next s):=rfl
 rw[e1,e2,e3,VQ]
 unfold tv lB gU hG
 by_cases hA:0<A
 · rw[aG hA,aG hA,aG hA,decide_eq_true hA]
   show kr (jf [] (R.bind (R.bind (execs (cb 9) eg (vY lP) (jd A B t)) _) _))=_
   rw[PT A B t h]
   rfl
 · rw[ax hA,ax hA,ax hA,decide_eq_false hA]
   have e4:∀k:Fl->Sg->R Fl,(((R.ok false (jd A B t)).bind λb s=>aa b (execs (cb 9) eg (vY lP) s) (.ok .next s)).bind k)=k .next (jd A B t):=λ_=>rfl
   rw[e4]
   dsimp only
   rw[Ts]
   have e5:∀(s:Sg) (k:Fl->Sg->R Fl),(R.ok Fl.next s).bind k=k .next s:=λ_ _=>rfl
   rw[e5]
   dsimp only
   rw[Rt A B t h]
   rfl
section
variable{c:Cx}{X:Addr->Prop}{A:Around}{env:Env}{fr:Fr}{μ:Mu}{σ:Sg}{s:Shared}{E:Value->Shared->Prop}{n:Nat}{K:Frag}
structure pj(c:Cx)(l:Addr)(ns:List Int):Prop where
 b:c.biV 14=.ref l
 ex:∃vs:Array Value,c.base.IsList l vs/\ay (λ(i:Int) x=>∃t,x=.int i t) ns vs.toList/\(vs.size:Int)<2^63
theorem LK{h h':Heap}(x:h.IsList a its)(k:h.StaysIn h'):h'.IsList a its:=x.imp λo q=>⟨k _ _ q.1,q.2⟩
def cell(ns:List Int):Int:=match ns with|[]=>0|x::_=>x
def tX(p1 p2 p3 p4 p5 p6 p7 p8 p9 jH:Nat):Mine.E:=.ife (.cmp .gt (.call (.name 37 p1) [.name 143 p2] p3) (.int 0 p4) p5) (.sub (.name 143 p6) (.int 0 p7) p8) (.int 0 p9) jH
theorem Y1{l:Addr}{ns:List Int}(G:bp c K)(Sc:pj c l ns)(S:SE c n (ev c.T c.mc n).eE)(hn:0<n)(eo:aJ c n A env fr)(o:Ok c X A env fr μ σ s)(h1:au fr.sc 37=some 3)(h2:c.T.gl 37=some (.bi 0))(h3:au fr.sc 143=some 0)(h4:au σ.r 143=some (.bi 14))
 {p1 p2 p3 p4 p5 p6 p7 p8 p9 jH:Nat}{Q:Value->Shared->Prop}(h:ac c X A env fr (DV c X) μ s (.ok (.int (cell ns)) σ) Q E):wpAny c.M A (eval (an c.nm (tX p1 p2 p3 p4 p5 p6 p7 p8 p9 jH)) env) Q E s:=by
 obtain⟨vs,hv,hz,hs⟩:=Sc.ex
 have nm:∀(p:Nat) {μ:Mu} {s:Shared} (o:Ok c X A env fr μ σ s) {Q:Value->Shared->Prop},(∀av s',aK A env μ av s s'->Ok c X A env fr av σ s'->Q (.ref l) s')->wpAny c.M A (eval (an c.nm (.name 143 p)) env) Q E s:=λp {μ s} o {Q} k=>
  Ap G eo o (by
   show ac c X A env fr (DV c X) μ s (aX (au fr.sc 143) _) Q E
   rw[h3]
   rw[h4]
   exact λav s' y nx o' dv=>((dv).trans Sc.b)▸k av s' nx o')
 have big:∀{k:Nat},(vs.size:Int)=k->(k:Int)<2^63:=λe=>e▸hs
 show wpAny c.M A (eval (.IfExp (an c.nm (.cmp .gt (.call (.name 37 p1) [.name 143 p2] p3) (.int 0 p4) p5)) (an c.nm (.sub (.name 143 p6) (.int 0 p7) p8)) (an c.nm (.int 0 p9)) (aE jH)) env) Q E s
 rw[arm_eval_IfExp]
 refine ah (JY (vN ..) (wpAny_Compare1 ?_ (vN ..)))
 have hlen:ns.length=vs.size:=by have:=hz.length;rw[Array.length_toList] at this;exact this.symm
 refine Call_ (Ap G eo o ?_) rfl
 show ac c X A env fr (DV c X) μ s (aX (au fr.sc 37) λk=>aa (Nat.beq k 0) (jA σ (au σ.r 37)) (aa (Nat.beq k 3) (jA σ (c.T.gl 37)) _)) _ E
 rw[h1]
 rw[h2]
 intro ao s₁ f n₁ aC df
 have ef:=(df).trans (G.bi 0 (by decide))
 subst ef
 refine tL S eo aC ?_
 obtain⟨m,rfl⟩:∃m,n=m+1:=⟨n-1,by omega⟩
 show ac c X A env fr (DL c X) ao s₁ ((aX (au fr.sc 143) λk=>aa (Nat.beq k 0) (jA σ (au σ.r 143)) _).bind λv s=>.ok [v] s) _ E
 rw[h3]
 rw[h4]
 intro a9 aB ys bG bc dl
 refine⟨AF 0 (by decide) _,?_⟩
 have ey:ys=[.ref l]:=by
  cases dl with
  |cons a b=>cases b;exact aq (· ::[]) ((a).trans Sc.b)
 subst ey
 have abr:=LK hv bc.stays
 refine Calls.call_len_list abr hs ?_
 have hJ:=bc.tok (aB.toks+1+1)
 have lc:aK A env μ a9 s {aB with toks:=aB.toks+1+1}:=(n₁.trans bG).tok _
 refine(ol hJ).2.2.1 0 p4 λabt my y Do vJ d4=>?_
 have rk:ad c X abt my.heap (.int (ns.length:Int)) (.int vs.size (aB.toks+1)):=⟨_,by rw[hlen]⟩
 refine GJ (op:=.gt) (a:=.int (ns.length:Int)) (b:=.int 0) vJ (AW eo) rk d4 (σ:=σ) (E:=E) λabu Dl z abv Nn d5=>?_
 refine xO Nn d5 (b:=decide (0<(ns.length:Int))) rfl λt=>?_
 have No:=Nn.tok t
 have abw:aK A env μ abu s {Dl with toks:=t}:=((lc.trans Do).trans abv).tok _
 have h':=h.shift abw
 cases ns with
 |nil=>exact(ol No).2.2.1 0 p9 h'
 |cons x r=>
  rw[decide_eq_true (show(0:Int)<((x::r).length:Int) by rw[List.length_cons];omega)]
  refine PyProof.Rows.Subscript_ (nm p6 No λab7 ab8 abx aby=>(ol aby).2.2.1 0 p7 λab9 aca y8 abz Np d8=>?_)
  obtain⟨t8,rfl⟩:=d8
  have Nq:=LK hv Np.stays
  obtain⟨y0,e0,t0,rfl⟩:∃y0,vs[0]?=some y0/\∃t,y0=.int x t:=by
   rw[← Array.getElem?_toList]
   cases Nr:vs.toList with
   |nil=>rw[Nr] at hz;cases hz
   |cons a b=>rw[Nr] at hz;cases hz with|cons u _=>exact⟨a,rfl,u⟩
  refine tail_any Nq.typeIs slot_list_getitem.lookup (wpAny_getItem_list Nq (by decide) (by decide) e0 ?_) (EB c.nm (.int 0 p7) _ _)
  exact(h'.shift (abx.trans abz)).ok .refl Np ⟨t0,rfl⟩
open Classical in
noncomputable def kZ(E0:Mine.E)(x:Int)(ih:Ev):Ev:=
 ⟨ih.call,λe fr s=>if e=E0/\au fr.sc 37=some 3/\au fr.sc 143=some 0/\au s.r 143=some (.bi 14) then .ok (.int x) s else ih.eE e fr s,ih.eT,ih.eS,ih.eW⟩
open Classical in
theorem ZX{ns:List Int}(G:bp c K)(Sc:pj c l ns)(hn:0<n)(h2:c.T.gl 37=some (.bi 0))(H:lK c n (ev c.T c.mc n)){p1 p2 p3 p4 p5 p6 p7 p8 p9 jH:Nat}:lK c n (kZ (tX p1 p2 p3 p4 p5 p6 p7 p8 p9 jH) (cell ns) (ev c.T c.mc n)):=
 { call:=H.call
   eE:=λX A env fr μ σ s e Q E eo o h=>by
    rcases Classical.em (e=tX p1 p2 p3 p4 p5 p6 p7 p8 p9 jH/\au fr.sc 37=some 3/\au fr.sc 143=some 0/\au σ.r 143=some (.bi 14)) with q|q
    · obtain⟨rfl,q1,q2,q3⟩:=q
      rw[show(kZ (tX p1 p2 p3 p4 p5 p6 p7 p8 p9 jH) (cell ns) (ev c.T c.mc n)).eE (tX p1 p2 p3 p4 p5 p6 p7 p8 p9 jH) fr σ=.ok (.int (cell ns)) σ from aG ⟨rfl,q1,q2,q3⟩] at h
      exact Y1 G Sc H.eE hn eo o q1 h2 q2 q3 h
    · have h:ac c X A env fr (DV c X) μ s (if _ then _ else(ev c.T c.mc n).eE e fr σ) Q E:=h
      rw[ax q] at h
      exact H.eE X A env fr μ σ s e Q E eo o h
   eT:=H.eT
   eS:=H.eS
   eW:=H.eW}
end
def gX:S:=(aj lD.body 0).getD (.pass 0)
def pJ:S:=(aj lD.body 1).getD (.pass 0)
def oM:S:=(aj lD.body 2).getD (.pass 0)
def gv(s:S):E:=match s with|.assign _ v _=>v|.ret v _=>v|_=>.none 0
def I6(s:S):E:=match s with|.assign t _ _=>t|_=>.none 0
def eB:Fr:=⟨lD.sc,[],false⟩
def gu(x:Int):Int:=aa (decide (x< -1-x)) (-1-x) x
def gc(ns:List Int):Int:=gu (cell ns)*aa (decide (1000000000000000000<=gu (cell ns))) 1 0
def fY(ns:List Int):Int:=(gu (cell ns)%2147483629+17)*48271%2147483647
def iV(x:Int):Ev:={Jk with eS:=xJ TZ (kZ (gv gX) x (cb 19))}
def qN(x:Int):List (Nat×V):=[(143,.bi 14),(144,.int x)]
def iI(x:Int):List (Nat×V):=[(143,.bi 14),(144,.int x),(145,.int (gu x))]
theorem W5{α β:Type}(a:α)(s:Sg)(k:α->Sg->R β):(R.ok a s).bind k=k a s:=rfl
theorem Ze(x:Int)(H:HT):(iV x).eS gX eB ⟨H,[(143,.bi 14)]⟩=.ok .next ⟨H,qN x⟩:=by
 have e:(iV x).eS gX eB ⟨H,[(143,.bi 14)]⟩=((kZ (gv gX) x (cb 19)).eE (gv gX) eB ⟨H,[(143,.bi 14)]⟩).bind λv s=>(assign TZ (kZ (gv gX) x (cb 19)) eB (I6 gX) v s).bind λ_ s=>.ok .next s:=rfl
 have e2:(kZ (gv gX) x (cb 19)).eE (gv gX) eB ⟨H,[(143,.bi 14)]⟩=.ok (.int x) ⟨H,[(143,.bi 14)]⟩:=aG ⟨rfl,rfl,rfl,rfl⟩
 rw[e,e2];rfl
open Classical in
theorem Lg(h:e≠gv gX):(kZ (gv gX) x (cb 19)).eE e fr s=(cb 19).eE e fr s:=ax λq=>h q.1
theorem Qv(x:Int)(H:HT):(iV x).eS pJ eB ⟨H,qN x⟩=.ok .next ⟨H,iI x⟩:=by
 have e:(iV x).eS pJ eB ⟨H,qN x⟩=((kZ (gv gX) x (cb 19)).eE (gv pJ) eB ⟨H,qN x⟩).bind λv s=>(assign TZ (kZ (gv gX) x (cb 19)) eB (I6 pJ) v s).bind λ_ s=>.ok .next s:=rfl
 have e2:(cb 19).eE (gv pJ) eB ⟨H,qN x⟩=.ok (.int (gu x)) ⟨H,qN x⟩:=by kernel_rfl
 rw[e,Lg (λh=>E.noConfusion h),e2];rfl
def IG(e:E):List E:=match e with|.lst es _=>es|_=>[]
def mE:E:=(aj (IG (gv oM)) 0).getD (.none 0)
def nE:E:=(aj (IG (gv oM)) 1).getD (.none 0)
theorem Xu(b:Bool):oZ (aa b 1 0)=true:=by cases b<;>rfl
theorem Vo(x:Int)(H:HT):(cb 18).eE mE eB ⟨H,iI x⟩=.ok (.int (gu x*aa (decide (1000000000000000000<=gu x)) 1 0)) ⟨H,iI x⟩:=by
 have e:(cb 18).eE mE eB ⟨H,iI x⟩=aa (oZ (aa (decide (1000000000000000000<=gu x)) 1 0)) (.ok (.int (gu x*aa (decide (1000000000000000000<=gu x)) 1 0)) ⟨H,iI x⟩) .stuck:=by kernel_rfl
 rw[e,Xu];rfl
theorem Pn(x:Int)(H:HT):(cb 18).eE nE eB ⟨H,iI x⟩=.ok (.int ((gu x%2147483629+17)*48271%2147483647)) ⟨H,iI x⟩:=by kernel_rfl
theorem VO(x:Int)(H:HT):(iV x).eS oM eB ⟨H,iI x⟩=.ok (.ret (.loc H.n)) ⟨aH H (.list [.int (gu x*aa (decide (1000000000000000000<=gu x)) 1 0),.int ((gu x%2147483629+17)*48271%2147483647)]),iI x⟩:=by
 have e:(iV x).eS oM eB ⟨H,iI x⟩=((kZ (gv gX) x (cb 19)).eE (gv oM) eB ⟨H,iI x⟩).bind λv s=>.ok (.ret v) s:=rfl
 have e2:(cb 19).eE (gv oM) eB ⟨H,iI x⟩=(((cb 18).eE mE eB ⟨H,iI x⟩).bind λv s=>((((cb 18).eE nE eB s).bind λw s=>.ok [w] s).bind λvs s=>.ok (v::vs) s)).bind λvs s=>lz vs s:=rfl
 rw[e,Lg (λh=>E.noConfusion h),e2,Vo,W5,Pn];rfl
theorem XH(x:Int)(H:HT)(r:List (Nat×V)):mS (iV x) lD [.bi 14] ⟨H,r⟩=.ok (.loc H.n) ⟨aH H (.list [.int (gu x*aa (decide (1000000000000000000<=gu x)) 1 0),.int ((gu x%2147483629+17)*48271%2147483647)]),r⟩:=by
 have e:mS (iV x) lD [.bi 14] ⟨H,r⟩=jf r ((((iV x).eS gX eB ⟨H,[(143,.bi 14)]⟩).bind λf s=>Fl.rec (((iV x).eS pJ eB s).bind λf s=>Fl.rec (((iV x).eS oM eB s).bind λf s=>Fl.rec (.ok .next s) (λv=>.ok (.ret v) s) f) (λv=>.ok (.ret v) s) f) (λv=>.ok (.ret v) s) f).bind λfl s2=>Fl.rec (.ok .none s2) (λv=>.ok v s2) fl):=rfl
 have b:∀(s:Sg) (k:Fl->Sg->R Fl),(R.ok Fl.next s).bind k=k .next s:=λ_ _=>rfl
 rw[e,Ze,b]
 dsimp only
 rw[Qv,b]
 dsimp only
 rw[VO]
 rfl
theorem Os(Y:bu w.params Hp)(hb:gk (c0 w Hp) b){ns:List Int}(Sc:pj (cX w Hp O0 b v) l ns)(H:HT):
 j5 (cX w Hp O0 b v) 63 [.bi 14] H (.ok (.loc H.n) (aH H (.list [.int (gc ns),.int (fY ns)]))) 20:=by
 intro n hn X A env fr μ σ s xs Q E q eo o z t
 subst q
 have G:=yZ (O:=O0) (v:=v) Y hb
 have XK:nL (cX w Hp O0 b v) (KF w.params):=Es Y
 have MK:∀k,(cX w Hp O0 b v).T.sub k k=some true->xu (cX w Hp O0 b v) (KF w.params) k:=λk h=>It Y k (iZ h).1
 have Sd:=(found Y).s O0 b v hb (λn k vs H m r e=>Mine.ns e) 19
 have S:SS (cX w Hp O0 b v) 20 (iV (cell ns)).eS:=Js G (KZ G XK (JD G XK MK)) (FG G (Hk G XK) (FK G XK)) (ZX G Sc (by decide) rfl Sd)
 exact Ix (ih:=iV (cell ns)) G S (eo.le (Nat.succ_le_succ hn)) o (k:=63) (f:=lD) (by kernel_rfl) z ((XH (cell ns) σ.H σ.r).symm▸t)
end
section
open PySem PySem.W PyProof.Rows
set_option maxHeartbeats 400000
theorem K6(A B:Int){t:Nat}(h:0<t):0<=lB A B t/\lB A B t<t:=by
 have ht:=Int.ofNat_lt.mpr h
 unfold lB
 split
 · exact⟨Int.emod_nonneg _ (Int.ne_of_gt ht),Int.emod_lt_of_pos _ ht⟩
 · exact⟨Int.emod_nonneg _ (Int.ne_of_gt ht),Int.emod_lt_of_pos _ ht⟩
def DD:ik:=⟨λA B t=>(lB A B t).toNat,λA B t=>(gU A t,hG A B),λA B t h=>by have:=K6 A B h;omega⟩
theorem Ky(A B:Int){t:Nat}(h:0<t):lB A B t=(DD.d A B t:Int):=(Int.toNat_of_nonneg (K6 A B h).1).symm
def jL(t:Nat):Bool:=eJ t [2,3,4,6,13]
theorem D8(h:jL t=true):t=2\/t=3\/t=4\/t=6\/t=13:=by
 have:=me.mp h
 simp only[List.mem_cons,List.not_mem_nil,or_false] at this
 exact this
theorem Fb(h:jL t=true):(t:Int)=2\/(t:Int)=3\/(t:Int)=4\/(t:Int)=6\/(t:Int)=13:=by
 rcases D8 h with h|h|h|h|h<;>subst h<;>decide
theorem BU(h:jL t=true):0<t:=by rcases D8 h with h|h|h|h|h<;>subst h<;>decide
def aP(i:Nat):Nat:=Nat.add 2000 (Nat.mul 2 i)
def aQ(i:Nat):Nat:=Nat.add 2001 (Nat.mul 2 i)
def jN(l:List (List Nat)):List V:=List.rec [] (λs _ ih=>.str s::ih) l
def n8(i:Nat)(x:Dr):En:=
 Dw.rec (λd=>⟨64,[.loc 0,.int (.ofNat x.top)],[.list [.atom (aP i),.atom (aQ i)]],[.arg 0],[],10,.ok (.int (.ofNat d)),[(0,.list [.atom (aP (Nat.succ i)),.atom (aQ (Nat.succ i))])],[],[]⟩)
  ⟨64,[.loc 0,.int (.ofNat x.top)],[.list [.atom (aP i),.atom (aQ i)]],[.arg 0],[],10,.ok (.atom (Nat.add 6000 i)),[(0,.list [.atom (aP (Nat.succ i)),.atom (aQ (Nat.succ i))])],[],[]⟩
  (λl=>⟨65,[.loc 0,.loc 1],[.list [.atom (aP i),.atom (aQ i)],.list (jN l)],[.arg 0,.arg 1],[],30,.ok (.atom (Nat.add 3000 i)),[(0,.list [.atom (aP (Nat.succ i)),.atom (aQ (Nat.succ i))])],[],[]⟩) x.w
def iU(p:List Dr)(k:Nat)(vs:List V)(H:HT):Option (Nat×R0):=
 aa (Nat.blt 63 k) (aa (Nat.blt k 66) (a7 (aj vs 0) (λv=>a7 (dj H v) (λq=>a7 (aj q.2 0) (λa=>a7 (cu a) (λc=>a7 (aj p (Nat.div (Nat.sub c 2000) 2)) (λx=>aa (Nat.beq (n8 (Nat.div (Nat.sub c 2000) 2) x).k k) (sE (n8 (Nat.div (Nat.sub c 2000) 2) x) vs H) .none) .none) .none) .none) .none) .none) .none) .none
theorem Fo(h:∀i x,aj p i=some x->bT c v (n8 i x))(q:iU p k vs H=some (d,r)):CT c v k vs H r d:=by
 have q:=(cs (cs (q)).2).2
 refine oC q λv _ q=>oC q λl _ q=>oC q λa _ q=>oC q λc _ q=>oC q λx hx q=>?_
 have q:=cs q
 exact bx.mp q.1▸GM (h _ x hx) q.2
def jD(l:List (List Nat))(d:Nat):List Nat:=Option.rec [] (λs=>s) (aj l d)
def zP(p:List Dr)(AB:Int×Int)(k:Nat):Int:=Option.rec 0 (λx=>.ofNat (DD.d (DD.pt p AB k).1 (DD.pt p AB k).2 x.top)) (aj p k)
def tP(p:List Dr)(AB:Int×Int)(k:Nat):V:=Option.rec .nil (λx=>Dw.rec (λ_=>.nil) .nil (λl=>.str (jD l (DD.d (DD.pt p AB k).1 (DD.pt p AB k).2 x.top))) x.w) (aj p k)
def je(rs:Nat->V)(p:List Dr)(AB:Int×Int)(i:Nat):V:=
 aa (aa (Nat.ble 2000 i) (Nat.blt i 3000) false) (.int (aa (Nat.beq (Nat.mod i 2) 0) (DD.pt p AB (Nat.div (Nat.sub i 2000) 2)).1 (DD.pt p AB (Nat.div (Nat.sub i 2000) 2)).2)) (aa (aa (Nat.ble 3000 i) (Nat.blt i 4000) false) (tP p AB (Nat.sub i 3000)) (rs i))
structure Vr where
 nm:Nat->List Nat×List Nat
 tp:Nat->V
 rs:Nat->V
 seg:Nat->List V
 hn:∀i,seq (nm i).1 (nm i).2=false
 ht:∀i,b9 (tp i)=true/\bw (tp i) 20=true
 hr:∀i,bw (rs i) 20=true
 hs:∀j,∀v∈seg j,dz v=true
theorem Ki(p:List Dr)(AB:Int×Int)(k:Nat):bw (tP p AB k) 20=true:=by
 unfold tP
 cases aj p k with
 |none=>rfl
 |some x=>cases x with|mk t w=>cases w<;>rfl
def vP(e:Vr)(p:List Dr)(AB:Int×Int):cc:=Lz e.nm e.tp (λi=>zP p AB (i-6000)) (je e.rs p AB) e.seg e.hn e.ht (λi=>by
 unfold je
 cases aa (Nat.ble 2000 i) (Nat.blt i 3000) false with
 |true=>rfl
 |false=>
  rw[cV]
  cases aa (Nat.ble 3000 i) (Nat.blt i 4000) false with
  |true=>exact Ki _ _ _
  |false=>exact e.hr i) e.hs
theorem ji(q:y<=x):Nat.blt x y=false:=by cases e:Nat.blt x y with|false=>rfl|true=>have:=cF e;omega
theorem tA(q:x<y):Nat.blt x y=true:=mQ q
theorem nB(q:x<=y):Nat.ble x y=true:=Nat.ble_eq_true_of_le q
theorem xm(q:y<x):Nat.ble x y=false:=by cases e:Nat.ble x y with|false=>rfl|true=>have:=dL e;omega
section
variable{nm:Nat->List Nat×List Nat}{tp:Nat->V}{z:Nat->Int}{rs:Nat->V}{i:Nat}
theorem tC(h:128<=i)(h':i<6000):gq nm tp z rs i=rs i:=by
 unfold gq
 rw[ji (x:=i) (y:=64) (by omega),cV,ji (x:=i) (y:=128) (by omega),cV,xm (x:=6000) (by omega),cV,cV,xm (x:=7000) (by omega),cV,cV]
theorem NV(h:6000<=i)(h':i<7000):gq nm tp z rs i=.int (z i):=by
 unfold gq
 rw[ji (x:=i) (y:=64) (by omega),cV,ji (x:=i) (y:=128) (by omega),cV,nB (x:=6000) (by omega),fK,tA (x:=i) (y:=7000) (by omega),fK]
theorem Sw(h:7000<=i)(h':i<8000):gq nm tp z rs i=.bool (decide (z (i-1000)=0)):=by
 unfold gq
 rw[ji (x:=i) (y:=64) (by omega),cV,ji (x:=i) (y:=128) (by omega),cV,nB (x:=6000) (by omega),fK,ji (x:=i) (y:=7000) (by omega),cV,nB (x:=7000) (by omega),fK,tA (x:=i) (y:=8000) (by omega),fK]
theorem Gp(h:64<=i)(h':i<128):gq nm tp z rs i=tp i:=by
 unfold gq
 rw[ji (x:=i) (y:=64) (by omega),cV,tA (x:=i) (y:=128) (by omega),fK]
theorem JU(h:2000<=i)(h':i<3000):je rs p AB i=.int (aa (Nat.beq (Nat.mod i 2) 0) (DD.pt p AB (Nat.div (Nat.sub i 2000) 2)).1 (DD.pt p AB (Nat.div (Nat.sub i 2000) 2)).2):=by
 unfold je
 rw[nB (x:=2000) (by omega),fK,tA (x:=i) (y:=3000) (by omega),fK]
theorem Qa(h:3000<=i)(h':i<4000):je rs p AB i=tP p AB (Nat.sub i 3000):=by
 unfold je
 rw[nB (x:=2000) (by omega),fK,ji (x:=i) (y:=3000) (by omega),cV,nB (x:=3000) (by omega),fK,tA (x:=i) (y:=4000) (by omega),fK]
theorem GN(h:i<2000\/4000<=i):je rs p AB i=rs i:=by
 unfold je
 rcases h with h|h
 · rw[xm (x:=2000) (by omega),cV,cV,xm (x:=3000) (by omega),cV,cV]
 · rw[nB (x:=2000) (by omega),fK,ji (x:=i) (y:=3000) (by omega),cV,nB (x:=3000) (by omega),fK,ji (x:=i) (y:=4000) (by omega),cV]
end
section
variable{e:Vr}{p:List Dr}{AB:Int×Int}{i:Nat}
theorem lG:(vP e p AB).ρ=gq e.nm e.tp (λi=>zP p AB (i-6000)) (je e.rs p AB):=rfl
theorem GK:aP i=2000+2*i:=rfl
theorem F2:aQ i=2001+2*i:=rfl
theorem wi{c d i:Nat}(h:d<=c):d<=c+i:=fe h (gI c i)
theorem vS{c d i:Nat}(h:i<500)(k:c+998<d):c+2*i<d:=by omega
theorem SK{c i:Nat}:Nat.div (Nat.sub (c+2*i) c) 2=i:=(aq (· /2) (Nat.add_sub_cancel_left c (2*i))).trans (Nat.mul_div_cancel_left i (by decide))
theorem VR{i:Nat}:Nat.div (Nat.sub (2001+2*i) 2000) 2=i:=by show(2001+2*i-2000)/2=i;omega
theorem A2(h:i<500):(vP e p AB).ρ (aP i)=.int (DD.pt p AB i).1:=by
 rw[lG,GK,tC (wi (by decide)) (vS h (by decide)),JU (wi (by decide)) (vS h (by decide)),bx.mpr (show Nat.mod (2000+2*i) 2=0 from Nat.add_mul_mod_self_left 2000 2 i),fK,(SK:Nat.div (Nat.sub (2000+2*i) 2000) 2=i)]
theorem z9(h:i<500):(vP e p AB).ρ (aQ i)=.int (DD.pt p AB i).2:=by
 rw[lG,F2,tC (wi (by decide)) (vS h (by decide)),JU (wi (by decide)) (vS h (by decide)),dY.mpr (show Nat.mod (2001+2*i) 2≠0 from λe=>aV ((Nat.add_mul_mod_self_left 2001 2 i).symm.trans e) (by decide)),cV,(VR:Nat.div (Nat.sub (2001+2*i) 2000) 2=i)]
theorem ZL(h:i<500):(vP e p AB).ρ (6000+i)=.int (zP p AB i):=by
 rw[lG,NV (by omega) (by omega),Nat.add_sub_cancel_left]
theorem OT(h:i<500):(vP e p AB).ρ (7000+i)=.bool (decide (zP p AB i=0)):=by
 rw[lG,Sw (by omega) (by omega),(by omega:7000+i-1000-6000=i)]
theorem Cy(h:i<500):(vP e p AB).ρ (3000+i)=tP p AB i:=by
 rw[lG,tC (by omega) (by omega),Qa (by omega) (by omega)]
 exact aq (tP p AB) (Nat.add_sub_cancel_left 3000 i)
end
theorem Ho(ha:θ a=some x)(hb:θ b=some y)(DG:θ a'=some x')(nX:θ b'=some y')(hr:ai θ r=some r'):
 ja θ sg ⟨k,[.loc 0,.int t],[.list [.atom a,.atom b]],pl,[],d,.ok r,[(0,.list [.atom a',.atom b'])],[],np⟩=some ⟨k,[.loc 0,.int t],[.list [x,y]],d,.ok r',[(0,.list [x',y'])],[]⟩:=by
 simp[ja,aN,bA,ai,fQ,aD,a7,ha,hb,DG,nX]
 show aD (aD (ai θ r) λw=>some (Rz.ok w)) (λr=>some (⟨k,[.loc 0,.int t],[.list [x,y]],d,r,[(0,.list [x',y'])],[]⟩:fW))=_
 rw[hr];rfl
def mW(i:Nat)(x y x' y':V)(k:Nat)(z:V):List (Nat×V):=[(aP i,x),(aQ i,y),(aP (i+1),x'),(aQ (i+1),y'),(k,z)]
theorem xo(hk:k<2000\/3000<=k)(hi:i<400):au (mW i x y x' y' k z) (aP i)=some x/\au (mW i x y x' y' k z) (aQ i)=some y/\au (mW i x y x' y' k z) (aP (i+1))=some x'/\au (mW i x y x' y' k z) (aQ (i+1))=some y'/\au (mW i x y x' y' k z) k=some z:=by
 unfold mW
 simp only[dy,GK,F2]
 refine⟨aG trivial,?_,?_,?_,?_⟩
 · rw[ax (by omega),aG trivial]
 · rw[ax (by omega),ax (by omega),aG trivial]
 · rw[ax (by omega),ax (by omega),ax (by omega),aG trivial]
 · rw[ax (by omega),ax (by omega),ax (by omega),ax (by omega),aG trivial]
section
variable{w:World}{Hp:Heap}{e:Vr}{p:List Dr}{AB:Int×Int}{i k:Nat}{z:V}
theorem wO(hi:i<400)(hx:aj p i=some x)(hk:(vP e p AB).ρ k=z/\dz z=true):
 b6 (vP e p AB) (au (mW i (.int (DD.pt p AB i).1) (.int (DD.pt p AB i).2) (.int (gU (DD.pt p AB i).1 x.top)) (.int (hG (DD.pt p AB i).1 (DD.pt p AB i).2)) k z)) (λ_=>none):=by
 have e2:DD.pt p AB (i+1)=(gU (DD.pt p AB i).1 x.top,hG (DD.pt p AB i).1 (DD.pt p AB i).2):=DD.pt_succ p AB i x hx
 have h3:(vP e p AB).ρ (aP (i+1))=.int (gU (DD.pt p AB i).1 x.top):=by rw[A2 (by omega),e2]
 have h4:(vP e p AB).ρ (aQ (i+1))=.int (hG (DD.pt p AB i).1 (DD.pt p AB i).2):=by rw[z9 (by omega),e2]
 refine⟨λn w h=>?_,λj l h=>ns h⟩
 have m:=nZ h
 have all:∀q∈mW i (.int (DD.pt p AB i).1) (.int (DD.pt p AB i).2) (.int (gU (DD.pt p AB i).1 x.top)) (.int (hG (DD.pt p AB i).1 (DD.pt p AB i).2)) k z,(vP e p AB).ρ q.1=q.2/\dz q.2=true:=
  bD ⟨⟨A2 (by omega),rfl⟩,bD ⟨⟨z9 (by omega),rfl⟩,bD ⟨⟨h3,rfl⟩,bD ⟨⟨h4,rfl⟩,bD ⟨hk,λ_ q=>nomatch q⟩⟩⟩⟩⟩
 exact all _ m
theorem IO(Y:bu w.params Hp)(h:t=2\/t=3\/t=4\/t=6\/t=13):bT (c0 w Hp) v (tv A B t 10):=FN (found Y) (O:=O0) (λk vs H m r e=>ns e) (W8 A B t h)
theorem My:ja (λ_=>none) (λ_=>none) (tv A B t 10)=some ⟨64,[.loc 0,.int t],[.list [.int A,.int B]],10,.ok (.int (lB A B t)),[(0,.list [.int (gU A t),.int (hG A B)])],[]⟩:=rfl
theorem pO:b6 v (λ_=>none) (λ_=>none):=⟨λ_ _ h=>ns h,λ_ _ h=>ns h⟩
theorem GF(Y:bu w.params Hp)(ht:jL t=true)(hi:i<400)(hx:aj p i=some ⟨t,.n d⟩)(hp:DD.is p AB):bT (c0 w Hp) (vP e p AB) (n8 i ⟨t,.n d⟩):=by
 have hd:=DD.is_get p AB i _ hp hx d rfl
 have q:=xo (i:=i) (k:=0) (x:=.int (DD.pt p AB i).1) (y:=.int (DD.pt p AB i).2) (x':=.int (gU (DD.pt p AB i).1 t)) (y':=.int (hG (DD.pt p AB i).1 (DD.pt p AB i).2)) (z:=(vP e p AB).ρ 0) (.inl (by decide)) hi
 have z0:dz ((vP e p AB).ρ 0)=true:=rfl
 refine gw (v:=vP e p AB) pO (wO hi hx ⟨rfl,z0⟩) (My (A:=(DD.pt p AB i).1) (B:=(DD.pt p AB i).2) (t:=t)) ?_ (IO Y (Fb ht))
 rw[Ky _ _ (BU ht),hd]
 exact Ho q.1 q.2.1 q.2.2.1 q.2.2.2.1 rfl
theorem Vl(Y:bu w.params Hp)(ht:jL t=true)(hi:i<400)(hx:aj p i=some ⟨t,.z⟩):bT (c0 w Hp) (vP e p AB) (n8 i ⟨t,.z⟩):=by
 have q:=xo (i:=i) (k:=6000+i) (x:=.int (DD.pt p AB i).1) (y:=.int (DD.pt p AB i).2) (x':=.int (gU (DD.pt p AB i).1 t)) (y':=.int (hG (DD.pt p AB i).1 (DD.pt p AB i).2)) (z:=.int (zP p AB i)) (.inr (by omega)) hi
 refine gw (v:=vP e p AB) pO (wO hi hx (k:=6000+i) ⟨ZL (i:=i) (by omega),rfl⟩) (My (A:=(DD.pt p AB i).1) (B:=(DD.pt p AB i).2) (t:=t)) ?_ (IO Y (Fb ht))
 have e1:zP p AB i=lB (DD.pt p AB i).1 (DD.pt p AB i).2 t:=by unfold zP;rw[hx];exact(Ky _ _ (BU ht)).symm
 rw[← e1]
 exact Ho q.1 q.2.1 q.2.2.1 q.2.2.2.1 q.2.2.2.2
end
def kU:List (List Nat):=[[117,56],[117,56],[84],[84],[85],[40,41],[112,97,105,114,32,111,102,32,84],[38,39,97],[38,39,98],[38,39,97],[38],[95],[98,111,120,32,111,102,32,95]]
def k8:List (List Nat):=[[97],[98],[99]]
def ui(l:List (List Nat))(d:Nat):En:=⟨65,[.loc 0,.loc 1],[.list [.atom (aP 0),.atom (aQ 0)],.list (jN l)],[.arg 0,.arg 1],[],30,.ok (.str (jD l d)),[(0,.list [.atom (aP 1),.atom (aQ 1)])],[],[]⟩
theorem Zi:bO (λd=>fX (cy (iU [⟨13,.n d⟩])) MC (ui kU d)) 13=true:=by kernel_rfl
theorem VZ:bO (λd=>fX (cy (iU [⟨3,.n d⟩])) MC (ui k8 d)) 3=true:=by kernel_rfl
def e0:Vr:=⟨λ_=>([0],[1]),λ_=>.nil,λ_=>.nil,λ_=>[],λ_=>rfl,λ_=>⟨rfl,rfl⟩,λ_=>rfl,λ_ _ h=>nomatch h⟩
theorem B1(l:List (List Nat)):aN (ai θ) (jN l)=some (jN l):=by
 induction l with
 |nil=>rfl
 |cons s r ih=>show aD (some (V.str s)) (λy=>aD (aN (ai θ) (jN r)) λr=>some (y::r))=_;rw[ih];rfl
theorem Gq(ha:θ a=some x)(hb:θ b=some y)(DG:θ a'=some x')(nX:θ b'=some y')(hr:ai θ r=some r'):
 ja θ sg ⟨k,[.loc 0,.loc 1],[.list [.atom a,.atom b],.list (jN l)],pl,[],d,.ok r,[(0,.list [.atom a',.atom b'])],[],np⟩=some ⟨k,[.loc 0,.loc 1],[.list [x,y],.list (jN l)],d,.ok r',[(0,.list [x',y'])],[]⟩:=by
 have h1:aN (ai θ) [.atom a,.atom b]=some [x,y]:=by show aD (θ a) (λu=>aD (aD (θ b) λy=>aD (some []) λr=>some (y::r)) λr=>some (u::r))=_;rw[ha,hb];rfl
 have h2:aN (ai θ) [.atom a',.atom b']=some [x',y']:=by show aD (θ a') (λu=>aD (aD (θ b') λy=>aD (some []) λr=>some (y::r)) λr=>some (u::r))=_;rw[DG,nX];rfl
 show aD (aD (aD (aN (ai θ) [.atom a,.atom b]) λys=>some (.list ys)) λo=>aD (aD (aD (aN (ai θ) (jN l)) λys=>some (.list ys)) λo=>aD (some []) λr=>some (o::r)) λr=>some (o::r))
  (λl0=>aD (aD (ai θ r) λw=>some (Rz.ok w)) λr=>aD (aD (aD (aD (aN (ai θ) [.atom a',.atom b']) λys=>some (.list ys)) λo=>some (0,o)) λp=>aD (some []) λr=>some (p::r)) λch=>some (⟨k,[.loc 0,.loc 1],l0,d,r,ch,[]⟩:fW))=_
 rw[h1,h2,hr,B1];rfl
section
variable{w:World}{Hp:Heap}{e:Vr}{p:List Dr}{AB:Int×Int}{i k:Nat}{z:V}
theorem SZ(Y:bu w.params Hp)(ht:jL t=true)(hc:bO (λd=>fX (cy (iU [⟨t,.n d⟩])) MC (ui l d)) t=true)(v:cc)(A B:Int):
 bT (c0 w Hp) v ⟨65,[.loc 0,.loc 1],[.list [.int A,.int B],.list (jN l)],[.arg 0,.arg 1],[],30,.ok (.str (jD l (DD.d A B t))),[(0,.list [.int (gU A t),.int (hG A B)])],[],[]⟩:=by
 have is:DD.is [⟨t,.n (DD.d A B t)⟩] (A,B):=⟨λd h=>by injection h,trivial⟩
 have E:bT (c0 w Hp) (vP e0 [⟨t,.n (DD.d A B t)⟩] (A,B)) (ui l (DD.d A B t)):=qk (found Y) (λk vs H m r q=>Fo (λi x hx=>by
  cases i with
  |zero=>obtain rfl:=af hx;exact GF Y ht (by decide) rfl is
  |succ i=>exact ns hx) q) (bZ hc _ (DD.lt A B t (BU ht)))
 have q:=xo (i:=0) (k:=0) (x:=.int A) (y:=.int B) (x':=.int (gU A t)) (y':=.int (hG A B)) (z:=(vP e0 [⟨t,.n (DD.d A B t)⟩] (A,B)).ρ 0) (.inl (by decide)) (by decide)
 have O:=wO (e:=e0) (p:=[⟨t,.n (DD.d A B t)⟩]) (AB:=(A,B)) (i:=0) (by decide) rfl (k:=0) ⟨rfl,(rfl:dz ((vP e0 [⟨t,.n (DD.d A B t)⟩] (A,B)).ρ 0)=true)⟩
 refine gw O pO (Gq q.1 q.2.1 q.2.2.1 q.2.2.2.1 rfl) ?_ E
 show aD (aD (some (aF.list [.int A,.int B])) λo=>aD (aD (aD (aN (ai λ_=>none) (jN l)) λys=>some (.list ys)) λo=>aD (some []) λr=>some (o::r)) λr=>some (o::r))
  (λl0=>some (⟨65,[.loc 0,.loc 1],l0,30,.ok (.str (jD l (DD.d A B t))),[(0,.list [.int (gU A t),.int (hG A B)])],[]⟩:fW))=_
 rw[B1];rfl
theorem K1(Y:bu w.params Hp)(ht:jL t=true)(hc:bO (λd=>fX (cy (iU [⟨t,.n d⟩])) MC (ui l d)) t=true)(hi:i<400)(hx:aj p i=some ⟨t,.t l⟩):bT (c0 w Hp) (vP e p AB) (n8 i ⟨t,.t l⟩):=by
 have q:=xo (i:=i) (k:=3000+i) (x:=.int (DD.pt p AB i).1) (y:=.int (DD.pt p AB i).2) (x':=.int (gU (DD.pt p AB i).1 t)) (y':=.int (hG (DD.pt p AB i).1 (DD.pt p AB i).2)) (z:=.str (jD l (DD.d (DD.pt p AB i).1 (DD.pt p AB i).2 t))) (.inr (by omega)) hi
 have ez:(vP e p AB).ρ (3000+i)=.str (jD l (DD.d (DD.pt p AB i).1 (DD.pt p AB i).2 t)):=by rw[Cy (by omega)];unfold tP;rw[hx]
 refine gw (v:=vP e p AB) pO (wO hi hx (k:=3000+i) ⟨ez,rfl⟩) ?_ (Gq q.1 q.2.1 q.2.2.1 q.2.2.2.1 q.2.2.2.2) (SZ Y ht hc (vP e p AB) (DD.pt p AB i).1 (DD.pt p AB i).2)
 show aD (aD (some (aF.list [.int (DD.pt p AB i).1,.int (DD.pt p AB i).2])) λo=>aD (aD (aD (aN (ai λ_=>none) (jN l)) λys=>some (.list ys)) λo=>aD (some []) λr=>some (o::r)) λr=>some (o::r))
  (λl0=>some (⟨65,[.loc 0,.loc 1],l0,30,.ok (.str (jD l (DD.d (DD.pt p AB i).1 (DD.pt p AB i).2 t))),[(0,.list [.int (gU (DD.pt p AB i).1 t),.int (hG (DD.pt p AB i).1 (DD.pt p AB i).2)])],[]⟩:fW))=_
 rw[B1];rfl
inductive m9:Dr->Prop
 |n {t d:Nat}:jL t=true->m9 ⟨t,.n d⟩
 |z {t:Nat}:jL t=true->m9 ⟨t,.z⟩
 |words:m9 ⟨13,.t kU⟩
 |abc:m9 ⟨3,.t k8⟩
theorem Y6(Y:bu w.params Hp)(hp:DD.is p AB)(hi:i<400)(hx:aj p i=some x)(h:m9 x):bT (c0 w Hp) (vP e p AB) (n8 i x):=by
 cases h with
 |n ht=>exact GF Y ht hi hx hp
 |z ht=>exact Vl Y ht hi hx
 |words=>exact K1 Y (by decide+kernel) Zi hi hx
 |abc=>exact K1 Y (by decide+kernel) VZ hi hx
end
def eU:Fr:=⟨lR.sc,[(148,0)],false⟩
def EU(r:List (Nat×V))(ks:List Nat):List V:=List.rec [] (λk _ ih=>Option.rec .none (λv=>v) (au r k)::ih) ks
def zJ(σ:Sg)(ks:List Nat)(pl:List gx)(l0:List aF)(r0:List (Nat×V)):Bool:=
 Option.rec false (λbs=>aa (tF ⟨dh bs 0,iS⟩ bs l0 σ.H) (aa (Bn ⟨dh bs 0,iS⟩ σ.r r0) (AH [(148,0)] bs) false) false) (qh (.loc 0::EU σ.r ks) σ.H pl [])
def pR(O:Nat->List V->HT->Option (Nat×R0))(m:Nat)(b1:List S)(σ:Sg)(ks:List Nat)(pl:List gx)(l0:List aF)(r0:List (Nat×V)):Bool:=
 R.rec (λf ba=>Fl.rec (zJ ba ks pl l0 r0) (λ_=>false) f) (λ_ _ _ _=>false) false (execs (ev (cy O) MC m) eU b1 σ)
def Xg(v:V):Bool:=Option.rec false (λb=>b) (k4 v)
def zI(O:Nat->List V->HT->Option (Nat×R0))(m:Nat)(b1:List S)(σ:Sg):Bool:=
 R.rec (λf _=>Fl.rec false (λv=>Xg v) f) (λ_ _ _ _=>false) false (execs (ev (cy O) MC m) eU b1 σ)
structure ii(w:World)(Hp:Heap)(b:Nat->Value)(A:Around)(env:Env):Prop where
 Y:bu w.params Hp
 hb:gk (c0 w Hp) b
 e:aJ (cX w Hp O0 b v0) 340 A env eU
section
variable{w:World}{Hp:Heap}{b:Nat->Value}{A:Around}{env:Env}{v:cc}{T:Tb}{μ:Mu}{s:Shared}{Q:Flow->Shared->Prop}{E:Value->Shared->Prop}{O:Nat->List V->HT->Option (Nat×R0)}{m:Nat}{b1 b2:List Mine.S}{σ:Sg}
theorem ii.at(M:ii w Hp b A env)(T:Tb)(v:cc){n:Nat}(h:n<=340):aJ ((c0 w Hp).vw T b v) n A env eU:=((M.e.turn (yq (c0 w Hp) (cy O0) b b v0 v)).tbl (T':=T)).le h
def qG(w:World)(Hp:Heap)(b:Nat->Value)(O:Nat->List V->HT->Option (Nat×R0))(v:cc):Prop:=∀k vs H d r,O k vs H=some (d,r)->j5 (cX w Hp O b v) k vs H r d
theorem tU(M:ii w Hp b A env)(hm:m<=340)(hO:qG w Hp b O v)(ck:pR O m b1 σ ks pl l0 r0=true)(o:Ok ((c0 w Hp).vw T b v) gd A env eU μ σ s)
 (k:∀av s',s'.gens=s.gens->s'.os=s.os->Ok (cX w Hp O b v) gd A env eU av ⟨hL l0,r0⟩ s'->wpAny (c0 w Hp).M A (PySem.execs (cU n b2) env) Q E s'):wpAny (c0 w Hp).M A (PySem.execs (cU n (b1++b2)) env) Q E s:=by
 have S:=(found M.Y).s O b v M.hb (zt hO) m
 refine Z2 (c:=cX w Hp O b v) S.eS (M.at (cy O) v hm) b2 b1 (o.tbl (T':=cy O)) ?_
 revert ck
 unfold pR
 cases e:execs (ev (cy O) MC m) eU b1 σ with
 |ok f ba=>
  cases f with
  |next=>
   intro ck
   show ac (cX w Hp O b v) gd A env eU _ μ s (execs (ev (cy O) MC m) eU b1 σ) _ E
   rw[e]
   intro av s' y nx o' dv
   cases y with
   |next=>
    have ck:zJ ba ks pl l0 r0=true:=ck
    unfold zJ at ck
    cases hp:qh (.loc 0::EU ba.r ks) ba.H pl [] with
    |none=>rw[hp] at ck;exact ft ck
    |some bs=>
     rw[hp] at ck
     have r1:=aO (ck)
     have r2:=aO r1.2
     exact k _ _ nx.gens nx.os (o'.cut v.sp r1.1 r2.1 r2.2)
   |_=>exact dv.elim
  |ret v=>exact λck=>ft ck
 |exc=>exact λck=>ft ck
 |stuck=>exact λck=>ft ck
theorem TL(M:ii w Hp b A env)(hm:m<=340)(hO:qG w Hp b O v)(ck:zI O m b1 σ=true)(o:Ok ((c0 w Hp).vw T b v) gd A env eU μ σ s)
 (k:∀c av ba s',s'.gens=s.gens->s'.os=s.os->jK (c0 w Hp) c->Ok c gd A env eU av ba s'->Q (.ret (.bool true)) s'):wpAny (c0 w Hp).M A (PySem.execs (cU n b1) env) Q E s:=by
 have S:=(found M.Y).s O b v M.hb (zt hO) m
 refine om (c:=cX w Hp O b v) S.eS (M.at (cy O) v hm) b1 (o.tbl (T':=cy O)) ?_
 revert ck
 unfold zI
 cases e:execs (ev (cy O) MC m) eU b1 σ with
 |ok f ba=>
  cases f with
  |next=>exact λck=>ft ck
  |ret x=>
   intro ck
   show ac (cX w Hp O b v) gd A env eU _ μ s (execs (ev (cy O) MC m) eU b1 σ) _ E
   rw[e]
   intro av s' y nx o' dv
   cases y with
   |ret y=>
    have ck:Option.rec false (λb=>b) (k4 x)=true:=ck
    cases hx:k4 x with
    |none=>rw[hx] at ck;exact ft ck
    |some bb=>
     rw[hx] at ck
     have ck:=ck
     subst ck
     rw[oz hx] at dv
     have dv:=dv
     subst dv
     exact k (cX w Hp O b v) _ _ _ nx.gens nx.os ⟨rfl,rfl,rfl,rfl,rfl,rfl,rfl,rfl⟩ o'
   |_=>exact dv.elim
 |exc=>exact λck=>ft ck
 |stuck=>exact λck=>ft ck
end
def vi(a b:List (List Nat)):Bool:=dk seq a b
def Jz(x:Dr):Bool:=Dw.rec (λ_=>jL x.top) (jL x.top) (λl=>aa (Nat.beq x.top 13) (vi l kU) (aa (Nat.beq x.top 3) (vi l k8) false)) x.w
def gP(p:List Dr):Bool:=List.rec true (λx _ ih=>aa (Jz x) ih false) p
def CE(f g:Nat->List V->HT->Option (Nat×R0))(k:Nat)(vs:List V)(H:HT):Option (Nat×R0):=Option.rec (g k vs H) (λx=>some x) (f k vs H)
theorem Hb:∀{b:List (List Nat)},vi a b=true->a=b:=by
 induction a with
 |nil=>exact λ{b} h=>by cases b with|nil=>rfl|cons=>exact ft h
 |cons x r ih=>
  intro b h
  cases b with
  |nil=>exact ft h
  |cons y q=>
   have h:=aO h
   rw[fj.mp h.1,ih h.2]
theorem ZP(h:Jz x=true):m9 x:=by
 obtain⟨t,w⟩:=x
 cases w with
 |n d=>exact .n h
 |z=>exact .z h
 |t l=>
  have h:aa (Nat.beq t 13) (vi l kU) (aa (Nat.beq t 3) (vi l k8) false)=true:=h
  cases e:Nat.beq t 13 with
  |true=>rw[e] at h;rw[bx.mp e,Hb h];exact .words
  |false=>
   rw[e] at h
   have h:=aO (h)
   rw[bx.mp h.1,Hb h.2];exact .abc
theorem F6(h:gP p=true):∀{i:Nat} {x:Dr},aj p i=some x->m9 x:=by
 induction p with
 |nil=>exact λe=>ns e
 |cons y r ih=>
  have h:=aO (h)
  exact λ{i x} e=>by
   cases i with
   |zero=>obtain rfl:=af e;exact ZP h.1
   |succ i=>exact ih h.2 e
theorem ZR(hf:∀k vs H d r,f k vs H=some (d,r)->CT (c0 w Hp) v k vs H r d)(hg:∀k vs H d r,g k vs H=some (d,r)->CT (c0 w Hp) v k vs H r d)(hb:gk (c0 w Hp) b):
 qG w Hp b (CE f g) v:=λk vs H d r h=>by
 have h:Option.rec (g k vs H) (λx=>some x) (f k vs H)=some (d,r):=h
 cases e:f k vs H with
 |none=>rw[e] at h;exact hg k vs H d r h _ _ hb
 |some x=>rw[e] at h;exact hf k vs H d r (e.trans h) _ _ hb
theorem Lq(Y:bu w.params Hp)(hp:DD.is p AB)(hd:gP p=true)(hl:p.length<=400)(k:Nat)(vs:List V)(H:HT)(d:Nat)(r:R0)(h:iU p k vs H=some (d,r)):CT (c0 w Hp) (vP e p AB) k vs H r d:=
 Fo (λi x hx=>Y6 Y hp (Nat.lt_of_lt_of_le (i7 hx) hl) hx (F6 hd hx)) h
def tY(k:Nat)(vs:List V)(H:HT):Option (Nat×R0):=
 aa (Nat.beq k 63) (List.rec .none (λv r _=>List.rec (aa (dK (dS v) 14) (some (20,.ok (.loc H.n) (aH H (.list [.atom (aP 0),.atom (aQ 0)])))) .none) (λ_ _ _=>.none) r) vs) .none
def fT(a k:Nat):List S:=iR k (nl a lR.body)
def td:List aF:=[.cell (some (.loc 1)),.list [.atom (aP 0),.atom (aQ 0)]]
def Bf:List gx:=[.arg 0,.at 0 0]
theorem WH:pR tY 300 (fT 0 2) ⟨hL [.cell none],[(143,.bi 14)]⟩ [] Bf td []=true:=by kernel_rfl
def aA(l:List V):V:=List.rec .nil (λx _ ih=>.cons x ih) l
def Ld:V:=.str [115,116,114,117,99,116]
def Lu:V:=.str [101,110,117,109]
def CK:V:=.str [109,111,100]
def E4:V:=.str [116,114,97,105,116]
def qo:V:=.str [117,110,105,116]
def kM:V:=.str [116,117,112,108,101]
def o7:V:=.str [110,97,109,101,100]
def cM:V:=.str [77]
def cm:V:=.str [109]
def cP:V:=.str [80]
def Z7:V:=.str [109,58,58,80]
def XF:V:=.str [109,58,58,77]
def Gd:V:=.str [97,100,116]
def rr:V:=.str [112,97,114,97,109]
def VG:V:=.str [118,97,114,105,97,110,116]
def qi:V:=.str [116,121,112,101,32,102,97,117,108,116]
def kH:V:=.str [110,97,109,101,32,102,97,117,108,116]
def rG:V:=.str [97,32,116,121,112,101,32,104,97,115,32,116,111,32,98,101,32,116,111,108,100]
def dO(md:Bool):V:=aa md cm (.str [])
def kX(md:Bool):V:=aa md Z7 cP
def nK(md:Bool):V:=aa md XF cM
def aR:V:=.atom 100
def hY(i:Nat):V:=.atom (Nat.add 101 i)
def ig(i:Nat):V:=.atom (Nat.add 210 i)
def re:List Nat->List V->List V:=λnm bd=>List.rec (motive:=λ_=>List V->List V) (λ_=>[]) (λx _ ih bd=>List.rec [] (λb q _=>aA [.str [x],b]::ih q) bd) nm bd
def Er(bd:List V):V:=aA [aR,aA (re [84,85] bd)]
def Ab:V:=aA [E4,.int 2,cM,aA [.nil,.nil],.nil,.bool true]
def CS(i:Nat)(tr:V):V:=aA [.str [Nat.add 65 i],ig i,tr]
def SQ(trs:List V):List V:=List.rec (motive:=λ_=>Nat->List V) (λ_=>[]) (λt _ ih i=>CS i t::ih (Nat.succ i)) trs 0
def to(K:Option V)(bd trs:List V):V:=Option.rec (aA [Lu,.int 3,cP,Er bd,aA (SQ trs),.bool false]) (λf=>aA [Ld,.int 3,cP,Er bd,f,Option.rec .nil (λt=>t) (aj trs 0),.bool false]) K
def At(md:Bool)(K:Option V)(bd trs:List V):List V:=aa md [aA [CK,.int 1,cm,aA [Ab,to K bd trs],.bool true]] [Ab,to K bd trs]
def cI(v:V):List Nat:=Option.rec [] (λs=>s) (cQ v)
def qy(K:Option V):Bool:=Option.rec true (λ_=>false) K
def tI(K:Option V):Bool:=Option.rec false (λf=>aa (seq (cI f) (cI o7)) false true) K
def Zy(a b:List Nat):List Nat:=app a (app [58,58] b)
def T4(md:Bool)(n:Nat):List (List Nat×V):=List.rec [] (λi _ ih=>(Zy (cI (kX md)) [Nat.add 65 i],VG)::ih) (co 0 n)
def jr(md:Bool)(K:Option V)(n:Nat):aF:=.dict (([],CK)::app (aa md [(cI cm,CK)] []) ((cI (nK md),E4)::(cI (kX md),aa (qy K) Lu Ld)::aa (qy K) (T4 md n) []))
def Iz(md:Bool):aF:=.dict (([],.bool true)::app (aa md [(cI cm,.bool true)] []) [(cI (nK md),.bool true),(cI (kX md),.bool false)])
def jc(md:Bool):aF:=.dict [(cI cM,nK md),(cI cP,kX md)]
def G8(md:Bool)(K:Option V):aF:=.dict (aa (tI K) [(cI cP,kX md)] [])
def uf(np:Nat):V:=aA (iR np [.str [84],.str [85]])
def YN(md:Bool)(np:Nat):aF:=.dict [(cI (nK md),aA [.nil,.nil]),(cI (kX md),aA [aR,uf np])]
def Ow(md:Bool)(K:Option V)(bd trs:List V):aF:=.dict [(cI (nK md),Ab),(cI (kX md),to K bd trs)]
def iP(its mod wor lat owe:V):aF:=.inst 13 [(64,its),(20,mod),(121,wor),(122,lat),(123,owe)]
def k7(ki pu ta ge it ke:V):aF:=.inst 8 [(47,ki),(69,pu),(70,ta),(22,ge),(64,it),(71,ke)]
def kz(ty va us:V):aF:=.inst 7 [(42,ty),(60,va),(61,us)]
def S9(m a v s t i c b:V):aF:=.inst 11 [(20,m),(110,a),(103,v),(111,s),(112,t),(113,i),(114,c),(115,b)]
def ls(k:Nat):V:=.loc k
def xB(md:Bool)(K:Option V)(bd trs:List V):List aF:=
 app [k7 (ls 3) (ls 4) (ls 5) (ls 10) (ls 11) (ls 12),jr md K (len trs),Iz md,.dict (([],ls 6)::aa md [(cI cm,ls 23)] []),kz (ls 7) (ls 8) (ls 9),aa md (.dict [(cI cm,cm)]) (jc md),aa md (.dict []) (G8 md K),.dict [],YN md (len bd),Ow md K bd trs,.dict [],
  S9 (ls 2) (ls 14) (ls 15) (ls 16) (ls 17) (ls 18) (ls 19) (ls 20),.dict [],.dict [],.dict [],.dict [],.list [],.dict [],.dict [],.list [],.list []]
  (aa md [kz (ls 24) (ls 25) (ls 26),jc md,G8 md K,.dict []] [])
def Yn(md:Bool):List gx:=
 app [.at 0 20,.at 2 47,.at 2 69,.at 2 70,.at 5 0,.at 6 42,.at 6 60,.at 6 61,.at 2 22,.at 2 64,.at 2 71,.at 0 121,.at 13 110,.at 13 103,.at 13 111,.at 13 112,.at 13 113,.at 13 114,.at 13 115,.at 0 122,.at 0 123]
  (aa md [.at 5 1,.at 23 42,.at 23 60,.at 23 61] [])
def pC(md:Bool)(K:Option V)(bd trs:List V):En:=
 ⟨47,[.loc 0,.loc 1],[.inst 13 [],.list (At md K bd trs)],[.arg 0,.arg 1],[],60,.ok .none,[(0,iP (ls 1) (ls 2) (ls 13) (ls 21) (ls 22))],xB md K bd trs,Yn md⟩
def y4(n:Nat):List V:=iR n [.atom 280,.atom 281]
def A1(n:Nat):List V:=iR n [.atom 101,.atom 102,.atom 103]
def kQ(f:Bool->Bool):Bool:=aa (f false) (f true) false
def Ks:List (Option V×Nat):=[(.none,0),(.none,1),(.none,2),(.none,3),(some qo,1),(some kM,1),(some o7,1)]
def eI{α:Type}(l:List α)(f:α->Bool):Bool:=List.rec true (λx _ ih=>aa (f x) ih false) l
theorem QB:kQ (λmd=>eI Ks λK=>bO (λnp=>fX TZ MC (pC md K.1 (y4 np) (A1 K.2))) 3)=true:=by kernel_rfl
def ly(fl:List Bool):List V:=List.rec [] (λb _ ih=>aa b (aA [aA [aA [cM,.nil,.nil]]]) .nil::ih) fl
def DR(fl:List Bool):Bool:=List.rec false (λb _ ih=>aa b true ih) fl
def gj(md:Bool)(fl:List Bool):List V:=List.rec (motive:=λ_=>List Nat->List V) (λ_=>[]) (λb _ ih nm=>List.rec [] (λx q _=>aA [.str [x],aa b (aA [nK md]) .nil]::ih q) nm) fl [84,85]
def kt(md:Bool)(R p s:V):aF:=.inst 12 [(21,dO md),(41,R),(45,p),(23,s)]
def w7(R:V)(fl:List Bool):V:=aA [R,aA (re [84,85] (ly fl))]
def A9(md:Bool)(R:V)(fl:List Bool):En:=
 ⟨51,[.loc 0,.loc 1,w7 R fl,.int 3],[iP (.bi 14) (.bi 15) (.bi 16) (.bi 17) (.bi 18),kt md .nil (ls 2) .none,.list []],[.arg 0,.arg 1,.at 1 45],[(14,.at 0 64),(15,.at 0 20),(16,.at 0 121),(17,.at 0 122),(18,.at 0 123)],60,
  .ok (aA [ls 3,ls 5]),[],[kt md R (ls 4) .none,.list (gj md fl),.list (gj md fl)],[.tup (.arg 0) 0,.at 3 45,.tup (.arg 0) 1]⟩
def z6(md:Bool)(K:Option V×Nat)(R:V)(fl:List Bool):En:=
 ⟨51,[.loc 0,.loc 1,w7 R fl,.int 3],
  [iP (.bi 14) (ls 2) (.bi 16) (.bi 17) (.bi 18),kt md .nil (ls 3) .none,k7 (ls 4) (ls 5) (ls 6) (ls 7) (.bi 19) (.bi 20),.list [],jr md K.1 K.2,Iz md,.dict (aa md [([],.bi 21),(cI cm,ls 8)] [([],ls 8)]),.dict [(cI (nK md),aA [.nil,.nil]),(cI (kX md),aA [R,uf (len fl)])],kz (ls 9) (.bi 22) (.bi 23),jc md],
  [.arg 0,.arg 1,.at 0 20,.at 1 45,.at 2 47,.at 2 69,.at 2 70,.at 2 22,.at 6 (aa md 1 0),.at 8 42],
  app [(14,.at 0 64),(16,.at 0 121),(17,.at 0 122),(18,.at 0 123),(19,.at 2 64),(20,.at 2 71),(22,.at 8 60),(23,.at 8 61)] (aa md [(21,.at 6 0)] []),90,
  .ok (aA [ls 10,ls 12]),[(2,k7 (ls 4) (ls 5) (ls 6) (ls 7) (.bi 19) (ls 13))],[kt md R (ls 11) .none,.list (gj md fl),.list (gj md fl),.dict []],[.tup (.arg 0) 0,.at 10 45,.tup (.arg 0) 1,.at 2 71]⟩
def pq(md:Bool)(K:Option V×Nat)(R:V)(fl:List Bool):En:=aa (DR fl) (z6 md K R fl) (A9 md R fl)
def cB:List (List Bool):=[[],[false],[true],[false,false],[false,true],[true,false],[true,true]]
theorem sZ{P:List Bool->Prop}(h0:P [])(h1:P [false])(h2:P [true])(h3:P [false,false])(h4:P [false,true])(h5:P [true,false])(h6:P [true,true]):∀fl,fl∈cB->P fl:=
 bD ⟨h0,bD ⟨h1,bD ⟨h2,bD ⟨h3,bD ⟨h4,bD ⟨h5,bD ⟨h6,λ_ q=>nomatch q⟩⟩⟩⟩⟩⟩⟩
def ca(k:Nat):V:=aA (iR k [.str [39,97],.str [39,98]])
theorem Us:kQ (λmd=>eI Ks λK=>eI cB λfl=>bO (λk=>fX TZ MC (pq md K (ca k) fl)) 3)=true:=by kernel_rfl
structure D2 where
 sum:Bool
 nr:Nat
 fl:List Bool
def H3(fl:List Bool):List V:=List.rec (motive:=λ_=>List Nat->List V) (λ_=>[]) (λb _ ih nm=>.cons (.str [List.rec 0 (λx _ _=>x) nm]) (.cons (.bool b) .nil)::ih (nl 1 nm)) fl [84,85]
def z0(d:Nat):Bool:=Nat.beq d 0
def T2:DT D2:=.ask 2 λd0=>.ask 3 λd1=>.ask 3 λd2=>Nat.rec (.leaf ⟨z0 d0,d1,[]⟩) (λk _=>Nat.rec (.ask 2 λe0=>.leaf ⟨z0 d0,d1,[z0 e0]⟩) (λ_ _=>.ask 2 λe0=>.ask 2 λe1=>.leaf ⟨z0 d0,d1,[z0 e0,z0 e1]⟩) k) d2
def WX(D:D2)(x y:V):List aF:=[.cell (some (.loc 1)),.list [x,y],.list (H3 D.fl),.list []]
def NZ(D:D2)(r:V):List (Nat×V):=[(164,.bool D.sum),(41,r),(45,.loc 2),(129,.loc 3)]
def FV:List gx:=[.arg 0,.at 0 0,.arg 1,.arg 2]
def QJ(D:D2)(p:List Dr):Bool:=aa (aa (Nat.blt D.nr 3) (Nat.ble (len D.fl) 2) false) (aa (gP p) (aa (Nat.ble (len p) 400) (pR (iU p) 60 (fT 2 3) ⟨hL td,[]⟩ [45,129] FV (WX D (.atom (aP (len p))) (.atom (aQ (len p)))) (NZ D (ca D.nr))) false) false) false
theorem S2:qQ T2 QJ []=true:=by kernel_rfl
structure Rw where
 nm:V
 w:Nat
 z:Nat
structure Fm where
 kind:Nat
 rows:List Rw
def uP(k m:Nat):Nat->Nat->List Rw->(Nat->List Rw->DT (List Fm))->DT (List Fm):=
 Nat.rec (λi _ acc cont=>cont i acc) (λ_ ih i at_ acc cont=>aa (Nat.beq k 1) (.skip ⟨13,.t kU⟩ (.skip ⟨2,.z⟩ (ih (Nat.add i 2) (Nat.succ at_) (app acc [⟨.str [Nat.add 48 at_],i,Nat.succ i⟩]) cont)))
  (.skip ⟨3,.t k8⟩ (.skip ⟨13,.t kU⟩ (.skip ⟨2,.z⟩ (ih (Nat.add i 3) (Nat.succ at_) (app acc [⟨.atom (Nat.add 3000 i),Nat.succ i,Nat.add i 2⟩]) cont))))) m
def GE(i:Nat)(cont:Nat->Fm->DT (List Fm)):DT (List Fm):=.ask 3 λk=>aa (Nat.beq k 0) (cont (Nat.succ i) ⟨0,[]⟩) (.ask 3 λm=>uP k m (Nat.add i 2) 0 [] λi' r=>cont i' ⟨k,r⟩)
def yc(n:Nat):Nat->List Fm->DT (List Fm):=Nat.rec (λ_ acc=>.leaf acc) (λ_ ih i acc=>GE i λi' f=>ih i' (app acc [f])) n
def T3(sum:Bool):DT (List Fm):=aa sum (.ask 4 λn=>yc n 1 []) (yc 1 0 [])
def pL(k:Nat):List Nat:=aa (Nat.beq k 0) [117,110,105,116] (aa (Nat.beq k 1) [116,117,112,108,101] [110,97,109,101,100])
def Mf(sum:Bool)(i:Nat):List Nat:=aa sum [Nat.add 65 i] []
def si(sum:Bool)(f:List Fm):Nat->List V:=List.rec (λ_=>[]) (λx _ ih i=>.cons (.str (Mf sum i)) (.cons (.str (pL x.kind)) (.cons (.loc (Nat.add 4 i)) .nil))::ih (Nat.succ i)) f
def JO(r:Rw):V:=.cons r.nm (.cons (.atom (Nat.add 3000 r.w)) (.cons (.atom (Nat.add 7000 r.z)) .nil))
def EV(l:List Rw):List V:=List.rec [] (λr _ ih=>JO r::ih) l
def FY(f:List Fm):List aF:=List.rec [] (λx _ ih=>.list (EV x.rows)::ih) f
def T9(x y:V):List aF:=[.cell (some (.loc 1)),.list [x,y],.opq 0,.list []]
def KM(sum:Bool):List (Nat×V):=[(164,.bool sum),(41,.atom 100),(45,.loc 2),(129,.loc 3)]
def S3(sum:Bool)(f:List Fm)(x y:V):List aF:=app [.cell (some (.loc 1)),.list [x,y],.opq 0,.list (si sum f 0)] (FY f)
def Py(f:List Fm):Nat->List gx:=List.rec (λ_=>[]) (λ_ _ ih i=>.tup (.at 3 i) 2::ih (Nat.succ i)) f
def LE(p:List Dr)(k:Nat):Bool:=Option.rec false (λx=>Dw.rec (λ_=>false) false (λ_=>Nat.beq x.top 13) x.w) (aj p k)
def Ep(p:List Dr)(k:Nat):Bool:=Option.rec false (λx=>Dw.rec (λ_=>false) true (λ_=>false) x.w) (aj p k)
def qj(p:List Dr)(v:V):Bool:=Option.rec false (λc=>aa (Nat.ble 3000 c) (Option.rec false (λx=>Dw.rec (λ_=>false) false (λ_=>Nat.beq x.top 3) x.w) (aj p (Nat.sub c 3000))) false) (cu v)
def J7(v:V):Bool:=Option.rec false (λ_=>true) (cQ v)
def AX(p:List Dr)(r:Rw):Bool:=aa (LE p r.w) (aa (Ep p r.z) (aa (qj p r.nm) true (J7 r.nm)) false) false
def Me(p:List Dr)(a b:V):Bool:=aa (qj p a) (qj p b) (Option.rec false (λs=>Option.rec false (λt=>aa (seq s t) false true) (cQ b)) (cQ a))
def AL(p:List Dr)(l:List Rw):Bool:=List.rec true (λa r _=>aa (AX p a) (List.rec true (λb q _=>aa (AX p b) (aa (Me p a.nm b.nm) (List.rec true (λ_ _ _=>false) q) false) false) r) false) l
def Pz(sum:Bool)(p:List Dr)(f:List Fm):Bool:=aa (aa sum (Nat.ble (len f) 3) (Nat.beq (len f) 1)) (List.rec true (λx _ ih=>aa (AL p x.rows) ih false) f) false
def zk(sum:Bool)(f:List Fm)(p:List Dr):Bool:=aa (Pz sum p f) (aa (gP p) (aa (Nat.ble (len p) 400) (pR (iU p) 60 (fT 5 1) ⟨hL (T9 (.atom (aP 0)) (.atom (aQ 0))),KM sum⟩ [45,129] (app FV (Py f 0)) (S3 sum f (.atom (aP (len p))) (.atom (aQ (len p)))) (KM sum)) false) false) false
theorem Wa:qQ (T3 true) (zk true) []=true:=by kernel_rfl
theorem US:qQ (T3 false) (zk false) []=true:=by kernel_rfl
def T5:DT Unit:=.ask 13 λ_=>.ask 3 λ_=>.leaf ()
def U8(_:Unit)(p:List Dr):Bool:=aa (gP p) (aa (Nat.ble (len p) 400) (pR (iU p) 120 (fT 7 1) ⟨hL td,[]⟩ [] Bf [.cell (some (.loc 1)),.list [.atom (aP (len p)),.atom (aQ (len p))]] []) false) false
theorem Zd:qQ T5 U8 []=true:=by kernel_rfl
def IE(t:Nat)(n:Nat)(k:DT Unit):DT Unit:=Nat.rec k (λ_ ih=>.ask t λ_=>ih) n
def T6:DT Unit:=.ask 3 λn=>IE 6 n (.ask 3 λ_=>.leaf ())
def ZD(_:Unit)(p:List Dr):Bool:=aa (gP p) (aa (Nat.ble (len p) 400) (zI (iU p) 120 (fT 8 2) ⟨hL td,[]⟩) false) false
theorem Uo:qQ T6 ZD []=true:=by kernel_rfl
inductive Fc|ok (n:Nat)|bad (ty:Bool)|aft (f:Bool)
structure iL where
 md:Bool
 K:Option V
 fl:List Bool
 fs:List Fc
def lq(i j:Nat):V:=.atom (Nat.add (Nat.mul 2 i) j)
def mA(i j:Nat):V:=.atom (Nat.add 240 (Nat.add (Nat.mul 2 i) j))
def jU(i j:Nat):V:=.atom (Nat.add 250 (Nat.add (Nat.mul 2 i) j))
def mM(i j:Nat):V:=.atom (Nat.add 260 (Nat.add (Nat.mul 2 i) j))
def eY(i j:Nat):V:=.atom (Nat.add 70 (Nat.add (Nat.mul 2 i) j))
def iD(i:Nat):V:=.atom (Nat.add 220 i)
def l4(i:Nat):V:=.atom (Nat.add 230 i)
def bM{α β:Type}(f:α->β)(l:List α):List β:=List.rec [] (λx _ ih=>f x::ih) l
def Fc.n(f:Fc):Nat:=Fc.rec (λn=>n) (λ_=>0) (λ_=>0) f
def I0(i n:Nat):V:=aA (bM (λj=>aA [lq i j,mM i j,jU i j]) (co 0 n))
def v6(i:Nat)(f:Fc):V:=Fc.rec (λn=>I0 i n) (λ_=>hY i) (λ_=>hY i) f
def xi(i:Nat)(f:Fc):aF:=Fc.rec (λn=>.list (bM (λj=>aA [lq i j,mA i j,jU i j]) (co 0 n))) (λ_=>.opq (Nat.succ i)) (λ_=>.opq (Nat.succ i)) f
def TX(i:Nat)(f:Fc):V:=Fc.rec (λ_=>.none) (λty=>aA [aa ty qi kH,l4 i]) (λb=>aa b (.atom (Nat.add 110 i)) .none) f
def JW(i n:Nat):List V:=bM (λj=>aA [lq i j,eY i j]) (co 0 n)
def Qi(i:Nat)(f:Fc):aF:=Fc.rec (λn=>.list (JW i n)) (λ_=>.dead) (λ_=>.dead) f
def qt(fl:List Bool):List V:=iR (len fl) [.str [84],.str [85]]
def rF(fl:List Bool)(i:Nat)(f:Fc):En:=
 ⟨71,[.loc 0,aR,.loc 1],[xi i f,.list (qt fl)],[.arg 0,.arg 2],[],40,.ok (aA [v6 i f,ls 2,TX i f]),[],[Qi i f],[.tup (.arg 0) 1]⟩
def zj(md:Bool)(R:V)(fl:List Bool):V:=aA [Gd,kX md,R,aA (bM (λx=>aA [rr,x]) (qt fl))]
def lC(l:List (V×Nat)):List V:=bM (λq=>aA [q.1,ls 1,.int (.ofNat q.2)]) l
def nz(i n:Nat):List (V×Nat):=bM (λj=>(eY i j,Nat.add 40 j)) (co 0 n)
def zX(md:Bool)(fl:List Bool)(pre:List (V×Nat)):List aF:=[iP (.bi 14) (.bi 15) (.bi 16) (.bi 17) (ls 2),kt md aR (ls 3) (zj md aR fl),.list (lC pre),.list (gj md fl)]
def CB:List gx:=[.arg 0,.arg 1,.at 0 123,.at 1 45]
def zH:List (Nat×gx):=[(14,.at 0 64),(15,.at 0 20),(16,.at 0 121),(17,.at 0 122)]
def CF(md:Bool)(fl:List Bool)(i n:Nat)(pre:List (V×Nat)):En:=
 ⟨53,[.loc 0,.loc 1,I0 i n,.int 3],zX md fl pre,CB,zH,80,.ok (ls 4),[(2,.list (lC (app pre (nz i n))))],[.list (JW i n)],[.arg 0]⟩
def zD(md:Bool)(fl:List Bool)(i:Nat)(pre:List (V×Nat)):En:=
 ⟨53,[.loc 0,.loc 1,hY i,.int 3],zX md fl pre,CB,zH,80,.exc 3 (iD i) (l4 i),[(2,.dead)],[],[]⟩
def zU(md:Bool)(K:Option V×Nat)(fl:List Bool)(i:Nat)(pre:List (V×Nat)):En:=
 ⟨53,[.loc 0,.loc 1,hY i,.int 3],[iP (.bi 14) (ls 4) (.bi 16) (.bi 17) (ls 2),kt md aR (ls 3) (zj md aR fl),.list (lC pre),.list (gj md fl),k7 (ls 5) (.bi 18) (ls 6) (.bi 19) (.bi 20) (.bi 21),jr md K.1 K.2,.dict (aa md [([],.bi 22),(cI cm,ls 7)] [([],ls 7)]),kz (ls 8) (.bi 23) (ls 9),jc md,.dict []],
  [.arg 0,.arg 1,.at 0 123,.at 1 45,.at 0 20,.at 4 47,.at 4 70,.at 6 (aa md 1 0),.at 7 42,.at 7 61],app [(14,.at 0 64),(16,.at 0 121),(17,.at 0 122),(18,.at 4 69),(19,.at 4 22),(20,.at 4 64),(21,.at 4 71),(23,.at 7 60)] (aa md [(22,.at 6 0)] []),80,
  .exc 1 (iD i) (l4 i),[(2,.dead),(4,.dead)],[],[]⟩
def JG(s:iL)(i:Nat)(f:Fc)(pre:List (V×Nat)):List En:=
 Fc.rec (λn=>[CF s.md s.fl i n pre]) (λty=>[aa ty (zD s.md s.fl i pre) (zU s.md (s.K,len s.fs) s.fl i pre)]) (λ_=>[]) f
def PE(s:iL):List En:=List.rec (motive:=λ_=>Nat->List (V×Nat)->List En) (λ_ _=>[]) (λf _ ih i pre=>app (JG s i f pre) (ih (Nat.succ i) (app pre (nz i f.n)))) s.fs 0 []
def cA{α β:Type}(f:Nat->α->β)(l:List α):List β:=List.rec (motive:=λ_=>Nat->List β) (λ_=>[]) (λx _ ih i=>f i x::ih (Nat.succ i)) l 0
def ZZ(s:iL):List V:=cA v6 s.fs
def O3(s:iL):List En:=pC s.md s.K (ly s.fl) (ZZ s)::pq s.md (s.K,len s.fs) aR s.fl::app (cA (rF s.fl) s.fs) (PE s)
def OQ(K:Option V)(i:Nat):V:=Option.rec (aA [.str [Nat.add 65 i],ig i,ls (Nat.add 2 i)]) (λf=>aA [.str [],f,ls 2]) K
def o6(fl:List Bool):List V:=List.rec (motive:=λ_=>List Nat->List V) (λ_=>[]) (λb _ ih nm=>List.rec [] (λx q _=>aA [.str [x],.bool b]::ih q) nm) fl [84,85]
def tO(s:iL):En:=
 ⟨72,[dO s.md,.bool (qy s.K),aR,.loc 0,.loc 1],app [.list (o6 s.fl),.list (cA (λi _=>OQ s.K i) s.fs)] (cA xi s.fs),app [.arg 3,.arg 4] (cA (λi _=>.tup (.at 1 i) 2) s.fs),[],200,.ok (.bool true),[],[],[]⟩
def uE(s:iL):Bool:=fX (cy (lZ (O3 s))) MC (tO s)
def aL(i:Nat):List Nat:=jD kU i
def wy:List Nat:=[117,56]
def wT:List Nat:=[84]
def wU:List Nat:=[85]
def Bx:List Nat:=[40,41]
def qw:List Nat:=[112,97,105,114,32,111,102,32,84]
def mH:List Nat:=[95]
def mK:List Nat:=[98,111,120,32,111,102,32,95]
def wk:V:=.str [112,97,116,104]
def VJ:V:=.str [105,110,116]
def Hs:V:=.str [114,101,102]
def xn:V:=.str [105,110,102,101,114]
def D5:V:=.str wy
def Ry:V:=.str [66,111,120]
def YB:V:=.str [98,111,120]
def Ag(x:V):V:=aA [aA [x,.nil,.nil]]
def Cn(s:Nat):V:=aA [wk,.int (.ofNat s),Ag D5]
def BO:V:=aA [VJ,D5]
def Hz(w:List Nat):V:=List.rec .none (λx q _=>List.rec .none (λ_ _ _=>.str q) q) w
def dT(w:List Nat)(s:Nat):V:=
 aa (seq w wy) (Cn s) (aa (seq w Bx) (aA [kM,.int (.ofNat s),.nil]) (aa (seq w mH) (aA [xn,.int (.ofNat s)]) (aa (aa (seq w wT) true (seq w wU)) (aA [wk,.int (.ofNat s),Ag (.str w)])
  (aa (seq w qw) (aA [kM,.int (.ofNat s),aA [Cn s,aA [wk,.int (.ofNat s),Ag (.str wT)]]]) (aa (seq w mK) (aA [wk,.int (.ofNat s),aA [aA [Ry,.nil,aA [aA [xn,.int (.ofNat (Nat.succ s))]]]]])
   (aA [Hs,.int (.ofNat s),Hz w,.bool true,Cn s]))))))
def UY(w:List Nat)(nr:Nat):Bool:=List.rec false (λ_ q _=>List.rec false (λ_ _ _=>uq q (iR nr [[39,97],[39,98]])) q) w
def d6(w:List Nat)(nr np:Nat):Nat:=
 aa (aa (seq w wy) true (seq w Bx)) 0 (aa (aa (seq w mH) true (seq w mK)) 1 (aa (aa (seq w wT) true (seq w qw)) (aa (Nat.blt 0 np) 0 2) (aa (seq w wU) (aa (Nat.blt 1 np) 0 2) (aa (UY w nr) 0 3))))
def eF(w:List Nat):V:=
 aa (seq w wy) BO (aa (seq w Bx) (aA [kM,.nil]) (aa (seq w mH) (aA [xn]) (aa (aa (seq w wT) true (seq w wU)) (aA [rr,.str w])
  (aa (seq w qw) (aA [kM,aA [BO,aA [rr,.str wT]]]) (aa (seq w mK) (aA [YB,aA [xn]]) (aA [Hs,Hz w,.bool true,BO]))))))
def iJ(w:List Nat)(s nr np:Nat):V:=aa (Nat.beq (d6 w nr np) 0) (eF w) (aA [aa (Nat.beq (d6 w nr np) 1) qi kH,.int (.ofNat s)])
def gZ(np:Nat):List V:=iR np [.str [84],.str [85]]
def GO(w:List Nat)(s nr np:Nat):En:=⟨68,[.str w,.int (.ofNat s),ca nr,.loc 0],[.list (gZ np)],[.arg 3],[],30,.ok (aA [dT w s,iJ w s nr np]),[],[],[]⟩
def Jl(w:List Nat)(s nr np:Nat):En:=⟨70,[iJ w s nr np],[],[],[],20,.ok (.bool (!(Nat.beq (d6 w nr np) 0))),[],[],[]⟩
def HK(w:List Nat)(s np:Nat):En:=⟨12,[.bi 20,.atom 270,.loc 0,.atom 105,dT w s],[.list (gZ np)],[.arg 2],[(20,.arg 0)],50,.ok (eF w),[],[],[]⟩
def Em(w:List Nat):En:=⟨13,[eF w],[],[],[],30,.ok (.bool (!(aa (seq w mH) true (seq w mK)))),[],[],[]⟩
def eK(w:List Nat):List Nat:=List.rec [] (λ_ q _=>List.rec [97,32,114,101,103,105,111,110,32,104,97,115,32,116,111,32,98,101,32,116,111,108,100] (λ_ _ _=>app [110,111,32,114,101,103,105,111,110,32,105,115,32,110,97,109,101,100,32] q) q) w
def sW(w:List Nat)(s nr np:Nat):En:=⟨3,[eF w,ca nr,.int (.ofNat s)],[],[],[],30,aa (Nat.beq (d6 w nr np) 3) (.exc 1 (.str (eK w)) (.int (.ofNat s))) (.ok .none),[],[],[]⟩
def iH(f:List Nat->Bool):Bool:=bO (λi=>f (aL i)) 13
theorem Yq:iH (λw=>bO (λs=>bO (λnr=>bO (λnp=>fX TZ MC (GO w (Nat.add 40 s) nr np)) 3) 3) 2)=true:=by kernel_rfl
theorem RT:iH (λw=>bO (λs=>bO (λnr=>bO (λnp=>fX TZ MC (Jl w (Nat.add 40 s) nr np)) 3) 3) 2)=true:=by kernel_rfl
theorem P3:iH (λw=>bO (λs=>bO (λnp=>aa (Nat.beq (d6 w 2 np) 2) true (fX TZ MC (HK w (Nat.add 40 s) np))) 3) 2)=true:=by kernel_rfl
theorem Wh:iH (λw=>fX TZ MC (Em w))=true:=by kernel_rfl
theorem XR:iH (λw=>bO (λs=>bO (λnr=>bO (λnp=>aa (aa (Nat.beq (d6 w nr np) 1) true (Nat.beq (d6 w nr np) 2)) true (fX TZ MC (sW w (Nat.add 40 s) nr np))) 3) 3) 2)=true:=by kernel_rfl
def qV(w:List Nat):List Nat:=app [110,111,116,104,105,110,103,32,105,115,32,110,97,109,101,100,32] (aa (seq w wU) wU wT)
def Et(md:Bool)(K:Option V×Nat)(w:List Nat)(s np:Nat):En:=
 ⟨12,[.loc 0,dO md,.loc 1,.atom 105,dT w s],[k7 (ls 2) (.bi 18) (ls 3) (.bi 19) (.bi 20) (.bi 21),.list (gZ np),jr md K.1 K.2,.dict (aa md [([],.bi 22),(cI cm,ls 4)] [([],ls 4)]),kz (ls 5) (.bi 23) (ls 6),jc md,.dict []],
  [.arg 0,.arg 2,.at 0 47,.at 0 70,.at 3 (aa md 1 0),.at 4 42,.at 4 61],app [(18,.at 0 69),(19,.at 0 22),(20,.at 0 64),(21,.at 0 71),(23,.at 4 60)] (aa md [(22,.at 3 0)] []),60,.exc 1 (.str (qV w)) (.int (.ofNat s)),[(0,.dead)],[],[]⟩
theorem Ri:kQ (λmd=>eI Ks λK=>eI [wT,wU,qw] λw=>bO (λs=>bO (λnp=>aa (Nat.beq (d6 w 2 np) 2) (fX TZ MC (Et md K w (Nat.add 40 s) np)) true) 3) 2)=true:=by kernel_rfl
def wB(np j:Nat):En:=⟨68,[mA 0 j,.int (.ofNat (Nat.add 40 j)),aR,.loc 0],[.list (gZ np)],[.arg 3],[],30,.ok (aA [mM 0 j,eY 0 j]),[],[],[]⟩
def yC(b:Bool)(j:Nat):En:=⟨70,[eY 0 j],[],[],[],20,.ok (.bool b),[],[],[]⟩
def jm(a:Nat)(j:Nat):V:=aA [.atom a,mA 0 j,jU 0 j]
def jn(a:Nat)(j:Nat):V:=aA [.atom a,mM 0 j,jU 0 j]
def zQ(c:Nat):List V:=hgetD [[],[jm 0 0],[jm 0 0],[jm 0 0,jm 1 1],[jm 0 0,jm 1 1],[jm 0 0,jm 0 1],[jm 0 0,jm 1 1],[jm 0 0,jm 0 1]] c
where hgetD (l:List (List V)) (c:Nat):List V:=Option.rec [] (λx=>x) (aj l c)
def Ee(c:Nat):List V:=zQ.hgetD [[],[jn 0 0],[jn 0 0],[jn 0 0,jn 1 1],[jn 0 0,jn 1 1],[jn 0 0,jn 0 1],[jn 0 0,jn 1 1],[jn 0 0,jn 0 1]] c
def KO(c:Nat):aF:=Option.rec .dead (λx=>x) (aj [.list [],.list [aA [.atom 0,eY 0 0]],.dead,.list [aA [.atom 0,eY 0 0],aA [.atom 1,eY 0 1]]] c)
def LT(c:Nat):V:=Option.rec .none (λx=>x) (aj [.none,.none,eY 0 0,.none,eY 0 1,aA [kH,.int 3],eY 0 0,eY 0 0] c)
def AG(c:Nat):Bool:=aa (Nat.beq c 2) true (aa (Nat.beq c 6) true (Nat.beq c 7))
def G9(c np:Nat):List En:=wB np 0::wB np 1::yC (AG c) 0::aa (aa (Nat.beq c 3) true (Nat.beq c 4)) [yC (Nat.beq c 4) 1] []
def qx(dd:Bool)(c np:Nat):En:=⟨71,[.loc 0,aR,.loc 1],[.list (zQ c),.list (gZ np)],[.arg 0,.arg 2],[],40,.ok (aA [aA (Ee c),ls 2,LT c]),[],[aa dd .dead (KO c)],[.tup (.arg 0) 1]⟩
theorem VD:kQ (λdd=>bO (λc=>bO (λnp=>fX (cy (lZ (G9 c np))) MC (qx dd c np)) 3) 8)=true:=by kernel_rfl
def fC(j k:Nat):V:=.atom (Nat.add 320 (Nat.add (Nat.mul 5 j) k))
def db(j:Nat):V:=.int (.ofNat (Nat.add 40 j))
def qH(o j:Nat):V:=
 Option.rec (mM 0 j) (λx=>x) (aj [aA [fC j 0,db j,fC j 1],aA [fC j 0,db j,fC j 1,fC j 2,fC j 3],aA [fC j 0,db j],aA [fC j 0,db j,fC j 1],aA [fC j 0,db j,fC j 1,fC j 2,fC j 3],aA [fC j 0,db j,fC j 1]] o)
def fF(o:Nat):Bool:=aa (Nat.beq o 2) true (Nat.beq o 3)
def og(o j:Nat):V:=aa (fF o) (.atom (Nat.add 340 j)) (eY 0 j)
def qC:V:=.atom 270
def AM(m:V)(np o j:Nat):En:=⟨12,[.bi 20,m,.loc 0,.atom 105,qH o j],[.list (gZ np)],[.arg 2],[(20,.arg 0)],50,.ok (og o j),[],[],[]⟩
def B9(o j:Nat):En:=⟨13,[og o j],[],[],[],30,.ok (.bool (!(fF o))),[],[],[]⟩
def vf(o j:Nat):En:=⟨3,[og o j,aR,db j],[],[],[],30,aa (Nat.beq o 4) (.exc 1 (iD 0) (db j)) (.ok .none),[],[],[]⟩
def mI(pl:Nat):List V:=bM (λq=>aA [.atom (Nat.add 300 q),ls 1,.atom (Nat.add 310 q)]) (co 0 pl)
def vm(np:Nat):List V:=iR np [aA [.str [84],.atom 290],aA [.str [85],.atom 291]]
def Iq(m:V):aF:=.inst 12 [(21,m),(41,aR),(45,ls 3),(23,.atom 105)]
def ye(d:List Nat)(o j:Nat):V:=aa (Nat.beq o 7) (.atom 360) (List.rec (.atom j) (λ_ _ _=>.str d) d)
def mV(d:List Nat)(os:List Nat):List V:=cA (λj o=>aA [ye d o j,qH o j,jU 0 j]) os
def tH(os:List Nat):List V:=cA (λj _=>aA [eY 0 j,ls 1,db j]) os
def uS(d:List Nat)(os:List Nat):List V:=cA (λj o=>aA [ye d o j,eY 0 j]) os
def eA(os:List Nat):Option (Nat×Nat):=List.rec (motive:=λ_=>Nat->Option (Nat×Nat)) (λ_=>.none) (λo _ ih j=>aa (Nat.ble o 1) (ih (Nat.succ j)) (some (o,j))) os 0
def xp(d:List Nat):V:=.str (app [116,104,101,32,102,105,101,108,100,32] (app d [32,105,115,32,116,111,108,100,32,116,119,105,99,101]))
def nQ(d:List Nat)(o j:Nat):Rz:=aa (fF o) (.exc 3 rG (db j)) (aa (Nat.beq o 6) (.exc 1 (xp d) (.int 3)) (.exc 1 (iD 0) (db j)))
def jV(m:V)(np pl:Nat)(d:List Nat)(os:List Nat):En:=
 ⟨53,[.loc 0,.loc 1,aA (mV d os),.int 3],[iP (.bi 14) (.bi 15) (.bi 16) (.bi 17) (ls 2),Iq m,.list (mI pl),.list (vm np)],CB,zH,80,
  Option.rec (.ok (ls 4)) (λq=>nQ d q.1 q.2) (eA os),[(2,Option.rec (.list (app (mI pl) (tH os))) (λ_=>.dead) (eA os))],Option.rec [.list (uS d os)] (λ_=>[]) (eA os),Option.rec [.arg 0] (λ_=>[]) (eA os)⟩
def yX(m:V)(np o j:Nat):List En:=aa (Nat.blt o 5) (AM m np o j::B9 o j::aa (fF o) [] [vf o j]) []
def uD(m:V)(np:Nat)(os:List Nat):List En:=List.rec (motive:=λ_=>Nat->List En) (λ_=>[]) (λo _ ih j=>app (yX m np o j) (ih (Nat.succ j))) os 0
def qb:List (List Nat×List Nat):=
 app (bM (λl=>([],l)) [[],[0],[1],[2],[3],[4],[0,0],[0,1],[0,2],[0,3],[0,4],[1,0],[1,1],[1,2],[1,3],[1,4],[2,7],[3,7],[4,7]])
  [([97],[0,6]),([97],[1,6]),([98],[0,6]),([98],[1,6]),([99],[0,6]),([99],[1,6])]
theorem YO:bO (λnp=>bO (λpl=>eI qb λc=>fX (cy (lZ (uD qC np c.2))) MC (jV qC np pl c.1 c.2)) 5) 3=true:=by kernel_rfl
def xT(md:Bool)(K:Option V×Nat)(np j:Nat):En:=
 ⟨12,[.loc 0,dO md,.loc 1,.atom 105,qH 5 j],[k7 (ls 2) (.bi 18) (ls 3) (.bi 19) (.bi 20) (.bi 21),.list (gZ np),jr md K.1 K.2,.dict (aa md [([],.bi 22),(cI cm,ls 4)] [([],ls 4)]),kz (ls 5) (.bi 23) (ls 6),jc md,.dict []],
  [.arg 0,.arg 2,.at 0 47,.at 0 70,.at 3 (aa md 1 0),.at 4 42,.at 4 61],app [(18,.at 0 69),(19,.at 0 22),(20,.at 0 64),(21,.at 0 71),(23,.at 4 60)] (aa md [(22,.at 3 0)] []),60,.exc 1 (iD 0) (db j),[(0,.dead)],[],[]⟩
def A7(md:Bool)(K:Option V×Nat)(np pl:Nat)(d:List Nat)(os:List Nat):En:=
 ⟨53,[.loc 0,.loc 1,aA (mV d os),.int 3],[iP (.bi 14) (ls 4) (.bi 16) (.bi 17) (ls 2),Iq (dO md),.list (mI pl),.list (vm np),k7 (ls 5) (.bi 18) (ls 6) (.bi 19) (.bi 20) (.bi 21),jr md K.1 K.2,.dict (aa md [([],.bi 22),(cI cm,ls 7)] [([],ls 7)]),kz (ls 8) (.bi 23) (ls 9),jc md,.dict []],
  [.arg 0,.arg 1,.at 0 123,.at 1 45,.at 0 20,.at 4 47,.at 4 70,.at 6 (aa md 1 0),.at 7 42,.at 7 61],app [(14,.at 0 64),(16,.at 0 121),(17,.at 0 122),(18,.at 4 69),(19,.at 4 22),(20,.at 4 64),(21,.at 4 71),(23,.at 7 60)] (aa md [(22,.at 6 0)] []),80,
  Option.rec (.ok .none) (λq=>nQ d q.1 q.2) (eA os),[(2,.dead),(4,.dead)],[],[]⟩
def zz(md:Bool)(K:Option V×Nat)(np pl:Nat)(d:List Nat)(os:List Nat):List En:=
 Option.rec [] (λq=>aa (Nat.beq q.1 5) (xT md K np q.2::uD (dO md) np (iR q.2 os)) [jV (dO md) np pl d os]) (eA os)
def gr(np:Nat):List (List Nat×List Nat):=
 app (aa (Nat.blt np 2) [([],[5]),([],[0,5]),([],[1,5]),([],[5,7])] []) [([],[4]),([],[0,4]),([],[1,4]),([],[4,7]),([97],[0,6]),([97],[1,6]),([98],[0,6]),([98],[1,6]),([99],[0,6]),([99],[1,6])]
def n9(K:Option V×Nat):Nat:=Nat.rec 1 (λk _=>Nat.succ (Nat.mul 2 k)) K.2
theorem U3:kQ (λmd=>eI Ks λK=>bO (λnp=>bO (λpl=>eI (gr np) λc=>fX (cy (lZ (zz md K np pl c.1 c.2))) MC (A7 md K np pl c.1 c.2)) (n9 K)) 3)=true:=by kernel_rfl
def ap{α β:Type}(l:List α)(f:α->List β):List β:=List.rec [] (λx _ ih=>app (f x) ih) l
def jg:List Fc:=[.ok 0,.ok 1,.ok 2]
def mC:List Fc:=[.bad true,.bad false]
def uR:List Fc:=[.aft true,.aft false]
def xX:List (List Fc):=
 []::app (ap jg λa=>[[a]]) (app (ap jg λa=>ap jg λb=>[[a,b]]) (app (ap jg λa=>ap jg λb=>ap jg λc=>[[a,b,c]])
  (app (ap mC λa=>[[a]]) (app (ap mC λa=>ap uR λb=>[[a,b]]) (app (ap jg λa=>ap mC λb=>[[a,b]]) (app (ap mC λa=>ap uR λb=>ap uR λc=>[[a,b,c]]) (app (ap jg λa=>ap mC λb=>ap uR λc=>[[a,b,c]]) (ap jg λa=>ap jg λb=>ap mC λc=>[[a,b,c]]))))))))
def v4:List (List Fc):=app (ap jg λa=>[[a]]) (ap mC λa=>[[a]])
def gY(md:Bool)(fl:List Bool):Bool:=aa (eI xX λf=>uE ⟨md,.none,fl,f⟩) (eI [qo,kM,o7] λk=>eI v4 λf=>uE ⟨md,some k,fl,f⟩) false
noncomputable def mT(θ:List (Nat×V))(i:Nat):V:=Option.rec .nil (λw=>w) (au θ i)
noncomputable def wA(θ:List (Nat×V))(i:Nat):V:=aa (b9 (mT θ i)) (mT θ i) .nil
theorem Hf(h:∀q∈θ,bw q.2 20=true)(i:Nat):bw (mT θ i) 20=true:=by
 unfold mT
 cases e:au θ i with
 |none=>rfl
 |some w=>exact h (i,w) (nZ e)
noncomputable def K4(nm:List Nat×List Nat)(hn:seq nm.1 nm.2=false)(θ:List (Nat×V))(h:∀q∈θ,bw q.2 20=true):Vr where
 nm:=λ_=>nm
 tp:=wA θ
 rs:=mT θ
 seg:=λ_=>[]
 hn:=λ_=>hn
 ht:=λi=>by
  unfold wA
  cases e:b9 (mT θ i) with
  |true=>exact⟨e,Hf h i⟩
  |false=>exact⟨rfl,rfl⟩
 hr:=Hf h
 hs:=λ_ _ q=>nomatch q
noncomputable def vL(nm:List Nat×List Nat)(hn:seq nm.1 nm.2=false)(θ:List (Nat×V))(h:∀q∈θ,bw q.2 20=true):cc:=vP (K4 nm hn θ h) [] (0,0)
noncomputable def oD(nm:List Nat×List Nat)(θ:List (Nat×V)):List (Nat×V):=(0,.str nm.1)::(1,.str nm.2)::θ
noncomputable def oI(θ:List (Nat×V)):Bool:=List.rec true (λq _ ih=>aa (Nat.ble 64 q.1) (aa (Nat.blt q.1 2000) (aa (aa (Nat.blt q.1 128) (b9 q.2) true) ih false) false) false) θ
theorem Sy(h:oI θ=true):∀q∈θ,64<=q.1/\q.1<2000/\(q.1<128->b9 q.2=true):=by
 induction θ with
 |nil=>exact λ_ q=>nomatch q
 |cons p r ih=>
  have h1:=aO (h)
  have h2:=aO h1.2
  have h3:=aO h2.2
  refine bD ⟨⟨dL h1.1,cF h2.1,λlt=>?_⟩,ih h3.2⟩
  have:=h3.1
  rw[mQ lt] at this
  exact this
theorem Bk(hb:oI θ=true):b6 (vL nm hn θ h) (au (oD nm θ)) (λ_=>none):=by
 refine⟨λn w e=>?_,λ_ _ e=>ns e⟩
 have e:au ((0,V.str nm.1)::(1,V.str nm.2)::θ) n=some w:=e
 rw[dy,dy] at e
 by_cases h0:0=n
 · rw[aG h0] at e;obtain rfl:=af e;subst h0;exact⟨rfl,rfl⟩
 · rw[ax h0] at e
   by_cases h1:1=n
   · rw[aG h1] at e;obtain rfl:=af e;subst h1;exact⟨rfl,rfl⟩
   · rw[ax h1] at e
     obtain⟨a,b,t⟩:=Sy hb (n,w) (nZ e)
     have g:mT θ n=w:=by unfold mT;rw[e]
     refine⟨?_,i8 w (h (n,w) (nZ e))⟩
     show(vP (K4 nm hn θ h) [] (0,0)).ρ n=w
     rw[lG]
     by_cases c:n<128
     · rw[Gp a c]
       show wA θ n=w
       unfold wA
       rw[g,t c];rfl
     · rw[tC (by omega) (by have:=b;omega),GN (.inl b)];exact g
theorem i6{f:List Nat->Bool}(h:iH f=true){i:Nat}(hi:i<13):f (aL i)=true:=bZ h i hi
def kJ(n:Nat)(v:V):Bool:=bw v n
theorem Re:iH (λw=>bO (λs=>bO (λnr=>bO (λnp=>aa (kJ 20 (dT w (Nat.add 40 s))) (aa (kJ 20 (iJ w (Nat.add 40 s) nr np)) (aa (b9 (iJ w (Nat.add 40 s) nr np)) (kJ 20 (eF w)) false) false) false) 3) 3) 2)=true:=by kernel_rfl
theorem ND:bO (λnr=>aa (b9 (ca nr)) (kJ 20 (ca nr)) false) 3=true:=by kernel_rfl
theorem fp{n:Nat}(h:n<3){P:Nat->Prop}(h0:P 0)(h1:P 1)(h2:P 2):P n:=by
 match n,h with
 |0,_=>exact h0
 |1,_=>exact h1
 |2,_=>exact h2
theorem oG{np:Nat}(h:np<3):∀v∈gZ np,dz v=true:=by
 refine fp h (P:=λnp=>∀v∈gZ np,dz v=true) (λ_ q=>nomatch q) (bD ⟨rfl,λ_ q=>nomatch q⟩) (bD ⟨rfl,bD ⟨rfl,λ_ q=>nomatch q⟩⟩)
theorem ml(h:kQ f=true)(b:Bool):f b=true:=by
 have h:=aO (h)
 cases b<;>first|exact h.1|exact h.2
structure WF(i s nr np:Nat):Prop where
 tf:bw (dT (aL i) (Nat.add 40 s)) 20=true
 df:bw (iJ (aL i) (Nat.add 40 s) nr np) 20=true
 dt:b9 (iJ (aL i) (Nat.add 40 s) nr np)=true
 of:bw (eF (aL i)) 20=true
theorem gJ{i s nr np:Nat}(hi:i<13)(hs:s<2)(hr:nr<3)(hp:np<3):WF i s nr np:=by
 have h:=bZ (bZ (bZ (i6 Re hi) s hs) nr hr) np hp
 have h1:=aO h
 have h2:=aO h1.2
 have h3:=aO h2.2
 exact⟨h1.1,h2.1,h3.1,h3.2⟩
theorem jG{nr:Nat}(hr:nr<3):b9 (ca nr)=true/\bw (ca nr) 20=true:=aO (bZ ND nr hr)
noncomputable def lH(i0 i1 nr np:Nat)(p0 p1:Bool):List (Nat×V):=
 [(100,ca nr),(240,.str (aL i0)),(241,.str (aL i1)),(250,.bool p0),(251,.bool p1),(260,dT (aL i0) (Nat.add 40 0)),(261,dT (aL i1) (Nat.add 40 1)),(70,iJ (aL i0) (Nat.add 40 0) nr np),(71,iJ (aL i1) (Nat.add 40 1) nr np)]
section
variable{w:World}{Hp:Heap}{i0 i1 nr np:Nat}{p0 p1:Bool}{nm:List Nat×List Nat}{hn:seq nm.1 nm.2=false}
theorem zb(h0:i0<13)(h1:i1<13)(hr:nr<3)(hp:np<3):∀q∈lH i0 i1 nr np p0 p1,bw q.2 20=true:=by
 have a:=gJ (s:=0) h0 (by decide) hr hp
 have b:=gJ (s:=1) h1 (by decide) hr hp
 unfold lH
 simp only[List.forall_mem_cons]
 exact⟨(jG hr).2,rfl,rfl,rfl,rfl,a.tf,b.tf,a.df,b.df,λ_ q=>nomatch q⟩
theorem FU(h0:i0<13)(h1:i1<13)(hr:nr<3)(hp:np<3):oI (lH i0 i1 nr np p0 p1)=true:=by
 have a:=gJ (s:=0) h0 (by decide) hr hp
 have b:=gJ (s:=1) h1 (by decide) hr hp
 show aa true (aa true (aa (b9 (ca nr)) (aa true (aa true (aa true (aa true (aa true (aa true (aa true (aa true (aa true (aa true (aa true (aa true (aa true (aa true (aa true (aa true (aa true (aa true (aa true (aa true
  (aa true (aa true (aa (b9 (iJ (aL i0) (Nat.add 40 0) nr np)) (aa true (aa true (aa (b9 (iJ (aL i1) (Nat.add 40 1) nr np)) true false) false) false) false) false) false) false) false) false) false) false) false) false) false) false) false) false) false) false) false) false) false) false) false) false) false) false) false) false=true
 rw[(jG hr).1,a.dt,b.dt];rfl
theorem lW(Y:bu w.params Hp){e:En}(h:fX TZ MC e=true)(v:cc):bT (c0 w Hp) v e:=qk (found Y) (O:=O0) (λk vs H m r e=>ns e) h
theorem JM(Y:bu w.params Hp){v:cc}{θ:Nat->Option V}(O:b6 v θ (λ_=>none)){i s:Nat}(hi:i<13)(hs:s<2)(hr:nr<3)(hp:np<3)(e1:ai θ (mA 0 s)=some (.str (aL i)))(e2:ai θ aR=some (ca nr))(e3:ai θ (mM 0 s)=some (dT (aL i) (Nat.add 40 s)))
 (e4:ai θ (eY 0 s)=some (iJ (aL i) (Nat.add 40 s) nr np)):bT (c0 w Hp) v (wB np s):=by
 have f:=gJ hi hs hr hp
 have E:=lW Y (bZ (bZ (bZ (i6 Yq hi) s hs) nr hr) np hp) v
 refine gw (v:=v) (e:=GO (aL i) (Nat.add 40 s) nr np) (e':=wB np s) (θ:=λ_=>none) (sg:=λ_=>none) ⟨λ_ _ h=>ns h,λ_ _ h=>ns h⟩ O
  (dN (ae rfl (ae rfl (ae (ij _ (i8 _ (jG hr).2)) (ae rfl aT)))) (ae (bX (jb _ (oG hp))) aT) (gW (cG rfl (ij _ (i8 _ f.tf)) (cG rfl (ij _ (i8 _ f.df)) rfl))) rfl rfl)
  (dN (ae e1 (ae rfl (ae e2 (ae rfl aT)))) (ae (bX (jb _ (oG hp))) aT) (gW (cG rfl e3 (cG rfl e4 rfl))) rfl rfl) E
theorem HP(Y:bu w.params Hp){v:cc}{θ:Nat->Option V}(O:b6 v θ (λ_=>none)){i s:Nat}(hi:i<13)(hs:s<2)(hr:nr<3)(hp:np<3)(e4:ai θ (eY 0 s)=some (iJ (aL i) (Nat.add 40 s) nr np)){b:Bool}(hb:(!(Nat.beq (d6 (aL i) nr np) 0))=b):
 bT (c0 w Hp) v (yC b s):=by
 have f:=gJ hi hs hr hp
 have E:=lW Y (bZ (bZ (bZ (i6 RT hi) s hs) nr hr) np hp) v
 subst hb
 exact gw (v:=v) (e:=Jl (aL i) (Nat.add 40 s) nr np) (e':=yC (!(Nat.beq (d6 (aL i) nr np) 0)) s) (θ:=λ_=>none) (sg:=λ_=>none) ⟨λ_ _ h=>ns h,λ_ _ h=>ns h⟩ O (dN (ae (ij _ (i8 _ f.df)) aT) aT (gW rfl) rfl rfl) (dN (ae e4 aT) aT (gW rfl) rfl rfl) E
theorem Sz(Y:bu w.params Hp)(dd:Bool)(hc:c<8)(h0:i0<13)(h1:i1<13)(hr:nr<3)(hp:np<3)(b0:(!(Nat.beq (d6 (aL i0) nr np) 0))=AG c)(b1:aa (Nat.beq c 3) true (Nat.beq c 4)=true->(!(Nat.beq (d6 (aL i1) nr np) 0))=Nat.beq c 4):
 bT (c0 w Hp) (vL nm hn (lH i0 i1 nr np p0 p1) (zb h0 h1 hr hp)) (qx dd c np):=by
 have O:=Bk (nm:=nm) (hn:=hn) (h:=zb (p0:=p0) (p1:=p1) h0 h1 hr hp) (FU (p0:=p0) (p1:=p1) h0 h1 hr hp)
 refine qk (found Y) (λk vs H m r q=>vr (es:=G9 c np) (bD ⟨JM Y O h0 (by decide) hr hp rfl rfl rfl rfl,bD ⟨JM Y O h1 (by decide) hr hp rfl rfl rfl rfl,bD ⟨HP Y O h0 (by decide) hr hp rfl b0,?_⟩⟩⟩) q) (bZ (bZ (ml VD dd) c hc) np hp)
 cases hb:aa (Nat.beq c 3) true (Nat.beq c 4) with
 |false=>exact λ_ q=>nomatch q
 |true=>exact bD ⟨HP Y O h1 (by decide) hr hp rfl (b1 hb),λ_ q=>nomatch q⟩
end
def fD(w:List Nat)(nr np:Nat):Nat:=
 aa (Nat.beq (d6 w nr np) 0) (aa (Nat.beq (len (gC (dT w 0))) 5) 1 0) (aa (Nat.beq (d6 w nr np) 1) (aa (Nat.beq (len (gC (dT w 0))) 2) 2 3) (aa (Nat.beq (d6 w nr np) 3) 4 5))
def cZ(w:List Nat)(s k:Nat):V:=Option.rec .nil (λv=>v) (aj (gC (dT w s)) k)
def KP(o:Nat)(w:List Nat)(s:Nat):V:=
 Option.rec .none (λx=>x) (aj [aA [cZ w s 0,.int (.ofNat s),cZ w s 2],aA [cZ w s 0,.int (.ofNat s),cZ w s 2,cZ w s 3,cZ w s 4],aA [cZ w s 0,.int (.ofNat s)],aA [cZ w s 0,.int (.ofNat s),cZ w s 2],aA [cZ w s 0,.int (.ofNat s),cZ w s 2,cZ w s 3,cZ w s 4],aA [cZ w s 0,.int (.ofNat s),cZ w s 2]] o)
theorem Wl:iH (λw=>bO (λs=>bO (λnr=>bO (λnp=>aa (Nat.blt (fD w nr np) 6) (aa (V.beq (dT w (Nat.add 40 s)) (KP (fD w nr np) w (Nat.add 40 s))) (bO (λk=>kJ 20 (cZ w (Nat.add 40 s) k)) 5) false) false) 3) 3) 2)=true:=by kernel_rfl
theorem ZN:iH (λw=>bO (λnr=>bO (λnp=>aa (Nat.beq (aa (Nat.ble (fD w nr np) 1) 0 (aa (fF (fD w nr np)) 1 (aa (Nat.beq (fD w nr np) 4) 3 2))) (d6 w nr np)) (aa (ot (fF (fD w nr np)) (aa (seq w mH) true (seq w mK))) (ot (Nat.beq (d6 w 2 np) 2) (Nat.beq (fD w nr np) 5)) false) false) 3) 3)=true:=by kernel_rfl
structure gz(θ:Nat->Option V)(i j nr np o:Nat):Prop where
 hi:i<13
 hj:j<2
 out:fD (aL i) nr np=o
 c0:ai θ (fC j 0)=some (cZ (aL i) (Nat.add 40 j) 0)
 c1:ai θ (fC j 1)=some (cZ (aL i) (Nat.add 40 j) 2)
 c2:ai θ (fC j 2)=some (cZ (aL i) (Nat.add 40 j) 3)
 c3:ai θ (fC j 3)=some (cZ (aL i) (Nat.add 40 j) 4)
 t0:ai θ (eY 0 j)=some (eF (aL i))
 t1:ai θ (.atom (Nat.add 340 j))=some (eF (aL i))
 ms:o=4->ai θ (iD 0)=some (.str (eK (aL i)))
structure TG(i s nr np:Nat):Prop where
 lt:fD (aL i) nr np<6
 eq:dT (aL i) (Nat.add 40 s)=KP (fD (aL i) nr np) (aL i) (Nat.add 40 s)
 fl:∀k,k<5->bw (cZ (aL i) (Nat.add 40 s) k) 20=true
theorem vZ(hi:i<13)(hs:s<2)(hr:nr<3)(hp:np<3):TG i s nr np:=by
 have h1:=aO (bZ (bZ (bZ (i6 Wl hi) s hs) nr hr) np hp)
 have h2:=aO h1.2
 exact⟨cF h1.1,HY _ h2.1,bZ h2.2⟩
structure Zw(i nr np:Nat):Prop where
 cls:aa (Nat.ble (fD (aL i) nr np) 1) 0 (aa (fF (fD (aL i) nr np)) 1 (aa (Nat.beq (fD (aL i) nr np) 4) 3 2))=d6 (aL i) nr np
 op:fF (fD (aL i) nr np)=aa (seq (aL i) mH) true (seq (aL i) mK)
 n5:Nat.beq (d6 (aL i) 2 np) 2=Nat.beq (fD (aL i) nr np) 5
theorem DS(h:ot a b=true):a=b:=by cases a<;>cases b<;>first|rfl|exact ft h
theorem up(hi:i<13)(hr:nr<3)(hp:np<3):Zw i nr np:=by
 have h1:=aO (bZ (bZ (i6 ZN hi) nr hr) np hp)
 have h2:=aO h1.2
 exact⟨bx.mp h1.1,DS h2.1,DS h2.2⟩
section
variable{w:World}{Hp:Heap}{nr np:Nat}{v:cc}{θ:Nat->Option V}{i j o:Nat}
theorem vU(R:gz θ i j nr np o)(hr:nr<3)(hp:np<3):ai θ (qH o j)=some (dT (aL i) (Nat.add 40 j)):=by
 have T:=vZ (nr:=nr) (np:=np) R.hi R.hj hr hp
 have lt:=T.lt
 rw[T.eq]
 rw[R.out] at lt ⊢
 match o,lt with
 |0,_=>exact cG rfl R.c0 (cG rfl rfl (cG rfl R.c1 rfl))
 |1,_=>exact cG rfl R.c0 (cG rfl rfl (cG rfl R.c1 (cG rfl R.c2 (cG rfl R.c3 rfl))))
 |2,_=>exact cG rfl R.c0 (cG rfl rfl rfl)
 |3,_=>exact cG rfl R.c0 (cG rfl rfl (cG rfl R.c1 rfl))
 |4,_=>exact cG rfl R.c0 (cG rfl rfl (cG rfl R.c1 (cG rfl R.c2 (cG rfl R.c3 rfl))))
 |5,_=>exact cG rfl R.c0 (cG rfl rfl (cG rfl R.c1 rfl))
theorem wV(R:gz θ i j nr np o):ai θ (og o j)=some (eF (aL i)):=by
 unfold og
 cases fF o with
 |true=>exact R.t1
 |false=>exact R.t0
theorem AN(hi:i<13)(hr:nr<3)(hp:np<3):dz (eF (aL i))=true:=i8 _ (gJ (s:=0) hi (by decide) hr hp).of
theorem YU(Y:bu w.params Hp)(O:b6 v θ (λ_=>none))(R:gz θ i j nr np o)(hr:nr<3)(hp:np<3)(h5:o<5){m M St:V}(e1:ai θ (.atom 270)=some M)(e2:ai θ m=some M)(e3:ai θ (.atom 105)=some St):bT (c0 w Hp) v (AM m np o j):=by
 have W:=up (nr:=nr) (np:=np) R.hi hr hp
 have f:=gJ (s:=j) R.hi R.hj hr hp
 have n5:=W.n5.trans (dY.mpr (by rw[R.out];omega))
 have E0:=bZ (bZ (i6 P3 R.hi) j R.hj) np hp
 rw[n5] at E0
 have E:=lW Y (E0) v
 exact gw (v:=v) (e:=HK (aL i) (Nat.add 40 j) np) (e':=AM m np o j) O O
  (dN (ae rfl (ae e1 (ae rfl (ae e3 (ae (ij _ (i8 _ f.tf)) aT))))) (ae (bX (jb _ (oG hp))) aT) (gW (ij _ (AN R.hi hr hp))) rfl rfl)
  (dN (ae rfl (ae e2 (ae rfl (ae e3 (ae (vU R hr hp) aT))))) (ae (bX (jb _ (oG hp))) aT) (gW (wV R)) rfl rfl) E
theorem Wp(Y:bu w.params Hp)(O:b6 v θ (λ_=>none))(R:gz θ i j nr np o)(hr:nr<3)(hp:np<3):bT (c0 w Hp) v (B9 o j):=by
 have W:=up (nr:=nr) (np:=np) R.hi hr hp
 have E:=lW Y (i6 Wh R.hi) v
 have q:(!(aa (seq (aL i) mH) true (seq (aL i) mK)))= !(fF o):=by rw[← W.op,R.out]
 refine gw (v:=v) (e:=Em (aL i)) (e':=B9 o j) O O (dN (ae (ij _ (AN R.hi hr hp)) aT) aT (gW rfl) rfl rfl) ?_ E
 exact(dN (r:=.ok (.bool (!(aa (seq (aL i) mH) true (seq (aL i) mK))))) (ae (wV R) aT) aT (by rw[q];rfl) rfl rfl)
theorem Tg(Y:bu w.params Hp)(O:b6 v θ (λ_=>none))(R:gz θ i j nr np o)(hr:nr<3)(hp:np<3)(h5:o<5)(ho:fF o=false)(eR:ai θ aR=some (ca nr)):bT (c0 w Hp) v (vf o j):=by
 have W:=up (nr:=nr) (np:=np) R.hi hr hp
 have c:=W.cls
 rw[R.out,ho] at c
 have E0:=bZ (bZ (bZ (i6 XR R.hi) j R.hj) nr hr) np hp
 have tp:=ij (θ:=θ) _ (AN (nr:=nr) (np:=np) R.hi hr hp)
 have rp:=ij (θ:=θ) _ (i8 _ (jG hr).2)
 by_cases h4:o=4
 · subst h4
   have c:=c
   rw[← c] at E0
   have E:=lW Y (E0) v
   have e:sW (aL i) (Nat.add 40 j) nr np=⟨3,[eF (aL i),ca nr,.int (.ofNat (Nat.add 40 j))],[],[],[],30,.exc 1 (.str (eK (aL i))) (.int (.ofNat (Nat.add 40 j))),[],[],[]⟩:=by unfold sW;rw[← c];rfl
   rw[e] at E
   exact gw (v:=v) (e:=⟨3,[eF (aL i),ca nr,.int (.ofNat (Nat.add 40 j))],[],[],[],30,.exc 1 (.str (eK (aL i))) (.int (.ofNat (Nat.add 40 j))),[],[],[]⟩) (e':=vf 4 j) O O (dN (ae tp (ae rp (ae rfl aT))) aT (qc rfl rfl) rfl rfl) (dN (ae (wV R) (ae eR (ae rfl aT))) aT (qc (R.ms rfl) rfl) rfl rfl) E
 · have c:0=d6 (aL i) nr np:=by
    rw[← c]
    have:o<=1:=by
     have:o≠2/\o≠3:=⟨λq=>by subst q;exact tf ho,λq=>by subst q;exact tf ho⟩
     omega
    rw[Nat.ble_eq_true_of_le this];rfl
   rw[← c] at E0
   have E:=lW Y (E0) v
   have e:sW (aL i) (Nat.add 40 j) nr np=⟨3,[eF (aL i),ca nr,.int (.ofNat (Nat.add 40 j))],[],[],[],30,.ok .none,[],[],[]⟩:=by unfold sW;rw[← c];rfl
   have e':vf o j=⟨3,[og o j,aR,db j],[],[],[],30,.ok .none,[],[],[]⟩:=by unfold vf;rw[dY.mpr h4];rfl
   rw[e] at E
   rw[e']
   exact gw (v:=v) (e:=⟨3,[eF (aL i),ca nr,.int (.ofNat (Nat.add 40 j))],[],[],[],30,.ok .none,[],[],[]⟩) (e':=⟨3,[og o j,aR,db j],[],[],[],30,.ok .none,[],[],[]⟩) O O (dN (ae tp (ae rp (ae rfl aT))) aT (gW rfl) rfl rfl) (dN (ae (wV R) (ae eR (ae rfl aT))) aT (gW rfl) rfl rfl) E
end
theorem gV{α:Type}{l:List α}{f:α->Bool}(h:eI l f=true):∀x∈l,f x=true:=by
 induction l with
 |nil=>exact λ_ q=>nomatch q
 |cons y r ih=>
  have h:=aO (h)
  exact bD ⟨h.1,ih h.2⟩
theorem UD(l:List V):cu (aA l)=none:=by cases l<;>rfl
theorem cR(h:aN (ai θ) l=some r):ai θ (aA l)=some (aA r):=by
 induction l generalizing r with
 |nil=>obtain rfl:=af h;rfl
 |cons x q ih=>
  refine bq (h) λy hy h=>bq h λr' hr h=>?_
  obtain rfl:=af h
  exact cG (UD q) hy (ih hr)
section
variable{w:World}{Hp:Heap}{nr np pl:Nat}{v:cc}{θ:Nat->Option V}{m M St:V}{d os:List Nat}
theorem Vg{α:Type}{a b:List α}{P:α->Prop}(h1:∀x∈a,P x)(h2:∀x∈b,P x):∀x∈app a b,P x:=λx q=>by rw[cq] at q;exact(List.mem_append.mp q).elim (h1 x) (h2 x)
theorem Gh(Y:bu w.params Hp)(O:b6 v θ (λ_=>none))(hr:nr<3)(hp:np<3)(e1:ai θ (.atom 270)=some M)(e2:ai θ m=some M)(e3:ai θ (.atom 105)=some St)(eR:ai θ aR=some (ca nr))
 (rows:∀j o,aj os j=some o->o<5->∃i,gz θ i j nr np o):∀e∈uD m np os,bT (c0 w Hp) v e:=by
 have go:∀(os:List Nat) (k:Nat),(∀j o,aj os j=some o->o<5->∃i,gz θ i (k+j) nr np o)->∀e∈(List.rec (motive:=λ_=>Nat->List En) (λ_=>[]) (λo _ ih j=>app (yX m np o j) (ih (Nat.succ j))) os k:List En),bT (c0 w Hp) v e:=by
  intro os
  induction os with
  |nil=>exact λ_ _ _ q=>nomatch q
  |cons o r ih=>
   intro k rows
   refine Vg ?_ (ih (k+1) λj o h5 h=>(by omega:k+(j+1)=k+1+j)▸rows (j+1) o h5 h)
   unfold yX
   cases h5:Nat.blt o 5 with
   |false=>exact λ_ q=>nomatch q
   |true=>
    obtain⟨i,R⟩:=rows 0 o rfl (cF h5)
    have R:=R
    refine bD ⟨YU Y O R hr hp (cF h5) e1 e2 e3,bD ⟨Wp Y O R hr hp,?_⟩⟩
    cases ho:fF o with
    |true=>exact λ_ q=>nomatch q
    |false=>exact bD ⟨Tg Y O R hr hp (cF h5) ho eR,λ_ q=>nomatch q⟩
 exact go os 0 λj o h h5=>(dU j).symm▸rows j o h h5
theorem Be(Y:bu w.params Hp)(O:b6 v θ (λ_=>none))(hr:nr<3)(hp:np<3)(hl:pl<5)(hc:(d,os)∈qb)(e1:ai θ (.atom 270)=some M)(e3:ai θ (.atom 105)=some St)(eR:ai θ aR=some (ca nr))
 (rows:∀j o,aj os j=some o->o<5->∃i,gz θ i j nr np o):bT (c0 w Hp) v (jV qC np pl d os):=
 qk (found Y) (λk vs H m r q=>vr (es:=uD qC np os) (Gh Y O hr hp e1 e1 e3 eR rows) q) (gV (bZ (bZ YO np hp) pl hl) (d,os) hc)
structure vO(θ:Nat->Option V)(m:V)(np pl:Nat)(d os:List Nat)(M St R:V)(trs pre par:List V):Prop where
 m:ai θ m=some M
 st:ai θ (.atom 105)=some St
 r:ai θ aR=some R
 trs:aN (ai θ) (mV d os)=some trs
 pre:aN (ai θ) (mI pl)=some pre
 par:aN (ai θ) (vm np)=some par
theorem RK(ho:ai θ o=some o)(h:aa (Nat.blt a 1000) (aa (Nat.blt b 1000) (aa (Nat.blt c' 1000) (Nat.blt e 1000) false) false) false=true):bA θ sg (iP (.bi a) (.bi b) (.bi c') (.bi e) o)=some (iP (.bi a) (.bi b) (.bi c') (.bi e) o):=by
 have h1:=aO h
 have h2:=aO h1.2
 have h3:=aO h2.2
 have k:∀{x:Nat},Nat.blt x 1000=true->ai θ (.bi x)=some (.bi x):=λ{x} q=>by show aa (Nat.blt x 1000) (some (V.bi x)) none=_;rw[q];rfl
 exact mh (bR (k h1.1) (bR (k h2.1) (bR (k h3.1) (bR (k h3.2) (bR ho aT)))))
variable{Rg:V}{trs yV par:List V}
theorem xL(F:vO θ m np pl d os M St Rg trs yV par)(h1:fQ θ (jV m np pl d os).r=some r)(h2:aN (λp=>aD (bA θ (λ_=>none) p.2) λo=>some (p.1,o)) (jV m np pl d os).ch=some ch)(h3:aN (bA θ λ_=>none) (jV m np pl d os).nw=some nw):
 ja θ (λ_=>none) (jV m np pl d os)=some ⟨53,[.loc 0,.loc 1,aA trs,.int 3],[iP (.bi 14) (.bi 15) (.bi 16) (.bi 17) (ls 2),.inst 12 [(21,M),(41,Rg),(45,ls 3),(23,St)],.list yV,.list par],80,r,ch,nw⟩:=
 dN (ae rfl (ae rfl (ae (cR F.trs) (ae rfl aT))))
  (ae (RK rfl rfl) (ae (mh (bR F.m (bR F.r (bR rfl (bR F.st aT))))) (ae (bX F.pre) (ae (bX F.par) aT)))) h1 h2 h3
end
def gf(v:V):Bool:=V.rec true (λ_=>true) (λ_=>true) (λ_=>true) true (λ_ _ a b=>aa a b false) (λ_=>true) (λ_=>true) (λ_=>true) (λk=>Nat.blt k 1000) (λ_ _=>false) (λ_=>false) v
def oU(l:List V):Bool:=List.rec true (λx _ ih=>aa (gf x) ih false) l
def uW{α:Type}(l:List (α×V)):Bool:=List.rec true (λx _ ih=>aa (gf x.2) ih false) l
def pP(o:aF):Bool:=aF.rec oU uW (λ_ l=>uW l) (λv=>Option.rec true gf v) (λ_=>false) true o
section
variable{θ:Nat->Option V}{sg:Nat->Option (List V)}
theorem oX(v:V):gf v=true->ai θ v=some v:=by
 induction v with
 |none|bool|int|str|nil|loc|fn|cls=>exact λ_=>rfl
 |cons p q hp hq=>
  intro h
  have h:=aO (h)
  exact cG (by cases q<;>first|rfl|exact ft h.2) (hp h.1) (hq h.2)
 |bi k=>exact λh=>by show aa (Nat.blt k 1000) (some (V.bi k)) none=_;rw[show Nat.blt k 1000=true from h];rfl
 |_=>exact λh=>ft h
theorem ve(h:oU l=true):aN (ai θ) l=some l:=by
 induction l with
 |nil=>rfl
 |cons x r ih=>have h:=aO (h);exact ae (oX x h.1) (ih h.2)
theorem ED{α:Type}{l:List (α×V)}(h:uW l=true):aN (λp=>aD (ai θ p.2) λv=>some (p.1,v)) l=some l:=by
 induction l with
 |nil=>rfl
 |cons x r ih=>
  have h:=aO (h)
  exact ae (f:=λp:α×V=>aD (ai θ p.2) λv=>some (p.1,v)) (by rw[oX x.2 h.1];rfl) (ih h.2)
theorem fP{o:aF}(h:pP o=true):bA θ sg o=some o:=by
 cases o with
 |list l=>exact bX (ve h)
 |dict l=>exact AD (ED h)
 |inst k l=>exact mh (ED h)
 |cell v=>cases v with
  |none=>rfl
  |some v=>show aD (ai θ v) (λw=>some (aF.cell (some w)))=_;rw[oX v h];rfl
 |opq=>exact ft h
 |dead=>rfl
end
theorem aab:kQ (λmd=>eI Ks λK=>aa (pP (jr md K.1 K.2)) (aa (pP (jc md)) (gf (dO md)) false) false)=true:=by kernel_rfl
theorem XE:iH (λw=>bO (λnr=>bO (λnp=>aa (Nat.beq (fD w nr np) 5) (aa (seq w wT) true (aa (seq w wU) true (seq w qw))) true) 3) 3)=true:=by kernel_rfl
structure Yd(md:Bool)(K:Option V×Nat):Prop where
 k:pP (jr md K.1 K.2)=true
 t:pP (jc md)=true
 m:gf (dO md)=true
theorem uJ(md:Bool){K:Option V×Nat}(h:K∈Ks):Yd md K:=by
 have h1:=aO (gV (ml aab md) K h)
 have h2:=aO h1.2
 exact⟨h1.1,h2.1,h2.2⟩
section
variable{w:World}{Hp:Heap}{nr np pl:Nat}{v:cc}{θ:Nat->Option V}{md:Bool}{K:Option V×Nat}{St:V}{d os:List Nat}{i j:Nat}
theorem RI(Y:bu w.params Hp)(O:b6 v θ (λ_=>none))(hK:K∈Ks)(R:gz θ i j nr np 5)(hr:nr<3)(hp:np<3)(e3:ai θ (.atom 105)=some St)(em:ai θ (iD 0)=some (.str (qV (aL i)))):bT (c0 w Hp) v (xT md K np j):=by
 have W:=up (nr:=nr) (np:=np) R.hi hr hp
 have D:=uJ md hK
 have f:=gJ (s:=j) R.hi R.hj hr hp
 have h5:=bx.mpr R.out
 have n5:=W.n5.trans h5
 have hw:=bZ (bZ (i6 XE R.hi) nr hr) np hp
 rw[h5] at hw
 have hw:=hw
 have mem:aL i∈[wT,wU,qw]:=by
  cases a:seq (aL i) wT with
  |true=>rw[fj.mp a];exact .head _
  |false=>
   rw[a] at hw
   have hw:=hw
   cases b:seq (aL i) wU with
   |true=>rw[fj.mp b];exact .tail _ (.head _)
   |false=>rw[b] at hw;rw[fj.mp hw];exact .tail _ (.tail _ (.head _))
 have E0:=bZ (bZ (gV (gV (ml Ri md) K hK) _ mem) j R.hj) np hp
 rw[n5] at E0
 have E:=lW Y (E0) v
 have l0:∀{sg:Nat->Option (List V)},aN (bA θ sg) [k7 (ls 2) (.bi 18) (ls 3) (.bi 19) (.bi 20) (.bi 21),.list (gZ np),jr md K.1 K.2,.dict (aa md [([],.bi 22),(cI cm,ls 4)] [([],ls 4)]),kz (ls 5) (.bi 23) (ls 6),jc md,.dict []]
  =some [k7 (ls 2) (.bi 18) (ls 3) (.bi 19) (.bi 20) (.bi 21),.list (gZ np),jr md K.1 K.2,.dict (aa md [([],.bi 22),(cI cm,ls 4)] [([],ls 4)]),kz (ls 5) (.bi 23) (ls 6),jc md,.dict []]:=λ{sg}=>
  ae (fP rfl) (ae (bX (jb _ (oG hp))) (ae (fP D.k) (ae (fP (by cases md<;>rfl)) (ae (fP rfl) (ae (fP D.t) (ae rfl aT))))))
 exact gw (v:=v) (e:=Et md K (aL i) (Nat.add 40 j) np) (e':=xT md K np j) O O
  (dN (ae rfl (ae (oX _ D.m) (ae rfl (ae e3 (ae (ij _ (i8 _ f.tf)) aT))))) l0 (qc rfl rfl) rfl rfl)
  (dN (ae rfl (ae (oX _ D.m) (ae rfl (ae e3 (ae (vU R hr hp) aT))))) l0 (qc em rfl) rfl rfl) E
end
section
variable{w:World}{Hp:Heap}{nr np pl:Nat}{v:cc}{θ:Nat->Option V}{md:Bool}{K:Option V×Nat}{M St Rg:V}{trs yV par:List V}{d os:List Nat}{i j:Nat}
theorem Uu(Y:bu w.params Hp)(O:b6 v θ (λ_=>none))(hr:nr<3)(hp:np<3)(hK:K∈Ks)(hl:pl<n9 K)(hl5:pl<5)(hc:(d,os)∈gr np)(F:vO θ (dO md) np pl d os (dO md) St (ca nr) trs yV par)(e1:ai θ (.atom 270)=some (dO md))
 (rows:∀j o,aj os j=some o->o<5->∃i,gz θ i j nr np o)(five:∀j,eA os=some (5,j)->∃i,gz θ i j nr np 5/\ai θ (iD 0)=some (.str (qV (aL i))))
 (other:∀o j,eA os=some (o,j)->o≠5->(d,os)∈qb/\∃r,fQ θ (nQ d o j)=some r):bT (c0 w Hp) v (A7 md K np pl d os):=by
 have ck:=gV (bZ (bZ (gV (ml U3 md) K hK) np hp) pl hl) (d,os) hc
 refine qk (found Y) (λk vs H m r q=>vr (es:=zz md K np pl d os) ?_ q) ck
 unfold zz
 cases hb:eA os with
 |none=>exact λ_ q=>nomatch q
 |some q=>
  obtain⟨o,j⟩:=q
  show ∀e∈aa (Nat.beq o 5) (xT md K np j::uD (dO md) np (iR j os)) [jV (dO md) np pl d os],bT (c0 w Hp) v e
  cases h5:Nat.beq o 5 with
  |true=>
   have:=bx.mp h5
   subst this
   obtain⟨i,R,em⟩:=five j hb
   refine bD ⟨RI Y O hK R hr hp F.st em,Gh Y O hr hp e1 F.m F.st F.r λj' o' h' h5'=>rows j' o' ?_ h5'⟩
   rw[BF,de] at h'
   rw[de]
   have lt:=(List.getElem?_eq_some_iff.mp h').1
   rw[List.getElem?_take] at h'
   by_cases q:j'<j
   · rw[aG q] at h';exact h'
   · rw[ax q] at h';exact ns h'
  |false=>
   obtain⟨abF,r,er⟩:=other o j hb (dY.mp h5)
   have hA:=Be Y O hr hp hl5 abF e1 F.st F.r rows
   refine bD ⟨?_,λ_ q=>nomatch q⟩
   have vK:∀m:V,fQ θ (jV m np pl d os).r=some r:=λm=>by
    show fQ θ (Option.rec (.ok (ls 4)) (λq=>nQ d q.1 q.2) (eA os))=_
    rw[hb];exact er
   have Nt:∀m:V,aN (λp=>aD (bA θ (λ_=>none) p.2) λo=>some (p.1,o)) (jV m np pl d os).ch=some [(2,.dead)]:=λm=>by
    show aN (λp=>aD (bA θ (λ_=>none) p.2) λo=>some (p.1,o)) [(2,Option.rec (.list (app (mI pl) (tH os))) (λ_=>.dead) (eA os))]=_
    rw[hb];rfl
   have nY:∀m:V,aN (bA θ λ_=>none) (jV m np pl d os).nw=some []:=λm=>by
    show aN (bA θ λ_=>none) (Option.rec [.list (uS d os)] (λ_=>[]) (eA os))=_
    rw[hb];rfl
   exact gw (v:=v) O O (xL (m:=qC) ⟨e1,F.st,F.r,F.trs,F.pre,F.par⟩ (vK _) (Nt _) (nY _)) (xL (m:=dO md) F (vK _) (Nt _) (nY _)) hA
end
def Sf{α β γ:Type}(f:α->Option γ)(g:β->Option γ)(x:α)(y:β):Prop:=∃z,f x=some z/\g y=some z
def SL{α β γ:Type}(f:α->Option γ)(g:β->Option γ)(l:List α)(m:List β):Prop:=∃z,aN f l=some z/\aN g m=some z
theorem qR{α β γ:Type}{f:α->Option γ}{g:β->Option γ}:SL f g [] []:=⟨[],rfl,rfl⟩
theorem bt{α β γ:Type}{f:α->Option γ}{g:β->Option γ}{x:α}{y:β}{l:List α}{m:List β}(h:Sf f g x y)(k:SL f g l m):SL f g (x::l) (y::m):=
 h.elim λ_ a=>k.elim λ_ b=>⟨_,ae a.1 b.1,ae a.2 b.2⟩
theorem Xx{α β γ:Type}{f:α->Option γ}{g:β->Option γ}{l l':List α}{m m':List β}(h:SL f g l m)(k:SL f g l' m'):SL f g (app l l') (app m m'):=by
 rw[cq,cq]
 exact h.elim λ_ a=>k.elim λ_ b=>⟨_,ue a.1 b.1,ue a.2 b.2⟩
theorem dE{α β γ:Type}{f:α->Option γ}{g:β->Option γ}{x:α}{y:β}(h:Sf f g x y):SL f g [x] [y]:=bt h qR
section
variable{θ a6:Nat->Option V}{sg cE:Nat->Option (List V)}
abbrev Sv(θ a6:Nat->Option V)(x y:V):Prop:=Sf (ai θ) (ai a6) x y
abbrev mU(θ a6:Nat->Option V)(l m:List V):Prop:=SL (ai θ) (ai a6) l m
abbrev So(θ a6:Nat->Option V)(sg cE:Nat->Option (List V))(x y:aF):Prop:=Sf (bA θ sg) (bA a6 cE) x y
abbrev CC(θ a6:Nat->Option V)(sg cE:Nat->Option (List V))(l m:List aF):Prop:=SL (bA θ sg) (bA a6 cE) l m
abbrev Sa(θ a6:Nat->Option V)(l m:List (Nat×V)):Prop:=SL (λp=>aD (ai θ p.2) λv=>some (p.1,v)) (λp=>aD (ai a6 p.2) λv=>some (p.1,v)) l m
abbrev Sd(θ a6:Nat->Option V)(l m:List (List Nat×V)):Prop:=SL (λp=>aD (ai θ p.2) λv=>some (p.1,v)) (λp=>aD (ai a6 p.2) λv=>some (p.1,v)) l m
abbrev Sc(θ a6:Nat->Option V)(sg cE:Nat->Option (List V))(l m:List (Nat×aF)):Prop:=SL (λp=>aD (bA θ sg p.2) λo=>some (p.1,o)) (λp=>aD (bA a6 cE p.2) λo=>some (p.1,o)) l m
theorem cw{v:V}(h:gf v=true):Sv θ a6 v v:=⟨v,oX v h,oX v h⟩
theorem jM{l m:List V}(h:mU θ a6 l m):Sv θ a6 (aA l) (aA m):=h.elim λ_ a=>⟨_,cR a.1,cR a.2⟩
theorem zG(h:oU l=true):mU θ a6 l l:=⟨l,ve h,ve h⟩
theorem cr(h:pP o=true):So θ a6 sg cE o o:=⟨o,fP h,fP h⟩
theorem FW(h:mU θ a6 l m):So θ a6 sg cE (.list l) (.list m):=h.elim λ_ a=>⟨_,bX a.1,bX a.2⟩
theorem Ck(h:Sd θ a6 l m):So θ a6 sg cE (.dict l) (.dict m):=h.elim λ_ a=>⟨_,AD a.1,AD a.2⟩
theorem Hj(h:Sa θ a6 l m):So θ a6 sg cE (.inst k l) (.inst k m):=h.elim λ_ a=>⟨_,mh a.1,mh a.2⟩
theorem oJ{α:Type}{k:α}(h:Sv θ a6 x y):Sf (λp:α×V=>aD (ai θ p.2) λv=>some (p.1,v)) (λp:α×V=>aD (ai a6 p.2) λv=>some (p.1,v)) (k,x) (k,y):=
 h.elim λz a=>⟨(k,z),by show aD (ai θ x) (λv=>some (k,v))=_;rw[a.1];rfl,by show aD (ai a6 y) (λv=>some (k,v))=_;rw[a.2];rfl⟩
theorem qg{k:Nat}{x y:V}{l m:List (Nat×V)}(h:Sv θ a6 x y)(r:Sa θ a6 l m):Sa θ a6 ((k,x)::l) ((k,y)::m):=bt (oJ h) r
theorem BQ{k:List Nat}{x y:V}{l m:List (List Nat×V)}(h:Sv θ a6 x y)(r:Sd θ a6 l m):Sd θ a6 ((k,x)::l) ((k,y)::m):=bt (oJ h) r
theorem Fh(h:So θ a6 sg cE x y):Sf (λp:Nat×aF=>aD (bA θ sg p.2) λo=>some (p.1,o)) (λp:Nat×aF=>aD (bA a6 cE p.2) λo=>some (p.1,o)) (k,x) (k,y):=
 h.elim λz a=>⟨(k,z),by show aD (bA θ sg x) (λv=>some (k,v))=_;rw[a.1];rfl,by show aD (bA a6 cE y) (λv=>some (k,v))=_;rw[a.2];rfl⟩
theorem Ad(h:Sv θ a6 x y):Sf (fQ θ) (fQ a6) (.ok x) (.ok y):=h.elim λ_ a=>⟨_,gW a.1,gW a.2⟩
theorem AI(O:b6 v θ sg)(O':b6 v' a6 cE)(k:e'.k=e.k)(d:e'.d=e.d)(h1:mU θ a6 e.vs e'.vs)(h2:CC θ a6 sg cE e.l0 e'.l0)(h3:Sf (fQ θ) (fQ a6) e.r e'.r)(h4:Sc θ a6 sg cE e.ch e'.ch)(h5:CC θ a6 sg cE e.nw e'.nw)(E:bT c v e):bT c v' e':=
 h1.elim λ_ a1=>h2.elim λ_ a2=>h3.elim λ_ a3=>h4.elim λ_ a4=>h5.elim λ_ a5=>gw O O' (dN a1.1 a2.1 a3.1 a4.1 a5.1) (k▸d▸dN a1.2 a2.2 a3.2 a4.2 a5.2) E
end
section
variable{θ a6:Nat->Option V}{sg cE:Nat->Option (List V)}{md:Bool}{K:Option V}{bd iC trs kn:List V}
end
theorem YG{α β γ:Type}{f:α->Option γ}{g:β->Option γ}{l:List α}{m:List β}(h:SL f g l m):ay (Sf f g) l m:=by
 induction l generalizing m with
 |nil=>
  obtain⟨z,h1,h2⟩:=h
  obtain rfl:=af h1
  cases m with
  |nil=>exact .nil
  |cons y r=>exact bq (h2) λ_ _ h2=>bq h2 λ_ _ h2=>nomatch af h2
 |cons x q ih=>
  obtain⟨z,h1,h2⟩:=h
  refine bq (h1) λy hy h1=>bq h1 λr1 hr h1=>?_
  obtain rfl:=af h1
  cases m with
  |nil=>exact nomatch af h2
  |cons y' r'=>
   refine bq (h2) λb hb h2=>bq h2 λr2 hr' h2=>?_
   have e:=af h2
   injection e with e1 e2
   subst e1;subst e2
   exact .cons ⟨_,hy,hb⟩ (ih ⟨_,hr,hr'⟩)
theorem A3{α β:Type}{R:α->β->Prop}{l:List α}{m:List β}(h:ay R l m):len l=len m:=by
 induction h with
 |nil=>rfl
 |cons _ _ ih=>exact aq Nat.succ ih
def PC:Bool:=kQ λmd=>eI cB λfl=>aa (oU (ly fl)) (aa (oU (gj md fl)) (gf (uf (len fl))) false) false
theorem Vq:PC=true:=by kernel_rfl
section
variable{c:Cx}{v v':cc}{θ a6:Nat->Option V}{sg cE:Nat->Option (List V)}{md:Bool}{K:Option V×Nat}{Kf:Option V}{bd iC trs kn:List V}{R R':V}{fl:List Bool}
theorem XJ(nm:List Nat)(h:ay (Sv θ a6) bd iC):mU θ a6 (re nm bd) (re nm iC):=by
 induction nm generalizing bd iC with
 |nil=>exact qR
 |cons x r ih=>
  cases h with
  |nil=>exact qR
  |cons a b=>exact bt (jM (bt (cw rfl) (dE a))) (ih b)
theorem Bo(hR:Sv θ a6 R R')(h:ay (Sv θ a6) bd iC):Sv θ a6 (aA [R,aA (re [84,85] bd)]) (aA [R',aA (re [84,85] iC)]):=jM (bt hR (dE (jM (XJ _ h))))
theorem XV(hF:∀i,i<3->Sv θ a6 (ig i) (ig i))(h:ay (Sv θ a6) trs kn):∀i,i+len trs<=3->mU θ a6 (List.rec (motive:=λ_=>Nat->List V) (λ_=>[]) (λt _ ih i=>CS i t::ih (Nat.succ i)) trs i) (List.rec (motive:=λ_=>Nat->List V) (λ_=>[]) (λt _ ih i=>CS i t::ih (Nat.succ i)) kn i):=by
 induction h with
 |nil=>exact λ_ _=>qR
 | @cons x y l m a b ih=>
  intro i q
  have q:i+Nat.succ (len l)<=3:=q
  exact bt (jM (bt (cw rfl) (bt (hF i (by omega)) (dE a)))) (ih (Nat.succ i) (by omega))
theorem DW(hR:Sv θ a6 aR aR)(hF:∀i,i<3->Sv θ a6 (ig i) (ig i))(hK:∀f,Kf=some f->gf f=true)(hb:ay (Sv θ a6) bd iC)(ht:ay (Sv θ a6) trs kn)(lt:len trs<=3):Sv θ a6 (to Kf bd trs) (to Kf iC kn):=by
 cases Kf with
 |none=>exact jM (bt (cw rfl) (bt (cw rfl) (bt (cw rfl) (bt (Bo hR hb) (bt (jM (XV hF ht 0 ((dU _).symm▸lt))) (dE (cw rfl)))))))
 |some f=>
  refine jM (bt (cw rfl) (bt (cw rfl) (bt (cw rfl) (bt (Bo hR hb) (bt (cw (hK f rfl)) (bt ?_ (dE (cw rfl))))))))
  cases ht with
  |nil=>exact cw rfl
  |cons a b=>exact a
theorem PQ(hR:Sv θ a6 aR aR)(hF:∀i,i<3->Sv θ a6 (ig i) (ig i))(hK:∀f,Kf=some f->gf f=true)(hb:ay (Sv θ a6) bd iC)(ht:ay (Sv θ a6) trs kn)(lt:len trs<=3):mU θ a6 (At md Kf bd trs) (At md Kf iC kn):=by
 have I:=DW hR hF hK hb ht lt
 cases md with
 |true=>exact dE (jM (bt (cw rfl) (bt (cw rfl) (bt (cw rfl) (bt (jM (bt (cw rfl) (dE I))) (dE (cw rfl)))))))
 |false=>exact bt (cw rfl) (dE I)
theorem Ti(O:b6 v θ sg)(O':b6 v' a6 cE)(hR:Sv θ a6 aR aR)(hF:∀i,i<3->Sv θ a6 (ig i) (ig i))(hK:∀f,Kf=some f->gf f=true)(hb:ay (Sv θ a6) bd iC)(ht:ay (Sv θ a6) trs kn)(lt:len trs<=3)
 (hk:pP (jr md Kf (len trs))=true)(hp:gf (uf (len bd))=true)(E:bT c v (pC md Kf bd trs)):bT c v' (pC md Kf iC kn):=by
 have I:=DW hR hF hK hb ht lt
 have J:=PQ (md:=md) hR hF hK hb ht lt
 have l1:=A3 hb
 have l2:=A3 ht
 refine AI (e:=pC md Kf bd trs) (e':=pC md Kf iC kn) O O' rfl rfl (zG rfl) (bt (cr rfl) (dE (FW J))) (Ad (cw rfl)) (dE (Fh (cr rfl))) ?_ E
 show CC θ a6 sg cE (xB md Kf bd trs) (xB md Kf iC kn)
 unfold xB
 refine Xx ?_ ?_
 · refine bt (cr rfl) (bt (l2▸cr hk) (bt (cr (by cases md<;>rfl)) (bt (cr (by cases md<;>rfl)) (bt (cr rfl) (bt (cr (by cases md<;>rfl)) (bt ?_ (bt (cr rfl) (bt ?_ (bt ?_ ?_)))))))))
   · refine cr ?_
     cases md with
     |true=>rfl
     |false=>show uW (aa (tI Kf) _ [])=true;cases tI Kf<;>rfl
   · exact l1▸Ck (BQ (cw rfl) (dE (oJ (jM (bt hR (dE (cw hp)))))))
   · exact Ck (BQ (cw rfl) (dE (oJ I)))
   · exact bt (cr rfl) (bt (cr rfl) (bt (cr rfl) (bt (cr rfl) (bt (cr rfl) (bt (cr rfl) (bt (cr rfl) (bt (cr rfl) (bt (cr rfl) (bt (cr rfl) (dE (cr rfl)))))))))))
 · cases md with
   |false=>exact qR
   |true=>
    refine bt (cr rfl) (bt (cr rfl) (bt (cr ?_) (dE (cr rfl))))
    show uW (aa (tI Kf) _ [])=true
    cases tI Kf<;>rfl
structure NO(md:Bool)(fl:List Bool):Prop where
 b:oU (ly fl)=true
 r:oU (gj md fl)=true
 p:gf (uf (len fl))=true
theorem yd(md:Bool)(h:fl∈cB):NO md fl:=by
 have h1:=aO (gV (ml (Vq) md) fl h)
 have h2:=aO h1.2
 exact⟨h1.1,h2.1,h2.2⟩
theorem QV(O:b6 v θ sg)(O':b6 v' a6 cE)(hR:Sv θ a6 R R')(hK:K∈Ks)(hf:fl∈cB)(E:bT c v (pq md K R fl)):bT c v' (pq md K R' fl):=by
 have F:=yd md hf
 have D:=uJ md hK
 have G:=Bo hR (YG (zG F.b))
 have A:mU θ a6 [.loc 0,.loc 1,w7 R fl,.int 3] [.loc 0,.loc 1,w7 R' fl,.int 3]:=bt (cw rfl) (bt (cw rfl) (bt G (dE (cw rfl))))
 have Nu:∀{p s:V},gf p=true->gf s=true->So θ a6 sg cE (kt md R p s) (kt md R' p s):=λhp hs=>Hj (qg (cw D.m) (qg hR (qg (cw hp) (dE (oJ (cw hs))))))
 have Nv:∀{p s:V},gf p=true->gf s=true->So θ a6 sg cE (kt md .nil p s) (kt md .nil p s):=λhp hs=>Hj (qg (cw D.m) (qg (cw rfl) (qg (cw hp) (dE (oJ (cw hs))))))
 have B:So θ a6 sg cE (.list (gj md fl)) (.list (gj md fl)):=FW (zG F.r)
 revert E
 unfold pq
 cases DR fl with
 |false=>exact λE=>AI (e:=A9 md R fl) (e':=A9 md R' fl) O O' rfl rfl A (bt (cr rfl) (bt (Nv rfl rfl) (dE (cr rfl)))) (Ad (cw rfl)) qR (bt (Nu rfl rfl) (bt B (dE B))) E
 |true=>
  refine λE=>AI (e:=z6 md K R fl) (e':=z6 md K R' fl) O O' rfl rfl A (bt (cr rfl) (bt (Nv rfl rfl) (bt (cr rfl) (bt (cr rfl) (bt (cr D.k) (bt (cr (by cases md<;>rfl)) (bt (cr (by cases md<;>rfl)) (bt ?_ (bt (cr rfl) (dE (cr D.t))))))))))) (Ad (cw rfl)) (dE (Fh (cr rfl))) (bt (Nu rfl rfl) (bt B (bt B (dE (cr rfl))))) E
  exact Ck (BQ (cw rfl) (dE (oJ (jM (bt hR (dE (cw F.p)))))))
end
structure Rl where
 nm:List Nat
 i:Nat
 p:Bool
def a8(nr np:Nat)(r:Rl):Nat:=d6 (aL r.i) nr np
def br(nr np:Nat):List Rl->Nat
 |[]=>0
 |[a]=>aa (Nat.beq (a8 nr np a) 0) 1 2
 |a::b::_=>aa (seq a.nm b.nm) (aa (Nat.beq (a8 nr np a) 0) 5 7) (aa (Nat.beq (a8 nr np a) 0) (aa (Nat.beq (a8 nr np b) 0) 3 4) 6)
def fL(r:Rl):V:=aA [.str r.nm,.str (aL r.i),.bool r.p]
def dZ(j:Nat)(r:Rl):V:=aA [.str r.nm,dT (aL r.i) (Nat.add 40 j),.bool r.p]
def fG(nr np j:Nat)(r:Rl):V:=iJ (aL r.i) (Nat.add 40 j) nr np
def yp(nr np j:Nat)(r:Rl):V:=aA [.str r.nm,fG nr np j r]
def bL(f:List Rl)(j:Nat):Rl:=Option.rec ⟨[],0,false⟩ (λr=>r) (aj f j)
def iY(nr np:Nat)(f:List Rl):V:=Option.rec .none (λx=>x) (aj [.none,.none,fG nr np 0 (bL f 0),.none,fG nr np 1 (bL f 1),aA [kH,.int 3],fG nr np 0 (bL f 0),fG nr np 0 (bL f 0)] (br nr np f))
def bN(c:Nat):Bool:=aa (Nat.beq c 0) true (aa (Nat.beq c 1) true (Nat.beq c 3))
def zC(dd:Bool)(nr np:Nat)(f:List Rl):aF:=aa dd .dead (aa (bN (br nr np f)) (.list (cA (yp nr np) f)) .dead)
def qp(dd:Bool)(nr np:Nat)(f:List Rl):fW:=⟨71,[.loc 0,ca nr,.loc 1],[.list (bM fL f),.list (gZ np)],40,.ok (aA [aA (cA dZ f),ls 2,iY nr np f]),[],[zC dd nr np f]⟩
structure cx(f:List Rl):Prop where
 n:f.length<=2
 i:∀r∈f,r.i<13
 dup:∀a b,f=[a,b]->seq a.nm b.nm=true->a.nm=[97]\/a.nm=[98]\/a.nm=[99]
theorem iN(l:List Nat):seq l (0::l)=false:=by
 cases e:seq l (0::l) with
 |false=>rfl
 |true=>exact aV (aq List.length (fj.mp e)) (by simp)
section
variable{dd:Bool}{w:World}{Hp:Heap}{i0 i1 nr np:Nat}{p0 p1:Bool}{nm:List Nat×List Nat}
theorem mY(hp:np<3)(h1:aN (ai (au (oD nm (lH i0 i1 nr np p0 p1)))) (zQ c)=some rows)(h2:ai (au (oD nm (lH i0 i1 nr np p0 p1))) (aA [aA (Ee c),ls 2,LT c])=some r)
 (h3:bA (au (oD nm (lH i0 i1 nr np p0 p1))) (λ_=>none) (aa dd .dead (KO c))=some o):ja (au (oD nm (lH i0 i1 nr np p0 p1))) (λ_=>none) (qx dd c np)=some ⟨71,[.loc 0,ca nr,.loc 1],[.list rows,.list (gZ np)],40,.ok r,[],[o]⟩:=
 dN (ae rfl (ae rfl (ae rfl aT))) (ae (bX h1) (ae (bX (jb _ (oG hp))) aT)) (gW h2) rfl (ae h3 aT)
theorem wz{n:Nat}(h:Nat.beq n 0=false):(!(Nat.beq n 0))=true:=by rw[h];rfl
theorem sj{n:Nat}(h:Nat.beq n 0=true):(!(Nat.beq n 0))=false:=by rw[h];rfl
def Mz(dd:Bool)(w:World)(Hp:Heap)(nr np:Nat)(f:List Rl):Prop:=∃v θ c,b6 v θ (λ_=>none)/\bT (c0 w Hp) v (qx dd c np)/\ja θ (λ_=>none) (qx dd c np)=some (qp dd nr np f)
theorem nC(Y:bu w.params Hp)(hn:seq nm.1 nm.2=false)(hc:c<8)(h0:i0<13)(h1:i1<13)(hr:nr<3)(hp:np<3)(b0:(!(Nat.beq (d6 (aL i0) nr np) 0))=AG c)(b1:aa (Nat.beq c 3) true (Nat.beq c 4)=true->(!(Nat.beq (d6 (aL i1) nr np) 0))=Nat.beq c 4)
 (e:ja (au (oD nm (lH i0 i1 nr np p0 p1))) (λ_=>none) (qx dd c np)=some (qp dd nr np f)):Mz dd w Hp nr np f:=
 ⟨_,_,c,Bk (nm:=nm) (hn:=hn) (h:=zb (p0:=p0) (p1:=p1) h0 h1 hr hp) (FU (p0:=p0) (p1:=p1) h0 h1 hr hp),Sz Y dd hc h0 h1 hr hp b0 b1,e⟩
theorem ou(h:br nr np f=c):qp dd nr np f=⟨71,[.loc 0,ca nr,.loc 1],[.list (bM fL f),.list (gZ np)],40,.ok (aA [aA (cA dZ f),ls 2,Option.rec .none (λx=>x) (aj [.none,.none,fG nr np 0 (bL f 0),.none,fG nr np 1 (bL f 1),aA [kH,.int 3],fG nr np 0 (bL f 0),fG nr np 0 (bL f 0)] c)]),[],[aa dd .dead (aa (bN c) (.list (cA (yp nr np) f)) .dead)]⟩:=by
 unfold qp iY zC
 rw[h]
theorem S7(Y:bu w.params Hp)(hr:nr<3)(hp:np<3):∀f,cx f->Mz dd w Hp nr np f
 |[],_=>nC (i0:=0) (i1:=0) (p0:=true) (p1:=true) (nm:=([],[0])) Y rfl (c:=0) (by decide) (by decide) (by decide) hr hp rfl (λq=>ft q) (mY hp rfl rfl (by cases dd<;>rfl))
 |[a],h=>by
  have ha:=h.i a (.head _)
  cases e:Nat.beq (a8 nr np a) 0 with
  |true=>
   have hc:br nr np [a]=1:=by show aa (Nat.beq (a8 nr np a) 0) 1 2=1;rw[e];rfl
   exact nC (i0:=a.i) (i1:=a.i) (p0:=a.p) (p1:=a.p) (nm:=(a.nm,0::a.nm)) Y (iN _) (c:=1) (by decide) ha ha hr hp (sj e) (λq=>ft q) (ou hc▸mY hp rfl rfl (by cases dd<;>rfl))
  |false=>
   have hc:br nr np [a]=2:=by show aa (Nat.beq (a8 nr np a) 0) 1 2=2;rw[e];rfl
   exact nC (i0:=a.i) (i1:=a.i) (p0:=a.p) (p1:=a.p) (nm:=(a.nm,0::a.nm)) Y (iN _) (c:=2) (by decide) ha ha hr hp (wz e) (λq=>ft q) (ou hc▸mY hp rfl rfl (by cases dd<;>rfl))
 |[a,b],h=>by
  have ha:=h.i a (.head _)
  have hb:=h.i b (.tail _ (.head _))
  cases q:seq a.nm b.nm with
  |true=>
   have qe:=fj.mp q
   cases e:Nat.beq (a8 nr np a) 0 with
   |true=>
    have hc:br nr np [a,b]=5:=by show aa (seq a.nm b.nm) (aa (Nat.beq (a8 nr np a) 0) 5 7) (aa (Nat.beq (a8 nr np a) 0) (aa (Nat.beq (a8 nr np b) 0) 3 4) 6)=5;rw[q,e];rfl
    exact nC (i0:=a.i) (i1:=b.i) (p0:=a.p) (p1:=b.p) (nm:=(a.nm,0::a.nm)) Y (iN _) (c:=5) (by decide) ha hb hr hp (sj e) (λq=>ft q) (ou hc▸mY hp (by show _=some [fL a,aA [.str b.nm,.str (aL b.i),.bool b.p]];rw[← qe];rfl) (by show _=some (aA [aA [dZ 0 a,aA [.str b.nm,dT (aL b.i) (Nat.add 40 1),.bool b.p]],ls 2,aA [kH,.int 3]]);rw[← qe];rfl) (by cases dd<;>rfl))
   |false=>
    have hc:br nr np [a,b]=7:=by show aa (seq a.nm b.nm) (aa (Nat.beq (a8 nr np a) 0) 5 7) (aa (Nat.beq (a8 nr np a) 0) (aa (Nat.beq (a8 nr np b) 0) 3 4) 6)=7;rw[q,e];rfl
    exact nC (i0:=a.i) (i1:=b.i) (p0:=a.p) (p1:=b.p) (nm:=(a.nm,0::a.nm)) Y (iN _) (c:=7) (by decide) ha hb hr hp (wz e) (λq=>ft q) (ou hc▸mY hp (by show _=some [fL a,aA [.str b.nm,.str (aL b.i),.bool b.p]];rw[← qe];rfl) (by show _=some (aA [aA [dZ 0 a,aA [.str b.nm,dT (aL b.i) (Nat.add 40 1),.bool b.p]],ls 2,fG nr np 0 a]);rw[← qe];rfl) (by cases dd<;>rfl))
  |false=>
   cases e:Nat.beq (a8 nr np a) 0 with
   |true=>
    cases e':Nat.beq (a8 nr np b) 0 with
    |true=>
     have hc:br nr np [a,b]=3:=by show aa (seq a.nm b.nm) (aa (Nat.beq (a8 nr np a) 0) 5 7) (aa (Nat.beq (a8 nr np a) 0) (aa (Nat.beq (a8 nr np b) 0) 3 4) 6)=3;rw[q,e,e'];rfl
     exact nC (i0:=a.i) (i1:=b.i) (p0:=a.p) (p1:=b.p) (nm:=(a.nm,b.nm)) Y q (c:=3) (by decide) ha hb hr hp (sj e) (λ_=>sj e') (ou hc▸mY hp rfl rfl (by cases dd<;>rfl))
    |false=>
     have hc:br nr np [a,b]=4:=by show aa (seq a.nm b.nm) (aa (Nat.beq (a8 nr np a) 0) 5 7) (aa (Nat.beq (a8 nr np a) 0) (aa (Nat.beq (a8 nr np b) 0) 3 4) 6)=4;rw[q,e,e'];rfl
     exact nC (i0:=a.i) (i1:=b.i) (p0:=a.p) (p1:=b.p) (nm:=(a.nm,b.nm)) Y q (c:=4) (by decide) ha hb hr hp (sj e) (λ_=>wz e') (ou hc▸mY hp rfl rfl (by cases dd<;>rfl))
   |false=>
    have hc:br nr np [a,b]=6:=by show aa (seq a.nm b.nm) (aa (Nat.beq (a8 nr np a) 0) 5 7) (aa (Nat.beq (a8 nr np a) 0) (aa (Nat.beq (a8 nr np b) 0) 3 4) 6)=6;rw[q,e];rfl
    exact nC (i0:=a.i) (i1:=b.i) (p0:=a.p) (p1:=b.p) (nm:=(a.nm,b.nm)) Y q (c:=6) (by decide) ha hb hr hp (wz e) (λq=>ft q) (ou hc▸mY hp rfl rfl (by cases dd<;>rfl))
 |_::_::_::_,h=>aV h.n (by simp)
end
noncomputable def dM(nr np:Nat)(f:List Rl):Bool:=aa (Nat.beq (br nr np f) 4) (Nat.beq (a8 nr np (bL f 1)) 1) (aa (Nat.beq (br nr np f) 5) false (Nat.beq (a8 nr np (bL f 0)) 1))
structure JS(θ:Nat->Option V)(i j nr np:Nat)(r:Rl):Prop where
 nm:ai θ (lq i j)=some (.str r.nm)
 wd:ai θ (mA i j)=some (.str (aL r.i))
 pb:ai θ (jU i j)=some (.bool r.p)
 te:ai θ (mM i j)=some (dT (aL r.i) (Nat.add 40 j))
 du:ai θ (eY i j)=some (fG nr np j r)
inductive jZ(θ:Nat->Option V)(sg:Nat->Option (List V))(nr np i:Nat)(f:List Rl):Fc->Prop
 |ok:bN (br nr np f)=true->(∀j r,aj f j=some r->JS θ i j nr np r)->jZ θ sg nr np i f (.ok (len f))
 |bad:bN (br nr np f)=false->sg (Nat.succ i)=some (bM fL f)->ai θ (hY i)=some (aA (cA dZ f))->ai θ (aA [aa (dM nr np f) qi kH,l4 i])=some (iY nr np f)->jZ θ sg nr np i f (.bad (dM nr np f))
 |aft (b:Bool):sg (Nat.succ i)=some (bM fL f)->ai θ (hY i)=some (aA (cA dZ f))->ai θ (aa b (.atom (Nat.add 110 i)) .none)=some (iY nr np f)->jZ θ sg nr np i f (.aft b)
theorem OG(h:bN c=true):c=0\/c=1\/c=3:=by
 unfold bN at h
 cases a:Nat.beq c 0 with
 |true=>exact .inl (bx.mp a)
 |false=>
  rw[a] at h
  cases b:Nat.beq c 1 with
  |true=>exact .inr (.inl (bx.mp b))
  |false=>rw[b] at h;exact .inr (.inr (bx.mp h))
theorem Fj(h:bN (br nr np f)=true):iY nr np f=.none:=by
 unfold iY
 rcases OG h with e|e|e<;>rw[e]<;>rfl
section
variable{w:World}{Hp:Heap}{v:cc}{θ:Nat->Option V}{sg:Nat->Option (List V)}{nr np i:Nat}{f:List Rl}{fc:Fc}{fl:List Bool}
theorem oV(hn:f.length<=2)(h:∀j r,aj f j=some r->ai θ (g j)=some (q j r)):aN (ai θ) (bM g (co 0 (len f)))=some (cA q f):=by
 cases f with
 |nil=>rfl
 |cons a f=>cases f with
  |nil=>exact ae (h 0 a rfl) aT
  |cons b f=>cases f with
   |nil=>exact ae (h 0 a rfl) (ae (h 1 b rfl) aT)
   |cons=>exact aV hn (Nat.not_le.mpr (Nat.le_add_left 3 _))
theorem Ln(q:Rl->V)(f:List Rl)(k:Nat):(List.rec (motive:=λ_=>Nat->List V) (λ_=>[]) (λx _ ih i=>q x::ih (Nat.succ i)) f k:List V)=bM q f:=by
 induction f generalizing k with
 |nil=>rfl
 |cons x r ih=>exact aq (q x:: ·) (ih (Nat.succ k))
noncomputable def Fc.dd(f:Fc):Bool:=Fc.rec (λ_=>false) (λ_=>true) (λ_=>true) f
theorem Sp(Y:bu w.params Hp)(O:b6 v θ sg)(hr:nr<3)(hp:np<3)(hl:len fl=np)(hf:cx f)(eR:ai θ aR=some (ca nr))(F:jZ θ sg nr np i f fc):bT (c0 w Hp) v (rF fl i fc):=by
 obtain⟨v0,DH,c,O0,E,e⟩:=S7 (dd:=fc.dd) Y hr hp f hf
 refine gw O0 O e ?_ E
 subst hl
 have DI:aN (ai θ) (qt fl)=some (gZ (len fl)):=jb _ (oG hp)
 have vs:aN (ai θ) [V.loc 0,aR,.loc 1]=some [.loc 0,ca nr,.loc 1]:=ae rfl (ae eR (ae rfl aT))
 cases F with
 |ok hc h=>
  have r1:aN (ai θ) (bM (λj=>aA [lq i j,mA i j,jU i j]) (co 0 (len f)))=some (bM fL f):=by
   rw[← Ln fL f 0]
   exact oV hf.n λj r g=>cR (ae (h j r g).nm (ae (h j r g).wd (ae (h j r g).pb aT)))
  have r2:=cR (oV hf.n λj r g=>cR (ae (h j r g).nm (ae (h j r g).te (ae (h j r g).pb aT))))
  have r3:=oV hf.n λj r g=>cR (ae (h j r g).nm (ae (h j r g).du aT))
  have p:zC false nr (len fl) f=.list (cA (yp nr (len fl)) f):=by show aa (bN _) _ _=_;rw[hc];rfl
  refine(?_:_=some (qp false nr (len fl) f))
  unfold qp
  rw[p,Fj hc]
  exact dN (e:=rF fl i (.ok (len f))) vs (ae (bX r1) (ae (bX DI) aT)) (gW (cR (ae r2 (ae rfl (ae rfl aT))))) rfl (ae (bX r3) aT)
 |bad hc s t u=>
  exact dN (e:=rF fl i (.bad (dM nr (len fl) f))) vs (ae (qM s) (ae (bX DI) aT)) (gW (cR (ae t (ae rfl (ae u aT))))) rfl (ae rfl aT)
 |aft b s t u=>
  exact dN (e:=rF fl i (.aft b)) vs (ae (qM s) (ae (bX DI) aT)) (gW (cR (ae t (ae rfl (ae u aT))))) rfl (ae rfl aT)
end
def jq(md:Bool)(nr:Nat)(fl:List Bool):V:=aA [Gd,kX md,ca nr,aA (bM (λx=>aA [rr,x]) (qt fl))]
def gg(pre:List (V×Nat))(q:Nat):V×Nat:=Option.rec (.nil,0) (λx=>x) (aj pre q)
def nN(md:Bool)(fl:List Bool)(k:Nat):V:=Option.rec .nil (λb=>aa b (aA [nK md]) .nil) (aj fl k)
def v7(j:Nat)(r:Rl):List (Nat×V):=
 [(Nat.add 70 j,eF (aL r.i)),(Nat.add 250 j,.bool r.p),(Nat.add 260 j,dT (aL r.i) (Nat.add 40 j)),(Nat.add 320 (Nat.mul 5 j),cZ (aL r.i) (Nat.add 40 j) 0),(Nat.add 321 (Nat.mul 5 j),cZ (aL r.i) (Nat.add 40 j) 2),(Nat.add 322 (Nat.mul 5 j),cZ (aL r.i) (Nat.add 40 j) 3),(Nat.add 323 (Nat.mul 5 j),cZ (aL r.i) (Nat.add 40 j) 4),(Nat.add 340 j,eF (aL r.i))]
def yx(md:Bool)(nr:Nat)(fl:List Bool)(pre:List (V×Nat))(a b:Rl)(ms:List Nat):List (Nat×V):=
 (100,ca nr)::(105,jq md nr fl)::(270,dO md)::(290,nN md fl 0)::(291,nN md fl 1)::(220,.str ms)::(360,.str b.nm)::
  (300,(gg pre 0).1)::(301,(gg pre 1).1)::(302,(gg pre 2).1)::(303,(gg pre 3).1)::(310,.int (.ofNat (gg pre 0).2))::(311,.int (.ofNat (gg pre 1).2))::(312,.int (.ofNat (gg pre 2).2))::(313,.int (.ofNat (gg pre 3).2))::app (v7 0 a) (v7 1 b)
def Td:Bool:=kQ λmd=>bO (λnr=>eI cB λfl=>aa (b9 (jq md nr fl)) (aa (kJ 20 (jq md nr fl)) (aa (kJ 20 (dO md)) (aa (kJ 20 (nN md fl 0)) (kJ 20 (nN md fl 1)) false) false) false) false) 3
theorem WP:Td=true:=by kernel_rfl
theorem JC:iH (λw=>b9 (eF w))=true:=by kernel_rfl
structure TN(md:Bool)(nr:Nat)(fl:List Bool):Prop where
 t:b9 (jq md nr fl)=true
 f:bw (jq md nr fl) 20=true
 m:bw (dO md) 20=true
 b0:bw (nN md fl 0) 20=true
 b1:bw (nN md fl 1) 20=true
theorem MA(md:Bool)(hr:nr<3)(hf:fl∈cB):TN md nr fl:=by
 have h1:=aO (gV (bZ (ml (WP) md) nr hr) fl hf)
 have h2:=aO h1.2
 have h3:=aO h2.2
 have h4:=aO h3.2
 exact⟨h1.1,h2.1,h3.1,h4.1,h4.2⟩
section
variable{md:Bool}{nr np:Nat}{fl:List Bool}{pre:List (V×Nat)}{a b:Rl}{ms:List Nat}
theorem vR(hq:∀q∈pre,bw q.1 20=true)(k:Nat):bw (gg pre k).1 20=true:=by
 unfold gg
 rw[de]
 cases e:pre[k]? with
 |none=>rfl
 |some q=>exact hq q (List.mem_of_getElem? e)
theorem QT(hr:nr<3)(hf:fl∈cB)(ha:a.i<13)(hb:b.i<13)(hq:∀q∈pre,bw q.1 20=true):∀q∈yx md nr fl pre a b ms,bw q.2 20=true:=by
 have S:=MA md hr hf
 have f0:=gJ (s:=0) (np:=0) ha (by decide) hr (by decide)
 have f1:=gJ (s:=1) (np:=0) hb (by decide) hr (by decide)
 have t0:=(vZ (s:=0) (np:=0) ha (by decide) hr (by decide)).fl
 have t1:=(vZ (s:=1) (np:=0) hb (by decide) hr (by decide)).fl
 show ∀q∈(100,ca nr)::(105,jq md nr fl)::(270,dO md)::(290,nN md fl 0)::(291,nN md fl 1)::(220,V.str ms)::(360,V.str b.nm)::
  (300,(gg pre 0).1)::(301,(gg pre 1).1)::(302,(gg pre 2).1)::(303,(gg pre 3).1)::(310,V.int (.ofNat (gg pre 0).2))::(311,V.int (.ofNat (gg pre 1).2))::(312,V.int (.ofNat (gg pre 2).2))::(313,V.int (.ofNat (gg pre 3).2))::
  (Nat.add 70 0,eF (aL a.i))::(Nat.add 250 0,V.bool a.p)::(Nat.add 260 0,dT (aL a.i) (Nat.add 40 0))::(Nat.add 320 (Nat.mul 5 0),cZ (aL a.i) (Nat.add 40 0) 0)::(Nat.add 321 (Nat.mul 5 0),cZ (aL a.i) (Nat.add 40 0) 2)::(Nat.add 322 (Nat.mul 5 0),cZ (aL a.i) (Nat.add 40 0) 3)::(Nat.add 323 (Nat.mul 5 0),cZ (aL a.i) (Nat.add 40 0) 4)::(Nat.add 340 0,eF (aL a.i))::
  v7 1 b,bw q.2 20=true
 unfold v7
 simp only[List.forall_mem_cons]
 exact⟨(jG hr).2,S.f,S.m,S.b0,S.b1,rfl,rfl,vR hq 0,vR hq 1,vR hq 2,vR hq 3,rfl,rfl,rfl,rfl,f0.of,rfl,f0.tf,t0 0 (by decide),t0 2 (by decide),t0 3 (by decide),t0 4 (by decide),f0.of,f1.of,rfl,f1.tf,t1 0 (by decide),t1 2 (by decide),t1 3 (by decide),t1 4 (by decide),f1.of,λ_ q=>nomatch q⟩
theorem o8(h1:Nat.ble 64 k=true)(h2:Nat.blt k 2000=true)(h3:aa (Nat.blt k 128) (b9 x) true=true)(h:oI r=true):oI ((k,x)::r)=true:=by
 show aa (Nat.ble 64 k) (aa (Nat.blt k 2000) (aa (aa (Nat.blt k 128) (b9 x) true) (oI r) false) false) false=true
 rw[h1,h2,h3,h];rfl
theorem Uk(hr:nr<3)(hf:fl∈cB)(ha:a.i<13)(hb:b.i<13):oI (yx md nr fl pre a b ms)=true:=by
 have S:=MA md hr hf
 have t0:=i6 JC ha
 have t1:=i6 JC hb
 iterate 15 first
  |refine o8 rfl rfl rfl ?_
  |refine o8 rfl rfl (jG hr).1 ?_
  |refine o8 rfl rfl S.t ?_
 refine o8 rfl rfl t0 ?_
 iterate 7 refine o8 rfl rfl rfl ?_
 refine o8 rfl rfl t1 ?_
 iterate 7 refine o8 rfl rfl rfl ?_
 rfl
end
def oR(nr np:Nat)(r:Rl):Nat:=fD (aL r.i) nr np
def hV(l:List (V×Nat)):List V:=bM (λq=>aA [q.1,ls 1,.int (.ofNat q.2)]) l
def cH(nm:List Nat×List Nat)(md:Bool)(nr:Nat)(fl:List Bool)(pre:List (V×Nat))(a b:Rl)(ms:List Nat):Nat->Option V:=au (oD nm (yx md nr fl pre a b ms))
theorem Q7(h:o<6)(e:aa (Nat.ble o 1) 0 (aa (fF o) 1 (aa (Nat.beq o 4) 3 2))=c):(c=0/\(o=0\/o=1))\/(c=1/\(o=2\/o=3))\/(c=3/\o=4)\/(c=2/\o=5):=by
 subst e
 exact(by decide:∀o:Fin 6,(aa (Nat.ble o.1 1) 0 (aa (fF o.1) 1 (aa (Nat.beq o.1 4) 3 2))=0/\(o.1=0\/o.1=1))\/(aa (Nat.ble o.1 1) 0 (aa (fF o.1) 1 (aa (Nat.beq o.1 4) 3 2))=1/\(o.1=2\/o.1=3))\/(aa (Nat.ble o.1 1) 0 (aa (fF o.1) 1 (aa (Nat.beq o.1 4) 3 2))=3/\o.1=4)\/(aa (Nat.ble o.1 1) 0 (aa (fF o.1) 1 (aa (Nat.beq o.1 4) 3 2))=2/\o.1=5)) ⟨o,h⟩
section
variable{nm:List Nat×List Nat}{md:Bool}{nr np:Nat}{fl:List Bool}{pre:List (V×Nat)}{a b:Rl}{ms:List Nat}
theorem AU(ha:a.i<13)(hr:nr<3)(hp:np<3):(a8 nr np a=0/\(oR nr np a=0\/oR nr np a=1))\/(a8 nr np a=1/\(oR nr np a=2\/oR nr np a=3))\/(a8 nr np a=3/\oR nr np a=4)\/(a8 nr np a=2/\oR nr np a=5):=
 Q7 (vZ (s:=0) ha (by decide) hr hp).lt (up ha hr hp).cls
theorem gO(ha:a.i<13)(hm:oR nr np a=4->ms=eK (aL a.i)):gz (cH nm md nr fl pre a b ms) a.i 0 nr np (oR nr np a):=
 ⟨ha,by decide,rfl,rfl,rfl,rfl,rfl,rfl,rfl,λh=>by rw[← hm h];rfl⟩
theorem qJ(hb:b.i<13)(hm:oR nr np b=4->ms=eK (aL b.i)):gz (cH nm md nr fl pre a b ms) b.i 1 nr np (oR nr np b):=
 ⟨hb,by decide,rfl,rfl,rfl,rfl,rfl,rfl,rfl,λh=>by rw[← hm h];rfl⟩
theorem CJ(h:pre.length<5):aN (ai (cH nm md nr fl pre a b ms)) (mI (len pre))=some (hV pre):=by
 cases pre with
 |nil=>rfl
 |cons _ p=>cases p with
  |nil=>rfl
  |cons _ p=>cases p with
   |nil=>rfl
   |cons _ p=>cases p with
    |nil=>rfl
    |cons _ p=>cases p with
     |nil=>rfl
     |cons=>exact aV h (Nat.not_lt.mpr (Nat.le_add_left 5 _))
theorem Ir(hf:fl∈cB):aN (ai (cH nm md nr fl pre a b ms)) (vm (len fl))=some (gj md fl):=by
 exact sZ (P:=λfl=>aN (ai (cH nm md nr fl pre a b ms)) (vm (len fl))=some (gj md fl)) rfl rfl rfl rfl rfl rfl rfl fl hf
theorem ju(ha:a.i<13)(hr:nr<3)(hp:np<3)(hm:oR nr np a=4->ms=eK (aL a.i))(hn:ai (cH nm md nr fl pre a b ms) DJ=some (.str a.nm)):ai (cH nm md nr fl pre a b ms) (aA [DJ,qH (oR nr np a) 0,jU 0 0])=some (dZ 0 a):=
 cR (ae hn (ae (vU (gO ha hm) hr hp) (ae rfl aT)))
theorem x8(hb:b.i<13)(hr:nr<3)(hp:np<3)(hm:oR nr np b=4->ms=eK (aL b.i))(hn:ai (cH nm md nr fl pre a b ms) DJ=some (.str b.nm)):ai (cH nm md nr fl pre a b ms) (aA [DJ,qH (oR nr np b) 1,jU 0 1])=some (dZ 1 b):=
 cR (ae hn (ae (vU (qJ hb hm) hr hp) (ae rfl aT)))
theorem LJ{d os:List Nat}(hf:fl∈cB)(hq:pre.length<5)(ht:aN (ai (cH nm md nr fl pre a b ms)) (mV d os)=some trs):vO (cH nm md nr fl pre a b ms) qC (len fl) (len pre) d os (dO md) (jq md nr fl) (ca nr) trs (hV pre) (gj md fl):=
 ⟨rfl,rfl,rfl,ht,CJ hq,Ir hf⟩
theorem Wr{d os:List Nat}(hf:fl∈cB)(hq:pre.length<5)(ht:aN (ai (cH nm md nr fl pre a b ms)) (mV d os)=some trs):vO (cH nm md nr fl pre a b ms) (dO md) (len fl) (len pre) d os (dO md) (jq md nr fl) (ca nr) trs (hV pre) (gj md fl):=
 ⟨by cases md<;>rfl,rfl,rfl,ht,CJ hq,Ir hf⟩
theorem B8(hr:nr<3)(hf:fl∈cB)(ha:a.i<13)(hb:b.i<13)(hq:∀q∈pre,bw q.1 20=true):b6 (vL nm hn (yx md nr fl pre a b ms) (QT hr hf ha hb hq)) (cH nm md nr fl pre a b ms) (λ_=>none):=Bk (Uk hr hf ha hb)
end
def ww(nr np:Nat)(f:List Rl):List V:=cA (λj r=>aA [fG nr np j r,ls 1,db j]) f
def xQ(md:Bool)(nr:Nat)(fl:List Bool)(pre:List (V×Nat))(f:List Rl)(r:Rz)(ch:List (Nat×aF))(nw:List aF):fW:=
 ⟨53,[.loc 0,.loc 1,aA (cA dZ f),.int 3],[iP (.bi 14) (.bi 15) (.bi 16) (.bi 17) (ls 2),.inst 12 [(21,dO md),(41,ca nr),(45,ls 3),(23,jq md nr fl)],.list (hV pre),.list (gj md fl)],80,r,ch,nw⟩
def rg(w:World)(Hp:Heap)(S:fW):Prop:=∃v θ e,b6 v θ (λ_=>none)/\bT (c0 w Hp) v e/\ja θ (λ_=>none) e=some S
section
variable{w:World}{Hp:Heap}{nm:List Nat×List Nat}{md:Bool}{nr np:Nat}{fl:List Bool}{pre:List (V×Nat)}{a b:Rl}{ms:List Nat}{f:List Rl}
theorem Cs(Y:bu w.params Hp)(hn:seq nm.1 nm.2=false)(hr:nr<3)(hf:fl∈cB)(hp:len fl<3)(ha:a.i<13)(hb:b.i<13)(hq:∀q∈pre,bw q.1 20=true)(hl:pre.length<5){os:List Nat}(hc:([],os)∈qb)(h0:eA os=none)
 (rows:∀j o,aj os j=some o->o<5->∃i,gz (cH nm md nr fl pre a b ms) i j nr (len fl) o)(ht:aN (ai (cH nm md nr fl pre a b ms)) (mV [] os)=some (cA dZ f))(h2:aN (ai (cH nm md nr fl pre a b ms)) (tH os)=some nws)
 (h3:aN (ai (cH nm md nr fl pre a b ms)) (uS [] os)=some fnd):rg w Hp (xQ md nr fl pre f (.ok (ls 4)) [(2,.list (app (hV pre) nws))] [.list fnd]):=by
 have O:=B8 (md:=md) (ms:=ms) (hn:=hn) hr hf ha hb hq
 have hH:len pre<5:=by rw[bH];exact hl
 refine⟨_,_,_,O,Be (pl:=len pre) Y O hr hp hH hc rfl rfl rfl rows,xL (LJ hf hl ht) ?_ ?_ ?_⟩
 · show fQ (cH nm md nr fl pre a b ms) (Option.rec (.ok (ls 4)) (λq=>nQ [] q.1 q.2) (eA os))=_
   rw[h0];rfl
 · show aN (λp:Nat×aF=>aD (bA (cH nm md nr fl pre a b ms) (λ_=>none) p.2) λo=>some (p.1,o)) [(2,Option.rec (.list (app (mI (len pre)) (tH os))) (λ_=>.dead) (eA os))]=_
   rw[h0,cq,cq]
   exact Lh (bX (ue (CJ hl) h2)) aT
 · show aN (bA (cH nm md nr fl pre a b ms) λ_=>none) (Option.rec [.list (uS [] os)] (λ_=>[]) (eA os))=_
   rw[h0]
   exact ae (bX h3) aT
theorem rq(h:a8 nr np a=0)(j:Nat):fG nr np j a=eF (aL a.i):=by
 show aa (Nat.beq (a8 nr np a) 0) (eF (aL a.i)) _=_
 rw[h];rfl
theorem sK{n:Nat}(h:Nat.beq n 0=true):n=0:=bx.mp h
theorem t9(ha:a.i<13)(hr:nr<3)(hp:np<3)(h:a8 nr np a=0):oR nr np a=0\/oR nr np a=1:=by
 rcases AU ha hr hp with q|q|q|q
 · exact q.2
 all_goals exact aV (h.symm.trans q.1) (by decide)
theorem qI{o:Nat}(h:o=0\/o=1){P:Prop}:o=4->P:=λq=>by rcases h with h|h<;>rw[h] at q<;>exact aV q (by decide)
theorem wP{x:Nat}{P:Nat->Nat->Prop}(h0:P 0 x):∀j o,aj [x] j=some o->o<5->P j o
 |0,_,h,_=>af h▸h0
 |_+1,_,h,_=>ns h
theorem ng{x y:Nat}{P:Nat->Nat->Prop}(h0:P 0 x)(h1:y<5->P 1 y):∀j o,aj [x,y] j=some o->o<5->P j o
 |0,_,h,_=>af h▸h0
 |1,_,h,q=>by obtain rfl:=af h;exact h1 q
 |_+2,_,h,_=>ns h
theorem Zo(Y:bu w.params Hp)(hr:nr<3)(hf:fl∈cB)(hp:len fl<3)(hq:∀q∈pre,bw q.1 20=true)(hl:pre.length<5):∀f,cx f->bN (br nr (len fl) f)=true->rg w Hp (xQ md nr fl pre f (.ok (ls 4)) [(2,.list (app (hV pre) (ww nr (len fl) f)))] [.list (cA (yp nr (len fl)) f)])
 |[],_,_=>Cs (nm:=([],[0])) (a:=⟨[],0,false⟩) (b:=⟨[],0,false⟩) (ms:=[]) (os:=[]) Y rfl hr hf hp (by decide) (by decide) hq hl (by decide) rfl (λ_ _ h=>ns h) rfl rfl rfl
 |[a],h,hc=>by
  have ha:=h.i a (.head _)
  have c0:a8 nr (len fl) a=0:=by
   cases e:Nat.beq (a8 nr (len fl) a) 0 with
   |true=>exact sK e
   |false=>
    have:bN (aa (Nat.beq (a8 nr (len fl) a) 0) 1 2)=true:=hc
    rw[e] at this;exact ft this
  have o:=t9 ha hr hp c0
  have o4:oR nr (len fl) a=4->([]:List Nat)=eK (aL a.i):=qI o
  refine Cs (nm:=(a.nm,0::a.nm)) (a:=a) (b:=a) (ms:=[]) (os:=[oR nr (len fl) a]) Y (iN _) hr hf hp ha ha hq hl ?_ ?_ (wP ⟨a.i,gO ha o4⟩) ?_ ?_ ?_
  · rcases o with o|o<;>rw[o]<;>decide
  · rcases o with o|o<;>rw[o]<;>rfl
  · refine ae (ju ha hr hp o4 ?_) aT
    rcases o with o|o<;>rw[o]<;>rfl
  · exact ae (cR (ae (by rw[rq c0];rfl) (ae rfl (ae rfl aT)))) aT
  · refine ae (cR (ae ?_ (ae (by rw[rq c0];rfl) aT))) aT
    rcases o with o|o<;>rw[o]<;>rfl
 |[a,b],h,hc=>by
  have ha:=h.i a (.head _)
  have hb:=h.i b (.tail _ (.head _))
  have hc:bN (aa (seq a.nm b.nm) (aa (Nat.beq (a8 nr (len fl) a) 0) 5 7) (aa (Nat.beq (a8 nr (len fl) a) 0) (aa (Nat.beq (a8 nr (len fl) b) 0) 3 4) 6))=true:=hc
  cases q:seq a.nm b.nm with
  |true=>rw[q] at hc;cases e:Nat.beq (a8 nr (len fl) a) 0<;>rw[e] at hc<;>exact ft hc
  |false=>
   rw[q] at hc
   cases e:Nat.beq (a8 nr (len fl) a) 0 with
   |false=>rw[e] at hc;exact ft hc
   |true=>
    rw[e] at hc
    cases e':Nat.beq (a8 nr (len fl) b) 0 with
    |false=>rw[e'] at hc;exact ft hc
    |true=>
     have c0:=sK e
     have c1:=sK e'
     have o:=t9 ha hr hp c0
     have o':=t9 hb hr hp c1
     have o4:oR nr (len fl) a=4->([]:List Nat)=eK (aL a.i):=qI o
     have vM:oR nr (len fl) b=4->([]:List Nat)=eK (aL b.i):=qI o'
     refine Cs (nm:=(a.nm,b.nm)) (a:=a) (b:=b) (ms:=[]) (os:=[oR nr (len fl) a,oR nr (len fl) b]) Y q hr hf hp ha hb hq hl ?_ ?_ (ng ⟨a.i,gO ha o4⟩ λ_=>⟨b.i,qJ hb vM⟩) ?_ ?_ ?_
     · rcases o with o|o<;>rcases o' with o'|o'<;>rw[o,o']<;>decide
     · rcases o with o|o<;>rcases o' with o'|o'<;>rw[o,o']<;>rfl
     · refine ae (ju ha hr hp o4 ?_) (ae (x8 hb hr hp vM ?_) aT)
       · rcases o with o|o<;>rw[o]<;>rfl
       · rcases o' with o|o<;>rw[o]<;>rfl
     · exact ae (cR (ae (by rw[rq c0];rfl) (ae rfl (ae rfl aT)))) (ae (cR (ae (by rw[rq c1];rfl) (ae rfl (ae rfl aT)))) aT)
     · refine ae (cR (ae ?_ (ae (by rw[rq c0];rfl) aT))) (ae (cR (ae ?_ (ae (by rw[rq c1];rfl) aT))) aT)
       · rcases o with o|o<;>rw[o]<;>rfl
       · rcases o' with o|o<;>rw[o]<;>rfl
 |_::_::_::_,h,_=>aV h.n (by simp)
end
def dF(nr np:Nat)(f:List Rl):V:=Option.rec .none (λx=>x) (aj [.none,.none,db 0,.none,db 1,.int 3,db 0,db 0] (br nr np f))
section
variable{w:World}{Hp:Heap}{nm:List Nat×List Nat}{md:Bool}{nr np:Nat}{fl:List Bool}{pre:List (V×Nat)}{a b:Rl}{ms:List Nat}{f:List Rl}
theorem Cr(Y:bu w.params Hp)(hn:seq nm.1 nm.2=false)(hr:nr<3)(hf:fl∈cB)(hp:len fl<3)(ha:a.i<13)(hb:b.i<13)(hq:∀q∈pre,bw q.1 20=true)(hl:pre.length<5){os:List Nat}(hc:([],os)∈qb)(h0:eA os=some (o,j))(ho:fF o=true)
 (rows:∀j o,aj os j=some o->o<5->∃i,gz (cH nm md nr fl pre a b ms) i j nr (len fl) o)(ht:aN (ai (cH nm md nr fl pre a b ms)) (mV [] os)=some (cA dZ f)):rg w Hp (xQ md nr fl pre f (.exc 3 rG (db j)) [(2,.dead)] []):=by
 have O:=B8 (md:=md) (ms:=ms) (hn:=hn) hr hf ha hb hq
 have hH:len pre<5:=by rw[bH];exact hl
 refine⟨_,_,_,O,Be (pl:=len pre) Y O hr hp hH hc rfl rfl rfl rows,xL (LJ hf hl ht) ?_ ?_ ?_⟩
 · show fQ (cH nm md nr fl pre a b ms) (Option.rec (.ok (ls 4)) (λq=>nQ [] q.1 q.2) (eA os))=_
   rw[h0]
   show fQ (cH nm md nr fl pre a b ms) (aa (fF o) (.exc 3 rG (db j)) _)=_
   rw[ho];rfl
 · show aN (λp:Nat×aF=>aD (bA (cH nm md nr fl pre a b ms) (λ_=>none) p.2) λo=>some (p.1,o)) [(2,Option.rec (.list (app (mI (len pre)) (tH os))) (λ_=>.dead) (eA os))]=_
   rw[h0];rfl
 · show aN (bA (cH nm md nr fl pre a b ms) λ_=>none) (Option.rec [.list (uS [] os)] (λ_=>[]) (eA os))=_
   rw[h0];rfl
theorem Bl(ha:a.i<13)(hr:nr<3)(hp:np<3)(h:a8 nr np a=1):oR nr np a=2\/oR nr np a=3:=by
 rcases AU ha hr hp with q|q|q|q
 · exact aV (h.symm.trans q.1) (by decide)
 · exact q.2
 all_goals exact aV (h.symm.trans q.1) (by decide)
theorem BN{o:Nat}(h:o=2\/o=3){P:Prop}:o=4->P:=λq=>by rcases h with h|h<;>rw[h] at q<;>exact aV q (by decide)
theorem wF{f:List Rl}(hc:br nr np f=c)(h:dM nr np f=true):aa (Nat.beq c 4) (Nat.beq (a8 nr np (bL f 1)) 1) (aa (Nat.beq c 5) false (Nat.beq (a8 nr np (bL f 0)) 1))=true:=by
 unfold dM at h
 rw[hc] at h;exact h
theorem QS(Y:bu w.params Hp)(hr:nr<3)(hf:fl∈cB)(hp:len fl<3)(hq:∀q∈pre,bw q.1 20=true)(hl:pre.length<5):∀f,cx f->bN (br nr (len fl) f)=false->dM nr (len fl) f=true->rg w Hp (xQ md nr fl pre f (.exc 3 rG (dF nr (len fl) f)) [(2,.dead)] [])
 |[],_,hc,_=>tf hc
 |[a],h,hc,ty=>by
  have ha:=h.i a (.head _)
  cases e:Nat.beq (a8 nr (len fl) a) 0 with
  |true=>exact tf ((show bN (aa (Nat.beq (a8 nr (len fl) a) 0) 1 2)=true by rw[e];rfl).symm.trans hc)
  |false=>
   have hc:br nr (len fl) [a]=2:=by show aa (Nat.beq (a8 nr (len fl) a) 0) 1 2=2;rw[e];rfl
   have o:=Bl ha hr hp (bx.mp (wF hc ty))
   have o4:oR nr (len fl) a=4->([]:List Nat)=eK (aL a.i):=BN o
   have sp:dF nr (len fl) [a]=db 0:=by unfold dF;rw[hc];rfl
   rw[sp]
   refine Cr (nm:=(a.nm,0::a.nm)) (a:=a) (b:=a) (ms:=[]) (os:=[oR nr (len fl) a]) (o:=oR nr (len fl) a) (j:=0) Y (iN _) hr hf hp ha ha hq hl ?_ ?_ ?_ (wP ⟨a.i,gO ha o4⟩) ?_
   · rcases o with o|o<;>rw[o]<;>decide
   · rcases o with o|o<;>rw[o]<;>rfl
   · rcases o with o|o<;>rw[o]<;>rfl
   · refine ae (ju ha hr hp o4 ?_) aT
     rcases o with o|o<;>rw[o]<;>rfl
 |[a,b],h,hc,ty=>by
  have ha:=h.i a (.head _)
  have hb:=h.i b (.tail _ (.head _))
  have ec:br nr (len fl) [a,b]=aa (seq a.nm b.nm) (aa (Nat.beq (a8 nr (len fl) a) 0) 5 7) (aa (Nat.beq (a8 nr (len fl) a) 0) (aa (Nat.beq (a8 nr (len fl) b) 0) 3 4) 6):=rfl
  cases e:Nat.beq (a8 nr (len fl) a) 0 with
  |false=>
   have hc:br nr (len fl) [a,b]=6\/br nr (len fl) [a,b]=7:=by
    rw[ec,e]
    cases seq a.nm b.nm
    · exact .inl rfl
    · exact .inr rfl
   have c1:a8 nr (len fl) a=1:=by rcases hc with hc|hc<;>exact bx.mp (wF hc ty)
   have sp:dF nr (len fl) [a,b]=db 0:=by unfold dF;rcases hc with hc|hc<;>rw[hc]<;>rfl
   have o:=Bl ha hr hp c1
   have o4:oR nr (len fl) a=4->([]:List Nat)=eK (aL a.i):=BN o
   rw[sp]
   refine Cr (nm:=(a.nm,0::a.nm)) (a:=a) (b:=b) (ms:=[]) (os:=[oR nr (len fl) a,7]) (o:=oR nr (len fl) a) (j:=0) Y (iN _) hr hf hp ha hb hq hl ?_ ?_ ?_ (ng ⟨a.i,gO ha o4⟩ λq=>aV q (by decide)) ?_
   · rcases o with o|o<;>rw[o]<;>decide
   · rcases o with o|o<;>rw[o]<;>rfl
   · rcases o with o|o<;>rw[o]<;>rfl
   · refine ae (ju ha hr hp o4 ?_) (ae rfl aT)
     rcases o with o|o<;>rw[o]<;>rfl
  |true=>
   rw[e] at ec
   cases q:seq a.nm b.nm with
   |true=>
    have c5:br nr (len fl) [a,b]=5:=by rw[ec,q];rfl
    exact ft (wF c5 ty)
   |false=>
    rw[q] at ec
    cases e':Nat.beq (a8 nr (len fl) b) 0 with
    |true=>
     have c3:br nr (len fl) [a,b]=3:=by rw[ec,e'];rfl
     rw[c3] at hc;exact tf hc
    |false=>
     have c4:br nr (len fl) [a,b]=4:=by rw[ec,e'];rfl
     have c1:=bx.mp (wF c4 ty)
     have sp:dF nr (len fl) [a,b]=db 1:=by unfold dF;rw[c4];rfl
     have o:=t9 ha hr hp (sK e)
     have o':=Bl hb hr hp c1
     have o4:oR nr (len fl) a=4->([]:List Nat)=eK (aL a.i):=qI o
     have vM:oR nr (len fl) b=4->([]:List Nat)=eK (aL b.i):=BN o'
     rw[sp]
     refine Cr (nm:=(a.nm,b.nm)) (a:=a) (b:=b) (ms:=[]) (os:=[oR nr (len fl) a,oR nr (len fl) b]) (o:=oR nr (len fl) b) (j:=1) Y q hr hf hp ha hb hq hl ?_ ?_ ?_ (ng ⟨a.i,gO ha o4⟩ λ_=>⟨b.i,qJ hb vM⟩) ?_
     · rcases o with o|o<;>rcases o' with o'|o'<;>rw[o,o']<;>decide
     · rcases o with o|o<;>rcases o' with o'|o'<;>rw[o,o']<;>rfl
     · rcases o' with o|o<;>rw[o]<;>rfl
     · refine ae (ju ha hr hp o4 ?_) (ae (x8 hb hr hp vM ?_) aT)
       · rcases o with o|o<;>rw[o]<;>rfl
       · rcases o' with o|o<;>rw[o]<;>rfl
 |_::_::_::_,h,_,_=>aV h.n (by simp)
end
def G0(md:Bool)(K:Option V×Nat)(nr:Nat)(fl:List Bool)(pre:List (V×Nat))(f:List Rl)(m sp:V):fW:=
 ⟨53,[.loc 0,.loc 1,aA (cA dZ f),.int 3],[iP (.bi 14) (ls 4) (.bi 16) (.bi 17) (ls 2),.inst 12 [(21,dO md),(41,ca nr),(45,ls 3),(23,jq md nr fl)],.list (hV pre),.list (gj md fl),k7 (ls 5) (.bi 18) (ls 6) (.bi 19) (.bi 20) (.bi 21),jr md K.1 K.2,.dict (aa md [([],.bi 22),(cI cm,ls 7)] [([],ls 7)]),kz (ls 8) (.bi 23) (ls 9),jc md,.dict []],80,
  .exc 1 m sp,[(2,.dead),(4,.dead)],[]⟩
theorem Se:iH (λw=>bO (λnr=>bO (λnp=>aa (Nat.beq (fD w nr np) 5) (Nat.blt np 2) true) 3) 3)=true:=by kernel_rfl
section
variable{w:World}{Hp:Heap}{nm:List Nat×List Nat}{md:Bool}{nr np:Nat}{fl:List Bool}{pre:List (V×Nat)}{a b:Rl}{ms:List Nat}{f:List Rl}{K:Option V×Nat}
theorem py(Y:bu w.params Hp)(hn:seq nm.1 nm.2=false)(hr:nr<3)(hf:fl∈cB)(hp:len fl<3)(hK:K∈Ks)(ha:a.i<13)(hb:b.i<13)(hq:∀q∈pre,bw q.1 20=true)(hl:pre.length<5)(hk:len pre<n9 K){d os:List Nat}(hc:(d,os)∈gr (len fl))(h0:eA os=some (o,j))
 (vK:fQ (cH nm md nr fl pre a b ms) (nQ d o j)=some (.exc 1 (.str ms) sp))(h5:o=5->∃i,gz (cH nm md nr fl pre a b ms) i j nr (len fl) 5/\ms=qV (aL i))(hA:o≠5->(d,os)∈qb)
 (rows:∀j o,aj os j=some o->o<5->∃i,gz (cH nm md nr fl pre a b ms) i j nr (len fl) o)(ht:aN (ai (cH nm md nr fl pre a b ms)) (mV d os)=some (cA dZ f)):rg w Hp (G0 md K nr fl pre f (.str ms) sp):=by
 have O:=B8 (md:=md) (ms:=ms) (hn:=hn) hr hf ha hb hq
 have hH:len pre<5:=by rw[bH];exact hl
 have F:=Wr hf hl ht
 have D:=uJ md hK
 refine⟨_,_,_,O,Uu (pl:=len pre) Y O hr hp hK hk hH hc F rfl rows ?_ ?_,dN (e:=A7 md K (len fl) (len pre) d os) (ae rfl (ae rfl (ae (cR F.trs) (ae rfl aT)))) ?_ ?_ rfl rfl⟩
 · intro j' e
   have e:=af (h0.symm.trans e)
   injection e with e1 e2
   subst e2
   obtain⟨i,R,q⟩:=h5 e1
   exact⟨i,R,by rw[← q];rfl⟩
 · intro o' j' e ne
   have e:=af (h0.symm.trans e)
   injection e with e1 e2
   subst e1;subst e2
   exact⟨hA ne,_,vK⟩
 · exact ae (mh (bR rfl (bR rfl (bR rfl (bR rfl (bR rfl aT)))))) (ae (mh (bR F.m (bR F.r (bR rfl (bR F.st aT))))) (ae (bX F.pre) (ae (bX F.par)
    (ae (fP rfl) (ae (fP D.k) (ae (fP (by cases md<;>rfl)) (ae (fP rfl) (ae (fP D.t) (ae rfl aT)))))))))
 · show fQ (cH nm md nr fl pre a b ms) (Option.rec (.ok .none) (λq=>nQ d q.1 q.2) (eA os))=_
   rw[h0];exact vK
theorem X6(ha:a.i<13)(hr:nr<3)(hp:np<3)(h:oR nr np a=5):np<2:=by
 have e:=bZ (bZ (i6 Se ha) nr hr) np hp
 rw[show fD (aL a.i) nr np=5 from h] at e
 exact cF e
end
def gK(nr np:Nat)(r:Rl):List Nat:=aa (Nat.beq (oR nr np r) 4) (eK (aL r.i)) (qV (aL r.i))
def jB(nr np:Nat)(f:List Rl):List Nat:=Option.rec [] (λx=>x) (aj [[],[],gK nr np (bL f 0),[],gK nr np (bL f 1),cI (xp (bL f 0).nm),gK nr np (bL f 0),gK nr np (bL f 0)] (br nr np f))
section
variable{w:World}{Hp:Heap}{md:Bool}{nr np:Nat}{fl:List Bool}{pre:List (V×Nat)}{a b:Rl}{K:Option V×Nat}
theorem Au(ha:a.i<13)(hr:nr<3)(hp:np<3)(h:Nat.beq (a8 nr np a) 0=false)(h':Nat.beq (a8 nr np a) 1=false):oR nr np a=4\/(oR nr np a=5/\np<2):=by
 rcases AU ha hr hp with q|q|q|q
 · rw[q.1] at h;exact tf h
 · rw[q.1] at h';exact tf h'
 · exact .inl q.2
 · exact .inr ⟨q.2,X6 ha hr hp q.2⟩
theorem A8(hc:br nr np f=c)(h:dM nr np f=false):aa (Nat.beq c 4) (Nat.beq (a8 nr np (bL f 1)) 1) (aa (Nat.beq c 5) false (Nat.beq (a8 nr np (bL f 0)) 1))=false:=by
 unfold dM at h
 rw[hc] at h;exact h
theorem oL{n:Nat}{P:Nat->Prop}(h:n<2)(h0:P 0)(h1:P 1):P n:=
 match n,h with
 |0,_=>h0
 |1,_=>h1
theorem rB(h:oR nr np a=4):gK nr np a=eK (aL a.i):=by unfold gK;rw[h];rfl
theorem AV(h:oR nr np a=5):gK nr np a=qV (aL a.i):=by unfold gK;rw[h];rfl
theorem VI(Y:bu w.params Hp)(hr:nr<3)(hf:fl∈cB)(hp:len fl<3)(hK:K∈Ks)(hq:∀q∈pre,bw q.1 20=true)(hl:pre.length<5)(hk:len pre<n9 K):∀f,cx f->bN (br nr (len fl) f)=false->dM nr (len fl) f=false->rg w Hp (G0 md K nr fl pre f (.str (jB nr (len fl) f)) (dF nr (len fl) f))
 |[],_,hc,_=>tf hc
 |[a],h,hc,ty=>by
  have ha:=h.i a (.head _)
  cases e:Nat.beq (a8 nr (len fl) a) 0 with
  |true=>exact tf ((show bN (aa (Nat.beq (a8 nr (len fl) a) 0) 1 2)=true by rw[e];rfl).symm.trans hc)
  |false=>
   have hc:br nr (len fl) [a]=2:=by show aa (Nat.beq (a8 nr (len fl) a) 0) 1 2=2;rw[e];rfl
   have sp:dF nr (len fl) [a]=db 0:=by unfold dF;rw[hc];rfl
   have mq:jB nr (len fl) [a]=gK nr (len fl) a:=by unfold jB;rw[hc];rfl
   rw[sp,mq]
   rcases Au ha hr hp e (A8 hc ty) with o|⟨o,n2⟩
   · refine py (nm:=(a.nm,0::a.nm)) (a:=a) (b:=a) (d:=[]) (os:=[oR nr (len fl) a]) (o:=4) (j:=0) Y (iN _) hr hf hp hK ha ha hq hl hk ?_ (by rw[o];rfl) rfl (λq=>aV q (by decide)) (λ_=>by rw[o];decide) (wP ⟨a.i,gO ha λ_=>rB o⟩) ?_
     · rw[o];exact fp hp (P:=λnp=>([],[4])∈gr np) (by decide) (by decide) (by decide)
     · exact ae (ju ha hr hp (λ_=>rB o) (by rw[o];rfl)) aT
   · have o4:oR nr (len fl) a=4->gK nr (len fl) a=eK (aL a.i):=λq=>aV (o.symm.trans q) (by decide)
     refine py (nm:=(a.nm,0::a.nm)) (a:=a) (b:=a) (d:=[]) (os:=[oR nr (len fl) a]) (o:=5) (j:=0) Y (iN _) hr hf hp hK ha ha hq hl hk ?_ (by rw[o];rfl) rfl (λ_=>⟨a.i,o▸gO ha o4,AV o⟩) (λq=>aV rfl q) (wP ⟨a.i,gO ha o4⟩) ?_
     · rw[o];exact oL n2 (P:=λnp=>([],[5])∈gr np) (by decide) (by decide)
     · exact ae (ju ha hr hp o4 (by rw[o];rfl)) aT
 |[a,b],h,hc,ty=>by
  have ha:=h.i a (.head _)
  have hb:=h.i b (.tail _ (.head _))
  have ec:br nr (len fl) [a,b]=aa (seq a.nm b.nm) (aa (Nat.beq (a8 nr (len fl) a) 0) 5 7) (aa (Nat.beq (a8 nr (len fl) a) 0) (aa (Nat.beq (a8 nr (len fl) b) 0) 3 4) 6):=rfl
  cases e:Nat.beq (a8 nr (len fl) a) 0 with
  |false=>
   have hc:br nr (len fl) [a,b]=6\/br nr (len fl) [a,b]=7:=by
    rw[ec,e]
    cases seq a.nm b.nm
    · exact .inl rfl
    · exact .inr rfl
   have sp:dF nr (len fl) [a,b]=db 0:=by unfold dF;rcases hc with hc|hc<;>rw[hc]<;>rfl
   have mq:jB nr (len fl) [a,b]=gK nr (len fl) a:=by unfold jB;rcases hc with hc|hc<;>rw[hc]<;>rfl
   have n1:Nat.beq (a8 nr (len fl) a) 1=false:=by rcases hc with hc|hc<;>exact A8 hc ty
   rw[sp,mq]
   rcases Au ha hr hp e n1 with o|⟨o,n2⟩
   · refine py (nm:=(a.nm,0::a.nm)) (a:=a) (b:=b) (d:=[]) (os:=[oR nr (len fl) a,7]) (o:=4) (j:=0) Y (iN _) hr hf hp hK ha hb hq hl hk ?_ (by rw[o];rfl) rfl (λq=>aV q (by decide)) (λ_=>by rw[o];decide) (ng ⟨a.i,gO ha λ_=>rB o⟩ λq=>aV q (by decide)) ?_
     · rw[o];exact fp hp (P:=λnp=>([],[4,7])∈gr np) (by decide) (by decide) (by decide)
     · exact ae (ju ha hr hp (λ_=>rB o) (by rw[o];rfl)) (ae rfl aT)
   · have o4:oR nr (len fl) a=4->gK nr (len fl) a=eK (aL a.i):=λq=>aV (o.symm.trans q) (by decide)
     refine py (nm:=(a.nm,0::a.nm)) (a:=a) (b:=b) (d:=[]) (os:=[oR nr (len fl) a,7]) (o:=5) (j:=0) Y (iN _) hr hf hp hK ha hb hq hl hk ?_ (by rw[o];rfl) rfl (λ_=>⟨a.i,o▸gO ha o4,AV o⟩) (λq=>aV rfl q) (ng ⟨a.i,gO ha o4⟩ λq=>aV q (by decide)) ?_
     · rw[o];exact oL n2 (P:=λnp=>([],[5,7])∈gr np) (by decide) (by decide)
     · exact ae (ju ha hr hp o4 (by rw[o];rfl)) (ae rfl aT)
  |true=>
   rw[e] at ec
   have oa:=t9 ha hr hp (sK e)
   cases q:seq a.nm b.nm with
   |true=>
    have c5:br nr (len fl) [a,b]=5:=by rw[ec,q];rfl
    have sp:dF nr (len fl) [a,b]=.int 3:=by unfold dF;rw[c5];rfl
    have mq:jB nr (len fl) [a,b]=cI (xp a.nm):=by unfold jB;rw[c5];rfl
    have qe:=fj.mp q
    rw[sp,mq]
    have o4:oR nr (len fl) a=4->cI (xp a.nm)=eK (aL a.i):=qI oa
    refine py (nm:=(a.nm,0::a.nm)) (a:=a) (b:=b) (d:=a.nm) (os:=[oR nr (len fl) a,6]) (o:=6) (j:=1) Y (iN _) hr hf hp hK ha hb hq hl hk ?_ ?_ rfl (λq=>aV q (by decide)) (λ_=>?_) (ng ⟨a.i,gO ha o4⟩ λq=>aV q (by decide)) ?_
    · rcases h.dup a b rfl q with z|z|z<;>rcases oa with o|o<;>rw[o,z]
      · exact fp hp (P:=λnp=>([97],[0,6])∈gr np) (by decide) (by decide) (by decide)
      · exact fp hp (P:=λnp=>([97],[1,6])∈gr np) (by decide) (by decide) (by decide)
      · exact fp hp (P:=λnp=>([98],[0,6])∈gr np) (by decide) (by decide) (by decide)
      · exact fp hp (P:=λnp=>([98],[1,6])∈gr np) (by decide) (by decide) (by decide)
      · exact fp hp (P:=λnp=>([99],[0,6])∈gr np) (by decide) (by decide) (by decide)
      · exact fp hp (P:=λnp=>([99],[1,6])∈gr np) (by decide) (by decide) (by decide)
    · rcases oa with o|o<;>rw[o]<;>rfl
    · rcases h.dup a b rfl q with z|z|z<;>rcases oa with o|o<;>rw[o,z]<;>decide
    · have e0:∀o,(o=0\/o=1\/o=6)->∀j,ye a.nm o j=.str a.nm:=λo ho j=>by rcases ho with ho|ho|ho<;>rw[ho]<;>rcases h.dup a b rfl q with z|z|z<;>rw[z]<;>rfl
      refine ae (ju ha hr hp o4 ?_) (ae (cR (ae ?_ (ae rfl (ae rfl aT)))) aT)
      · rw[e0 _ (oa.elim .inl λo=>.inr (.inl o))];rfl
      · rw[e0 6 (.inr (.inr rfl)),qe];rfl
   |false=>
    rw[q] at ec
    cases e':Nat.beq (a8 nr (len fl) b) 0 with
    |true=>
     have c3:br nr (len fl) [a,b]=3:=by rw[ec,e'];rfl
     rw[c3] at hc;exact tf hc
    |false=>
     have c4:br nr (len fl) [a,b]=4:=by rw[ec,e'];rfl
     have sp:dF nr (len fl) [a,b]=db 1:=by unfold dF;rw[c4];rfl
     have mq:jB nr (len fl) [a,b]=gK nr (len fl) b:=by unfold jB;rw[c4];rfl
     have o4:oR nr (len fl) a=4->gK nr (len fl) b=eK (aL a.i):=qI oa
     have Nw:ai (cH (a.nm,b.nm) md nr fl pre a b (gK nr (len fl) b)) (ye [] (oR nr (len fl) a) 0)=some (.str a.nm):=by rcases oa with o|o<;>rw[o]<;>rfl
     rw[sp,mq]
     rcases Au hb hr hp e' (A8 c4 ty) with o|⟨o,n2⟩
     · refine py (nm:=(a.nm,b.nm)) (a:=a) (b:=b) (d:=[]) (os:=[oR nr (len fl) a,oR nr (len fl) b]) (o:=4) (j:=1) Y q hr hf hp hK ha hb hq hl hk ?_ ?_ rfl (λq=>aV q (by decide)) (λ_=>?_) (ng ⟨a.i,gO ha o4⟩ λ_=>⟨b.i,qJ hb λ_=>rB o⟩) ?_
       · rcases oa with z|z<;>rw[o,z]
         · exact fp hp (P:=λnp=>([],[0,4])∈gr np) (by decide) (by decide) (by decide)
         · exact fp hp (P:=λnp=>([],[1,4])∈gr np) (by decide) (by decide) (by decide)
       · rcases oa with z|z<;>rw[o,z]<;>rfl
       · rcases oa with z|z<;>rw[o,z]<;>decide
       · exact ae (ju ha hr hp o4 Nw) (ae (x8 hb hr hp (λ_=>rB o) (by rw[o];rfl)) aT)
     · have o5:oR nr (len fl) b=4->gK nr (len fl) b=eK (aL b.i):=λq=>aV (o.symm.trans q) (by decide)
       refine py (nm:=(a.nm,b.nm)) (a:=a) (b:=b) (d:=[]) (os:=[oR nr (len fl) a,oR nr (len fl) b]) (o:=5) (j:=1) Y q hr hf hp hK ha hb hq hl hk ?_ ?_ rfl (λ_=>⟨b.i,o▸qJ hb o5,AV o⟩) (λq=>aV rfl q) (ng ⟨a.i,gO ha o4⟩ λ_=>⟨b.i,qJ hb o5⟩) ?_
       · rcases oa with z|z<;>rw[o,z]
         · exact oL n2 (P:=λnp=>([],[0,5])∈gr np) (by decide) (by decide)
         · exact oL n2 (P:=λnp=>([],[1,5])∈gr np) (by decide) (by decide)
       · rcases oa with z|z<;>rw[o,z]<;>rfl
       · exact ae (ju ha hr hp o4 Nw) (ae (x8 hb hr hp o5 (by rw[o];rfl)) aT)
 |_::_::_::_,h,_,_=>aV h.n (by simp)
end
section
variable{w:World}{Hp:Heap}{v:cc}{θ:Nat->Option V}{sg:Nat->Option (List V)}{md:Bool}{nr i n:Nat}{f:List Rl}{fl:List Bool}{pre fo:List (V×Nat)}{K:Option V×Nat}
theorem Aj{α β:Type}(g:α->β)(l m:List α):bM g (app l m)=app (bM g l) (bM g m):=by
 rw[cq,cq]
 induction l with
 |nil=>rfl
 |cons x r ih=>exact aq (g x:: ·) ih
theorem LQ(hf:fl∈cB)(eR:ai θ aR=some (ca nr)):ai θ (zj md aR fl)=some (jq md nr fl):=by
 refine cR (ae rfl (ae (by cases md<;>rfl) (ae eR (ae ?_ aT))))
 exact sZ (P:=λfl=>ai θ (aA (bM (λx=>aA [rr,x]) (qt fl)))=some (aA (bM (λx=>aA [rr,x]) (qt fl)))) rfl rfl rfl rfl rfl rfl rfl fl hf
theorem EQ(hf:fl∈cB)(eR:ai θ aR=some (ca nr))(hq:aN (ai θ) (lC pre)=some (hV fo)):aN (bA θ sg) (zX md fl pre)=some [iP (.bi 14) (.bi 15) (.bi 16) (.bi 17) (ls 2),.inst 12 [(21,dO md),(41,ca nr),(45,ls 3),(23,jq md nr fl)],.list (hV fo),.list (gj md fl)]:=
 ae (fP rfl) (ae (mh (bR (by cases md<;>rfl) (bR eR (bR rfl (bR (LQ hf eR) aT))))) (ae (bX hq) (ae (bX (ve (yd md hf).r)) aT)))
theorem Fp(hn:f.length<=2)(h:∀j r,aj f j=some r->ai θ (eY i j)=some (fG nr (len fl) j r)):aN (ai θ) (lC (nz i (len f)))=some (ww nr (len fl) f):=by
 cases f with
 |nil=>rfl
 |cons a f=>cases f with
  |nil=>exact ae (cR (ae (h 0 a rfl) (ae rfl (ae rfl aT)))) aT
  |cons b f=>cases f with
   |nil=>exact ae (cR (ae (h 0 a rfl) (ae rfl (ae rfl aT)))) (ae (cR (ae (h 1 b rfl) (ae rfl (ae rfl aT)))) aT)
   |cons=>exact aV hn (Nat.not_le.mpr (Nat.le_add_left 3 _))
theorem Ve(Y:bu w.params Hp)(O:b6 v θ sg)(hr:nr<3)(hf:fl∈cB)(hp:len fl<3)(eR:ai θ aR=some (ca nr))(hq:∀q∈fo,bw q.1 20=true)(hl:fo.length<5)(ho:cx f)(hc:bN (br nr (len fl) f)=true)(h:∀j r,aj f j=some r->JS θ i j nr (len fl) r)
 (he:aN (ai θ) (lC pre)=some (hV fo)):bT (c0 w Hp) v (CF md fl i (len f) pre):=by
 obtain⟨v0,DH,e,O0,E,e1⟩:=Zo (md:=md) Y hr hf hp hq hl f ho hc
 refine gw O0 O e1 ?_ E
 have r2:=cR (oV ho.n λj r g=>cR (ae (h j r g).nm (ae (h j r g).te (ae (h j r g).pb aT))))
 have r3:=oV ho.n λj r g=>cR (ae (h j r g).nm (ae (h j r g).du aT))
 refine dN (e:=CF md fl i (len f) pre) (ae rfl (ae rfl (ae r2 (ae rfl aT)))) (EQ hf eR he) rfl (Lh (bX ?_) aT) (ae (bX r3) aT)
 show aN (ai θ) (bM (λq:V×Nat=>aA [q.1,ls 1,.int (.ofNat q.2)]) (app pre (nz i (len f))))=_
 rw[Aj,cq,cq]
 exact ue he (Fp ho.n λj r g=>(h j r g).du)
theorem RC(Y:bu w.params Hp)(O:b6 v θ sg)(hr:nr<3)(hf:fl∈cB)(hp:len fl<3)(eR:ai θ aR=some (ca nr))(hq:∀q∈fo,bw q.1 20=true)(hl:fo.length<5)(ho:cx f)(hc:bN (br nr (len fl) f)=false)(ht:dM nr (len fl) f=true)
 (e1:ai θ (hY i)=some (aA (cA dZ f)))(e2:ai θ (iD i)=some rG)(e3:ai θ (l4 i)=some (dF nr (len fl) f))(he:aN (ai θ) (lC pre)=some (hV fo)):bT (c0 w Hp) v (zD md fl i pre):=by
 obtain⟨v0,DH,e,O0,E,e0⟩:=QS (md:=md) Y hr hf hp hq hl f ho hc ht
 exact gw O0 O e0 (dN (e:=zD md fl i pre) (ae rfl (ae rfl (ae e1 (ae rfl aT)))) (EQ hf eR he) (qc e2 e3) rfl rfl) E
theorem WA(Y:bu w.params Hp)(O:b6 v θ sg)(hr:nr<3)(hf:fl∈cB)(hp:len fl<3)(hK:K∈Ks)(eR:ai θ aR=some (ca nr))(hq:∀q∈fo,bw q.1 20=true)(hl:fo.length<5)(hk:len fo<n9 K)(ho:cx f)(hc:bN (br nr (len fl) f)=false)(ht:dM nr (len fl) f=false)
 (e1:ai θ (hY i)=some (aA (cA dZ f)))(e2:ai θ (iD i)=some (.str (jB nr (len fl) f)))(e3:ai θ (l4 i)=some (dF nr (len fl) f))(he:aN (ai θ) (lC pre)=some (hV fo)):bT (c0 w Hp) v (zU md K fl i pre):=by
 obtain⟨v0,DH,e,O0,E,e0⟩:=VI (md:=md) Y hr hf hp hK hq hl hk f ho hc ht
 have D:=uJ md hK
 refine gw O0 O e0 (dN (e:=zU md K fl i pre) (ae rfl (ae rfl (ae e1 (ae rfl aT)))) ?_ (qc e2 e3) rfl rfl) E
 exact ae (fP rfl) (ae (mh (bR (by cases md<;>rfl) (bR eR (bR rfl (bR (LQ hf eR) aT))))) (ae (bX he) (ae (bX (ve (yd md hf).r))
  (ae (fP rfl) (ae (fP D.k) (ae (fP (by cases md<;>rfl)) (ae (fP rfl) (ae (fP D.t) (ae rfl aT)))))))))
end
def gR(x:V):V:=aa (bw x 20) x .nil
def gT(x:V):V:=aa (aa (b9 x) (bw x 20) false) x .nil
def bJ(fs:List (List Rl))(i:Nat):List Rl:=Option.rec [] (λr=>r) (aj fs i)
def kO(fs:List (List Rl))(i:Nat):List Nat×List Nat:=aa (seq (bL (bJ fs i) 0).nm (bL (bJ fs i) 1).nm) ((bL (bJ fs i) 0).nm,0::(bL (bJ fs i) 0).nm) ((bL (bJ fs i) 0).nm,(bL (bJ fs i) 1).nm)
def x6(fs:List (List Rl))(k:Nat):Rl:=bL (bJ fs (Nat.div k 2)) (Nat.mod k 2)
def JI(nr np:Nat)(fs:List (List Rl))(i:Nat):V:=
 gT (aa (Nat.blt i 76) (fG nr np (Nat.mod (Nat.sub i 70) 2) (x6 fs (Nat.sub i 70))) (aa (Nat.beq i 100) (ca nr) (aa (Nat.blt i 104) (aA (cA dZ (bJ fs (Nat.sub i 101)))) (iY nr np (bJ fs (Nat.sub i 110))))))
def pQ(nr np:Nat)(f:List Rl):V:=aa (dM nr np f) rG (.str (jB nr np f))
def Iy(nr np:Nat)(fl:List Bool)(ft:Nat->List Nat)(fs:List (List Rl))(i:Nat):V:=
 gR (aa (Nat.blt i 220) (.str (ft (Nat.sub i 210))) (aa (Nat.blt i 230) (pQ nr np (bJ fs (Nat.sub i 220))) (aa (Nat.blt i 240) (dF nr np (bJ fs (Nat.sub i 230))) (aa (Nat.blt i 250) (.str (aL (x6 fs (Nat.sub i 240)).i)) (aa (Nat.blt i 260) (.bool (x6 fs (Nat.sub i 250)).p) (aa (Nat.blt i 280) (dT (aL (x6 fs (Nat.sub i 260)).i) (Nat.add 40 (Nat.mod (Nat.sub i 260) 2))) (Option.rec .nil (λx=>x) (aj (ly fl) (Nat.sub i 280)))))))))
def YD(fl:List Bool)(fs:List (List Rl))(j:Nat):List V:=Nat.rec (o6 fl) (λk _=>bM fL (bJ fs k)) j
theorem NE(x:V):bw (gR x) 20=true:=by
 unfold gR
 cases e:bw x 20 with
 |true=>exact e
 |false=>rfl
theorem N8(x:V):b9 (gT x)=true/\bw (gT x) 20=true:=by
 unfold gT
 cases e:b9 x with
 |false=>exact⟨rfl,rfl⟩
 |true=>
  cases e':bw x 20 with
  |false=>exact⟨rfl,rfl⟩
  |true=>exact⟨e,e'⟩
theorem ut(h:bw x 20=true):gR x=x:=by unfold gR;rw[h];rfl
theorem xP(t:b9 x=true)(h:bw x 20=true):gT x=x:=by unfold gT;rw[t,h];rfl
theorem Yh(fs:List (List Rl))(i:Nat):seq (kO fs i).1 (kO fs i).2=false:=by
 unfold kO
 cases e:seq (bL (bJ fs i) 0).nm (bL (bJ fs i) 1).nm with
 |true=>exact iN _
 |false=>exact e
theorem RJ(e:Vr)(p:List Dr)(AB:Int×Int)(i:Nat):bw (je e.rs p AB i) 20=true:=by
 unfold je
 cases aa (Nat.ble 2000 i) (Nat.blt i 3000) false with
 |true=>rfl
 |false=>
  rw[cV]
  cases aa (Nat.ble 3000 i) (Nat.blt i 4000) false with
  |true=>exact Ki _ _ _
  |false=>exact e.hr i
theorem PO(e:Vr)(p:List Dr)(AB:Int×Int)(i:Nat):bw ((vP e p AB).ρ i) 20=true:=by
 rw[lG]
 exact KS (nm:=e.nm) (tp:=e.tp) (z:=λi=>zP p AB (i-6000)) (rs:=je e.rs p AB) e.ht (RJ e p AB) i
noncomputable def bY(v:cc)(n:Nat):Option V:=some (v.ρ n)
noncomputable def kB(v:cc)(j:Nat):Option (List V):=some (v.seg j)
theorem hU(e:Vr)(p:List Dr)(AB:Int×Int):b6 (vP e p AB) (bY (vP e p AB)) (kB (vP e p AB)):=
 ⟨λn w h=>⟨af h,af h▸i8 _ (PO e p AB n)⟩,λj l h=>af h⟩
theorem IP(f:List Rl):∀v∈bM fL f,dz v=true:=by
 induction f with
 |nil=>exact λ_ q=>nomatch q
 |cons a r ih=>exact bD ⟨rfl,ih⟩
theorem u7(fl:List Bool):∀v∈o6 fl,dz v=true:=by
 have go:∀(fl:List Bool) (nm:List Nat),∀v∈(List.rec (motive:=λ_=>List Nat->List V) (λ_=>[]) (λb _ ih nm=>List.rec [] (λx q _=>aA [.str [x],.bool b]::ih q) nm) fl nm:List V),dz v=true:=by
  intro fl
  induction fl with
  |nil=>exact λ_ _ q=>nomatch q
  |cons b r ih=>
   intro nm
   cases nm with
   |nil=>exact λ_ q=>nomatch q
   |cons x q=>exact bD ⟨rfl,ih q⟩
 exact go fl [84,85]
noncomputable def eD(nr np:Nat)(fl:List Bool)(ft:Nat->List Nat)(fs:List (List Rl)):Vr where
 nm:=kO fs
 tp:=JI nr np fs
 rs:=Iy nr np fl ft fs
 seg:=YD fl fs
 hn:=Yh fs
 ht:=λ_=>N8 _
 hr:=λ_=>NE _
 hs:=λj=>by
  cases j with
  |zero=>exact u7 fl
  |succ k=>exact IP _
section
variable{nr np:Nat}{fl:List Bool}{ft:Nat->List Nat}{fs:List (List Rl)}{p:List Dr}{AB:Int×Int}{i j n:Nat}
theorem Z5(h:64<=n)(h':n<128):(vP (eD nr np fl ft fs) p AB).ρ n=JI nr np fs n:=by
 rw[lG,Gp h h'];rfl
theorem abR(h:128<=n)(h':n<2000):(vP (eD nr np fl ft fs) p AB).ρ n=Iy nr np fl ft fs n:=by
 rw[lG,tC h (by omega),GN (.inl h')];rfl
theorem Kx(h:∀f∈fs,cx f)(i j:Nat):(bL (bJ fs i) j).i<13:=by
 unfold bL
 rw[de]
 cases e:(bJ fs i)[j]? with
 |none=>exact(by decide:0<13)
 |some r=>
  have m:=List.mem_of_getElem? e
  revert m
  unfold bJ
  rw[de]
  cases e':fs[i]? with
  |none=>exact λq=>nomatch q
  |some f=>exact λq=>(h f (List.mem_of_getElem? e')).i r q
theorem xN{P:Nat->Nat->Prop}(hi:i<3)(hj:j<2)(a:P 0 0)(b:P 0 1)(c:P 1 0)(d:P 1 1)(e:P 2 0)(f:P 2 1):P i j:=
 fp hi (P:=λi=>P i j) (oL hj (P:=P 0) a b) (oL hj (P:=P 1) c d) (oL hj (P:=P 2) e f)
theorem oB(hr:nr<3):ai (bY (vP (eD nr np fl ft fs) p AB)) aR=some (ca nr):=by
 show some ((vP (eD nr np fl ft fs) p AB).ρ 100)=_
 rw[Z5 (by decide) (by decide)]
 exact aq some (xP (jG hr).1 (jG hr).2)
theorem Xb(hr:nr<3)(hp:np<3)(h:∀f∈fs,cx f)(hi:i<3)(hj:j<2):ai (bY (vP (eD nr np fl ft fs) p AB)) (eY i j)=some (fG nr np j (bL (bJ fs i) j)):=by
 refine(xN hi hj (P:=λi j=>ai (bY (vP (eD nr np fl ft fs) p AB)) (eY i j)=some (gT (fG nr np j (bL (bJ fs i) j)))) rfl rfl rfl rfl rfl rfl).trans (aq some ?_)
 have f:=gJ (s:=j) (Kx h i j) hj hr hp
 exact xP f.dt f.df
theorem UR(hi:i<3)(hj:j<2):ai (bY (vP (eD nr np fl ft fs) p AB)) (mA i j)=some (.str (aL (bL (bJ fs i) j).i)):=by
 refine(xN hi hj (P:=λi j=>ai (bY (vP (eD nr np fl ft fs) p AB)) (mA i j)=some (gR (.str (aL (bL (bJ fs i) j).i)))) rfl rfl rfl rfl rfl rfl).trans (aq some ?_)
 exact ut rfl
theorem TU(hi:i<3)(hj:j<2):ai (bY (vP (eD nr np fl ft fs) p AB)) (jU i j)=some (.bool (bL (bJ fs i) j).p):=by
 refine(xN hi hj (P:=λi j=>ai (bY (vP (eD nr np fl ft fs) p AB)) (jU i j)=some (gR (.bool (bL (bJ fs i) j).p))) rfl rfl rfl rfl rfl rfl).trans (aq some ?_)
 exact ut rfl
theorem Qq(hr:nr<3)(h:∀f∈fs,cx f)(hi:i<3)(hj:j<2):ai (bY (vP (eD nr np fl ft fs) p AB)) (mM i j)=some (dT (aL (bL (bJ fs i) j).i) (Nat.add 40 j)):=by
 refine(xN hi hj (P:=λi j=>ai (bY (vP (eD nr np fl ft fs) p AB)) (mM i j)=some (gR (dT (aL (bL (bJ fs i) j).i) (Nat.add 40 j)))) rfl rfl rfl rfl rfl rfl).trans (aq some ?_)
 exact ut (gJ (np:=0) (Kx h i j) hj hr (by decide)).tf
end
theorem OC:iH (λw=>bO (λs=>kJ 18 (dT w (Nat.add 40 s))) 2)=true:=by kernel_rfl
theorem nP{p q:V}{n:Nat}(h1:bw p n=true)(h2:bw q (n+1)=true)(h3:b9 q=true):bw (.cons p q) (n+1)=true:=by
 show aa (bw p n) (aa (bw q (n+1)) (b9 q) false) false=true
 rw[h1,h2,h3];rfl
theorem I5(h:cx f):b9 (aA (cA dZ f))=true/\bw (aA (cA dZ f)) 20=true:=by
 have one:∀(r:Rl) (s:Nat),r.i<13->s<2->bw (dZ s r) 19=true:=λr s hi hs=>
  nP (n:=18) rfl (nP (n:=18) (bZ (i6 OC hi) s hs) (nP (n:=18) rfl rfl rfl) rfl) rfl
 match f,h with
 |[],_=>exact⟨rfl,rfl⟩
 |[a],h=>exact⟨rfl,nP (n:=19) (one a 0 (h.i a (.head _)) (by decide)) rfl rfl⟩
 |[a,b],h=>exact⟨rfl,nP (n:=19) (one a 0 (h.i a (.head _)) (by decide)) (nP (n:=19) (one b 1 (h.i b (.tail _ (.head _))) (by decide)) rfl rfl) rfl⟩
 |_::_::_::_,h=>exact aV h.n (by simp)
inductive l6(nr np:Nat)(f:List Rl):Prop
 |dup:br nr np f=5->l6 nr np f
 |fst:br nr np f=2\/br nr np f=6\/br nr np f=7->Nat.beq (a8 nr np (bL f 0)) 0=false->l6 nr np f
 |snd:br nr np f=4->Nat.beq (a8 nr np (bL f 1)) 0=false->l6 nr np f
section
variable{nr np:Nat}{f:List Rl}
theorem Cv(h:cx f)(hc:bN (br nr np f)=false):l6 nr np f:=by
 match f,h,hc with
 |[],_,hc=>exact tf hc
 |[a],_,hc=>
  cases e:Nat.beq (a8 nr np a) 0 with
  |true=>exact tf ((show bN (aa (Nat.beq (a8 nr np a) 0) 1 2)=true by rw[e];rfl).symm.trans hc)
  |false=>exact .fst (.inl (by show aa (Nat.beq (a8 nr np a) 0) 1 2=2;rw[e];rfl)) e
 |a::b::r,h,hc=>
  have ec:br nr np (a::b::r)=aa (seq a.nm b.nm) (aa (Nat.beq (a8 nr np a) 0) 5 7) (aa (Nat.beq (a8 nr np a) 0) (aa (Nat.beq (a8 nr np b) 0) 3 4) 6):=rfl
  cases e:Nat.beq (a8 nr np a) 0 with
  |false=>
   refine .fst ?_ e
   rw[ec,e]
   cases seq a.nm b.nm
   · exact .inr (.inl rfl)
   · exact .inr (.inr rfl)
  |true=>
   cases q:seq a.nm b.nm with
   |true=>exact .dup (by rw[ec,e,q];rfl)
   |false=>
    cases e':Nat.beq (a8 nr np b) 0 with
    |true=>exact tf ((show bN (br nr np (a::b::r))=true by rw[ec,e,q,e'];rfl).symm.trans hc)
    |false=>exact .snd (by rw[ec,e,q,e'];rfl) e'
theorem Jf(e:Nat.beq (a8 nr np r) 0=false):fG nr np j r=aA [aa (Nat.beq (a8 nr np r) 1) qi kH,db j]:=by
 show aa (Nat.beq (a8 nr np r) 0) (eF (aL r.i)) (aA [aa (Nat.beq (a8 nr np r) 1) qi kH,db j])=_
 rw[e];rfl
theorem Ju(B:l6 nr np f):iY nr np f=aA [aa (dM nr np f) qi kH,dF nr np f]:=by
 unfold iY dM dF
 cases B with
 |dup c=>rw[c];rfl
 |fst c e=>rcases c with c|c|c<;>rw[c]<;>exact Jf e
 |snd c e=>rw[c];exact Jf e
theorem EN(B:l6 nr np f){n:Nat}:bw (dF nr np f) (n+1)=true:=by
 unfold dF
 cases B with
 |dup c=>rw[c];rfl
 |fst c e=>rcases c with c|c|c<;>rw[c]<;>rfl
 |snd c e=>rw[c];rfl
theorem FS(B:l6 nr np f):b9 (iY nr np f)=true/\bw (iY nr np f) 20=true:=by
 rw[Ju B]
 exact⟨rfl,nP (n:=19) (by cases dM nr np f<;>rfl) (nP (n:=19) (EN B) rfl rfl) rfl⟩
theorem Yc(hc:bN (br nr np [a,b])=true):seq a.nm b.nm=false:=by
 cases q:seq a.nm b.nm with
 |false=>rfl
 |true=>
  have hc:bN (aa (seq a.nm b.nm) (aa (Nat.beq (a8 nr np a) 0) 5 7) (aa (Nat.beq (a8 nr np a) 0) (aa (Nat.beq (a8 nr np b) 0) 3 4) 6))=true:=hc
  rw[q] at hc
  cases e:Nat.beq (a8 nr np a) 0<;>rw[e] at hc<;>exact ft hc
end
section
variable{nr np:Nat}{fl:List Bool}{ft:Nat->List Nat}{fs:List (List Rl)}{p:List Dr}{AB:Int×Int}{i j n:Nat}{f:List Rl}
theorem NR(hi:i<3):ai (bY (vP (eD nr np fl ft fs) p AB)) (lq i 0)=some (.str (bL (bJ fs i) 0).nm):=by
 have e:(kO fs i).1=(bL (bJ fs i) 0).nm:=by unfold kO;cases seq (bL (bJ fs i) 0).nm (bL (bJ fs i) 1).nm<;>rfl
 rw[← e]
 exact fp hi (P:=λi=>ai (bY (vP (eD nr np fl ft fs) p AB)) (lq i 0)=some (.str (kO fs i).1)) rfl rfl rfl
theorem OS(hi:i<3)(hs:seq (bL (bJ fs i) 0).nm (bL (bJ fs i) 1).nm=false):ai (bY (vP (eD nr np fl ft fs) p AB)) (lq i 1)=some (.str (bL (bJ fs i) 1).nm):=by
 have e:(kO fs i).2=(bL (bJ fs i) 1).nm:=by unfold kO;rw[hs];rfl
 rw[← e]
 exact fp hi (P:=λi=>ai (bY (vP (eD nr np fl ft fs) p AB)) (lq i 1)=some (.str (kO fs i).2)) rfl rfl rfl
theorem Bu(hi:i<3)(h:cx (bJ fs i)):ai (bY (vP (eD nr np fl ft fs) p AB)) (hY i)=some (aA (cA dZ (bJ fs i))):=by
 refine(fp hi (P:=λi=>ai (bY (vP (eD nr np fl ft fs) p AB)) (hY i)=some (gT (aA (cA dZ (bJ fs i))))) rfl rfl rfl).trans ?_
 rw[xP (I5 h).1 (I5 h).2]
theorem Uq(hi:i<3)(B:l6 nr np (bJ fs i)):ai (bY (vP (eD nr np fl ft fs) p AB)) (.atom (Nat.add 110 i))=some (iY nr np (bJ fs i)):=by
 refine(fp hi (P:=λi=>ai (bY (vP (eD nr np fl ft fs) p AB)) (.atom (Nat.add 110 i))=some (gT (iY nr np (bJ fs i)))) rfl rfl rfl).trans ?_
 rw[xP (FS B).1 (FS B).2]
theorem WJ(hi:i<3):ai (bY (vP (eD nr np fl ft fs) p AB)) (iD i)=some (pQ nr np (bJ fs i)):=by
 refine(fp hi (P:=λi=>ai (bY (vP (eD nr np fl ft fs) p AB)) (iD i)=some (gR (pQ nr np (bJ fs i)))) rfl rfl rfl).trans ?_
 rw[ut]
 unfold pQ
 cases dM nr np (bJ fs i)<;>rfl
theorem FX(hi:i<3)(B:l6 nr np (bJ fs i)):ai (bY (vP (eD nr np fl ft fs) p AB)) (l4 i)=some (dF nr np (bJ fs i)):=by
 refine(fp hi (P:=λi=>ai (bY (vP (eD nr np fl ft fs) p AB)) (l4 i)=some (gR (dF nr np (bJ fs i)))) rfl rfl rfl).trans ?_
 rw[ut (EN B)]
theorem AZ(hi:i<3):ai (bY (vP (eD nr np fl ft fs) p AB)) (ig i)=some (.str (ft i)):=
 fp hi (P:=λi=>ai (bY (vP (eD nr np fl ft fs) p AB)) (ig i)=some (.str (ft i))) rfl rfl rfl
theorem q9(h:aj fs i=some f):bJ fs i=f:=by unfold bJ;rw[h]
theorem rd(h:∀f∈fs,cx f)(e:aj fs i=some f):cx f:=h f (by rw[de] at e;exact List.mem_of_getElem? e)
theorem Ui(h:aj f j=some r):bL f j=r:=by unfold bL;rw[h]
theorem Rx(hr:nr<3)(hp:np<3)(h:∀f∈fs,cx f)(hi:i<3)(e:aj fs i=some f)(hc:bN (br nr np f)=true):jZ (bY (vP (eD nr np fl ft fs) p AB)) (kB (vP (eD nr np fl ft fs) p AB)) nr np i f (.ok (len f)):=by
 have ef:=q9 e
 have F:=rd h e
 refine .ok hc λj r hj=>?_
 have er:=Ui hj
 have lj:=Nat.lt_of_lt_of_le (i7 hj) F.n
 refine⟨?_,?_,?_,?_,?_⟩
 · match j,lj with
   |0,_=>have:=NR (nr:=nr) (np:=np) (fl:=fl) (ft:=ft) (fs:=fs) (p:=p) (AB:=AB) hi;rw[ef,er] at this;exact this
   |1,_=>
    have hs:seq (bL (bJ fs i) 0).nm (bL (bJ fs i) 1).nm=false:=by
     rw[ef]
     match f,F,hc,hj with
     |[a,b],F,hc,hj=>exact Yc hc
     |[],_,_,hj=>exact ns hj
     |[_],_,_,hj=>exact ns hj
     |_::_::_::_,F,_,_=>exact aV F.n (by simp)
    have:=OS (nr:=nr) (np:=np) (fl:=fl) (ft:=ft) (fs:=fs) (p:=p) (AB:=AB) hi hs
    rw[ef,er] at this;exact this
 · have:=UR (nr:=nr) (np:=np) (fl:=fl) (ft:=ft) (fs:=fs) (p:=p) (AB:=AB) hi lj;rw[ef,er] at this;exact this
 · have:=TU (nr:=nr) (np:=np) (fl:=fl) (ft:=ft) (fs:=fs) (p:=p) (AB:=AB) hi lj;rw[ef,er] at this;exact this
 · have:=Qq (nr:=nr) (np:=np) (fl:=fl) (ft:=ft) (fs:=fs) (p:=p) (AB:=AB) hr h hi lj;rw[ef,er] at this;exact this
 · have:=Xb (nr:=nr) (np:=np) (fl:=fl) (ft:=ft) (fs:=fs) (p:=p) (AB:=AB) hr hp h hi lj;rw[ef,er] at this;exact this
theorem Gy(hi:i<3):kB (vP (eD nr np fl ft fs) p AB) (Nat.succ i)=some (bM fL (bJ fs i)):=rfl
theorem Tw(h:∀f∈fs,cx f)(hi:i<3)(e:aj fs i=some f)(hc:bN (br nr np f)=false):jZ (bY (vP (eD nr np fl ft fs) p AB)) (kB (vP (eD nr np fl ft fs) p AB)) nr np i f (.bad (dM nr np f)):=by
 have F:=rd h e
 obtain rfl:=q9 e
 have B:=Cv F hc
 refine .bad hc (Gy hi) (Bu hi F) ?_
 rw[Ju B]
 exact cR (ae (by cases dM nr np (bJ fs i)<;>rfl) (ae (FX hi B) aT))
theorem Q8(h:∀f∈fs,cx f)(hi:i<3)(e:aj fs i=some f):jZ (bY (vP (eD nr np fl ft fs) p AB)) (kB (vP (eD nr np fl ft fs) p AB)) nr np i f (.aft (!(bN (br nr np f)))):=by
 have F:=rd h e
 obtain rfl:=q9 e
 refine .aft _ (Gy hi) (Bu hi F) ?_
 cases hc:bN (br nr np (bJ fs i)) with
 |true=>rw[Fj hc];rfl
 |false=>exact Uq hi (Cv F hc)
end
def lS(nr np:Nat)(l:List (List Rl)):List Fc:=bM (λf=>.aft (!(bN (br nr np f)))) l
def gn(nr np:Nat)(l:List (List Rl)):List Fc:=List.rec [] (λf r ih=>aa (bN (br nr np f)) (.ok (len f)::ih) (.bad (dM nr np f)::lS nr np r)) l
def wR(s:iL)(l:List Fc)(i:Nat)(pre:List (V×Nat)):List En:=List.rec (motive:=λ_=>Nat->List (V×Nat)->List En) (λ_ _=>[]) (λf _ ih i pre=>app (JG s i f pre) (ih (Nat.succ i) (app pre (nz i f.n)))) l i pre
def mG{α β:Type}(f:Nat->α->β)(l:List α)(i:Nat):List β:=List.rec (motive:=λ_=>Nat->List β) (λ_=>[]) (λx _ ih i=>f i x::ih (Nat.succ i)) l i
def qf(nr np:Nat)(f:List Rl):List (V×Nat):=cA (λj r=>(fG nr np j r,Nat.add 40 j)) f
inductive lV(θ:Nat->Option V)(sg:Nat->Option (List V))(nr np:Nat):Nat->List (List Rl)->List Fc->Prop
 |nil {i}:lV θ sg nr np i [] []
 |cons {i f fc r q}:jZ θ sg nr np i f fc->ai θ (hY i)=some (aA (cA dZ f))->cx f->lV θ sg nr np (Nat.succ i) r q->lV θ sg nr np i (f::r) (fc::q)
structure wE(θ:Nat->Option V)(sg:Nat->Option (List V))(nr np:Nat)(fs:List (List Rl)):Prop where
 ok:∀i f,aj fs i=some f->bN (br nr np f)=true->jZ θ sg nr np i f (.ok (len f))
 bad:∀i f,aj fs i=some f->bN (br nr np f)=false->jZ θ sg nr np i f (.bad (dM nr np f))
 aft:∀i f,aj fs i=some f->jZ θ sg nr np i f (.aft (!(bN (br nr np f))))
 tr:∀i f,aj fs i=some f->ai θ (hY i)=some (aA (cA dZ f))
 ms:∀i f,aj fs i=some f->ai θ (iD i)=some (pQ nr np f)
 sp:∀i f,aj fs i=some f->bN (br nr np f)=false->ai θ (l4 i)=some (dF nr np f)
 rl:∀i f,aj fs i=some f->cx f
def Sub(l fs:List (List Rl))(i:Nat):Prop:=∀k f,aj l k=some f->aj fs (i+k)=some f
theorem Sub.tl{f:List Rl}(h:Sub (f::r) fs i):Sub r fs (Nat.succ i):=λk g e=>by
 have:=h (k+1) g e
 rwa [show Nat.succ i+k=i+(k+1) by omega]
section
variable{w:World}{Hp:Heap}{v:cc}{θ:Nat->Option V}{sg:Nat->Option (List V)}{md:Bool}{nr np:Nat}{fl:List Bool}{fs:List (List Rl)}{K:Option V}{all:List Fc}
theorem Bv{ft:Nat->List Nat}(hr:nr<3)(hp:np<3)(h:∀f∈fs,cx f)(h3:fs.length<=3):wE (bY (vP (eD nr np fl ft fs) p AB)) (kB (vP (eD nr np fl ft fs) p AB)) nr np fs:=
 have L:∀{i f},aj fs i=some f->i<3:=λe=>Nat.lt_of_lt_of_le (i7 e) h3
 { ok:=λi f e hc=>Rx hr hp h (L e) e hc
   bad:=λi f e hc=>Tw h (L e) e hc
   aft:=λi f e=>Q8 h (L e) e
   tr:=λi f e=>by obtain rfl:=q9 e;exact Bu (L e) (rd h e)
   ms:=λi f e=>by obtain rfl:=q9 e;exact WJ (L e)
   sp:=λi f e hc=>by obtain rfl:=q9 e;exact FX (L e) (Cv (rd h e) hc)
   rl:=λi f e=>rd h e}
theorem Ig(D:wE θ sg nr np fs):∀(l:List (List Rl)) (i:Nat),Sub l fs i->lV θ sg nr np i l (lS nr np l)
 |[],_,_=>.nil
 |f::r,i,h=>.cons (D.aft i f (h 0 f rfl)) (D.tr i f (h 0 f rfl)) (D.rl i f (h 0 f rfl)) (Ig D r (Nat.succ i) h.tl)
theorem xr(D:wE θ sg nr np fs):∀(l:List (List Rl)) (i:Nat),Sub l fs i->lV θ sg nr np i l (gn nr np l)
 |[],_,_=>.nil
 |f::r,i,h=>by
  show lV θ sg nr np i (f::r) (aa (bN (br nr np f)) (.ok (len f)::gn nr np r) (.bad (dM nr np f)::lS nr np r))
  cases hc:bN (br nr np f) with
  |true=>exact .cons (D.ok i f (h 0 f rfl) hc) (D.tr i f (h 0 f rfl)) (D.rl i f (h 0 f rfl)) (xr D r (Nat.succ i) h.tl)
  |false=>exact .cons (D.bad i f (h 0 f rfl) hc) (D.tr i f (h 0 f rfl)) (D.rl i f (h 0 f rfl)) (Ig D r (Nat.succ i) h.tl)
theorem N1(Y:bu w.params Hp)(O:b6 v θ sg)(hr:nr<3)(hp:np<3)(hl:len fl=np)(eR:ai θ aR=some (ca nr))(F:lV θ sg nr np i l jz):∀e∈mG (rF fl) jz i,bT (c0 w Hp) v e:=by
 induction F with
 |nil=>exact λ_ q=>nomatch q
 |cons a _ rl _ ih=>exact bD ⟨Sp Y O hr hp hl rl eR a,ih⟩
theorem Wb(F:lV θ sg nr np i l jz):ay (Sv θ θ) (mG (λi _=>hY i) l i) (mG v6 jz i):=by
 induction F with
 |nil=>exact .nil
 | @cons i f fc r q a t rl _ ih=>
  refine .cons ⟨_,t,?_⟩ ih
  cases a with
  |ok hc h=>exact cR (oV rl.n λj r g=>cR (ae (h j r g).nm (ae (h j r g).te (ae (h j r g).pb aT))))
  |bad=>exact t
  |aft=>exact t
theorem Hm(s:iL):∀(l:List (List Rl)) (i:Nat) (pre:List (V×Nat)),wR s (lS nr np l) i pre=[]
 |[],_,_=>rfl
 |_::r,i,pre=>Hm s r (Nat.succ i) (app pre [])
theorem JZ{α:Type}(l:List α):app l []=l:=by rw[cq,List.append_nil]
theorem XU{i n:Nat}(h:i<n):2*i<n9 (K,n):=by
 obtain⟨m,rfl⟩:∃m,n=m+1:=⟨n-1,by omega⟩
 show 2*i<Nat.succ (2*m)
 omega
theorem SY{f:List Rl}(hr:nr<3)(hp:np<3)(h:cx f):∀q∈qf nr np f,bw q.1 20=true:=by
 match f,h with
 |[],_=>exact λ_ q=>nomatch q
 |[a],h=>exact bD ⟨(gJ (s:=0) (h.i a (.head _)) (by decide) hr hp).df,λ_ q=>nomatch q⟩
 |[a,b],h=>exact bD ⟨(gJ (s:=0) (h.i a (.head _)) (by decide) hr hp).df,bD ⟨(gJ (s:=1) (h.i b (.tail _ (.head _))) (by decide) hr hp).df,λ_ q=>nomatch q⟩⟩
 |_::_::_::_,h=>exact aV h.n (by simp)
theorem Ut{f:List Rl}(h:cx f):hV (qf nr np f)=ww nr np f:=by
 match f,h with
 |[],_=>rfl
 |[a],h=>rfl
 |[a,b],h=>rfl
 |_::_::_::_,h=>exact aV h.n (by simp)
theorem WC{f:List Rl}(h:cx f):(qf nr np f).length<=2:=by
 match f,h with
 |[],_=>exact Nat.zero_le 2
 |[a],h=>exact Nat.le_succ 1
 |[a,b],h=>exact Nat.le_refl 2
 |_::_::_::_,h=>exact aV h.n (by simp)
theorem Ef(Y:bu w.params Hp)(O:b6 v θ sg)(D:wE θ sg nr (len fl) fs)(hr:nr<3)(hf:fl∈cB)(hp:len fl<3)(eR:ai θ aR=some (ca nr))(hK:(K,len all)∈Ks)(h3:len all<=3):∀(l:List (List Rl)) (i:Nat) (pre fo:List (V×Nat)),Sub l fs i->i+l.length<=len all->
 aN (ai θ) (lC pre)=some (hV fo)->(∀q∈fo,bw q.1 20=true)->fo.length<=2*i->∀e∈wR ⟨md,K,fl,all⟩ (gn nr (len fl) l) i pre,bT (c0 w Hp) v e
 |[],_,_,_,_,_,_,_,_=>λ_ q=>nomatch q
 |f::r,i,pre,fo,h,hn,he,hq,hl=>by
  have e0:=h 0 f rfl
  have rl:=D.rl i f e0
  have hn:i+(r.length+1)<=len all:=hn
  have l5:fo.length<5:=by omega
  have lk:len fo<n9 (K,len all):=by rw[bH];exact jI hl (XU (by omega))
  show ∀e∈wR ⟨md,K,fl,all⟩ (aa (bN (br nr (len fl) f)) (.ok (len f)::gn nr (len fl) r) (.bad (dM nr (len fl) f)::lS nr (len fl) r)) i pre,bT (c0 w Hp) v e
  cases hc:bN (br nr (len fl) f) with
  |true=>
   have F:=D.ok i f e0 hc
   cases F with
   |ok hc hv=>
    refine bD ⟨Ve Y O hr hf hp eR hq l5 rl hc hv he,?_⟩
    refine Ef Y O D hr hf hp eR hK h3 r (Nat.succ i) (app pre (nz i (len f))) (app fo (qf nr (len fl) f)) h.tl (by omega) ?_ ?_ ?_
    · show aN (ai θ) (bM _ (app pre (nz i (len f))))=some (bM _ (app fo (qf nr (len fl) f)))
      rw[Aj,Aj,cq,cq]
      refine ue he ?_
      rw[show bM (λq:V×Nat=>aA [q.1,ls 1,.int (.ofNat q.2)]) (qf nr (len fl) f)=ww nr (len fl) f from Ut rl]
      exact Fp rl.n λj r g=>(hv j r g).du
    · intro q hm
      rw[cq] at hm
      exact(List.mem_append.mp hm).elim (hq q) (SY hr hp rl q)
    · rw[cq,List.length_append]
      have:=WC (nr:=nr) (np:=len fl) rl
      omega
  |false=>
   refine bD ⟨?_,λe q=>?_⟩
   · cases ty:dM nr (len fl) f with
     |true=>
      refine RC Y O hr hf hp eR hq l5 rl hc ty (D.tr i f e0) ?_ (D.sp i f e0 hc) he
      have:=D.ms i f e0
      unfold pQ at this
      rw[ty] at this;exact this
     |false=>
      refine WA Y O hr hf hp hK eR hq l5 lk rl hc ty (D.tr i f e0) ?_ (D.sp i f e0 hc) he
      have:=D.ms i f e0
      unfold pQ at this
      rw[ty] at this;exact this
   · have q:e∈app (wR ⟨md,K,fl,all⟩ (lS nr (len fl) r) (Nat.succ i) (app pre (nz i 0))) []:=by rw[JZ];exact q
     rw[JZ,Hm] at q
     exact nomatch q
end
theorem Sj(l:List (List Rl)):len (lS nr np l)=len l:=by
 induction l with
 |nil=>rfl
 |cons f r ih=>exact aq Nat.succ ih
theorem CP(l:List (List Rl)):len (gn nr np l)=len l:=by
 induction l with
 |nil=>rfl
 |cons f r ih=>
  show len (aa (bN (br nr np f)) (.ok (len f)::gn nr np r) (.bad (dM nr np f)::lS nr np r))=Nat.succ (len r)
  cases bN (br nr np f) with
  |true=>exact aq Nat.succ ih
  |false=>exact aq Nat.succ (Sj r)
theorem mL{α:Type}{x:α}{l m:List α}(h:x∈l):x∈app l m:=by rw[cq];exact List.mem_append.mpr (.inl h)
theorem mR{α:Type}{x:α}{l m:List α}(h:x∈m):x∈app l m:=by rw[cq];exact List.mem_append.mpr (.inr h)
theorem eG{α β:Type}{f:α->List β}{x:α}{y:β}{l:List α}(h:x∈l)(k:y∈f x):y∈ap l f:=by
 induction l with
 |nil=>exact nomatch h
 |cons a r ih=>cases h with
  |head=>exact mL k
  |tail _ h=>exact mR (ih h)
section
variable{nr np:Nat}
theorem o9{f:List Rl}(h:cx f):Fc.ok (len f)∈jg:=by
 match f,h with
 |[],_=>exact .head _
 |[a],_=>exact .tail _ (.head _)
 |[a,b],_=>exact .tail _ (.tail _ (.head _))
 |_::_::_::_,h=>exact aV h.n (by simp)
theorem pd(b:Bool):Fc.bad b∈mC:=by cases b;exact .tail _ (.head _);exact .head _
theorem yg(b:Bool):Fc.aft b∈uR:=by cases b;exact .tail _ (.head _);exact .head _
theorem oO(f:List Rl)(r:List (List Rl)):gn nr np (f::r)=aa (bN (br nr np f)) (.ok (len f)::gn nr np r) (.bad (dM nr np f)::lS nr np r):=rfl
theorem TD:∀(fs:List (List Rl)),(∀f∈fs,cx f)->fs.length<=3->gn nr np fs∈xX
 |[],_,_=>.head _
 |[a],h,_=>by
  have ha:=o9 (h a (.head _))
  rw[oO]
  refine .tail _ ?_
  cases bN (br nr np a) with
  |true=>exact mL (eG ha (.head _))
  |false=>exact mR (mR (mR (mL (eG (pd _) (.head _)))))
 |[a,b],h,_=>by
  have ha:=o9 (h a (.head _))
  have hb:=o9 (h b (.tail _ (.head _)))
  rw[oO,oO]
  refine .tail _ ?_
  cases bN (br nr np a) with
  |true=>
   cases bN (br nr np b) with
   |true=>exact mR (mL (eG ha (eG hb (.head _))))
   |false=>exact mR (mR (mR (mR (mR (mL (eG ha (eG (pd _) (.head _))))))))
  |false=>exact mR (mR (mR (mR (mL (eG (pd _) (eG (yg _) (.head _)))))))
 |[a,b,c],h,_=>by
  have ha:=o9 (h a (.head _))
  have hb:=o9 (h b (.tail _ (.head _)))
  have hc:=o9 (h c (.tail _ (.tail _ (.head _))))
  rw[oO,oO,oO]
  refine .tail _ ?_
  cases bN (br nr np a) with
  |true=>
   cases bN (br nr np b) with
   |true=>
    cases bN (br nr np c) with
    |true=>exact mR (mR (mL (eG ha (eG hb (eG hc (.head _))))))
    |false=>exact mR (mR (mR (mR (mR (mR (mR (mR (eG ha (eG hb (eG (pd _) (.head _)))))))))))
   |false=>exact mR (mR (mR (mR (mR (mR (mR (mL (eG ha (eG (pd _) (eG (yg _) (.head _)))))))))))
  |false=>exact mR (mR (mR (mR (mR (mR (mL (eG (pd _) (eG (yg _) (eG (yg _) (.head _))))))))))
 |_::_::_::_::_,_,h=>aV h (by simp)
theorem U6(fs:List (List Rl))(h:∀f∈fs,cx f)(h1:fs.length=1):gn nr np fs∈v4:=by
 match fs,h,h1 with
 |[a],h,_=>
  rw[oO]
  cases bN (br nr np a) with
  |true=>exact mL (eG (o9 (h a (.head _))) (.head _))
  |false=>exact mR (eG (pd _) (.head _))
end
inductive jl:Option V->Nat->Prop
 |en {n:Nat}:n<=3->jl none n
 |st {k:V}:k∈[qo,kM,o7]->jl (some k) 1
theorem zB{K:Option V}{n:Nat}(h:jl K n):(K,n)∈Ks:=by
 cases h with
 |en h=>
  match n,h with
  |0,_=>exact .head _
  |1,_=>exact .tail _ (.head _)
  |2,_=>exact .tail _ (.tail _ (.head _))
  |3,_=>exact .tail _ (.tail _ (.tail _ (.head _)))
 |st h=>
  cases h with
  |head=>exact .tail _ (.tail _ (.tail _ (.tail _ (.head _))))
  |tail _ h=>cases h with
   |head=>exact .tail _ (.tail _ (.tail _ (.tail _ (.tail _ (.head _)))))
   |tail _ h=>cases h with
    |head=>exact .tail _ (.tail _ (.tail _ (.tail _ (.tail _ (.tail _ (.head _))))))
    |tail _ h=>exact nomatch h
theorem K2{g:iL->Bool}{K:Option V}(h:aa (eI xX λf=>g ⟨md,.none,fl,f⟩) (eI [qo,kM,o7] λk=>eI v4 λf=>g ⟨md,some k,fl,f⟩) false=true)(hk:jl K fs.length)(hf:∀f∈fs,cx f):
 g ⟨md,K,fl,gn nr np fs⟩=true:=by
 have h:=aO h
 revert hk
 generalize e:fs.length=n
 intro hk
 cases hk with
 |en q=>exact gV h.1 _ (TD fs hf (e▸q))
 |st q=>exact gV (gV h.2 _ q) _ (U6 fs hf e)
section
variable{w:World}{Hp:Heap}{md:Bool}{nr:Nat}{fl:List Bool}{ft:Nat->List Nat}{fs:List (List Rl)}{K:Option V}{p:List Dr}{AB:Int×Int}
theorem Sq(hf:fl∈cB):ay (Sv (bY (vP (eD nr (len fl) fl ft fs) p AB)) (bY (vP (eD nr (len fl) fl ft fs) p AB))) (y4 (len fl)) (ly fl):=by
 exact sZ (P:=λfl=>ay (Sv (bY (vP (eD nr (len fl) fl ft fs) p AB)) (bY (vP (eD nr (len fl) fl ft fs) p AB))) (y4 (len fl)) (ly fl)) .nil (.cons ⟨_,rfl,rfl⟩ .nil) (.cons ⟨_,rfl,rfl⟩ .nil) (.cons ⟨_,rfl,rfl⟩ (.cons ⟨_,rfl,rfl⟩ .nil)) (.cons ⟨_,rfl,rfl⟩ (.cons ⟨_,rfl,rfl⟩ .nil)) (.cons ⟨_,rfl,rfl⟩ (.cons ⟨_,rfl,rfl⟩ .nil)) (.cons ⟨_,rfl,rfl⟩ (.cons ⟨_,rfl,rfl⟩ .nil)) fl hf
theorem Fk(h:fs.length<=3):A1 (len fs)=mG (λi _=>hY i) fs 0:=by
 match fs,h with
 |[],_=>rfl
 |[_],_=>rfl
 |[_,_],_=>rfl
 |[_,_,_],_=>rfl
 |_::_::_::_::_,h=>exact aV h (by simp)
theorem Uy{α β:Type}(f:Nat->α->β)(l:List α):∀i,len (mG f l i)=len l:=by
 induction l with
 |nil=>exact λ_=>rfl
 |cons x r ih=>exact λi=>aq Nat.succ (ih (Nat.succ i))
theorem jl.le{n:Nat}(h:jl K n):n<=3:=by cases h with|en q=>exact q|st=>exact by decide
theorem jl.self{n:Nat}(h:jl K n):∀f,K=some f->gf f=true:=by
 cases h with
 |en=>exact λf e=>nomatch e
 |st q=>
  intro f e
  obtain rfl:=af e
  cases q with
  |head=>rfl
  |tail _ q=>cases q with
   |head=>rfl
   |tail _ q=>cases q with
    |head=>rfl
    |tail _ q=>exact nomatch q
theorem UT(fl:List Bool):len (ly fl)=len fl:=by
 induction fl with
 |nil=>rfl
 |cons b r ih=>exact aq Nat.succ ih
theorem OL(Y:bu w.params Hp)(hr:nr<3)(hf:fl∈cB)(hp:len fl<3)(hs:∀f∈fs,cx f)(hk:jl K fs.length):bT (c0 w Hp) (vP (eD nr (len fl) fl ft fs) p AB) (pC md K (ly fl) (mG v6 (gn nr (len fl) fs) 0)):=by
 have h3:=hk.le
 have O:=hU (eD nr (len fl) fl ft fs) p AB
 have D:=Bv (fl:=fl) (ft:=ft) (p:=p) (AB:=AB) hr hp hs h3
 have T:=Wb (xr D fs 0 λk f e=>(dU k).symm▸e)
 rw[← Fk h3] at T
 have km:=zB hk
 have E:=lW Y (bZ (gV (ml QB md) _ km) (len fl) hp) (vP (eD nr (len fl) fl ft fs) p AB)
 have E:=(bH fs).symm▸E
 have lt:len (A1 (len fs))=fs.length:=by rw[Fk h3,Uy,bH]
 have B:=Sq (nr:=nr) (ft:=ft) (fs:=fs) (p:=p) (AB:=AB) hf
 refine Ti O O ⟨_,oB hr,oB hr⟩ (λi hi=>⟨_,AZ hi,AZ hi⟩) hk.self B T (lt▸h3) (lt▸(uJ md km).k) ?_ E
 rw[A3 B,UT]
 exact(yd md hf).p
theorem TP(Y:bu w.params Hp)(hr:nr<3)(hf:fl∈cB)(hK:(K,len fs)∈Ks):bT (c0 w Hp) (vP (eD nr (len fl) fl ft fs) p AB) (pq md (K,len fs) aR fl):=by
 have O:=hU (eD nr (len fl) fl ft fs) p AB
 have E:=lW Y (bZ (gV (gV (ml Us md) _ hK) fl hf) nr hr) (vP (eD nr (len fl) fl ft fs) p AB)
 exact QV O O ⟨_,ij _ (i8 _ (jG hr).2),oB hr⟩ hK hf E
end
noncomputable def ni(md:Bool)(K:Option V)(nr:Nat)(fl:List Bool)(fs:List (List Rl)):iL:=⟨md,K,fl,gn nr (len fl) fs⟩
section
variable{w:World}{Hp:Heap}{md:Bool}{nr:Nat}{fl:List Bool}{ft:Nat->List Nat}{fs:List (List Rl)}{K:Option V}{p:List Dr}{AB:Int×Int}
theorem Qz(Y:bu w.params Hp)(hr:nr<3)(hf:fl∈cB)(hp:len fl<3)(hs:∀f∈fs,cx f)(hk:jl K fs.length):∀e∈O3 (ni md K nr fl fs),bT (c0 w Hp) (vP (eD nr (len fl) fl ft fs) p AB) e:=by
 have h3:=hk.le
 have O:=hU (eD nr (len fl) fl ft fs) p AB
 have D:=Bv (fl:=fl) (ft:=ft) (p:=p) (AB:=AB) hr hp hs h3
 have S:Sub fs fs 0:=λk f e=>(dU k).symm▸e
 have F:=xr D fs 0 S
 have ln:len (gn nr (len fl) fs)=fs.length:=(CP fs).trans (bH fs)
 have hK:=ln.symm▸zB hk
 refine bD ⟨OL Y hr hf hp hs hk,bD ⟨?_,λe he=>?_⟩⟩
 · have hK':=(bH fs).symm▸zB hk
   have E:=TP (md:=md) (ft:=ft) (p:=p) (AB:=AB) Y hr hf hK'
   show bT _ _ (pq md (K,len (gn nr (len fl) fs)) aR fl)
   rw[CP];exact E
 · have he:=he
   rw[cq] at he
   refine(List.mem_append.mp he).elim (N1 Y O hr hp rfl (oB hr) F e) (Ef Y O D hr hf hp (oB hr) hK (ln.symm▸h3) fs 0 [] [] S ?_ rfl (λ_ q=>nomatch q) (Nat.le_refl _) e)
   rw[ln,dU];exact Nat.le_refl _
theorem NB(Y:bu w.params Hp)(hr:nr<3)(hf:fl∈cB)(hp:len fl<3)(hs:∀f∈fs,cx f)(hk:jl K fs.length)(h:uE (ni md K nr fl fs)=true):bT (c0 w Hp) (vP (eD nr (len fl) fl ft fs) p AB) (tO (ni md K nr fl fs)):=
 qk (found Y) (λk vs H m r q=>vr (Qz Y hr hf hp hs hk) q) h
end
def TV(s:iL)(x y:V):List aF:=app [.cell (some (.loc 1)),.list [x,y],.list (o6 s.fl),.list (cA (λi _=>Option.rec (aA [.str [Nat.add 65 i],ig i,ls (Nat.add 4 i)]) (λf=>aA [.str [],f,ls 4]) s.K) s.fs)] (cA xi s.fs)
def FT(s:iL):List (Nat×V):=[(164,.bool (qy s.K)),(41,aR),(45,.loc 2),(129,.loc 3)]
def pM(md:Bool):List Dr:=[⟨2,.n (aa md 1 0)⟩]
def xV(s:iL):Bool:=pR (CE (lZ [tO s]) (iU (pM s.md))) 260 (fT 6 1) ⟨hL (TV s (.atom (aP 0)) (.atom (aQ 0))),FT s⟩ [] Bf [.cell (some (.loc 1)),.list [.atom (aP 1),.atom (aQ 1)]] []
def GB(md:Bool)(fl:List Bool):Bool:=aa (eI xX λf=>xV ⟨md,.none,fl,f⟩) (eI [qo,kM,o7] λk=>eI v4 λf=>xV ⟨md,some k,fl,f⟩) false
def dP(p:List Dr)(AB:Int×Int)(k:Nat):Nat:=Option.rec 0 (λx=>DD.d (DD.pt p AB k).1 (DD.pt p AB k).2 x.top) (aj p k)
def ny(p:List Dr)(AB:Int×Int)(v:V):List Nat:=Option.rec (cI (tP p AB (Nat.sub (Option.rec 0 (λc=>c) (cu v)) 3000))) (λs=>s) (cQ v)
def u3(p:List Dr)(AB:Int×Int)(r:Rw):Rl:=⟨ny p AB r.nm,dP p AB r.w,decide (zP p AB r.z=0)⟩
def BR(p:List Dr)(AB:Int×Int)(f:List Fm):List (List Rl):=bM (λx=>bM (u3 p AB) x.rows) f
inductive AP(s:List Nat):Prop|mk:s=[97]\/s=[98]\/s=[99]->AP s
section
variable{e:Vr}{p:List Dr}{AB:Int×Int}{k:Nat}{r:Rw}
theorem Cb(hd:gP p=true)(hl:p.length<=400)(hx:aj p k=some x):m9 x/\k<500:=⟨F6 hd hx,Nat.lt_of_lt_of_le (Nat.lt_of_lt_of_le (i7 hx) hl) (by decide)⟩
theorem Ul(hd:gP p=true)(hl:p.length<=400)(h:LE p k=true):ai (bY (vP e p AB)) (.atom (Nat.add 3000 k))=some (.str (aL (dP p AB k)))/\dP p AB k<13:=by
 refine bV h λx hx h=>?_
 obtain⟨d,lt⟩:=Cb hd hl hx
 obtain⟨t,w⟩:=x
 cases w with
 |n=>exact ft h
 |z=>exact ft h
 |t l=>
  have e13:=bx.mp h
  subst e13
  have el:l=kU:=by cases d;rfl
  subst el
  have ed:dP p AB k=DD.d (DD.pt p AB k).1 (DD.pt p AB k).2 13:=by unfold dP;rw[hx]
  refine⟨?_,ed▸DD.lt _ _ 13 (by decide)⟩
  show some ((vP e p AB).ρ (3000+k))=_
  rw[Cy lt,ed]
  unfold tP
  rw[hx];rfl
theorem Yu(hd:gP p=true)(hl:p.length<=400)(h:Ep p k=true):ai (bY (vP e p AB)) (.atom (Nat.add 7000 k))=some (.bool (decide (zP p AB k=0))):=by
 refine bV h λx hx h=>?_
 show some ((vP e p AB).ρ (7000+k))=_
 rw[OT (Cb hd hl hx).2]
theorem Gi(hd:gP p=true)(hl:p.length<=400)(h:qj p v=true):ai (bY (vP e p AB)) v=some (.str (ny p AB v))/\AP (ny p AB v):=by
 refine bV h λc hc hh=>?_
 have hh:=aO hh
 obtain rfl:=qA hc
 refine bV hh.2 λx hx h2=>?_
 have le:=dL hh.1
 obtain⟨i,rfl⟩:∃i,c=3000+i:=⟨c-3000,by omega⟩
 have ei:Nat.sub (3000+i) 3000=i:=Nat.add_sub_cancel_left 3000 i
 rw[ei] at hx
 obtain⟨d,lt⟩:=Cb hd hl hx
 obtain⟨t,w⟩:=x
 cases w with
 |n=>exact ft h2
 |z=>exact ft h2
 |t l=>
  have e3:=bx.mp h2
  subst e3
  have el:l=k8:=by cases d;rfl
  subst el
  have et:tP p AB i=.str (jD k8 (DD.d (DD.pt p AB i).1 (DD.pt p AB i).2 3)):=by unfold tP;rw[hx]
  have en:ny p AB (.atom (3000+i))=jD k8 (DD.d (DD.pt p AB i).1 (DD.pt p AB i).2 3):=by
   show cI (tP p AB (Nat.sub (3000+i) 3000))=_
   rw[ei,et];rfl
  refine⟨?_,?_⟩
  · show some ((vP e p AB).ρ (3000+i))=_
    rw[Cy lt,en,et]
  · rw[en]
    exact fp (DD.lt (DD.pt p AB i).1 (DD.pt p AB i).2 3 (by decide)) (P:=λd=>AP (jD k8 d)) ⟨.inl rfl⟩ ⟨.inr (.inl rfl)⟩ ⟨.inr (.inr rfl)⟩
theorem Y2(h:J7 v=true):ai (bY (vP e p AB)) v=some (.str (ny p AB v)):=by
 refine bV (f:=λ_=>true) h λs hs _=>?_
 obtain rfl:=jC hs
 rfl
theorem Co(hd:gP p=true)(hl:p.length<=400)(h:AX p r=true):ai (bY (vP e p AB)) (JO r)=some (fL (u3 p AB r))/\(u3 p AB r).i<13:=by
 have h1:=aO h
 have h2:=aO h1.2
 have w:=Ul (e:=e) (AB:=AB) hd hl h1.1
 refine⟨cG rfl ?_ (cG rfl w.1 (cG rfl (Yu hd hl h2.1) rfl)),w.2⟩
 have h3:=h2.2
 cases a:qj p r.nm with
 |true=>exact(Gi hd hl a).1
 |false=>rw[a] at h3;exact Y2 h3
theorem RU(hd:gP p=true)(hl:p.length<=400)(h:AL p l=true):cx (bM (u3 p AB) l)/\aN (ai (bY (vP e p AB))) (EV l)=some (bM fL (bM (u3 p AB) l)):=by
 match l,h with
 |[],_=>exact⟨⟨Nat.zero_le 2,(λ_ q=>nomatch q),(λ_ _ q=>nomatch q)⟩,rfl⟩
 |[a],h=>
  have h:=aO (h)
  have ra:=Co (e:=e) (AB:=AB) hd hl h.1
  exact⟨⟨Nat.le_succ 1,bD ⟨ra.2,λ_ q=>nomatch q⟩,(λ_ _ q=>nomatch q)⟩,ae ra.1 aT⟩
 |[a,b],h=>
  have h:=aO (h)
  have h2:=aO h.2
  have h3:=(aO h2.2).1
  have ra:=Co (e:=e) (AB:=AB) hd hl h.1
  have rb:=Co (e:=e) (AB:=AB) hd hl h2.1
  refine⟨⟨Nat.le_refl 2,bD ⟨ra.2,bD ⟨rb.2,λ_ q=>nomatch q⟩⟩,λx y q hq=>?_⟩,ae ra.1 (ae rb.1 aT)⟩
  injection q with q1 q2
  injection q2 with q2 _
  subst q1;subst q2
  unfold Me at h3
  cases ia:qj p a.nm with
  |true=>exact(Gi (e:=e) hd hl ia).2.1
  |false=>
   rw[ia] at h3
   refine bV h3 λs hs h3=>bV h3 λt ht h3=>?_
   have q:seq s t=true:=by
    have:seq (ny p AB a.nm) (ny p AB b.nm)=true:=hq
    unfold ny at this
    rw[hs,ht] at this;exact this
   rw[q] at h3
   exact ft h3
 |a::b::c::r,h=>
  have h:=aO (h)
  have h3:=aO (aO h.2).2
  exact ft h3.2
theorem Gm(hd:gP p=true)(hl:p.length<=400):∀(f:List Fm),(List.rec true (λx _ ih=>aa (AL p x.rows) ih false) f:Bool)=true->(∀g∈BR p AB f,cx g)/\aN (bA (bY (vP e p AB)) (kB (vP e p AB))) (FY f)=some (bM (λg=>.list (bM fL g)) (BR p AB f))
 |[],_=>⟨(λ_ q=>nomatch q),rfl⟩
 |x::r,h=>by
  have h:=aO h
  have a:=RU (e:=e) (AB:=AB) hd hl h.1
  have ih:=Gm hd hl r h.2
  exact⟨bD ⟨a.1,ih.1⟩,ae (bX a.2) ih.2⟩
end
def eZ:Vr:=eD 0 0 [] (λ_=>[]) []
def X1(A B:Int):List aF:=[.cell (some (.loc 1)),.list [.int A,.int B]]
def X3(fl:List Bool)(A B:Int):List aF:=[.cell (some (.loc 1)),.list [.int A,.int B],.list (o6 fl),.list []]
def R3(sum:Bool)(nr:Nat):List (Nat×V):=[(164,.bool sum),(41,ca nr),(45,.loc 2),(129,.loc 3)]
def X4(sum:Bool)(fl:List Bool)(f:List Fm)(fs:List (List Rl))(A B:Int):List aF:=app [.cell (some (.loc 1)),.list [.int A,.int B],.list (o6 fl),.list (si sum f 0)] (bM (λg=>.list (bM fL g)) fs)
section
variable{w:World}{Hp:Heap}{b:Nat->Value}{A:Around}{env:Env}{μ:Mu}{s:Shared}{Q:Flow->Shared->Prop}{E:Value->Shared->Prop}{b2:List Mine.S}
def nF(w:World)(Hp:Heap)(b:Nat->Value)(A:Around)(env:Env)(l:List aF)(r:List (Nat×V))(μ:Mu)(s:Shared):Prop:=Ok ((c0 w Hp).vw TZ b v0) gd A env eU μ ⟨hL l,r⟩ s
theorem vk{v:cc}{θ:Nat->Option V}{sg:Nat->Option (List V)}{T:Tb}{l l':List aF}{r r':List (Nat×V)}(O:b6 v θ sg)(h1:aN (bA (λ_=>none) (λ_=>none)) l=some l)(h2:aN (bA θ sg) l'=some l)
 (h3:aN (λp=>aD (ai (λ_=>none) p.2) λv=>some (p.1,v)) r=some r)(h4:aN (λp=>aD (ai θ p.2) λv=>some (p.1,v)) r'=some r)(o:nF w Hp b A env l r μ s):Ok ((c0 w Hp).vw T b v) gd A env eU μ ⟨hL l',r'⟩ s:=
 H7 (v:=v0) pO O h1 h2 h3 h4 o
theorem uB{v:cc}{θ:Nat->Option V}{sg:Nat->Option (List V)}{T:Tb}{l l':List aF}{r r':List (Nat×V)}(O:b6 v θ sg)(h1:aN (bA (λ_=>none) (λ_=>none)) l=some l)(h2:aN (bA θ sg) l'=some l)
 (h3:aN (λp=>aD (ai (λ_=>none) p.2) λv=>some (p.1,v)) r=some r)(h4:aN (λp=>aD (ai θ p.2) λv=>some (p.1,v)) r'=some r)(o:Ok ((c0 w Hp).vw T b v) gd A env eU μ ⟨hL l',r'⟩ s):nF w Hp b A env l r μ s:=
 H7 O pO h2 h1 h4 h3 o
theorem wX{e:Vr}{p:List Dr}{AB:Int×Int}{i:Nat}(h:i<500):aN (ai (bY (vP e p AB))) [.atom (aP i),.atom (aQ i)]=some [.int (DD.pt p AB i).1,.int (DD.pt p AB i).2]:=
 ae (aq some (A2 h)) (ae (aq some (z9 h)) aT)
theorem wj{e:Vr}{p:List Dr}{A B:Int}:aN (ai (bY (vP e p (A,B)))) [.atom (aP 0),.atom (aQ 0)]=some [.int A,.int B]:=wX (e:=e) (p:=p) (AB:=(A,B)) (i:=0) (by decide)
theorem qL{A B:Int}:aN (bA (λ_=>none) (λ_=>none)) (X1 A B)=some (X1 A B):=rfl
theorem xw{e:Vr}{p:List Dr}{A B:Int}:aN (bA (bY (vP e p (A,B))) (kB (vP e p (A,B)))) td=some (X1 A B):=ae rfl (ae (bX wj) aT)
theorem Ft{e:Vr}{p:List Dr}{AB:Int×Int}(h:len p<500):aN (bA (bY (vP e p AB)) (kB (vP e p AB))) [.cell (some (.loc 1)),.list [.atom (aP (len p)),.atom (aQ (len p))]]=some (X1 (DD.pt p AB (len p)).1 (DD.pt p AB (len p)).2):=ae rfl (ae (bX (wX h)) aT)
theorem xa(M:ii w Hp b A env){e:Vr}{p:List Dr}{AB:Int×Int}(hp:DD.is p AB)(hd:gP p=true)(hl:p.length<=400):qG w Hp b (iU p) (vP e p AB):=λk vs H d r h=>Lq M.Y hp hd hl k vs H d r h _ _ M.hb
theorem wl{p:List Dr}(h:Nat.ble (len p) 400=true):p.length<=400/\len p<500:=by
 have:=dL h
 rw[bH] at this ⊢
 exact⟨this,by omega⟩
theorem Zq{v:V}{i:Nat}(h:dS v=some i):v=.bi i:=by cases v<;>first|exact ns h|exact aq V.bi (af h)
theorem VW(M:ii w Hp b A env){l:Addr}{bI:List Int}(Sc:∀v,pj (cX w Hp O0 b v) l bI):qG w Hp b tY (vP eZ [] (gc bI,fY bI)):=by
 intro k vs H d r h
 have h:=cs (h)
 obtain rfl:=bx.mp h.1
 have h:=h.2
 cases vs with
 |nil=>exact ns h
 |cons v q=>
  cases q with
  |cons=>exact ns h
  |nil=>
   have h:=cs (h)
   obtain rfl:=Zq (mn h.1)
   obtain⟨rfl,rfl⟩:=Prod.mk.inj (af h.2)
   have P:=Os M.Y (v:=vP eZ [] (gc bI,fY bI)) M.hb (Sc _) H
   intro n hn X A' env' fr μ σ s xs Q E q eo o z t
   refine P n hn X A' env' fr μ σ s xs Q E q (aJ.tbl (c:=c0 w Hp) (T':=cy O0) eo) (Ok.tbl (c:=c0 w Hp) (T':=cy O0) o) (jv (c:=c0 w Hp) (T:=cy tY) (T':=cy O0) (b:=b) (v:=vP eZ [] (gc bI,fY bI))▸z) ?_
   intro av s' y nx o' dv
   refine t av s' y nx (Ok.tbl (c:=c0 w Hp) (T:=cy O0) (T':=cy tY) ?_) (by show ad ((c0 w Hp).vw (cy tY) b (vP eZ [] (gc bI,fY bI))) X av s'.heap (V.loc H.n) y;rw[jv (T':=cy O0)];exact dv)
   have hw:=q▸o.len.w
   have hh:HE ((c0 w Hp).vw (cy O0) b (vP eZ [] (gc bI,fY bI))) ((c0 w Hp).vw (cy O0) b (vP eZ [] (gc bI,fY bI))) H H:=⟨rfl,hw,hw,λi o e=>⟨o,e,λ_ _ _ _=>Iff.rfl⟩⟩
   have ov:=hU eZ [] (gc bI,fY bI)
   have he:OE ((c0 w Hp).vw (cy O0) b (vP eZ [] (gc bI,fY bI))) ((c0 w Hp).vw (cy O0) b (vP eZ [] (gc bI,fY bI))) (.list [.int (gc bI),.int (fY bI)]) (.list [.atom (aP 0),.atom (aQ 0)]):=uw (c:=c0 w Hp) (v:=vP eZ [] (gc bI,fY bI)) pO ov (λ_ _=>rfl) rfl (bX (sg:=kB (vP eZ [] (gc bI,fY bI))) wj)
   exact Ok.turn (σ:=⟨aH H (.list [.int (gc bI),.int (fY bI)]),σ.r⟩) (H':=aH H (.list [.atom (aP 0),.atom (aQ 0)])) (r':=σ.r) ⟨rfl,rfl,rfl,rfl,rfl,rfl,rfl,rfl⟩ (hh.add he) (λn v' h=>⟨v',h,λ_ _ _ _=>Iff.rfl⟩) o'
end
theorem BI{t:Nat}{l:List (List Nat)}:zo ⟨t,.t l⟩:=λ_ q=>nomatch q
theorem LM{t:Nat}:zo ⟨t,.z⟩:=λ_ q=>nomatch q
theorem We:T2.open:=λd0 d1 d2=>by
 match d2 with
 |0=>exact trivial
 |1=>exact λ_=>trivial
 |_+2=>exact λ_ _=>trivial
theorem Cp{k:Nat}{cont:Nat->List Rw->DT (List Fm)}(hc:∀i r,(cont i r).open):∀m i a acc,(uP k m i a acc cont).open
 |0,i,a,acc=>hc i acc
 |m+1,i,a,acc=>by
  show DT.open (aa (Nat.beq k 1) (.skip ⟨13,.t kU⟩ (.skip ⟨2,.z⟩ (uP k m (Nat.add i 2) (Nat.succ a) (app acc [⟨.str [Nat.add 48 a],i,Nat.succ i⟩]) cont)))
   (.skip ⟨3,.t k8⟩ (.skip ⟨13,.t kU⟩ (.skip ⟨2,.z⟩ (uP k m (Nat.add i 3) (Nat.succ a) (app acc [⟨.atom (Nat.add 3000 i),Nat.succ i,Nat.add i 2⟩]) cont)))))
  cases Nat.beq k 1 with
  |true=>exact⟨BI,LM,Cp hc m _ _ _⟩
  |false=>exact⟨BI,BI,LM,Cp hc m _ _ _⟩
theorem Ur{cont:Nat->Fm->DT (List Fm)}(hc:∀i f,(cont i f).open)(i:Nat):(GE i cont).open:=λk=>by
 show DT.open (aa (Nat.beq k 0) (cont (Nat.succ i) ⟨0,[]⟩) (.ask 3 λm=>uP k m (Nat.add i 2) 0 [] λi' r=>cont i' ⟨k,r⟩))
 cases Nat.beq k 0 with
 |true=>exact hc _ _
 |false=>exact λm=>Cp (λi' r=>hc i' _) m _ _ _
theorem zW:∀n i acc,(yc n i acc).open
 |0,_,_=>trivial
 |n+1,i,acc=>Ur (cont:=λi' f=>yc n i' (app acc [f])) (λi' f=>zW n i' _) i
theorem Rs(sum:Bool):(T3 sum).open:=by
 cases sum with
 |true=>exact λn=>zW n 1 []
 |false=>exact zW 1 0 []
theorem X9:T5.open:=λ_ _=>trivial
theorem HJ{k:DT Unit}(hk:k.open)(t:Nat):∀n,(IE t n k).open
 |0=>hk
 |n+1=>λ_=>HJ hk t n
theorem O1:T6.open:=λn=>HJ (k:=.ask 3 λ_=>.leaf ()) (λ_=>trivial) 6 n
theorem W6{fl:List Bool}(h:len fl<=2):fl∈cB:=by
 rw[bH] at h
 match fl,h with
 |[],_=>exact .head _
 |[false],_=>exact .tail _ (.head _)
 |[true],_=>exact .tail _ (.tail _ (.head _))
 |[false,false],_=>exact .tail _ (.tail _ (.tail _ (.head _)))
 |[false,true],_=>exact .tail _ (.tail _ (.tail _ (.tail _ (.head _))))
 |[true,false],_=>exact .tail _ (.tail _ (.tail _ (.tail _ (.tail _ (.head _)))))
 |[true,true],_=>exact .tail _ (.tail _ (.tail _ (.tail _ (.tail _ (.tail _ (.head _))))))
 |_::_::_::_,h=>exact aV h (by simp)
theorem K5{fl:List Bool}(h:len fl<=2):H3 fl=o6 fl:=by
 rw[bH] at h
 match fl,h with
 |[],_=>rfl
 |[_],_=>rfl
 |[_,_],_=>rfl
 |_::_::_::_,h=>exact aV h (by simp)
section
variable{w:World}{Hp:Heap}{b:Nat->Value}{A:Around}{env:Env}{μ:Mu}{s:Shared}{Q:Flow->Shared->Prop}{E:Value->Shared->Prop}{b2:List Mine.S}
def sr(w:World)(Hp:Heap)(b:Nat->Value)(A:Around)(env:Env)(Q:Flow->Shared->Prop)(E:Value->Shared->Prop)(b2:List Mine.S)(s:Shared)(l:Int->Int->List aF)(r:List (Nat×V)):Prop:=
 ∀x y av s',s'.gens=s.gens->s'.os=s.os->nF w Hp b A env (l x y) r av s'->wpAny (c0 w Hp).M A (PySem.execs (cU n b2) env) Q E s'
theorem YY(M:ii w Hp b A env){l:Addr}{bI:List Int}(Sc:∀v,pj (cX w Hp O0 b v) l bI)(o:Ok ((c0 w Hp).vw TZ b (vP eZ [] (gc bI,fY bI))) gd A env eU μ ⟨hL [.cell none],[(143,.bi 14)]⟩ s)(k:sr w Hp b A env Q E b2 s X1 []):
 wpAny (c0 w Hp).M A (PySem.execs (cU n (fT 0 2++b2)) env) Q E s:=
 tU M (by decide) (VW M Sc) WH o λav s' h1 h2 o'=>k _ _ av s' h1 h2 (uB (hU _ _ _) qL xw rfl rfl o')
theorem Mp{fl:List Bool}{x y:Int}:aN (bA (λ_=>none) (λ_=>none)) (X3 fl x y)=some (X3 fl x y):=
 ae rfl (ae rfl (ae (bX (jb _ (u7 fl))) (ae rfl aT)))
theorem w8{sum:Bool}{nr:Nat}(hr:nr<3):aN (λp=>aD (ai (λ_=>none) p.2) λv=>some (p.1,v)) (R3 sum nr)=some (R3 sum nr):=
 bR rfl (bR (ij _ (i8 _ (jG hr).2)) (bR rfl (bR rfl aT)))
theorem XC(M:ii w Hp b A env){x y:Int}(o:nF w Hp b A env (X1 x y) [] μ s)(k:∀sum nr fl,nr<3->len fl<=2->sr w Hp b A env Q E b2 s (X3 fl) (R3 sum nr)):
 wpAny (c0 w Hp).M A (PySem.execs (cU n (fT 2 3++b2)) env) Q E s:=by
 obtain⟨D,p,h,hp⟩:=xS DD T2 (p:=(x,y)) We S2 trivial
 have h1:=aO (h)
 have h0:=aO h1.1
 have h2:=aO h1.2
 have h3:=aO h2.2
 have hr:=cF h0.1
 have hf:=dL h0.2
 obtain⟨hl,hk⟩:=wl h3.1
 refine tU M (by decide) (xa M (e:=eZ) hp h2.1 hl) h3.2 (vk (T:=TZ) (hU _ _ _) qL xw rfl rfl o) λav s' g1 g2 o'=>k D.sum D.nr D.fl hr hf (DD.pt p (x,y) (len p)).1 (DD.pt p (x,y) (len p)).2 av s' g1 g2 (uB (hU _ _ _) Mp ?_ (w8 hr) ?_ o')
 · exact ae rfl (ae (bX (wX hk)) (ae (K5 hf▸bX (jb _ (K5 hf▸u7 D.fl))) (ae rfl aT)))
 · exact bR rfl (bR (ij _ (i8 _ (jG hr).2)) (bR rfl (bR rfl aT)))
theorem Q2(M:ii w Hp b A env){x y:Int}(o:nF w Hp b A env (X1 x y) [] μ s)(k:sr w Hp b A env Q E b2 s X1 []):wpAny (c0 w Hp).M A (PySem.execs (cU n (fT 7 1++b2)) env) Q E s:=by
 obtain⟨D,p,h,hp⟩:=xS DD T5 (p:=(x,y)) X9 Zd trivial
 have h2:=aO h
 have h3:=aO h2.2
 obtain⟨hl,hk⟩:=wl h3.1
 exact tU M (by decide) (xa M (e:=eZ) hp h2.1 hl) h3.2 (vk (T:=TZ) (hU _ _ _) qL xw rfl rfl o) λav s' g1 g2 o'=>k _ _ av s' g1 g2 (uB (hU _ _ _) qL (Ft hk) rfl rfl o')
theorem OD(M:ii w Hp b A env){x y:Int}(o:nF w Hp b A env (X1 x y) [] μ s)(k:∀c av ba s',s'.gens=s.gens->s'.os=s.os->jK (c0 w Hp) c->Ok c gd A env eU av ba s'->Q (.ret (.bool true)) s'):wpAny (c0 w Hp).M A (PySem.execs (cU n (fT 8 2)) env) Q E s:=by
 obtain⟨D,p,h,hp⟩:=xS DD T6 (p:=(x,y)) O1 Uo trivial
 have h2:=aO h
 have h3:=aO h2.2
 obtain⟨hl,hk⟩:=wl h3.1
 exact TL M (by decide) (xa M (e:=eZ) hp h2.1 hl) h3.2 (vk (T:=TZ) (hU _ _ _) qL xw rfl rfl o) k
end
section
variable{θ:Nat->Option V}{sg:Nat->Option (List V)}{sum:Bool}{fl:List Bool}{x y:Int}
theorem Jb(f:List Fm):∀i,aN (ai θ) (si sum f i)=some (si sum f i):=by
 induction f with
 |nil=>exact λ_=>rfl
 |cons a r ih=>exact λi=>ae rfl (ih (Nat.succ i))
theorem Sb(fs:List (List Rl)):aN (bA θ sg) (bM (λg=>.list (bM fL g)) fs)=some (bM (λg=>.list (bM fL g)) fs):=by
 induction fs with
 |nil=>rfl
 |cons a r ih=>exact ae (bX (jb _ (IP a))) ih
theorem Jm:aN (bA (λ_=>none) (λ_=>none)) (X4 sum fl f fs x y)=some (X4 sum fl f fs x y):=
 ae rfl (ae rfl (ae (bX (jb _ (u7 fl))) (ae (bX (Jb f 0)) (Sb fs))))
end
noncomputable def Ah(sum:Bool)(k:Nat):Bool:=aa sum (Nat.ble k 3) (Nat.beq k 1)
theorem NI{α β:Type}(g:α->β)(l:List α):(bM g l).length=l.length:=by
 induction l with
 |nil=>rfl
 |cons x r ih=>exact aq Nat.succ ih
section
variable{w:World}{Hp:Heap}{b:Nat->Value}{A:Around}{env:Env}{μ:Mu}{s:Shared}{Q:Flow->Shared->Prop}{E:Value->Shared->Prop}{b2:List Mine.S}
theorem YT(M:ii w Hp b A env)(hr:nr<3)(o:nF w Hp b A env (X3 fl x y) (R3 sum nr) μ s)
 (k:∀f fs,(∀g∈fs,cx g)->Ah sum (len f)=true->fs.length=f.length->sr w Hp b A env Q E b2 s (X4 sum fl f fs) (R3 sum nr)):wpAny (c0 w Hp).M A (PySem.execs (cU n (fT 5 1++b2)) env) Q E s:=by
 have go:∃f p,zk sum f p=true/\DD.is p (x,y):=xS DD (T3 sum) (l:=[]) (p:=(x,y)) (Rs sum) (by cases sum;exact US;exact Wa) trivial
 obtain⟨f,p,h,hp⟩:=go
 have h1:=aO (h)
 have h0:=aO h1.1
 have h2:=aO h1.2
 have h3:=aO h2.2
 obtain⟨hl,hk⟩:=wl h3.1
 have F:=Gm (e:=eD nr (len fl) fl (λ_=>[]) []) (AB:=(x,y)) h2.1 hl f h0.2
 have hR:=oB (np:=len fl) (fl:=fl) (ft:=λ_=>[]) (fs:=[]) (p:=p) (AB:=(x,y)) hr
 refine tU M (by decide) (xa M (e:=eD nr (len fl) fl (λ_=>[]) []) hp h2.1 hl) h3.2 (vk (T:=TZ) (hU _ _ _) Mp ?_ (w8 hr) ?_ o) λav s' g1 g2 o'=>
  k f (BR p (x,y) f) F.1 h0.1 (NI _ f) (DD.pt p (x,y) (len p)).1 (DD.pt p (x,y) (len p)).2 av s' g1 g2 (uB (hU _ _ _) Jm ?_ (w8 hr) ?_ o')
 · exact ae rfl (ae (bX wj) (ae (qM rfl) (ae rfl aT)))
 · exact bR rfl (bR hR (bR rfl (bR rfl aT)))
 · exact ae rfl (ae (bX (wX hk)) (ae (qM rfl) (ae (bX (Jb f 0)) F.2)))
 · exact bR rfl (bR hR (bR rfl (bR rfl aT)))
noncomputable def jO(f:List Fm)(i:Nat):List Nat:=pL (Option.rec 0 (λx=>x.kind) (aj f i))
noncomputable def KD(sum:Bool)(f:List Fm):Option V:=aa sum none (some (.str (jO f 0)))
theorem Zp(k:Nat):V.str (pL k)∈[qo,kM,o7]:=by
 unfold pL
 cases Nat.beq k 0 with
 |true=>exact .head _
 |false=>cases Nat.beq k 1 with
  |true=>exact .tail _ (.head _)
  |false=>exact .tail _ (.tail _ (.head _))
theorem U9(h:Ah sum (len f)=true):jl (KD sum f) f.length:=by
 rw[bH] at h
 cases sum with
 |true=>exact .en (dL h)
 |false=>
  have h:=bx.mp h
  rw[h]
  exact .st (Zp _)
theorem Pm:qy (KD sum f)=sum:=by cases sum<;>rfl
def v3:Prop:=∀md fl,fl∈cB->gY md fl=true
def wC:Prop:=∀md fl,fl∈cB->GB md fl=true
theorem U7{g:Nat->V}(f:List Fm):∀(jz:List Fc) (i:Nat),len jz=len f->(∀k x,aj f k=some x->ai θ (g (i+k))=some (.cons (.str (Mf sum (i+k))) (.cons (.str (pL x.kind)) (.cons (.loc (Nat.add 4 (i+k))) .nil))))->aN (ai θ) (mG (λi _=>g i) jz i)=some (si sum f i):=by
 induction f with
 |nil=>
  intro jz i h _
  cases jz with
  |nil=>rfl
  |cons=>exact nomatch h
 |cons a r ih=>
  intro jz i h hg
  cases jz with
  |nil=>exact nomatch h
  |cons c q=>
   refine ae (hg 0 a rfl) (ih q (Nat.succ i) (Nat.succ.inj h) λk x e=>?_)
   have:=hg (k+1) x e
   rw[show i+(k+1)=Nat.succ i+k by omega] at this
   exact this
theorem Pv(F:lV θ sg nr np i l jz):aN (bA θ sg) (mG xi jz i)=some (bM (λg=>.list (bM fL g)) l):=by
 induction F with
 |nil=>rfl
 | @cons i f fc r q a t rl _ ih=>
  refine ae ?_ ih
  cases a with
  |ok hc h=>
   refine bX ?_
   rw[← Ln fL f 0]
   exact oV rl.n λj r g=>cR (ae (h j r g).nm (ae (h j r g).wd (ae (h j r g).pb aT)))
  |bad _ s=>exact qM s
  |aft _ s=>exact qM s
theorem WN{n:Nat}(h:n<2):n=aa (Nat.beq n 1) 1 0:=by
 match n,h with
 |0,_=>rfl
 |1,_=>rfl
theorem Pp(TK:v3)(RN:wC)(M:ii w Hp b A env){x y:Int}{nr:Nat}(hr:nr<3)(hf:len fl<=2)(hs:∀g∈fs,cx g)(hc:Ah sum (len f)=true)(hn:fs.length=f.length)
 (o:nF w Hp b A env (X4 sum fl f fs x y) (R3 sum nr) μ s)(k:sr w Hp b A env Q E b2 s X1 []):wpAny (c0 w Hp).M A (PySem.execs (cU n (fT 6 1++b2)) env) Q E s:=by
 have hm:=W6 hf
 have hp:=Nat.lt_succ_of_le hf
 have hk:=hn▸U9 hc
 have lt:=DD.lt x y 2 (by decide)
 obtain⟨md,hmd⟩:∃md,DD.d x y 2=aa md 1 0:=⟨_,WN lt⟩
 have is:DD.is (pM md) (x,y):=⟨λd e=>by injection e with e;exact hmd.trans e,trivial⟩
 have hd:gP (pM md)=true:=by cases md<;>rfl
 have hl:=(by decide:1<=400)
 have D:=Bv (fl:=fl) (ft:=jO f) (p:=pM md) (AB:=(x,y)) hr hp hs hk.le
 have F:=xr D fs 0 λk f e=>(dU k).symm▸e
 have tk:uE (ni md (KD sum f) nr fl fs)=true:=K2 (g:=uE) (TK md fl hm) hk hs
 have rn:xV (ni md (KD sum f) nr fl fs)=true:=K2 (g:=xV) (RN md fl hm) hk hs
 have T:=NB (ft:=jO f) (p:=pM md) (AB:=(x,y)) M.Y hr hm hp hs hk tk
 have OO:qG w Hp b (CE (lZ [tO (ni md (KD sum f) nr fl fs)]) (iU (pM md))) (vP (eD nr (len fl) fl (jO f) fs) (pM md) (x,y)):=
  ZR (λk vs H d r h=>vr (es:=[tO (ni md (KD sum f) nr fl fs)]) (bD ⟨T,λ_ q=>nomatch q⟩) h) (λk vs H d r h=>Lq M.Y is hd hl k vs H d r h) M.hb
 have hR:=oB (np:=len fl) (fl:=fl) (ft:=jO f) (fs:=fs) (p:=pM md) (AB:=(x,y)) hr
 have fl':len (gn nr (len fl) fs)=len f:=by rw[CP,bH,bH,hn]
 refine tU M (by decide) OO rn (vk (T:=TZ) (hU _ _ _) Jm ?_ (w8 hr) ?_ o) λav s' g1 g2 o'=>k (DD.pt (pM md) (x,y) 1).1 (DD.pt (pM md) (x,y) 1).2 av s' g1 g2 (uB (hU _ _ _) qL (Ft (p:=pM md) (by show 1<500;decide)) rfl rfl o')
 · refine ae rfl (ae (bX wj) (ae (bX (jb _ (u7 fl))) (ae (bX ?_) (Pv F))))
   refine U7 (g:=λi=>Option.rec (aA [.str [Nat.add 65 i],ig i,ls (Nat.add 4 i)]) (λf=>aA [.str [],f,ls 4]) (KD sum f)) f (gn nr (len fl) fs) 0 fl' λk z e=>?_
   have lk:=i7 e
   cases sum with
   |true=>
    have h3:=hn▸hk.le
    have q:=AZ (nr:=nr) (np:=len fl) (fl:=fl) (ft:=jO f) (fs:=fs) (p:=pM md) (AB:=(x,y)) (i:=k) (Nat.lt_of_lt_of_le lk h3)
    have ek:jO f k=pL z.kind:=by unfold jO;rw[e]
    rw[ek] at q
    rw[dU]
    exact cG rfl rfl (cG rfl q (cG rfl rfl rfl))
   |false=>
    have h1:f.length=1:=by have:=hc;rw[bH] at this;exact bx.mp this
    have k0:k=0:=by omega
    subst k0
    have ek:jO f 0=pL z.kind:=by unfold jO;rw[e]
    show ai _ (aA [.str [],.str (jO f 0),ls 4])=_
    rw[ek];rfl
 · have e1:FT (ni md (KD sum f) nr fl fs)=[(164,.bool sum),(41,aR),(45,.loc 2),(129,.loc 3)]:=by show(164,V.bool (qy (KD sum f)))::_=_;rw[Pm]
   rw[e1]
   exact bR rfl (bR hR (bR rfl (bR rfl aT)))
end
theorem SM:gY false []=true:=by kernel_rfl
theorem Vc:gY false [false]=true:=by kernel_rfl
theorem PR:gY false [true]=true:=by kernel_rfl
theorem TJ:gY false [false,false]=true:=by kernel_rfl
theorem Pf:gY false [false,true]=true:=by kernel_rfl
theorem ZJ:gY false [true,false]=true:=by kernel_rfl
theorem TQ:gY false [true,true]=true:=by kernel_rfl
theorem Tt:gY true []=true:=by kernel_rfl
theorem ZH:gY true [false]=true:=by kernel_rfl
theorem TS:gY true [true]=true:=by kernel_rfl
theorem ZM:gY true [false,false]=true:=by kernel_rfl
theorem R2:gY true [false,true]=true:=by kernel_rfl
theorem RP:gY true [true,false]=true:=by kernel_rfl
theorem YV:gY true [true,true]=true:=by kernel_rfl
theorem R1:v3:=λmd=>by
 cases md
 · exact sZ SM Vc PR TJ Pf ZJ TQ
 · exact sZ Tt ZH TS ZM R2 RP YV
theorem Zk:kQ (λmd=>eI cB λfl=>GB md fl)=true:=by kernel_rfl
theorem UM:wC:=λmd fl h=>gV (ml Zk md) fl h
theorem Wx:lR.body=fT 0 2++(fT 2 3++(fT 5 1++(fT 6 1++(fT 7 1++fT 8 2)))):=by kernel_rfl
section
variable{w:World}{Hp:Heap}{b:Nat->Value}{A:Around}{env:Env}{μ:Mu}{s:Shared}{Q:Flow->Shared->Prop}{E:Value->Shared->Prop}
theorem Vh(TK:v3)(RN:wC)(M:ii w Hp b A env){l:Addr}{bI:List Int}(Sc:∀v,pj (cX w Hp O0 b v) l bI)(o:Ok ((c0 w Hp).vw TZ b (vP eZ [] (gc bI,fY bI))) gd A env eU μ ⟨hL [.cell none],[(143,.bi 14)]⟩ s)
 (k:∀c av ba s',s'.gens=s.gens->s'.os=s.os->jK (c0 w Hp) c->Ok c gd A env eU av ba s'->Q (.ret (.bool true)) s'):wpAny (c0 w Hp).M A (PySem.execs (cU n lR.body) env) Q E s:=by
 rw[Wx]
 refine YY M Sc o λ_ _ _ s1 g1 p1 o1=>?_
 refine XC M o1 λsum nr fl hr hf _ _ _ s2 g2 p2 o2=>?_
 refine YT M hr o2 λf fs hs hc hn _ _ _ s3 g3 p3 o3=>?_
 refine Pp TK RN M hr hf hs hc hn o3 λ_ _ _ s4 g4 p4 o4=>?_
 refine Q2 M o4 λ_ _ _ s5 g5 p5 o5=>?_
 exact OD M o5 λc av ba s' g6 p6 K o'=>k c av ba s' (((((g6.trans g5).trans g4).trans g3).trans g2).trans g1) (((((p6.trans p5).trans p4).trans p3).trans p2).trans p1) K o'
end
theorem ZE:∀P,aZ (λa=>bv oT P a) [695,700,705]=aZ (λ_=>tabObj #[]) [695,700,705]:=λP=>by kernel_rfl
noncomputable def ip(o:Obj):Array Value:=match o.data with|.fields vs=>vs|_=>#[]
noncomputable def Ek(v:Value):Str×Tok:=match v with|.str s t=>(s,t)|_=>default
noncomputable def yj(v:Value):Int×Tok:=match v with|.int s t=>(s,t)|_=>default
noncomputable def WO(v:Value):Bool:=match v with|.bool s=>s|_=>default
theorem zw(Y:bu P H)(hc:aa (Nat.blt c 728) (eJ c ee) true=false)(ne:c≠q)(h1:(bv oT P c).cls=.type "code")(h2:(bv oT P c).data=.fields (ip (bv oT P c)))(h3:(ip (bv oT P c))[11]?=some (.ref q))(h4:(ip (bv oT P c)).getD 11 .none=.ref q)
 (h5:(ip (bv oT P c)).getD 18 .none=.str (Ek ((ip (bv oT P c)).getD 18 .none)).1 (Ek ((ip (bv oT P c)).getD 18 .none)).2)(h6:(ip (bv oT P c)).getD 7 .none=.int (yj ((ip (bv oT P c)).getD 7 .none)).1 (yj ((ip (bv oT P c)).getD 7 .none)).2)
 (h7:(ip (bv oT P c)).getD 9 .none=.bool (WO ((ip (bv oT P c)).getD 9 .none)))(h8:(ip (bv oT P c)).getD 10 .none=.int (yj ((ip (bv oT P c)).getD 10 .none)).1 (yj ((ip (bv oT P c)).getD 10 .none)).2):CodeHd H c q:=by
 have e:=eP Y hc
 have lt:c∉ee:=λm=>by
  have:=me.mpr m
  rw[this] at hc
  cases x:Nat.blt c 728<;>rw[x] at hc<;>exact tf hc
 have e':=(rC lt).symm.trans e
 exact⟨_,_,_,_,_,_,_,_,_,e',h1,h2,h3,h4,h5,h6,h7,h8,ne⟩
theorem Ps(Y:bu P H):CodeHd H 697 695:=zw Y (by kernel_rfl) (by decide) (by kernel_rfl) (by kernel_rfl) (by kernel_rfl) (by kernel_rfl) (by kernel_rfl) (by kernel_rfl) (by kernel_rfl) (by kernel_rfl)
theorem Pb(Y:bu P H):CodeHd H 702 700:=zw Y (by kernel_rfl) (by decide) (by kernel_rfl) (by kernel_rfl) (by kernel_rfl) (by kernel_rfl) (by kernel_rfl) (by kernel_rfl) (by kernel_rfl) (by kernel_rfl)
theorem RE(Y:bu P H):CodeHd H 707 705:=zw Y (by kernel_rfl) (by decide) (by kernel_rfl) (by kernel_rfl) (by kernel_rfl) (by kernel_rfl) (by kernel_rfl) (by kernel_rfl) (by kernel_rfl) (by kernel_rfl)
theorem ZO:aZ (λa=>Nat.blt a 728) [695,700,705]=aZ (λ_=>true) [695,700,705]:=by kernel_rfl
theorem tJ(Y:bu P H)(h:a∈ee):H.get? a=some (tabObj #[]):=by
 have h:=h
 have lt:=cF (bU ZO a h)
 have m:=na (n:=a) (by rw[jo,aG lt,dU])
 exact(Y _ _ (Kl (bU (KL P) a m) lt (bU (G7 P) a m))).trans (aq some (bU (ZE P) a h))
theorem LP(Y:bu P H):∀q∈pg,CodeHd H q.1 q.2/\H.get? q.2=some (tabObj #[])/\q.2∈ee:=λq h=>by
 have h:=h
 cases h with
 |head=>exact⟨Ps Y,tJ Y (.head _),.head _⟩
 |tail _ h=>cases h with
  |head=>exact⟨Pb Y,tJ Y (.tail _ (.head _)),.tail _ (.head _)⟩
  |tail _ h=>cases h with
   |head=>exact⟨RE Y,tJ Y (.tail _ (.tail _ (.head _))),.tail _ (.tail _ (.head _))⟩
   |tail _ h=>exact nomatch h
theorem Pi{R:WRecords}{cl:Str->Option Addr}{h:Heap}(vs:List Value):∀{xs:List WData} {as:List Addr},WShape.hasItems R xs .int=true->ReadsAllW R cl h vs xs as->∃ns:List Int,ay (λ(i:Int) x=>∃t,x=.int i t) ns vs:=by
 induction vs with
 |nil=>exact λ_ _=>⟨[],.nil⟩
 |cons v vs ih=>
  intro xs as q r
  cases xs with
  |nil=>exact nomatch (readsAllW_nil_inv r).1
  |cons d ds=>
   obtain⟨v',vs',as1,as2,e,_,a,r'⟩:=readsAllW_cons_inv r
   obtain⟨rfl,rfl⟩:=List.cons.inj e
   have q:=Bool.and_eq_true_iff.mp q
   obtain⟨i,rfl⟩:=hasW_int q.1
   obtain⟨t,rfl,_⟩:=readsW_int_inv a
   obtain⟨ns,z⟩:=ih q.2 r'
   exact⟨i::ns,.cons ⟨t,rfl⟩ z⟩
theorem Of(h:(WTm.not (.lt (.lit (.int 63)) (.len (.arg 0)))).holds [] {args:=[.list xs]}=true):xs.length<=63:=by
 have e:∀k:Int,PySem.W.less? (.int 63) (.int k)=some (decide (63<k)):=λk=>rfl
 have h:(match (match (PySem.W.less? (WData.int 63) (WData.int xs.length)).map WData.bool with|some (.bool b)=>some (WData.bool (!b))|_=>none) with|some (.bool true)=>true|_=>false)=true:=h
 rw[e] at h
 have h:=h
 cases q:decide (63<(xs.length:Int)) with
 |true=>rw[q] at h;exact ft h
 |false=>have:=of_decide_eq_false q;omega
noncomputable def bS(w:World)(H:Heap)(l:Addr)(k:Nat):Value:=if k=14 then .ref l else(c0 w H).biV k
theorem PH{w:World}{H:Heap}{l:Addr}:gk (c0 w H) (bS w H l):=
 ⟨λk h=>ax (Nat.ne_of_lt h),λk h=>by
  unfold bS
  by_cases e:k=14
  · rw[aG e];rfl
  · rw[ax e]
    show handedIn (aa (Nat.blt k 14) (ie k) .none)=true
    rw[ji (x:=k) (y:=14) h];rfl⟩
theorem Rk{P:Params}{H:Heap}(Y:bu P H){l:Addr}{vs:Array Value}(h:H.IsList l vs):l∉ee:=λm=>by
 obtain⟨o,e,c,_⟩:=h
 rw[tJ Y m] at e
 obtain rfl:=af e
 exact nomatch c
theorem WK{H:Heap}{ts:List Addr}{l:Addr}{vs:Array Value}(n:l∉ts)(h:H.IsList l vs):(jW ts H).IsList l vs:=h.imp λo q=>⟨(rC n).trans q.1,q.2⟩
theorem QW{w:World}{H:Heap}(Y:bu w.params H){c:Cx}{X:Addr->Prop}{A:Around}{env:Env}{fr:Fr}{μ:Mu}{σ:Sg}{s:Shared}(K:jK (c0 w H) c)(o:Ok c X A env fr μ σ s):OldK H s.heap:=by
 have st:=(K.base)▸o.stays
 have tb:∀a,a∈ee->∃ps,isCodeTable H a/\s.heap.get? a=some (tabObj ps):=λa m=>by
  have m:=m
  have go:∀c1,(c1,a)∈pg->∃ps,isCodeTable H a/\s.heap.get? a=some (tabObj ps):=λc1 h=>by
   obtain⟨_,ps,e,_⟩:=o.tabs (c1,a) ((K.tabs).symm▸h)
   obtain⟨oc,vs,_,_,_,_,_,_,_,h1,h2,h3,h4,_⟩:=(LP Y (c1,a) h).1
   exact⟨ps,⟨c1,oc,vs,h1,h2,h3,h4⟩,e⟩
  cases m with
  |head=>exact go 697 (.head _)
  |tail _ m=>cases m with
   |head=>exact go 702 (.tail _ (.head _))
   |tail _ m=>cases m with
    |head=>exact go 707 (.tail _ (.tail _ (.head _)))
    |tail _ m=>exact nomatch m
 refine⟨λb ob e=>?_,λb ob e=>?_⟩
 · by_cases m:b∈ee
   · obtain⟨ps,h1,h2⟩:=tb b m
     rw[tJ Y m] at e
     obtain rfl:=af e
     exact .inr (.inl ⟨h1,rfl,#[],ps,rfl,by rw[h2];simp⟩)
   · exact .inl (st b ob ((rC m).trans e))
 · by_cases m:b∈ee
   · obtain⟨ps,h1,h2⟩:=tb b m;exact⟨_,h2⟩
   · exact⟨ob,st b ob ((rC m).trans e)⟩
theorem SD{h h':Heap}(x:h.NoLimit)(k:h.StaysIn h'):h'.NoLimit:=x.imp λmc z=>⟨z.1.keeps k,z.2⟩
theorem Px(TK:v3)(RN:wC):WalkO QG LS (λ_ _=>True) Ax (LG n).row.toRowW LD [] (λf vs=>PySem.call f vs):=by
 intro w lh s₁ mg mb G Y a o pm cd doc dV kV ho hd pY hD hmg hg args vals as abO acd hrd hwl iB
 have Y:=Y
 have Nx:=pre_splitW abO
 obtain⟨d,r,rfl,hx,hr⟩:=hasAllW_cons (Nx.1)
 obtain rfl:=hasAllW_nil hr
 obtain⟨xs,rfl,hi⟩:=hasW_list hx
 obtain⟨v,vs',as1,as2,rfl,rfl,r1,r2⟩:=readsAllW_cons_inv hrd
 obtain⟨rfl,_⟩:=readsAllW_nil_inv r2
 obtain⟨l,vs,as',rfl,Ny,rv,rfl⟩:=readsW_list_inv r1
 obtain⟨bI,hz⟩:=Pi _ (R:=(LG n).row.records) hi rv
 have hlen:(vs.size:Int)<2^63:=by
  have h1:=Of (holds_andW (Nx.2)).1
  have h2:=rv.length
  rw[Array.length_toList] at h2
  have:(vs.size:Int)<=63:=by omega
  exact Int.lt_of_le_of_lt this (by decide)
 have eD:=hD.pos.elim (λq=>q.2) λq=>aV rfl q.1
 subst eD
 have nt:=Rk Y Ny
 have hb:=PH (w:=w) (H:=s₁.heap) (l:=l)
 have Sc:∀v,pj (cX w s₁.heap O0 (bS w s₁.heap l) v) l bI:=λv=>⟨rfl,vs,WK nt Ny,hz,hlen⟩
 have GD:=yZ (O:=O0) (v:=vP eZ [] (gc bI,fY bI)) Y hb
 have dQ:(jW ee s₁.heap).StaysIn s₁.heap:=λb ob e=>by
  by_cases m:b∈ee
  · exact aV ((J4 m).symm.trans e) (by nofun)
  · exact(rC m).symm.trans e
 refine enter_call (codeAny_call_function (a:=a) (by decide) ho hd rfl rfl rfl pY ?_)
 refine xz (k:=1) (L:=[n 143]) (od:=none) (ds:=[]) (rfl) rfl rfl (λQ q=>aS q) (by simp) rfl (Nat.le_refl _) (Nat.le_refl _) ?_
 refine RQ (c:=cX w s₁.heap O0 (bS w s₁.heap l) (vP eZ [] (gc bI,fY bI))) (A:=callerA) (n:=340) (sc:=lR.sc) (lm:=false) (bs:=[(143,.bi 14)]) (ys:=[.ref l]) (σ₂:=⟨hL [.cell none],[(143,.bi 14)]⟩) GD rfl rfl (by decide) (by decide) dQ (λq h=>have t:=LP Y q h;⟨t.1,#[],t.2.1,.nil⟩) ?_ ?_ ?_ (λq=>ft q) (.cons rfl .nil) ?_ λenv' a9 aB eo bc g1 g2=>⟨?_,codeAny_func ?_⟩
 · kernel_rfl
 · rfl
 · decide
 · kernel_rfl
 · exact SD GD.nolim bc.stays
 · have e2:(ew (dm lR.sc) hE []).2=[(148,0)]:=by kernel_rfl
   rw[e2] at eo bc
   have M:ii w s₁.heap (bS w s₁.heap l) (callerA.deeper env') env':=⟨Y,hb,aJ.turn (yq (c0 w s₁.heap) TZ _ _ _ v0) eo⟩
   refine Vh TK RN M Sc bc λc av ba s' h1 h2 K o'=>⟨.inl ⟨.bool true,.bool true,[],rfl,λcls=>rfl,.bool true,?_,λ_=>⟨.nil,λ_ q=>nomatch q⟩⟩,QW Y K o',h2.trans g2,?_⟩
   · show(WShape.has [] (.bool true) .bool&&(WTm.eq .res (.lit (.bool true))).holds [] {args:=[WData.list xs],res:=some (.bool true),after:=[WData.list xs]})=true
     simp[WShape.has,WShape.arms,WTm.holds,WTm.value,same]
   · rw[h1,g1,hg]
     exact λy q=>aV q (by simp)
end
end
end Mine
set_option maxRecDepth 100000 in
theorem PySem.Challenge.cw_xw0182_01_holds : PySem.Challenge.rw_xw0182_01.Holds :=
 Mine.head (Mine.Px Mine.R1 Mine.UM)
