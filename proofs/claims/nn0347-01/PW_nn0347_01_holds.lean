import PyProof.Rows.All
import Wide.All
import OpenK.AllK
import Wide.FinOn
import KE.KDictSum
import KE.KSort
import KE.KRevIter
import PyProof.ExcInit
import PyProof.ExcBaseAll.Exception
import PyProof.InstStoreFacts
import PyProof.ExcAttrAll.Exception
import Lean
import PySem.Challenge.RW_nn0347_01
set_option Elab.async false
set_option maxRecDepth 100000
set_option maxHeartbeats 0
set_option linter.all false
set_option bootstrap.genMatcherCode false
set_option genSizeOf false
set_option genInjectivity false
noncomputable section
namespace Internal
open PySem PySem.W PyProof.Rows
noncomputable abbrev rwL:OpenLaw:=PySem.Challenge.rw_nn0347_01
theorem rd1:readsOut rwL.row.prog rwL.row.prog.main.body "vars"=false:=by kernel_rfl
theorem rd2:readsOut rwL.row.prog rwL.row.prog.main.body "dir"=false:=by kernel_rfl
theorem rd3:readsOut rwL.row.prog rwL.row.prog.main.body "locals"=false:=by kernel_rfl
theorem apI:(!(importedModules rwL.row.prog.main.body).all cThrough.contains)=false:=by kernel_rfl
theorem rd4:noRoadLSs {strict:=false,foot:=none,bare:=[]} rwL.row.prog.main.body=true:=by kernel_rfl
theorem rd5:noRoadLSs {strict:=!(importedModules rwL.row.prog.main.body).all cThrough.contains,foot:=none,bare:=(["vars","dir","locals"]:List Str).filter (readsOut rwL.row.prog rwL.row.prog.main.body)} rwL.row.prog.main.body=true:=by
 rw [apI,List.filter,rd1,List.filter,rd2,List.filter,rd3,List.filter]
 exact rd4
theorem rd6:namesResolve rwL.row.prog=true:=by kernel_rfl
theorem rd7:(namesMeet rwL.row.prog rwL.row.prog.main.body λ_ n=>attrL n)=true:=by kernel_rfl
theorem MA:rwL.wellSaid=true:=by
 unfold OpenLaw.wellSaid OpenRow.wellSaid OpenRow.partSaid looksOpen
 repeat' with_reducible refine look_both ?_ ?_
 all_goals first | with_reducible exact rd5 | with_reducible exact rd6 | with_reducible exact rd7 | decide+kernel
end Internal
namespace Internal.Ln
noncomputable def cZ:List Nat->List Int->Int
 | k::p,x::e=>k*x+cZ p e
 | _,_=>0
noncomputable def d6:List Nat->List Nat->List Nat
 | k::p,j::q=>(k+j)::d6 p q
 | [],q=>q
 | p,[]=>p
noncomputable def il (k:Nat):List Nat->List Nat
 | []=>[]
 | j::p=>k*j::il k p
noncomputable def uT:Nat->List Nat
 | 0=>[1]
 | i+1=>0::uT i
theorem kU (p q:List Nat) (e:List Int):cZ (d6 p q) e=cZ p e+cZ q e:=by
 induction p generalizing q e with
 | nil=>exact (Int.zero_add _).symm
 | cons k p ih=>
  induction q using List.casesOn with
  | nil=>exact (Int.add_zero _).symm
  | cons j q=>
   induction e using List.casesOn with
   | nil=>rfl
   | cons x e=>
    show ((k+j:Nat):Int)*x+cZ (d6 p q) e=k*x+cZ p e+(j*x+cZ q e)
    rw [ih,Int.natCast_add,Int.add_mul,Int.add_assoc,Int.add_assoc,Int.add_left_comm (cZ p e)]
theorem qS (k:Nat) (p:List Nat) (e:List Int):cZ (il k p) e=k*cZ p e:=by
 induction p generalizing e with
 | nil=>exact (Int.mul_zero _).symm
 | cons j p ih=>
  induction e using List.casesOn with
  | nil=>exact (Int.mul_zero _).symm
  | cons x e=>
   show ((k*j:Nat):Int)*x+cZ (il k p) e=k*(j*x+cZ p e)
   rw [ih,Int.natCast_mul,Int.mul_add,Int.mul_assoc]
noncomputable def dY (X:List Nat):List Int:=X.map λx:Nat=>(x:Int)
def iZ (X:List Nat) (Y:List Int):List Int:=1::(dY X++Y)
theorem afV (Y:List Int) (X:List Nat) (i:Nat):cZ (bif Nat.blt i X.length then uT i else []) (dY X++Y)=((X.getD i 0:Nat):Int):=by
 induction X generalizing i with
 | nil=>rfl
 | cons x X ih=>
  induction i using Nat.casesOn with
  | zero=>show ((1:Nat):Int)*x+0=x;rw [Int.add_zero,Int.natCast_one,Int.one_mul]
  | succ i=>
   refine Eq.trans ?_ (ih i)
   show cZ (bif Nat.blt i X.length then 0::uT i else []) _=_
   induction Nat.blt i X.length using Bool.casesOn with
   | false=>rfl
   | true=>show ((0:Nat):Int)*x+cZ (uT i) _=_;rw [Int.natCast_zero,Int.zero_mul,Int.zero_add];rfl
theorem afT (i:Nat) (Y:List Int):cZ (uT i) Y=Y.getD i 0:=by
 induction Y generalizing i with
 | nil=>induction i using Nat.casesOn<;>rfl
 | cons x Y ih=>
  induction i using Nat.casesOn with
  | zero=>show ((1:Nat):Int)*x+0=x;rw [Int.add_zero,Int.natCast_one,Int.one_mul]
  | succ i=>show ((0:Nat):Int)*x+cZ (uT i) _=_;rw [Int.natCast_zero,Int.zero_mul,Int.zero_add];exact ih i
noncomputable def FF:Nat->List Nat->List Nat
 | 0,p=>p
 | d+1,p=>0::FF d p
theorem afU (Y:List Int) (X:List Nat) (p:List Nat):cZ (FF X.length p) (dY X++Y)=cZ p Y:=by
 induction X with
 | nil=>rfl
 | cons x X ih=>show ((0:Nat):Int)*x+cZ (FF X.length p) _=_;rw [Int.natCast_zero,Int.zero_mul,Int.zero_add];exact ih
theorem DA (k:Nat) (e:List Int):cZ [k] (1::e)=k:=by show k*1+0=(k:Int);rw [Int.mul_one];exact Int.add_zero _
theorem QS (p:List Nat) (e:List Int):cZ (0::p) (1::e)=cZ p e:=by show ((0:Nat):Int)*1+cZ p e=_;rw [Int.natCast_zero,Int.zero_mul,Int.zero_add]
structure VN (d:Nat) where
 v:List Nat->Nat
 p:List Nat
 h:∀X Y,X.length=d->((v X:Nat):Int)=cZ p (iZ X Y)
structure VI (d:Nat) where
 v:List Nat->List Int->Int
 p:List Nat
 q:List Nat
 h:∀X Y,X.length=d->v X Y=cZ p (iZ X Y) - cZ q (iZ X Y)
section
variable {d:Nat}
def nV (i:Nat):VN d:=⟨λX=>X.getD i 0,0::(bif Nat.blt i d then uT i else []),λX Y e=>by subst e;rw [iZ,QS];exact (afV Y X i).symm⟩
noncomputable def nL (k:Nat):VN d:=⟨λ_=>k,[k],λX Y _=>(DA k _).symm⟩
def nAd (x y:VN d):VN d:=⟨λX=>x.v X+y.v X,d6 x.p y.p,λX Y e=>by rw [kU,<-x.h X Y e,<-y.h X Y e];rfl⟩
def nMu (k:Nat) (x:VN d):VN d:=⟨λX=>k*x.v X,il k x.p,λX Y e=>by rw [qS,<-x.h X Y e];exact Int.natCast_mul _ _⟩
def nMr (k:Nat) (x:VN d):VN d:=⟨λX=>x.v X*k,il k x.p,λX Y e=>by rw [qS,<-x.h X Y e,Int.mul_comm];exact Int.natCast_mul _ _⟩
def iV (i:Nat):VI d:=⟨λ_ Y=>Y.getD i 0,0::FF d (uT i),[],λX Y e=>by subst e;rw [iZ,QS,afU,afT];exact (Int.sub_zero _).symm⟩
def iL (k:Nat):VI d:=⟨λ_ _=>k,[k],[],λX Y _=>by rw [iZ,DA];exact (Int.sub_zero _).symm⟩
def iAd (x y:VI d):VI d:=⟨λX Y=>x.v X Y+y.v X Y,d6 x.p y.p,d6 x.q y.q,λX Y e=>by rw [kU,kU,x.h X Y e,y.h X Y e];omega⟩
def iSu (x y:VI d):VI d:=⟨λX Y=>x.v X Y - y.v X Y,d6 x.p y.q,d6 x.q y.p,λX Y e=>by rw [kU,kU,x.h X Y e,y.h X Y e];omega⟩
noncomputable def iNe (x:VI d):VI d:=⟨λX Y=>-x.v X Y,x.q,x.p,λX Y e=>by rw [x.h X Y e];exact Int.neg_sub _ _⟩
def iMu (k:Nat) (x:VI d):VI d:=⟨λX Y=>k*x.v X Y,il k x.p,il k x.q,λX Y e=>by rw [qS,qS,x.h X Y e];exact Int.mul_sub _ _ _⟩
def iMr (k:Nat) (x:VI d):VI d:=⟨λX Y=>x.v X Y*k,il k x.p,il k x.q,λX Y e=>by rw [qS,qS,x.h X Y e,Int.mul_comm];exact Int.mul_sub _ _ _⟩
noncomputable def iC (x:VN d):VI d:=⟨λX _=>(x.v X:Nat),x.p,[],λX Y e=>by rw [x.h X Y e];exact (Int.sub_zero _).symm⟩
structure FL (d:Nat) where
 den:List Nat->List Int->Prop
 Sj:List Nat->List Int->Prop
 L:List Nat
 R:List Nat
 h:∀X Y,X.length=d->den X Y->cZ L (iZ X Y)<=cZ R (iZ X Y)
 g:∀X Y,(den X Y->False)->Sj X Y
noncomputable def f0 (x y:VN d):FL d:=⟨λX _=>x.v X<=y.v X,λX _=>¬x.v X<=y.v X,x.p,y.p,λX Y e k=>by rw [<-x.h X Y e,<-y.h X Y e];exact Int.ofNat_le.mpr k,λ_ _ k=>k⟩
def f1 (x y:VN d):FL d:=⟨λX _=>x.v X < y.v X,λX _=>¬x.v X < y.v X,d6 [1] x.p,y.p,λX Y e k=>by rw [kU,<-x.h X Y e,<-y.h X Y e,iZ,DA,Int.add_comm];exact Int.ofNat_lt.mpr k,λ_ _ k=>k⟩
noncomputable def f2 (x y:VN d):FL d:=⟨λX _=>x.v X=y.v X,λX _=>¬x.v X=y.v X,x.p,y.p,λX Y e k=>by rw [<-x.h X Y e,<-y.h X Y e,k];exact Int.le_refl _,λ_ _ k=>k⟩
noncomputable def f3 (x y:VN d):FL d:=⟨λX _=>x.v X=y.v X,λX _=>¬x.v X=y.v X,y.p,x.p,λX Y e k=>by rw [<-x.h X Y e,<-y.h X Y e,k];exact Int.le_refl _,λ_ _ k=>k⟩
def f4 (x y:VN d):FL d:=⟨λX _=>¬x.v X<=y.v X,λX _=>x.v X<=y.v X,d6 [1] y.p,x.p,λX Y e k=>(f1 y x).h X Y e (Nat.lt_of_not_le k),λ_ _ k=>Decidable.byContradiction k⟩
def f5 (x y:VN d):FL d:=⟨λX _=>¬x.v X < y.v X,λX _=>x.v X < y.v X,y.p,x.p,λX Y e k=>(f0 y x).h X Y e (Nat.le_of_not_lt k),λ_ _ k=>Decidable.byContradiction k⟩
def g0 (x y:VI d):FL d:=⟨λX Y=>x.v X Y<=y.v X Y,λX Y=>¬x.v X Y<=y.v X Y,d6 x.p y.q,d6 x.q y.p,λX Y e k=>by
 rw [x.h X Y e,y.h X Y e] at k;rw [kU,kU];omega,λ_ _ k=>k⟩
def g1 (x y:VI d):FL d:=⟨λX Y=>x.v X Y < y.v X Y,λX Y=>¬x.v X Y < y.v X Y,d6 [1] (d6 x.p y.q),d6 x.q y.p,λX Y e k=>by
 rw [x.h X Y e,y.h X Y e] at k;rw [kU,kU,kU,iZ,DA];unfold iZ at k;omega,λ_ _ k=>k⟩
def g2 (x y:VI d):FL d:=⟨λX Y=>x.v X Y=y.v X Y,λX Y=>¬x.v X Y=y.v X Y,d6 x.p y.q,d6 x.q y.p,λX Y e k=>(g0 x y).h X Y e (Int.le_of_eq k),λ_ _ k=>k⟩
def g3 (x y:VI d):FL d:=⟨λX Y=>x.v X Y=y.v X Y,λX Y=>¬x.v X Y=y.v X Y,d6 y.p x.q,d6 y.q x.p,λX Y e k=>(g0 y x).h X Y e (Int.le_of_eq k.symm),λ_ _ k=>k⟩
def g4 (x y:VI d):FL d:=⟨λX Y=>¬x.v X Y<=y.v X Y,λX Y=>x.v X Y<=y.v X Y,d6 [1] (d6 y.p x.q),d6 y.q x.p,λX Y e k=>(g1 y x).h X Y e (Int.lt_of_not_ge k),λ_ _ k=>Decidable.byContradiction k⟩
def g5 (x y:VI d):FL d:=⟨λX Y=>¬x.v X Y < y.v X Y,λX Y=>x.v X Y < y.v X Y,d6 y.p x.q,d6 y.q x.p,λX Y e k=>(g0 y x).h X Y e (Int.not_lt.mp k),λ_ _ k=>Decidable.byContradiction k⟩
noncomputable def gG (c:Nat):Nat×Nat:=match c%16 with
 | 15=>(c/256%16^(c/16%16),c/256/16^(c/16%16))
 | k=>(k,c/16)
def pN:Nat->Nat->VN d×Nat
 | 0,c=>(nL 0,c)
 | f+1,c=>match c%8 with
  | 0=>(nV (c/8%16),c/128)
  | 1=>(nL (gG (c/8)).1,(gG (c/8)).2)
  | 2=>let x:=pN f (c/8);let y:=pN f x.2;(nAd x.1 y.1,y.2)
  | 3=>let x:=pN f (gG (c/8)).2;(nMu (gG (c/8)).1 x.1,x.2)
  | _=>let x:=pN f (gG (c/8)).2;(nMr (gG (c/8)).1 x.1,x.2)
def pI:Nat->Nat->VI d×Nat
 | 0,c=>(iL 0,c)
 | f+1,c=>match c%8 with
  | 0=>(iV (c/8%16),c/128)
  | 1=>(iL (gG (c/8)).1,(gG (c/8)).2)
  | 2=>let x:=pI f (c/8);let y:=pI f x.2;(iAd x.1 y.1,y.2)
  | 3=>let x:=pI f (gG (c/8)).2;(iMu (gG (c/8)).1 x.1,x.2)
  | 4=>let x:=pI f (gG (c/8)).2;(iMr (gG (c/8)).1 x.1,x.2)
  | 5=>let x:=pI f (c/8);let y:=pI f x.2;(iSu x.1 y.1,y.2)
  | 6=>let x:=pI f (c/8);(iNe x.1,x.2)
  | _=>let x:=pN f (c/8);(iC x.1,x.2)
def pF (c:Nat):FL d×Nat:=bif Nat.blt (c%16) 8 then
 let x:=pN 20 (c/16);let y:=pN 20 x.2
 (match c%16 with
   | 0=>f0 x.1 y.1 | 1=>f1 x.1 y.1 | 2=>f2 x.1 y.1 | 3=>f3 x.1 y.1 | 4=>f4 x.1 y.1 | _=>f5 x.1 y.1,y.2)
 else
  let x:=pI 20 (c/16);let y:=pI 20 x.2
  (match c%16 with
    | 8=>g0 x.1 y.1 | 9=>g1 x.1 y.1 | 10=>g2 x.1 y.1 | 11=>g3 x.1 y.1 | 12=>g4 x.1 y.1 | _=>g5 x.1 y.1,y.2)
end
def Zf (d:Nat) (X:List Nat) (Y:List Int) (c:Nat):Nat->Prop
 | 0=>False
 | _=>(pF (d:=d) (gG (c/2)).2).1.Sj X Y
def MR (d:Nat) (X:List Nat) (Y:List Int):Nat->Nat->Prop
 | 0,c=>Zf d X Y c (c%2)
 | n+1,c=>(pF (d:=d) (gG c).2).1.den X Y->MR d X Y n (pF (d:=d) (gG c).2).2
def MT (d c:Nat) (L R:List Nat):Nat->List Nat×List Nat
 | 0=>(L,R)
 | _=>(d6 (il (gG (c/2)).1 (pF (d:=d) (gG (c/2)).2).1.L) L,d6 (il (gG (c/2)).1 (pF (d:=d) (gG (c/2)).2).1.R) R)
def wV (d:Nat):Nat->Nat->List Nat->List Nat->List Nat×List Nat
 | 0,c,L,R=>MT d c L R (c%2)
 | n+1,c,L,R=>wV d n (pF (d:=d) (gG c).2).2 (d6 (il (gG c).1 (pF (d:=d) (gG c).2).1.L) L) (d6 (il (gG c).1 (pF (d:=d) (gG c).2).1.R) R)
noncomputable def DJ:Nat->List Nat->List Nat->Bool
 | d+1,l::L,r::R=>Nat.ble r l&&DJ d L R
 | 0,l::L,r::R=>Nat.beq l r&&DJ 0 L R
 | _,[],[]=>true
 | _,_,_=>false
def xF (d:Nat) (L R:List Nat):Bool:=match d6 L (il 0 R),d6 R (il 0 L) with
 | l::L,r::R=>Nat.blt r l&&DJ d L R
 | _,_=>false
theorem Wn {k:Nat} {L R A B:List Nat} {e:List Int} (h:cZ L e<=cZ R e) (i:cZ A e<=cZ B e):cZ (d6 (il k L) A) e<=cZ (d6 (il k R) B) e:=by
 rw [kU,kU,qS,qS]
 exact Int.add_le_add (Int.mul_le_mul_of_nonneg_left h (Int.natCast_nonneg k)) i
theorem aip (Y:List Int) (X L R:List Nat) (h:DJ X.length L R=true):cZ R (dY X++Y)<=cZ L (dY X++Y):=by
 induction X generalizing L R with
 | nil=>
  show cZ R Y<=cZ L Y
  induction L generalizing R Y with
  | nil=>
   induction R using List.casesOn with
   | nil=>exact Int.le_refl _
   | cons=>contradiction
  | cons l L ih=>
   induction R using List.casesOn with
   | nil=>contradiction
   | cons r R=>
    have h:=Bool.and_eq_true_iff.mp h
    have e:=Nat.eq_of_beq_eq_true h.1
    subst e
    induction Y using List.casesOn with
    | nil=>exact Int.le_refl _
    | cons y Y=>exact Int.add_le_add (Int.le_refl _) (ih Y R h.2)
 | cons x X ih=>
  induction L using List.casesOn with
  | nil=>
   induction R using List.casesOn with
   | nil=>exact Int.le_refl _
   | cons=>contradiction
  | cons l L=>
   induction R using List.casesOn with
   | nil=>contradiction
   | cons r R=>
    have h:=Bool.and_eq_true_iff.mp h
    exact Int.add_le_add (Int.mul_le_mul_of_nonneg_right (Int.ofNat_le.mpr (Nat.le_of_ble_eq_true h.1)) (Int.natCast_nonneg x)) (ih L R h.2)
theorem Qr {X L R:List Nat} {Y:List Int} (h:xF X.length L R=true) (k:cZ L (iZ X Y)<=cZ R (iZ X Y)):False:=by
 have a:cZ (d6 L (il 0 R)) (iZ X Y)=cZ L (iZ X Y):=by rw [kU,qS,Int.natCast_zero,Int.zero_mul,Int.add_zero]
 have b:cZ (d6 R (il 0 L)) (iZ X Y)=cZ R (iZ X Y):=by rw [kU,qS,Int.natCast_zero,Int.zero_mul,Int.add_zero]
 rw [<-a,<-b] at k
 unfold xF at h
 generalize d6 L (il 0 R)=A at h k
 generalize d6 R (il 0 L)=B at h k
 induction A using List.casesOn with
 | nil=>contradiction
 | cons l L=>
  induction B using List.casesOn with
  | nil=>contradiction
  | cons r R=>
   have h:=Bool.and_eq_true_iff.mp h
   have q:=aip Y X L R h.2
   have q1:(r:Int) < l:=Int.ofNat_lt.mpr (Nat.le_of_ble_eq_true h.1)
   have k:(l:Int)*1+cZ L (dY X++Y)<=r*1+cZ R (dY X++Y):=k
   omega
theorem arV {X:List Nat} {Y:List Int} (n c:Nat) (L R:List Nat) (h:xF X.length (wV X.length n c L R).1 (wV X.length n c L R).2=true) (k:cZ L (iZ X Y)<=cZ R (iZ X Y)):MR X.length X Y n c:=by
 induction n generalizing c L R with
 | zero=>
  replace h:xF X.length (MT X.length c L R (c%2)).1 (MT X.length c L R (c%2)).2=true:=h
  show Zf X.length X Y c (c%2)
  generalize c%2=t at h⊢
  induction t using Nat.casesOn with
  | zero=>exact Qr h k
  | succ=>exact (pF _).1.g X Y λz=>Qr h (Wn ((pF _).1.h X Y rfl z) k)
 | succ n ih=>exact λz=>ih _ _ _ h (Wn ((pF _).1.h X Y rfl z) k)
def gy (d c:Nat) (X:List Nat) (Y:List Int):Prop:=match xF d (wV d (c%16) (c/16) [] []).1 (wV d (c%16) (c/16) [] []).2 with
 | true=>MR d X Y (c%16) (c/16)
 | false=>True
theorem ln {d:Nat} (c:Nat) {X:List Nat} (Y:List Int) (e:X.length=d):gy d c X Y:=by
 subst e
 unfold gy
 generalize h:xF X.length (wV X.length (c%16) (c/16) [] []).1 (wV X.length (c%16) (c/16) [] []).2=t
 induction t using Bool.casesOn with
 | false=>trivial
 | true=>exact arV _ _ _ _ h (Int.le_refl _)
end Internal.Ln
namespace Internal
open Internal.Ln
theorem Lw (c:Nat):gy 0 c [] []:=ln c _ rfl
theorem cJ (c:Nat) {y0:Int}:gy 0 c [] [y0]:=ln c _ rfl
theorem hJ (c:Nat) {y0 y1:Int}:gy 0 c [] [y0,y1]:=ln c _ rfl
theorem oy (c:Nat) {y0 y1 y2:Int}:gy 0 c [] [y0,y1,y2]:=ln c _ rfl
theorem ao (c:Nat) {x0:Nat}:gy 1 c [x0] []:=ln c _ rfl
theorem dw (c:Nat) {x0:Nat} {y0:Int}:gy 1 c [x0] [y0]:=ln c _ rfl
theorem jl (c:Nat) {x0:Nat} {y0 y1:Int}:gy 1 c [x0] [y0,y1]:=ln c _ rfl
theorem V8 (c:Nat) {x0:Nat} {y0 y1 y2:Int}:gy 1 c [x0] [y0,y1,y2]:=ln c _ rfl
theorem ak (c:Nat) {x0 x1:Nat}:gy 2 c [x0,x1] []:=ln c _ rfl
theorem dJ (c:Nat) {x0 x1:Nat} {y0:Int}:gy 2 c [x0,x1] [y0]:=ln c _ rfl
theorem uC (c:Nat) {x0 x1:Nat} {y0 y1:Int}:gy 2 c [x0,x1] [y0,y1]:=ln c _ rfl
theorem V9 (c:Nat) {x0 x1:Nat} {y0 y1 y2:Int}:gy 2 c [x0,x1] [y0,y1,y2]:=ln c _ rfl
theorem aU (c:Nat) {x0 x1 x2:Nat}:gy 3 c [x0,x1,x2] []:=ln c _ rfl
theorem jm (c:Nat) {x0 x1 x2:Nat} {y0:Int}:gy 3 c [x0,x1,x2] [y0]:=ln c _ rfl
theorem Wa (c:Nat) {x0 x1 x2:Nat} {y0 y1:Int}:gy 3 c [x0,x1,x2] [y0,y1]:=ln c _ rfl
theorem cz (c:Nat) {x0 x1 x2 x3:Nat}:gy 4 c [x0,x1,x2,x3] []:=ln c _ rfl
theorem LC (c:Nat) {x0 x1 x2 x3:Nat} {y0:Int}:gy 4 c [x0,x1,x2,x3] [y0]:=ln c _ rfl
theorem amK (c:Nat) {x0 x1 x2 x3:Nat} {y0 y1:Int}:gy 4 c [x0,x1,x2,x3] [y0,y1]:=ln c _ rfl
theorem kZ (c:Nat) {x0 x1 x2 x3 x4:Nat}:gy 5 c [x0,x1,x2,x3,x4] []:=ln c _ rfl
theorem Ey (c:Nat) {x0 x1 x2 x3 x4 x5:Nat}:gy 6 c [x0,x1,x2,x3,x4,x5] []:=ln c _ rfl
theorem Wb (c:Nat) {x0 x1 x2 x3 x4 x5 x6:Nat}:gy 7 c [x0,x1,x2,x3,x4,x5,x6] []:=ln c _ rfl
theorem amL (c:Nat) {x0 x1 x2 x3 x4 x5 x6 x7:Nat}:gy 8 c [x0,x1,x2,x3,x4,x5,x6,x7] []:=ln c _ rfl
end Internal
namespace Internal
section
theorem naN {a:Int}:-a<=(a.natAbs:Int):=by rw [<-Int.natAbs_neg];exact Int.le_natAbs
theorem jE {a b:Nat}:a<=a - b+b:=Nat.le_add_of_sub_le (Nat.le_refl _)
theorem lh {a:Int} {P:Prop} (p:(a.natAbs:Int)=a->P) (q:(a.natAbs:Int)= -a->P):P:=(Int.natAbs_eq a).elim (λe=>p e.symm) λe=>q (Int.neg_eq_comm.mp e.symm).symm
theorem ag {p:Prop} (h:p:=by decide):p:=h
universe uu
@[elab_as_elim] theorem aa {α:Sort uu} {a b:α} {M:α->Prop} (h:a=b) (k:M b):M a:=h▸k
@[elab_as_elim] theorem qd {α:Sort uu} {a b:α} {M:α->Prop} (h:a=b) (k:M a):M b:=h▸k
@[elab_as_elim] theorem iM {α:Type} {a b:α} {M:α->Prop} (h:some a=some b) (k:M a):M b:=Option.some.inj h▸k
@[elab_as_elim] theorem smF {α:Type} {a b:α} {M:α->Prop} (h:some a=some b) (k:M b):M a:=Option.some.inj h▸k
theorem bA {α β:Type} {f:α->β} {a b:α} {c:β} (h:a=b) (k:f b=c):f a=c:=h▸k
theorem iP {α β:Type} {f:α->β} {a b:α} {c:β} (h:a=b) (k:c=f b):c=f a:=h▸k
theorem gk {P:Prop} (h:∀G:Prop,(P->G)->G):P:=h P id
end
end Internal
open _root_.Array renaming mk→oP,getElem?_eq_some_iff→Gq,find?_toList→aax
open _root_.Bool renaming casesOn→dy,and_eq_true_iff→dP,or_eq_false_iff→jJ,and_eq_true→qi,false_ne_true→uZ,eq_iff_iff→Ny,not_eq_true'→Nz,not_not→NB,true_and→NC,and_true→aay,or_false→aaz
open _root_.Eq renaming trans→bK
open _root_.False renaming elim→iu
open _root_.ForInStep renaming yield→aaW
open _root_.Function renaming comp_apply→Gw
open _root_.Int renaming le_antisymm→dz,toNat_of_nonneg→f9,self_le_toNat→lL,toNat_natCast→rR,le_refl→xa,ediv_one→Cp,fmod_eq_emod_of_nonneg→Gx,toNat_le→Gy,add_mul→NK,eq_ofNat_of_zero_le→NL,mul_one→NM,add_assoc→aa2,fdiv_eq_ediv_of_nonneg→aa3,fmod_nonneg_of_pos→aa4,le_trans→aa5,natAbs_neg→aa6,sub_add_cancel→aa7
open _root_.List renaming not_mem_nil→bP,length_map→cf,mem_cons_of_mem→cu,mem_cons→cF,casesOn→cK,mem_cons_self→cN,getElem?_eq_getElem→dO,range→dQ,getElem?_eq_some_iff→ez,length_append→eC,mem_append→eG,map_map→fO,map_cons→gc,mem_append_left→gw,mem_map→gQ,mem_of_getElem?→gW,replicate→gX,getElem?_append_left→iv,getElem?_map→iR,all_eq_true→jt,append_assoc→ju,length_cons→jv,nodup_cons→jL,length_take→j7,mem_append_right→j8,size_toArray→j9,map_append→kJ,getElem?_append_right→mB,length_drop→nJ,length_range→qm,lookup_cons→qn,getD→rS,length_set→tx,mem_of_mem_take→tB,append_nil→vc,ext_getElem→vd,getElem_of_mem→ve,map_congr_left→vf,mem_singleton→xb,cons_append→Cs,isEmpty_iff→Ct,length_replicate→Cu,mapM_cons→Cv,take_length→Cw,drop→Gz,drop_zero→GA,filterMap_cons→GB,foldr_cons→GC,getElem?_eq_none→GD,getElem_mem→GF,length_mapIdx→GH,mem_range→GI,nodup_nil→GJ,pairwise_cons→GK,take_add_one→GN,take_append_drop→GO,take_nil→GP,all_cons→NO,any_cons→NP,drop_nil→NQ,ext_getElem?→NR,find?_toArray→NS,foldl_cons→NT,forIn_cons→NU,getElem?_set_ne→NV,getElem_mapIdx→NW,map_nil→NX,map_take→NY,mem_iff_getElem?→NZ,mem_of_mem_drop→N0,set_append_right→N1,take_of_length_le→N2,any_eq_true→aa8,drop_drop→aa9,find?→aba,find?_eq_none→abb,findIdx?_eq_none_iff→abc,foldl→abd,forIn_nil→abe,getElem?_drop→abf,getElem?_eq_none_iff→abg,getElem?_replicate→abh,getElem?_set_self→abi,getElem?_take_of_lt→abj,getElem_map→abk,getElem_range→abl,length_reverse→abm,length_singleton→abo,lookup_append→abp,mapIdx_concat→abq,map_inj_left→abr,mem_mapIdx→abt,mem_toArray→abu,pairwise_iff_getElem→abv,range_succ→abw,replicate_succ→abx,reverse_cons→aby,zip_append→abz
open _root_.Nat renaming le_refl→bT,le_antisymm→bV,beq→cA,mod_lt→gf,exists_eq_add_of_lt→kK,lt_or_gt_of_ne→kL,min_eq_left→nN,ne_of_lt→oQ,sub_self→oR,blt→qq,min_le_left→qr,add_comm→tC,lt_of_lt_of_le→tD,sub_add_cancel→tE,le_of_ble_eq_true→vh,casesOn→xc,le_trans→xd,eq_of_testBit_eq→zq,lt_succ_self→zr,add_assoc→Cx,div_add_mod→Cy,le_of_lt→Cz,le_succ→CA,sub_eq_zero_of_le→CB,add_sub_cancel_left→GQ,exists_eq_add_of_le→GR,le_of_eq→GS,ne_of_gt→GU,succ.inj→GV,eq_of_beq_eq_true→N7,le_add_left→N8,lt_irrefl→N9,lt_or_ge→Oa,lt_trichotomy→Ob,sub_eq_of_eq_add→Oc,sub_le→Od,sub_lt_sub_iff_right→Oe,sub_zero→Of,testBit_and→Og,testBit_two_pow_sub_one→Oh,testBit_xor→Oi,zero_add→Oj,add_le_add_left→abA,add_sub_cancel→abB,le_of_lt_succ→abC,le_of_succ_le_succ→abD,lt_of_le_of_lt→abE,lt_succ_of_lt→abF,lt_trans→abG,min_comm→abH,min_eq_right→abI,mul_assoc→abJ,mul_comm→abK,not_lt→abL,pow_le_pow_right→abM,testBit_div_two_pow→abN,testBit_mod_two_pow→abO,testBit_mul_two_pow→abP,testBit_or→abQ,zero_le→abR,zero_testBit→abS
open _root_.Ne renaming symm→bC
open _root_.Option renaming casesOn→aW,some.inj→eM,map_eq_some_iff→gJ,some_ne_none→oU,map_some→rT,isSome_iff_exists→xe,map→CC,bind_eq_some_iff→GX,some.injEq→GY,isNone_iff_eq_none→Om,map_eq_none_iff→abU
open _root_.Prod renaming mk.injEq→CD,fst→Oq
open _root_.PyProof renaming Rows.IntsAre→Cq,Rows.slot_tuple_getitem→CF,Rows.tail_any→Hc,Rows.len_tuple→Ou,Rows.subscriptTail→OK,Rows.getItem_tuple→abV,Rows.nat_or_add_and→abW
open _root_.PySem renaming Value→ah,Shared→ax,Addr→aC,Params→aE,wpAny_bind→aO,wpAny→aY,model→aZ,wpAny_pure→bD,World→bU,Expr→cg,Program→cU,Around→dh,Heap→dv,Scope→dW,mainGlobals→eN,Stmt→fw,SeqAt.shaped→fP,W.nsIn→gR,OsState→gY,Model→iw,Heap.get?_update_other→js,Heap.lt_size→jK,W.findIn→kb,PyData.eqv→kM,builtinsNs→kN,CmpOp→lI,Expr.ctorIdx→lJ,Flow→lK,wpAny_field→lM,Builtin→mA,PyData.canLayAll0→mC,Thread→mE,Value.ref→mF,sizeLine_eq→mG,Heap.get?_push_of_some→nH,Heap.get?_push_size→nI,NameKind.free→nK,PyData→nO,codeAny→nP,wpAny_holding→nQ,Operator→oS,denote→oV,eval→oW,wpAny_loadPart_at→oX,wpAny_mono→oY,BoolOp→qj,Builtin.Range.rangeSize→qk,W.Frag→ql,NameKind→qp,PyData.depthAll→qt,Stmt.ctorIdx→qu,code→qv,nsFind→qw,rawInt→qx,sizeLine→qy,stack→qz,Code→rQ,PyData.canLay0→rV,treeTable→rW,Code.builtin→tn,DictEntry→tq,Heap.get?_update_self→tr,Obj.isFreed_of_fields→tF,Obj.mapSeq→tG,PyData.depth→tH,PyData.int→tI,excClassObj→tJ,intKind→tK,starEach→tL,valueAt→tM,Drawn→u7,Expr.casesOn→u9,W.Looks→vg,PyData.eqvAll→vi,PyData.str→vj,Result→vl,Value.none→vm,backTo→vo,mem_of_lookup→vq,W.notCls→vr,W.stepOk→vt,typeLookup→vu,wpAny_Name→vw,wpAny_standAt→vx,Data→w8,FuncData→w9,PyData.tuple→xf,strKind→xg,Value.casesOn→xh,binaryOp→xi,compareOp→xj,isSubtype_type→xk,relabel→xm,wpAny_call→xn,wpAny_call_entry→xo,wpAny_of_eq→xq,NameKind.casesOn→zp,StrKeys→zu,Value.builtin→zv,argsOk→zw,assign→zx,bindL→zy,builtinLookup_eq_fast→zA,cLine→zB,cellsFrom→zC,W.instObj→zD,loadName→zE,W.lookIn→zF,W.looks_findIn→zG,W.nsOkIn→zH,pyNext→zI,seqIndex?→zJ,W.topFrame→zK,typeLookup_type→zL,wpAny_execs_cons→zM,wpAny_ite_split→zN,wpAny_newObj_type→zO,wpAny_setField→zP,BoolOp.casesOn→Cm,ExceptHandler→Co,F.plain_extend_loop→CG,assignEach→CH,W.boot_o_1→CI,cStatics→CJ,call_meets→CK,W.emptyDict→CL,getMethod_builtin→CM,W.isNs_of_in→CN,letOwnedTupleGo→CO,sysModules→CP,W.takerIn→CQ,wpAny_isSubtype_exc→CR,wpAny_items_cons→CT,Arguments→Gp,Builtin.List.listFitsIndex→Gr,Builtin.List.listTooLong→Gs,Builtin.Slice.slicePlaces→Gu,Data.dict→Gv,Obj.data_mapFields→GW,F.plainAttrs_list→GZ,W.boot_drawn→G0,W.boot_toks→G1,cameBackBy→G2,checkBuiltinCall→G3,compEnvC→G4,findBy→G5,getItem→G6,W.looks_clsIn→G7,mainNs→G8,plainId_quiet→G9,pyIter→Ha,spliced→Hb,W.topStub→Hd,truthy→Hg,wpAny_assign_Name→Hh,wpAny_attempt→Hi,wpAny_callSpecial?_slot→Hj,wpAny_execs_nil→Hk,wpAny_items_nil→Hl,wpAny_loadPart→Hm,Around.under_plainId→Nx,Builtin.Slice.sliceAdjust→ND,Builtin.bitAnd→NF,Builtin.bitXor→NG,Comprehension→NH,Data.casesOn→NI,Heap.size_push→NJ,W.Looks.here→N4,NameKind.cell→N6,Obj.mapFields→Ol,Pin.globalOf_eq→Oo,PyData.keyHash→Ot,F.excBase_Exception→Ov,F.slot_list_extend→Ow,W.WShape.hasItems→Ox,callWith→Oy,codeAny_builtin→Oz,codeAny_call_builtin→OA,entryFor→OB,globalOf→OC,isInstance→OD,keeperOf→OF,W.namesBound→OG,W.set_plain→OH,signature?_of→OI,W.staticsOk→OJ,swapsWith→OL,wpAny_Return_some→OM,wpAny_in_of→ON,wpAny_load→OO,wpAny_notIn_of→OP,wpAny_rule→OQ,wpAny_setItem_pairs→OS,wpAny_specialOf→OT,wpAny_typeOf→OU,wpAny_updateSeq→OW,Builtin.List.listLengthHint→aaA,Builtin.List.listSameRef→aaB,Builtin.Range.small→aaC,Calls.wpAny_keep→aaD,Code.quiet_builtin→aaE,DictEntry.refKey→aaF,EntryCells.newEntry→aaG,Expr.Attribute.elim→aaH,Expr.BinOp.elim→aaI,Expr.BoolOp.elim→aaJ,Expr.Call.elim→aaK,Expr.Compare.elim→aaL,Expr.Constant.elim→aaM,Expr.Dict.elim→aaN,Expr.IfExp.elim→aaO,Expr.List.elim→aaP,Expr.ListComp.elim→aaQ,Expr.Name.elim→aaR,Expr.Slice.elim→aaS,Expr.Subscript.elim→aaT,Expr.Tuple.elim→aaU,Expr.UnaryOp.elim→aaV,Heap.DictOf.new→aaX,Heap.IsTuple.typeIs→aaY,Heap.MadeExcOf→aaZ,Heap.get?_none_of_le→aa0,Heap.get?_push_at→aa1,Operator.casesOn→abT,Challenge.rw_nn0347_01→abX,F.attr_Exception→abY,F.entry_extend_loop→abZ,F.plain_reversed_new→ab0,F.slot_dict_get→ab1,F.slot_list_append→ab2,F.slot_list_pop→ab3,F.slot_list_reverse→ab4,F.slot_tuple_getitem→ab5,call→ab6,stored→ab7,wpAt_bind→ab8,wpAt_of_wpAny→ab9,ScopeKind.casesOn→aca,Shared.asleep_of_life→acb,Stmt.Assign.elim→acd,Stmt.AugAssign.elim→ace,Stmt.Continue.elim→acf,Stmt.Expr.elim→acg,Stmt.Pass.elim→ach,Stmt.Raise.elim→aci,Stmt.Return.elim→acj,Stmt.While.elim→ack,arm_eval_Attribute→acm,codeAny_of_tree→acn,entryFor_of_tree→aco,methodCallForm→acp,pastItsLine_dict→acq,plainObj_wpAny_Assign_Attribute→acr,refuseLoop_ref→acs,slot_dict_getitem→acu,slot_list_setitem→acv,unbindBehindTheSuite→acw,wpAny_Call_Name_kw→acx,wpAny_Constant_none→acy,wpAny_Expr_any→acz,wpAny_getItem_of→acA,wpAny_isInstance→acB,wpAny_letTemporaryGo→acC,wpAny_loadName_local→acD,wpAny_lookBehind→acE,wpAny_madeBy_exc→acF,wpAny_sequenceKey→acG,wpAny_storeName_local→acH
namespace Internal
section
variable {G A B C D E F H I J K L M N O1 P Q R S U V:Prop}
theorem bB (h:A/\B) (k:A->B->G):G:=k h.1 h.2
theorem fH (h:A/\B/\C) (k:A->B->C->G):G:=bB h.2 (k h.1)
theorem j5 (h:A/\B/\C/\D) (k:A->B->C->D->G):G:=fH h.2 (k h.1)
theorem uV (h:A/\B/\C/\D/\E) (k:A->B->C->D->E->G):G:=j5 h.2 (k h.1)
theorem Ci (h:A/\B/\C/\D/\E/\F) (k:A->B->C->D->E->F->G):G:=uV h.2 (k h.1)
theorem Gk (h:A/\B/\C/\D/\E/\F/\H) (k:A->B->C->D->E->F->H->G):G:=Ci h.2 (k h.1)
theorem Ni (h:A/\B/\C/\D/\E/\F/\H/\I) (k:A->B->C->D->E->F->H->I->G):G:=Gk h.2 (k h.1)
theorem Nj (h:A/\B/\C/\D/\E/\F/\H/\I/\J) (k:A->B->C->D->E->F->H->I->J->G):G:=Ni h.2 (k h.1)
theorem aai (h:A/\B/\C/\D/\E/\F/\H/\I/\J/\K) (k:A->B->C->D->E->F->H->I->J->K->G):G:=Nj h.2 (k h.1)
theorem Nh (h:A/\B/\C/\D/\E/\F/\H/\I/\J/\K/\L) (k:A->B->C->D->E->F->H->I->J->K->L->G):G:=aai h.2 (k h.1)
theorem Gj (h:A/\B/\C/\D/\E/\F/\H/\I/\J/\K/\L/\M/\N/\O1) (k:A->B->C->D->E->F->H->I->J->K->L->M->N->O1->G):G:=Nh h.2.2.2 (k h.1 h.2.1 h.2.2.1)
theorem aaj (h:A/\B/\C/\D/\E/\F/\H/\I/\J/\K/\L/\M/\N/\O1/\P/\Q) (k:A->B->C->D->E->F->H->I->J->K->L->M->N->O1->P->Q->G):G:=Gj h.2.2 (k h.1 h.2.1)
theorem aak (h:A/\B/\C/\D/\E/\F/\H/\I/\J/\K/\L/\M/\N/\O1/\P/\Q/\R/\S/\U/\V) (k:A->B->C->D->E->F->H->I->J->K->L->M->N->O1->P->Q->R->S->U->V->G):G:=aaj h.2.2.2.2 (k h.1 h.2.1 h.2.2.1 h.2.2.2.1)
end
section
variable {G:Prop} {T0:Type} {A B C D E F:T0->Prop}
theorem a8 (h:∃b,A b) (k:∀b,A b->G):G:=h.elim λa h=>k a h
theorem aQ (h:∃b,A b/\B b) (k:∀b,A b->B b->G):G:=h.elim λa h=>bB h (k a)
theorem ct (h:∃b,A b/\B b/\C b) (k:∀b,A b->B b->C b->G):G:=h.elim λa h=>fH h (k a)
theorem kI (h:∃b,A b/\B b/\C b/\D b) (k:∀b,A b->B b->C b->D b->G):G:=h.elim λa h=>j5 h (k a)
theorem w6 (h:∃b,A b/\B b/\C b/\D b/\E b) (k:∀b,A b->B b->C b->D b->E b->G):G:=h.elim λa h=>uV h (k a)
theorem Nk (h:∃b,A b/\B b/\C b/\D b/\E b/\F b) (k:∀b,A b->B b->C b->D b->E b->F b->G):G:=h.elim λa h=>Ci h (k a)
end
section
variable {G:Prop} {T0 T1:Type} {A B C D E F H:T0->T1->Prop}
theorem uW (h:∃b c,A b c) (k:∀b c,A b c->G):G:=h.elim λa h=>a8 h (k a)
theorem j6 (h:∃b c,A b c/\B b c) (k:∀b c,A b c->B b c->G):G:=h.elim λa h=>aQ h (k a)
theorem qg (h:∃b c,A b c/\B b c/\C b c) (k:∀b c,A b c->B b c->C b c->G):G:=h.elim λa h=>ct h (k a)
theorem fJ (h:∃b c,A b c/\B b c/\C b c/\D b c) (k:∀b c,A b c->B b c->C b c->D b c->G):G:=h.elim λa h=>kI h (k a)
theorem uX (h:∃b c,A b c/\B b c/\C b c/\D b c/\E b c) (k:∀b c,A b c->B b c->C b c->D b c->E b c->G):G:=h.elim λa h=>w6 h (k a)
theorem Nl (h:∃c d,A c d/\B c d/\C c d/\D c d/\E c d/\F c d/\H c d) (k:∀c d,A c d->B c d->C c d->D c d->E c d->F c d->H c d->G):G:=h.elim λa h=>h.elim λb h=>Gk h (k a b)
end
section
variable {G:Prop} {T0 T1 T2:Type} {A B C D E F H:T0->T1->T2->Prop}
theorem Cj (h:∃b c d,A b c d/\B b c d) (k:∀b c d,A b c d->B b c d->G):G:=h.elim λa h=>j6 h (k a)
theorem oO (h:∃b c d,A b c d/\B b c d/\C b c d) (k:∀b c d,A b c d->B b c d->C b c d->G):G:=h.elim λa h=>qg h (k a)
theorem fv (h:∃b c d,A b c d/\B b c d/\C b c d/\D b c d) (k:∀b c d,A b c d->B b c d->C b c d->D b c d->G):G:=h.elim λa h=>fJ h (k a)
theorem ti (h:∃b c d,A b c d/\B b c d/\C b c d/\D b c d/\E b c d) (k:∀b c d,A b c d->B b c d->C b c d->D b c d->E b c d->G):G:=h.elim λa h=>uX h (k a)
theorem uY (h:∃c d e,A c d e/\B c d e/\C c d e/\D c d e/\E c d e/\F c d e) (k:∀c d e,A c d e->B c d e->C c d e->D c d e->E c d e->F c d e->G):G:=h.elim λa h=>h.elim λb h=>Nk h (k a b)
theorem Nm (h:∃b c d,A b c d/\B b c d/\C b c d/\D b c d/\E b c d/\F b c d/\H b c d) (k:∀b c d,A b c d->B b c d->C b c d->D b c d->E b c d->F b c d->H b c d->G):G:=h.elim λa h=>Nl h (k a)
end
section
variable {G:Prop} {T0 T1 T2 T3:Type} {A B C D E F H I J:T0->T1->T2->T3->Prop}
theorem qh (h:∃c d e f,A c d e f) (k:∀c d e f,A c d e f->G):G:=h.elim λa h=>h.elim λb h=>uW h (k a b)
theorem zo (h:∃b c d e,A b c d e/\B b c d e) (k:∀b c d e,A b c d e->B b c d e->G):G:=h.elim λa h=>Cj h (k a)
theorem Nn (h:∃b c d e,A b c d e/\B b c d e/\C b c d e) (k:∀b c d e,A b c d e->B b c d e->C b c d e->G):G:=h.elim λa h=>oO h (k a)
theorem w7 (h:∃b c d e,A b c d e/\B b c d e/\C b c d e/\D b c d e/\E b c d e/\F b c d e/\H b c d e) (k:∀b c d e,A b c d e->B b c d e->C b c d e->D b c d e->E b c d e->F b c d e->H b c d e->G):G:=h.elim λa h=>Nm h (k a)
theorem aam (h:∃e f g i,A e f g i/\B e f g i/\C e f g i/\D e f g i/\E e f g i/\F e f g i/\H e f g i/\I e f g i) (k:∀e f g i,A e f g i->B e f g i->C e f g i->D e f g i->E e f g i->F e f g i->H e f g i->I e f g i->G):G:=h.elim λa h=>h.elim λb h=>h.elim λc h=>h.elim λd h=>Ni h (k a b c d)
theorem att (h:∃e f g i,A e f g i/\B e f g i/\C e f g i/\D e f g i/\E e f g i/\F e f g i/\H e f g i/\I e f g i/\J e f g i) (k:∀e f g i,A e f g i->B e f g i->C e f g i->D e f g i->E e f g i->F e f g i->H e f g i->I e f g i->J e f g i->G):G:=h.elim λa h=>h.elim λb h=>h.elim λc h=>h.elim λd h=>Nj h (k a b c d)
end
section
variable {G:Prop} {T0 T1 T2 T3 T4:Type} {A B C D E:T0->T1->T2->T3->T4->Prop}
theorem aan (h:∃b c d e f,A b c d e f) (k:∀b c d e f,A b c d e f->G):G:=h.elim λa h=>qh h (k a)
theorem atu (h:∃c d e f g,A c d e f g/\B c d e f g/\C c d e f g/\D c d e f g/\E c d e f g) (k:∀c d e f g,A c d e f g->B c d e f g->C c d e f g->D c d e f g->E c d e f g->G):G:=h.elim λa h=>h.elim λb h=>ti h (k a b)
end
section
variable {G:Prop} {T0 T1 T2 T3 T4 T5:Type} {A B C D E F H I:T0->T1->T2->T3->T4->T5->Prop}
theorem Np (h:∃b c d e f g,A b c d e f g) (k:∀b c d e f g,A b c d e f g->G):G:=h.elim λa h=>aan h (k a)
theorem atv (h:∃c d e f g i,A c d e f g i/\B c d e f g i/\C c d e f g i) (k:∀c d e f g i,A c d e f g i->B c d e f g i->C c d e f g i->G):G:=h.elim λa h=>h.elim λb h=>Nn h (k a b)
theorem aao (h:∃d e f g i j,A d e f g i j/\B d e f g i j/\C d e f g i j/\D d e f g i j) (k:∀d e f g i j,A d e f g i j->B d e f g i j->C d e f g i j->D d e f g i j->G):G:=h.elim λa h=>h.elim λb h=>h.elim λc h=>fv h (k a b c)
theorem Nq (h:∃c d e f g i,A c d e f g i/\B c d e f g i/\C c d e f g i/\D c d e f g i/\E c d e f g i/\F c d e f g i/\H c d e f g i/\I c d e f g i) (k:∀c d e f g i,A c d e f g i->B c d e f g i->C c d e f g i->D c d e f g i->E c d e f g i->F c d e f g i->H c d e f g i->I c d e f g i->G):G:=h.elim λa h=>h.elim λb h=>aam h (k a b)
end
section
variable {G:Prop} {T0 T1 T2 T3 T4 T5 T6:Type} {A B C D:T0->T1->T2->T3->T4->T5->T6->Prop}
theorem aap (h:∃b c d e f g i,A b c d e f g i) (k:∀b c d e f g i,A b c d e f g i->G):G:=h.elim λa h=>Np h (k a)
theorem aaq (h:∃d e f g i j l,A d e f g i j l/\B d e f g i j l) (k:∀d e f g i j l,A d e f g i j l->B d e f g i j l->G):G:=h.elim λa h=>h.elim λb h=>h.elim λc h=>zo h (k a b c)
theorem aar (h:∃b c d e f g i,A b c d e f g i/\B b c d e f g i/\C b c d e f g i/\D b c d e f g i) (k:∀b c d e f g i,A b c d e f g i->B b c d e f g i->C b c d e f g i->D b c d e f g i->G):G:=h.elim λa h=>aao h (k a)
end
section
variable {G:Prop} {T0 T1 T2 T3 T4 T5 T6 T7:Type} {A B C D:T0->T1->T2->T3->T4->T5->T6->T7->Prop}
theorem Ck (h:∃b c d e f g i j,A b c d e f g i j) (k:∀b c d e f g i j,A b c d e f g i j->G):G:=h.elim λa h=>aap h (k a)
theorem Nr (h:∃b c d e f g i j,A b c d e f g i j/\B b c d e f g i j/\C b c d e f g i j/\D b c d e f g i j) (k:∀b c d e f g i j,A b c d e f g i j->B b c d e f g i j->C b c d e f g i j->D b c d e f g i j->G):G:=h.elim λa h=>aar h (k a)
end
section
variable {G:Prop} {T0 T1 T2 T3 T4 T5 T6 T7 T8:Type} {A:T0->T1->T2->T3->T4->T5->T6->T7->T8->Prop}
theorem aas (h:∃b c d e f g i j l,A b c d e f g i j l) (k:∀b c d e f g i j l,A b c d e f g i j l->G):G:=h.elim λa h=>Ck h (k a)
end
section
variable {G:Prop} {T0 T1 T2 T3 T4 T5 T6 T7 T8 T9 Hp:Type} {A:T0->T1->T2->T3->T4->T5->T6->T7->T8->T9->Hp->Prop}
theorem aal (h:∃d e f g i j l m n o c,A d e f g i j l m n o c) (k:∀d e f g i j l m n o c,A d e f g i j l m n o c->G):G:=h.elim λa h=>h.elim λb h=>aas h (k a b)
end
section
variable {G:Prop} {T0 T1 T2 T3 T4 T5 T6 T7 T8 T9 Hp T11 T12 T13 T14 T15:Type} {A:T0->T1->T2->T3->T4->T5->T6->T7->T8->T9->Hp->T11->T12->T13->T14->T15->Prop}
theorem ats (h:∃n o p q r s t u v w f g j l m i,A n o p q r s t u v w f g j l m i) (k:∀n o p q r s t u v w f g j l m i,A n o p q r s t u v w f g j l m i->G):G:=h.elim λa h=>h.elim λb h=>h.elim λc h=>h.elim λd h=>h.elim λe h=>aal h (k a b c d e)
end
theorem dE {T0 T1:Type} {A:T0->T1->Prop} (a:T0) (b:T1) (h:A a b):∃a b,A a b:=⟨a,b,h⟩
theorem d9 {T0 T1 T2:Type} {A:T0->T1->T2->Prop} (a:T0) (b:T1) (c:T2) (h:A a b c):∃a b c,A a b c:=⟨a,b,c,h⟩
theorem sS {T0 T1 T2 T3:Type} {A:T0->T1->T2->T3->Prop} (a:T0) (b:T1) (c:T2) (d:T3) (h:A a b c d):∃a b c d,A a b c d:=⟨a,b,c,d,h⟩
theorem Ei {T0 T1 T2 T3 T4:Type} {A:T0->T1->T2->T3->T4->Prop} (a:T0) (b:T1) (c:T2) (d:T3) (e:T4) (h:A a b c d e):∃a b c d e,A a b c d e:=⟨a,b,c,d,e,h⟩
theorem sT {T0 T1 T2 T3 T4 T5:Type} {A:T0->T1->T2->T3->T4->T5->Prop} (a:T0) (b:T1) (c:T2) (d:T3) (e:T4) (f:T5) (h:A a b c d e f):∃a b c d e f,A a b c d e f:=⟨a,b,c,d,e,f,h⟩
theorem UM {T0 T1 T2 T3 T4 T5 T6:Type} {A:T0->T1->T2->T3->T4->T5->T6->Prop} (a:T0) (b:T1) (c:T2) (d:T3) (e:T4) (f:T5) (g:T6) (h:A a b c d e f g):∃a b c d e f g,A a b c d e f g:=⟨a,b,c,d,e,f,g,h⟩
theorem A4 {T0 T1 T2 T3 T4 T5 T6 T7:Type} {A:T0->T1->T2->T3->T4->T5->T6->T7->Prop} (a:T0) (b:T1) (c:T2) (d:T3) (e:T4) (f:T5) (g:T6) (i:T7) (h:A a b c d e f g i):∃a b c d e f g i,A a b c d e f g i:=⟨a,b,c,d,e,f,g,i,h⟩
theorem alu {T0 T1 T2 T3 T4 T5 T6 T7 T8:Type} {A:T0->T1->T2->T3->T4->T5->T6->T7->T8->Prop} (a:T0) (b:T1) (c:T2) (d:T3) (e:T4) (f:T5) (g:T6) (i:T7) (j:T8) (h:A a b c d e f g i j):∃a b c d e f g i j,A a b c d e f g i j:=⟨a,b,c,d,e,f,g,i,j,h⟩
section
open PySem
variable {α:Type} {M:iw} {A:dh} {s:ax} {Q:α->ax->Prop} {E:ah->ax->Prop}
theorem w5 {c:Prop} [Decidable c] {a b:Sem α} (h:¬c) (k:aY M A b Q E s):aY M A (if c then a else b) Q E s:=by rw [if_neg h];exact k
theorem Gi {c:Prop} [Decidable c] {a b:Sem α} (h:c) (k:aY M A a Q E s):aY M A (if c then a else b) Q E s:=by rw [if_pos h];exact k
theorem oM {a b:Sem α} (h:a=b) (k:aY M A b Q E s):aY M A a Q E s:=h▸k
end
theorem Bu {P:Nat->Prop} {n:Nat} (f:∀k,k<n->P k) (h:P n) (k:Nat) (a:k<n+1):P k:=(Nat.lt_or_eq_of_le (abC a)).elim (f k) λe=>e▸h
@[elab_as_elim] theorem Bs {P:Nat->Prop} (a:P 0) (b:P 1) (c:P 2) (k:Nat) (d:k<3):P k:=Bu (Bu (Bu (λk h=>absurd h (Nat.not_lt_zero k)) a) b) c k d
@[elab_as_elim] theorem pX {P:Nat->Prop} (a:P 0) (b:P 1) (c:P 2) (d:P 3) (k:Nat) (e:k<4):P k:=Bu (Bs a b c) d k e
@[elab_as_elim] theorem lt5 {P:Nat->Prop} (a:P 0) (b:P 1) (c:P 2) (d:P 3) (e:P 4) (k:Nat) (f:k<5):P k:=Bu (pX a b c d) e k f
@[elab_as_elim] theorem l4E {α:Type} {M:List α->Prop} {l:List α} (h:l.length=4) (k:∀a b c d,M [a,b,c,d]):M l:=by
 induction l using cK with
 |nil=>contradiction
 |cons a l=>
  induction l using cK with
  |nil=>exact absurd h (by simp)
  |cons b l=>
   induction l using cK with
   |nil=>exact absurd h (by simp)
   |cons c l=>
    induction l using cK with
    |nil=>exact absurd h (by simp)
    |cons d l=>
     induction l using cK with
     |nil=>exact k a b c d
     |cons e l=>exact absurd (GV (GV (GV (GV h)))) (Nat.succ_ne_zero _)
theorem Jv {α:Type} {l:List α} (h:l.length=4):∃e f g i,l=[e,f,g,i]:=l4E h λa b c d=>⟨a,b,c,d,rfl⟩
theorem eZ {L M:List Nat} (a:List Nat) (h:a.mapM (λi=>L[i]?)=some M:=by rfl):∀r∈M,r∈L:=by
 induction a generalizing M with
 |nil=>cases h;intro r q;cases q
 |cons i a b=>
  rw [Cv] at h;cases e:L[i]? with
  |none=>rw [e] at h;cases h
  |some x=>
   rw [e] at h;cases e2:a.mapM (λi=>L[i]?) with
   |none=>rw [e2] at h;cases h
   |some xs=>
    rw [e2] at h;cases h;intro r q;rcases cF.mp q with q | q
    . rw [q];exact gW e
    . exact b e2 r q
end Internal
namespace H.Internal
open PySem PySem.W PySem.Calls PyProof.Rows
section
variable {den:rQ->Sem Fin} {p:cU} {w:bU} {t':mE} {os:gY} {jo:Nat} {iT:Option ah} {s:ax}
noncomputable abbrev PM:=List (Nat×Obj)
noncomputable def eU:PM->Nat->Option Obj
 |[],_=>none
 |p::r,a=>match cA p.1 a with
  |true=>some p.2
  |false=>eU r a
noncomputable def za:PM->Nat->Obj->PM
 |[],_,_=>[]
 |p::r,a,o=>match cA p.1 a with
  |true=>(a,o)::r
  |false=>p::za r a o
theorem Xw (a b):cA a b=decide (a=b):=BT.beq_eq a b
theorem wJ (p) (r) (a):eU (p::r) a=if p.1=a then some p.2 else eU r a:=by show (match cA p.1 a with | true=>some p.2 | false=>eU r a)=_;rw [Xw];by_cases h:p.1=a<;>simp [h]
theorem apl (p) (r) (a) (o):za (p::r) a o=if p.1=a then (a,o)::r else p::za r a o:=by show (match cA p.1 a with | true=>(a,o)::r | false=>p::za r a o)=_;rw [Xw];by_cases h:p.1=a<;>simp [h]
theorem Yn (a) (o):∀m b,eU (za m a o) b=if a=b then (eU m b).map (λ_=>o) else eU m b:=by
 intro l;induction l with
 |nil=>intro b;exact (ite_self _).symm
 |cons p r d=>
  intro b;rw [apl,wJ];by_cases h:p.1=a
  . rw [if_pos h,wJ];by_cases hb:a=b
    . subst hb;simp [h]
    . have c:¬p.1=b:=λe=>hb (h.symm.trans e);simp [hb,c]
  . rw [if_neg h,wJ,d b];by_cases hb:a=b
    . subst hb;simp [h]
    . simp [hb]
structure PS where
 m:PM
 n:Nat
 drawn:u7
 toks:Nat
noncomputable def Fq (m:PM) (n:Nat):Step->Option (PS×mE)
 |.go s' t'=>match s'.gens.toList with
  |[]=>some (⟨m,n,s'.drawn,s'.toks⟩,t')
  |_::_=>none
 |.halt _ _=>none
noncomputable def wK (den:rQ->Sem Fin) (p:cU) (w:bU) (os:gY):PS->mE->Option (PS×mE)
 |⟨m,n,drawn,toks⟩,⟨b,qv,pos,qz⟩=>match b with
  |.load a _ k=>(eU m a).bind λo=>some (⟨m,n,drawn,toks⟩,⟨k o,qv,pos,qz⟩)
  |.update a _ f k=>(eU m a).bind λo=>bif (f o).isFreed then none else some (⟨za m a (f o),n,drawn,toks⟩,⟨k (),qv,pos,qz⟩)
  |.alloc o k=>bif o.isFreed then none else some (⟨(n,o)::m,n+1,drawn,toks⟩,⟨k n,qv,pos,qz⟩)
  |.loadIfAlive a k=>(eU m a).bind λo=>some (⟨m,n,drawn,toks⟩,⟨k (some o),qv,pos,qz⟩)
  |c=>Fq m n (step den p w ⟨{},oP [],drawn,toks,os⟩ ⟨c,qv,pos,qz⟩)
noncomputable def BH (den:rQ->Sem Fin) (p:cU) (w:bU) (os:gY) (jo:Nat) (iT:Option ah) (b:Nat):Nat->PS->mE->Option (lK×PS×rQ×Pos)
 |0,_,_=>none
 |n+1,s,t=>match endAt b t with
  |some f=>some (f,s,t.code,t.pos)
  |none=>match vt jo iT t with
   |false=>none
   |true=>match wK den p w os s t with
    |some (s',t')=>BH den p w os jo iT b n s' t'
    |none=>none
structure qC (S:PS) (s:ax) (os:gY):Prop where
 get:∀a o,eU S.m a=some o->s.heap.get? a=some o
 size:s.heap.objs.size=S.n
 drawn:s.drawn=S.drawn
 toks:s.toks=S.toks
 gens:s.gens=oP []
 os:s.os=os
structure nR (S:PS) (s s':ax):Prop where
 keep:∀b,b<S.n->eU S.m b=none->s'.heap.get? b=s.heap.get? b
 life:s'.heap.life=s.heap.life
theorem as9 (h:dv) (a) (f):(h.update a f).life=h.life:=by induction h using Heap.casesOn;rfl
theorem apo (h:dv) (o):(h.push o).life=h.life:=by induction h using Heap.casesOn;rfl
noncomputable def aoc:Sem Fin->Bool
 |.os _ _ _=>false
 |_=>true
noncomputable def alU:Sem Fin->Bool
 |.load ..=>true
 |.update ..=>true
 |.alloc ..=>true
 |.loadIfAlive ..=>true
 |_=>false
theorem apj {f:PS} {m:PM} {heap:dv} {c:u7} {d n:Nat} {sy qv pos qz} (x:alU sy=false)
 (t:∀a o,eU m a=some o->heap.get? a=some o) (u:heap.objs.size=n)
 (h:Fq m n (step den p w ⟨{},oP [],c,d,os⟩ ⟨sy,qv,pos,qz⟩)=some (f,t')) (k:aoc sy=true):
 ∃s',step den p w ⟨heap,oP [],c,d,os⟩ ⟨sy,qv,pos,qz⟩=.go s' t'/\qC f s' os/\nR ⟨m,n,c,d⟩ ⟨heap,oP [],c,d,os⟩ s'/\n<=f.n/\(∀b,b<n->eU m b=none->eU f.m b=none):=by
 cases e:step den p w ⟨{},oP [],c,d,os⟩ ⟨sy,qv,pos,qz⟩ with
 |halt=>rw [e] at h;contradiction
 |go gv t₀=>
  rw [e] at h;have j:=step_os_same e k;generalize g:gv.gens.toList=v;induction v using cK with
  |cons=>simp only [Fq,g] at h;contradiction
  |nil=>
   simp only [Fq,g,GY,CD] at h;refine Internal.bB h λi s=>?_;subst i;subst s;have q:gv.gens=oP []:=by
    cases r:gv.gens with
    |mk l=>rw [r] at g;subst g;rfl
   refine ⟨_,step_heap (by intros;intro e;subst e;contradiction) (by intros;intro e;subst e;contradiction) (by intros;intro e;subst e;contradiction) (by intros;intro e;subst e;contradiction) e,⟨t,u,rfl,rfl,q,j⟩,⟨λ_ _ _=>rfl,rfl⟩,bT _,λ_ _ h=>h⟩
theorem BS {e f:Type} {a c:e} {b d:f} (h:some (a,b)=some (c,d)):a=c/\b=d:=⟨congrArg Oq (eM h),congrArg Prod.snd (eM h)⟩
theorem Mk {c d:Type} {o:Option c} {f:c->Option d} {b:d} {G:Prop} (h:o.bind f=some b) (k:∀a,o=some a->f a=some b->G):G:=(GX.mp h).elim λa x=>k a x.1 x.2
theorem PN {a:Type} {c:Bool} {r:Option a} {b:a} {G:Prop} (h:(bif c then none else r)=some b) (k:c=false->r=some b->G):G:=by
 induction c using dy with
 |true=>contradiction
 |false=>exact k rfl h
theorem Yr {S i:PS} {t:mE} (h:wK den p w os S t=some (i,t')) (I:vt jo iT t=true) (R:qC S s os):
 ∃s',step den p w s t=.go s' t'/\qC i s' os/\nR S s s'/\S.n<=i.n/\(∀b,b<S.n->eU S.m b=none->eU i.m b=none):=by
 obtain ⟨m,n,drawn,toks⟩:=S;obtain ⟨M,qv,K,qz⟩:=t;obtain ⟨heap,gens,B,D,A⟩:=s;obtain ⟨d,g,y,z,x,E⟩:=R;dsimp only at d g y z x E;subst y z x E;induction M using Sem.casesOn with
 |load a q k=>
  . refine Mk h λo e h=>Internal.bB (BS h) λH F=>?_;subst H;subst F;refine ⟨_,by simp only [step,d a o e],⟨d,g,rfl,rfl,rfl,rfl⟩,⟨λ_ _ _=>rfl,rfl⟩,bT _,λ_ _ h=>h⟩
 |loadIfAlive a k=>
  . refine Mk h λo e h=>Internal.bB (BS h) λl N=>?_;subst l;subst N;refine ⟨_,by simp only [step,d a o e],⟨d,g,rfl,rfl,rfl,rfl⟩,⟨λ_ _ _=>rfl,rfl⟩,bT _,λ_ _ h=>h⟩
 |update a q f k=>
  . refine Mk h λo e h=>PN h λu h=>Internal.bB (BS h) λG J=>?_;subst G;subst J;have C:=d a o e;refine ⟨⟨heap.update a f,oP [],B,D,A⟩,by simp only [step,C,Option.isSome_some,if_true],⟨λb v hb=>?_,?_,rfl,rfl,rfl,rfl⟩,⟨λb _ hb=>?_,as9 ..⟩,bT _,λb _ hb=>?_⟩
    . dsimp only at hb⊢;rw [Yn] at hb;by_cases c:a=b
      . subst c;rw [if_pos rfl,e] at hb
        (injection hb with hb;subst hb)
        exact tr f C u
      . rw [if_neg c] at hb;exact (js heap f c).trans (d b v hb)
    . show (heap.update a f).objs.size=n;rw [Heap.size_after_update];exact g
    . dsimp only;exact js heap f (λq=>by subst q;dsimp only at hb;rw [hb] at e;contradiction)
    . dsimp only at hb⊢;rw [Yn];by_cases c:a=b
      . subst c;rw [hb] at e;contradiction
      . rw [if_neg c];exact hb
 |alloc o k=>
  . refine PN h λu h=>Internal.bB (BS h) λj L=>?_;subst j;subst L;dsimp only;subst g;refine ⟨⟨heap.push o,oP [],B,D,A⟩,by simp only [step],⟨λb v hb=>?_,?_,rfl,rfl,rfl,rfl⟩,⟨λb r _=>?_,apo ..⟩,CA _,λb r hb=>?_⟩
    . dsimp only at hb⊢;rw [wJ] at hb;by_cases c:heap.objs.size=b
      . subst c;rw [if_pos rfl] at hb
        (injection hb with hb;subst hb)
        exact nI _ u
      . rw [if_neg c] at hb;exact nH _ (d b v hb)
    . exact NJ ..
    . exact Heap.get?_push_ne _ _ _ (oQ r)
    . show eU ((heap.objs.size,o)::m) b=none;rw [wJ,if_neg (GU r)];exact hb
 |os=>simp [vt] at I
 |_=>exact apj rfl d g h rfl
theorem nR.trans {S a:PS} {s' e:ax} (K:nR S s s') (c:nR a s' e) (g:S.n<=a.n) (f:∀b,b<S.n->eU S.m b=none->eU a.m b=none):nR S s e:=
 ⟨λb hb d=>(c.keep b (tD hb g) (f b hb d)).trans (K.keep b hb d),c.life.trans K.life⟩
theorem nR.refl (S) (s):nR S s s:=⟨λ_ _ _=>rfl,rfl⟩
theorem Yq {d:String->Option mA} {b:Nat}:∀n {S a:PS} {t:mE} {f:lK} {c:rQ} {q:Pos},
 BH (oV d) p w os jo iT b n S t=some (f,a,c,q)->∀{s:ax},qC S s os->
 ∃s',segRun d p w jo iT b n s t=some (f,s',c,q)/\qC a s' os/\nR S s s'/\S.n<=a.n/\(∀b,b<S.n->eU S.m b=none->eU a.m b=none):=by
 intro l;induction l with
 |zero=>intro _ _ _ _ _ _ h _ _;contradiction
 |succ n E=>
  intro S a t f c q h s R;replace h:(match endAt b t with | some f=>some (f,S,t.code,t.pos) | none=>match vt jo iT t with | false=>none | true=>match wK (oV d) p w os S t with | some (s',t')=>BH (oV d) p w os jo iT b n s' t' | none=>none)=some (f,a,c,q):=h;unfold segRun;generalize e:endAt b t=g;induction g using aW with
  |some K=>rw [e] at h;simp only [GY,CD] at h;refine Internal.j5 h λr F H i=>?_;subst r;subst F;subst H;subst i;exact ⟨s,rfl,R,nR.refl _ _,bT _,λ_ _ h=>h⟩
  |none=>
   rw [e] at h;dsimp only at h⊢;generalize j:vt jo iT t=g;induction g using dy with
   |false=>rw [j] at h;contradiction
   |true=>
    rw [j] at h;dsimp only at h⊢;generalize k:wK (oV d) p w os S t=g;induction g using aW with
    |none=>rw [k] at h;contradiction
    |some x=>obtain ⟨A,B⟩:=x;rw [k] at h;refine Internal.w6 (Yr k j R) λJ g1 y u m o=>?_;rw [g1];refine Internal.w6 (E h y) λI g2 z v G C=>⟨I,g2,z,u.trans v m o,xd m G,λb hb D=>C b (tD hb m) (o b hb D)⟩
end
section
variable {w:bU} {os:gY} {k:Nat} {pos jF:Pos} {s s0:ax} {t0:mE}
noncomputable abbrev pr:Program:=PySem.Challenge.pw_nn0347_01
def bd:List Stmt:=behindTheImports pr
def xX:Env:={scope:=pr.main.scope,locals:=G8,globals:=G8,cells:=[],code:=.ref 13,frame:=some 14}
def mQ:Code:=.body bd xX
noncomputable def q0:Pos:=⟨0,0,0,0⟩
noncomputable def Dz:Drawn:={}
def st (i:Nat):Stmt:=bd.getD i (.Pass ⟨0,0,0,0⟩)
noncomputable def cB:fw->List fw | .ClassDef _ _ _ b ..=>b | _=>[]
def mt (i j:Nat):Stmt:=(cB (st i)).getD j (.Pass ⟨0,0,0,0⟩)
noncomputable def fN:fw->Str | .FunctionDef n ..=>n | _=>Str.empty
noncomputable def fA:fw->Gp | .FunctionDef _ a ..=>a | _=>default
noncomputable def fB:fw->List fw | .FunctionDef _ _ b ..=>b | _=>[]
noncomputable def fS:fw->dW | .FunctionDef _ _ _ _ _ _ s ..=>s | _=>default
noncomputable def en (P:aE) (x:Str) (t:Tok) (v:ah):DictEntry:=⟨Ot P x,.str x t,v⟩
noncomputable def o12 (l:List ah):Obj:=⟨.none,none,.fields l.toArray,#[]⟩
noncomputable def o2 (l:List tq) (n:Nat):Obj:=⟨.none,none,.dict l.toArray n,#[]⟩
noncomputable def o3 (l:List tq) (n:Nat):Obj:=⟨.type "dict",none,.dict l.toArray n,#[]⟩
def gl (P:aE) (nm:ah) (rest:List tq):List DictEntry:=en P ("__name__":Str) 165 nm::en P ("__doc__":Str) 166 .none::en P ("__package__":Str) 167 .none::
 en P ("__loader__":Str) 168 (.builtin "__main__.__loader__#opaque")::en P ("__spec__":Str) 169 .none::en P ("__annotations__":Str) 170 (.ref 6)::en P ("__builtins__":Str) 171 (.ref 4)::en P ("__file__":Str) 173 (.str ("/claim/cut.py":Str) 172)::en P ("__cached__":Str) 174 .none::rest
noncomputable def ad0:Obj:=⟨.type "code",none,.fields [.str ("<module>":Str) 182,.str ("<module>":Str) 183,.str ("/claim/cut.py":Str) 184,.int (1) 0,.int (0) 0,.int (0) 0,.int (0) 0,.int (0) 0,.ref 11,.bool false,.int (181) 0,.ref 12,.none,.none,.none,.none,.int (185) 0,.int (1) 0,.str ("/claim/cut.py":Str) 186].toArray,#[]⟩
noncomputable def tv (t:List (Nat×Nat×Nat)):List Value:=t.flatMap λx=>[.int x.1 0,.int x.2.1 0,.ref x.2.2]
def low (P:aE) (b:List tq) (nm:ah) (g:List tq) (c:Nat) (t:List (Nat×Nat×Nat)) (a:PM):PM:=
 (3,o3 (gl P nm g) c)::(12,o12 (tv t))::(2,o2 b b.length)::(0,boot_o_0 P)::(4,boot_o_4 P)::(13,ad0)::a
def fo (s:fw) (q:Str) (df:ah) (md:Str) (mt:Tok) (c:aC):Obj:=
 ⟨.type "function",none,.func {name:=fN s,qualname:=q,params:=fA s,body:=.stmts (fB s),scope:=fS s,globals:=3,closure:=[],defaults:=df,kwdefaults:=.none,doc:=.none,pyModule:=.str md mt,annotations:=none,code:=.ref c,closureTuple:=.none,builtins:=0},#[]⟩
noncomputable def co (x q:Str) (t0 h i:Tok) (a b c d e:Int) (f:aC) (g:aC) (l m n:ah) (k:Int) (j:Tok):Obj:=
 ⟨.type "code",none,.fields [.str x t0,.str q h,.str ("/claim/cut.py":Str) i,.int a 0,.int b 0,.int c 0,.int d 0,.int e 0,.ref f,.bool true,.int (181) 0,.ref g,.none,l,m,n,.int k 0,.int a 0,.str ("/claim/cut.py":Str) j].toArray,#[]⟩
noncomputable def Fd (a:List Nat) (r:lK×PS×rQ×Pos):lK×List (Option Obj)×Nat×u7×Nat×rQ×Pos:=(r.1,a.map (eU r.2.1.m),r.2.1.n,r.2.1.drawn,r.2.1.toks,r.2.2.1,r.2.2.2)
theorem Fh {m:PM} {a:Nat} {o:Obj} (h:eU m a=some o):(a,o)∈m:=by
 induction m with
 |nil=>contradiction
 |cons p r b=>
  rw [wJ] at h;by_cases e:p.1=a
  . rw [if_pos e] at h
    (injection h with h;subst h);subst e;exact .head _
  . rw [if_neg e] at h;exact .tail _ (b h)
theorem LU {f:Nat->Option Obj} {l:PM} (h:(l.map (·.1)).map f=l.map (λp=>some p.2)):∀p∈l,f p.1=some p.2:=by
 induction l with
 |nil=>intro p hp;exact absurd hp bP
 |cons x l a=>
  intro p hp;have h:=List.cons.inj h;rcases cF.mp hp with rfl | hp
  . exact h.1
  . exact a h.2 p hp
structure At (S:PS) (az:PM) (os:gY) (L:Life) (s:ax):Prop where
 rep:qC S s os
 az:∀p∈az,s.heap.get? p.1=some p.2
 life:s.heap.life=L
abbrev Hn (w:bU) (os:gY) (k:Nat) (S:PS) (a:List fw) (pos:Pos):Option (lK×PS×rQ×Pos):=
 BH (oV rW) pr w os 11 (some (.ref 6)) 1 k S (piecesOf a xX mQ pos [zK q0])
theorem apc {L:Life} {S:PS} {az b d:PM} {u:Nat} {n:u7} {v:Nat} {m:List fw}
 (h:(Hn w os k S m pos).map (Fd ((b++d).map (·.1)))=some (.next,(b++d).map (λp=>some p.2),u,n,v,mQ,jF))
 (E:(az.all λp=>qq p.1 S.n&&(eU S.m p.1).isNone)=true) (A:At S az os L s):
 ∃s',segRun rW pr w 11 (some (.ref 6)) 1 k s (piecesOf m xX mQ pos [zK q0])=some (.next,s',mQ,jF)/\At ⟨b,u,n,v⟩ (d++az) os L s':=by
 refine Internal.aQ (gJ.mp h) λB e r=>?_;obtain ⟨f,G,c,q⟩:=B;simp only [Fd,CD] at r;refine Internal.Gk r λy e1 x z i j l=>?_;subst y;subst x;subst z;subst i;subst j;subst l;refine Internal.w6 (Yq k e A.rep) λs' g R K I H=>?_;have t:=LU e1;refine ⟨s',g,⟨⟨λa o F=>?_,R.size,R.drawn,R.toks,R.gens,R.os⟩,λp hp=>?_,K.life.trans A.life⟩⟩
 . exact R.get _ _ (t (a,o) (gw _ (Fh F)))
 . rcases eG.mp hp with hp | hp
   . exact R.get _ _ (t p (j8 _ hp))
   . have:=jt.mp E p hp;refine Internal.bB (dP.mp this) λC D=>(K.keep _ (vh C) (Om.mp D)).trans (A.az p hp)
def tO (w:bU) (s0:ax) (t0:mE) (rest:List fw) (pos:Pos) (s:ax):Prop:=
 ∀r N,topRun rW pr w 11 (some (.ref 6)) N s (restOf rest xX mQ pos [zK q0])=some r->∃M,topRun rW pr w 11 (some (.ref 6)) M s0 t0=some r
theorem tO.step {s':ax} {l rest:List fw} (G:tO w s0 t0 (l++rest) pos s)
 (h:segRun rW pr w 11 (some (.ref 6)) 1 k s (piecesOf l xX mQ pos [zK q0])=some (.next,s',mQ,jF)):tO w s0 t0 rest jF s':=
 λr _ hr=>G r _ (piece_app h hr)
theorem tO.fU (G:tO w s0 t0 [] pos s):∃M,topRun rW pr w 11 (some (.ref 6)) M s0 t0=some s:=
 G s 2 (piece_nil (by obtain ⟨h,g,d,t,o⟩:=s;rfl))
noncomputable def Fi (den:rQ->Sem Fin) (p:cU) (w:bU) (os:gY) (b:Nat) (a:Option ah):Nat->PS->mE->Option (PS×mE)
 |0,s,t=>some (s,t)
 |n+1,s,t=>match through t with
  |true=>none
  |false=>match vt b a t with
   |false=>none
   |true=>match wK den p w os s t with
    |some (s',c)=>Fi den p w os b a n s' c
    |none=>none
theorem ao6 {g:String->Option mA} {p:cU} {f:Nat} {d:Option ah}:∀n {S a:PS} {t c:mE},
 Fi (oV g) p w os f d n S t=some (a,c)->∀{s:ax},qC S s os->
 ∃s',topGo g p w f d n s t=some (s',c)/\qC a s' os/\nR S s s'/\S.n<=a.n/\(∀b,b<S.n->eU S.m b=none->eU a.m b=none):=by
 intro l;induction l with
 |zero=>intro _ _ _ _ h s R;refine Internal.bB (BS h) λq E=>?_;subst q;subst E;exact ⟨s,rfl,R,nR.refl _ _,bT _,λ_ _ h=>h⟩
 |succ n D=>
  intro S a t c h s R;replace h:(match through t with | true=>none | false=>match vt f d t with | false=>none | true=>match wK (oV g) p w os S t with | some (s',c)=>Fi (oV g) p w os f d n s' c | none=>none)=some (a,c):=h;unfold topGo;generalize e:through t=i;induction i using dy with
  |true=>rw [e] at h;contradiction
  |false=>
   rw [e] at h;dsimp only at h⊢;generalize j:vt f d t=i;induction i using dy with
   |false=>rw [j] at h;contradiction
   |true=>
    rw [j] at h;dsimp only at h⊢;generalize k:wK (oV g) p w os S t=i;induction i using aW with
    |none=>rw [k] at h;contradiction
    |some x=>obtain ⟨z,A⟩:=x;rw [k] at h;refine Internal.w6 (Yr k j R) λH g1 v r m o=>?_;rw [g1];refine Internal.w6 (D h v) λG g2 y u F B=>⟨G,g2,y,r.trans u m o,xd m F,λb hb C=>B b (tD hb m) (o b hb C)⟩
def C5 (P:aE):PM:=[(0,boot_o_0 P),(1,CI P),(2,boot_o_2 P),(3,boot_o_3 P),(4,boot_o_4 P),(5,boot_o_5 P),(6,boot_o_6 P),(7,boot_o_7 P),(8,boot_o_8 P),(9,boot_o_9 P),(10,boot_o_10 P)]
def Ww (P:aE):PM:=low P [] (.str ("__main__":Str) 164) [] 9 [] []
noncomputable def Yj (a:List Nat) (r:PS×mE):List (Option Obj)×Nat×u7×Nat×Thread:=(a.map (eU r.1.m),r.1.n,r.1.drawn,r.1.toks,r.2)
theorem apn (w) (os):(Fi (oV rW) pr w os 11 (some (.ref 6)) 12 ⟨C5 w.params,11,G0,G1⟩ (Hd pr)).map (Yj ((Ww w.params).map (·.1)))=
 some ((Ww w.params).map (λp=>some p.2),15,Dz,187,⟨oV rW mQ,mQ,q0,[zK q0]⟩):=by kernel_rfl
theorem adS (w) (os) (S):BH (oV rW) pr w os 11 (some (.ref 6)) 1 1 S (blockOf bd xX mQ q0 [zK q0])=some (.next,S,mQ,q0):=by kernel_rfl
end
def cq (n q:Str) (t ln ac k u:Nat):Obj:=co n q t (t+1) (t+2) ln ac 0 0 3 k (k+1) (.ref (k+2)) (.ref (k+3)) (.ref (k+4)) u (u+1)
def cn (n q:Str) (t ln ac k u:Nat):Obj:=co n q t (t+1) (t+2) ln ac 0 0 3 k (k+1) .none .none (.ref (k+2)) u (u+1)
abbrev GL:=List (Str×Nat×Nat×Nat)
noncomputable def nl (l:GL):GL:=l
def gm (P:aE) (l:GL):List DictEntry:=l.map λp=>en P p.1 p.2.2.2 (.ref p.2.2.1)
noncomputable def tm (l:GL):List (Nat×Nat×Nat):=l.map λp=>(p.2.1,0,p.2.2.1-1)
def kq (m:Str) (mt s:Nat) (p:Str×Nat×Nat×Nat) (t ac:Nat):PM:=[(p.2.2.1-1,if ac<100 then cq p.1 p.1 t p.2.1 ac (p.2.2.1-6) (p.2.2.2-2) else cn p.1 p.1 t p.2.1 (ac-100) (p.2.2.1-4) (p.2.2.2-2)),(p.2.2.1,fo (st s) p.1 .none m mt (p.2.2.1-1))]
def kp (l:GL) (m:Str) (mt b:Nat) (k:List (Nat×Nat×Nat)):PM:=k.flatMap λq=>kq m mt (b+q.1) (l.getD q.1 ("",0,0,0)) q.2.1 q.2.2
def km (n q m:Str) (h i j t ln ac k u:Nat):PM:=[(k+5,cq n q t ln ac k u),(k+6,fo (mt i j) q .none m h (k+5))]
noncomputable def o29:Obj:=⟨.type "tuple",none,.seq [.int (-1) 209,.str "" 210].toArray 0,#[]⟩
def o35:Obj:=cq "__init__" "GateloomError.__init__" 211 7 4 30 218
def Fb:Obj:=fo (mt 2 0) "GateloomError.__init__" (.ref 29) "gateloom.errors" 194 35
def Mj (P:aE):Obj:=⟨.type "dict",none,.dict [en P "__module__" 203 (.str "gateloom.errors" 194),en P "__firstlineno__" 207 (.int 5 206),en P "__init__" 220 (.ref 36),en P "__static_attributes__" 224 (.ref 37),en P "__weakref__" 226 (.ref 40),en P "__doc__" 227 (.none)].toArray 3,#[]⟩
noncomputable def o39:Obj:=⟨.type "type",none,.cls {name:="GateloomError",bases:=[.type "Exception"],mro:=[.ref 39,.type "Exception",.type "BaseException",.type "object"],ns:=38,qualname:="GateloomError",hasDict:=true,slotNames:=[],subclasses:=[.ref 52,.ref 64],abstract:=false,collection:=none,hasDel:=false},[some (.ref 22),none,some (.str "GateloomError" 196),some (.str "GateloomError" 204),some (.builtin "Exception.__new__"),some (.bool true)].toArray⟩
def o51 (P:aE):Obj:=⟨.type "dict",none,.dict [en P "__module__" 239 (.str "gateloom.errors" 194),en P "__firstlineno__" 243 (.int 11 242),en P "__static_attributes__" 244 (.ref 50),en P "__doc__" 245 (.none)].toArray 2,#[]⟩
noncomputable def o52:Obj:=⟨.type "type",none,.cls {name:="DesignError",bases:=[.ref 39],mro:=[.ref 52,.ref 39,.type "Exception",.type "BaseException",.type "object"],ns:=51,qualname:="DesignError",hasDict:=true,slotNames:=[],subclasses:=[],abstract:=false,collection:=none,hasDel:=false},[some (.ref 43),none,some (.str "DesignError" 232),some (.str "DesignError" 240),some (.builtin "Exception.__new__"),some (.bool true)].toArray⟩
noncomputable def o74:Obj:=⟨.type "tuple",none,.seq [.int 0 273].toArray 0,#[]⟩
def o80:Obj:=cq "vec" "vec" 274 18 3 75 281
def o81:Obj:=fo (st 7) "vec" (.ref 74) "gateloom.vec" 264 80
def aox (P:aE):Obj:=⟨.type "dict",none,.dict [en P "__module__" 419 (.str "gateloom.store" 410),en P "__firstlineno__" 423 (.int 91 422),en P "__init__" 431 (.ref 186),en P "get" 441 (.ref 193),en P "word" 452 (.ref 200),en P "set_bits" 465 (.ref 207),en P "__static_attributes__" 470 (.ref 208),en P "__dict__" 472 (.ref 211),en P "__weakref__" 474 (.ref 212),en P "__doc__" 475 (.none)].toArray 4,#[]⟩
noncomputable def aoy:Obj:=⟨.type "type",none,.cls {name:="Store",bases:=[.type "object"],mro:=[.ref 210,.type "object"],ns:=209,qualname:="Store",hasDict:=true,slotNames:=[],subclasses:=[],abstract:=false,collection:=none,hasDel:=false},[none,none,some (.str "Store" 412),some (.str "Store" 420),some (.builtin "object.__new__"),some (.bool true)].toArray⟩
noncomputable def aoz:Obj:=⟨.type "tuple",none,.seq [.int 0 490].toArray 0,#[]⟩
def aoA:Obj:=cq "__init__" "Context.__init__" 491 136 4 223 498
def aoB:Obj:=fo (mt 23 0) "Context.__init__" (.ref 222) "gateloom.store" 410 228
def oA (P:aE):Obj:=⟨.type "dict",none,.dict [en P "__module__" 485 (.str "gateloom.store" 410),en P "__firstlineno__" 489 (.int 134 488),en P "__init__" 500 (.ref 229),en P "call" 509 (.ref 236),en P "next_random" 517 (.ref 243),en P "time_vec" 525 (.ref 250),en P "__static_attributes__" 529 (.ref 251),en P "__dict__" 531 (.ref 254),en P "__weakref__" 533 (.ref 255),en P "__doc__" 534 (.none)].toArray 4,#[]⟩
noncomputable def aoC:Obj:=⟨.type "type",none,.cls {name:="Context",bases:=[.type "object"],mro:=[.ref 253,.type "object"],ns:=252,qualname:="Context",hasDict:=true,slotNames:=[],subclasses:=[.ref 869],abstract:=false,collection:=none,hasDel:=false},[none,none,some (.str "Context" 478),some (.str "Context" 486),some (.builtin "object.__new__"),some (.bool true)].toArray⟩
def aoI:Obj:=cq "children" "children" 1072 534 1 634 1077
def aoJ:Obj:=fo (st 83) "children" (.none) "gateloom.walks" 1070 639
def aoN:Obj:=cq "base_entry" "base_entry" 1495 895 2 935 1502
def aoO:Obj:=fo (st 126) "base_entry" (.none) "gateloom.elabexpr" 1473 940
def aoP:Obj:=cq "select_width" "select_width" 1505 905 2 942 1510
def aoQ:Obj:=fo (st 127) "select_width" (.none) "gateloom.elabexpr" 1473 947
def aoR:Obj:=cq "select_where" "select_where" 1513 911 3 949 1528
def aoS:Obj:=fo (st 128) "select_where" (.none) "gateloom.elabexpr" 1473 954
def aoT:Obj:=cq "named_type" "named_type" 1531 933 2 956 1538
def aoU:Obj:=fo (st 129) "named_type" (.none) "gateloom.elabexpr" 1473 961
def aoV:Obj:=cq "named_value" "named_value" 1541 946 2 963 1551
def aoW:Obj:=fo (st 130) "named_value" (.none) "gateloom.elabexpr" 1473 968
def aok:Obj:=cq "flat_parts" "flat_parts" 1754 1146 1 1096 1761
def aol:Obj:=fo (st 151) "flat_parts" (.none) "gateloom.elablv" 1752 1101
def aom:Obj:=cq "check_entry" "check_entry" 1764 1156 4 1103 1772
def aon:Obj:=fo (st 152) "check_entry" (.none) "gateloom.elablv" 1752 1108
def aoo:Obj:=cq "net_kinds" "net_kinds" 1832 1217 0 1138 1835
def aop:Obj:=fo (st 158) "net_kinds" (.none) "gateloom.design" 1830 1143
def aoq (P:aE):Obj:=⟨.type "dict",none,.dict [en P "__module__" 1845 (.str "gateloom.design" 1830),en P "__firstlineno__" 1849 (.int 1219 1848),en P "__init__" 1863 (.ref 1158),en P "is_net" 1870 (.ref 1165),en P "is_memory" 1877 (.ref 1172),en P "words" 1884 (.ref 1179),en P "offset" 1893 (.ref 1186),en P "place" 1902 (.ref 1193),en P "__static_attributes__" 1915 (.ref 1194),en P "__dict__" 1917 (.ref 1197),en P "__weakref__" 1919 (.ref 1198),en P "__doc__" 1920 (.none)].toArray 4,#[]⟩
noncomputable def aor:Obj:=⟨.type "type",none,.cls {name:="Signal",bases:=[.type "object"],mro:=[.ref 1196,.type "object"],ns:=1195,qualname:="Signal",hasDict:=true,slotNames:=[],subclasses:=[],abstract:=false,collection:=none,hasDel:=false},[none,none,some (.str "Signal" 1838),some (.str "Signal" 1846),some (.builtin "object.__new__"),some (.bool true)].toArray⟩
def aot (P:aE):Obj:=⟨.type "dict",none,.dict [en P "__module__" 1930 (.str "gateloom.design" 1830),en P "__firstlineno__" 1934 (.int 1265 1933),en P "__init__" 1941 (.ref 1214),en P "add_signal" 1956 (.ref 1221),en P "add_scope" 1964 (.ref 1228),en P "add_routine" 1975 (.ref 1235),en P "add_process" 1986 (.ref 1242),en P "find" 1994 (.ref 1249),en P "routine" 2003 (.ref 1256),en P "__static_attributes__" 2015 (.ref 1257),en P "__dict__" 2017 (.ref 1260),en P "__weakref__" 2019 (.ref 1261),en P "__doc__" 2020 (.none)].toArray 4,#[]⟩
noncomputable def aou:Obj:=⟨.type "type",none,.cls {name:="Design",bases:=[.type "object"],mro:=[.ref 1259,.type "object"],ns:=1258,qualname:="Design",hasDict:=true,slotNames:=[],subclasses:=[],abstract:=false,collection:=none,hasDel:=false},[none,none,some (.str "Design" 1923),some (.str "Design" 1931),some (.builtin "object.__new__"),some (.bool true)].toArray⟩
def aov (P:aE):Obj:=⟨.type "dict",none,.dict [en P "__module__" 2032 (.str "gateloom.scopes" 2023),en P "__firstlineno__" 2036 (.int 1308 2035),en P "__init__" 2047 (.ref 1277),en P "child" 2058 (.ref 1284),en P "declare" 2068 (.ref 1291),en P "module_scope" 2075 (.ref 1298),en P "lookup" 2084 (.ref 1305),en P "lookup_routine" 2094 (.ref 1312),en P "descend" 2105 (.ref 1319),en P "resolve" 2116 (.ref 1326),en P "answers_to" 2124 (.ref 1333),en P "__static_attributes__" 2134 (.ref 1334),en P "__dict__" 2136 (.ref 1337),en P "__weakref__" 2138 (.ref 1338),en P "__doc__" 2139 (.none)].toArray 4,#[]⟩
noncomputable def aow:Obj:=⟨.type "type",none,.cls {name:="Scope",bases:=[.type "object"],mro:=[.ref 1336,.type "object"],ns:=1335,qualname:="Scope",hasDict:=true,slotNames:=[],subclasses:=[],abstract:=false,collection:=none,hasDel:=false},[none,none,some (.str "Scope" 2025),some (.str "Scope" 2033),some (.builtin "object.__new__"),some (.bool true)].toArray⟩
def Yi:Obj:=fo (st 177) "law" (.none) "law_nn0347_01" 2142 1429
def PC (w:bU) (os:gY) (k:Nat) (lw b nw:PM) (n t i j:Nat) (a:Pos) (d e:Nat) (c:Pos):Prop:=(Hn w os k ⟨lw,n,Dz,t⟩ ((bd.drop i).take j) a).map (Fd ((b++nw).map (·.1)))=some (.next,(b++nw).map (λp=>some p.2),d,Dz,e,mQ,c)
def PA (ac lw:PM) (n:Nat):Prop:=(ac.all λp=>qq p.1 n&&(eU lw p.1).isNone)=true
def HS (w:bU) (os:gY) (b:ax) (i:Nat) (lw ac:PM) (n t:Nat) (a:Pos):Prop:=∃s,tO w b (Hd pr) (bd.drop i) a s/\At ⟨lw,n,Dz,t⟩ ac os b.heap.life s
theorem afW {a:Type} (i n:Nat) (l:List a):(l.drop i).take n++l.drop (i+n)=l.drop i:=by rw [<-aa9];exact GO n (l.drop i)
theorem HS.go {w:bU} {os:gY} {e:ax} {i j k n t d f:Nat} {lw ac c nw:PM} {a b:Pos} (H:HS w os e i lw ac n t a) (m:PC w os k lw c nw n t i j a d f b) (h:PA ac lw n):HS w os e (i+j) c (nw++ac) d f b:=by refine Internal.aQ H λs G A=>?_;refine Internal.aQ (apc m h A) λs' r g=>?_;exact ⟨s',tO.step (l:=(bd.drop i).take j) (rest:=bd.drop (i+j)) ((afW i j bd).symm▸G) r,g⟩
def ST (k:Nat) (lw c nw ac f:aE->PM) (n t i j:Nat) (a:Pos) (d e:Nat) (b:Pos):Prop:=∀(w:bU) (os:gY),PC w os k (lw w.params) (c w.params) (nw w.params) n t i j a d e b/\PA (ac w.params) (lw w.params) n/\f w.params=nw w.params++ac w.params
theorem fa {k:Nat} {lw b nw ac g:aE->PM} {n t i j:Nat} {a:Pos} {d f:Nat} {c:Pos} (h:∀(w:bU) (os:gY),(Hn w os k ⟨lw w.params,n,Dz,t⟩ ((bd.drop i).take j) a).map (Fd (((b w.params)++(nw w.params)).map (·.1)))=some (.next,((b w.params)++(nw w.params)).map (λp=>some p.2),d,Dz,f,mQ,c)) (h':∀P:aE,((ac P).all λp=>qq p.1 n&&(eU (lw P) p.1).isNone)=true) (e:∀P:aE,g P=nw P++ac P):ST k lw b nw ac g n t i j a d f c:=λw os=>⟨h w os,h' w.params,e w.params⟩
theorem HS.st {w:bU} {os:gY} {e:ax} {k n t i j d f:Nat} {lw c nw ac g:aE->PM} {a b:Pos} (h:ST k lw c nw ac g n t i j a d f b) (H:HS w os e i (lw w.params) (ac w.params) n t a):HS w os e (i+j) (c w.params) (g w.params) d f b:=by rw [(h w os).2.2];exact H.go (h w os).1 (h w os).2.1
noncomputable def Sl (_:aE) (_:ah):List DictEntry:=[]
noncomputable def Zl:List (Nat×Nat×Nat):=[]
def Bv (P:aE):PM:=low P [] (.str "__main__" 164) (Sl P (.ref 600)) 9 Zl []
def Sm (P:aE) (v:ah):List DictEntry:=Sl P v++[en P "_wall" 193 (.ref 21)]
def Zm:List (Nat×Nat×Nat):=Zl++[(1,0,20)]
def Wx (P:aE):PM:=low P ([]) (.str "gateloom.errors" 194) (Sm P (.ref 600)) 10 Zm []
noncomputable def XH (P:aE):PM:=[]
noncomputable def Hr (_:aE):PM:=[]
noncomputable def Ht (P:aE):PM:=XH P++Hr P
theorem FH:ST 39 Bv Wx XH Hr Ht 15 187 0 2 q0 22 196 ⟨4,0,4,8⟩:=fa (λ_ _=>by kernel_rfl) (λ_=>by kernel_rfl) λ_=>rfl
def SO (P:aE) (v:ah):List DictEntry:=Sm P v++[en P "GateloomError" 231 (.ref 39)]
def Zy:List (Nat×Nat×Nat):=Zm++[(5,0,27)]
def fl (P:aE):List DictEntry:=[en P "type.__subclasses__.Exception.0" 228 (.int 39 0),en P "type.__subclasses__.Exception.n" 229 (.int 1 0)]
noncomputable def atd:Obj:=⟨.type "type",none,.cls {name:="GateloomError",bases:=[.type "Exception"],mro:=[.ref 39,.type "Exception",.type "BaseException",.type "object"],ns:=38,qualname:="GateloomError",hasDict:=true,slotNames:=[],subclasses:=[],abstract:=false,collection:=none,hasDel:=false},[some (.ref 22),none,some (.str "GateloomError" 196),some (.str "GateloomError" 204),some (.builtin "Exception.__new__"),some (.bool true)].toArray⟩
def WL (P:aE):PM:=low P (fl P) (.str "gateloom.errors" 194) (SO P (.ref 600)) 11 Zy [(39,atd),(38,Mj P)]
def XZ (P:aE):PM:=[(29,o29),(35,o35),(36,Fb)]
def HE (P:aE):PM:=XZ P++Ht P
theorem asa:ST 241 Wx WL XZ Ht HE 22 196 2 1 ⟨4,0,4,8⟩ 43 232 ⟨5,0,10,28⟩:=fa (λ_ _=>by kernel_rfl) (λ_=>by kernel_rfl) λ_=>rfl
def AA (P:aE) (v:ah):List DictEntry:=SO P v++[en P "DesignError" 247 (.ref 52)]
def ZK:List (Nat×Nat×Nat):=Zy++[(11,0,48)]
noncomputable def ate:Obj:=⟨.type "type",none,.cls {name:="GateloomError",bases:=[.type "Exception"],mro:=[.ref 39,.type "Exception",.type "BaseException",.type "object"],ns:=38,qualname:="GateloomError",hasDict:=true,slotNames:=[],subclasses:=[.ref 52],abstract:=false,collection:=none,hasDel:=false},[some (.ref 22),none,some (.str "GateloomError" 196),some (.str "GateloomError" 204),some (.builtin "Exception.__new__"),some (.bool true)].toArray⟩
def WY (P:aE):PM:=low P (fl P) (.str "gateloom.errors" 194) (AA P (.ref 600)) 12 ZK [(39,ate),(38,Mj P)]
def yW (P:aE):PM:=[(51,o51 P),(52,o52)]
def HP (P:aE):PM:=yW P++HE P
theorem asp:ST 214 WL WY yW HE HP 43 232 3 1 ⟨5,0,10,28⟩ 55 248 ⟨11,0,12,8⟩:=fa (λ_ _=>by kernel_rfl) (λ_=>by kernel_rfl) λ_=>rfl
def S4 (P:aE) (v:ah):List DictEntry:=AA P v++[en P "LimitReached" 263 (.ref 64)]
def ZL:List (Nat×Nat×Nat):=ZK++[(13,0,60)]
def WZ (P:aE):PM:=low P (fl P) (.str "gateloom.errors" 194) (S4 P (.ref 600)) 13 ZL []
def Yc (P:aE):PM:=[(39,o39),(38,Mj P)]
def HQ (P:aE):PM:=Yc P++HP P
theorem asr:ST 214 WY WZ Yc HP HQ 55 248 4 1 ⟨11,0,12,8⟩ 67 264 ⟨13,0,14,8⟩:=fa (λ_ _=>by kernel_rfl) (λ_=>by kernel_rfl) λ_=>rfl
def JP:GL:=nl [("mask",16,73,272),("vec",18,81,283),("zeros",21,88,290),("all_x",23,95,298),("all_z",26,102,305),("from_int",28,109,313),("is_known",30,116,320),("to_int",32,123,331),("code",39,130,339)]
def yf (P:aE) (v:ah):List DictEntry:=S4 P v++gm P JP
def ZM:List (Nat×Nat×Nat):=ZL++tm JP
def W0 (P:aE):PM:=low P (fl P) (.str "gateloom.vec" 264) (yf P (.ref 600)) 22 ZM []
def Yd (P:aE):PM:=kp JP "gateloom.vec" 264 6 [(0,266,1),(3,291,1),(4,299,1),(5,306,2),(6,314,1),(7,321,2),(8,332,2)]++[(74,o74),(80,o80),(81,o81)]
def HR (P:aE):PM:=Yd P++HQ P
theorem ass:ST 283 WZ W0 Yd HQ HR 67 264 5 10 ⟨13,0,14,8⟩ 131 340 ⟨39,0,40,48⟩:=fa (λ_ _=>by kernel_rfl) (λ_=>by kernel_rfl) λ_=>rfl
def JQ:GL:=nl [("slice_vec",41,137,355),("put_slice",52,144,371),("concat",63,151,382),("extend",72,158,395),("z_to_x",82,165,402),("truth",84,172,409)]
def yg (P:aE) (v:ah):List DictEntry:=yf P v++gm P JQ
def ZN:List (Nat×Nat×Nat):=ZM++tm JQ
def W7 (P:aE):PM:=low P (fl P) (.str "gateloom.store" 410) (yg P (.ref 600)) 28 ZN []
def Ye (P:aE):PM:=kp JQ "gateloom.vec" 264 15 [(0,340,3),(1,356,3),(3,383,3)]
def HT (P:aE):PM:=Ye P++HR P
theorem asu:ST 212 W0 W7 Ye HR HT 131 340 15 7 ⟨39,0,40,48⟩ 173 412 ⟨90,0,90,8⟩:=fa (λ_ _=>by kernel_rfl) (λ_=>by kernel_rfl) λ_=>rfl
def AB (P:aE) (v:ah):List DictEntry:=yg P v++[en P "Store" 477 (.ref 210)]
def ZO:List (Nat×Nat×Nat):=ZN++[(91,0,178)]
def W8 (P:aE):PM:=low P (fl P) (.str "gateloom.store" 410) (AB P (.ref 600)) 29 ZO []
def Yf (P:aE):PM:=km "__init__" "Store.__init__" "gateloom.store" 410 22 0 424 93 2 180 429++km "get" "Store.get" "gateloom.store" 410 22 1 432 99 2 187 439++km "word" "Store.word" "gateloom.store" 410 22 2 442 108 3 194 450++km "set_bits" "Store.set_bits" "gateloom.store" 410 22 3 453 116 5 201 463++[(209,aox P),(210,aoy)]
def HU (P:aE):PM:=Yf P++HT P
theorem asv:ST 332 W7 W8 Yf HT HU 173 412 22 1 ⟨90,0,90,8⟩ 215 478 ⟨91,0,133,19⟩:=fa (λ_ _=>by kernel_rfl) (λ_=>by kernel_rfl) λ_=>rfl
def S5 (P:aE) (v:ah):List DictEntry:=AB P v++[en P "Context" 536 (.ref 253)]
def ZP:List (Nat×Nat×Nat):=ZO++[(134,0,220)]
noncomputable def qe:Obj:=⟨.type "type",none,.cls {name:="Context",bases:=[.type "object"],mro:=[.ref 253,.type "object"],ns:=252,qualname:="Context",hasDict:=true,slotNames:=[],subclasses:=[],abstract:=false,collection:=none,hasDel:=false},[none,none,some (.str "Context" 478),some (.str "Context" 486),some (.builtin "object.__new__"),some (.bool true)].toArray⟩
def W9 (P:aE):PM:=low P (fl P) (.str "gateloom.store" 410) (S5 P (.ref 600)) 30 ZP [(253,qe),(252,oA P)]
def Yg (P:aE):PM:=[(222,aoz),(228,aoA),(229,aoB)]
def HV (P:aE):PM:=Yg P++HU P
theorem asw:ST 326 W8 W9 Yg HU HV 215 478 23 1 ⟨91,0,133,19⟩ 258 537 ⟨134,0,152,16⟩:=fa (λ_ _=>by kernel_rfl) (λ_=>by kernel_rfl) λ_=>rfl
def JR:GL:=nl [("add",154,264,546),("sub",158,271,554),("mul",162,278,562),("neg",166,285,569),("quotient",170,292,578),("div",175,299,589),("mod",181,306,600),("raise_whole",187,313,613),("power",198,320,626)]
def S6 (P:aE) (v:ah):List DictEntry:=S5 P v++gm P JR
def ZQ:List (Nat×Nat×Nat):=ZP++tm JR
def Xb (P:aE):PM:=low P (fl P) (.str "gateloom.vecarith" 537) (S6 P (.ref 600)) 39 ZQ [(253,qe),(252,oA P)]
def Yh (P:aE):PM:=kp JR "gateloom.vecarith" 537 25 [(0,539,2)]
def HW (P:aE):PM:=Yh P++HV P
theorem asx:ST 296 W9 Xb Yh HV HW 258 537 24 10 ⟨134,0,152,16⟩ 321 627 ⟨198,0,212,19⟩:=fa (λ_ _=>by kernel_rfl) (λ_=>by kernel_rfl) λ_=>rfl
def R7:GL:=nl [("shift_left",213,327,636),("shift_right",221,334,645),("shift_arith",228,341,660),("ordered",238,348,671),("less",246,355,681),("less_equal",251,362,691),("greater",256,369,700),("greater_equal",258,376,709),("one_bit",261,383,718)]
def Sn (P:aE) (v:ah):List DictEntry:=S6 P v++gm P R7
def Zn:List (Nat×Nat×Nat):=ZQ++tm R7
def Wy (P:aE):PM:=low P (fl P) (.str "gateloom.vecops" 710) (Sn P (.ref 600)) 48 Zn [(253,qe),(252,oA P)]
noncomputable def XI (P:aE):PM:=[]
def Hu (P:aE):PM:=XI P++HW P
theorem arZ:ST 298 Xb Wy XI HW Hu 321 627 34 10 ⟨198,0,212,19⟩ 384 719 ⟨261,0,262,29⟩:=fa (λ_ _=>by kernel_rfl) (λ_=>by kernel_rfl) λ_=>rfl
def R8:GL:=nl [("bit_not",263,390,728),("bit_and",266,397,742),("bit_or",271,404,757),("bit_xor",277,411,766),("bit_xnor",280,418,774),("reduce_and",282,425,784),("reduce_nand",287,432,791),("reduce_or",289,439,798),("reduce_nor",291,446,805)]
def So (P:aE) (v:ah):List DictEntry:=Sn P v++gm P R8
def Zo:List (Nat×Nat×Nat):=Zn++tm R8
def Wz (P:aE):PM:=low P (fl P) (.str "gateloom.vecops" 710) (So P (.ref 600)) 57 Zo [(253,qe),(252,oA P)]
noncomputable def XJ (P:aE):PM:=[]
def Hv (P:aE):PM:=XJ P++Hu P
theorem ar0:ST 286 Wy Wz XJ Hu Hv 384 719 44 9 ⟨261,0,262,29⟩ 447 806 ⟨291,0,292,32⟩:=fa (λ_ _=>by kernel_rfl) (λ_=>by kernel_rfl) λ_=>rfl
def R9:GL:=nl [("reduce_xor",293,453,814),("reduce_xnor",302,460,821),("logic_not",304,467,828),("logic_and",306,474,836),("logic_or",308,481,844),("equal",310,488,853),("not_equal",315,495,861),("case_equal",317,502,869),("case_not_equal",319,509,877)]
def Sz (P:aE) (v:ah):List DictEntry:=So P v++gm P R9
def Zp:List (Nat×Nat×Nat):=Zo++tm R9
def WA (P:aE):PM:=low P (fl P) (.str "gateloom.vecops" 710) (Sz P (.ref 600)) 66 Zp [(253,qe),(252,oA P)]
noncomputable def XK (P:aE):PM:=[]
def Hw (P:aE):PM:=XK P++Hv P
theorem ar1:ST 271 Wz WA XK Hv Hw 447 806 53 9 ⟨291,0,292,32⟩ 510 878 ⟨319,0,320,38⟩:=fa (λ_ _=>by kernel_rfl) (λ_=>by kernel_rfl) λ_=>rfl
def JC:GL:=nl [("matches",321,516,888),("choose",329,523,901),("unary",340,530,911),("arithmetic",360,537,921),("comparison",378,544,931),("bitwise",396,551,940),("binary",410,558,951),("whole_of",419,565,960),("memory_word",421,572,970)]
def SD (P:aE) (v:ah):List DictEntry:=Sz P v++gm P JC
def Zq:List (Nat×Nat×Nat):=Zp++tm JC
def WB (P:aE):PM:=low P (fl P) (.str "gateloom.evaluate" 902) (SD P (.ref 600)) 75 Zq [(253,qe),(252,oA P)]
def XM (P:aE):PM:=kp JC "gateloom.evaluate" 902 63 [(3,912,4),(6,941,4),(7,952,3)]
def Hx (P:aE):PM:=XM P++Hw P
theorem ar3:ST 299 WA WB XM Hw Hx 510 878 62 10 ⟨319,0,320,38⟩ 573 971 ⟨421,0,428,38⟩:=fa (λ_ _=>by kernel_rfl) (λ_=>by kernel_rfl) λ_=>rfl
def Sf:GL:=nl [("picked",429,579,980),("conditional",435,586,990),("bits_needed",443,593,998)]
def JD:GL:=nl [("system_value_evaluate",448,600,1010),("evaluate",462,605,1016),("locate",493,612,1025),("holder_width",500,619,1033),("resolve_target",504,626,1052)]
def SG (P:aE) (v:ah):List DictEntry:=SD P v++(gm P Sf++[en P "system_value" 1009 v]++gm P JD)
def Zr:List (Nat×Nat×Nat):=Zq++(tm Sf++tm JD)
def WC (P:aE):PM:=low P (fl P) (.str "gateloom.evaluate" 902) (SG P (.ref 600)) 84 Zr [(253,qe),(252,oA P)]
def XN (P:aE):PM:=kp JD "gateloom.evaluate" 902 76 [(1,1011,102),(2,1017,2),(3,1026,2),(4,1034,2)]
def Hy (P:aE):PM:=XN P++Hx P
theorem ar4:ST 266 WB WC XN Hx Hy 573 971 72 9 ⟨421,0,428,38⟩ 627 1053 ⟨504,0,522,15⟩:=fa (λ_ _=>by kernel_rfl) (λ_=>by kernel_rfl) λ_=>rfl
def JE:GL:=nl [("store_rows",523,633,1069),("children",534,640,1079),("subexpressions",553,647,1090),("expr_reads",562,654,1099),("expr_calls",568,661,1108),("target_indexes",574,668,1117),("target_writes",582,675,1126),("stmt_parts",588,680,1132),("substatements",606,687,1143)]
def SH (P:aE) (v:ah):List DictEntry:=SG P v++gm P JE
def Zs:List (Nat×Nat×Nat):=Zr++tm JE
def WE (P:aE):PM:=low P (fl P) (.str "gateloom.walks" 1070) (SH P (.ref 600)) 93 Zs [(253,qe),(252,oA P)]
def XP (P:aE):PM:=kp JE "gateloom.evaluate" 902 81 [(0,1053,3)]++[(639,aoI),(640,aoJ)]
def Hz (P:aE):PM:=XP P++Hy P
theorem ar5:ST 295 WC WE XP Hy Hz 627 1053 81 10 ⟨504,0,522,15⟩ 688 1144 ⟨606,0,616,16⟩:=fa (λ_ _=>by kernel_rfl) (λ_=>by kernel_rfl) λ_=>rfl
def Sh:GL:=nl [("stmt_targets",617,692,1149),("stmt_exprs",623,699,1161),("stmt_reads",648,706,1172),("stmt_writes",655,713,1183),("stmt_calls",662,720,1194)]
def JF:GL:=nl [("last_select",673,727,1207),("is_memory",678,734,1215),("shape",680,741,1225)]
def SI (P:aE) (v:ah):List DictEntry:=SH P v++(gm P Sh++[en P "MAX_WIDTH" 1198 (.int 65536 1197)]++gm P JF)
def Zt:List (Nat×Nat×Nat):=Zs++(tm Sh++tm JF)
def WG (P:aE):PM:=low P (fl P) (.str "gateloom.elabparts" 1195) (SI P (.ref 600)) 102 Zt [(253,qe),(252,oA P)]
def XQ (P:aE):PM:=kp JF "gateloom.elabparts" 1195 98 [(0,1199,1),(1,1208,2),(2,1216,3)]
def HA (P:aE):PM:=XQ P++Hz P
theorem ar6:ST 271 WE WG XQ Hz HA 688 1144 91 10 ⟨606,0,616,16⟩ 742 1226 ⟨680,0,692,40⟩:=fa (λ_ _=>by kernel_rfl) (λ_=>by kernel_rfl) λ_=>rfl
def JG:GL:=nl [("read_entry",693,748,1235),("folds",704,755,1242),("folded",708,762,1250),("checked_width",715,769,1258),("selected",721,776,1267),("text_vec",725,783,1276),("inner_join",730,790,1283),("is_context_operator",732,797,1290),("is_shift",734,804,1297)]
def SJ (P:aE) (v:ah):List DictEntry:=SI P v++gm P JG
def Zu:List (Nat×Nat×Nat):=Zt++tm JG
def WH (P:aE):PM:=low P (fl P) (.str "gateloom.elabparts" 1195) (SJ P (.ref 600)) 111 Zu [(253,qe),(252,oA P)]
def XU (P:aE):PM:=kp JG "gateloom.elabparts" 1195 101 [(0,1226,3),(1,1236,1),(2,1243,1),(3,1251,2),(7,1284,1)]
def HB (P:aE):PM:=XU P++HA P
theorem ar7:ST 271 WG WH XU HA HB 742 1226 101 9 ⟨680,0,692,40⟩ 805 1298 ⟨734,0,735,49⟩:=fa (λ_ _=>by kernel_rfl) (λ_=>by kernel_rfl) λ_=>rfl
def JH:GL:=nl [("widen",736,811,1306),("number_value",740,818,1317),("is_constant",744,825,1330)]
def SM (P:aE) (v:ah):List DictEntry:=SJ P v++(gm P JH++[en P "DEPTH_LIMIT" 1334 (.int 24 1333)])
def Zv:List (Nat×Nat×Nat):=Zu++tm JH
def WJ (P:aE):PM:=low P (fl P) (.str "gateloom.funcs" 1331) (SM P (.ref 600)) 115 Zv [(253,qe),(252,oA P)]
def XW (P:aE):PM:=kp JH "gateloom.elabparts" 1195 110 [(0,1298,3),(1,1307,3)]
def HC (P:aE):PM:=XW P++HB P
theorem ar8:ST 118 WH WJ XW HB HC 805 1298 110 5 ⟨734,0,735,49⟩ 826 1335 ⟨762,0,762,11⟩:=fa (λ_ _=>by kernel_rfl) (λ_=>by kernel_rfl) λ_=>rfl
def SN (P:aE) (v:ah):List DictEntry:=SM P v++[en P "FunctionContext" 1401 (.ref 869)]
def Zx:List (Nat×Nat×Nat):=Zv++[(763,0,831)]
def WK (P:aE):PM:=low P (fl P) (.str "gateloom.funcs" 1331) (SN P (.ref 600)) 116 Zx []
def XY (P:aE):PM:=[(253,aoC),(252,oA P)]
def HD (P:aE):PM:=XY P++HC P
theorem ar9:ST 383 WJ WK XY HC HD 826 1335 115 1 ⟨762,0,762,11⟩ 872 1402 ⟨763,0,805,44⟩:=fa (λ_ _=>by kernel_rfl) (λ_=>by kernel_rfl) λ_=>rfl
def JI:GL:=nl [("run_block",806,878,1411),("run_set",814,885,1421),("run_case",821,892,1434),("run_while",832,899,1445),("run_repeat",840,906,1455),("run_for",851,913,1463),("run_statement",854,920,1472),("path_names",881,927,1485),("entry_of",888,934,1494)]
def SP (P:aE) (v:ah):List DictEntry:=SN P v++gm P JI
def Zz:List (Nat×Nat×Nat):=Zx++tm JI
def WM (P:aE):PM:=low P (fl P) (.str "gateloom.elabexpr" 1473) (SP P (.ref 600)) 125 Zz []
def X0 (P:aE):PM:=kp JI "gateloom.elabexpr" 1473 117 [(8,1486,2)]
def HF (P:aE):PM:=X0 P++HD P
theorem asb:ST 299 WK WM X0 HD HF 872 1402 116 10 ⟨763,0,805,44⟩ 935 1495 ⟨888,0,894,16⟩:=fa (λ_ _=>by kernel_rfl) (λ_=>by kernel_rfl) λ_=>rfl
def SQ (P:aE) (v:ah):List DictEntry:=SP P v++[en P "base_entry" 1504 (.ref 941),en P "select_width" 1512 (.ref 948),en P "select_where" 1530 (.ref 955),en P "named_type" 1540 (.ref 962),en P "named_value" 1553 (.ref 969),en P "function_of" 1563 (.ref 976),en P "call_value" 1575 (.ref 983),en P "system_type" 1585 (.ref 990)]
def ZA:List (Nat×Nat×Nat):=Zz++[(895,0,940),(905,0,947),(911,0,954),(933,0,961),(946,0,968),(965,0,975),(977,0,982),(985,0,989),(1003,0,996)]
def WO (P:aE):PM:=low P (fl P) (.str "gateloom.elabexpr" 1473) (SQ P (.ref 997)) 133 ZA []
def X1 (P:aE):PM:=[(940,aoN),(941,aoO),(947,aoP),(948,aoQ),(954,aoR),(955,aoS),(961,aoT),(962,aoU),(968,aoV),(969,aoW)]
def HG (P:aE):PM:=X1 P++HF P
theorem asd:ST 301 WM WO X1 HF HG 935 1495 126 9 ⟨888,0,894,16⟩ 998 1597 ⟨1003,0,1010,52⟩:=fa (λ_ _=>by kernel_rfl) (λ_=>by kernel_rfl) λ_=>rfl
def JK:GL:=nl [("joined_parts",1012,1004,1607),("copies",1022,1011,1616),("joined_width",1027,1018,1626),("joined_value",1034,1025,1637),("both_types",1042,1032,1648),("expr_type",1046,1039,1658),("unary_value",1074,1046,1669),("binary_value",1081,1053,1685)]
def SR (P:aE) (v:ah):List DictEntry:=SQ P v++([en P "system_value_elabexpr" 1597 (.ref 997)]++gm P JK)
def ZC:List (Nat×Nat×Nat):=ZA++tm JK
def WQ (P:aE):PM:=low P (fl P) (.str "gateloom.elabexpr" 1473) (SR P (.ref 997)) 142 ZC []
def X3 (P:aE):PM:=kp JK "gateloom.elabexpr" 1473 136 [(4,1638,3),(5,1649,2),(7,1670,4)]
def HH (P:aE):PM:=X3 P++HG P
theorem ase:ST 275 WO WQ X3 HG HH 998 1597 135 9 ⟨1003,0,1010,52⟩ 1054 1686 ⟨1081,0,1099,69⟩:=fa (λ_ _=>by kernel_rfl) (λ_=>by kernel_rfl) λ_=>rfl
def JL:GL:=nl [("build",1100,1060,1699),("self_determined",1123,1067,1709),("sized",1126,1074,1720),("constant_vec",1129,1081,1730),("constant",1136,1088,1740),("whole",1139,1095,1751),("flat_parts",1146,1102,1763),("check_entry",1156,1109,1774)]
def SU (P:aE) (v:ah):List DictEntry:=SR P v++gm P JL
def ZD:List (Nat×Nat×Nat):=ZC++tm JL
def WR (P:aE):PM:=low P (fl P) (.str "gateloom.elablv" 1752) (SU P (.ref 997)) 150 ZD []
def X4 (P:aE):PM:=kp JL "gateloom.elabexpr" 1473 144 [(0,1686,4),(1,1700,2),(3,1721,3),(4,1731,2),(5,1741,2)]++[(1101,aok),(1102,aol),(1108,aom),(1109,aon)]
def HI (P:aE):PM:=X4 P++HH P
theorem asf:ST 273 WQ WR X4 HH HI 1054 1686 144 9 ⟨1081,0,1099,69⟩ 1110 1775 ⟨1156,0,1167,55⟩:=fa (λ_ _=>by kernel_rfl) (λ_=>by kernel_rfl) λ_=>rfl
def JM:GL:=nl [("target_part",1168,1116,1789),("target",1191,1123,1802),("moved",1201,1130,1810),("slice_target",1205,1137,1829),("net_kinds",1217,1144,1837)]
def SV (P:aE) (v:ah):List DictEntry:=SU P v++gm P JM
def ZE:List (Nat×Nat×Nat):=ZD++tm JM
def WS (P:aE):PM:=low P (fl P) (.str "gateloom.design" 1830) (SV P (.ref 997)) 155 ZE []
def X5 (P:aE):PM:=kp JM "gateloom.elablv" 1752 153 [(0,1775,3),(1,1790,3),(2,1803,2),(3,1811,3)]++[(1143,aoo),(1144,aop)]
def HJ (P:aE):PM:=X5 P++HI P
theorem ash:ST 181 WR WS X5 HI HJ 1110 1775 153 6 ⟨1156,0,1167,55⟩ 1145 1838 ⟨1217,0,1218,89⟩:=fa (λ_ _=>by kernel_rfl) (λ_=>by kernel_rfl) λ_=>rfl
def SW (P:aE) (v:ah):List DictEntry:=SV P v++[en P "Signal" 1922 (.ref 1196)]
def ZF:List (Nat×Nat×Nat):=ZE++[(1219,0,1150)]
def WT (P:aE):PM:=low P (fl P) (.str "gateloom.design" 1830) (SW P (.ref 997)) 156 ZF []
def X6 (P:aE):PM:=km "__init__" "Signal.__init__" "gateloom.design" 1830 159 0 1850 1221 8 1152 1861++km "is_net" "Signal.is_net" "gateloom.design" 1830 159 1 1864 1235 1 1159 1868++km "is_memory" "Signal.is_memory" "gateloom.design" 1830 159 2 1871 1238 1 1166 1875++km "words" "Signal.words" "gateloom.design" 1830 159 3 1878 1241 1 1173 1882++km "place" "Signal.place" "gateloom.design" 1830 159 5 1894 1255 2 1187 1900++[(1195,aoq P),(1196,aor)]
def HK (P:aE):PM:=X6 P++HJ P
theorem asi:ST 399 WS WT X6 HJ HK 1145 1838 159 1 ⟨1217,0,1218,89⟩ 1201 1923 ⟨1219,0,1264,20⟩:=fa (λ_ _=>by kernel_rfl) (λ_=>by kernel_rfl) λ_=>rfl
def SX (P:aE) (v:ah):List DictEntry:=SW P v++[en P "Design" 2022 (.ref 1259)]
def ZG:List (Nat×Nat×Nat):=ZF++[(1265,0,1206)]
def WU (P:aE):PM:=low P (fl P) (.str "gateloom.design" 1830) (SX P (.ref 997)) 157 ZG []
def X7 (P:aE):PM:=km "__init__" "Design.__init__" "gateloom.design" 1830 160 0 1935 1267 1 1208 1939++km "add_signal" "Design.add_signal" "gateloom.design" 1830 160 1 1942 1280 8 1215 1954++km "add_scope" "Design.add_scope" "gateloom.design" 1830 160 2 1957 1287 2 1222 1962++[(1258,aot P),(1259,aou)]
def HL (P:aE):PM:=X7 P++HK P
theorem asj:ST 438 WT WU X7 HK HL 1201 1923 160 1 ⟨1219,0,1264,20⟩ 1264 2023 ⟨1265,0,1306,22⟩:=fa (λ_ _=>by kernel_rfl) (λ_=>by kernel_rfl) λ_=>rfl
def SY (P:aE) (v:ah):List DictEntry:=SX P v++[]
def ZH:List (Nat×Nat×Nat):=ZG++[]
def WV (P:aE):PM:=low P (fl P) (.str "gateloom.scopes" 2023) (SY P (.ref 997)) 157 ZH []
noncomputable def X8 (P:aE):PM:=[]
def HM (P:aE):PM:=X8 P++HL P
theorem asl:ST 10 WU WV X8 HL HM 1264 2023 161 1 ⟨1265,0,1306,22⟩ 1264 2025 ⟨1307,0,1307,8⟩:=fa (λ_ _=>by kernel_rfl) (λ_=>by kernel_rfl) λ_=>rfl
def S0 (P:aE) (v:ah):List DictEntry:=SY P v++[en P "Scope" 2141 (.ref 1336)]
def ZI:List (Nat×Nat×Nat):=ZH++[(1308,0,1269)]
def WW (P:aE):PM:=low P (fl P) (.str "gateloom.scopes" 2023) (S0 P (.ref 997)) 158 ZI []
def X9 (P:aE):PM:=km "__init__" "Scope.__init__" "gateloom.scopes" 2023 162 0 2037 1310 5 1271 2045++km "declare" "Scope.declare" "gateloom.scopes" 2023 162 2 2059 1329 4 1285 2066++km "lookup" "Scope.lookup" "gateloom.scopes" 2023 162 4 2076 1337 2 1299 2082++[(1335,aov P),(1336,aow)]
def HN (P:aE):PM:=X9 P++HM P
theorem asm:ST 503 WV WW X9 HM HN 1264 2025 162 1 ⟨1307,0,1307,8⟩ 1341 2142 ⟨1308,0,1382,88⟩:=fa (λ_ _=>by kernel_rfl) (λ_=>by kernel_rfl) λ_=>rfl
def JN:GL:=nl [("_law_row",1384,1347,2154),("_law_next",1397,1354,2161),("_law_bits",1399,1361,2173),("_law_made",1407,1368,2183),("_law_const",1414,1375,2190),("_law_at",1416,1382,2201),("_law_world",1419,1387,2207),("_law_index",1455,1394,2218),("_law_word",1465,1401,2238)]
def S1 (P:aE) (v:ah):List DictEntry:=S0 P v++gm P JN
def ZJ:List (Nat×Nat×Nat):=ZI++tm JN
def WX (P:aE):PM:=low P (fl P) (.str "law_nn0347_01" 2142) (S1 P (.ref 997)) 167 ZJ []
def Ya (P:aE):PM:=kp JN "law_nn0347_01" 2142 164 [(0,2144,1),(1,2155,1),(2,2162,2),(3,2174,1),(4,2184,1),(5,2191,4),(6,2202,101),(7,2208,2),(8,2219,3)]
def HO (P:aE):PM:=Ya P++HN P
theorem aso:ST 301 WW WX Ya HN HO 1341 2142 163 10 ⟨1308,0,1382,88⟩ 1402 2239 ⟨1465,0,1473,92⟩:=fa (λ_ _=>by kernel_rfl) (λ_=>by kernel_rfl) λ_=>rfl
def JO:GL:=nl [("_law_select",1474,1406,2244),("_law_targeted",1509,1413,2254),("_law_wholes",1514,1420,2265),("_law_due",1521,1425,2271),("law",1523,1430,2277)]
def aiy (P:aE) (v:ah):List DictEntry:=S1 P v++gm P JO
def asT:List (Nat×Nat×Nat):=ZJ++tm JO
def yL (P:aE):PM:=low P (fl P) (.str "law_nn0347_01" 2142) (aiy P (.ref 997)) 172 asT []
def Yb (P:aE):PM:=kp JO "law_nn0347_01" 2142 173 [(0,2239,103),(1,2245,3),(2,2255,2),(3,2266,101),(4,2272,101)]
def zV (P:aE):PM:=Yb P++HO P
theorem asq:ST 144 WX yL Yb HO zV 1402 2239 173 5 ⟨1465,0,1473,92⟩ 1431 2278 ⟨1523,0,1572,120⟩:=fa (λ_ _=>by kernel_rfl) (λ_=>by kernel_rfl) λ_=>rfl
def KL (P:aE):PM:=yL P++zV P
theorem adT (P:aE):((C5 P).map (·.1)).map (boot_heap P).get?=(C5 P).map (λp=>some p.2):=by kernel_rfl
theorem PW (P:aE):(boot_heap P).objs.size=11:=by kernel_rfl
theorem ap4 (w:bU) (os:gY) (b:ax) (d:b.heap=boot_heap w.params) (p:b.gens=oP []) (n:b.drawn=G0) (ht:b.toks=G1) (q:b.os=os):
 ∃s,tO w b (Hd pr) (bd.drop 0) q0 s/\At ⟨Bv w.params,15,Dz,187⟩ [] os b.heap.life s:=by
 have R:qC ⟨C5 w.params,11,G0,G1⟩ b os:=⟨λa o h=>by rw [d];exact LU (adT w.params) (a,o) (Fh h),by rw [d];exact PW _,n,ht,p,q⟩
 obtain ⟨⟨S,t⟩,e,e'⟩:=gJ.mp (apn w os);simp only [Yj,CD] at e';obtain ⟨e1,e2,l,m,rfl⟩:=e';obtain ⟨v,g,c,f,_,_⟩:=ao6 12 e R;have u:=LU e1;have j:qC ⟨Bv w.params,15,Dz,187⟩ v os:=⟨λa o h=>c.get _ _ (u (a,o) (Fh h)),by rw [c.size,e2],by rw [c.drawn,l],by rw [c.toks,m],c.gens,c.os⟩;obtain ⟨x,g2,k,i,_,_⟩:=Yq 1 (adS w os ⟨Bv w.params,15,Dz,187⟩) j;exact ⟨x,λr N hr=>⟨_,go_top g (piece_block g2 hr)⟩,⟨k,λ_ h=>(nomatch h),i.life.trans f.life⟩⟩
theorem ap5 (w:bU) (os:gY) (a:ax) (b:a.heap=boot_heap w.params) (f:a.gens=oP []) (d:a.drawn=G0) (ht:a.toks=G1) (g:a.os=os):
 ∃s M,topRun rW pr w 11 (some (.ref 6)) M a (Hd pr)=some s/\At ⟨yL w.params,1431,Dz,2278⟩ (zV w.params) os a.heap.life s:=by
 have H0:HS w os a 0 (Bv w.params) (Hr w.params) 15 187 q0:=ap4 w os a b f d ht g;have H:=HS.st asq <| HS.st aso <| HS.st asm <| HS.st asl <| HS.st asj <| HS.st asi <| HS.st ash <| HS.st asf <| HS.st ase <| HS.st asd <| HS.st asb <| HS.st ar9 <| HS.st ar8 <| HS.st ar7 <| HS.st ar6 <| HS.st ar5 <| HS.st ar4 <| HS.st ar3 <| HS.st ar1 <| HS.st ar0 <| HS.st arZ <| HS.st asx <| HS.st asw <| HS.st asv <| HS.st asu <| HS.st ass <| HS.st asr <| HS.st asp <| HS.st asa <| HS.st FH <| H0
 refine Internal.aQ H λs G A=>?_;have e:bd.drop 178=[]:=by kernel_rfl
 rw [e] at G;exact Internal.a8 G.fU λM c=>⟨s,M,c,A⟩
end H.Internal
namespace Internal
open PySem
set_option genInjectivity true in
inductive AV where
 |none | bool (b:Bool) | int (i:Int) | str (s:List Nat) | aw (l:List AV) | ref (r:Nat) | cj (a b c:Int) | gA (l:List AV)
 deriving Inhabited
set_option genCtorIdx false in
inductive aV where
 |lst (l:List AV) | dI (l:List (Int×AV)) | dS (l:List (List Nat×AV)) | ba (c:Nat) (l:List (Nat×AV))
 deriving Inhabited
noncomputable abbrev AH:=List aV
noncomputable abbrev aB:=List (Nat×AV)
set_option genInjectivity true in
inductive aJ (α:Type) where
 |ok (a:α) (O:AH) | dm (r:Nat) (O:AH) | aq
noncomputable def aJ.bind {b c:Type}:aJ b->(b->AH->aJ c)->aJ c
 |.ok a O,f=>f a O
 |.dm r O,_=>.dm r O
 |.aq,_=>.aq
set_option genCtorIdx false in
inductive RS where
 |next (loc:aB) (O:AH) | cont (loc:aB) (O:AH) | ret (v:AV) (O:AH) | dm (r:Nat) (O:AH) | aq
noncomputable def aJ.dp {b:Type}:aJ b->(b->AH->RS)->RS
 |.ok a O,f=>f a O
 |.dm r O,_=>.dm r O
 |.aq,_=>.aq
noncomputable def aJ.dc {b:Type} (o:Option b) (O:AH):aJ b:=match o with | some a=>.ok a O | none=>.aq
noncomputable def lk {a b:Type} [DecidableEq a] (x:a):List (a×b)->Option b
 |[]=>none
 |(y,v)::l=>bif y==x then some v else lk x l
noncomputable def up {a b:Type} [DecidableEq a] (x:a) (v:b):List (a×b)->List (a×b)
 |[]=>[(x,v)]
 |(y,u)::l=>bif y==x then (y,v)::l else (y,u)::up x v l
theorem PO {c d:Type} [DecidableEq c] (y x:c) (a b:d):(bif y==x then a else b)=if y=x then a else b:=by
 by_cases h:y=x
 . subst h;refine aa (beq_self_eq_true ..) (aa (if_pos rfl ..) ?_);rfl
 . refine aa (beq_eq_false_iff_ne.mpr h) (aa (if_neg h) ?_);rfl
theorem eh {a b:Type} [DecidableEq a] (x y:a) (v:b) (l):lk x ((y,v)::l)=if y=x then some v else lk x l:=PO y x _ _
theorem ry {a b:Type} [DecidableEq a] (x):lk x ([]:List (a×b))=none:=rfl
theorem tg {a b:Type} [DecidableEq a] (x y:a) (u v:b) (l:List (a×b)):up x v ((y,u)::l)=if y=x then (y,v)::l else (y,u)::up x v l:=PO y x _ _
theorem FX {a b:Type} [DecidableEq a] (x) (v):up x v ([]:List (a×b))=[(x,v)]:=rfl
noncomputable def pj:List Nat->List Nat->Bool
 |[],r=>(match r with | []=>true | _::_=>false)
 |a::l,r=>(match r with | []=>false | b::r=>a==b&&pj l r)
theorem xZ (a:List Nat):∀b:List Nat,pj a b=decide (a=b):=by
 induction a with
 |nil=>intro b;induction b using cK<;>rfl
 |cons a l c=>
  intro b;induction b using cK with
  |nil=>rfl
  |cons b r=>
   show (a==b&&pj l r)=_;refine bA (c r) ?_;by_cases h:a=b
   . subst h;simp
   . simp [h]
set_option genCtorIdx false in
inductive CE where
 |aq | cn | cb (b:Bool) | ci (i:Int) | cs (s:List Nat) | gi (x:Nat) (i:Int) | v (x:Nat)
 |nil | cons (a b:CE)
 |aw (es:CE) | lst (es:CE) | mU
 |at (e:CE) (a:Nat)
 |sub (e i:CE) | my (e lo hi:CE)
 |aN (op:oS) (a b:CE) | neg (a:CE) | not (a:CE)
 |bo (op:qj) (es:CE)
 |aP (op:lI) (a b:CE) | o9 (op dT:lI) (a b c:CE)
 |dD (c a b:CE)
 |call (f:Nat) (es:CE) | new (c:Nat) (es:CE) | meth (e:CE) (m:Nat) (es:CE) | bi (b:Nat) (es:CE)
 |comp (di:CE) (x:Nat) (it:CE)
 deriving Inhabited
noncomputable def bw (a:CE):CE:=.cons a .nil
noncomputable def bf (a b:CE):CE:=.cons a (.cons b .nil)
noncomputable def bM (a b c:CE):CE:=.cons a (.cons b (.cons c .nil))
noncomputable def jx (a b c d:CE):CE:=.cons a (.cons b (.cons c (.cons d .nil)))
noncomputable def lQ (a b c d e:CE):CE:=.cons a (.cons b (.cons c (.cons d (.cons e .nil))))
noncomputable def xG (a b c d e f:CE):CE:=.cons a (.cons b (.cons c (.cons d (.cons e (.cons f .nil)))))
noncomputable def De (a b c d e f g:CE):CE:=.cons a (.cons b (.cons c (.cons d (.cons e (.cons f (.cons g .nil))))))
noncomputable def Iq (a b c d e f g h:CE):CE:=.cons a (.cons b (.cons c (.cons d (.cons e (.cons f (.cons g (.cons h .nil)))))))
set_option genCtorIdx false in
inductive CS where
 |aq | nil | seq (a b:CS)
 |aK (x:Nat) (e:CE) | mN (x:Nat) (di:CE) (y:Nat) (it:CE) | fC (xs:List Nat) (e:CE)
 |cP (o:CE) (a:Nat) (e:CE) | kR (o i e:CE) | qH (x:Nat) (op:oS) (e:CE)
 |eO (e:CE) | ext (o e:CE)
 |ite (c:CE) (a b:CS) | uU (c:CE) (a:CS) | fV (x:Nat) (it:CE) (a:CS) | lZ (xs:List Nat) (it:CE) (a:CS)
 |ret (e:CE) | cont | BG
 |raise (c:Nat) (es:CE) | w2 (e:CE) (x:Nat) (a:Nat)
 deriving Inhabited
noncomputable def wv (n:Nat):CE:=.v n
noncomputable def ws (n:List Nat):CE:=.cs n
noncomputable def wi (n:Int):CE:=.ci n
noncomputable def bu (a:CS):CS:=.seq a .nil
noncomputable def fF (a b:CS):CS:=.seq a (.seq b .nil)
noncomputable def iq (a b c:CS):CS:=.seq a (.seq b (.seq c .nil))
noncomputable def jq (a b c d:CS):CS:=.seq a (.seq b (.seq c (.seq d .nil)))
noncomputable def oJ (a b c d e:CS):CS:=.seq a (.seq b (.seq c (.seq d (.seq e .nil))))
noncomputable def MP (a b c d e f:CS):CS:=.seq a (.seq b (.seq c (.seq d (.seq e (.seq f .nil)))))
noncomputable def Y8 (a b c d e f g:CS):CS:=.seq a (.seq b (.seq c (.seq d (.seq e (.seq f (.seq g .nil))))))
noncomputable def jG (a b c d e f g h:CS):CS:=.seq a (.seq b (.seq c (.seq d (.seq e (.seq f (.seq g (.seq h .nil)))))))
noncomputable def bQ:Nat:=0
noncomputable def SZ:Nat:=100000
noncomputable def aL {R:Type} (d:R) (O:AH) (r:Nat) (f:List AV->R):R:=match O[r]? with | some (.lst l)=>f l | _=>d
noncomputable def Mt:AV->Option nO
 |.none=>some .none
 |.bool b=>some (.bool b)
 |.int i=>some (.int i)
 |.str s=>some (.str ⟨s.toArray⟩)
 |_=>none
def fs:Nat->AH->AV->Option nO
 |0,_,v=>Mt v
 |n+1,O,v=>match v with
  |.aw l=>(l.mapM (fs n O)).map .tuple
  |.ref r=>aL none O r λl=>(l.mapM (fs n O)).map .list
  |v=>Mt v
def ph (O:AH) (x y:AV):Option Bool:=(fs 8 O x).bind λd=>(fs 8 O y).bind λe=>if fP d&&fP e then some (kM d e) else none
def DB (O:AH) (x y:AV):Option Bool:=match x with
 |.str a=>(match y with | .str b=>some (pj a b) | _=>ph O x y)
 |.int a=>(match y with | .int b=>some (decide (a=b)) | _=>ph O x y)
 |_=>ph O x y
def wA (O:AH) (x:AV) (l:List AV):Option Bool:=(fs 8 O x).bind λd=>(l.mapM (fs 8 O)).bind λes=>if fP d&&es.all fP then some (es.any λy=>kM y d) else none
def inD (l:List (Int×AV)):AV->Option Bool
 |.int k=>some (lk k l).isSome
 |.str _=>if l.isEmpty then some false else none
 |_=>none
def inS (l:List (List Nat×AV)):AV->Option Bool
 |.str k=>some (lk k l).isSome
 |_=>none
def nj (O:AH) (x:AV) (r:Nat):Option Bool:=match O[r]? with
 |some (.lst l)=>wA O x l
 |some (.dI l)=>inD l x
 |some (.dS l)=>inS l x
 |_=>none
def yt (O:AH) (x y:AV):Option Bool:=match y with
 |.aw l=>wA O x l
 |.ref r=>nj O x r
 |_=>none
noncomputable def uA:AV->Bool
 |.none=>true
 |_=>false
noncomputable def aI {R:Type} (d:R) (v:AV) (f:Int->R):R:=match v with | .int i=>f i | _=>d
def cG (op:lI) (x y:AV) (O:AH):Option Bool:=match op with
 |.Eq=>DB O x y
 |.NotEq=>(DB O x y).map (!·)
 |.Lt=>aI none x λa=>aI none y λb=>some (decide (a<b))
 |.LtE=>aI none x λa=>aI none y λb=>some (decide (a<=b))
 |.Gt=>aI none x λa=>aI none y λb=>some (decide (b<a))
 |.GtE=>aI none x λa=>aI none y λb=>some (decide (b<=a))
 |.Is=>match y with | .none=>some (uA x) | _=>none
 |.IsNot=>match y with | .none=>some (!uA x) | _=>none
 |.In=>yt O x y
 |.NotIn=>(yt O x y).map (!·)
noncomputable def rK (a:Int):Bool:=decide (a.natAbs<2^64)
noncomputable def ig (o:aV) (O:AH):aJ AV:=.ok (.ref O.length) (O++[o])
def mu (l:List AV) (O:AH):aJ AV:=if l.length<=SZ then ig (.lst l) O else .aq
noncomputable def aS {R:Type} (d:R) (v:AV) (f:List Nat->R):R:=match v with | .str i=>f i | _=>d
noncomputable def aT {R:Type} (d:R) (v:AV) (f:List AV->R):R:=match v with | .aw i=>f i | _=>d
noncomputable def aR {R:Type} (d:R) (v:AV) (f:Nat->R):R:=match v with | .ref i=>f i | _=>d
noncomputable def aG {R:Type} (d:R) (v:AV) (f:Int->Int->Int->R):R:=match v with | .cj a b c=>f a b c | _=>d
def mM (x y:AV) (f:Int->Int->aJ AV):aJ AV:=aI .aq x λa=>aI .aq y λb=>f a b
noncomputable def a1 (l:List AV) (f:AV->aJ AV):aJ AV:=match l with | [x]=>f x | _=>.aq
noncomputable def a2 (l:List AV) (f:AV->AV->aJ AV):aJ AV:=match l with | [x,y]=>f x y | _=>.aq
def Px (x y:AV) (O:AH):aJ AV:=match x with
 |.int a=>aI .aq y λb=>.ok (.int (a+b)) O
 |.str a=>aS .aq y λb=>if a.length+b.length<=SZ then .ok (.str (a++b)) O else .aq
 |.aw a=>aT .aq y λb=>if a.length+b.length<=SZ then .ok (.aw (a++b)) O else .aq
 |.ref i=>aR .aq y λj=>aL .aq O i λa=>aL .aq O j λb=>mu (a++b) O
 |_=>.aq
def Xn (x y:AV) (O:AH):aJ AV:=aI .aq y λk=>match x with
 |.int a=>if rK k=true then .ok (.int (a*k)) O else .aq
 |.ref i=>aL .aq O i λl=>match l with
  |[v]=>if -(2^63)<=k/\k<=SZ then mu (gX k.toNat v) O else .aq
  |_=>.aq
 |_=>.aq
def dg (op:oS) (x y:AV) (O:AH):aJ AV:=match op with
 |.Add=>Px x y O
 |.Sub=>mM x y λa b=>.ok (.int (a-b)) O
 |.Mult=>Xn x y O
 |.FloorDiv=>mM x y λa b=>if b≠0/\rK b=true then .ok (.int (a.fdiv b)) O else .aq
 |.Mod=>mM x y λa b=>if b=0 then .aq else .ok (.int (a.fmod b)) O
 |.Pow=>mM x y λa n=>if 0<=n/\n<=1000/\rK a=true then .ok (.int (a^n.toNat)) O else .aq
 |.LShift=>mM x y λa n=>if 0<=n/\n<=1000/\rK a=true then .ok (.int (a*2^n.toNat)) O else .aq
 |.RShift=>mM x y λa n=>if 0<=n then .ok (.int (a.fdiv (2^n.toNat))) O else .aq
 |.BitAnd=>mM x y λa b=>.ok (.int (NF a b)) O
 |.BitOr=>mM x y λa b=>.ok (.int (Builtin.bitOr a b)) O
 |.BitXor=>mM x y λa b=>.ok (.int (NG a b)) O
 |_=>.aq
noncomputable def j1 (O:AH):AV->Option Bool
 |.bool b=>some b
 |.int i=>some (decide (i≠0))
 |.none=>some false
 |.ref r=>aL none O r λl=>some (!l.isEmpty)
 |_=>none
noncomputable def uw {a:Type} (l:List a) (i:Int):Option a:=
 if 0<=i then l[i.toNat]? else if -(l.length:Int)<=i then l[(l.length+i).toNat]? else none
def yA (r:Nat) (k:Int) (O:AH):Option AV:=match O[r]? with
 |some (.lst l)=>uw l k
 |some (.dI l)=>lk k l
 |_=>none
def yB (r:Nat) (k:List Nat) (O:AH):Option AV:=match O[r]? with
 |some (.dS l)=>lk k l
 |_=>none
def cW (x i:AV) (O:AH):Option AV:=match x with
 |.aw l=>aI none i λk=>uw l k
 |.str s=>aI none i λk=>if s.length<=SZ then (uw s k).map λc=>.str [c] else none
 |.ref r=>match i with
  |.int k=>yA r k O
  |.str k=>yB r k O
  |_=>none
 |_=>none
def IV (l:List AV) (lo hi:AV) (O:AH):aJ AV:=match lo with
 |.none=>aI .aq hi λb=>if 0<=b then ig (.lst (l.take b.toNat)) O else .aq
 |_=>.aq
def te (x lo hi:AV) (O:AH):aJ AV:=match x with
 |.aw l=>aI .aq lo λa=>match hi with
  |.none=>if 1<=a/\a<=l.length then .ok (.aw (l.drop a.toNat)) O else .aq
  |.int b=>if a=0/\0<=b/\b<l.length then .ok (.aw (l.take b.toNat)) O else .aq
  |_=>.aq
 |.gA l=>IV l lo hi O
 |.ref r=>aL .aq O r λl=>IV l lo hi O
 |_=>.aq
def wQ (r:Nat) (k:Int) (v:AV) (O:AH):Option AH:=match O[r]? with
 |some (.lst l)=>if 0<=k/\k<l.length then some (O.set r (.lst (l.set k.toNat v))) else none
 |some (.dI l)=>if l.length<SZ then some (O.set r (.dI (up k v l))) else none
 |_=>none
def wR (r:Nat) (k:List Nat) (v:AV) (O:AH):Option AH:=match O[r]? with
 |some (.dI l)=>(match l with | []=>some (O.set r (.dS [(k,v)])) | _=>none)
 |some (.dS l)=>if l.length<SZ then some (O.set r (.dS (up k v l))) else none
 |_=>none
def oG (x i v:AV) (O:AH):Option AH:=match x with
 |.ref r=>(match i with | .int k=>wQ r k v O | .str k=>wR r k v O | _=>none)
 |_=>none
noncomputable def aX {R:Type} (d:R) (O:AH) (r:Nat) (f:Nat->List (Nat×AV)->R):R:=match O[r]? with | some (.ba c l)=>f c l | _=>d
def nE (x:AV) (a:Nat) (v:AV) (O:AH):Option AH:=match x with
 |.ref r=>aX none O r λc l=>if c≠bQ/\l.length<SZ then some (O.set r (.ba c (up a v l))) else none
 |_=>none
def dA (x:AV) (a:Nat) (O:AH):Option AV:=match x with
 |.ref r=>aX none O r λc l=>if c=bQ then none else lk a l
 |_=>none
noncomputable def fh (a b c:Int):Bool:=decide (a.natAbs<100000)&&decide (b.natAbs<100000)&&decide (c=1\/c= -1)
noncomputable def ij (a b c:Int):Nat:=(qk a b c).toNat
noncomputable def gH (a c:Int):Nat->List AV
 |0=>[]
 |n+1=>.int a::gH (a+c) c n
def sX (x:AV) (O:AH):Option (List AV):=match x with
 |.aw l=>some l
 |.str s=>some (s.map λc=>.str [c])
 |.cj a b c=>if fh a b c then some (gH a c (ij a b c)) else none
 |.ref r=>aL none O r some
 |_=>none
def fG (x:AV) (i:Nat) (O:AH):Option (Option AV):=(sX x O).map (·[i]?)
def yw:List AV->Option (List Int)
 |[]=>some []
 |x::l=>aI none x λi=>(yw l).map (i::·)
noncomputable def sU (x:Int):List Int->List Int
 |[]=>[x]
 |y::l=>if x<=y then x::y::l else y::sU x l
def mz:List Int->List Int
 |[]=>[]
 |x::l=>sU x (mz l)
namespace B
noncomputable def len:=0
noncomputable def min:=1
noncomputable def max:=2
noncomputable def abs:=3
noncomputable def range:=4
noncomputable def list:=5
noncomputable def tuple:=6
noncomputable def sorted:=7
noncomputable def sum:=8
end B
structure MI where
 append:Nat
 pop:Nat
 reverse:Nat
 get:Nat
def Ws (x:AV) (O:AH):aJ AV:=match x with
 |.aw l=>.ok (.int l.length) O
 |.str s=>if s.length<=SZ then .ok (.int s.length) O else .aq
 |.ref r=>aL .aq O r λl=>.ok (.int l.length) O
 |_=>.aq
def YE (O:AH):List AV->aJ AV
 |[x]=>aI .aq x λb=>if fh 0 b 1 then .ok (.cj 0 b 1) O else .aq
 |[x,y]=>mM x y λa b=>if fh a b 1 then .ok (.cj a b 1) O else .aq
 |[x,y,z]=>mM x y λa b=>aI .aq z λc=>if fh a b c then .ok (.cj a b c) O else .aq
 |_=>.aq
noncomputable def aD {R:Type} (d:R) (O:AH) (r:Nat) (f:List (Int×AV)->R):R:=match O[r]? with | some (.dI l)=>f l | _=>d
def Y9 (r:Nat) (O:AH):aJ AV:=aD .aq O r λl=>if l.length<=8 then mu ((mz (l.map (·.1))).map .int) O else .aq
def fQ (b:Nat) (args:List AV) (O:AH):aJ AV:=match b with
 |0=>a1 args λx=>Ws x O
 |1=>a2 args λx y=>mM x y λa b=>.ok (.int (if b<a then b else a)) O
 |2=>a2 args λx y=>mM x y λa b=>.ok (.int (if a<b then b else a)) O
 |3=>a1 args λx=>aI .aq x λa=>.ok (.int a.natAbs) O
 |4=>YE O args
 |5=>a1 args λx=>aG .aq x λa b c=>if fh a b c then mu (gH a c (ij a b c)) O else .aq
 |6=>a1 args λx=>aR .aq x λr=>aL .aq O r λl=>.ok (.aw l) O
 |7=>a1 args λx=>aR .aq x λr=>Y9 r O
 |8=>a1 args λx=>aR .aq x λr=>aL .aq O r λl=>match yw l with | some ns=>.ok (.int ns.sum) O | none=>.aq
 |_=>.aq
structure GT where
 mi:MI
 meth:Nat->Nat->Option Nat
 init:Nat->Option Nat
 ek:Nat
 ea:Nat
 ed:Nat
inductive MK where
 |own (f:Nat) | append | pop | reverse | xW
def rA (G:GT) (r:Nat) (m:Nat) (O:AH):Option MK:=match O[r]? with
 |some (.ba c l)=>(match lk m l with | none=>(G.meth c m).map .own | some _=>none)
 |some (.lst _)=>if m=G.mi.append then some .append else if m=G.mi.pop then some .pop else if m=G.mi.reverse then some .reverse else none
 |some (.dI _)=>if m=G.mi.get then some .xW else none
 |_=>none
def gE (G:GT) (x:AV) (m:Nat) (O:AH):Option MK:=match x with
 |.ref r=>rA G r m O
 |_=>none
noncomputable def a0 (l:List AV) (r:aJ AV):aJ AV:=match l with | []=>r | _=>.aq
def qJ (cl:Nat->List AV->AH->aJ AV) (k:MK) (x:AV) (args:List AV) (O:AH):aJ AV:=match k with
 |.own f=>cl f (x::args) O
 |.append=>a1 args λv=>aR .aq x λr=>aL .aq O r λl=>if l.length<SZ then .ok .none (O.set r (.lst (l++[v]))) else .aq
 |.pop=>a0 args (aR .aq x λr=>aL .aq O r λl=>match l.getLast? with | some v=>.ok v (O.set r (.lst l.dropLast)) | none=>.aq)
 |.reverse=>a0 args (aR .aq x λr=>aL .aq O r λl=>.ok .none (O.set r (.lst l.reverse)))
 |.xW=>a1 args λv=>aI .aq v λk=>aR .aq x λr=>aD .aq O r λl=>.ok ((lk k l).getD .none) O
noncomputable def ny (G:GT) (cl:Nat->List AV->AH->aJ AV) (c:Nat) (args:List AV) (O:AH):aJ AV:=match G.init c with
 |some f=>(cl f (.ref O.length::args) (O++[.ba c []])).bind λv O'=>match v with
  |.none=>.ok (.ref O.length) O'
  |_=>.aq
 |none=>.aq
noncomputable def wY {R:Type} (aq e:R) (f:AV->R) (t:Option (Option AV)):R:=match t with | none=>aq | some t=>(match t with | none=>e | some v=>f v)
def iX (it:AV) (r:Nat) (f:AV->AH->aJ AV):Nat->Nat->AH->aJ AV
 |0,_,_=>.aq
 |n+1,i,O=>wY .aq (.ok (.ref r) O) (λv=>match f v O with
  |.ok x O'=>aL .aq O' r λl=>if l.length<SZ then iX it r f n (i+1) (O'.set r (.lst (l++[x]))) else .aq
  |_=>.aq) (fG it i O)
def dG (x:AV) (O:AH):Nat:=match sX x O with
 |some l=>l.length+1
 |none=>0
section
variable (G:GT) (cl:Nat->List AV->AH->aJ AV)
noncomputable def CE.wC:CE->Bool
 |.nil=>true
 |_=>false
mutual
def bh:CE->aB->AH->aJ AV
 |.cn,_,O=>.ok .none O
 |.cb b,_,O=>.ok (.bool b) O
 |.ci i,_,O=>.ok (.int i) O
 |.cs s,_,O=>.ok (.str s) O
 |.gi _ i,_,O=>.ok (.int i) O
 |.v x,loc,O=>.dc (lk x loc) O
 |.aw es,loc,O=>(lX es loc O).bind λvs O=>.ok (.aw vs) O
 |.lst es,loc,O=>(lX es loc O).bind λvs O=>ig (.lst vs) O
 |.mU,_,O=>ig (.dI []) O
 |.at e a,loc,O=>(bh e loc O).bind λx O=>.dc (dA x a O) O
 |.sub e i,loc,O=>(bh e loc O).bind λx O=>(bh i loc O).bind λk O=>.dc (cW x k O) O
 |.my e lo hi,loc,O=>(bh e loc O).bind λx O=>(bh lo loc O).bind λa O=>(bh hi loc O).bind λb O=>te x a b O
 |.aN op a b,loc,O=>(bh a loc O).bind λx O=>(bh b loc O).bind λy O=>dg op x y O
 |.neg a,loc,O=>(bh a loc O).bind λx O=>match x with | .int i=>.ok (.int (-i)) O | _=>.aq
 |.not a,loc,O=>(bh a loc O).bind λx O=>(aJ.dc (j1 O x) O).bind λb O=>.ok (.bool !b) O
 |.bo op es,loc,O=>vX op es loc O
 |.aP op a b,loc,O=>(bh a loc O).bind λx O=>(bh b loc O).bind λy O=>(aJ.dc (cG op x y O) O).bind λb O=>.ok (.bool b) O
 |.o9 op dT a b c,loc,O=>(bh a loc O).bind λx O=>(bh b loc O).bind λy O=>(aJ.dc (cG op x y O) O).bind λt O=>match t with
  |true=>(bh c loc O).bind λz O=>(aJ.dc (cG dT y z O) O).bind λb O=>.ok (.bool b) O
  |false=>.ok (.bool false) O
 |.dD c a b,loc,O=>(fT c loc O).bind λt O=>match t with
  |true=>bh a loc O
  |false=>bh b loc O
 |.call f es,loc,O=>(lX es loc O).bind λvs O=>cl f vs O
 |.new c es,loc,O=>(lX es loc O).bind λvs O=>ny G cl c vs O
 |.meth e m es,loc,O=>(bh e loc O).bind λx O=>(aJ.dc (gE G x m O) O).bind λk O=>(lX es loc O).bind λvs O=>qJ cl k x vs O
 |.bi b es,loc,O=>(lX es loc O).bind λvs O=>fQ b vs O
 |.comp di x it,loc,O=>(bh it loc O).bind λy O=>iX y O.length (λv O=>bh di ((x,v)::loc) O) (dG y O) 0 (O++[.lst []])
 |.aq,_,_=>.aq
 |.nil,_,_=>.aq
 |.cons ..,_,_=>.aq
def lX:CE->aB->AH->aJ (List AV)
 |.nil,_,O=>.ok [] O
 |.cons a b,loc,O=>(bh a loc O).bind λv O=>(lX b loc O).bind λvs O=>.ok (v::vs) O
 |_,_,_=>.aq
def vX (op:qj):CE->aB->AH->aJ AV
 |.cons a b,loc,O=>match CE.wC b with
  |true=>bh a loc O
  |false=>(bh a loc O).bind λx O=>(aJ.dc (j1 O x) O).bind λt O=>match op,t with
   |.And,false=>.ok x O
   |.Or,true=>.ok x O
   |_,_=>vX op b loc O
 |_,_,_=>.aq
def fT:CE->aB->AH->aJ Bool
 |.not a,loc,O=>(fT a loc O).bind λb O=>.ok (!b) O
 |.bo op es,loc,O=>x8 op es loc O
 |.dD c a b,loc,O=>(fT c loc O).bind λt O=>match t with
  |true=>fT a loc O
  |false=>fT b loc O
 |.aP op a b,loc,O=>(bh a loc O).bind λx O=>(bh b loc O).bind λy O=>.dc (cG op x y O) O
 |.o9 op dT a b c,loc,O=>(bh a loc O).bind λx O=>(bh b loc O).bind λy O=>(aJ.dc (cG op x y O) O).bind λt O=>match t with
  |true=>(bh c loc O).bind λz O=>.dc (cG dT y z O) O
  |false=>.ok false O
 |.v x,loc,O=>(aJ.dc (lk x loc) O).bind λx O=>.dc (j1 O x) O
 |.at e a,loc,O=>(bh e loc O).bind λx O=>(aJ.dc (dA x a O) O).bind λx O=>.dc (j1 O x) O
 |.sub e i,loc,O=>(bh e loc O).bind λx O=>(bh i loc O).bind λk O=>(aJ.dc (cW x k O) O).bind λx O=>.dc (j1 O x) O
 |.aN op a b,loc,O=>(bh a loc O).bind λx O=>(bh b loc O).bind λy O=>(dg op x y O).bind λx O=>.dc (j1 O x) O
 |.call f es,loc,O=>(lX es loc O).bind λvs O=>(cl f vs O).bind λx O=>.dc (j1 O x) O
 |.meth e m es,loc,O=>(bh e loc O).bind λx O=>(aJ.dc (gE G x m O) O).bind λk O=>(lX es loc O).bind λvs O=>(qJ cl k x vs O).bind λx O=>.dc (j1 O x) O
 |_,_,_=>.aq
def x8 (op:qj):CE->aB->AH->aJ Bool
 |.nil,_,O=>.ok (match op with | .And=>true | .Or=>false) O
 |.cons a b,loc,O=>(fT a loc O).bind λt O=>match op,t with
  |.And,false=>.ok false O
  |.Or,true=>.ok true O
  |_,_=>x8 op b loc O
 |_,_,_=>.aq
end
noncomputable def RS.seq (r:RS) (f:aB->AH->RS):RS:=match r with
 |.next loc O=>f loc O
 |r=>r
def FA (a:Nat):aJ AV->RS
 |.ok v O=>.ret v O
 |.dm r O=>aX .aq O r λc l=>match lk a l with
  |some v=>if c=bQ then .ret (.aw [.none,v]) O else .aq
  |none=>.aq
 |.aq=>.aq
noncomputable def j3 (t:aB->AH->aJ Bool) (b:aB->AH->RS):Nat->aB->AH->RS
 |0,_,_=>.aq
 |n+1,loc,O=>match t loc O with
  |.ok false O=>.next loc O
  |.ok true O=>match b loc O with
   |.next loc O=>j3 t b n loc O
   |.cont loc O=>j3 t b n loc O
   |.ret v O=>.ret v O
   |_=>.aq
  |_=>.aq
noncomputable def EL (k:aB->AH->RS) (r:RS):RS:=match r with
 |.next loc O=>k loc O
 |.cont loc O=>k loc O
 |.ret v O=>.ret v O
 |.dm r O=>.dm r O
 |.aq=>.aq
def d8 (it:AV) (asn:AV->aB->Option aB) (b:aB->AH->RS):Nat->Nat->aB->AH->RS
 |0,_,_,_=>.aq
 |n+1,i,loc,O=>wY .aq (.next loc O) (λv=>match asn v loc with
  |none=>.aq
  |some loc=>EL (λloc O=>d8 it asn b n (i+1) loc O) (b loc O)) (fG it i O)
def gL (x:Nat) (v:AV) (loc:aB):Option aB:=some (up x v loc)
def zX:List Nat->List AV->aB->Option aB
 |[],vs,loc=>(match vs with | []=>some loc | _::_=>none)
 |x::xs,vs,loc=>(match vs with | []=>none | v::vs=>zX xs vs (up x v loc))
def H5 (x:Nat) (op:oS) (loc:aB) (O:AH) (a b:AV):RS:=match op with
 |.Add=>aI .aq a λa=>aI .aq b λb=>.next (up x (.int (a+b)) loc) O
 |.Sub=>aI .aq a λa=>aI .aq b λb=>.next (up x (.int (a-b)) loc) O
 |_=>.aq
def jN (xs:List Nat) (v:AV) (loc:aB):Option aB:=match v with
 |.aw vs=>zX xs vs loc
 |_=>none
noncomputable def Hq {R:Type} (d:R) (l:List AV) (f:AV->AV->R):R:=match l with
 |[]=>d
 |k::l=>(match l with | []=>d | a::l=>(match l with | []=>f k a | _::_=>d))
def A8 (O:AH) (x:AV):Bool:=aR false x λr=>aL false O r λ_=>true
def Jg (x y:AV) (loc:aB) (O:AH):RS:=aR .aq x λr=>match y with
 |.aw a=>aL .aq O r λl=>if l.length+a.length<=SZ then .next loc (O.set r (.lst (l++a.reverse))) else .aq
 |_=>.aq
noncomputable def WN:Nat:=40
def aH:CS->aB->AH->RS
 |.nil,loc,O=>.next loc O
 |.BG,loc,O=>.next loc O
 |.cont,loc,O=>.cont loc O
 |.seq a b,loc,O=>(aH a loc O).seq λloc O=>aH b loc O
 |.aK x e,loc,O=>(bh G cl e loc O).dp λv O=>.next (up x v loc) O
 |.mN x di y it,loc,O=>(bh G cl (.comp di y it) loc O).dp λv O=>.next (up x v loc) O
 |.fC xs e,loc,O=>(bh G cl e loc O).dp λv O=>match jN xs v loc with | some loc=>.next loc O | none=>.aq
 |.cP o a e,loc,O=>(bh G cl e loc O).dp λv O=>(bh G cl o loc O).dp λx O=>match nE x a v O with | some O=>.next loc O | none=>.aq
 |.kR o i e,loc,O=>(bh G cl e loc O).dp λv O=>(bh G cl o loc O).dp λx O=>(bh G cl i loc O).dp λk O=>match oG x k v O with | some O=>.next loc O | none=>.aq
 |.qH x op e,loc,O=>(aJ.dc (lk x loc) O).dp λa O=>(bh G cl e loc O).dp λb O=>H5 x op loc O a b
 |.eO e,loc,O=>(bh G cl e loc O).dp λ_ O=>.next loc O
 |.ext o e,loc,O=>(bh G cl o loc O).dp λx O=>match A8 O x with
  |false=>.aq
  |true=>(bh G cl e loc O).dp λy O=>Jg x y loc O
 |.ite c a b,loc,O=>(fT G cl c loc O).dp λt O=>match t with
  |true=>aH a loc O
  |false=>aH b loc O
 |.uU c a,loc,O=>j3 (fT G cl c) (aH a) WN loc O
 |.fV x it a,loc,O=>(bh G cl it loc O).dp λy O=>d8 y (gL x) (aH a) (dG y O) 0 loc O
 |.lZ xs it a,loc,O=>(bh G cl it loc O).dp λy O=>d8 y (jN xs) (aH a) (dG y O) 0 loc O
 |.ret e,loc,O=>(bh G cl e loc O).dp λv O=>.ret v O
 |.raise c es,loc,O=>(lX G cl es loc O).dp λvs O=>Hq .aq vs λk a=>if c=bQ then .dm O.length (O++[.ba bQ [(G.ek,k),(G.ea,a),(G.ed,.str [])]]) else .aq
 |.w2 e _ a,loc,O=>FA a (bh G cl e loc O)
 |.aq,_,_=>.aq
end
structure Fn where
 ps:List Nat
 ds:List AV
 body:CS
noncomputable def qI (ps:List Nat) (ds args:List AV):Option aB:=
 if args.length<=ps.length/\ps.length-args.length<=ds.length then some (ps.zip (args++ds.drop (ds.length-(ps.length-args.length)))) else none
noncomputable def gj:RS->aJ AV
 |.next _ O=>.ok .none O
 |.ret v O=>.ok v O
 |.dm r O=>.dm r O
 |.cont ..=>.aq
 |.aq=>.aq
def aj (G:GT) (ai:Nat->Option Fn):Nat->Nat->List AV->AH->aJ AV
 |0,_,_,_=>.aq
 |n+1,f,args,O=>match ai f with
  |none=>.aq
  |some fn=>match qI fn.ps fn.ds args with
   |none=>.aq
   |some loc=>gj (aH G (aj G ai n) fn.body loc O)
end Internal
namespace Internal
open PySem
def bE:=wi 0
def gg:=wv 131
def cH:=wi 1
def cc:=wv 89
def eE:=wv 143
def fK:=wi 2
noncomputable def gh:CE:=.lst .nil
def xU:=ws [105,110,100,101,120]
def z7:=ws [98,97,100,95,114,97,110,103,101]
def vN:=ws [115,105,103]
def qK:=wv 144
def fR:=wv 93
def g9:=wv 177
def iy:=wv 133
def IJ:=ws [110,111,116,95,97,115,115,105,103,110,97,98,108,101]
def IK:=ws [97,115,115,105,103,110,95,116,111,95,110,101,116]
def lR:=wv 193
def jR:=wv 135
def lS:=wi 4
def mR:=wv 117
def iz:=wv 103
def t8:=wv 98
def Ab:=ws [99,111,110,115,116]
def lT:=wv 120
def Dp:=ws [98,105,110]
def kT:=wv 184
def lU:=wv 147
def mS:=wv 101
def lV:=wv 134
def iA:=wv 99
def Ac:=ws [112,105,99,107]
def kf:=wv 191
def QG:=ws [97,115,115,105,103,110,95,116,111,95,118,97,114,105,97,98,108,101]
noncomputable def pe:CE:=.cb true
def jy:=wi 3
def mT:=wv 159
def pf:=wv 132
def QI:=ws [115,101,108,101,99,116,95,111,102,95,115,99,97,108,97,114]
def xP:=ws [97,116]
def qN:=wv 107
noncomputable def si:CE:=.cb false
def nX:=wv 187
def pg:=wv 150
def qO:=wv 121
def nY:=wv 118
def qP:=wv 116
def lW:=wv 90
def QJ:=ws [110,111,116,95,99,111,110,115,116,97,110,116]
def QM:CS:=jG .aq .aq .aq .aq .aq .aq .aq .aq
def Dv:=ws [101,120,116]
def qQ:=ws []
def sj:=wv 106
def IQ:CE:=.bi 0 (bw (.v 122))
def Af:=ws [99,97,116]
def su:=wv 136
def qR:=wv 188
def IS:=ws [119,105,114,101]
def sv:=wv 104
def Dy:=ws [112,97,114,116]
def Ag:=ws [112,97,116,104]
def xV:=ws [109]
def tW:=wv 126
def tX:=wv 194
def tY:=wv 154
def tZ:=wv 153
def r9:=wv 91
def IB:=ws [110,117,109]
def Qw:CE:=.call 71 (bw (.v 192))
def t6:=wv 148
def vK:=wv 125
def vL:=wv 156
def vM:=wv 155
def QB:CE:=.bi 4 (bw (.ci 5))
def IF:CS:=bu .cont
noncomputable def Ge:CS:=.aK 192 .cn
noncomputable def Z8:CS:=.aK 193 .mU
noncomputable def M9:CS:=.aK 145 (.new 87 .nil)
def Bg:CS:=.aK 184 (.call 67 (bw (.v 183)))
def Nb:CS:=.aK 126 (.new 83 (bw (.at (.v 145) 112)))
def M8:CS:=.fC [103,106] (.aw (bf .cn .cn))
def Na:CS:=.aK 143 (.new 88 (jx (.v 145) (.cs [116,111,112]) .cn (.cs [109,111,100,117,108,101])))
def aeG:CS:=bu (.ret (.aP .In (.v 130) (.aw (.cons (.cs [43]) (Iq (.cs [45]) (.cs [42]) (.cs [47]) (.cs [37]) (.cs [38]) (.cs [124]) (.cs [94]) (.cs [126,94]))))))
def nW:CE:=.call 68 (bw kT)
def iB:CE:=.sub gg bE
def sh:CE:=.sub gg jy
def pd:CE:=.sub gg cH
def qL:CE:=.sub gg fK
def QE:CE:=.aw (xG (.cs [105,100]) Ag xU Dy (.cs [117,112]) (.cs [100,111,119,110]))
def jQ:CE:=.neg cH
def QF:CE:=.aw (bM Af bE (.aw (bf (.sub (.sub mT bE) bE) (.sub (.sub mT cH) bE))))
def qM:CE:=bf eE gg
def xI:CE:=.call 16 (bw fR)
def xJ:CE:=.sub gg lS
def xK:CE:=.sub qK bE
def Dq:CE:=.aP .Eq iy (.cs [117,110])
def QH:CE:=.aw (bM (.cs [105,100]) bE g9)
def Dr:CE:=.call 37 (bf eE qK)
def xM:CE:=.aP .Is jR .cn
def xN:CE:=.sub t8 bE
def Ds:CE:=.bi 0 (bw qR)
def Dt:CE:=.call 36 (bw gg)
def Du:CE:=.aP .GtE t6 lU
def vO:CE:=.at cc 103
def xQ:CE:=.sub t8 fK
def xR:CE:=.sub t8 cH
def IM:CE:=.call 74 (bf kT lR)
def Ad:CE:=.at mR 116
def QK:CE:=.meth kT 10 (bw (.aN .Mod pg (.ci 1024)))
def QN:CE:=.aw (bM (.cs [105,100]) bE (.cs [105]))
def Ae:CE:=.sub lR g9
def Dw:CE:=.aP .Eq iy Dp
def QO:CE:=.call 16 (bw (.aN .Sub sj iz))
def QP:CE:=.call 25 (bM (.v 124) mS lT)
def IT:CE:=.sub (.at cc 112) qP
def Iw:CS:=bu (.ret lT)
def Iy:CE:=.sub lR (.cs [105])
def Df:CE:=.sub qN bE
def Dg:CE:=.sub lV cH
def Aa:CE:=.sub qK cH
def Dh:CE:=bw mT
def Dj:CE:=.at mR 118
def Dk:CE:=.at pf 126
def IC:CE:=.aN .Add mS fR
def Qz:CE:=.bi 2 (bf mS bE)
def QA:CE:=.aP .Eq iy (.cs [115,116,114])
def Dl:CE:=.at cc 114
def QD:CE:=.aw (bf xP bE)
def IG:CE:=.aP .Lt qO bE
def IH:CE:=.aP .Is lT .cn
def EC:CS:=.aK 211 gh
def EE:CS:=.aK 159 gh
def LG:CS:=.aK 201 gh
def M7:CS:=.cP mR 146 (.v 146)
def Cc:CS:=.kR lR (.cs [105]) (.v 192)
def pU:CS:=.aK 131 (.sub (.sub mT bE) bE)
def Bh:CS:=.fC [143,126,193] (.call 73 (bw kT))
def w3:CS:=.aK 194 (.call 69 (bf kT lS))
def Bj:CS:=.aK 188 (.call 69 (bf kT nX))
def Bm:CS:=.aK 132 (.new 84 (bf tW gh))
def Cd:CS:=.ret (.aw (bM eE tW lR))
def Ez:CS:=.fC [136,212] (.call 77 (bM eE gg pe))
def Gb:CS:=.ite (.v 146) (bu (.fC [148,147] (.aw (bf bE bE)))) .nil
def EB:CS:=.aK 187 (.bi 8 (bw (.comp (.bi 0 (bw (.sub qN jy))) 107 mT)))
def Wf:CS:=.fC [203,177,191,202,208,199] (.call 76 (bM kT lR (.cs [98])))
def Wg:CS:=.ite (.aP .NotEq (.sub (.call 77 (bM eE (.v 203) si)) cH) (.v 207)) .aq .nil
def Fm:CS:=bu (.aK 211 (.aN .Add (.comp (.aw (bM g9 kf r9)) 91 (.v 202)) (.v 211)))
def Bi:CS:=.ite (.bo .Or (bf (.aP .NotEq (.v 212) qQ) (.aP .NotEq (.sub su cH) nX))) .aq .nil
def C4:CS:=fF (.eO (.meth qR 10 (bw (.aN .Mod pg lS)))) (.aK 150 (.aN .FloorDiv pg lS))
def ED:CS:=.aK 207 (.dD (.aP .NotEq (.v 208) qQ) (.v 208) (.dD (.v 199) qQ QJ))
def FK:CS:=iq (.aK 163 (.call 62 (bM eE qN (.v 161)))) (.eO (.meth mT 10 (bw (.v 163)))) (.qH 118 .Add (.sub (.v 163) cH))
def We:CS:=.ite (.aP .NotEq (.sub (.call 77 (bM eE gg si)) cH) QG) .aq .nil
def Xe:CS:=fF (.qH 190 .Add (.aN .Mult (.aN .Mod (.sub qR kf) fK) (.aN .Pow fK kf))) (.qH 189 .Add (.aN .Mult (.aN .FloorDiv (.sub qR kf) fK) (.aN .Pow fK kf)))
def BL:CS:=fF (.ite (.aP .Eq g9 (.cs [98])) (bu (.aK 208 (.dD (.aP .Eq (.v 208) qQ) IK (.cs [116,119,111])))) .nil) (.ite (.aP .NotEq (.v 208) qQ) (bu (.eO (.meth (.v 201) 10 (bw (.v 208))))) .nil)
def Cb:CS:=.ite (.bo .And (bf (.aP .NotIn fK tX) (.aP .NotIn jy tX))) (bu (.aK 192 (.aN .Sub (.aN .Add (.aN .Add (.sub tX bE) (.aN .Mult fK (.sub tX cH))) (.aN .Mult lS (.sub tX fK))) (.aN .Mult (.ci 8) (.sub tX jy))))) .nil
def Wj:CS:=.ret (.aP .Eq (.comp (.sub (.call 77 (bM eE (.v 157) pe)) cH) 157 (.lst (bf (.call 71 (bw jy)) (.aw (bM (.cs [105,100]) bE (.cs [112])))))) (.aN .Mult (.lst (bw IJ)) fK))
def EA:CS:=.ite (.aP .NotEq (.v 201) gh) (bu (.ret (.bo .Or (bf (.aP .Eq (.v 212) (.sub (.v 201) bE)) (.bo .And (bf (.aP .Eq (.sub (.v 201) bE) (.cs [116,119,111])) (.aP .In (.v 212) (.aw (bf IK z7))))))))) .nil
def Ig:CS:=iq (.cP cc 90 lW) (.cP cc 91 r9) (.cP cc 92 (.v 92))
def aeY:CS:=bu (.ret (.aN .Sub (.aN .LShift cH fR) cH))
def afg:CS:=jq (.fC [93,94,95] t8) (.ite (.aP .NotEq (.v 95) bE) (bu (.ret .cn)) .nil) (.ite (.bo .And (bf iA (.aP .Eq (.aN .RShift (.v 94) (.aN .Sub fR cH)) cH))) (bu (.ret (.aN .Sub (.v 94) (.aN .LShift cH fR)))) .nil) (.ret (.v 94))
def aee:CS:=jq (.cP cc 112 (.v 112)) (.cP cc 115 .mU) (.cP cc 114 .mU) (.cP cc 113 cH)
def ad1:CS:=iq (.cP cc 126 tW) (.cP cc 127 (.v 127)) (.cP cc 128 (.v 128))
def aek:CS:=.seq (.ite (.aP .Eq (.v 130) (.cs [43])) (bu (.ret (.call 26 (bf (.v 129) t8)))) .nil) QM
def afj:CS:=bu (.ret (.call 22 (bf (.call 30 (bf gg pf)) iA)))
def aer:CS:=iq (.ite (.aP .Lt nY cH) (bu (.raise 0 (bf z7 r9))) .nil) (.ite (.aP .Gt nY (.gi 149 65536)) .aq .nil) (.ret nY)
def aeo:CS:=iq (.aK 158 (.call 53 (bf eE vL))) (.aK 157 (.call 53 (bf eE vM))) (.ret (.aw (bf (.bi 2 (bf (.sub (.v 158) bE) (.sub (.v 157) bE))) (.bo .And (bf (.sub (.v 158) cH) (.sub (.v 157) cH))))))
def aev:CS:=jq (.ite (.aP .Eq (.sub lT bE) Ab) (bu (.ret (.my lT cH .cn))) .nil) .aq .aq .aq
def ae2:CS:=bu (.ret (.aw (.cons IS (Iq (.cs [116,114,105]) (.cs [119,97,110,100]) (.cs [119,111,114]) (.cs [116,114,105,48]) (.cs [116,114,105,49]) (.cs [116,114,105,114,101,103]) (.cs [115,117,112,112,108,121,48]) (.cs [115,117,112,112,108,121,49])))))
def aea:CS:=bu (.ret (.aP .In (.at cc 90) (.call 66 .nil)))
def ad4:CS:=.seq (.cP cc 112 gh) (.seq (.cP cc 176 gh) (.seq (.cP cc 175 gh) (jG (.cP cc 174 gh) (.cP cc 173 gh) (.cP cc 172 gh) (.cP cc 171 gh) (.cP cc 170 gh) (.cP cc 169 gh) (.cP cc 168 .cn) (.cP cc 167 .mU))))
def ad2:CS:=fF (.eO (.meth (.at cc 171) 10 (bw (.v 165)))) (.ret (.aN .Sub (.bi 0 (bw (.at cc 171))) cH))
def ad6:CS:=.seq (.cP cc 145 (.v 145)) (.seq (.cP cc 177 g9) (jG (.cP cc 178 (.v 178)) (.cP cc 90 lW) (.cP cc 165 g9) (.cP cc 182 IS) (.cP cc 181 .cn) (.cP cc 180 .mU) (.ite (.aP .IsNot (.v 178) .cn) .aq .nil) (.cP cc 150 (.meth (.v 145) 179 (bw (.at cc 165))))))
def ad5:CS:=fF (.ite (.aP .In g9 (.at cc 180)) .aq .nil) (.kR (.at cc 180) g9 qK)
def ad7:CS:=iq (.aK 143 cc) (.uU (.aP .IsNot eE .cn) (iq (.ite (.aP .In g9 (.at eE 180)) (bu (.ret (.sub (.at eE 180) g9))) .nil) .aq .aq)) .aq
def aeR:CS:=bu (.ret (.dD (.aP .NotEq kT gh) (.meth kT 11 .nil) bE))
def aeN:CS:=bu (.ret (.aw (lQ IB bE (.aw (bM (.ci 8) (.aN .Mod (.v 192) (.ci 256)) bE)) pe pe)))
def aeU:CS:=bu (.w2 (.aw (bf (.call 63 (bM eE gg (.v 161))) qQ)) 205 90)
def Iv:CE:=.bo .Or (bf (.aP .Eq iB (.cs [105,100])) (.aP .Eq iB Ag))
def Dm:CE:=.sub (.at (.at eE 145) 112) Aa
def Dn:CE:=.aN .Sub (.aN .Mod nW (.ci 10)) lS
def IL:CE:=.call 38 (bM eE qK pd)
def IP:CE:=.call 59 (bf eE xJ)
def Dx:CE:=bf eE sh
def Qv:CE:=.aw (jx xU bE QH gg)
def Iz:CE:=.aN .Mod nW (.ci 5)
def Di:CE:=bw qL
def Qx:CE:=.aN .Sub (.aN .Mod nW (.ci 6)) fK
def ID:CE:=.aN .Mod nW lS
def Qy:CE:=.aw (bf vN Ad)
def IE:CE:=.aP .Eq xK vN
def QC:CE:=.call 16 (bw xN)
def wF:CE:=.call 69 (bf kT Dj)
def Bk:CS:=.aK 190 (.aN .Mod nW nX)
def Bl:CS:=.aK 210 (.aN .Add cH (.aN .Mod nW (.aN .Sub nX (.v 190))))
def Gg:CS:=.eO (.meth tW 141 (jx Ad .cn bE (.call 70 (bw tX))))
def B8:CS:=.kR lR g9 (.aw (De Ad t6 lU (.v 146) iz sj (.v 122)))
def Mx:CS:=bu (.ite (.aP .Gt pg bE) (fF (.eO QK) (.aK 150 (.aN .FloorDiv pg (.ci 1024)))) .nil)
def Gf:CS:=.aK 117 (.meth (.v 145) 196 (De (.cs [116,111,112,46,105]) (.cs [114,101,103]) lS pe jy bE jQ))
def BI:CS:=bu (.eO (.meth mT 10 (bw (.call 76 (bM kT lR (.sub (.v 213) (.aN .Mod nW (.bi 0 (bw (.v 213))))))))))
def yM:CS:=bu (.eO (.meth tW 141 (jx Ad (.dD (.aP .Eq g9 xV) kf .cn) bE (.call 70 (bw (.sub (.v 122) kf))))))
def Wi:CS:=.eO (.meth eE 195 (bM (.cs [112]) (.aw (bM (.cs [112,97,114,97,109]) (.aw (bM lS (.ci 5) bE)) si)) jQ))
def RL:CS:=fF (.aK 107 (.meth (.v 160) 11 .nil)) (.ite (.aP .Eq Df Af) (bu (.ext (.v 160) (.sub qN fK))) (bu (.eO (.meth mT 10 (bw qN)))))
def YV:CS:=.ite (.aP .Eq lW bE) (bu (.ret (.aw (xG tY g9 kf (.bi 5 (bw (.bi 4 (bw Ds)))) qQ (.v 199))))) .nil
def yu:CS:=fF (.fC [177,191,91] (.sub (.v 211) (.aN .Add iz tZ))) (.ite (.bo .And (bf (.aP .GtE kf bE) (.aP .GtE r9 bE))) (bu (.kR (.sub (.sub Ae (.ci 6)) kf) r9 (.sub qR tZ))) .nil)
def BV:CS:=fF (.aK 142 (.call 24 (bM lT (.v 138) fR))) (.ite (.aP .Eq lW vN) (bu (.ite (.meth Dk 141 (jx (.v 139) qO mS (.v 142))) (bu (.kR (.v 140) (.v 139) pe)) .nil)) .aq)
def M6:CS:=.aK 117 (.meth (.v 145) 196 (De (.aN .Add (.cs [116,111,112,46]) g9) (.dD (.aP .Eq g9 (.cs [98])) IS (.cs [114,101,103])) (.aN .Add (.bi 3 (bw (.aN .Sub t6 lU))) cH) si t6 lU jQ))
def Fz:CS:=iq (.aK 101 (.call 31 (bf lV pf))) (.ite (.bo .Or (bM (.aP .Is mS .cn) (.aP .LtE IC bE) (.aP .GtE mS (.call 32 (bf qN pf))))) IF .nil) (.eO (.meth (.v 137) 10 (bw (.aw (xG lW (.v 139) qO mS fR (.v 138))))))
def BO:CS:=iq (.ite (.v 146) (bu (.aK 201 QI)) .nil) (.mN 202 (.dD xM jQ (.call 72 (jx qR t6 lU jR))) 135 (.v 204)) (.ret (.aw (xG (.v 203) g9 kf (.v 202) (.v 201) (.bo .And (bf (.v 199) (.v 200))))))
def QQ:CS:=oJ (.aK 164 (.aN .Sub (.v 110) nY)) (.aK 103 (.bi 2 (bf mS (.v 164)))) (.aK 106 (.bi 1 (bf IC (.v 110)))) (.ite (.aP .Lt iz sj) (bu (.eO (.meth mT 10 (bw (.aw (lQ lW (.aN .Sub sj iz) (.v 139) vK (.call 64 (bf lV (.aN .Sub iz (.v 164)))))))))) .nil) (.aK 110 (.v 164))
def pV:CS:=.ite (.aP .Eq (.bi 0 Dh) fK) (bu (.aK 131 QF)) (bu (.ite (.aP .Eq (.bi 0 Dh) jy) (bu (.aK 131 (.aw (bM Af bE (.aw (bf QF (.sub (.sub mT fK) bE))))))) .nil))
def adQ:CS:=fF (.aK 150 nW) (.fV 153 QB C4)
def LD:CS:=.lZ [203,177,191,202,208,199] mT Fm
def Bo:CS:=.lZ [203,177,191,202,208,199] mT BL
def afh:CS:=fF (.aK 96 xI) (.ret (.aw (bM fR (.aN .BitAnd (.v 94) (.v 96)) (.aN .BitAnd (.v 95) (.v 96)))))
def aei:CS:=fF (.aK 96 xI) (.ret (.aw (bM fR (.v 96) (.v 96))))
def aej:CS:=bu (.ret (.aw (bM fR bE xI)))
def aeE:CS:=bu (.ret (.aw (bM fR (.aN .BitAnd (.v 97) xI) bE)))
def aeH:CS:=bu (.ret (.aP .Eq xQ bE))
def aet:CS:=bu (.ret (.aN .Add (.aN .BitAnd (.aN .RShift xR (.v 100)) cH) (.aN .Mult fK (.aN .BitAnd (.aN .RShift xQ (.v 100)) cH))))
def afc:CS:=.seq (.aK 103 Qz) (jG (.aK 106 (.bi 1 (bf IC xN))) (.ite (.aP .LtE sj iz) .aq .nil) (.aK 104 QO) (.aK 105 (.aN .Sub iz mS)) (.aK 102 (.aN .BitXor xI (.aN .LShift sv (.v 105)))) (.aK 94 (.aN .LShift (.aN .BitAnd (.aN .RShift xR iz) sv) (.v 105))) (.aK 95 (.aN .LShift (.aN .BitAnd (.aN .RShift xQ iz) sv) (.v 105))) (.ret (.aw (bM fR (.aN .BitOr (.v 94) (.v 102)) (.aN .BitOr (.v 95) (.v 102))))))
def aed:CS:=oJ (.aK 120 (.meth (.at cc 115) 13 (bw qP))) (.ite (.aP .IsNot lT .cn) Iw .nil) (.aK 117 IT) (.ite (.meth mR 119 .nil) (bu (.ret (.call 19 (bw Dj)))) .nil) (.ret (.call 18 (bw Dj)))
def aeg:CS:=iq (.aK 122 (.meth Dl 13 (bw qP))) (.ite (.aP .IsNot (.v 122) .cn) (fF (.aK 120 (.meth (.v 122) 13 (bw qO))) (.ite (.aP .IsNot lT .cn) Iw .nil)) .nil) (.ret (.call 18 (bw (.at IT 118))))
def aef:CS:=jG (.ite (.aP .Is qO .cn) (oJ (.aK 124 (.meth cc 13 (bw qP))) (.aK 123 QP) (.ite (.aP .Eq (.v 123) (.v 124)) (bu (.ret si)) .nil) (.kR (.at cc 115) qP (.v 123)) (.ret pe)) .nil) (.ite (.bo .Or (bf IG (.aP .GtE qO (.meth IT 122 .nil)))) .aq .nil) (.aK 124 (.meth cc 125 (bf qP qO))) (.aK 123 QP) (.ite (.aP .Eq (.v 123) (.v 124)) (bu (.ret si)) .nil) (.ite (.aP .NotIn qP Dl) (bu (.kR Dl qP .mU)) .nil) (.kR (.sub Dl qP) qO (.v 123)) (.ret pe)
def aeh:CS:=fF (.ite (.bo .Or (bf (.not (.call 21 (bw (.v 129)))) (.not (.call 21 (bw t8))))) (bu (.ret (.call 18 (bw (.sub (.v 129) bE))))) .nil) (.ret (.call 20 (bf (.sub (.v 129) bE) (.aN .Add (.sub (.v 129) cH) xR))))
def aem:CS:=oJ (.aK 120 (.call 27 (jx (.v 130) (.v 129) t8 iA))) (.ite IH .aq .nil) (.ite IH .aq .nil) (.ite IH .aq .nil) (.ret lT)
def aeX:CS:=jq (.ite (.aP .Eq (.sub lV bE) xP) (bu (.ret Dg)) .nil) (.aK 135 (.call 29 (bM Dg (.sub lV fK) pf))) (.ite xM (bu (.ret .cn)) .nil) (.ret (.aN .Mult (.aN .Sub jR (.sub lV jy)) (.sub lV lS)))
def aeF:CS:=fF (.ite (.aP .Eq Df vN) (bu (.ret (.at (.sub (.at Dk 112) (.sub qN fK)) 118))) .nil) .aq
def aeJ:CS:=fF (.ite (.bo .And (bf (.aP .Eq iB Ag) (.aP .IsNot (.sub (.sub qL jQ) cH) .cn))) .aq .nil) (.ret gg)
def aeD:CS:=fF (.ite (.aP .Eq iB (.cs [115,121,115])) .aq .nil) (.ret (.aP .In iB (.aw (Iq (.cs [117,110]) Dp (.cs [112,111,119]) (.cs [99,111,110,100]) Af (.cs [115,108,105,99,101]) Ac Dv))))
def aeC:CS:=iq (.ite (.not (.call 40 (bw gg))) .aq .nil) (.fV 107 (.call 35 (bw gg)) (bu (.ite (.aP .NotEq Df Ab) (bu (.ret gg)) .nil))) .aq
def afk:CS:=fF (.ite (.aP .Eq (.sub lT cH) fR) Iw .nil) (.ret (.call 41 (bw (.aw (jx Dv fR lT iA)))))
def ae3:CS:=iq (.aK 150 qL) (.aK 111 (.bo .Or (bf iA (.bo .And (bf (.not xJ) (.aP .GtE (.call 23 (bf pg (.aN .Sub (.sub pg bE) cH))) fK)))))) (.ret (.aN .Add (.aw (bw Ab)) (.call 14 (bM pg fR (.v 111)))))
def aen:CS:=jG (.aK 130 qL) (.ite (.call 43 (bw (.v 130))) (fF (.aK 156 (.call 55 (jx eE sh fR iA))) (.ret (.call 41 (bw (.aw (xG Dp fR (.v 130) vL (.call 55 (jx eE xJ fR iA)) iA)))))) .nil) .aq .aq .aq .aq .aq .aq
def aep:CS:=Y8 (.aK 133 iB) (.ite (.aP .Eq iy IB) (bu (.ret (.call 45 (bM gg fR iA)))) .nil) (.ite Dw (bu (.ret (.call 54 (jx eE gg fR iA)))) .nil) (.ite Dq .aq .nil) (.ite (.aP .Eq iy (.cs [99,111,110,100])) .aq .nil) (.ite QA .aq (bu (.ite (.bo .Or (bf (.aP .Eq iy Af) (.aP .Eq iy (.cs [114,101,112])))) .aq (bu (.ite (.aP .Eq iy (.cs [99,97,108,108])) .aq (bu (.ite (.aP .Eq iy (.cs [115,121,115])) .aq (bu (.aK 120 (.call 51 qM)))))))))) (.ret (.call 44 (bM lT fR iA)))
def ae9:CS:=fF (.fC [118,99] (.call 53 qM)) (.ret (.aw (bf (.call 55 (jx eE gg nY iA)) iA)))
def aeu:CS:=fF (.fC [120,99] (.call 56 qM)) (.ret (.aw (bf (.call 57 (bM eE lT pd)) iA)))
def afi:CS:=jq (.fC [120,99] (.call 58 qM)) (.aK 150 (.call 22 (bf lT iA))) (.ite (.aP .Is pg .cn) .aq .nil) (.ret pg)
def afe:CS:=oJ (.aK 159 gh) (.aK 118 bE) (.fV 107 (.call 60 (bw su)) FK) (.ite (.aP .Eq nY bE) .aq .nil) (.ret (.aw (bM (.cs [108,118]) nY (.bi 6 Dh))))
def aeZ:CS:=fF (.ite (.aP .Eq (.sub lV bE) xP) (bu (.ret (.aw (bf xP (.aN .Add Dg mS))))) .nil) (.ret (.aw (lQ Ac Dg (.sub lV fK) (.aN .Sub (.sub lV jy) (.aN .Mult mS (.sub lV lS))) (.sub lV lS))))
def ad8:CS:=.seq (.cP cc 116 qP) (.seq (.cP cc 165 (.v 165)) (.seq (.cP cc 90 lW) (.seq (.cP cc 118 nY) (jG (.cP cc 99 iA) (.cP cc 148 t6) (.cP cc 147 lU) (.cP cc 103 .cn) (.cP cc 106 .cn) (.cP cc 166 .cn) (.cP cc 91 jQ) (.cP cc 146 si)))))
def ad9:CS:=bu (.ret (.aP .IsNot vO .cn))
def aec:CS:=fF (.ite (.aP .Is vO .cn) .aq .nil) (.ret (.aN .Add (.bi 3 (bw (.aN .Sub (.at cc 106) vO))) cH))
def aeb:CS:=jq (.ite (.aP .Is vO .cn) .aq .nil) (.ite (.aP .GtE (.at cc 106) vO) (bu (.aK 121 (.aN .Sub jR vO))) (bu (.aK 121 (.aN .Sub vO jR)))) (.ite (.bo .Or (bf IG (.aP .GtE qO (.meth cc 122 .nil)))) (bu (.ret jQ)) .nil) (.ret qO)
def ad3:CS:=oJ (.aK 117 (.new 86 (De (.bi 0 (bw (.at cc 112))) (.v 165) lW nY iA t6 lU))) (.cP mR 91 r9) (.eO (.meth (.at cc 112) 10 (bw mR))) (.kR (.at cc 167) (.v 165) Ad) (.ret mR)
def aeM:CS:=iq (.aK 188 gh) (.fV 186 (.bi 4 (bw (.aN .FloorDiv (.aN .Add nX lS) (.ci 5)))) (fF (.aK 150 nW) (.fV 153 QB C4))) (.ret (.my qR .cn nX))
def aeQ:CS:=jq (.aK 190 bE) (.aK 189 bE) (.fV 191 (.bi 4 (bw Ds)) Xe) (.ret (.aw (bM Ds (.v 190) (.v 189))))
def aeL:CS:=fF (.aK 191 (.dD Du (.aN .Sub jR lU) (.aN .Sub lU jR))) (.ret (.dD (.o9 .LtE .Lt bE kf Ds) kf jQ))
def aeV:CS:=jq (.aK 206 gh) (.fV 177 (.cs [97,98,99]) (bu (.eO (.meth (.v 206) 10 (bw (.meth tW 13 (bw (.sub Ae bE)))))))) (.fV 191 (.bi 4 (bw (.bi 0 (bw (.sub (.sub lR xV) (.ci 6)))))) (bu (.eO (.meth (.v 206) 10 (bw (.meth tW 125 (bf (.sub (.sub lR xV) bE) kf))))))) (.ret (.v 206))
def aeO:CS:=bu (.ret (.aN .Add (.comp (.call 70 (bw (.sub (.sub Ae (.ci 6)) bE))) 177 (.cs [97,98,99])) (.comp (.call 70 (bw qR)) 188 (.sub (.sub lR xV) (.ci 6)))))
def F8:CS:=.aK 148 Dn
def F9:CS:=.aK 147 Dn
def Bn:CS:=.aK 213 (.dD (.aP .Eq ID jy) (.cs [97,99,109,98]) (.cs [97,99,109]))
def Ga:CS:=.aK 146 (.bo .And (bf (.aP .Eq g9 (.cs [99])) (.aP .Eq ID jy)))
def B7:CS:=.eO (.meth eE 195 (bM g9 Qy jQ))
def Ce:CS:=.ite (.aP .Gt Iz bE) (bu (.mN 194 (.aN .Mod (.v 197) fK) 197 tX)) .nil
def Gh:CS:=.eO (.meth eE 195 (bM (.cs [105]) Qy jQ))
def YW:CS:=.ite (.aP .Eq lW cH) (jq (.fC [131,135,200] IM) (.aK 204 (.dD xM (.lst (bw .cn)) (.lst (bw jR)))) (.aK 203 (.aw (jx xU bE tY gg))) (.aK 201 qQ)) (bu (.ite (.aP .Eq lW fK) (MP (.aK 156 Dn) (.aK 155 Dn) (.aK 200 pe) (.aK 201 (.dD (.aP .Lt (.aN .Mult (.aN .Sub vL vM) (.dD Du cH jQ)) bE) z7 qQ)) (.aK 204 (.dD Du (.bi 5 (bw (.bi 4 (bf vM (.aN .Add vL cH))))) (.bi 5 (bw (.bi 4 (bM vM (.aN .Sub vL cH) jQ)))))) (.aK 203 (.aw (lQ Dy bE tY (.call 71 (bw vL)) (.call 71 (bw vM)))))) (oJ (.fC [131,135,200] IM) (.aK 187 (.aN .Add Iz (.dD (.v 146) cH bE))) (.aK 201 (.dD (.aP .Gt nX bE) qQ z7)) (.aK 203 (.aw (lQ (.sub (.lst (bf (.cs [117,112]) (.cs [100,111,119,110]))) (.aN .Sub lW jy)) bE tY gg (.call 71 (bw nX))))) (.ite xM (bu (.aK 204 (.aN .Mult (.lst (bw .cn)) nX))) (iq (.aK 190 (.dD (.aP .Eq lW jy) jR (.aN .Add (.aN .Sub jR nX) cH))) (.aK 204 (.bi 5 (bw (.bi 4 (bf (.v 190) (.aN .Add (.v 190) nX)))))) (.ite (.aP .Lt t6 lU) (bu (.eO (.meth (.v 204) 12 .nil))) .nil))))))
def M5:CS:=.fV 191 (.bi 4 (bw IQ)) yM
def zl:CS:=.aK 122 (.lst (.cons wF .nil))
def YI:CS:=jq (.aK 150 (.dD (.aP .GtE (.v 185) bE) (.v 185) (.aN .Sub (.ci 7) (.v 185)))) (.eO QK) (.aK 150 (.aN .FloorDiv pg (.ci 1024))) (.fV 186 (.bi 4 (bw (.ci 30))) Mx)
def EF:CS:=.fV 186 (.bi 4 (bw (.aN .Add cH (.aN .Mod nW jy)))) BI
def Gd:CS:=.ite (.aP .Eq g9 xV) (oJ (.aK 103 Qx) (.aK 106 Qx) (.cP mR 103 iz) (.cP mR 106 sj) (.mN 122 wF 186 (.bi 4 (bw (.aN .Add (.bi 3 (bw (.aN .Sub iz sj))) cH))))) .nil
def BM:CS:=oJ (.ite (.aP .NotEq (.sub (.v 163) cH) (.v 209)) .aq .nil) (.fV 153 (.bi 4 (bM (.aN .Sub (.v 209) cH) jQ jQ)) yu) (.eO (.call 34 (bM (.call 33 (bf (.v 163) pf)) (.call 70 (bw (.my qR .cn (.v 209)))) pf))) (.ite (.aP .NotEq (.call 78 (bf tW lR)) (.call 79 (bw lR))) .aq .nil) (.mN 188 (.aN .Sub jy (.v 197)) 197 qR)
def Mu:CS:=.seq (.qH 138 .Sub fR) (.seq (.aK 121 .cn) (.seq (.ite (.aP .IsNot vK .cn) (jq (.aK 135 (.call 29 (bM (.sub vK bE) (.sub vK cH) pf))) (.ite xM IF .nil) (.aK 121 (.meth (.sub (.at Dk 112) (.v 139)) 121 (bw jR))) (.ite IG IF .nil)) .nil) Fz))
def ae4:CS:=.seq (.aK 103 Qz) (jG (.aK 106 (.bi 1 (bf (.aN .Add mS Df) xN))) (.ite (.aP .LtE sj iz) .aq .nil) (.aK 104 QO) (.aK 109 (.aN .Sub iz mS)) (.aK 108 (.aN .BitXor QC (.aN .LShift sv iz))) (.aK 94 (.aN .BitOr (.aN .BitAnd xR (.v 108)) (.aN .LShift (.aN .BitAnd (.aN .RShift (.sub qN cH) (.v 109)) sv) iz))) (.aK 95 (.aN .BitOr (.aN .BitAnd xQ (.v 108)) (.aN .LShift (.aN .BitAnd (.aN .RShift (.sub qN fK) (.v 109)) sv) iz))) (.ret (.aw (bM xN (.v 94) (.v 95)))))
def aez:CS:=Y8 (.ite (.aP .LtE fR xN) (bu (.ret (.call 17 (bM fR xR xQ)))) .nil) (.ite (.not iA) .aq .nil) (.aK 111 (.aN .BitXor xI QC)) (.aK 110 (.call 23 (bf t8 (.aN .Sub xN cH)))) (.aK 94 (.aN .BitOr xR (.dD (.aN .BitAnd (.v 110) cH) (.v 111) bE))) (.aK 95 (.aN .BitOr xQ (.dD (.aN .BitAnd (.v 110) fK) (.v 111) bE))) (.ret (.aw (bM fR (.v 94) (.v 95))))
def aex:CS:=.seq (.aK 133 iB) (.seq (.ite (.aP .Eq iy Ab) (bu (.ret (.aw (bM pd qL sh)))) .nil) (.seq (.ite (.aP .Eq iy vN) (bu (.ret (.meth Dk 13 Di))) .nil) (.seq (.ite (.aP .Eq iy (.cs [108,111,99,97,108])) .aq .nil) (.seq (.ite Dw (bu (.ret (.call 28 (jx qL (.call 30 (bf sh pf)) (.call 30 (bf xJ pf)) (.sub gg (.ci 5)))))) .nil) (.seq (.ite Dq .aq .nil) (.seq (.ite (.aP .Eq iy Dv) (bu (.ret (.call 14 (bM (.call 30 (bf qL pf)) pd sh)))) .nil) (.seq .aq QM)))))))
def afd:CS:=iq (.aK 140 .mU) (.lZ [90,139,121,101,93,138] (.v 137) BV) (.ret (.bi 7 (bw (.v 140))))
def aes:CS:=.seq (.aK 133 iB) (.seq (.ite (.aP .Eq iy (.cs [119,111,114,100])) .aq .nil) (jG (.ite (.bo .Or (bf (.aP .Eq iy (.cs [115,108,105,99,101])) (.aP .Eq iy Dv))) (bu (.ret (.aw Di))) .nil) (.ite (.bo .Or (bf (.aP .Eq iy Ac) (.aP .Eq iy (.cs [112,111,119])))) .aq .nil) (.ite Dq .aq .nil) (.ite Dw (bu (.ret (.aw (bf sh xJ)))) .nil) .aq .aq .aq .aq))
def aeI:CS:=bu (.ret (.bo .And (bf IE (.meth Dm 37 .nil))))
def afa:CS:=oJ (.ite IE (fF (.aK 117 Dm) (.ret (.aw (lQ Dj (.at mR 99) (.at mR 148) (.at mR 147) (.at mR 146))))) .nil) .aq .aq .aq .aq
def ae5:CS:=jq (.ite IE (iq (.aK 118 (.at Dm 118)) (.ite (.aP .Is vK .cn) (bu (.ret (.aw (bM vN nY Aa)))) .nil) .aq) .nil) .aq .aq .aq
def aew:CS:=jq (.ite (.aP .Eq iB Ag) .aq .nil) (.aK 144 (.meth eE 151 Di)) (.ite (.aP .Is qK .cn) .aq .nil) (.ret qK)
def ael:CS:=jq (.aK 131 Dt) (.ite Iv (bu (.ret (.aw (bf (.call 46 qM) .cn)))) .nil) (.ite (.aP .Eq iB xU) (iq (.fC [144,104] (.call 47 (bf eE qL))) (.ite (.bo .Or (bf (.aP .IsNot sv .cn) (.not Dr))) .aq .nil) (.ret (.aw (bf qK sh)))) .nil) .aq
def ae8:CS:=iq (.ite (.aP .Eq iB xU) (bu (.ret cH)) .nil) (.ite (.aP .Eq iB Dy) (bu (.ret (.call 42 (bf (.aN .Add (.bi 3 (bw (.aN .Sub (.call 59 Dx) IP))) cH) pd)))) .nil) (.ret (.call 42 (bf IP pd)))
def ae7:CS:=.seq (.aK 148 (.sub (.v 152) fK)) (.seq (.aK 147 (.sub (.v 152) jy)) (.seq (.ite (.sub (.v 152) lS) (bu (.raise 0 (bf QI pd))) .nil) (.seq (.aK 153 (.dD Du cH jQ)) (jG (.ite (.aP .Eq iB Dy) (jq (.aK 156 (.call 59 Dx)) (.aK 155 IP) (.ite (.aP .Lt (.aN .Mult (.aN .Sub vL vM) tZ) bE) (bu (.raise 0 (bf z7 pd))) .nil) (.ret (.aw (bf xP (.aN .Mult (.aN .Sub vM lU) tZ))))) .nil) (.aK 118 (.call 48 qM)) (.aK 154 lU) (.ite (.bo .And (bf (.aP .Eq iB (.cs [117,112])) (.aP .Lt tZ bE))) (bu (.aK 154 (.aN .Add (.aN .Sub lU nY) cH))) .nil) (.ite (.bo .And (bf (.aP .Eq iB (.cs [100,111,119,110])) (.aP .Gt tZ bE))) (bu (.aK 154 (.aN .Sub (.aN .Add lU nY) cH))) .nil) (.fC [135,99] (.call 56 Dx)) (.ite (.bo .And (bf (.aP .Eq (.sub jR bE) Ab) (.aP .Eq (.sub jR jy) bE))) (bu (.ret (.aw (bf xP (.aN .Mult (.aN .Sub (.call 22 (bf (.my jR cH .cn) iA)) tY) tZ))))) .nil) (.ret (.aw (lQ Ac jR iA tY tZ)))))))
def ae0:CS:=oJ (.aK 131 Dt) (.ite Iv (iq (.aK 144 (.call 46 qM)) (.ite Dr .aq .nil) (.ret (.my IL bE fK))) .nil) .aq .aq .aq
def ae1:CS:=jG (.aK 131 Dt) (.ite Iv (jq (.aK 144 (.call 46 qM)) (.ite Dr .aq .nil) (.eO IL) (.ret (.call 39 (bM eE qK .cn)))) .nil) .aq .aq .aq .aq .aq .aq
def aey:CS:=.seq (.aK 133 iB) (.seq (.ite (.aP .Eq iy IB) (bu (.ret (.aw (bf (.sub qL bE) sh)))) .nil) (.seq (.ite QA .aq .nil) (jG (.ite (.aP .In iy QE) (bu (.ret (.call 50 qM))) .nil) (.ite Dq .aq .nil) (.ite Dw (iq (.ite (.call 43 Di) (bu (.ret (.call 52 (bM eE sh xJ)))) .nil) .aq .aq) .nil) .aq .aq .aq .aq .aq)))
def aeB:CS:=jq (.aK 159 gh) (.aK 160 (.lst (bw su))) (.uU (.v 160) RL) (.ret mT)
def aeq:CS:=bu (.ite (.aP .Eq xK (.cs [108,111,99,97,108])) .aq (bu (.ite (.aP .NotEq xK vN) (bu (.raise 0 (bf IJ r9))) (iq (.aK 162 (.meth Dm 119 .nil)) (.ite (.bo .And (bf (.v 161) (.v 162))) (bu (.raise 0 (bf IK r9))) .nil) (.ite (.bo .And (bf (.not (.v 161)) (.not (.v 162)))) (bu (.raise 0 (bf QG r9))) .nil)))))
def aff:CS:=.seq (.aK 131 Dt) (.seq (.ite (.aP .NotIn iB QE) (bu (.raise 0 (bf IJ pd))) .nil) (.seq (.aK 154 gg) (.seq (.ite (.bo .And (bf (.aP .NotEq iB (.cs [105,100])) (.aP .NotEq iB Ag))) (bu (.aK 154 qL)) .nil) (.seq (.fC [144,104] (.call 47 (bf eE tY))) (jG (.eO (.call 61 (jx eE qK (.v 161) pd))) (.aK 152 IL) (.aK 125 .cn) (.ite (.aP .IsNot sv .cn) (bu (.aK 125 (.call 56 (bf eE sv)))) (bu (.ite Dr (fF (.ite (.aP .NotEq iB xU) .aq .nil) (.ret (.aw (lQ xK (.sub (.v 152) bE) Aa (.call 56 Dx) QD)))) .nil))) (.ite (.aP .Eq tY gg) (bu (.ret (.aw (lQ xK (.sub (.v 152) bE) Aa vK QD)))) .nil) (.aK 134 (.call 49 (bM eE gg (.v 152)))) (.ite (.bo .And (bf (.aP .Eq (.sub lV bE) Ac) (.not (.v 161)))) (bu (.raise 0 (bf QJ pd))) .nil) (.ret (.aw (lQ xK (.call 48 qM) Aa vK lV))))))))
def afb:CS:=jq (.aK 159 gh) (.aK 110 (.sub su cH)) (.lZ [90,118,139,125,134] (.sub su fK) QQ) (.ret (.aw (bM (.cs [108,118]) fR (.bi 6 Dh))))
def aeP:CS:=MP (.aK 90 (.aN .Mod nW jy)) (.ite (.aP .Eq lW bE) (fF (.aK 192 (.aN .Sub (.aN .Mod nW (.ci 12)) (.ci 5))) (.ret (.aw (bM Qw (.v 192) pe)))) .nil) (.ite (.aP .Eq lW cH) (bu (.ret (.aw (bM QN Iy si)))) .nil) (.aK 192 ID) (.aK 198 (.dD (.aP .Is Iy .cn) .cn (.aN .Add Iy (.v 192)))) (.ret (.aw (bM (.aw (lQ Dp bE (.cs [43]) QN Qw)) (.v 198) si)))
def aeW:CS:=MP (.fC [116,148,147,146,103,106,122] Ae) (.ite (.aP .NotEq g9 xV) (bu (.ret (.aw (bM QH bE pe)))) .nil) (.fC [131,135,199] IM) (.ite xM (bu (.ret (.aw (bM Qv jQ (.v 199))))) .nil) (.aK 191 (.dD (.aP .GtE sj iz) (.aN .Sub jR iz) (.aN .Sub iz jR))) (.ret (.aw (bM Qv (.dD (.o9 .LtE .Lt bE kf IQ) kf jQ) (.v 199))))
def rJ:CS:=.seq YV (.seq YW BO)
def Ca:CS:=.seq F8 (.seq F9 (.seq Ga (.seq Gb (jG M6 M7 M8 zl Gd M5 B7 B8))))
def LF:CS:=.lZ [103,209,163] (.lst (bf (.aw (bM bE nX su)) (.aw (bM (.v 190) (.v 210) (.call 65 (bM su (.v 190) (.v 210))))))) BM
def ae6:CS:=jq (.aK 137 gh) (.aK 138 (.sub su cH)) (.fV 107 (.sub su fK) (.seq (.fC [90,93,139,125,134] qN) Mu)) (.ret (.v 137))
def aeS:CS:=oJ (.aK 184 gh) (.fV 185 (.my (.v 183) .cn (.ci 40)) YI) (.aK 184 (.my kT .cn (.ci 160))) (.eO (.meth kT 12 .nil)) (.ret kT)
def Ih:CS:=.seq M9 (.seq Na (.seq Nb (.seq (.aK 193 .mU) (.seq (.fV 177 (.cs [97,98,99,109]) (.seq F8 (.seq F9 (.seq Ga (.seq Gb (jG M6 M7 M8 zl Gd (.fV 191 (.bi 4 (bw IQ)) yM) B7 B8)))))) (.seq w3 (jG Ce Gf Gg Gh (.aK 192 .cn) Cb Cc Cd))))))
def aeT:CS:=.seq (.fC [116,148,147,146,103,106,122] Ae) (.seq (.fC [154,191,199] (.call 75 (bM kT lR g9))) (.seq (.aK 90 Iz) (.seq (.aK 188 (.sub (.v 122) bE)) (.seq YV (.seq YW BO)))))
def QL:CS:=jG LD LF We Wf ED Wg Wi Wj
def Nc:CS:=.fV 177 (.cs [97,98,99,109]) Ca
def Wc:CS:=.seq Bg (.seq Bh (.seq Bm (.seq Bn (.seq EE (.seq EF (.seq pU (.seq pV (.seq LG (.seq Bo (.seq Ez (.seq EA (.seq EB (.seq Bi (.seq Bj (.seq Bk (.seq Bl (.seq EC QL)))))))))))))))))
def Z7:CS:=.seq M9 (.seq Na (.seq Nb (.seq Z8 (.seq Nc (.seq w3 (jG Ce Gf Gg Gh Ge Cb Cc Cd))))))
def aeK:CS:=.seq Bg (.seq Bh (.seq Bm (.seq Bn (.seq (.aK 159 gh) (.seq EF (.seq pU (.seq pV (.seq (.aK 201 gh) (.seq Bo (.seq Ez (.seq EA (.seq EB (.seq Bi (.seq Bj (.seq Bk (.seq Bl (.seq (.aK 211 gh) QL)))))))))))))))))
def fM:List (Nat×Fn):=[
 (1000,⟨[89,90,91,92],[.int (-1),.str []],Ig⟩),
 (16,⟨[93],[],aeY⟩),
 (17,⟨[93,94,95],[.int (0)],afh⟩),
 (18,⟨[93],[],aei⟩),
 (19,⟨[93],[],aej⟩),
 (20,⟨[93,97],[],aeE⟩),
 (21,⟨[98],[],aeH⟩),
 (22,⟨[98,99],[],afg⟩),
 (23,⟨[98,100],[],aet⟩),
 (24,⟨[98,101,93],[],afc⟩),
 (25,⟨[98,101,107],[],ae4⟩),
 (14,⟨[98,93,99],[],aez⟩),
 (1001,⟨[89,112],[],aee⟩),
 (1002,⟨[89,116],[],aed⟩),
 (1003,⟨[89,116,121],[],aeg⟩),
 (1004,⟨[89,116,121,101,120],[],aef⟩),
 (1005,⟨[89,126,127,128],[.int (0)],ad1⟩),
 (26,⟨[129,98],[],aeh⟩),
 (27,⟨[130,129,98,99],[],aek⟩),
 (28,⟨[130,129,98,99],[],aem⟩),
 (29,⟨[131,99,132],[],afj⟩),
 (30,⟨[131,132],[],aex⟩),
 (31,⟨[134,132],[],aeX⟩),
 (32,⟨[107,132],[],aeF⟩),
 (33,⟨[136,132],[],ae6⟩),
 (34,⟨[137,120,132],[],afd⟩),
 (35,⟨[131],[],aes⟩),
 (36,⟨[131],[],aeJ⟩),
 (37,⟨[143,144],[],aeI⟩),
 (38,⟨[143,144,91],[],afa⟩),
 (39,⟨[143,144,125],[],ae5⟩),
 (40,⟨[131],[],aeD⟩),
 (41,⟨[131],[],aeC⟩),
 (42,⟨[118,91],[],aer⟩),
 (43,⟨[130],[],aeG⟩),
 (44,⟨[120,93,99],[],afk⟩),
 (45,⟨[131,93,99],[],ae3⟩),
 (46,⟨[143,131],[],aew⟩),
 (47,⟨[143,131],[],ael⟩),
 (48,⟨[143,131],[],ae8⟩),
 (49,⟨[143,131,152],[],ae7⟩),
 (50,⟨[143,131],[],ae0⟩),
 (51,⟨[143,131],[],ae1⟩),
 (52,⟨[143,156,155],[],aeo⟩),
 (53,⟨[143,131],[],aey⟩),
 (54,⟨[143,131,93,99],[],aen⟩),
 (55,⟨[143,131,93,99],[],aep⟩),
 (56,⟨[143,131],[],ae9⟩),
 (57,⟨[143,120,91],[],aev⟩),
 (58,⟨[143,131],[],aeu⟩),
 (59,⟨[143,131],[],afi⟩),
 (60,⟨[136],[],aeB⟩),
 (61,⟨[143,144,161,91],[],aeq⟩),
 (62,⟨[143,131,161],[],aff⟩),
 (63,⟨[143,136,161],[],afe⟩),
 (64,⟨[134,101],[],aeZ⟩),
 (65,⟨[136,101,93],[],afb⟩),
 (66,⟨[],[],ae2⟩),
 (1006,⟨[89,116,165,90,118,99,148,147],[],ad8⟩),
 (1007,⟨[89],[],aea⟩),
 (1008,⟨[89],[],ad9⟩),
 (1009,⟨[89],[],aec⟩),
 (1010,⟨[89,135],[],aeb⟩),
 (1011,⟨[89],[],ad4⟩),
 (1012,⟨[89,165,90,118,99,148,147,91],[],ad3⟩),
 (1013,⟨[89,165],[],ad2⟩),
 (1014,⟨[89,145,177,178,90],[],ad6⟩),
 (1015,⟨[89,177,144,91],[],ad5⟩),
 (1016,⟨[89,177],[],ad7⟩),
 (67,⟨[183],[],aeS⟩),
 (68,⟨[184],[],aeR⟩),
 (69,⟨[184,187],[],aeM⟩),
 (70,⟨[188],[],aeQ⟩),
 (71,⟨[192],[],aeN⟩),
 (72,⟨[188,148,147,135],[],aeL⟩),
 (73,⟨[184],[],Ih⟩),
 (74,⟨[184,193],[],aeP⟩),
 (75,⟨[184,193,177],[],aeW⟩),
 (76,⟨[184,193,177],[],aeT⟩),
 (77,⟨[143,131,161],[],aeU⟩),
 (78,⟨[126,193],[],aeV⟩),
 (79,⟨[193],[],aeO⟩),
 (80,⟨[183],[],aeK⟩)]
def ai (f:Nat):Option Fn:=lk f fM
noncomputable def ET:List ((Nat×Nat)×Nat):=[((83,13),1002),((83,125),1003),((83,141),1004),((86,119),1007),((86,37),1008),((86,122),1009),((86,121),1010),((87,196),1012),((87,179),1013),((88,195),1015),((88,151),1016)]
noncomputable def UU:List (Nat×Nat):=[(83,1001),(84,1005),(86,1006),(87,1011),(88,1014)]
noncomputable def attrL:List Nat:=[176,91,167,145,92,180,103,127,175,166,116,90,106,147,168,114,181,148,177,182,128,150,178,165,169,173,113,172,146,171,112,99,126,170,174,115,118]
noncomputable def JB:List (Nat×Int):=[(149,65536)]
noncomputable def gz:List Nat:=[83,84,86,87,88]
def GG:GT:=⟨⟨10,11,12,13⟩,λc m=>lk (c,m) ET,λc=>lk c UU,90,91,92⟩
noncomputable def pZ:List (List Nat):=[[68,101,115,105,103,110,69,114,114,111,114],
 [108,101,110],
 [109,105,110],
 [109,97,120],
 [97,98,115],
 [114,97,110,103,101],
 [108,105,115,116],
 [116,117,112,108,101],
 [115,111,114,116,101,100],
 [115,117,109],
 [97,112,112,101,110,100],
 [112,111,112],
 [114,101,118,101,114,115,101],
 [103,101,116],
 [101,120,116,101,110,100],
 [114,101,118,101,114,115,101,100],
 [109,97,115,107],
 [118,101,99],
 [97,108,108,95,120],
 [97,108,108,95,122],
 [102,114,111,109,95,105,110,116],
 [105,115,95,107,110,111,119,110],
 [116,111,95,105,110,116],
 [99,111,100,101],
 [115,108,105,99,101,95,118,101,99],
 [112,117,116,95,115,108,105,99,101],
 [97,100,100],
 [97,114,105,116,104,109,101,116,105,99],
 [98,105,110,97,114,121],
 [119,104,111,108,101,95,111,102],
 [101,118,97,108,117,97,116,101],
 [108,111,99,97,116,101],
 [104,111,108,100,101,114,95,119,105,100,116,104],
 [114,101,115,111,108,118,101,95,116,97,114,103,101,116],
 [115,116,111,114,101,95,114,111,119,115],
 [99,104,105,108,100,114,101,110],
 [108,97,115,116,95,115,101,108,101,99,116],
 [105,115,95,109,101,109,111,114,121],
 [115,104,97,112,101],
 [114,101,97,100,95,101,110,116,114,121],
 [102,111,108,100,115],
 [102,111,108,100,101,100],
 [99,104,101,99,107,101,100,95,119,105,100,116,104],
 [105,115,95,99,111,110,116,101,120,116,95,111,112,101,114,97,116,111,114],
 [119,105,100,101,110],
 [110,117,109,98,101,114,95,118,97,108,117,101],
 [101,110,116,114,121,95,111,102],
 [98,97,115,101,95,101,110,116,114,121],
 [115,101,108,101,99,116,95,119,105,100,116,104],
 [115,101,108,101,99,116,95,119,104,101,114,101],
 [110,97,109,101,100,95,116,121,112,101],
 [110,97,109,101,100,95,118,97,108,117,101],
 [98,111,116,104,95,116,121,112,101,115],
 [101,120,112,114,95,116,121,112,101],
 [98,105,110,97,114,121,95,118,97,108,117,101],
 [98,117,105,108,100],
 [115,101,108,102,95,100,101,116,101,114,109,105,110,101,100],
 [99,111,110,115,116,97,110,116,95,118,101,99],
 [99,111,110,115,116,97,110,116],
 [119,104,111,108,101],
 [102,108,97,116,95,112,97,114,116,115],
 [99,104,101,99,107,95,101,110,116,114,121],
 [116,97,114,103,101,116,95,112,97,114,116],
 [116,97,114,103,101,116],
 [109,111,118,101,100],
 [115,108,105,99,101,95,116,97,114,103,101,116],
 [110,101,116,95,107,105,110,100,115],
 [95,108,97,119,95,114,111,119],
 [95,108,97,119,95,110,101,120,116],
 [95,108,97,119,95,98,105,116,115],
 [95,108,97,119,95,109,97,100,101],
 [95,108,97,119,95,99,111,110,115,116],
 [95,108,97,119,95,97,116],
 [95,108,97,119,95,119,111,114,108,100],
 [95,108,97,119,95,105,110,100,101,120],
 [95,108,97,119,95,119,111,114,100],
 [95,108,97,119,95,115,101,108,101,99,116],
 [95,108,97,119,95,116,97,114,103,101,116,101,100],
 [95,108,97,119,95,119,104,111,108,101,115],
 [95,108,97,119,95,100,117,101],
 [108,97,119],
 [71,97,116,101,108,111,111,109,69,114,114,111,114],
 [76,105,109,105,116,82,101,97,99,104,101,100],
 [83,116,111,114,101],
 [67,111,110,116,101,120,116],
 [70,117,110,99,116,105,111,110,67,111,110,116,101,120,116],
 [83,105,103,110,97,108],
 [68,101,115,105,103,110],
 [83,99,111,112,101],
 [115,101,108,102],
 [107,105,110,100],
 [97,116],
 [100,101,116,97,105,108],
 [119],
 [97],
 [98],
 [102,117,108,108],
 [110],
 [118],
 [115,105,103,110,101,100],
 [105],
 [108,111],
 [111,117,116,115,105,100,101],
 [102,105,114,115,116],
 [105,110,110,101,114],
 [115,104,105,102,116],
 [108,97,115,116],
 [112,97,114,116],
 [107,101,101,112],
 [115,107,105,112],
 [116,111,112],
 [102,105,108,108],
 [115,105,103,110,97,108,115],
 [114,97,110,100,111,109,95,115,101,101,100],
 [109,101,109,111,114,105,101,115],
 [118,97,108,117,101,115],
 [107,101,121],
 [115,105,103,110,97,108],
 [119,105,100,116,104],
 [105,115,95,110,101,116],
 [118,97,108,117,101],
 [112,108,97,99,101],
 [119,111,114,100,115],
 [110,101,119],
 [111,108,100],
 [119,111,114,100],
 [115,116,111,114,101],
 [102,114,97,109,101],
 [110,111,119],
 [117],
 [111,112],
 [101],
 [99,116,120],
 [116,97,103],
 [119,104,101,114,101],
 [105,110,100,101,120],
 [108,118],
 [114,111,119,115],
 [116,97,107,101],
 [114,101,102],
 [99,104,97,110,103,101,100],
 [115,101,116,95,98,105,116,115],
 [112,105,101,99,101],
 [115,99,111,112,101],
 [101,110,116,114,121],
 [100,101,115,105,103,110],
 [115,99,97,108,97,114],
 [108,115,98],
 [109,115,98],
 [77,65,88,95,87,73,68,84,72],
 [110,117,109,98,101,114],
 [108,111,111,107,117,112],
 [102,111,114,109],
 [115,116,101,112],
 [98,97,115,101],
 [114,105,103,104,116],
 [108,101,102,116],
 [111,116,104,101,114],
 [111,110,101],
 [112,97,114,116,115],
 [115,116,97,99,107],
 [112,114,111,99,101,100,117,114,97,108],
 [110,101,116],
 [109,97,100,101],
 [98,111,116,116,111,109],
 [112,97,116,104],
 [105,110,105,116],
 [98,121,95,112,97,116,104],
 [109,97,107,101,114],
 [112,111,114,116,115],
 [116,111,112,115],
 [115,99,111,112,101,115],
 [114,111,117,116,105,110,101,115],
 [112,114,111,99,101,115,115,101,115],
 [117,100,112,115],
 [103,97,116,101,115],
 [97,115,115,105,103,110,115],
 [110,97,109,101],
 [112,97,114,101,110,116],
 [97,100,100,95,115,99,111,112,101],
 [101,110,116,114,105,101,115],
 [109,111,100,117,108,101,95,110,97,109,101],
 [110,101,116,116,121,112,101],
 [115,99,114,105,112,116],
 [114,111,119],
 [99,101,108,108],
 [116,117,114,110],
 [119,105,100,101],
 [98,105,116,115],
 [104,105,103,104],
 [108,111,119],
 [115,112,111,116],
 [102,105,103,117,114,101],
 [119,111,114,108,100],
 [97,109,111,117,110,116],
 [100,101,99,108,97,114,101],
 [97,100,100,95,115,105,103,110,97,108],
 [98,105,116],
 [108,97,116,101,114],
 [102,105,120,101,100],
 [115,116,105,108,108],
 [114,101,102,117,115,101,100],
 [115,112,111,116,115],
 [115,111,117,114,99,101],
 [105,110,100,101,120,101,115],
 [101,114,114,111,114],
 [102,111,117,110,100],
 [100,117,101],
 [102,97,117,108,116],
 [99,111,117,110,116],
 [99,117,116],
 [112,108,97,99,101,115],
 [116,111,108,100],
 [110,97,109,101,115],
 [99,97,108,108],
 [114,101,115,111,108,118,101]]
end Internal
namespace Internal
open PySem PySem.W PySem.Calls PyProof.Rows
section
variable {i:Nat} {h h':dv} {a:aC} {p:aC×aC} {o:aV}
def NN:Nat:=pZ.length
def nm (x:Nat):Str:=⟨(pZ.getD x []).toArray⟩
structure Wd where
 T:aC->Option Obj
 μ:List (aC×aC)
structure Wd.le (W W':Wd):Prop where
 T:∀a o,W.T a=some o->W'.T a=some o
 μ:∀(i:Nat) p,W.μ[i]?=some p->W'.μ[i]?=some p
theorem Wd.le.refl (W:Wd):W.le W:=⟨λ_ _ h=>h,λ_ _ h=>h⟩
theorem Wd.le.trans {W W' b:Wd} (x:W.le W') (y:W'.le b):W.le b:=⟨λa o h=>y.T a o (x.T a o h),λi p h=>y.μ i p (x.μ i p h)⟩
structure Pin where
 ex:aC->Option Obj
 fr:aC->Option (ah×w8)
mutual
inductive VR (W:Wd):AV->ah->Prop
 |none:VR W .none .none
 |bool (b:Bool):VR W (.bool b) (.bool b)
 |int (i:Int) (t:Tok):VR W (.int i) (.int i t)
 |str (s:List Nat) (t:Tok):VR W (.str s) (.str ⟨s.toArray⟩ t)
 |aw {l:List AV} {a:aC} {vs:List ah} {n:Nat}:W.T a=some {cls:=.type "tuple",data:=.seq vs.toArray n}->l.length<=SZ->bz W l vs->VR W (.aw l) (.ref a)
 |gA {l:List AV} {a:aC} {o:Obj} {vs:List ah} {n:Nat}:W.T a=some o->o.cls=.type "list"->o.data=.seq vs.toArray n->l.length<=SZ->bz W l vs->VR W (.gA l) (.ref a)
 |ref {r:Nat} {p:aC×aC}:W.μ[r]?=some p->VR W (.ref r) (.ref p.1)
 |cj {a b c:Int} {r:aC} {t u v:Tok}:W.T r=some {cls:=.type "range",dict:=none,data:=.fields #[.int a t,.int b u,.int c v],slots:=#[]}->VR W (.cj a b c) (.ref r)
inductive bz (W:Wd):List AV->List ah->Prop
 |nil:bz W [] []
 |cons {v x l xs:_}:VR W v x->bz W l xs->bz W (v::l) (x::xs)
end
theorem bz.pR {W:Wd} {M:List AV->List ah->Prop} (n:M [] []) (c:∀{v x l xs},VR W v x->bz W l xs->M l xs->M (v::l) (x::xs)) {l xs} (h:bz W l xs):M l xs:=
 bz.rec (motive_1:=λ_ _ _=>True) trivial (λ_=>trivial) (λ_ _=>trivial) (λ_ _=>trivial) (λ_ _ _ _=>trivial) (λ_ _ _ _ _ _=>trivial) (λ_=>trivial) (λ_=>trivial) n (λh r _ a=>c h r a) h
theorem VR.mono {W W':Wd} (le:W.le W') {v x} (h:VR W v x):VR W' v x:=
 VR.rec .none .bool .int .str (λg z _ r=>.aw (le.T _ _ g) z r) (λg c d z _ r=>.gA (le.T _ _ g) c d z r) (λg=>.ref (le.μ _ _ g)) (λg=>.cj (le.T _ _ g)) .nil (λ_ _ h r=>.cons h r) h
theorem bz.mono {W W':Wd} (le:W.le W') {l xs} (h:bz W l xs):bz W' l xs:=bz.pR .nil (λh _ r=>.cons (h.mono le) r) h
theorem bz.length {W:Wd} {l xs} (h:bz W l xs):xs.length=l.length:=bz.pR (M:=λl xs=>xs.length=l.length) rfl (λ_ _ a=>congrArg (· +1) a) h
theorem bz.append {W:Wd} {l xs l' b7} (h:bz W l xs) (q:bz W l' b7):bz W (l++l') (xs++b7):=bz.pR (M:=λl xs=>bz W (l++l') (xs++b7)) q (λh _ a=>.cons h a) h
theorem bz.get {W:Wd} {l xs} (h:bz W l xs) (i:Nat) {v} (e:l[i]?=some v):∃x,xs[i]?=some x/\VR W v x:=
 bz.pR (M:=λl xs=>∀i v,l[i]?=some v->∃x,xs[i]?=some x/\VR W v x) (λi v e=>by rw [List.getElem?_nil] at e;contradiction) (λh _ a i v e=>match i,e with | 0,e=>⟨_,rfl,eM e▸h⟩ | i+1,e=>a i v e) h i v e
theorem bz.RZ {W:Wd} {l xs} (r:bz W l xs) (h:l[i]?=none):xs[i]?=none:=by rw [abg] at h⊢;refine aa r.length ?_;exact h
theorem bz.set {W:Wd} {l xs} (r:bz W l xs) (i) {v x} (h:VR W v x):bz W (l.set i v) (xs.set i x):=
 bz.pR (M:=λl xs=>∀i,bz W (l.set i v) (xs.set i x)) (λ_=>.nil) (λh' r a i=>match i with | 0=>.cons h r | i+1=>.cons h' (a i)) r i
theorem bz.take {W:Wd} {l xs} (r:bz W l xs) (i):bz W (l.take i) (xs.take i):=
 bz.pR (M:=λl xs=>∀i,bz W (l.take i) (xs.take i)) (λi=>by refine aa GP (aa GP ?_);exact .nil) (λh _ a i=>match i with | 0=>.nil | i+1=>.cons h (a i)) r i
theorem bz.drop {W:Wd} {l xs} (r:bz W l xs) (i):bz W (l.drop i) (xs.drop i):=
 bz.pR (M:=λl xs=>∀i,bz W (l.drop i) (xs.drop i)) (λi=>by refine aa NQ (aa NQ ?_);exact .nil) (λh r a i=>match i with | 0=>.cons h r | i+1=>a i) r i
theorem bz.reverse {W:Wd} {l xs} (r:bz W l xs):bz W l.reverse xs.reverse:=
 bz.pR (M:=λl xs=>bz W l.reverse xs.reverse) .nil (λh _ a=>by refine aa aby (aa aby ?_);exact a.append (.cons h .nil)) r
theorem bz.replicate {W:Wd} {v x} (h:VR W v x):∀n,bz W (gX n v) (gX n x)
 |0=>.nil
 |n+1=>.cons h (bz.replicate h n)
inductive OV (W:Wd):Option AV->Option ah->Prop
 |none:OV W none none
 |some {v x:_}:VR W v x->OV W (some v) (some x)
theorem OV.mono {W W':Wd} (le:W.le W') {v x} (h:OV W v x):OV W' v x:=OV.rec .none (λh=>.some (h.mono le)) h
theorem VR.yU {W:Wd} {u:ah} (h:VR W .none u):u=.none:=by cases h;rfl
theorem VR.PV {W:Wd} {b:Bool} {u:ah} (h:VR W (.bool b) u):u=.bool b:=by cases h;rfl
theorem VR.jW {W:Wd} {i:Int} {u:ah} (h:VR W (.int i) u):∃t,u=.int i t:=by cases h;exact ⟨_,rfl⟩
theorem VR.nG {W:Wd} {s:List Nat} {u:ah} (h:VR W (.str s) u):∃t,u=.str ⟨s.toArray⟩ t:=by cases h;exact ⟨_,rfl⟩
theorem VR.lE {W:Wd} {r:Nat} {u:ah} (h:VR W (.ref r) u):∃p,W.μ[r]?=some p/\u=.ref p.1:=by cases h with | ref hp=>exact ⟨_,hp,rfl⟩
inductive PR {κ:Type} (W:Wd):List (κ×AV)->List (κ×ah)->Prop
 |nil:PR W [] []
 |cons {k v x l xs:_}:VR W v x->PR W l xs->PR W ((k,v)::l) ((k,x)::xs)
theorem PR.mono {a:Type} {W W':Wd} (le:W.le W') {l:List (a×AV)} {xs} (h:PR W l xs):PR W' l xs:=PR.rec .nil (λh _ r=>.cons (h.mono le) r) h
theorem PR.length {b:Type} {W:Wd} {l:List (b×AV)} {xs} (h:PR W l xs):xs.length=l.length:=PR.rec rfl (λ_ _ a=>congrArg (· +1) a) h
structure KI where
 K:ql
 cls:Nat->aC
 fn:Nat->aC
structure mH (I:KI) (W:Wd) (p:aC×aC) (h:dv) (c:Nat) (l:List (Nat×AV)):Prop where
 cl:c∈gz\/c=bQ
 ne:p.1≠p.2
 ob:∃ox,h.get? p.1=some ox/\ox.cls=.ref (I.cls c)/\vr ox=true/\ox.dict=some p.2
 le:h.DictLe p.2 l.length
 ns:∃m,h.Ns p.2 m/\∀a,a<NN->OV W (lk a l) (m (nm a))
def OR (prog:cU) (w:bU) (I:KI) (W:Wd) (p:aC×aC) (h:dv):aV->Prop
 |.lst l=>p.2=p.1/\∃vs n,h.get? p.1=some {cls:=.type "list",data:=.seq vs.toArray n}/\bz W l vs/\l.length<=SZ
 |.dI l=>p.2=p.1/\(∃a,h.DictOf (tK prog w) p.1 a/\PR W l a)/\(l=[]->h.DictOf (strKind prog w) p.1 [])
 |.dS l=>p.2=p.1/\∃a,h.DictOf (strKind prog w) p.1 a/\PR W (l.map λx=>((⟨x.1.toArray⟩:Str),x.2)) a
 |.ba c l=>mH I W p h c l
section
variable {prog:cU} {w:bU} {I:KI}
theorem XE {m:Str->Option ah} (x:h.Ns a m) (d:∀o,h.get? a=some o->h'.get? a=some o):h'.Ns a m:=by refine Cj x λo es ep b c=>d9 o es ep ⟨d _ b,c⟩
theorem mH.at {W:Wd} {c:Nat} {l:List (Nat×AV)} (x:mH I W p h c l)
 (k1:∀o,h.get? p.1=some o->h'.get? p.1=some o) (k2:∀o,h.get? p.2=some o->h'.get? p.2=some o):mH I W p h' c l:=by
 obtain ⟨i,ne,⟨ox,a,b⟩,le,m,n,q⟩:=x;refine ⟨i,ne,⟨ox,k1 _ a,b⟩,λo es ep g d=>?_,m,XE n k2,q⟩;refine oO n λr j k f e _=>?_;have:=k2 _ f;rw [g] at this
 (injection this with this;subst this)
 rw [d] at e
 (injection e with e;subst e)
 exact le _ _ _ f d
theorem OR.at {W:Wd} (x:OR prog w I W p h o)
 (k1:∀o,h.get? p.1=some o->h'.get? p.1=some o) (k2:∀o,h.get? p.2=some o->h'.get? p.2=some o):OR prog w I W p h' o:=by
 induction o using aV.casesOn with
 |lst l=>obtain ⟨e,vs,n,g,r⟩:=x;exact ⟨e,vs,n,k1 _ g,r⟩
 |dI l=>obtain ⟨e,⟨a,d,r⟩,q⟩:=x;exact ⟨e,⟨a,d.at k1,r⟩,λz=>(q z).at k1⟩
 |dS l=>obtain ⟨e,a,d,r⟩:=x;exact ⟨e,a,d.at k1,r⟩
 |ba c l=>exact mH.at x k1 k2
theorem OR.mono {W W':Wd} (le:W.le W') (x:OR prog w I W p h o):OR prog w I W' p h o:=by
 induction o using aV.casesOn with
 |lst l=>obtain ⟨e,vs,n,g,r⟩:=x;exact ⟨e,vs,n,g,r.1.mono le,r.2⟩
 |dI l=>obtain ⟨e,⟨b,d,r⟩,q⟩:=x;exact ⟨e,⟨b,d,r.mono le⟩,q⟩
 |dS l=>obtain ⟨e,b,d,r⟩:=x;exact ⟨e,b,d,r.mono le⟩
 |ba c l=>obtain ⟨j,ne,o,f,m,n,q⟩:=x;exact ⟨j,ne,o,f,m,n,λa i=>(q a i).mono le⟩
theorem OR.alloc {W:Wd} (x:OR prog w I W p h o):p.1<h.objs.size/\p.2<h.objs.size:=by
 induction o using aV.casesOn with
 |lst l=>obtain ⟨e,vs,n,g,r⟩:=x;refine aa e ?_;exact ⟨jK g,jK g⟩
 |dI l=>obtain ⟨e,⟨a,⟨o,es,ep,g,_⟩,r⟩,q⟩:=x;refine aa e ?_;exact ⟨jK g,jK g⟩
 |dS l=>obtain ⟨e,a,⟨o,es,ep,g,_⟩,r⟩:=x;refine aa e ?_;exact ⟨jK g,jK g⟩
 |ba c l=>obtain ⟨_,_,⟨ox,g,_,_,_⟩,_,m,⟨o,es,ep,g',_⟩,q⟩:=x;exact ⟨jK g,jK g'⟩
structure aF (prog:cU) (w:bU) (I:KI) (P:Pin) (W:Wd) (O:AH) (h:dv):Prop where
 con:∀a o,W.T a=some o->h.get? a=some o
 pex:∀a o,P.ex a=some o->h.get? a=some o
 pfr:∀a c d,P.fr a=some (c,d)->∃o,h.get? a=some o/\o.cls=c/\o.data=d
 kin:∀a o,I.K.lookup a=some o->W.T a=some o
 len:W.μ.length=O.length
 obj:∀(i:Nat) o p,O[i]?=some o->W.μ[i]?=some p->OR prog w I W p h o
 sep:∀(i:Nat) p,W.μ[i]?=some p->(W.T p.1=none/\P.ex p.1=none/\P.fr p.1=none)/\W.T p.2=none/\P.ex p.2=none/\P.fr p.2=none
 inj:∀(i j:Nat) p q,i≠j->W.μ[i]?=some p->W.μ[j]?=some q->p.1≠q.1/\p.1≠q.2/\p.2≠q.1/\p.2≠q.2
 dis:∀a o,W.T a=some o->P.ex a=none/\P.fr a=none
section
variable {P:Pin} {W:Wd} {O:AH} {h h':dv}
theorem aF.K (J:aF prog w I P W O h):I.K.In h:=λa o e=>J.con a o (J.kin a o e)
theorem aF.at (J:aF prog w I P W O h) (e:O[i]?=some o):∃p,W.μ[i]?=some p:=by have:=(ez.mp e).1;rw [<-J.len] at this;exact ⟨_,dO this⟩
theorem aF.obAt (J:aF prog w I P W O h) (e:W.μ[i]?=some p):∃o,O[i]?=some o/\OR prog w I W p h o:=by have:=(ez.mp e).1;rw [J.len] at this;exact ⟨_,dO this,J.obj _ _ _ (dO this) e⟩
theorem aF.keep (J:aF prog w I P W O h) (k:∀b o,h.get? b=some o->h'.get? b=some o):aF prog w I P W O h' where
 con a o e:=k _ _ (J.con a o e)
 pex a o e:=k _ _ (J.pex a o e)
 pfr a c d e:=let ⟨o,x,y⟩:=J.pfr a c d e;⟨o,k _ _ x,y⟩
 kin:=J.kin
 dis:=J.dis
 len:=J.len
 obj i o p e e':=(J.obj i o p e e').at (λo=>k _ o) (λo=>k _ o)
 sep:=J.sep
 inj:=J.inj
theorem kF (h:dv) (o):∀b x,h.get? b=some x->(h.push o).get? b=some x:=λ_ _ e=>nH _ e
noncomputable def fk (P:Pin) (W:Wd) (a:aC):Prop:=W.T a=none/\P.ex a=none/\P.fr a=none/\∀(i:Nat) p,W.μ[i]?=some p->p.1≠a/\p.2≠a
theorem aF.fresh (J:aF prog w I P W O h) (c:h.objs.size<=a):fk P W a:=by
 have no:∀o,h.get? a≠some o:=λo e=>absurd (jK e) (abL.mpr c);refine ⟨?_,?_,?_,λi p e=>?_⟩
 . generalize e:W.T a=b;induction b using aW with
   |none=>rfl
   |some o=>exact absurd (J.con _ _ e) (no o)
 . generalize e:P.ex a=b;induction b using aW with
   |none=>rfl
   |some o=>exact absurd (J.pex _ _ e) (no o)
 . generalize e:P.fr a=b;induction b using aW with
   |none=>rfl
   |some o=>refine aQ (J.pfr a o.1 o.2 e) λd x _=>?_;exact absurd x (no d)
 . refine aQ (J.obAt e) λo _ r=>?_;have:=r.alloc;exact ⟨oQ (tD this.1 c),oQ (tD this.2 c)⟩
theorem aF.but (J:aF prog w I P W O h) (f:fk P W a) (k:∀b o,b≠a->h.get? b=some o->h'.get? b=some o):aF prog w I P W O h' where
 con b o e:=k _ _ (λq=>by subst q;rw [f.1] at e;contradiction) (J.con b o e)
 pex b o e:=k _ _ (λq=>by subst q;rw [f.2.1] at e;contradiction) (J.pex b o e)
 pfr b c d e:=let ⟨o,x,y⟩:=J.pfr b c d e;⟨o,k _ _ (λq=>by subst q;rw [f.2.2.1] at e;contradiction) x,y⟩
 kin:=J.kin
 dis:=J.dis
 len:=J.len
 obj i o p e e':=(J.obj i o p e e').at (λo=>k _ o (f.2.2.2 i p e').1) (λo=>k _ o (f.2.2.2 i p e').2)
 sep:=J.sep
 inj:=J.inj
theorem aF.upd (J:aF prog w I P W O h) {o':aV} (hp:W.μ[i]?=some p) (k:∀b o,b≠p.2->h.get? b=some o->h'.get? b=some o)
 (hr:OR prog w I W p h' o'):aF prog w I P W (O.set i o') h' where
 con b o e:=k _ _ (λq=>by subst q;rw [(J.sep i p hp).2.1] at e;contradiction) (J.con b o e)
 pex b o e:=k _ _ (λq=>by subst q;rw [(J.sep i p hp).2.2.1] at e;contradiction) (J.pex b o e)
 pfr b c d e:=let ⟨o,x,y⟩:=J.pfr b c d e;⟨o,k _ _ (λq=>by subst q;rw [(J.sep i p hp).2.2.2] at e;contradiction) x,y⟩
 kin:=J.kin
 dis:=J.dis
 len:=by refine aa tx ?_;exact J.len
 obj j o q e e':=by
  by_cases a:i=j
  . subst a;rw [hp] at e';refine iM e' ?_;have f:i<O.length:=by refine aa J.len.symm ?_;exact (ez.mp hp).1
    rw [abi f] at e;refine iM e ?_;exact hr
  . rw [NV a] at e;have:=J.inj i j p q a hp e';exact (J.obj j o q e e').at (λo=>k _ o this.2.2.1.symm) (λo=>k _ o this.2.2.2.symm)
 sep:=J.sep
 inj:=J.inj
noncomputable def Wd.add (W:Wd) (p:aC×aC):Wd:=⟨W.T,W.μ++[p]⟩
theorem Wd.le_add (W:Wd) (p):W.le (W.add p):=⟨λ_ _ h=>h,λi q e=>by show (W.μ++[p])[i]?=some q;rw [iv (ez.mp e).1];exact e⟩
theorem Wd.add_at (W:Wd) (p):(W.add p).μ[W.μ.length]?=some p:=by show (W.μ++[p])[W.μ.length]?=some p;simp
theorem aF.new (J:aF prog w I P W O h) (t:h.objs.size<=p.1) (u:h.objs.size<=p.2) (k:∀b x,h.get? b=some x->h'.get? b=some x)
 (hr:OR prog w I (W.add p) p h' o):aF prog w I P (W.add p) (O++[o]) h' where
 con b o e:=k _ _ (J.con b o e)
 pex b o e:=k _ _ (J.pex b o e)
 pfr b c d e:=let ⟨o,x,y⟩:=J.pfr b c d e;⟨o,k _ _ x,y⟩
 kin:=J.kin
 dis:=J.dis
 len:=by show (W.μ++[p]).length=_;simp [J.len]
 obj j x q e g:=by
  have le:=W.le_add p;rcases Ob j W.μ.length with f | f | f
  . rw [iv (by refine aa J.len.symm ?_;exact f)] at e;have z:W.μ[j]?=some q:=by
     have g:(W.μ++[p])[j]?=some q:=g;rwa [iv f] at g
    exact ((J.obj j x q e z).at (λo=>k _ o) (λo=>k _ o)).mono le
  . subst f;rw [W.add_at] at g;refine iM g ?_;rw [J.len] at e;simp at e;subst e;exact hr
  . exfalso;have:=(ez.mp g).1;have v:(W.add p).μ.length=W.μ.length+1:=by show (W.μ++[p]).length=_;simp
    exact aU 0x20204401011122100213 v this f
 sep j q e:=by
  by_cases f:j<W.μ.length
  . have g:W.μ[j]?=some q:=by
     have e:(W.μ++[p])[j]?=some q:=e;rwa [iv f] at e
    exact J.sep j q g
  . have v:=(ez.mp e).1;have l:(W.add p).μ.length=W.μ.length+1:=by show (W.μ++[p]).length=_;simp
    have:j=W.μ.length:=by exact bV (aU 0x20820c01011122100212 l v) (ak 283673363729 f)
    subst this;rw [W.add_at] at e;refine iM e ?_;have a:=J.fresh t;have b:=J.fresh u;exact ⟨⟨a.1,a.2.1,a.2.2.1⟩,b.1,b.2.1,b.2.2.1⟩
 inj i j q r mf ei ej:=by
  have out:∀k q,k<W.μ.length->(W.add p).μ[k]?=some q->W.μ[k]?=some q:=λk q A e=>by have e:(W.μ++[p])[k]?=some q:=e;rwa [iv A] at e
  have l:(W.add p).μ.length=W.μ.length+1:=by show (W.μ++[p]).length=_;simp
  have hi:=(ez.mp ei).1;have f:=(ez.mp ej).1;by_cases n:i<W.μ.length
  . by_cases m:j<W.μ.length
    . exact J.inj i j q r mf (out _ _ n ei) (out _ _ m ej)
    . have:j=W.μ.length:=bV (aU 0x40020c49042084400112 f l) (ak 283673363729 m);subst this;rw [W.add_at] at ej;refine iM ej ?_;have a:=(J.fresh t).2.2.2 i q (out _ _ n ei);have b:=(J.fresh u).2.2.2 i q (out _ _ n ei);exact ⟨a.1,b.1,a.2,b.2⟩
  . have:i=W.μ.length:=bV (aU 0x40020c49042084400112 hi l) (ak 283673363729 n);subst this;rw [W.add_at] at ei;refine iM ei ?_;have m:j<W.μ.length:=(kL mf).elim (λs=>iu (aU 0x404449042084400113 f l s)) (λs=>ak 35195315028241 s);have a:=(J.fresh t).2.2.2 j r (out _ _ m ej);have b:=(J.fresh u).2.2.2 j r (out _ _ m ej);exact ⟨a.1.symm,a.2.symm,b.1.symm,b.2.symm⟩
noncomputable def Wd.imm (W:Wd) (a:aC) (o:Obj):Wd:=⟨λb=>if b=a then some o else W.T b,W.μ⟩
theorem Wd.Bp {W:Wd} {o:Obj} (h:W.T a=none):W.le (W.imm a o):=⟨λb x e=>by refine (if_neg (λq=>by subst q;rw [h] at e;contradiction)).trans ?_;exact e,λ_ _ e=>e⟩
theorem Wd.UP (W:Wd) (a) (o):(W.imm a o).T a=some o:=by exact (if_pos rfl)
theorem aF.imm (J:aF prog w I P W O h) {o:Obj} (j:h.objs.size<=a) (k:∀b x,h.get? b=some x->h'.get? b=some x) (l:h'.get? a=some o):aF prog w I P (W.imm a o) O h' where
 con b x e:=by
  have g:(if b=a then some o else W.T b)=some x:=e;by_cases q:b=a
  . rw [if_pos q] at g;refine iM g ?_;refine bA q ?_;exact l
  . rw [if_neg q] at g;exact k _ _ (J.con b x g)
 pex b o e:=k _ _ (J.pex b o e)
 pfr b c d e:=let ⟨o,x,y⟩:=J.pfr b c d e;⟨o,k _ _ x,y⟩
 kin b x e:=(Wd.Bp (J.fresh j).1).T _ _ (J.kin b x e)
 dis b x e:=by
  have g:(if b=a then some o else W.T b)=some x:=e;by_cases q:b=a
  . refine aa q ?_;exact ⟨(J.fresh j).2.1,(J.fresh j).2.2.1⟩
  . rw [if_neg q] at g;exact J.dis b x g
 len:=J.len
 obj i x p e g:=((J.obj i x p e g).at (λo=>k _ o) (λo=>k _ o)).mono (Wd.Bp (J.fresh j).1)
 sep i p e:=by
  have s:=J.sep i p e;have f:=(J.fresh j).2.2.2 i p e;refine ⟨⟨?_,s.1.2⟩,?_,s.2.2⟩
  . show (if p.1=a then some o else W.T p.1)=none;refine (if_neg f.1).trans ?_;exact s.1.1
  . show (if p.2=a then some o else W.T p.2)=none;refine (if_neg f.2).trans ?_;exact s.2.1
 inj:=J.inj
end
end
end
end Internal
namespace Internal
open PySem PySem.W PySem.Calls PyProof.Rows
variable {b:Bool} {W' W:Wd} {s' s:ax} {r:Nat} {O:AH} {P:Pin} {ae:Env} {loc:aB} {id:Str} {tt:cg} {sc:dW} {hd:Co} {prog:cU} {w:bU} {I:KI} {E:ah->ax->Prop}
section
variable {a c d e f g:Bool} {x N:Nat}
structure dF (s s':ax):Prop where
 gens:s'.gens=s.gens
 os:s'.os=s.os
theorem dF.refl (s:ax):dF s s:=⟨rfl,rfl⟩
theorem dF.trans {a b c:ax} (x:dF a b) (y:dF b c):dF a c:=⟨y.gens.trans x.gens,y.os.trans x.os⟩
def XS (P:Pin) (W:Wd) (e:aC) (h:dv):Prop:=
 ∃b vs,h.get? e=some b/\b.data=.fields vs/\1<vs.size/\
  (vs[1]?=some .none\/∃t a c x,vs[1]?=some (.ref t)/\fk P W t/\h.get? t=some a/\a.data=.fields c/\c[3]?=some x/\a.dict=none)
def xt (prog:cU) (w:bU) (I:KI) (P:Pin) (W:Wd) (s:ax) (r:Nat) (O:AH) (E:ah->ax->Prop):Prop:=
 ∀W' p s',W.le W'->aF prog w I P W' O s'.heap->W'.μ[r]?=some p->XS P W' p.1 s'.heap->dF s s'->E (.ref p.1) s'
def Ends {a b:Type} (prog:cU) (w:bU) (I:KI) (P:Pin) (W:Wd) (s:ax) (R:Wd->a->b->Prop) (m:aJ a) (Q:b->ax->Prop) (E:ah->ax->Prop):Prop:=
 match m with
 |.ok v O=>∀W' x s',W.le W'->aF prog w I P W' O s'.heap->R W' v x->dF s s'->Q x s'
 |.dm r O=>xt prog w I P W s r O E
 |.aq=>False
theorem xt.from (h:xt prog w I P W s r O E) (le:W.le W') (k:dF s s'):xt prog w I P W' s' r O E:=
 λc p b a J m x k'=>h c p b (le.trans a) J m x (k.trans k')
theorem Ends.from {a b:Type} {R:Wd->a->b->Prop} {m:aJ a} {Q:b->ax->Prop} (h:Ends prog w I P W s R m Q E) (le:W.le W') (k:dF s s'):Ends prog w I P W' s' R m Q E:=by
 induction m using aJ.casesOn with
 |ok v O=>exact λe x d c J r k'=>h e x d (le.trans c) J r (k.trans k')
 |dm r O=>exact xt.from h le k
 |aq=>exact h
theorem Ends.bind {c i j l:Type} {R:Wd->j->l->Prop} {e:Wd->c->i->Prop} {m:aJ c} {f:c->AH->aJ j} {Q:l->ax->Prop} {d:i->ax->Prop}
 (h:Ends prog w I P W s R (m.bind f) Q E)
 (k:∀v b W1 x a,m=.ok v b->W.le W1->aF prog w I P W1 b a.heap->e W1 v x->dF s a->Ends prog w I P W1 a R (f v b) Q E->d x a):Ends prog w I P W s e m d E:=by
 induction m using aJ.casesOn with
 |ok v O=>exact λW1 x a le J r g=>k v O W1 x a rfl le J r g (Ends.from h le g)
 |dm r O=>exact h
 |aq=>exact h
theorem Ends.map {c d:Type} {R b:Wd->c->d->Prop} {m:aJ c} {Q a:d->ax->Prop} (h:Ends prog w I P W s R m Q E) (hr:∀W v x,b W v x->R W v x) (e:∀x s,Q x s->a x s):Ends prog w I P W s b m a E:=by
 induction m using aJ.casesOn with
 |ok v O=>exact λW' x s' le J r k=>e _ _ (h W' x s' le J (hr _ _ _ r) k)
 |dm r O=>exact h
 |aq=>exact h
theorem Ends.ok {b a:Type} {R:Wd->b->a->Prop} {v:b} {Q:a->ax->Prop} {x:a} (h:Ends prog w I P W s R (.ok v O) Q E) (le:W.le W') (J:aF prog w I P W' O s'.heap) (r:R W' v x) (k:dF s s'):Q x s':=h W' x s' le J r k
theorem Ends.here {b a:Type} {R:Wd->b->a->Prop} {v:b} {Q:a->ax->Prop} {x:a} (h:Ends prog w I P W s R (.ok v O) Q E) (J:aF prog w I P W O s.heap) (r:R W v x):Q x s:=h W x s (.refl W) J r (.refl s)
theorem Ends.tok {b a:Type} {R:Wd->b->a->Prop} {v:b} {Q:a->ax->Prop} {x:a} {t:Nat} (h:Ends prog w I P W s R (.ok v O) Q E) (J:aF prog w I P W O s.heap) (r:R W v x):Q x {s with toks:=t}:=h W x _ (.refl W) J r ⟨rfl,rfl⟩
structure gK (P:Pin) (W:Wd) (ae:Env) (loc:aB):Prop where
 fn:ae.scope.kind=.function
 gl:ae.globals=eN
 bl:ae.builtins=kN
 lo:∃c es ep,P.fr ae.locals=some (c,.dict es ep)/\zu es/\∀x v,x<NN->lk x loc=some v->ae.kindOf (nm x)=some .local->∃u,qw es (nm x)=some u/\VR W v u
 ce:∀x v,x<NN->lk x loc=some v->(ae.kindOf (nm x)=some .cell\/ae.kindOf (nm x)=some .free)->∃c u o,ae.cells.lookup (nm x)=some c/\P.ex c=some o/\o.data=.cell (some u)/\VR W v u
 cl:∀id,ae.scope.names.lookup id=some .cell->∃c,ae.cells.lookup id=some c
theorem gK.mono (L:gK P W ae loc) (le:W.le W'):gK P W' ae loc:=by obtain ⟨a,b,f,⟨c,es,ep,g,h,i⟩,h4,h5⟩:=L;exact ⟨a,b,f,⟨c,es,ep,g,h,λx v d e k=>aQ (i x v d e k) λu y z=>⟨u,y,z.mono le⟩⟩,λx v d e k=>fv (h4 x v d e k) λc u o j l m z=>⟨c,u,o,j,l,m,z.mono le⟩,h5⟩
structure fy (k:Nat) (A:dh):Prop where
 q6:A.handled=none
 Ai:A.depth+k<=900
 FU:A.units+7*k<=5000
noncomputable def AF (P:Pin) (A:dh):Prop:=∃a,A.frames=some a/\∀e∈a,e.scope.kind≠.module/\∃L c d,e.frame=some L/\P.fr L=some (c,d)/\P.ex L=none/\∀vs,d≠.fields vs
noncomputable def Z6:qp->Bool
 |.local=>true
 |.cell=>true
 |.free=>true
 |_=>false
def rL (sc:dW) (id:Str):Bool:=match sc.names.lookup id with
 |some k=>Z6 k
 |none=>false
noncomputable def l9 (sc:dW) (id:Str):Bool:=sc.names.lookup id==some .globalImplicit
def iH (x:Nat) (id:Str):Bool:=qq x NN&&nm x==id
noncomputable def BD:cg->Bool
 |.Call (.Name id _) [] [] _=>id != "super"
 |_=>true
noncomputable def E7:cg->Bool
 |.Slice ..=>false
 |_=>true
noncomputable def noStar:cg->Bool
 |.Starred ..=>false
 |_=>true
noncomputable def p0:cg->Bool
 |.Set ..=>false
 |_=>true
noncomputable def mx (id:Str):Bool:=!(id==("__debug__":Str))
noncomputable def adF:List (List Nat):=[[108,101,110],[109,105,110],[109,97,120],[97,98,115],[114,97,110,103,101],[108,105,115,116],[116,117,112,108,101],[115,111,114,116,101,100],[115,117,109]]
def xw (b:Nat):Str:=⟨(adF.getD b []).toArray⟩
def It (sc bX:dW) (x:Nat):Bool:=
 (match bX.kind with | .function=>true | _=>false)&&!bX.isGenerator&&!bX.isCoroutine&&decide (bX.names.lookup (nm x)=some .local)&&
 bX.names.all λy=>match y.2 with
  |.local=>(y.1==nm x||y.1==(".0":Str))&&decide (bX.names.lookup y.1=some .local)
  |.free=>decide (sc.names.lookup y.1=some .cell)&&decide (bX.names.lookup y.1=some .free)
  |.cell=>false
  |_=>true
theorem vC {G:Prop} (h:(a&&b)=true) (k:a=true->b=true->G):G:=(dP.mp h).elim k
theorem kQ {G:Prop} (h:(a&&b&&c)=true) (k:a=true->b=true->c=true->G):G:=(dP.mp h).elim λh z=>vC h λd hb=>k d hb z
theorem qE {G:Prop} (h:(a&&b&&c&&d)=true) (k:a=true->b=true->c=true->d=true->G):G:=(dP.mp h).elim λh z=>kQ h λe hb f=>k e hb f z
theorem o5 {G:Prop} (h:(a&&b&&c&&d&&e)=true) (k:a=true->b=true->c=true->d=true->e=true->G):G:=(dP.mp h).elim λh z=>qE h λf hb g hd=>k f hb g hd z
theorem zW {G:Prop} (h:(a&&b&&c&&d&&e&&f)=true) (k:a=true->b=true->c=true->d=true->e=true->f=true->G):G:=(dP.mp h).elim λh z=>o5 h λg hb i hd j=>k g hb i hd j z
theorem HX {G:Prop} (h:(a&&b&&c&&d&&e&&f&&g)=true) (k:a=true->b=true->c=true->d=true->e=true->f=true->g=true->G):G:=(dP.mp h).elim λh z=>zW h λi hb j hd l m=>k i hb j hd l m z
theorem PB {x:Bool} {G:Prop} (h:(a&&b&&c&&d&&e&&f&&g&&x)=true) (k:a=true->b=true->c=true->d=true->e=true->f=true->g=true->x=true->G):G:=(dP.mp h).elim λh z=>HX h λi hb j hd l m n=>k i hb j hd l m n z
theorem dt {c:Prop} [Decidable c] {g:c->Bool} (h:(if q:c then g q else false)=true):∃q,g q=true:=by
 by_cases q:c
 . exact ⟨q,by rwa [dif_pos q] at h⟩
 . rw [dif_neg q] at h;contradiction
noncomputable def i1 {T A:Type} (ix:T->Nat) (N:Nat) (el:(e:T)->ix e=N->(A->Bool)->Bool) (e:T) (f:A->Bool):Bool:=if h:ix e=N then el e h f else false
def V1 {T A:Type} (g:T->(A->Bool)->Bool) (c:A->T):Prop:=∀(M:T->Prop) e f,g e f=true->(∀a,f a=true->M (c a))->M e
theorem Xp {T A:Type} {ix:T->Nat} {el:(e:T)->ix e=N->(A->Bool)->Bool} {c:A->T} (p:∀(M:T->Prop) e,ix e=N->(∀a,M (c a))->M e) (r:∀a q f,el (c a) q f=f a):V1 (i1 ix N el) c:=λM _ f h k=>(dt h).elim λq h=>p (λe=>∀q,el e q f=true->M e) _ q (λa q h=>k a ((r a q f).symm.trans h)) q h
def W1 {T A:Type} (g:T->(A->Bool)->Bool) (e:T) (f:A->Bool):Prop:=g e f=true
@[elab_as_elim] theorem V1.el {T A:Type} {g:T->(A->Bool)->Bool} {c:A->T} (v:V1 g c) {e:T} {f:A->Bool} {M:T->Prop} (h:W1 g e f) (k:∀a,f a=true->M (c a)):M e:=v M e f h k
noncomputable def i2 {T A B:Type} (ix:T->Nat) (N:Nat) (el:(e:T)->ix e=N->(A->B->Bool)->Bool) (e:T) (f:A->B->Bool):Bool:=if h:ix e=N then el e h f else false
def V2 {T A B:Type} (g:T->(A->B->Bool)->Bool) (c:A->B->T):Prop:=∀(M:T->Prop) e f,g e f=true->(∀a b,f a b=true->M (c a b))->M e
theorem EW {T A B:Type} {ix:T->Nat} {el:(e:T)->ix e=N->(A->B->Bool)->Bool} {c:A->B->T} (p:∀(M:T->Prop) e,ix e=N->(∀a b,M (c a b))->M e) (r:∀a b q f,el (c a b) q f=f a b):V2 (i2 ix N el) c:=λM _ f h k=>(dt h).elim λq h=>p (λe=>∀q,el e q f=true->M e) _ q (λa b q h=>k a b ((r a b q f).symm.trans h)) q h
def W2 {T A B:Type} (g:T->(A->B->Bool)->Bool) (e:T) (f:A->B->Bool):Prop:=g e f=true
@[elab_as_elim] theorem V2.el {T A B:Type} {g:T->(A->B->Bool)->Bool} {c:A->B->T} (v:V2 g c) {e:T} {f:A->B->Bool} {M:T->Prop} (h:W2 g e f) (k:∀a b,f a b=true->M (c a b)):M e:=v M e f h k
noncomputable def i3 {T A B C:Type} (ix:T->Nat) (N:Nat) (el:(e:T)->ix e=N->(A->B->C->Bool)->Bool) (e:T) (f:A->B->C->Bool):Bool:=if h:ix e=N then el e h f else false
def V3 {T A B C:Type} (g:T->(A->B->C->Bool)->Bool) (c:A->B->C->T):Prop:=∀(M:T->Prop) e f,g e f=true->(∀a b d,f a b d=true->M (c a b d))->M e
theorem sY {T A B C:Type} {ix:T->Nat} {el:(e:T)->ix e=N->(A->B->C->Bool)->Bool} {c:A->B->C->T} (p:∀(M:T->Prop) e,ix e=N->(∀a b d,M (c a b d))->M e) (r:∀a b d q f,el (c a b d) q f=f a b d):V3 (i3 ix N el) c:=λM _ f h k=>(dt h).elim λq h=>p (λe=>∀q,el e q f=true->M e) _ q (λa b d q h=>k a b d ((r a b d q f).symm.trans h)) q h
def W3 {T A B C:Type} (g:T->(A->B->C->Bool)->Bool) (e:T) (f:A->B->C->Bool):Prop:=g e f=true
@[elab_as_elim] theorem V3.el {T A B C:Type} {g:T->(A->B->C->Bool)->Bool} {c:A->B->C->T} (v:V3 g c) {e:T} {f:A->B->C->Bool} {M:T->Prop} (h:W3 g e f) (k:∀a b d,f a b d=true->M (c a b d)):M e:=v M e f h k
noncomputable def i4 {T A B C D:Type} (ix:T->Nat) (N:Nat) (el:(e:T)->ix e=N->(A->B->C->D->Bool)->Bool) (e:T) (f:A->B->C->D->Bool):Bool:=if h:ix e=N then el e h f else false
def V4 {T A B C D:Type} (g:T->(A->B->C->D->Bool)->Bool) (c:A->B->C->D->T):Prop:=∀(M:T->Prop) e f,g e f=true->(∀a b d h,f a b d h=true->M (c a b d h))->M e
theorem sZ {T A B C D:Type} {ix:T->Nat} {el:(e:T)->ix e=N->(A->B->C->D->Bool)->Bool} {c:A->B->C->D->T} (p:∀(M:T->Prop) e,ix e=N->(∀a b d g,M (c a b d g))->M e) (r:∀a b d g q f,el (c a b d g) q f=f a b d g):V4 (i4 ix N el) c:=λM _ f h k=>(dt h).elim λq h=>p (λe=>∀q,el e q f=true->M e) _ q (λa b d g q h=>k a b d g ((r a b d g q f).symm.trans h)) q h
def W4 {T A B C D:Type} (g:T->(A->B->C->D->Bool)->Bool) (e:T) (f:A->B->C->D->Bool):Prop:=g e f=true
@[elab_as_elim] theorem V4.el {T A B C D:Type} {g:T->(A->B->C->D->Bool)->Bool} {c:A->B->C->D->T} (v:V4 g c) {e:T} {f:A->B->C->D->Bool} {M:T->Prop} (h:W4 g e f) (k:∀a b d i,f a b d i=true->M (c a b d i)):M e:=v M e f h k
noncomputable def i5 {T A B C D E:Type} (ix:T->Nat) (N:Nat) (el:(e:T)->ix e=N->(A->B->C->D->E->Bool)->Bool) (e:T) (f:A->B->C->D->E->Bool):Bool:=if h:ix e=N then el e h f else false
def V5 {T A B C D E:Type} (g:T->(A->B->C->D->E->Bool)->Bool) (c:A->B->C->D->E->T):Prop:=∀(M:T->Prop) e f,g e f=true->(∀a b d h i,f a b d h i=true->M (c a b d h i))->M e
theorem Xq {T A B C D E:Type} {ix:T->Nat} {el:(e:T)->ix e=N->(A->B->C->D->E->Bool)->Bool} {c:A->B->C->D->E->T} (p:∀(M:T->Prop) e,ix e=N->(∀a b d g i,M (c a b d g i))->M e) (r:∀a b d g i q f,el (c a b d g i) q f=f a b d g i):V5 (i5 ix N el) c:=λM _ f h k=>(dt h).elim λq h=>p (λe=>∀q,el e q f=true->M e) _ q (λa b d g i q h=>k a b d g i ((r a b d g i q f).symm.trans h)) q h
def W5 {T A B C D E:Type} (g:T->(A->B->C->D->E->Bool)->Bool) (e:T) (f:A->B->C->D->E->Bool):Prop:=g e f=true
@[elab_as_elim] theorem V5.el {T A B C D E:Type} {g:T->(A->B->C->D->E->Bool)->Bool} {c:A->B->C->D->E->T} (v:V5 g c) {e:T} {f:A->B->C->D->E->Bool} {M:T->Prop} (h:W5 g e f) (k:∀a b d i j,f a b d i j=true->M (c a b d i j)):M e:=v M e f h k
def yy:=i3 lJ 19 λe h f=>aaM (motive_1:=λ_=>Bool) e h f
theorem A7:V3 yy .Constant:=sY (λM e=>aaM (motive_1:=M) e) λ_ _ _ _ _=>rfl
def kz:=i2 lJ 23 λe h f=>aaR (motive_1:=λ_=>Bool) e h f
theorem iG:V2 kz .Name:=EW (λM e=>aaR (motive_1:=M) e) λ_ _ _ _=>rfl
def Ba:=i3 lJ 25 λe h f=>aaU (motive_1:=λ_=>Bool) e h f
theorem Ep:V3 Ba .Tuple:=sY (λM e=>aaU (motive_1:=M) e) λ_ _ _ _ _=>rfl
def Vw:=i2 lJ 24 λe h f=>aaP (motive_1:=λ_=>Bool) e h f
theorem alT:V2 Vw .List:=EW (λM e=>aaP (motive_1:=M) e) λ_ _ _ _=>rfl
def U7:=i3 lJ 6 λe h f=>aaN (motive_1:=λ_=>Bool) e h f
theorem alN:V3 U7 .Dict:=sY (λM e=>aaN (motive_1:=M) e) λ_ _ _ _ _=>rfl
def yx:=i3 lJ 20 λe h f=>aaH (motive_1:=λ_=>Bool) e h f
theorem wB:V3 yx .Attribute:=sY (λM e=>aaH (motive_1:=M) e) λ_ _ _ _ _=>rfl
def En:=i3 lJ 21 λe h f=>aaT (motive_1:=λ_=>Bool) e h f
theorem Eo:V3 En .Subscript:=sY (λM e=>aaT (motive_1:=M) e) λ_ _ _ _ _=>rfl
def Vy:=i4 lJ 26 λe h f=>aaS (motive_1:=λ_=>Bool) e h f
theorem alV:V4 Vy .Slice:=sZ (λM e=>aaS (motive_1:=M) e) λ_ _ _ _ _ _=>rfl
def UZ:=i4 lJ 2 λe h f=>aaI (motive_1:=λ_=>Bool) e h f
theorem U0:V4 UZ .BinOp:=sZ (λM e=>aaI (motive_1:=M) e) λ_ _ _ _ _ _=>rfl
def Lb:=i3 lJ 3 λe h f=>aaV (motive_1:=λ_=>Bool) e h f
theorem Ld:V3 Lb .UnaryOp:=sY (λM e=>aaV (motive_1:=M) e) λ_ _ _ _ _=>rfl
def U4:=i3 lJ 0 λe h f=>aaJ (motive_1:=λ_=>Bool) e h f
theorem U6:V3 U4 .BoolOp:=sY (λM e=>aaJ (motive_1:=M) e) λ_ _ _ _ _=>rfl
def K8:=i4 lJ 15 λe h f=>aaL (motive_1:=λ_=>Bool) e h f
theorem Ek:V4 K8 .Compare:=sZ (λM e=>aaL (motive_1:=M) e) λ_ _ _ _ _ _=>rfl
def Vs:=i4 lJ 5 λe h f=>aaO (motive_1:=λ_=>Bool) e h f
theorem Vt:V4 Vs .IfExp:=sZ (λM e=>aaO (motive_1:=M) e) λ_ _ _ _ _ _=>rfl
def ux:=i4 lJ 16 λe h f=>aaK (motive_1:=λ_=>Bool) e h f
theorem sW:V4 ux .Call:=sZ (λM e=>aaK (motive_1:=M) e) λ_ _ _ _ _ _=>rfl
def K9:=i4 lJ 8 λe h f=>aaQ (motive_1:=λ_=>Bool) e h f
theorem Vv:V4 K9 .ListComp:=sZ (λM e=>aaQ (motive_1:=M) e) λ_ _ _ _ _ _=>rfl
def yD:=i3 qu 5 λe h f=>acd (motive_2:=λ_=>Bool) e h f
theorem yE:V3 yD .Assign:=sY (λM e=>acd (motive_2:=M) e) λ_ _ _ _ _=>rfl
def VG:=i4 qu 7 λe h f=>ace (motive_2:=λ_=>Bool) e h f
theorem al0:V4 VG .AugAssign:=sZ (λM e=>ace (motive_2:=M) e) λ_ _ _ _ _ _=>rfl
def Lg:=i2 qu 24 λe h f=>acg (motive_2:=λ_=>Bool) e h f
theorem VJ:V2 Lg .Expr:=EW (λM e=>acg (motive_2:=M) e) λ_ _ _ _=>rfl
def VL:=i4 qu 12 λe h f=>Stmt.If.elim (motive_2:=λ_=>Bool) e h f
theorem al2:V4 VL .If:=sZ (λM e=>Stmt.If.elim (motive_2:=M) e) λ_ _ _ _ _ _=>rfl
def VQ:=i4 qu 11 λe h f=>ack (motive_2:=λ_=>Bool) e h f
theorem al6:V4 VQ .While:=sZ (λM e=>ack (motive_2:=M) e) λ_ _ _ _ _ _=>rfl
def Lh:=i5 qu 9 λe h f=>Stmt.For.elim (motive_2:=λ_=>Bool) e h f
theorem VK:V5 Lh .For:=Xq (λM e=>Stmt.For.elim (motive_2:=M) e) λ_ _ _ _ _ _ _=>rfl
def Er:=i2 qu 3 λe h f=>acj (motive_2:=λ_=>Bool) e h f
theorem Li:V2 Er .Return:=EW (λM e=>acj (motive_2:=M) e) λ_ _ _ _=>rfl
def VH:=i1 qu 27 λe h f=>acf (motive_2:=λ_=>Bool) e h f
theorem al1:V1 VH .Continue:=Xp (λM e=>acf (motive_2:=M) e) λ_ _ _=>rfl
def VM:=i1 qu 25 λe h f=>ach (motive_2:=λ_=>Bool) e h f
theorem al3:V1 VM .Pass:=Xp (λM e=>ach (motive_2:=M) e) λ_ _ _=>rfl
def VO:=i3 qu 16 λe h f=>aci (motive_2:=λ_=>Bool) e h f
theorem al4:V3 VO .Raise:=sY (λM e=>aci (motive_2:=M) e) λ_ _ _ _ _=>rfl
def VP:=i5 qu 17 λe h f=>Stmt.Try.elim (motive_2:=λ_=>Bool) e h f
theorem al5:V5 VP .Try:=Xq (λM e=>Stmt.Try.elim (motive_2:=M) e) λ_ _ _ _ _ _ _=>rfl
noncomputable def iF {b:Type} (l:List b) (f:b->List b->Bool):Bool:=match l with | []=>false | a::r=>f a r
noncomputable def jh {a:Type} (l:List a) (b:Bool):Bool:=match l with | []=>b | _::_=>false
def jX {b:Type} (l:List b) (f:b->Bool):Bool:=iF l λa r=>jh r (f a)
noncomputable def iS {b:Type} (o:Option b) (f:b->Bool):Bool:=match o with | some a=>f a | none=>false
noncomputable def iN {a:Type} (o:Option a) (b:Bool):Bool:=match o with | some _=>false | none=>b
@[elab_as_elim] theorem sV {b:Type} {l:List b} {f:b->List b->Bool} {M:List b->Prop} (h:iF l f=true) (k:∀a r,f a r=true->M (a::r)):M l:=by cases l with | nil=>cases h | cons a r=>exact k a r h
@[elab_as_elim] theorem ji {a:Type} {l:List a} {M:List a->Prop} (h:jh l b=true) (k:b=true->M []):M l:=by cases l with | cons=>cases h | nil=>exact k h
@[elab_as_elim] theorem gU {b:Type} {l:List b} {f:b->Bool} {M:List b->Prop} (h:jX l f=true) (k:∀a,f a=true->M [a]):M l:=
 sV h λa r h=>ji h (k a)
@[elab_as_elim] theorem yr {b:Type} {o:Option b} {f:b->Bool} {M:Option b->Prop} (h:iS o f=true) (k:∀a,f a=true->M (some a)):M o:=by cases o with | none=>cases h | some a=>exact k a h
@[elab_as_elim] theorem UN {a:Type} {o:Option a} {M:Option a->Prop} (h:iN o b=true) (k:b=true->M none):M o:=by cases o with | some=>cases h | none=>exact k h
noncomputable def U8 (g:NH) (f:cg->cg->List cg->Int->Bool):Bool:=f g.1 g.2 g.3 g.4
@[elab_as_elim] theorem U9 {g:NH} {f:cg->cg->List cg->Int->Bool} {M:NH->Prop} (h:U8 g f=true) (k:∀a b c d,f a b c d=true->M ⟨a,b,c,d⟩):M g:=by induction g using Comprehension.casesOn;exact k _ _ _ _ h
noncomputable def Vr (g:Co) (f:Option cg->Option Str->List fw->Bool):Bool:=match g with | .ExceptHandler a b c _=>f a b c
@[elab_as_elim] theorem alQ {g:Co} {f:Option cg->Option Str->List fw->Bool} {M:Co->Prop} (h:Vr g f=true) (k:∀a b c d,f a b c=true->M (.ExceptHandler a b c d)):M g:=by induction g using ExceptHandler.casesOn;exact k _ _ _ _ h
noncomputable def oE (o:Option cg) (b:Bool) (f:cg->Bool):Bool:=match o with | some e=>f e | none=>b
noncomputable def Ir:CE->Bool
 |.cn=>true
 |.aq=>true
 |_=>false
mutual
def cY (sc:dW):CE->cg->Bool
 |.cn,e=>yy e λc _ _=>decide (c=.none)
 |.cb b,e=>yy e λc _ _=>decide (c=.bool b)
 |.ci i,e=>yy e λc _ _=>decide (c=.int i)
 |.cs s,e=>yy e λc _ _=>decide (c=.str ⟨s.toArray⟩)
 |.gi x i,e=>kz e λid _=>iH x id&&JB.contains (x,i)&&l9 sc id&&mx id
 |.v x,e=>kz e λid _=>iH x id&&rL sc id&&mx id&&!(id==("__classdict__":Str))
 |.aw es,e=>Ba e λl _ _=>qq l.length 1000&&jP sc es l
 |.lst es,e=>Vw e λl _=>qq l.length 1000&&jP sc es l
 |.mU,e=>U7 e λa b _=>jh a (jh b true)
 |.at o a,e=>yx e λd n _=>iH a n&&attrL.contains a&&BD d&&cY sc o d
 |.sub o i,e=>En e λd j _=>E7 j&&cY sc o d&&cY sc i j
 |.my o lo hi,e=>En e λd j _=>Vy j λl u st _=>iN st (cY sc o d&&oE l (Ir lo) (λe=>cY sc lo e)&&oE u (Ir hi) (λe=>cY sc hi e))
 |.aN op a b,e=>UZ e λl dT r _=>decide (op=dT)&&cY sc a l&&cY sc b r
 |.neg a,e=>Lb e λop x _=>decide (op=.USub)&&cY sc a x
 |.not a,e=>Lb e λop x _=>decide (op=.Not)&&cY sc a x
 |.bo op es,e=>U4 e λdT l _=>decide (op=dT)&&jP sc es l
 |.aP op a b,e=>K8 e λl v rs _=>jX v λdT=>jX rs λr=>decide (op=dT)&&p0 r&&cY sc a l&&cY sc b r
 |.o9 op dT a b c,e=>K8 e λl v rs _=>iF v λp q=>jX q λB=>iF rs λr q=>jX q λr'=>decide (op=p)&&decide (dT=B)&&p0 r&&p0 r'&&cY sc a l&&cY sc b r&&cY sc c r'
 |.dD c a b,e=>Vs e λt x y _=>cY sc c t&&cY sc a x&&cY sc b y
 |.call f es,e=>ux e λg l h _=>kz g λid _=>jh h (iH f id&&(ai f).isSome&&l9 sc id&&mx id&&jP sc es l)
 |.new c es,e=>ux e λg l h _=>kz g λid _=>jh h (iH c id&&(GG.init c).isSome&&l9 sc id&&mx id&&jP sc es l)
 |.meth o m es,e=>ux e λg l h p=>yx g λd n z=>jh h (iH m n&&BD d&&qq l.length 20&&(z.endLine==p.line)&&cY sc o d&&jP sc es l)
 |.bi b es,e=>ux e λg l h _=>kz g λid _=>jh h (qq b 9&&(xw b==id)&&l9 sc id&&mx id&&jP sc es l)
 |.comp di x it,e=>K9 e λA gs bX _=>jX gs λg=>U8 g λt w k a=>kz t λid _=>jh k (decide (a=0)&&(iH x id&&mx id&&It sc bX x&&p0 w&&cY bX di A&&cY sc it w))
 |.aq,_=>true
 |.nil,_=>true
 |.cons ..,_=>true
def jP (sc:dW):CE->List cg->Bool
 |.nil,l=>match l with | []=>true | _=>false
 |.cons a b,l=>match l with | e::r=>noStar e&&cY sc a e&&jP sc b r | []=>false
 |_,_=>false
end
def afy (sc:dW) (c:CE) (o:Option cg):Bool:=oE o (Ir c) λe=>cY sc c e
noncomputable def yV:cg->Bool
 |.ListComp .. | .SetComp .. | .DictComp ..=>false
 |_=>true
noncomputable def nu (sc:dW) (id:Str):Bool:=match sc.names.lookup id with
 |some .local | some .cell=>true
 |_=>false
def yR (sc:dW):List Nat->List cg->Bool
 |[],l=>jh l true
 |x::xs,l=>iF l λe es=>kz e λid _=>iH x id&&nu sc id&&yR sc xs es
noncomputable def Zh:cg->Bool
 |.Tuple vs _ _=>vs.all (foldedForSure 8)
 |_=>true
def MV (a:Nat) (n:Str) (tt:cg):Bool:=Ba tt λb _ _=>iF b λc q=>yy c λd _ _=>jX q λa0=>yx a0 λe at' _=>kz e λf _=>decide (d=.none)&&(decide (f=n)&&(iH a at'&&attrL.contains a))
theorem Vx (h:iH x id=true):x<NN/\nm x=id:=by unfold iH at h;simpa using h
theorem as1 {a:Nat} {n:Str} (h:MV a n tt=true):∃i j k l m o,tt=.Tuple [.Constant .none i j,.Attribute (.Name n k) (nm a) l] m o/\a<NN/\attrL.contains a=true:=by refine V3.el Ep h λp _ _ h=>sV h λr q h=>V3.el A7 h λs _ _ h=>gU h λa0 h=>V3.el wB h λt at' _ h=>V2.el iG h λu _ h=>bB (dP.mp h) λb h=>bB (dP.mp h) λc h=>bB (dP.mp h) λd e=>aa (of_decide_eq_true b) (aa (of_decide_eq_true c) ?_);refine bB (Vx d) λf g=>aa g <| sT _ _ _ _ _ _ ⟨rfl,f,e⟩
def Tv (sc:dW) (x a:Nat) (hd:Co):Bool:=Vr hd λd b bd=>iS d λt=>kz t λid _=>iS b λn=>jX bd λc=>Er c λo2 _=>iS o2 λtt=>
 decide (id=("DesignError":Str))&&(iH x n&&(MV a n tt&&(l9 sc id&&(mx id&&(mx n&&(!(n==("__classdict__":Str))&&decide (sc.names.lookup n=some .local)))))))
theorem akl {a:Nat} (h:Tv sc x a hd=true):∃m o p tt,hd=.ExceptHandler (some (.Name ("DesignError":Str) m)) (some (nm x)) [.Return (some tt) o] p/\x<NN/\MV a (nm x) tt=true/\l9 sc ("DesignError":Str)=true/\mx ("DesignError":Str)=true/\mx (nm x)=true/\(nm x==("__classdict__":Str))=false/\sc.names.lookup (nm x)=some .local:=by refine alQ h λs q bd _ h=>yr h λt h=>V2.el iG h λid _ h=>yr h λn h=>gU h λr h=>V2.el Li h λo2 _ h=>yr h λtt h=>bB (dP.mp h) λi h=>bB (dP.mp h) λj h=>bB (dP.mp h) λb h=>bB (dP.mp h) λc h=>bB (dP.mp h) λd h=>bB (dP.mp h) λe h=>bB (dP.mp h) λf g=>?_;have e0:=of_decide_eq_true i;rw [e0] at c d⊢;refine bB (Vx j) λk l=>?_;rw [<-l] at b e f g⊢;exact sS _ _ _ _ ⟨rfl,k,b,c,d,e,(Nz _).mp f,of_decide_eq_true g⟩
mutual
def Dd (sc:dW):CS->fw->Bool
 |.aq,_=>true
 |.nil,_=>false
 |.seq ..,_=>false
 |.aK x e,s=>yD s λd v _=>jX d λt=>kz t λid _=>iH x id&&nu sc id&&yV v&&cY sc e v
 |.mN x di y it,s=>yD s λd v _=>jX d λt=>kz t λid np=>K9 v λB gens bX u=>iH x id&&decide (sc.names.lookup id=some .local)&&(np.line==u.line)&&!(bX.names.any λy=>y.1==id&&(y.2==.local||y.2==.cell))&&cY sc (.comp di y it) (.ListComp B gens bX u)
 |.fC xs e,s=>yD s λd v _=>jX d λt=>Ba t λl _ _=>yR sc xs l&&yV v&&Zh v&&cY sc e v
 |.cP o a e,s=>yD s λd v _=>jX d λt=>yx t λh n _=>iH a n&&attrL.contains a&&yV v&&cY sc e v&&cY sc o h
 |.kR o i e,s=>yD s λd v _=>jX d λt=>En t λh j _=>E7 j&&yV v&&cY sc e v&&cY sc o h&&cY sc i j
 |.qH x op e,s=>VG s λt dT v _=>kz t λid _=>iH x id&&decide (sc.names.lookup id=some .local)&&decide (op=dT)&&cY sc e v
 |.eO e,s=>Lg s λv _=>yV v&&cY sc e v
 |.ext o e,s=>Lg s λv _=>ux v λg l m p=>yx g λh n w=>jh m (jX l λc=>ux c λg2 C z _=>kz g2 λid _=>jh z (jX C λq=>(n==("extend":Str))&&(id==("reversed":Str))&&l9 sc id&&BD h&&(w.endLine==p.line)&&noStar q&&cY sc o h&&cY sc e q))
 |.ite c a b,s=>VL s λt x y _=>cY sc c t&&jw sc a x&&jw sc b y
 |.uU c a,s=>VQ s λt x o _=>jh o (cY sc c t&&jw sc a x)
 |.fV x it a,s=>Lh s λt k b o _=>kz t λid _=>jh o (iH x id&&nu sc id&&p0 k&&cY sc it k&&jw sc a b)
 |.lZ xs it a,s=>Lh s λt k b o _=>Ba t λd _ _=>jh o (yR sc xs d&&p0 k&&cY sc it k&&jw sc a b)
 |.ret e,s=>Er s λo _=>iS o λv=>cY sc e v
 |.cont,s=>VH s λ_=>true
 |.BG,s=>VM s λ_=>true
 |.raise c es,s=>VO s λo h _=>iS o λx=>ux x λg l m _=>kz g λid _=>jh m (iN h (iH c id&&c==bQ&&l9 sc id&&mx id&&jP sc es l))
 |.w2 e x a,s=>VP s λb A o f _=>jX b λr=>Er r λD _=>iS D λv=>jX A λhd=>jh o (jh f (Tv sc x a hd&&cY sc e v))
def jw (sc:dW):CS->List fw->Bool
 |.nil,l=>match l with | []=>true | _=>false
 |.seq a b,l=>match l with | s::r=>Dd sc a s&&jw sc b r | []=>false
 |.aq,_=>true
 |_,_=>false
end
end
variable {n i n':Nat} {x y:AV} {N:aC} {M:iw} {Q:ah->ax->Prop} {h:dv} {mg:Str->Option ah} {l:List AV} {j:Int} {op:lI} {p:aC×aC} {A:dh}
section
variable {v:ah} {vs:List ah} {a:aC} {G:ah->Prop} {d:nO}
noncomputable def r8 (b:Nat):Value:=match b with
 |0=>.builtin "len" | 1=>.builtin "min" | 2=>.builtin "max" | 3=>.builtin "abs" | 4=>.type "range" | 5=>.type "list" | 6=>.type "tuple" | 7=>.builtin "sorted" | _=>.builtin "sum"
structure cL (I:KI):Prop where
 mg:zH I.K eN=true
 bl:zH I.K kN=true
 Zi:(I.K.lookup CP).isSome=true
 Kp:∀c∈gz,kb I.K (.ref (I.cls c)) "__getattribute__"=some (some (.builtin "object.__getattribute__"))
 TM:∀c∈gz,kb I.K (.ref (I.cls c)) "__getattr__"=some none
 Ut:∀c∈gz,kb I.K (.ref (I.cls c)) "__setattr__"=some (some (.builtin "object.__setattr__"))
 Uk:∀c∈gz,plainOver I.K (I.cls c)=true
 m6:∀c∈bQ::gz,(clsIn I.K (I.cls c)).any (·.hasDict)=true
 q7:∀c∈bQ::gz,∀a∈attrL,kb I.K (.ref (I.cls c)) (nm a)=some none
 VX:∀f,f<NN->(ai f).isSome=true->gR I.K eN (nm f)=some (some (.ref (I.fn f)))
 Ew:∀c∈bQ::gz,gR I.K eN (nm c)=some (some (.ref (I.cls c)))
 Lo:∀b,b<9->gR I.K eN (xw b)=some none/\gR I.K kN (xw b)=some (some (r8 b))
 Lu:gR I.K eN "reversed"=some none/\gR I.K kN "reversed"=some (some (.type "reversed"))
 VY:∀x i,JB.contains (x,i)=true->∃t,gR I.K eN (nm x)=some (some (.int i t))
 VZ:∀c∈gz,∀m f,GG.meth c m=some f->kb I.K (.ref (I.cls c)) (nm m)=some (some (.ref (I.fn f)))/\m<NN
 yG:∀f,(ai f).isSome=true->∃oc od fd sl,I.K.lookup (I.fn f)=some ⟨oc,od,.func fd,sl⟩/\oc=.type "function"
 Lq:∀c m f,GG.meth c m=some f->(ai f).isSome=true
 kin:∀c f,GG.init c=some f->c∈gz/\(ai f).isSome=true/\kb I.K (.ref (I.cls c)) "__init__"=some (some (.ref (I.fn f)))/\makesIn I.K (I.cls c)=true
 LX:nm GG.mi.append="append"/\nm GG.mi.pop="pop"/\nm GG.mi.reverse="reverse"/\nm GG.mi.get="get"
 rE:∀a b,a<NN->b<NN->nm a=nm b->a=b
theorem cX {b:Type} {a:b} {G:Prop} (e:none=some a):G:=nomatch e
theorem gF {G:Prop} (e:false=true):G:=nomatch e
theorem pQ {a:Type} {c:Prop} [Decidable c] {o b:a} {G:Prop} (h:(if c then some o else none)=some b) (k:c->o=b->G):G:=by
 by_cases q:c
 . rw [if_pos q] at h;exact k q (eM h)
 . rw [if_neg q] at h;exact cX h
theorem ifN {a:Type} {c:Prop} [Decidable c] {o:Option a} {b:a} {G:Prop} (h:(if c then none else o)=some b) (k:¬c->o=some b->G):G:=by
 by_cases q:c
 . rw [if_pos q] at h;exact cX h
 . rw [if_neg q] at h;exact k q h
theorem Ej {a:Type} {c:Prop} [Decidable c] {o b:a} {r:Option a} {G:Prop} (h:(if c then some o else r)=some b) (k:c->o=b->G) (k':r=some b->G):G:=by
 by_cases q:c
 . rw [if_pos q] at h;exact k q (eM h)
 . rw [if_neg q] at h;exact k' h
theorem xu {R:Type} {d:R} {f:List AV->R} {M:R->Prop} (k:∀l,O[r]?=some (.lst l)->M (f l)) (k':M d):M (aL d O r f):=by
 delta aL;generalize O[r]?=a at k⊢;induction a using aW with
 |none=>exact k'
 |some o=>
  induction o using aV.casesOn with
  |lst l=>exact k l rfl
  |_=>exact k'
theorem jj {x:Nat} (h:iH x id=true):x<NN/\nm x=id:=by unfold iH at h;refine bB (dP.mp h) λa b=>⟨vh a,eq_of_beq b⟩
theorem F0 {x:Nat} {v:AV} (L:gK P W ae loc) (J:aF prog w I P W O s.heap) (g:x<NN) (m:rL ae.scope (nm x)=true) (f:lk x loc=some v)
 (r:(nm x==("__classdict__":Str))=false) (h:∀u,VR W v u->Q u s):aY M A (zE ae (nm x)) Q E s:=by
 refine oO L.lo λc es ep n p q=>?_;unfold rL at m;generalize e:ae.scope.names.lookup (nm x)=y at m;induction y using aW with
 |none=>contradiction
 |some k=>
  have d:=e;induction k using zp with
  |«local»=>refine aQ (q x v g f d) λu a b=>ct (J.pfr _ _ _ n) λo t o2 o3=>acD L.fn d ⟨o,es,ep,t,o3,p,λ_=>rfl⟩ a (h u b)
  |cell=>refine fv (L.ce x v g f (.inl d)) λc u o i j l z=>wpAny_loadName_cell L.fn d i ⟨o,J.pex _ _ j,l⟩ (h u z)
  |free=>refine fv (L.ce x v g f (.inr d)) λc u o i j l z=>wpAny_loadName_free L.fn d i ⟨o,J.pex _ _ j,l⟩ (h u z) r
  |_=>contradiction
theorem XF {K:ql} {n:Str} (X:K.In h) (G:h.Ns N mg) (e:gR K N n=some (some v)):mg n=some v:=by
 refine fv G λo es ep i b _ g=>?_;delta gR at e;generalize q:K.lookup N=a at e;induction a using aW with
 |none=>exact cX e
 |some j=>
  obtain rfl:=eM (i.symm.trans (X _ _ q));obtain ⟨c,d,dt,sl⟩:=o;replace b:dt=_:=b;subst b;replace e:(match aba (λx:tq=>x.key.isStr n) es.toList with | some e=>some (some e.val) | none=>if (es.toList.any λx=>x.refKey)=true then none else some none)=some (some v):=e;generalize f:aba (λx:tq=>x.key.isStr n) es.toList=a at e;induction a using aW with
  |some en=>
   (injection e with e;injection e with e;subst e)
   refine ((g ..).symm).trans ?_;unfold qw G5;rw [<-aax,f];rfl
  |none=>generalize List.any es.toList (λx=>x.refKey)=a at e;induction a using dy<;>cases e
theorem Si (L:gK P W ae loc) (a:l9 ae.scope id=true) (h:aY M A (loadGlobal ae id) Q E s):aY M A (zE ae id) Q E s:=by have b:ae.kindOf id=some .globalImplicit:=eq_of_beq a;delta zE Env.blockKind;refine aa b (aa L.fn ?_);exact h
theorem Az (K:cL I) (L:gK P W ae loc) (J:aF prog w I P W O s.heap) (a:l9 ae.scope id=true) (e:gR I.K eN id=some (some v)) (h:Q v s):
 aY M A (zE ae id) Q E s:=by
 refine Si L a ?_;have G:s.heap.Ns eN _:=.of_isNs (CN J.K K.mg);exact loadGlobal_global (by refine aa L.gl ?_;exact G) (XF J.K G e) h
theorem PT (K:cL I) (L:gK P W ae loc) (J:aF prog w I P W O s.heap) (b:l9 ae.scope id=true) (e:gR I.K eN id=some none) (a:gR I.K kN id=some (some v)) (h:Q v s):
 aY M A (zE ae id) Q E s:=by
 refine Si L b ?_;have G:s.heap.Ns eN _:=.of_isNs (CN J.K K.mg);have B:s.heap.Ns kN _:=.of_isNs (CN J.K K.bl);exact loadGlobal_builtin (by refine aa L.gl ?_;exact G) (ns_none_of J.K G e) (by refine aa L.bl ?_;exact B) (XF J.K B a) h
theorem yT {vs:List AV} {xs:List ah} (J:aF prog w I P W O s.heap) (r:bz W vs xs) (b:vs.length<=SZ)
 (h:∀W' u s',W.le W'->aF prog w I P W' O s'.heap->VR W' (.aw vs) u->dF s s'->Q u s'):Q (.ref s.heap.objs.size) {s with heap:=s.heap.push {cls:=.type "tuple",data:=.seq xs.toArray}}:=by
 have f:=J.fresh (bT _);have k:=kF s.heap {cls:=.type "tuple",data:=.seq xs.toArray};have a:=J.imm (bT _) k (nI _ rfl);exact h _ _ _ (Wd.Bp f.1) a (.aw (Wd.UP ..) b (r.mono (Wd.Bp f.1))) ⟨rfl,rfl⟩
theorem OR.mu {xs:List ah} (r:bz W l xs) (a:l.length<=SZ):OR prog w I W (h.objs.size,h.objs.size) (h.push {cls:=.type "list",data:=.seq xs.toArray}) (.lst l):=
 ⟨rfl,xs,0,nI _ rfl,r,a⟩
theorem E5 {xs:List ah} (J:aF prog w I P W O s.heap) (r:bz W l xs) (b:l.length<=SZ) (h:Ends prog w I P W s VR (ig (.lst l) O) Q E):
 Q (.ref s.heap.objs.size) {s with heap:=s.heap.push {cls:=.type "list",data:=.seq xs.toArray}}:=by
 have a:=J.new (bT _) (bT _) (kF s.heap {cls:=.type "list",data:=.seq xs.toArray}) (OR.mu (r.mono (W.le_add _)) b);refine Ends.ok h (W.le_add _) a ?_ ⟨rfl,rfl⟩;have:=VR.ref (W:=W.add (s.heap.objs.size,s.heap.objs.size)) (W.add_at _);rw [J.len] at this;exact this
theorem anS (J:aF prog w I P W O s.heap) (h:Ends prog w I P W s VR (ig (.dI []) O) Q E):
 Q (.ref s.heap.objs.size) {s with heap:=s.heap.push {cls:=.type "dict",data:=.dict #[]}}:=by
 have a:=J.new (p:=(s.heap.objs.size,s.heap.objs.size)) (o:=.dI []) (bT _) (bT _) (kF s.heap {cls:=.type "dict",data:=.dict #[]})
  ⟨rfl,⟨[],aaX _,.nil⟩,λ_=>aaX _⟩
 refine Ends.ok h (W.le_add _) a ?_ ⟨rfl,rfl⟩;have:=VR.ref (W:=W.add (s.heap.objs.size,s.heap.objs.size)) (W.add_at _);rw [J.len] at this;exact this
theorem VR.lst {r:Nat} {l:List AV} {u:ah} (J:aF prog w I P W O s.heap) (h:VR W (.ref r) u) (e:O[r]?=some (.lst l)):
 ∃a vs n,u=.ref a/\W.μ[r]?=some (a,a)/\s.heap.get? a=some {cls:=.type "list",data:=.seq vs.toArray n}/\bz W l vs/\l.length<=SZ:=by
 refine aQ h.lE λp hp b=>?_;refine aa b ?_
 . obtain ⟨c,vs,n,g,q⟩:=J.obj _ _ _ e hp;refine d9 p.1 vs n ⟨rfl,?_,g,q⟩;refine hp.trans ?_;exact congrArg some (Prod.ext rfl c)
theorem nk (g:h.get? a=some {cls:=.type "list",data:=.seq vs.toArray n}):h.IsList a vs.toArray:=⟨_,g,rfl,n,rfl⟩
theorem VR.tp {u:ah} (J:aF prog w I P W O s.heap) (h:VR W (.aw l) u):
 ∃a vs n,u=.ref a/\s.heap.get? a=some {cls:=.type "tuple",data:=.seq vs.toArray n}/\bz W l vs/\l.length<=SZ:=by
 cases h with
 |aw g z r=>exact d9 _ _ _ ⟨rfl,J.con _ _ g,r,z⟩
@[elab_as_elim] theorem VR.wZ {u:ah} {M:ah->Prop} (h:VR W (.aw l) u) (J:aF prog w I P W O s.heap) (k:∀a vs n,s.heap.get? a=some {cls:=.type "tuple",data:=.seq vs.toArray n}->bz W l vs->l.length<=SZ->M (.ref a)):M u:=by refine fv (h.tp J) λa vs n e g r z=>aa e <| k a vs n g r z
@[elab_as_elim] theorem VR.lg {u:ah} {M:ah->Prop} (h:VR W (.ref r) u) (J:aF prog w I P W O s.heap) (e:O[r]?=some (.lst l)) (k:∀a vs n,W.μ[r]?=some (a,a)->s.heap.get? a=some {cls:=.type "list",data:=.seq vs.toArray n}->bz W l vs->l.length<=SZ->M (.ref a)):M u:=by refine ti (h.lst J e) λa vs n e hp g r z=>aa e <| k a vs n hp g r z
theorem rn (g:h.get? a=some {cls:=.type "tuple",data:=.seq vs.toArray n}):h.IsTuple a vs.toArray:=⟨_,g,rfl,n,rfl⟩
theorem CY {R:Type} {d:R} {v:AV} {f:Int->R} {M:R->Prop} (k:∀i,v=.int i->M (f i)) (k':M d):M (aI d v f):=by
 induction v using AV.casesOn with
 |int i=>exact k i rfl
 |_=>exact k'
@[elab_as_elim] theorem a2E {R:Type} {d:R} {vs:List AV} {xs:List ah} {f:AV->AV->R} {M:R->Prop} {G:List ah->Prop} (r:bz W vs xs) (h:M (Hq d vs f)) (k0:M d->False)
 (k:∀x u y v,VR W x u->VR W y v->M (f x y)->G [u,v]):G xs:=by
 cases r with
 |nil=>exact (k0 h).elim
 |cons a r=>
  cases r with
  |nil=>exact (k0 h).elim
  |cons b r=>
   cases r with
   |nil=>exact k _ _ _ _ a b h
   |cons=>exact (k0 h).elim
theorem ZU {R:Type} {aq e:R} {f:AV->R} {t:Option (Option AV)} {M:R->Prop} {G:Prop} (h:M (wY aq e f t)) (k0:M aq->G) (k1:t=some none->M e->G) (k2:∀v,t=some (some v)->M (f v)->G):G:=by
 induction t using aW with
 |none=>exact k0 h
 |some t=>
  induction t using aW with
  |none=>exact k1 rfl h
  |some v=>exact k2 v rfl h
theorem MU {v:AV} {u:ah} {Q:Bool->ax->Prop} (J:aF prog w I P W O s.heap) (c:VR W v u) (h:Ends prog w I P W s (λ_ a b=>a=b) (.dc (j1 O v) O) Q E):aY (aZ prog w) A (Hg u) Q E s:=by
 induction v using AV.casesOn with
 |none=>obtain rfl:=c.yU;exact bD (Ends.here h J rfl)
 |bool b=>obtain rfl:=c.PV;exact bD (Ends.here h J rfl)
 |int i=>refine a8 c.jW λ_ f=>?_;refine aa f ?_;rename_i t;refine PySem.P.truthy_int (Ends.here h J ?_);by_cases hi:i=0<;>simp [hi]
 |ref r=>
  refine xu (d:=none) (M:=λo=>Ends prog w I P W s (λ_ a b=>a=b) (.dc o O) Q E->_) (λl e h=>?_) (λh=>iu h) h;refine c.lg J e λa vs n hp g r k=>?_;have j:vs.toArray.size=l.length:=by refine j9.trans ?_;exact r.length
  refine wpAny_truthy_list (nk g) (by refine aa j ?_;unfold SZ at k;lia) (Ends.tok h J ?_);cases r<;>rfl
 |_=>exact h.elim
theorem FG {a:Int} (h:rK a=true):a.natAbs<2^64:=of_decide_eq_true h
theorem amZ (h:n<2^64):n.log2<9000:=by
 by_cases a:n=0
 . refine aa a ?_;decide
 . have:=(Nat.log2_lt a).mpr h;exact ao 0x46509e4028d00bc80111 this
theorem o4 (h:n<=SZ):n<=sizeLine:=by refine aa mG ?_;unfold SZ at h;exact ao 0x2000000fe4020c61a817c80011 h
theorem pS {i:Int} {t:Nat} (J:aF prog w I P W O s.heap) (h:Ends prog w I P W s VR (.ok (.int i) O) Q E) (e:j=i:=by rfl):Q (.int j t) {s with toks:=s.toks+1}:=by refine aa e <| Ends.tok h J (.int _ _)
theorem afs {l b:aC} {ws:List ah} (a:s.heap.get? l=some {cls:=.type "list",data:=.seq vs.toArray n}) (hb:s.heap.get? b=some {cls:=.type "list",data:=.seq ws.toArray n'})
 (c:vs.length+ws.length<=qy) (h:Q (.ref s.heap.objs.size) {s with heap:=s.heap.push {cls:=.type "list",data:=.seq (vs++ws).toArray}}):
 aY (aZ prog w) A (xi .Add (.ref l) (.ref b)) Q E s:=by
 have e:vs.toArray++ws.toArray=(vs++ws).toArray:=by simp
 exact concat_meets ⟨_,a,rfl⟩ ⟨_,hb,rfl⟩ noFill_list_add seq_list_add PySem.F.slot_list_add PySem.F.entry_list_add (PySem.F.args_list_add_2 _ _)
  (list_addW l b vs.toArray ws.toArray n n' none none #[] #[] (by simpa using c)) ⟨a,hb,by refine aa e ?_;exact h⟩
theorem aft {l b:aC} {ws:List ah} (a:s.heap.get? l=some {cls:=.type "tuple",data:=.seq vs.toArray n}) (hb:s.heap.get? b=some {cls:=.type "tuple",data:=.seq ws.toArray n'})
 (k:vs.length+ws.length<=qy) (i:vs=[]->Q (.ref b) s) (j:ws=[]->Q (.ref l) s) (h:Q (.ref s.heap.objs.size) {s with heap:=s.heap.push {cls:=.type "tuple",data:=.seq (vs++ws).toArray}}):
 aY (aZ prog w) A (xi .Add (.ref l) (.ref b)) Q E s:=by
 have e:vs.toArray++ws.toArray=(vs++ws).toArray:=by simp
 have d:∀{S:PySem.Spec},Meets (mA.«tuple.__add__» ⟨[.ref l,.ref b],[]⟩) S->S A (wants Q E) s->aY (aZ prog w) A (xi .Add (.ref l) (.ref b)) Q E s:=λg x=>
  concat_meets ⟨_,a,rfl⟩ ⟨_,hb,rfl⟩ noFill_tuple_add seq_tuple_add PySem.F.slot_tuple_add PySem.F.entry_tuple_add (PySem.F.args_tuple_add_2 _ _) g x
 by_cases c:vs=[]
 . exact d (tuple_addW0 l b vs.toArray ws.toArray n n' none none #[] #[] (by simp [c])) ⟨a,hb,i c⟩
 . by_cases f:ws=[]
   . exact d (tuple_addW1 l b vs.toArray ws.toArray n n' none none #[] #[] (by simp [c]) (by simp [f])) ⟨a,hb,j f⟩
   . exact d (tuple_addW2 l b vs.toArray ws.toArray n n' none none #[] #[] (by simp [c]) (by simp [f]) (by simpa using k)) ⟨a,hb,by refine aa e ?_;exact h⟩
theorem apL {l:aC} {x:ah} {k:Int} {u:Tok} (a:s.heap.get? l=some {cls:=.type "list",data:=.seq [x].toArray n}) (f:k<=SZ) (i:-(2^63)<=k)
 (h:Q (.ref s.heap.objs.size) {s with heap:=s.heap.push {cls:=.type "list",data:=.seq (gX k.toNat x).toArray}}):aY (aZ prog w) A (xi .Mult (.ref l) (.int k u)) Q E s:=by
 have d:k<=100000:=f;have e:(abd (λb c=>b++c) #[] (gX (if ([x].toArray:Array ah).isEmpty=true then 0 else k.toNat) [x].toArray):Array ah)=(gX k.toNat x).toArray:=by
  have e1:(if ([x].toArray:Array ah).isEmpty=true then 0 else k.toNat)=k.toNat:=by rfl
  refine aa e1 ?_;generalize k.toNat=m;have:∀(m:Nat) (az:List ah),abd (λb c=>b++c) az.toArray (gX m [x].toArray)=(az++gX m x).toArray:=by
   intro m;induction m with
   |zero=>intro az;simp
   |succ m g=>
    intro az;refine bA abx ((NT).trans ?_);have:(az.toArray++[x].toArray:Array ah)=(az++[x]).toArray:=by simp
    refine aa (this ..) (aa (g ..) (aa (abx ..) ?_));simp
  have:=this m [];simpa using this
 exact wpAny_binaryOp_repeat_ref (U:="int") ag ⟨_,a,rfl⟩ (λs'=>typeIs_int s' k u) noFill_list_mul F.fills_int_mul F.slot_int_rmul repeat_list F.slot_int_index.lookup
  (CK F.slot_int_rmul (typeIs_int s k u) F.entry_int_rmul (F.args_int_rmul_2 _ _) (int___rmul___int_list k u l [x].toArray n)
    ⟨a,rfl,⟨_,a,rfl⟩,CK F.slot_list_mul ⟨_,a,rfl⟩ F.entry_list_mul (F.args_list_mul_2 _ _)
      (AutoListH.list___mul___list_int_3 l [x].toArray n k u (by simp [Gr];lia) (by simp<;>exact cJ 0x1ffffffffffffffffe4060c61a817c80811 d) (by simp [Gs,qy];exact cJ 0x2000000fe4060c61a817c80811 d))
      ⟨a,by refine aa e ?_;exact h⟩⟩)
section
variable {u:ah}
@[elab_as_elim] theorem eI {f:Int->aJ AV} (b:VR W x u) (h:Ends prog w I P W s VR (aI .aq x f) Q E) (k:∀a t,Ends prog w I P W s VR (f a) Q E->G (.int a t)):G u:=by cases b<;>first | exact k _ _ h | exact (show False from h).elim
theorem eR {f:Nat->aJ AV} {G:Prop} (a:VR W x u) (h:Ends prog w I P W s VR (aR .aq x f) Q E) (k:∀r,VR W (.ref r) u->Ends prog w I P W s VR (f r) Q E->G):G:=by induction x using AV.casesOn<;>first | exact k _ a h | exact (show False from h).elim
theorem eL {f:List AV->aJ AV} {G:Prop} (h:Ends prog w I P W s VR (aL .aq O r f) Q E) (k:∀l,O[r]?=some (.lst l)->Ends prog w I P W s VR (f l) Q E->G):G:=
 xu (M:=λo=>Ends prog w I P W s VR o Q E->G) k (λh=>by exact iu h) h
theorem eD {f:List (Int×AV)->aJ AV} {G:Prop} (h:Ends prog w I P W s VR (aD .aq O r f) Q E) (k:∀l,O[r]?=some (.dI l)->Ends prog w I P W s VR (f l) Q E->G):G:=by
 delta aD at h;generalize O[r]?=a at h k;induction a using aW with
 |none=>exact h.elim
 |some o=>
  induction o using aV.casesOn with
  |dI l=>exact k l rfl h
  |_=>exact h.elim
theorem hG {c:Prop} [Decidable c] {a:aJ AV} {G:Prop} (h:Ends prog w I P W s VR (if c then a else .aq) Q E) (k:c->Ends prog w I P W s VR a Q E->G):G:=by
 split at h
 . rename_i q;exact k q h
 . exact h.elim
theorem eIn {c:Prop} [Decidable c] {a:aJ AV} {G:Prop} (h:Ends prog w I P W s VR (if c then .aq else a) Q E) (k:¬c->Ends prog w I P W s VR a Q E->G):G:=by
 split at h
 . exact h.elim
 . rename_i q;exact k q h
end
theorem adg {u:ah} (J:aF prog w I P W O s.heap) (l:VR W x u) (d:VR W y v) (h:Ends prog w I P W s VR (Px x y O) Q E):
 aY (aZ prog w) A (xi .Add u v) Q E s:=by
 induction x using AV.casesOn with
 |int a=>refine a8 l.jW λ_ f=>?_;refine aa f ?_;exact eI d h λb t h=>add_int (pS J h)
 |str a=>
  induction y using AV.casesOn with
  |str b=>
   refine a8 l.nG λ_ f=>?_;refine aa f ?_;refine a8 d.nG λ_ f=>?_;refine aa f ?_;refine hG h λc h=>add_str (λF K=>?_) (by simp only [Str.length,j9];exact o4 c);refine Ends.tok h J ?_;have:(⟨a.toArray⟩:Str)++(⟨b.toArray⟩:Str)=⟨(a++b).toArray⟩:=by show Str.mk (a.toArray++b.toArray)=_;simp
   refine aa this ?_;exact .str _ _
  |_=>exact (show False from h).elim
 |aw a=>
  induction y using AV.casesOn with
  |aw b=>
   refine hG h λc h=>fv (l.tp J) λla vs n o g r z=>?_;subst o;refine fv (d.tp J) λD ws n' m p r' G=>?_;subst m;refine aft g p (by refine aa r.length (aa r'.length ?_);exact o4 c) (λe=>?_) (λe=>?_) ?_
   . subst e;cases r;exact Ends.here h J d
   . subst e;cases r';exact Ends.here h J (by simpa using l)
   . exact yT J (r.append r') (by refine aa eC ?_;exact c) (λW' u s' le B q k=>h W' u s' le B q k)
  |_=>exact (show False from h).elim
 |ref i=>refine eR d h λj d h=>eL h λa e h=>eL h λb C h=>l.lg J e λla vs n hp g r z=>d.lg J C λD ws n' H p r' G=>hG h λc h=>afs g p (by refine aa r.length (aa r'.length ?_);rw [eC] at c;exact o4 c) (E5 J (r.append r') c h)
 |_=>exact (show False from h).elim
theorem anq {u:ah} (J:aF prog w I P W O s.heap) (d:VR W x u) (m:VR W y v) (h:Ends prog w I P W s VR (Xn x y O) Q E):
 aY (aZ prog w) A (xi .Mult u v) Q E s:=by
 refine eI m h λk t h=>?_;induction x using AV.casesOn with
 |int a=>refine a8 d.jW λ_ f=>?_;refine aa f ?_;exact hG h λb h=>mul_int (pS J h) (IntMulOk.of_right (by have:=FG b;exact intBits_le_64 (by lia) (by lia)))
 |ref i=>
  refine eL h λl e h=>d.lg J e λla vs n hp g r z=>?_;induction l using cK with
  |nil=>exact (show False from h).elim
  |cons v l=>
   induction l using cK with
   |cons=>exact (show False from h).elim
   |nil=>
    refine hG h λb h=>?_;cases r with
    |cons j r=>cases r;exact hG h λc h=>apL g b.2 b.1 (E5 J (bz.replicate j _) c h)
 |_=>exact (show False from h).elim
theorem adG {op:oS} {u:ah} (J:aF prog w I P W O s.heap) (d:VR W x u) (e:VR W y v) (h:Ends prog w I P W s VR (dg op x y O) Q E):
 aY (aZ prog w) A (xi op u v) Q E s:=by
 induction op using abT with
 |Add=>exact adg J d e h
 |Sub=>exact eI d h λa t h=>eI e h λb f h=>sub_int (pS J h)
 |Mult=>exact anq J d e h
 |FloorDiv=>exact eI d h λa t h=>eI e h λb f h=>hG h λc h=>floordiv_int c.1 (pS J h) (.inl (PyProof.noPylong_of_log2 (amZ (FG c.2))))
 |Mod=>exact eI d h λa t h=>eI e h λb f h=>eIn h λc h=>mod_int' c (pS J h)
 |Pow=>exact eI d h λa t h=>eI e h λb f h=>hG h λc h=>pow_int_small c.1 (cJ 0x1e8480be4060cfa0fc80811 c.2.1) (FG c.2.2) (pS J h)
 |LShift=>exact eI d h λa t h=>eI e h λb f h=>hG h λc h=>lshift_int_small c.1 (cJ 0x1e8480be4060cfa0fc80811 c.2.1) (FG c.2.2) (pS J h)
 |RShift=>exact eI d h λa t h=>eI e h λb f h=>hG h λc h=>rshift_int c (pS J h)
 |BitAnd=>exact eI d h λa t h=>eI e h λb f h=>and_int (pS J h)
 |BitOr=>exact eI d h λa t h=>eI e h λb f h=>or_int (pS J h)
 |BitXor=>exact eI d h λa t h=>eI e h λb f h=>xor_int (pS J h)
 |_=>exact (show False from h).elim
theorem Fy (i:∀{v:AV} {u:ah} {d:nO},VR W v u->fs n O v=some d->∃a,Reads s.heap u d a) {xs:List ah} (r:bz W l xs):
 ∀{ds:List nO},l.mapM (fs n O)=some ds->∃a,ReadsAll s.heap xs ds a:=
 bz.pR (M:=λl xs=>∀{ds:List nO},l.mapM (fs n O)=some ds->∃a,ReadsAll s.heap xs ds a) (λh=>eM h▸⟨_,ReadsAll.nil⟩) (λ{v _ l _} g _ b ds h=>by
  rw [Cv] at h;generalize e:fs n O v=j at h;induction j using aW with
  |none=>exact cX h
  |some d=>replace h:(l.mapM (fs n O)).bind (λc=>some (d::c))=some ds:=h;refine aQ (GX.mp h) λc f q=>?_;obtain rfl:=eM q;refine a8 (i g e) λa q=>a8 (b f) λbs p=>⟨_,ReadsAll.cons q p⟩) r
theorem YB {v:AV} {u:ah} (a:VR W v u) (h:Mt v=some d):∃c,Reads s.heap u d c:=by
 induction v using AV.casesOn with
 |none=>refine aa a.yU (aa (eM h).symm ?_);exact ⟨_,.none⟩
 |bool b=>refine aa a.PV (aa (eM h).symm ?_);exact ⟨_,.bool b⟩
 |int i=>refine a8 a.jW λt e=>aa e (aa (eM h).symm ?_);exact ⟨_,.int i _⟩
 |str x=>refine a8 a.nG λt e=>aa e (aa (eM h).symm ?_);exact ⟨_,.str _ _⟩
 |_=>exact cX h
theorem oL {a:Type} {f:List AV->Option a} {b:a} {G:Prop} (e:aL none O r f=some b) (k:∀l,O[r]?=some (.lst l)->f l=some b->G):G:=by exact xu (M:=λo=>o=some b->G) k cX e
theorem wN (J:aF prog w I P W O s.heap) (n):∀{v:AV} {u:ah} {d:nO},VR W v u->fs n O v=some d->∃b,Reads s.heap u d b:=by
 induction n with
 |zero=>exact YB
 |succ n f=>
  intro v u d c h;induction v using AV.casesOn with
  |aw l=>refine aQ (gJ.mp h) λds e q=>aa q.symm <| c.wZ J λa vs k g r z=>a8 (Fy f r e) λb q=>⟨b,reads_tuple_at g rfl rfl (by simpa using q)⟩
  |ref i=>refine oL h λl e h=>aQ (gJ.mp h) λds j q=>aa q.symm <| c.lg J e λa vs k hp g r z=>a8 (Fy f r j) λb q=>⟨_,reads_list_at g rfl rfl (by simpa using q)⟩
  |_=>exact YB c h
theorem bb {a g i:Type} {o:Option a} {p:Option g} {c:a->g->Bool} {f:a->g->i} {b:i} {G:i->Prop} (h:(o.bind λd=>p.bind λe=>if c d e then some (f d e) else none)=some b)
 (k:∀d e,o=some d->p=some e->c d e=true->G (f d e)):G b:=by
 induction o using aW with
 |none=>exact cX h
 |some d=>
  induction p using aW with
  |none=>exact cX h
  |some e=>
   replace h:(if c d e then some (f d e) else none)=some b:=h;generalize q:c d e=j at h;induction j using dy with
   |false=>exact cX h
   |true=>exact eM h▸k d e rfl rfl q
theorem agG {u:ah} (J:aF prog w I P W O s.heap) (g:VR W x u) (i:VR W y v) (k:A.units+64<zB) (e:DB O x y=some b) (h:Q (.bool b) s):
 aY (aZ prog w) A (xj .Eq u v) Q E s:=by
 have D:ph O x y=some b->aY (aZ prog w) A (xj .Eq u v) Q E s:=λe=>by refine bb (G:=λb=>Q (.bool b) s->_) e (λd r e1 e2 j h=>?_) h;refine bB (dP.mp j) λm l=>a8 (wN J 8 g e1) λp n=>a8 (wN J 8 i e2) λbs o=>eq_dataH n o m l k h
 induction x using AV.casesOn with
 |str a=>
  induction y using AV.casesOn with
  |str b=>
   refine a8 g.nG λ_ c=>?_;refine aa c ?_;refine a8 i.nG λ_ c=>?_;subst c;obtain rfl:=eM e;refine PyProof.Rows.eq_str ?_;have:((⟨a.toArray⟩:Str)==⟨b.toArray⟩)=decide (a=b):=by
    by_cases f:a=b
    . refine aa f ?_;simp
    . simp only [decide_eq_false f,beq_eq_false_iff_ne];intro q;apply f;have:=congrArg (λz:Str=>z.cps.toList) q;simpa using this
   refine aa (this ..) (aa (xZ ..).symm ?_);exact h
  |_=>exact D e
 |int a=>
  induction y using AV.casesOn with
  |int b=>
   refine a8 g.jW λ_ c=>?_;refine aa c ?_;refine a8 i.jW λ_ c=>?_;refine aa c ?_;obtain rfl:=eM e;refine PyProof.Rows.eq_int ?_;have:(a==b)=decide (a=b):=by by_cases f:a=b<;>simp [f]
   refine aa this ?_;exact h
  |_=>exact D e
 |_=>exact D e
theorem anM {u:ah} (J:aF prog w I P W O s.heap) (g:VR W x u) (i:VR W y v) (k:A.units+64<zB) (e:DB O x y=some b) (h:Q (.bool !b) s):
 aY (aZ prog w) A (xj .NotEq u v) Q E s:=by
 have D:ph O x y=some b->aY (aZ prog w) A (xj .NotEq u v) Q E s:=λe=>by refine bb (G:=λb=>Q (.bool (!b)) s->_) e (λd r e1 e2 j h=>?_) h;refine bB (dP.mp j) λm l=>a8 (wN J 8 g e1) λp n=>a8 (wN J 8 i e2) λbs o=>ne_dataH n o m l k h
 induction x using AV.casesOn with
 |str a=>
  induction y using AV.casesOn with
  |str b=>
   refine a8 g.nG λ_ c=>?_;refine aa c ?_;refine a8 i.nG λ_ c=>?_;subst c;obtain rfl:=eM e;refine PyProof.Rows.ne_str ?_;have:((⟨a.toArray⟩:Str) != ⟨b.toArray⟩)=!decide (a=b):=by
    by_cases f:a=b
    . refine aa f ?_;simp
    . (refine iP (decide_eq_false f) ?_;rw [bne_iff_ne.mpr])
      . rfl
      intro q;apply f;have:=congrArg (λz:Str=>z.cps.toList) q;simpa using this
   refine aa (this ..) (aa (xZ ..).symm ?_);exact h
  |_=>exact D e
 |int a=>
  induction y using AV.casesOn with
  |int b=>
   refine a8 g.jW λ_ c=>?_;refine aa c ?_;refine a8 i.jW λ_ c=>?_;refine aa c ?_;obtain rfl:=eM e;refine PyProof.Rows.ne_int ?_;have:(a != b)=!decide (a=b):=by by_cases f:a=b<;>simp [f]
   refine aa this ?_;exact h
  |_=>exact D e
 |_=>exact D e
theorem aF.notSys (J:aF prog w I P W O h) (K:cL I) (hp:W.μ[i]?=some p):(p.1==CP)=false:=by
 generalize e:I.K.lookup CP=a;induction a using aW with
 |none=>have:=K.Zi;rw [e] at this;contradiction
 |some o=>refine beq_eq_false_iff_ne.mpr λq=>?_;have:=(J.sep i p hp).1.1;rw [q,J.kin _ _ e] at this;contradiction
theorem YZ (h:fP d=true):d.canLay0=true/\d.depth<=64:=by unfold fP at h;refine bB (dP.mp h) λa b=>⟨a,of_decide_eq_true b⟩
theorem C8 {es:List nO} (h:es.all fP=true):mC es=true:=by
 induction es with
 |nil=>rfl
 |cons e es a=>have h:=dP.mp h;show (e.canLay0&&mC es)=true;refine aa ((YZ h.1).1) (aa (a h.2) ?_);rfl
theorem B4 {a:Type} [DecidableEq a] {l:List (a×AV)} {b:List (a×ah)} (r:PR W l b) (k):OV W (lk k l) (tM b k):=by
 induction r with
 |nil=>exact .none
 |cons h _ c=>
  rename_i k' v x l xs _;unfold tM;refine aa (eh ..) ?_;by_cases e:k'=k
  . simp only [e,if_true,List.find?_cons,decide_true,rT];exact .some h
  . simp only [e,if_false,List.find?_cons,decide_false];exact c
theorem Wt {l:List (List Nat×AV)} {k:List Nat}:lk (⟨k.toArray⟩:Str) (l.map λx=>((⟨x.1.toArray⟩:Str),x.2))=lk k l:=by
 induction l with
 |nil=>rfl
 |cons x l a=>
  obtain ⟨k',v⟩:=x;refine aa (gc ..) (aa (eh ..) (aa (eh ..) (aa (a ..) ?_)));by_cases e:k'=k
  . refine qd e ?_;simp
  . rw [if_neg e,if_neg (λq=>e (by have:=congrArg (λz:Str=>z.cps.toList) q;simpa using this))]
theorem OV.isSome {a:Option AV} {b:Option ah} (h:OV W a b):a.isSome=b.isSome:=by cases h<;>rfl
theorem UR {t:Bool} {u c:ah} (J:aF prog w I P W O s.heap) (o:VR W x u)
 (rc:∀ds,l.mapM (fs 8 O)=some ds->∃k,Reads s.heap c (if t then .tuple ds else .list ds) k)
 (n:A.units+100<zB) (e:wA O x l=some b) (neg:Bool) (h:Q (.bool (if neg then !b else b)) s):aY (aZ prog w) A (xj (if neg then .NotIn else .In) u c) Q E s:=by
 refine bb (G:=λb=>Q (.bool (if neg then !b else b)) s->_) e (λd es e1 e2 m h=>?_) h;refine bB (dP.mp m) λp g=>a8 (wN J 8 o e1) λk i=>a8 (rc _ e2) λbs j=>?_;have a:=YZ p;have f:A.units+1+min (qt es) d.depth<cLine:=by have:=a.2;exact cz 0x103024424a30060048321791084500bc80013 this n (Nat.min_le_right _ _)
 induction t using dy<;>induction neg using dy
 . exact SeqAt.in_list_reads j i (C8 g) a.1 f h
 . exact SeqAt.notIn_list_reads j i (C8 g) a.1 f h
 . exact SeqAt.in_tuple_reads j i (C8 g) a.1 f h
 . exact SeqAt.notIn_tuple_reads j i (C8 g) a.1 f h
theorem UQ {u:ah} (K:cL I) (J:aF prog w I P W O s.heap) (f:VR W x u) (j:VR W y v) (R:A.units+100<zB) (e:yt O x y=some b) (neg:Bool)
 (h:∀t,Q (.bool (if neg then !b else b)) {s with toks:=t}):aY (aZ prog w) A (xj (if neg then .NotIn else .In) u v) Q E s:=by
 have N:=h s.toks;induction y using AV.casesOn with
 |aw l=>refine j.wZ J λa vs n g r z=>UR (t:=true) J f (λds B=>?_) R e neg N;refine a8 (Fy (λG e=>wN J 8 G e) r B) λM q=>⟨M,reads_tuple_at g rfl rfl (by simpa using q)⟩
 |ref i=>
  replace e:nj O x i=some b:=e;delta nj at e;generalize F:O[i]?=U at e;induction U using aW with
  |none=>exact cX e
  |some o=>
   induction o using aV.casesOn with
   |lst l=>refine j.lg J F λa vs n hp g r z=>UR (t:=false) J f (λds B=>?_) R e neg N;refine a8 (Fy (λG e=>wN J 8 G e) r B) λM q=>⟨_,reads_list_at g rfl rfl (by simpa using q)⟩
   |dI l=>
    refine aQ j.lE λp hp d=>?_;refine aa d ?_
    . refine fH (J.obj _ _ _ F hp) λT L S=>aQ L λm D r=>?_;clear L;have ns:=J.notSys K hp;induction x using AV.casesOn with
      |int k=>
       refine a8 f.jW λ_ d=>?_;refine aa d ?_;have C:b=(tM m k).isSome:=by refine aa ((B4 r k).isSome).symm <| (eM e).symm
       subst C;induction neg using dy
       . exact ON (by simp [tK,ah.isInt]) ns D.mapOf (h _)
       . exact OP (by simp [tK,ah.isInt]) ns D.mapOf (h _)
      |str k=>
       refine a8 f.nG λ_ d=>?_;refine aa d ?_;induction l using cK with
       |nil=>
        (injection e with e;subst e)
        have H:=S rfl;induction neg using dy
        . exact ON (k:=⟨k.toArray⟩) (by simp [xg,ah.isStrOf]) ns H.mapOf (h _)
        . exact OP (k:=⟨k.toArray⟩) (by simp [xg,ah.isStrOf]) ns H.mapOf (h _)
       |cons _ _=>exact cX e
      |_=>exact cX e
   |dS l=>
    refine aQ j.lE λp hp d=>?_;refine aa d ?_
    . obtain ⟨T,m,D,r⟩:=J.obj _ _ _ F hp;have ns:=J.notSys K hp;induction x using AV.casesOn with
      |str k=>
       refine a8 f.nG λ_ d=>?_;refine aa d ?_;have C:b=(tM m (⟨k.toArray⟩:Str)).isSome:=by refine aa (((B4 r (⟨k.toArray⟩:Str)).isSome)).symm (aa Wt ?_);exact (eM e).symm
       subst C;induction neg using dy
       . exact ON (by simp [xg,ah.isStrOf]) ns D.mapOf (h _)
       . exact OP (by simp [xg,ah.isStrOf]) ns D.mapOf (h _)
      |_=>exact cX e
   |ba c l=>exact cX e
 |_=>exact cX e
theorem VR.isNone {v:AV} {u:ah} (h:VR W v u):(u==vm)=uA v:=by cases h<;>rfl
@[elab_as_elim] theorem oI {c:Type} {u:ah} {f:Int->Option c} {b:c} (d:VR W x u) (e:aI none x f=some b) (k:∀a t,f a=some b->G (.int a t)):G u:=by cases d<;>first | exact k _ _ e | exact cX e
theorem xH {u:ah} (K:cL I) (J:aF prog w I P W O s.heap) (d:VR W x u) (f:VR W y v) (i:A.units+100<zB) (e:cG op x y O=some b)
 (h:∀t,Q (.bool b) {s with toks:=t}):aY (aZ prog w) A (xj op u v) Q E s:=by
 have g:=h s.toks;induction op using CmpOp.casesOn with
 |Eq=>exact agG J d f (ak 0x2100bc804a310c85e402111 i) e g
 |NotEq=>refine aQ (gJ.mp e) λc e1 k=>?_;subst k;exact anM J d f (ak 0x2100bc804a310c85e402111 i) e1 g
 |In=>exact UQ K J d f i e false h
 |NotIn=>refine aQ (gJ.mp e) λc e1 l=>?_;subst l;exact UQ K J d f i e1 true h
 |Is=>induction y using AV.casesOn with
  |none=>
   obtain rfl:=f.yU
   (injection e with e;subst e)
   refine PyProof.Rows.is_none_gen <| aa d.isNone ?_;exact g
  |_=>contradiction
 |IsNot=>induction y using AV.casesOn with
  |none=>
   obtain rfl:=f.yU
   (injection e with e;subst e)
   refine PyProof.Rows.isnot_none_gen <| aa d.isNone ?_;exact g
  |_=>contradiction
 |Lt=>exact oI d e λa t e=>oI f e λb j e=>by (injection e with e;subst e);exact PyProof.Rows.lt_int g
 |LtE=>exact oI d e λa t e=>oI f e λb j e=>by (injection e with e;subst e);exact PyProof.Rows.le_int g
 |Gt=>exact oI d e λa t e=>oI f e λb j e=>by (injection e with e;subst e);exact PyProof.Rows.gt_int g
 |GtE=>exact oI d e λa t e=>oI f e λb j e=>by (injection e with e;subst e);exact PyProof.Rows.ge_int g
end
variable {t:aC} {v:AV} {zf value:cg} {u0:Tok} {hi:Option cg} {va vb:ah}
section
variable {k:Int} {i b a:AV} {vs:List ah} {p:Pos}
theorem MF (a:0<=k) (b:k<n):zJ k n=some k.toNat:=by unfold zJ;have:¬k<0:=cJ 4417575196689 a;simp only [this,if_false];exact (if_pos (by lia))
theorem YY (a:k<0) (b:-(n:Int)<=k):zJ k n=some (k+n).toNat:=by unfold zJ;simp only [a,if_true];exact (if_pos (by lia))
theorem K6 {e f:Type} {l:List e} {ys:List f} (d:ys.length=l.length) {v:e} (h:uw l k=some v):
 ∃j,zJ k ys.length=some j/\l[j]?=some v/\(-(l.length:Int)<=k/\k<l.length):=by
 unfold uw at h;by_cases a:0<=k
 . rw [if_pos a] at h;have c:=(ez.mp h).1;refine ⟨k.toNat,?_,h,(dw 2156274915345 a),(dJ 0x2380d180e0204400112 c (lL _))⟩;refine bA d ?_;exact MF a (dJ 0x2380d180e0204400112 c (lL _))
 . rw [if_neg a] at h;by_cases b:-(l.length:Int)<=k
   . rw [if_pos b] at h;refine ⟨((l.length+k).toNat),?_,h,b,(dw 30814444198929 a)⟩;refine bA (d ..) (aa (Int.add_comm ..) ?_);exact YY (cJ 4426165132305 a) b
   . rw [if_neg b] at h;exact cX h
theorem alY {u k:ah} (J:aF prog w I P W O s.heap) (C:VR W x u) (hi:VR W i k) (e:cW x i O=some v)
 (h:∀y t,VR W v y->Q y {s with toks:=t}):aY (aZ prog w) A (G6 u k) Q E s/\∃T id,s.TypeIs u T/\vu (.type T) "__getitem__"=pure (some (.builtin id)):=by
 have R:=λy r=>h y s.toks r;induction x using AV.casesOn with
 |aw l=>refine oI hi e λk' t e=>C.wZ J λa vs n g r z=>ct (K6 r.length e) λj b q B=>aQ (r.get j q) λy G H=>?_;have L:l.length<=100000:=z;refine ⟨abV (rn g) (by lia) (by lia) (by simpa using b) (by simpa using G) (R y H),_,_,(rn g).typeIs,CF.lookup⟩
 |str x=>refine oI hi e λk' t e=>a8 C.nG λ_ d=>?_;refine aa d ?_;simp only [Option.ite_none_right_eq_some,gJ] at e;obtain ⟨L,c,e1,rfl⟩:=e;have L:x.length<=100000:=L;refine ct (K6 (ys:=x) rfl e1) λj b q B=>⟨PyProof.Rows.getItem_str (by simp only [jJ,decide_eq_false_iff_not];lia) ?_ (h _ _ (by exact .str [c] _)),_,_,typeIs_str _ _ _,PyProof.Rows.slot_str_getitem.lookup⟩;show (zJ _ x.toArray.size).bind _=_;rw [j9,b];simpa using q
 |ref r=>
  induction i using AV.casesOn with
  |int k'=>
   refine a8 hi.jW λ_ d=>?_;refine aa d ?_;have e:yA r k' O=some v:=e;unfold yA at e;generalize F:O[r]?=p at e;induction p using aW with
   |none=>exact cX e
   |some o=>
    induction o using aV.casesOn with
    |lst l=>
     simp only at e;refine C.lg J F λa vs n hp g r z=>ct (K6 r.length e) λj b q B=>aQ (r.get j q) λy G H=>?_;have L:l.length<=100000:=z;have U:=r.length;refine ⟨?_,_,_,(nk g).typeIs,slot_list_getitem.lookup⟩;by_cases K:k'<0
     . rw [YY K (by exact dJ 0x1f60c008fa04400312 U B.1)] at b
       (injection b with b;subst b)
       exact wpAny_getItem_list_neg (nk g) K (by simp;exact dJ 0x1f60c008fa04400312 U B.1) (by lia) (by simpa using G) (R y H)
     . rw [MF (by exact cJ 60331396369 K) (by exact dJ 0x380d188e0244400312 U B.2)] at b
       (injection b with b;subst b)
       exact wpAny_getItem_list (nk g) (cJ 60331396369 K) (by lia) (by simpa using G) (R y H)
    |dI l=>
     simp only at e;refine aQ C.lE λ_ hp d=>?_;refine aa d ?_
     . refine fH (J.obj _ _ _ F hp) λX M Y=>aQ M λN D V=>?_;have f:=B4 V k';rw [e] at f;generalize m:tM N k'=p;induction p using aW with
       |none=>rw [m] at f;contradiction
       |some y=>
        rw [m] at f;cases f with
        |some S=>exact ⟨acA (by simp [tK,ah.isInt]) D.mapOf m (h y _ S),_,_,D.typeIs,acu.lookup⟩
    |_=>exact cX e
  |str k'=>
   refine a8 hi.nG λ_ d=>?_;refine aa d ?_;have e:yB r k' O=some v:=e;unfold yB at e;generalize F:O[r]?=p at e;induction p using aW with
   |none=>exact cX e
   |some o=>
    induction o using aV.casesOn with
    |dS l=>
     simp only at e;refine aQ C.lE λ_ hp d=>?_;refine aa d ?_
     . obtain ⟨X,N,D,V⟩:=J.obj _ _ _ F hp;have f:=B4 V (⟨k'.toArray⟩:Str);rw [Wt,e] at f;generalize m:tM N (⟨k'.toArray⟩:Str)=p;induction p using aW with
       |none=>rw [m] at f;contradiction
       |some y=>
        rw [m] at f;cases f with
        |some S=>exact ⟨acA (by simp [xg,ah.isStrOf]) D.mapOf m (h y _ S),_,_,D.typeIs,acu.lookup⟩
    |_=>exact cX e
  |_=>exact cX e
 |_=>exact cX e
theorem asC {o i:ah} (a:E7 zf=true):subscripted zf false o i=operate [o,i] (G6 o i):=by induction zf using u9<;>first | rfl | contradiction
theorem asB {u k:ah} (J:aF prog w I P W O s.heap) (d:E7 zf=true) (f:VR W x u) (hi:VR W i k) (e:cW x i O=some v)
 (h:∀y t,VR W v y->Q y {s with toks:=t}):aY (aZ prog w) A (OK value zf u k) Q E s:=by
 obtain ⟨a,T,id,b,c⟩:=alY J f hi e h;exact Hc b c a (asC d)
theorem ML (h:dv) (a b c):(h.push {cls:=.type "slice",data:=.fields #[a,b,c]}).IsSliceOf h.objs.size a b c:=⟨_,nI _ rfl,rfl,rfl⟩
theorem as2 {sl:aC} {m:Nat} {b:Nat} {u:Tok} (g:s.heap.get? t=some {cls:=.type "tuple",data:=.seq vs.toArray m}) (n:s.heap.IsSliceOf sl (.int 0 u0) (.int b u) .none) (hb:b<vs.length)
 (h:Q (.ref s.heap.objs.size) {s with heap:=s.heap.push {cls:=.type "tuple",data:=.seq (vs.take b).toArray}}) (x:vs.length<=qy):aY (aZ prog w) A (G6 (.ref t) (.ref sl)) Q E s:=by
 have ht:=rn g;refine ct (id n) λos a j d=>?_;have f:s.TypeIs (.ref sl) "slice":=⟨os,a,j⟩;unfold G6
 try with_reducible refine nQ ?_
 first | refine aO (bD ?_) | skip
 refine aO (acG ht.typeIs ag ?_);refine aO (Hj ht.typeIs CF
  (xo CF ht.typeIs entry_tuple_getitem ?_ (args_tuple_getitem _ _)))
 show aY _ _ (Builtin.Tuple.tupleItemsOf (.ref t)>>=_) _ _ s;refine aO (tupleItemsOf_ ht ?_);refine aO (OU f ?_);refine Gi ag ?_;have l:ND (some 0) (some (b:Int)) 1 (vs.toArray.size:Int)=(0,(b:Int)):=by unfold ND;simp only [j9];have p:¬((1:Int)<0):=Lw 1126960;have q:¬((b:Int)<0):=ao 8450608;simp only [p,q,if_false];simp;lia
 have pl:Gu 0 (b:Int) 1=b:=by unfold Gu;simp only [Cp,if_true];split<;>first | lia | (split;(rename_i v;lia);(rename_i v;lia))
 refine aO ?_;unfold Builtin.Slice.sliceApplied Builtin.Slice.sliceFields;refine aO (aO (lM a d rfl (aO (lM a d rfl (aO (lM a d rfl (bD ?_)))))));refine aO (slicePart_none ?_);show aY _ _ (if ((1:Int)==0)=true then _ else _) _ _ s;refine w5 ag <| aO (slicePart_int (aO (slicePart_int (aO (bD ?_)))))
 show aY _ _ (match ND (some 0) (some (b:Int)) 1 (vs.toArray.size:Int) with | (lo,hi)=>pure (lo,(1:Int),Gu lo hi 1)) _ _ s;refine aa l ?_;show aY _ _ (pure ((0:Int),(1:Int),Gu (0:Int) (b:Int) 1)) _ _ s;refine aa pl <| bD ?_
 have o:¬(((0:Int)==0&&(1:Int)==1&&b==vs.toArray.size)=true):=by simp only [j9,qi,beq_iff_eq,not_and];lia
 show aY _ _ (if ((0:Int)==0&&(1:Int)==1&&b==vs.toArray.size)=true then _ else _) _ _ s;have kD:((dQ b).filterMap λ(k:Nat)=>vs.toArray[((0:Int)+(k:Int)*1).toNat]?).toArray=(vs.take b).toArray:=by
  have e:(λ(k:Nat)=>vs.toArray[((0:Int)+(k:Int)*1).toNat]?)=λk=>vs[k]?:=by
   funext k;have:((0:Int)+(k:Int)*1).toNat=k:=by lia
   refine bA this ?_;simp
  refine aa e ?_;congr 1;apply NR;intro i;have:(dQ b).filterMap (λk=>vs[k]?)=vs.take b:=by
   clear pl l o e h n a d;induction b with
   |zero=>simp
   |succ b r=>refine aa abw (aa List.filterMap_append (aa (r (ak 0x800a3102402111 hb)) ?_));have:vs[b]?=some vs[b]:=dO (ak 0x800a3102402111 hb);simp only [GB,List.filterMap_nil,this];simp only [GN,this];rfl
  exact aa this rfl
 refine aa (if_neg o) (aa kD ?_);have c:sizeOk (.seq (vs.take b).toArray):=by show (vs.take b).toArray.size<=qy;refine aa j9 (aa j7 ?_);lia
 first
  |exact aO (zO (bD ⟨_,rfl,bD h⟩) c)
  |exact aO (zO (aO (bD (bD ⟨_,rfl,bD h⟩))) c)
  |exact aO (aO (zO (bD (bD ⟨_,rfl,bD h⟩)) c))
  |exact aO (aO (zO (bD ⟨_,rfl,bD h⟩) c))
theorem Y4 {lo:Option cg} (J:aF prog w I P W O s.heap)
 (g:s.heap.get? t=some {cls:=.type "list",data:=.seq vs.toArray n}\/∃o,s.heap.get? t=some o/\o.cls=.type "list"/\o.data=.seq vs.toArray n) (r:bz W l vs) (i:l.length<=SZ) (x:VR W a va) (hb:VR W b vb) (h:Ends prog w I P W s VR (IV l a b O) Q E):
 aY (aZ prog w) A (OK value (.Slice lo hi none p) (.ref t) (.ref s.heap.objs.size)) Q E {s with heap:=s.heap.push {cls:=.type "slice",data:=.fields #[va,vb,.none]}}:=by
 induction a using AV.casesOn with
 |none=>
  obtain rfl:=x.yU;refine eI hb h λe u h=>hG h λv h=>?_;have y:s.heap.IsList t vs.toArray:=by
   rcases g with g | ⟨o,g,c,d⟩
   . exact nk g
   . exact ⟨o,g,c,n,d⟩
  have j:=y.push {cls:=.type "slice",data:=.fields #[.none,.int e u,.none]};have k:aF prog w I P W O (s.heap.push {cls:=.type "slice",data:=.fields #[.none,.int e u,.none]}):=J.keep (kF _ _);have f:vs.toArray.size<=sizeLine:=by refine aa j9 (aa r.length ?_);exact o4 i
  have m:e=(e.toNat:Int):=dz (dw 0xe03060380811 (lL _)) (dw 2131914422801 (f9 (cJ 60330874897 v)));have kD:slicePick vs.toArray none (some e) none=(vs.take e.toNat).toArray:=by have:=slicePick_upto' vs.toArray e.toNat;rw [<-m] at this;simpa using this
  refine Hc (Heap.IsList.typeIs j) list_getitem_lookup (wpAny_getItem_list_slice j (ML ..) .none (.int _ _) .none (λh=>nomatch h) ?_ f) rfl;refine aa kD ?_;have q:Ends prog w I P W {s with heap:=s.heap.push {cls:=.type "slice",data:=.fields #[.none,.int e u,.none]}} VR (ig (.lst (l.take e.toNat)) O) Q E:=Ends.from h (.refl W) ⟨rfl,rfl⟩;exact E5 (s:={s with heap:=s.heap.push {cls:=.type "slice",data:=.fields #[.none,.int e u,.none]}}) k (r.take _) (xd (List.length_take_le' _ _) i) q
 |_=>exact h.elim
theorem ark {lo:Option cg} {u:ah} (J:aF prog w I P W O s.heap) (B:VR W x u) (v:VR W a va) (hb:VR W b vb) (h:Ends prog w I P W s VR (te x a b O) Q E):
 aY (aZ prog w) A (OK value (.Slice lo hi none p) u (.ref s.heap.objs.size)) Q E {s with heap:=s.heap.push {cls:=.type "slice",data:=.fields #[va,vb,.none]}}:=by
 induction x using AV.casesOn with
 |aw l=>
  refine B.wZ J λt vs n g r z=>eI v h λm M h=>?_;have T:=o4 z;have k:=kF s.heap {cls:=.type "slice",data:=.fields #[.int m M,vb,.none]};have D:=J.keep k;have f:=k _ _ g;induction b using AV.casesOn with
  |none=>
   obtain rfl:=hb.yU;refine hG h λq h=>?_;have ea:m=(m.toNat:Int):=by lia
   have L:=r.length;refine Hc (aaY (rn f)) CF.lookup (getItem_tuple_from (rn f) (by refine aa ea.symm ?_;exact ML ..) (by lia) (by simp;lia) ?_ (by refine aa j9 ?_;lia)) rfl;refine yT D (by simpa using r.drop _) (by refine aa nJ ?_;unfold SZ at*;lia) λW' y s' le j C k'=>?_;exact h W' y s' le j C ⟨k'.gens,k'.os⟩
  |int F=>
   refine a8 hb.jW λS G=>?_;subst G;refine hG h λq K=>fH q λo N R=>?_;clear q;subst o;have H:F=(F.toNat:Int):=by lia
   have L:=r.length;refine Hc (aaY (rn f)) CF.lookup (as2 f (by refine aa H.symm ?_;exact ML ..) (by lia) ?_ (by lia)) rfl;refine yT D (r.take _) (by refine aa j7 ?_;unfold SZ at*;lia) λW' y s' le j C k'=>?_;exact K W' y s' le j C ⟨k'.gens,k'.os⟩
  |_=>exact h.elim
 |gA l=>
  cases B with
  |gA e c d z r=>exact Y4 J (.inr ⟨_,J.con _ _ e,c,d⟩) r z v hb h
 |ref i=>refine eL h λl e h=>B.lg J e λt vs n hp g r z=>Y4 J (.inl g) r z v hb h
 |_=>exact h.elim
end
variable {O':AH} {m:Str->Option ah} {dx:aC} {name:Str}
section
variable {c a:Nat} {y:ah}
theorem VR.To {u:ah} (h:VR W v u):handedIn u=true:=by cases h<;>rfl
theorem am0 (N:h.Ns dx m):∃od es ep,h.get? dx=some od/\od.data=.dict es ep/\∀n,zF n od=some (m n):=by
 refine fv (N) λo es ep d a c b=>?_;refine d9 o es ep ⟨d,a,λn=>?_⟩;unfold zF;refine aa a ?_;dsimp only;have e:=b n;unfold qw G5 at e;rw [<-aax] at e;generalize q:es.toList.find? (·.key.isStr n)=g at e;induction g using aW with
 |some en=>simp only [rT] at e;simp only [<-e]
 |none=>simp only [Option.map_none] at e;refine iP e.symm ?_;dsimp only;rw [if_neg];simp only [aa8,not_exists,not_and];intro x f;refine uW (c x (by simpa using f)) λi t ek=>?_;unfold aaF;refine aa ek ?_;simp
structure auj (K:ql) (h:dv) (x C:aC) (dx:aC) (m:Str->Option ah):Prop where
 ex:∃ox od,InstAt h x ox C (some od)/\ox.dict=some dx/\(∀n,zF n od=some (m n))/\h.Ns dx m
theorem mH.A6 {l:List (Nat×AV)} (x:mH I W p h c l):∃ox od m,Internal.mH I W p h c l/\PySem.W.InstAt h p.1 ox (I.cls c) (some od)/\ox.dict=some p.2/\(∀n,zF n od=some (m n))/\h.Ns p.2 m/\∀a,a<NN->OV W (lk a l) (m (nm a)):=by obtain ⟨j,_,⟨ox,d,e,f,b⟩,_,m,N,q⟩:=id x;refine oO (am0 N) λod es ep g k i=>?_;exact d9 ox od m ⟨x,⟨d,e,f,by refine aa b ?_;exact g⟩,b,i,N,q⟩
theorem ah6 (K:cL I) {od:Obj} (d:c∈bQ::gz) (g:a∈attrL) (i:zF (nm a) od=some (some y)):findObj I.K (I.cls c) (some od) (nm a)=some (.value y):=by
 have b:=K.m6 c d;have f:=K.q7 c d a g;delta findObj;generalize e:clsIn I.K (I.cls c)=j at b;induction j using aW with
 |none=>contradiction
 |some cd=>have h:cd.hasDict=true:=b;have own:ownOf cd (some od) (nm a)=some (some y):=(if_pos h).trans i;show ((kb I.K (.ref (I.cls c)) (nm a)).bind _)=_;refine aa f ?_;show ((ownOf cd (some od) (nm a)).bind _)=_;refine aa own ?_;rfl
theorem adt {u:ah} (K:cL I) (J:aF prog w I P W O s.heap) (C:VR W x u) (p:a∈attrL) (B:a<NN) (e:dA x a O=some v)
 (h:∀y t,VR W v y->Q y {s with toks:=t}):aY (aZ prog w) A (getAttr u (nm a) true) Q E s:=by
 induction x using AV.casesOn with
 |ref r=>
  replace e:aX none O r (λc l=>if c=bQ then none else lk a l)=some v:=e;delta aX at e;generalize n:O[r]?=f at e;induction f using aW with
  |none=>contradiction
  |some o=>
   induction o using aV.casesOn with
   |ba c l=>
    refine ifN e λD e=>?_;refine aQ (C.lE) λ_ hp k=>?_;refine aa k ?_
    . refine uY (mH.A6 (J.obj _ _ _ n hp)) λox od m R j F z N q=>?_;have g:c∈gz:=R.cl.resolve_right D;have b:=q a B;rw [e] at b;generalize d:m (nm a)=f;induction f using aW with
      |none=>rw [d] at b;contradiction
      |some y=>
       simp only [d] at b;cases b with
       |some i=>exact get_value J.K j (K.Kp c g) (ah6 K (.tail _ g) p (by rw [z,d])) i.To (h y _ i)
   |_=>contradiction
 |_=>contradiction
theorem yI {a:Type} [DecidableEq a] {x y:a} {l:List (a×AV)}:lk y (up x v l)=if y=x then some v else lk y l:=by
 induction l with
 |nil=>
  simp only [FX,eh,ry];by_cases e:y=x
  . subst e;simp
  . rw [if_neg (λq=>e q.symm),if_neg e]
 |cons p l b=>
  obtain ⟨k,u⟩:=p;refine bA (tg ..) (iP (eh ..) ?_);by_cases e:k=x
  . refine bA (if_pos e) ?_;refine qd e ?_;refine ((eh ..)).trans ?_;by_cases q:y=k
    . refine aa q ?_;simp
    . exact aa (if_neg (λz=>q z.symm)) (aa (if_neg q) (aa (if_neg (λz=>q z.symm)) rfl))
  . refine bA (if_neg e) ?_;refine ((eh ..)).trans (bA (b ..) ?_);by_cases q:k=y
    . refine qd q ?_;simp [e]
    . simp [q]
theorem Z3 {a:Type} [DecidableEq a] {x:a} {l:List (a×AV)}:(up x v l).length=if (lk x l).isSome then l.length else l.length+1:=by
 induction l with
 |nil=>rfl
 |cons p l b=>
  obtain ⟨k,u⟩:=p;refine bA (tg ..) (aa (eh ..) ?_);by_cases e:k=x
  . simp [e]
  . simp only [e,if_false,jv,b];split<;>rfl
theorem Z5 {n x:Str} {t:Tok}:(Value.str n t).isStr x=(n==x):=rfl
theorem XD {v:ah} {Q:Unit->ax->Prop} (P:s.heap.Ns dx m) (le:s.heap.DictLe dx n) (X:n<SZ)
 (O:∀r,r.Ns dx (λx=>if x=name then some v else m x)->Heap.SameBut dx s.heap r->r.DictLe dx (if (m name).isSome then n else n+1)->Q () {s with heap:=r,toks:=s.toks+1}):
 aY M A (nsSet dx name v) Q E s:=by
 refine fv (P) λo es ep w u F G=>?_;have k:=le o es ep w u;have key:∀(b:Int),let K:=o.putName name b (.str name s.toks) v
  K.isFreed=false/\∃f H,K.data=.dict f H/\zu f/\(∀x,qw f x=if x=name then some v else m x)/\f.size<=(if (m name).isSome then n else n+1):=by
  intro b;obtain ⟨c,d,dt,sl⟩:=o;dsimp only at u;refine aa u ?_;obtain ⟨l⟩:=es;have p:=G name;unfold qw G5 at p;rw [NS] at p;refine aa (putName_eq ..) ?_;refine ⟨rfl,_,_,rfl,?_,?_,?_⟩
  all_goals unfold PySem.putIn
  all_goals cases hi:l.findIdx? (·.key.isStr name) with
   |none=>
    try dsimp only
    first
     |(intro e a
       simp only [abu,eG,xb] at a;rcases a with a | rfl
       . exact F e (by simpa using a)
       . exact dE name _ rfl)
     |(intro x
       have B:l.find? (·.key.isStr name)=none:=by rw [abb];rw [abc] at hi;intro y g;simp [hi y g]
       refine iP ((G x)).symm ?_;unfold qw G5;rw [NS,NS,List.find?_append];by_cases e:x=name
       . refine aa e ?_;refine aa B ?_;simp [Z5]
       . refine bK ?_ (if_neg e).symm;cases l.find? λe=>e.key.isStr x with
         |some _=>rfl
         |none=>have:¬name=x:=λz=>e z.symm;simp [Z5,this])
     |(have B:l.find? (·.key.isStr name)=none:=by
        rw [abb];rw [abc] at hi;intro y g;simp [hi y g]
       rw [B] at p;refine aa p.symm ?_;simp at k⊢;exact ak 35193167544337 k)
   |some i=>
    try dsimp only
    have hp:=List.findIdx?_eq_some_iff_getElem.1 hi;obtain ⟨W,R,L⟩:=hp
    first
     |(intro e a
       simp only [abu] at a;rcases NZ.mp a with ⟨j,J⟩
       rw [List.getElem?_modify] at J;refine aQ (gJ.mp J) λy g C=>?_;refine qd C ?_;refine uW (F y (by simpa using gW g)) λT V N=>?_;refine dE T V ?_;split<;>exact N)
     |(intro x
       refine iP ((G x)).symm ?_;have:=findBy_modify (λn v=>v.isStr n) Value.isStr_inj l.toArray name x v i (by simpa using hi);simpa [qw] using this)
     |(simp at k⊢
       (split;(rename_i U;exact ak 35193167544337 k);(rename_i U;exact ak 0x9108020c400011 k)))
 unfold nsSet;refine aO (aO (wpAny_askSetting (bD (aO (wpAny_mkText (aO (Hm w ?_)))))));refine aa u ?_;dsimp only;have c:(!es.any (·.key.isStr name)&&es.any (·.refKey))=false:=by
  have D:es.any (·.refKey)=false:=by simp only [Array.any_eq_false'];intro e a;refine uW (F e a) λn t h=>?_;simp [aaF,h]
  rw [D,Bool.and_false]
 refine aa (aRefKeyMayBeTheName_at ..) (aa (c ..) ?_);obtain ⟨k1,f,H,k2,k3,S,k5⟩:=key (Ot M.w.params name);refine wpAny_updatePart w ?_;have I:=tr (h:=s.heap) (Obj.putName name (Ot M.w.params name) (.str name s.toks) v) w k1;refine O _ ⟨_,f,H,I,k2,k3,S⟩ (Heap.SameBut.update ..) λo2 Z Y g2 q=>?_;have e2:some _=some o2:=I.symm.trans g2
 (injection e2 with e2;subst e2)
 rw [k2] at q
 (injection q with q;subst q)
 exact k5
theorem aq3 {u:ah} {Q:Unit->ax->Prop} (K:cL I) (J:aF prog w I P W O s.heap) (X:VR W x u) (V:VR W v y) (T:a∈attrL) (G:a<NN) (e:nE x a v O=some O')
 (h:∀s',aF prog w I P W O' s'.heap->dF s s'->Q () s'):aY (aZ prog w) A (setAttr u (nm a) y) Q E s:=by
 induction x using AV.casesOn with
 |ref r=>
  replace e:aX none O r (λc l=>if c≠bQ/\l.length<SZ then some (O.set r (.ba c (up a v l))) else none)=some O':=e;delta aX at e;generalize M:O[r]?=z9 at e;induction z9 using aW with
  |none=>contradiction
  |some o=>
   induction o using aV.casesOn with
   |ba c l=>
    refine pQ e λf e=>?_;subst e;refine aQ (X.lE) λ_ hp L=>?_;subst L
    . refine uY (mH.A6 (J.obj _ _ _ M hp)) λox od m R j F hl N q=>?_;have i:c∈gz:=R.cl.resolve_right f.1;have ht:CQ I.K (I.cls c) (nm a)=some none:=by
       unfold CQ;refine aa (K.q7 c (.tail _ i) a T) ?_;rfl
      refine OH J.K j (K.Ut c i) (osa_open (s:={s with toks:=s.toks+1}) J.K j (K.Uk c i) ht λb=>?_);obtain ⟨H,B,Z,-⟩:=j;obtain ⟨oc,Mn,Mm,Fg⟩:=ox;dsimp only at B F;subst B F;have S:=K.m6 c (.tail _ i);refine aQ (any_some S) λcd m6 sP=>?_;refine aO (bD (aO (aO (Hm H (aO (N4 (s:={s with toks:=s.toks+1}) (G7 J.K m6) ?_))))));refine aa sP ?_;rename_i p;refine bD (a:=some p.2) (aO (bD (aO (XD (s:={s with toks:=s.toks+1}) N R.le f.2 λC n sb D=>?_))));have Y:∀o es ep,C.get? p.2=some o->o.data=.dict es ep->es.size<=SZ+1:=λo es ep g d=>by
       have:=D o es ep g d
       (split at this;(rename_i q9;exact aU 0x24820083202044400012 this f.2);(rename_i q9;exact aU 0x9208020c80811122100012 this f.2))
      refine oO (id n) λo1 Q0 QZ g1 t _=>?_;refine aO (acE (s:={s with heap:=C,toks:=s.toks+1+1}) g1 (by refine bA t ?_;exact acq (by have:=Y _ _ _ g1 t;refine aa mG ?_;unfold SZ at this;exact ao 0x244000001fca00831230d40be500011 this)) ?_);refine bD (h _ ?_ ⟨rfl,rfl⟩);refine J.upd hp (λb o hb U=>(sb.2 b hb).trans U) ?_;refine ⟨R.cl,R.ne,⟨_,(sb.2 _ R.ne).trans H,rfl,Z,rfl⟩,?_,_,n,λb hb=>?_⟩
      . refine aa Z3 (aa ((q a G).isSome) ?_);exact D
      refine aa yI ?_;by_cases k:b=a
      . refine aa k ?_;refine aa (if_pos rfl) (aa (if_pos rfl) ?_);exact .some V
      . refine aa (if_neg k) (aa (if_neg (λz=>k (K.rE _ _ hb G z))) ?_);exact q b hb
   |_=>contradiction
 |_=>contradiction
end
section
variable {Q:Unit->ax->Prop}
theorem EP (f) (xs) (n):∃a,tG f ({cls:=.type "list",data:=.seq xs n}:Obj)={cls:=.type "list",data:=.seq (f xs) a}:=⟨_,rfl⟩
theorem aF.lst (J:aF prog w I P W O s.heap) {r:Nat} {a:aC} {vs vs':List ah} {n:Nat} {c:List AV} {f:Array ah->Array ah} (hp:W.μ[r]?=some (a,a)) (g:s.heap.get? a=some {cls:=.type "list",data:=.seq vs.toArray n})
 (e:f vs.toArray=vs'.toArray) (q:bz W c vs') (h:c.length<=SZ):aF prog w I P W (O.set r (.lst c)) (s.heap.update a (tG f)):=by
 refine a8 (EP f vs.toArray n) λi en=>J.upd hp (λb o hb d=>(js _ _ (λz=>hb z.symm)).trans d) ⟨rfl,vs',i,?_,q,h⟩;rw [tr (tG f) g (by refine bA en ?_;rfl),en,e]
theorem aq5 {l:aC} {vs:List ah} {k:Int} {t:Tok} {v:ah} (g:s.heap.get? l=some {cls:=.type "list",data:=.seq vs.toArray n}) (c:0<=k) (f:k<vs.length) (b:k<2^63)
 (d:Q () {s with heap:=s.heap.update l (tG (·.setIfInBounds k.toNat v))}):aY (aZ prog w) A (setItem (.ref l) (.int k t) v) Q E s:=by
 have a:=nk g;unfold setItem
 try with_reducible refine nQ ?_
 first | refine aO (bD ?_) | skip
 refine aO (acG a.typeIs ag ?_);refine aO (Hj a.typeIs acv
  (xo acv a.typeIs entry_list_setitem ?_ (args_list_setitem _ _ _)))
 show aY _ _ (Builtin.List.listSubscript? (.int k t)>>=_) _ _ s;refine aO (wpAny_listSubscript_int (fitsIndex_of c b) ?_);clear b;refine a8 (NL c) λj i=>?_;subst i;have e:j<vs.toArray.size:=by simp;exact ak 0x800a311c07911 f
 have h:=Array.getElem?_eq_getElem e;refine aO (aO (wpAny_seqItemAt g rfl (bD ?_)));refine aa h <| aO (wpAny_setSeqItemAt g rfl ?_)
 first
  |exact aO (bD (bD ⟨.none,rfl,bD d⟩))
  |exact bD ⟨.none,rfl,bD d⟩
theorem PR.any {a:Type} [DecidableEq a] {l:List (a×AV)} {b:List (a×ah)} (r:PR W l b) (k):b.any (λd=>d.1=k)=(lk k l).isSome:=by
 induction r with
 |nil=>rfl
 |cons h _ c=>
  rename_i k' v x l xs _;refine iP (eh ..) ?_;by_cases e:k'=k
  . simp [e]
  . simp only [NP,e,decide_false,Bool.false_or,if_false];exact c
theorem PR.ane {d:Type} [DecidableEq d] {l:List (d×AV)} {b:List (d×ah)} (r:PR W l b) (k) (h:k∉b.map (·.1)) (v):PR W l (b.map λc=>if c.1=k then (c.1,v) else c):=by
 induction r with
 |nil=>exact .nil
 |cons e r f=>rename_i k' a x l xs;simp only [gc,cF,not_or] at h;simp only [gc];refine aa (if_neg (λq=>h.1 q.symm)) <| .cons e (f h.2)
theorem PR.up {c:Type} [DecidableEq c] {l:List (c×AV)} {d:List (c×ah)} (r:PR W l d) (nd:(d.map (·.1)).Nodup) (k:c) {x:ah} (g:VR W v x):PR W (up k v l) (ab7 d k x):=by
 unfold ab7;refine aa (r.any ..) ?_;induction r with
 |nil=>exact .cons g .nil
 |cons f r b=>
  rename_i k' a y l xs;simp only [gc,jL] at nd;refine aa (tg ..) (aa (eh ..) ?_);by_cases e:k'=k
  . refine qd e ?_;simp only [if_true,Option.isSome_some,gc];exact .cons g (r.ane _ nd.1 x)
  . have b:=b nd.2;simp only [e,if_false];by_cases q:(lk k l).isSome=true
    . rw [if_pos q] at b⊢;simp only [gc,e,if_false];exact .cons f b
    . rw [if_neg q] at b⊢;exact .cons f b
theorem OY {c:Type} [DecidableEq c] {b:PySem.KeyKind prog w c} {a:aC} {d:List (c×ah)} (D:h.DictOf b a d):(d.map (·.1)).Nodup:=by refine uY D λ_ _ _ _ _ _ _ _ n=>?_;exact n
theorem as6 {l:List (List Nat×AV)} {k:List Nat}:(up k v l).map (λx=>((⟨x.1.toArray⟩:Str),x.2))=up (⟨k.toArray⟩:Str) v (l.map λx=>((⟨x.1.toArray⟩:Str),x.2)):=by
 induction l with
 |nil=>rfl
 |cons p l a=>
  obtain ⟨k',u⟩:=p;refine aa (gc ..) (aa (tg ..) (aa (tg ..) ?_));by_cases e:k'=k
  . refine aa e ?_;simp
  . exact aa (if_neg e) (aa (if_neg (λq=>e (by have:=congrArg (λz:Str=>z.cps.toList) q;simpa using this))) (aa gc (aa a rfl)))
theorem aq4 {i:AV} {u k y:ah} (J:aF prog w I P W O s.heap) (B:VR W x u) (hi:VR W i k) (t:VR W v y) (e:oG x i v O=some O')
 (h:∀s',aF prog w I P W O' s'.heap->dF s s'->Q () s'):aY (aZ prog w) A (setItem u k y) Q E s:=by
 induction x using AV.casesOn with
 |ref r=>
  induction i using AV.casesOn with
  |int k'=>
   refine a8 hi.jW λ_ c=>?_;refine aa c ?_;replace e:wQ r k' v O=some O':=e;delta wQ at e;generalize m:O[r]?=F at e;induction F using aW with
   |none=>contradiction
   |some o=>
    induction o using aV.casesOn with
    |lst l=>refine pQ e λL e=>?_;subst e;refine B.lg J m λa vs n hp g f z=>?_;have C:l.length<=100000:=z;have N:=f.length;refine aq5 g L.1 (dJ 0x380d188e0244400312 N L.2) (by lia) (h _ (J.lst hp g (vs':=vs.set k'.toNat y) ?_ (f.set _ t) (by refine aa tx ?_;exact z)) ⟨rfl,rfl⟩);simp
    |dI l=>
     refine pQ e λC e=>?_;subst e;refine aQ B.lE λ_ hp c=>?_;subst c
     . refine fH (J.obj _ _ _ m hp) λd G H=>aQ G λM D f=>?_;clear G;refine OS (k:=k') (by simp [tK,ah.isInt]) D (λK j sb=>h _ (J.upd hp (λb o hb p=>?_) ?_) ⟨rfl,rfl⟩) (by refine aa f.length ?_;exact o4 (Cz C))
       . exact (sb.2 b (by refine aa d.symm ?_;exact hb)).trans p
       . refine ⟨d,⟨_,j,f.up (OY D) _ t⟩,λz=>?_⟩;have:=congrArg List.length z;rw [Z3] at this;split at this
         . rename_i q;induction l using cK with
           |nil=>contradiction
           |cons _ _=>contradiction
         . contradiction
    |_=>contradiction
  |str k'=>
   refine a8 hi.nG λ_ c=>?_;refine aa c ?_;replace e:wR r k' v O=some O':=e;delta wR at e;generalize m:O[r]?=F at e;induction F using aW with
   |none=>contradiction
   |some o=>
    induction o using aV.casesOn with
    |dI l=>
     induction l using cK with
     |nil=>
      obtain rfl:=eM e;refine aQ B.lE λ_ hp c=>?_;subst c
      . refine fH (J.obj _ _ _ m hp) λd _ H=>?_;have D:=H rfl;refine OS (k:=⟨k'.toArray⟩) (by simp [xg,ah.isStrOf]) D (λK j sb=>h _ (J.upd hp (λb o hb p=>?_) ?_) ⟨rfl,rfl⟩) (by simp)
        . exact (sb.2 b (by refine aa d.symm ?_;exact hb)).trans p
        . exact ⟨d,_,j,.cons t .nil⟩
     |cons _ _=>contradiction
    |dS l=>
     refine pQ e λC e=>?_;subst e;refine aQ B.lE λ_ hp c=>?_;subst c
     . obtain ⟨d,M,D,f⟩:=J.obj _ _ _ m hp;refine OS (k:=⟨k'.toArray⟩) (by simp [xg,ah.isStrOf]) D (λK j sb=>h _ (J.upd hp (λb o hb p=>?_) ?_) ⟨rfl,rfl⟩) (by refine aa (f.length ..) (aa (cf ..) ?_);exact o4 (Cz C))
       . exact (sb.2 b (by refine aa d.symm ?_;exact hb)).trans p
       . refine ⟨d,_,j,?_⟩;refine aa as6 <| f.up (OY D) _ t
    |_=>contradiction
  |_=>contradiction
 |_=>contradiction
end
variable {tk:Nat} {vs:List AV} {h':dv} {ns:List Int} {cE:List (Int×ah)}
section
variable {a b c:Int} {G:List ah->Prop}
theorem MN (h:fh a b c=true):a.natAbs<100000/\b.natAbs<100000/\(c=1\/c= -1):=by unfold fh at h;simp only [qi,decide_eq_true_eq] at h;exact ⟨h.1.1,h.1.2,h.2⟩
theorem Fw (h:fh a b c=true):0<=qk a b c/\qk a b c<=200000:=by
 refine fH (MN h) λf g d=>?_;unfold qk;rcases d with rfl | rfl
 . simp only [Cp];split<;>(try split)<;>lia
 . have e:(-(-1:Int))=1:=rfl;refine aa e ?_;simp only [Cp];split<;>(try split)<;>lia
theorem Y6 (h:fh a b c=true):aaC a b c=true:=by
 have g:=Fw h;refine fH (MN h) λe f d=>?_;unfold aaC Builtin.Range.rangeFitsLong;simp only [qi,Bool.or_eq_true,decide_eq_true_eq,beq_iff_eq];rcases d with rfl | rfl
 . refine ⟨⟨⟨⟨by lia,by lia⟩,by lia⟩,by lia⟩,.inr ?_⟩;simp;lia
 . refine ⟨⟨⟨⟨by lia,by lia⟩,by lia⟩,by lia⟩,.inr ?_⟩;simp;lia
theorem apY {c:Int}:∀n a xs,xs.length=n->(∀i x,xs[i]?=some x->∃t,x=Value.int (a+(i:Nat)*c) t)->bz W (gH a c n) xs:=by
 intro l;induction l with
 |zero=>
  intro a xs h _;induction xs using cK with
  |nil=>exact .nil
  |cons _ _=>contradiction
 |succ n f=>
  intro a xs h q;induction xs using cK with
  |nil=>contradiction
  |cons x xs=>
   refine a8 (q 0 x rfl) λt e=>?_;have b:a+((0:Nat):Int)*c=a:=by simp
   rw [b] at e;refine aa e <| .cons (.int _ _) (f (a+c) xs (by simpa using h) λi x d=>?_)
   refine a8 (q (i+1) x (by simpa using d)) λt e=>⟨t,?_⟩;refine e.trans ?_;congr 1;refine aa (show ((i+1:Nat):Int)=(i:Int)+1 from rfl ..) (aa (NK ..) ?_);exact dz (oy 0x410009101621005830) (oy 0x40b208022020025830)
theorem apX:∀n a,(gH a c n).length=n:=by
 intro l;induction l with
 |zero=>intro _;exact rfl
 |succ n b=>intro a;show (gH (a+c) c n).length+1=n+1;exact congrArg _ (b ..)
theorem L9 {t u v:Tok} (J:aF prog w I P W O s.heap) (h:Ends prog w I P W s VR (.ok (.cj a b c) O) Q E):
 Q (.ref s.heap.objs.size) {s with heap:=s.heap.push {cls:=.type "range",data:=.fields #[.int a t,.int b u,.int c v]},toks:=tk}:=by
 have f:=J.fresh (bT _);have d:=J.imm (o:={cls:=.type "range",data:=.fields #[.int a t,.int b u,.int c v]}) (bT _) (kF s.heap _) (nI _ rfl);exact Ends.ok h (Wd.Bp f.1) d (.cj (Wd.UP ..)) ⟨rfl,rfl⟩
theorem alK {xs:List ah} (r:bz W l xs):∀{ns:List Int},yw l=some ns->Cq xs ns:=
 bz.pR (M:=λl xs=>∀{ns:List Int},yw l=some ns->Cq xs ns) (λh=>eM h▸.nil) (λ{v _ _ _} b _ c ns h=>by
  cases b with
  |int i t=>refine aQ (gJ.mp h) λd e a=>?_;subst a;exact .cons _ _ (c e)
  |_=>exact cX h) r
theorem Ends.ext {c a:Type} {R:Wd->c->a->Prop} {v:c} {Q:a->ax->Prop} {x:a} {t:Nat} (h:Ends prog w I P W s R (.ok v O) Q E) (J:aF prog w I P W O s.heap) (k:∀b o,s.heap.get? b=some o->h'.get? b=some o) (r:R W v x):
 Q x {s with heap:=h',toks:=t}:=h W x _ (.refl W) (J.keep k) r ⟨rfl,rfl⟩
theorem UW (x):∀l,(sU x l).Perm (x::l):=by
 intro l;induction l with
 |nil=>exact .refl _
 |cons y l a=>
  show (if x<=y then x::y::l else y::sU x l).Perm (x::y::l);split
  . exact .refl _
  . exact (a.cons y).trans (.swap x y l)
theorem Y7:∀l,(mz l).Perm l:=by
 intro l;induction l with
 |nil=>exact .refl _
 |cons x l a=>exact (UW x (mz l)).trans (a.cons x)
theorem alI (x):∀l,l.Pairwise (· <=·)->(sU x l).Pairwise (· <=·):=by
 intro l;induction l with
 |nil=>intro _;exact List.pairwise_singleton _ _
 |cons y l c=>
  intro h;rw [GK] at h;show (if x<=y then x::y::l else y::sU x l).Pairwise (· <=·);split
  . rename_i b;rw [GK,GK];exact ⟨λz a=>by rcases cF.mp a with rfl | a;exact b;exact aa5 b (h.1 z a),h⟩
  . rename_i b;rw [GK];refine ⟨λz a=>?_,c h.2⟩;rcases cF.mp ((UW x l).mem_iff.mp a) with rfl | a
    . exact hJ 300853234705 b
    . exact h.1 z a
theorem aro:∀l,(mz l).Pairwise (· <=·):=by
 intro l;induction l with
 |nil=>exact .nil
 |cons x l a=>exact alI x _ a
theorem bz.ints {xs:List ah} (r:Cq xs ns):bz W (ns.map .int) xs:=by
 induction r with
 |nil=>exact .nil
 |cons n t r a=>exact .cons (.int _ _) a
theorem arp {d:aC} {l:List (Int×AV)} (L:A.handled=none) (J:aF prog w I P W O s.heap) (lo:(d==CP)=false) (D:s.heap.DictOf (tK prog w) d cE) (rr:PR W l cE) (f:l.length<=8)
 (h:Ends prog w I P W s VR (mu ((mz (l.map (·.1))).map .int) O) Q E):aY (aZ prog w) A (call (.builtin "sorted") [.ref d]) Q E s:=by
 refine a8 D.dictAt λep q7=>?_;have i:=rr.length;refine Calls.call_function_entry kind_sorted plain_sorted entry_sorted (args_sorted1 _) ?_;unfold mA.«sorted»;refine aO (bD ?_);refine aO (kdu_collect (kdl_dict lo) L q7 (by refine aa mG ?_;exact ak 0x8000003f90083822004400212 i f) λh' tk az M u=>?_);have g:az.toList.length=cE.length:=by simp only [Array.length_toList];exact u.1
 refine aO (wpAny_newList ?_ (by refine aa g (aa mG ?_);exact ak 0x8000003f90083822004400212 i f));have B:Cq az.toList (cE.map (·.1)):=by
  have:∀(xs:List ah) (c:List (Int×ah)),xs.length=c.length->(∀(j:Nat) v,xs[j]?=some v->∃k x,c[j]?=some (k,x)/\(tK prog w).is k v=true)->Cq xs (c.map (·.1)):=by
   intro xs;induction xs with
   |nil=>intro c e _;cases c with | nil=>exact .nil | cons _ _=>contradiction
   |cons x xs r=>
    intro c e q;induction c using cK with
    |nil=>contradiction
    |cons y c=>refine j6 (q 0 x rfl) λk x' e1 e2=>?_;simp at e1;refine aa e1 <| a8 (Value.isInt_shape e2) λt S=>aa S <| .cons _ _ (r c (by simpa using e) λj v n=>by simpa using q (j+1) v (by simpa using n))
  exact this _ _ g λj v n=>u.2 j v (by rw [<-Array.getElem?_toList];exact n)
 have m:(h'.push (seqObj "list" az.toList.toArray 0)).get? h'.objs.size=some (seqObj "list" az.toList.toArray 0):=nI _ rfl;refine aO (nQ (xo PyProof.Rows.slot_list_sort ⟨_,m,rfl⟩ PyProof.Rows.entry_list_sort (list_sort_tree m B (by have:=g;exact aU 0x805e4028e09001202084400213 this i f) λout G a1 a2 H=>⟨_,rfl,?_⟩) (PyProof.Rows.args_list_sort _)));refine bD ⟨_,rfl,?_⟩;refine a8 (sortedHeap_at (out:=out) m) λe K=>?_;have R:l.map (·.1)=cE.map (·.1):=by
  clear f h i g B u q7 D lo a2 a1;induction rr with
  |nil=>rfl
  |cons _ _ r=>simp only [gc,r]
 have F:G=mz (l.map (·.1)):=lks_uniq (a2.trans (by refine aa R ?_;exact (Y7 _).symm)) H (aro _);have N:∀b o,h'.get? b=some o->(sortedHeap (h'.push (seqObj "list" az.toList.toArray 0)) h'.objs.size az.toList out).get? b=some o:=λb o z=>by have lt:=jK z;rw [sortedHeap_old (oQ lt) (by rw [size_push'];exact abF lt)];exact nH _ z
 obtain ⟨a,e1⟩:∃a:List ah,out=a.toArray:=⟨out.toList,by rfl⟩;subst e1;unfold mu at h;have jf:((mz (l.map (·.1))).map AV.int).length<=SZ:=by rw [cf,(Y7 _).length_eq,cf];exact ao 0x30d40be4020e080011 f
 rw [if_pos jf] at h;have q:bz W ((mz (l.map (·.1))).map AV.int) a:=by rw [<-F];exact bz.ints a1
 have C:=(J.keep M).new (p:=(h'.objs.size,h'.objs.size)) (o:=.lst ((mz (l.map (·.1))).map AV.int)) (bT _) (bT _) N ⟨rfl,a,e,K,q.mono (W.le_add _),jf⟩;refine Ends.ok h (W.le_add _) C ?_ ⟨rfl,rfl⟩;have:=VR.ref (W:=W.add (h'.objs.size,h'.objs.size)) (W.add_at _);rw [J.len] at this;exact this
@[elab_as_elim] theorem e0 {xs:List ah} {f:aJ AV} (r:bz W vs xs) (h:Ends prog w I P W s VR (a0 vs f) Q E) (k:Ends prog w I P W s VR f Q E->G []):G xs:=by
 cases r with
 |nil=>exact k h
 |cons a r=>exact (show False from h).elim
@[elab_as_elim] theorem e1 {xs:List ah} {f:AV->aJ AV} (r:bz W vs xs) (h:Ends prog w I P W s VR (a1 vs f) Q E) (k:∀x u,VR W x u->Ends prog w I P W s VR (f x) Q E->G [u]):G xs:=by
 cases r with
 |nil=>exact (show False from h).elim
 |cons a r=>cases r with
  |nil=>exact k _ _ a h
  |cons=>exact (show False from h).elim
@[elab_as_elim] theorem e2 {xs:List ah} {f:AV->AV->aJ AV} (r:bz W vs xs) (h:Ends prog w I P W s VR (a2 vs f) Q E) (k:∀x u y v,VR W x u->VR W y v->Ends prog w I P W s VR (f x y) Q E->G [u,v]):G xs:=by
 cases r with
 |nil=>exact (show False from h).elim
 |cons b r=>cases r with
  |nil=>exact (show False from h).elim
  |cons a r=>cases r with
   |nil=>exact k _ _ _ _ b a h
   |cons=>exact (show False from h).elim
theorem amT {u:ah} (J:aF prog w I P W O s.heap) (c:VR W x u) (h:Ends prog w I P W s VR (Ws x O) Q E):aY (aZ prog w) A (call (r8 0) [u]) Q E s:=by
 induction x using AV.casesOn with
 |aw l=>refine c.wZ J λa vs n g r z=>?_;have b:=r.length;unfold SZ at z;exact Ou (rn g) (by simp;lia) (Ends.tok h J (by simp only [j9,b];exact .int _ _))
 |str d=>refine a8 c.nG λ_ f=>?_;refine aa f ?_;refine hG h λj h=>?_;unfold SZ at j;exact PyProof.Rows.len_str (by show ¬((d.toArray.size:Nat):Int)≥2^63;simp;lia) (Ends.tok h J (by show VR _ _ (Value.int ((d.toArray.size:Nat):Int) _);simp only [j9];exact .int _ _))
 |ref i=>refine eL h λl e h=>c.lg J e λa vs n hp g r z=>?_;have b:=r.length;unfold SZ at z;exact call_function_tree kind_len plain_len entry_len (args_len1 _) (oY (wpAny_len_body_list (nk g) (by simp;lia) (Ends.tok h J (by simp only [j9,b];exact .int _ _))) (λfU s' ⟨r,e,q⟩=>by refine aa e ?_;exact q) λ_ _ e=>e)
 |_=>exact (show False from h).elim
theorem apV {xs:List ah} (J:aF prog w I P W O s.heap) (r:bz W vs xs) (h:Ends prog w I P W s VR (YE O vs) Q E):aY (aZ prog w) A (call (r8 4) xs) Q E s:=by
 cases r with
 |nil=>exact (show False from h).elim
 |cons i r=>cases r with
  |nil=>exact eI i h λa t h=>hG h λ_ h=>call_range_1 (L9 J h)
  |cons j r=>cases r with
   |nil=>exact eI i h λa t h=>eI j h λb t h=>hG h λ_ h=>call_range_2 (L9 J h)
   |cons f r=>cases r with
    |nil=>exact eI i h λa t h=>eI j h λb t h=>eI f h λc t h=>hG h λk h=>by have g:=(MN k).2.2;exact call_range_3 (g.elim (λd=>cJ 4419727395601 d) (λd=>cJ 35375002159633 d)) (L9 J h) (.inl (PyProof.noPylong_small (Internal.lh (λd=>g.elim (λe=>dw 0x1000000023c80518901420007a12 d e) (λe=>iu (dw 0x4e01420007a12 d e))) (λd=>g.elim (λe=>iu (dw 0x480b101807a12 d e)) (λe=>dw 0x400000008f201462700b101807a12 d e)))))
    |cons=>exact (show False from h).elim
theorem am6 {u:ah} (m:A.handled=none) (J:aF prog w I P W O s.heap) (y:VR W x u) (h:Ends prog w I P W s VR (aG .aq x λa b c=>if fh a b c then mu (gH a c (ij a b c)) O else .aq) Q E):aY (aZ prog w) A (call (r8 5) [u]) Q E s:=by
 cases y with
 |cj g=>
  rename_i a b c C t u v;refine hG h λf h=>hG h λB h=>?_;have hb:=Fw f;refine call_list_range m (J.con _ _ g) (Y6 f) (n:=ij a b c) (by unfold ij;exact dz (dw 0xe03060380811 (lL _)) (dw 2131914422801 (f9 (cJ 60330874897 hb.1)))) (by unfold ij;lia) λh' tk e l r hS j=>?_;obtain ⟨d,e1⟩:∃d:List ah,e=d.toArray:=⟨e.toList,by simp⟩;subst e1;have q:bz W (gH a c (ij a b c)) d:=apY _ _ _ (by have:=j.1;simpa using this) λi x z=>by have:=j.2 i x (by simpa using z);simpa using this
  have k:=J.new (p:=(s.heap.objs.size,s.heap.objs.size)) (o:=.lst (gH a c (ij a b c))) (bT _) (bT _) r ⟨rfl,d,l,hS,q.mono (W.le_add _),B⟩;refine Ends.ok h (W.le_add _) k ?_ ⟨rfl,rfl⟩;have:=VR.ref (W:=W.add (s.heap.objs.size,s.heap.objs.size)) (W.add_at _);rw [J.len] at this;exact this
 |_=>exact (show False from h).elim
theorem aru {u:ah} (K:cL I) (c:A.handled=none) (J:aF prog w I P W O s.heap) (d:VR W (.ref r) u) (h:Ends prog w I P W s VR (Y9 r O) Q E):aY (aZ prog w) A (call (r8 7) [u]) Q E s:=by refine eD h λl e h=>hG h λf h=>aQ d.lE λ_ hp b=>?_;refine aa b ?_;refine fH (J.obj _ _ _ e hp) λj a i=>aQ a λcE D g=>arp c J (J.notSys K hp) D g f h
theorem afl {b:Nat} {xs:List ah} (K:cL I) (f:A.handled=none) (J:aF prog w I P W O s.heap) (r:bz W vs xs) (h:Ends prog w I P W s VR (fQ b vs O) Q E):
 aY (aZ prog w) A (call (r8 b) xs) Q E s:=by
 match b,h with
 |0,h=>exact e1 r h λx u c h=>amT J c h
 |1,h=>exact e2 r h λx u y v c j h=>eI c h λa t h=>eI j h λb t h=>min_two_ints f λh' tk d=>Ends.ext h J d (by split<;>exact .int _ _)
 |2,h=>
  refine e2 r h λx u y v c j h=>eI c h λa t h=>eI j h λb t h=>max_two_ints f λh' tk d=>Ends.ext h J d ?_;by_cases q:a<b
  . refine aa (if_pos q) (aa (if_pos q) ?_);exact .int _ _
  . refine aa (if_neg q) (aa (if_neg q) ?_);exact .int _ _
 |3,h=>
  refine e1 r h λx u c h=>eI c h λa t h=>call_abs_int λu tk=>Ends.tok h J ?_;have:(a.natAbs:Int)=if a<0 then -a else a:=by split<;>lia
  refine aa this ?_;exact .int _ _
 |4,h=>exact apV J r h
 |5,h=>exact e1 r h λx u c h=>am6 f J c h
 |6,h=>refine e1 r h λx u c h=>eR c h λi c h=>eL h λl e h=>c.lg J e λa vs n hp g r z=>?_;have o:=r.length;refine call_tuple_list (nk g) (λh' d=>?_) (by refine aa j9 (aa o ?_);exact o4 z);exact yT (s:={s with heap:=h'}) (J.keep d) r z λW' y s' le m p k'=>h W' y s' le m p ⟨k'.gens,k'.os⟩
 |7,h=>exact e1 r h λx u c h=>eR c h λi c h=>aru K f J c h
 |8,h=>
  refine e1 r h λx u c h=>eR c h λi c h=>eL h λl e h=>?_;split at h
  . rename_i ns en;refine c.lg J e λa vs n hp g r z=>?_;have hi:=alK r en;refine a8 hi.allInts.items λxs k=>?_;have B:=k▸nk g;refine sum_intListG f B λh' tk C d=>?_;have e1:ns=xs.toList.map (·.1):=by
     refine aa (nums_intItems ..).symm (aa (k ..).symm ?_);exact (show numsOf vs.toArray.toList=ns from hi.numsOf).symm
    have e2:preSum (numAt xs) xs.size=ns.sum:=by exact aa (preSum_eq ..) (aa (N2 (by simp) ..) (aa (e1 ..) rfl))
    refine aa e2 <| Ends.ext h J d (.int _ _)
  . exact h.elim
 |_+9,h=>exact (show False from h).elim
end
variable {o:Obj} {fd:w9} {args:List (Bool×Sem ah)} {pos HY:Pos}
section
variable {a:aC} {i:String} {f:ah}
def mI (M:iw) (A:dh) (f:ah) (s:ax):Prop:=∃kp,∀(Q:Keeper->ax->Prop) (E:ah->ax->Prop),Q kp s->aY M A (OF f) Q E s
theorem mI.func (c:s.heap.get? a=some o) (b:o.data=.func fd):mI M A (.ref a) s:=⟨.frame,λQ E h=>by unfold OF;refine aO (OO c ?_);refine aa b ?_;exact bD h⟩
theorem mI.vF {i:String}:mI M A (.builtin i) s:=⟨.machine,λ_ _ h=>bD h⟩
theorem mI.type {i:String}:mI M A (.type i) s:=⟨.machine,λ_ _ h=>bD h⟩
theorem mI.cls (Y:Makes (aZ prog w) s.heap a):mI (aZ prog w) A (.ref a) s:=by obtain ⟨⟨oc,od,b,sl,hC,e1,e2,c⟩,made,base,self,bk,call,typ⟩:=Y;refine ⟨if (some (zv "type.__call__")==some (.builtin "type.__call__")) then .machine else .caller,λQ E h=>?_⟩;unfold OF;refine aO (OO hC (aO (call.here ?_)));exact bD h
theorem agL {Q:Args->ax->Prop} (hp:args.any (·.1)=false) (h:aY M A (Hb args) (λvs a=>Q ⟨vs,[]⟩ a) E s):aY M A (evalArgs f true args []) Q E s:=by
 induction args using cK with
 |nil=>unfold evalArgs;refine aO (oY h (λvs a b=>?_) λ_ _ e=>e);refine aO (bD ?_);refine nQ <| aO (bD (aO (bD (bD b))))
 |cons x r=>obtain ⟨st,t⟩:=x;simp only [NP,jJ] at hp;obtain rfl:st=false:=hp.1;exact evalArgs_plain h
theorem aah {b:Type} {c:Prop} [Decidable c] {m a:Sem b} {Q:b->ax->Prop} (h:aY M A m Q E s) (h':aY M A a Q E s):aY M A (if c then m else a) Q E s:=by
 by_cases q:c
 . exact aa (if_pos q) h
 . exact aa (if_neg q) h'
theorem C7 {first:List ah} (hp:args.any (·.1)=false)
 (h:aY M A (Hb args) (λvs b=>mI M A f b/\aY M A (call f (first++vs)) Q E b) E s):aY M A (Oy pos f first args []) Q E s:=by
 unfold Oy;refine aO (nQ (agL hp (oY h (λvs b i=>aO (vx ?_)) λ_ _ x=>x)));refine bB i λe c=>a8 e λkp g=>?_;have a:∀{t:Sem ah},aY M A t Q E b->aY M A (t>>=λr=>holding [r] point>>=λ_=>pure r) Q E b:=
  λht=>aO (oY ht (λr k hr=>aO (nQ (wpAny_point (bD hr)))) λ_ _ x=>x)
 have d:∀{j:List ah} {m:Sem ah},aY M A m Q E b->aY M A (operate j m) Q E b:=λht=>wpAny_operating ht;refine aO (g _ _ ?_);refine aa hp ?_;induction kp using Keeper.casesOn with
 |frame=>refine aah (a c) (a ?_);unfold callMarked;exact aaD c
 |boundFrame=>refine aah (a c) (a ?_);unfold callMarked;exact aaD c
 |machine=>exact a c
 |caller=>exact a (d c)
theorem E6 {e:cg} {r:List cg} (h:noStar e=true):tL (e::r) ae=(false,oW e ae)::tL r ae:=by induction e using u9<;>first | rfl | contradiction
theorem Im {pos:Pos}:∀{es:CE} {l:List cg},jP sc es l=true->(vo pos (tL l ae)).any (·.1)=false/\(vo pos (tL l ae)).all (λx=>!x.1)=true:=by
 intro es;induction es with
 |nil=>
  intro l h;induction l using cK with
  |nil=>exact ⟨rfl,rfl⟩
  |cons _ _=>contradiction
 |cons a b _ f=>
  intro l h;induction l using cK with
  |nil=>contradiction
  |cons e r=>
   have h:=h;have h:=dP.mp h;refine aa (E6 (dP.mp h.1).1) <| bB (f h.2) λc d=>?_
   unfold vo at c d⊢;refine aa gc (aa NP (aa NO (aa c (aa d ?_))));exact ⟨rfl,rfl⟩
 |_=>intro l h;contradiction
theorem H3 {o:cg} {iW:Str} {m:Sem ah} (h:BD o=true):attributeBase o iW ae m=m:=by
 induction o using u9 with
 |Call g l b pos=>
  induction g using u9 with
  |Name id p=>
   induction l using cK with
   |nil=>
    induction b using cK with
    |nil=>have a:(id != "super")=true:=h;delta attributeBase;dsimp only;refine aa a ?_;rfl
    |_=>rfl
   |_=>rfl
  |_=>rfl
 |_=>rfl
theorem Xl {o:cg} {args:List cg} (l:BD o=true) (k:args.length<20) (a:(HY.endLine==pos.line)=true)
 (hp:(vo pos (tL args ae)).all (λx=>!x.1)=true)
 (h:aY (aZ prog w) A (oW o ae) (λg d=>∀pl,aY (aZ prog w) A (getMethod g name pl) (λfr i=>aY (aZ prog w) A (Oy pos fr.1 fr.2 (vo pos (tL args ae)) []) Q E i) E d) E s):
 aY (aZ prog w) A (oW (.Call (.Attribute o name HY) args [] pos) ae) Q E s:=by
 refine aa (arm_eval_Call ..) (aa (H3 l ..) ?_);refine aO (oY h (λg d m=>aO (vx ?_)) λ_ _ e=>e);have j:acp (args.length+([]:List Keyword).length) (vo pos (tL args ae)) (backToKw pos (keywordEach [] ae))=true:=by unfold acp;refine aa hp <| decide_eq_true (show args.length<30 from abG k ag)
 have b:methodCallPos true o ae HY pos=pure pos:=by unfold methodCallPos;simp [a]
 unfold methodCall;refine aa j <| aO (nQ (oY (m _) (λfr i c=>?_) λ_ _ e=>e))
 obtain ⟨f,first⟩:=fr;exact aO (xq b c)
theorem PD {u x:ah} (J:aF prog w I P W O s.heap) (d:VR W (.ref r) u) (e:O[r]?=some (.lst l)) (f:VR W v x) (i:l.length<SZ)
 (h:Ends prog w I P W s VR (.ok .none (O.set r (.lst (l++[v])))) Q E):aY (aZ prog w) A (call (.builtin "list.append") [u,x]) Q E s:=by
 refine d.lg J e λa vs n hp g b z=>?_;have c:=b.length;refine CK ab2 ⟨_,g,rfl⟩ PySem.F.entry_list_append (PySem.F.args_list_append_2 _ _) (AutoListH.list_append_list_val_0 a vs.toArray n x (by refine aa j9 (aa c ?_);exact o4 z)) ⟨g,?_⟩;exact Ends.ok (R:=VR) h (.refl W) (J.lst hp g (by simp) (b.append (.cons f .nil)) (by refine aa eC ?_;exact i)) .none ⟨rfl,rfl⟩
theorem apR {u:ah} (J:aF prog w I P W O s.heap) (d:VR W (.ref r) u) (e:O[r]?=some (.lst l))
 (h:Ends prog w I P W s VR (.ok .none (O.set r (.lst l.reverse))) Q E):aY (aZ prog w) A (call (.builtin "list.reverse") [u]) Q E s:=by
 refine d.lg J e λa vs n hp g b z=>?_;have c:=b.length;refine CK ab4 ⟨_,g,rfl⟩ PySem.F.entry_list_reverse (PySem.F.args_list_reverse_1 _) (AutoListH.list_reverse_list_0 a vs.toArray n (by refine aa j9 (aa c ?_);exact o4 z)) ⟨g,?_⟩;exact Ends.ok (R:=VR) h (.refl W) (J.lst hp g (by simp) b.reverse (by refine aa abm ?_;exact z)) .none ⟨rfl,rfl⟩
theorem bz.amN {xs:List ah} (r:bz W l xs) (h:l.getLast?=some v):∃x,xs[xs.length-1]?=some x/\VR W v x:=by rw [List.getLast?_eq_getElem?] at h;refine aa r.length <| r.get _ h
theorem aph {u:ah} (J:aF prog w I P W O s.heap) (i:VR W (.ref r) u) (e:O[r]?=some (.lst l)) (j:l.getLast?=some v)
 (h:Ends prog w I P W s VR (.ok v (O.set r (.lst l.dropLast))) Q E):aY (aZ prog w) A (call (.builtin "list.pop") [u]) Q E s:=by
 refine i.lg J e λa vs n hp g c z=>?_;have d:=c.length;refine aQ (c.amN j) λx k b=>CK ab3 ⟨_,g,rfl⟩ PySem.F.entry_list_pop (PySem.F.args_list_pop_1 _) (PySem.MeetsSeq.list_pop_last a vs.toArray n x (by simpa using k) (by refine aa j9 (aa d ?_);exact o4 z)) ⟨g,?_⟩;refine Ends.ok (R:=VR) h (.refl W) (J.lst hp g (vs':=vs.take (vs.length-1)) ?_ ?_ (by refine aa List.length_dropLast ?_;unfold SZ at*;exact ak 0xc3502f9108300200461a817c80012 z (Od _ _))) b ⟨rfl,rfl⟩
 . apply Array.ext';simp only [j9];by_cases f:vs.length=0
   . have:vs=[]:=List.eq_nil_of_length_eq_zero f;refine aa this ?_;rfl
   . refine Array.toList_eraseIdxIfInBounds.trans ?_;simp only;refine (List.eraseIdx_eq_take_drop_succ ..).trans ?_;have:vs.length-1+1=vs.length:=by lia
     refine aa this ?_;simp
 . refine aa d (aa List.dropLast_eq_take ?_);exact c.take _
end
variable {k k':Nat}
theorem fy.le (h:fy k A) (e:k'<=k):fy k' A:=⟨h.q6,by have:=h.Ai;exact aU 0x1c21f9200120c410013843f22002012 this e,by have:=h.FU;exact aU 0x27109e483b009062080389c427910ec02012 this e⟩
theorem fy.u (h:fy k A) (c:Nat:=100) (a:c<=4000:=by decide):A.units+c<cLine:=by have:=h.FU;unfold zB;exact aU 0x9ab13c9000947f407e480089c427910ec02012 this a
def oZ (prog:cU) (w:bU) (I:KI) (n:Nat):Prop:=
 ∀{A:dh} {P:Pin} {W:Wd} {O:AH} {s:ax} {f:Nat} {vs:List AV} {xs:List ah} {Q:ah->ax->Prop} {E:ah->ax->Prop},fy (3*n) A->AF P A->aF prog w I P W O s.heap->bz W vs xs->
  Ends prog w I P W s VR (aj GG ai n f vs O) Q E->nP (aZ prog w) A (.call (.ref (I.fn f)) ⟨xs,[]⟩) (λr s'=>match r with | .ok (.ret v)=>Q v s' | .ok _=>False | .error e=>E e s') s
noncomputable def LY (I:KI):MK->ah
 |.own f=>.ref (I.fn f)
 |.append=>.builtin "list.append"
 |.pop=>.builtin "list.pop"
 |.reverse=>.builtin "list.reverse"
 |.xW=>.builtin "dict.get"
theorem air {u:ah} {m:Nat} {k:MK} {pl:Sem Bool} {Q:ah×List ah->ax->Prop} (K:cL I) (J:aF prog w I P W O s.heap) (F:VR W x u) (e:gE GG x m O=some k) (h:Q (LY I k,[u]) s):
 aY (aZ prog w) A (getMethod u (nm m) pl) Q E s:=by
 induction x using AV.casesOn with
 |ref r=>
  replace e:rA GG r m O=some k:=e;delta rA at e;generalize C:O[r]?=j at e;induction j using aW with
  |none=>contradiction
  |some o=>
   induction o using aV.casesOn with
   |ba c l=>
    replace e:(match lk m l with | none=>(GG.meth c m).map MK.own | some _=>none)=some k:=e;generalize el:lk m l=j at e;induction j using aW with
    |some _=>exact cX e
    |none=>
     refine aQ (gJ.mp e) λf p e=>?_;subst e;refine aQ F.lE λ_ hp B=>?_;subst B
     . refine uY (mH.A6 (J.obj _ _ _ C hp)) λox od mm R L t S N q=>?_;have y:GG.meth bQ m=none:=by
        show lk (bQ,m) ET=none;unfold ET;simp [eh,ry,bQ]
       have i1:=R.cl.resolve_right λz=>by rw [z,y] at p;contradiction
       refine bB (K.VZ c i1 m f p) λk1 k2=>zo (K.yG f (K.Lq c m f p)) λoc X fd sl k3 T=>?_;have G:=q m k2;rw [el] at G;have U:mm (nm m)=none:=by
        generalize z:mm (nm m)=j;induction j using aW with
        |none=>rfl
        |some _=>rw [z] at G;contradiction
       refine method_fn J.K L (K.Kp c i1) (K.TM c i1) k1 ?_ ?_ h
       . show (I.K.lookup (I.fn f)).map (·.cls)=_;refine bA k3 (aa T ?_);rfl
       . show (zF (nm m) od).map (·.isSome)=some false;refine bA (S ..) (aa (U ..) ?_);rfl
   |lst l=>
    refine ti (F.lst J C) λa vs n v hp g V z=>?_;subst v;have t:∀b,mF a=.ref b->∃o,s.heap.get? b=some o/\o.dict=none:=λb d=>by (injection d with d;subst d);exact ⟨_,g,rfl⟩
    have M:=K.LX;refine Ej e (λi e=>?_) λe=>Ej e (λi e=>?_) λe=>pQ e λi e=>?_
    . subst e;subst i;refine aa M.1 ?_;exact CM (nk g).typeIs GZ ab2 PySem.F.type_list_append t h
    . subst e;subst i;refine aa M.2.1 ?_;exact CM (nk g).typeIs GZ ab3 PySem.F.type_list_pop t h
    . subst e;subst i;refine aa M.2.2.1 ?_;exact CM (nk g).typeIs GZ ab4 PySem.F.type_list_reverse t h
   |dI l=>
    . refine pQ e λi e=>?_;subst e;subst i;refine aa K.LX.2.2.2 ?_;refine aQ F.lE λ_ hp B=>?_;subst B
      . refine fH (J.obj _ _ _ C hp) λZ H p=>aQ H λY D V=>CM D.typeIs PySem.F.plainAttrs_dict ab1 PySem.F.type_dict_get (λb d=>?_) h;refine oO D λo es ep g ex _=>?_
        (injection d with d;subst d)
        exact ⟨o,g,ex.2.1⟩
   |_=>contradiction
 |_=>contradiction
theorem afS {l:List (Int×AV)} {k:Int} {t:Tok} (K:cL I) (J:aF prog w I P W O s.heap) (hp:W.μ[r]?=some p) (e:O[r]?=some (.dI l))
 (h:Ends prog w I P W s VR (.ok ((lk k l).getD .none) O) Q E):aY (aZ prog w) A (call (.builtin "dict.get") [.ref p.1,.int k t]) Q E s:=by
 refine fH (J.obj _ _ _ e hp) λm c j=>aQ c λd D i=>?_;have lo:=J.notSys K hp;have a:=B4 i k;have f:Q ((tM d k).getD .none) {s with toks:=s.toks+1}:=by
  refine Ends.tok h J ?_;generalize e1:lk k l=b at a;induction b using aW with
  |none=>
   generalize e2:tM d k=b;induction b using aW with
   |none=>exact .none
   |some _=>rw [e2] at a;contradiction
  |some v=>
   generalize e2:tM d k=b;induction b using aW with
   |none=>rw [e2] at a;contradiction
   |some x=>rw [e2] at a;cases a with | some g=>exact g
 exact call_meetsIn ab1 D.typeIs PySem.F.entry_dict_get (PySem.F.args_dict_get_2 _ _) (meets_dict_get (tK prog w) p.1 (by simp [tK,ah.isInt]) lo) ⟨_,D.mapOf,f⟩
theorem afm {k:MK} {u:ah} {xs:List ah} (K:cL I) (C:oZ prog w I n) (g:fy (3*n) A) (j:AF P A) (J:aF prog w I P W O s.heap) (a:VR W x u) (r:bz W vs xs)
 (m:∀f,k=.own f->(ai f).isSome=true)
 (h:Ends prog w I P W s VR (qJ (aj GG ai n) k x vs O) Q E):mI (aZ prog w) A (LY I k) s/\aY (aZ prog w) A (call (LY I k) ([u]++xs)) Q E s:=by
 induction k using MK.casesOn with
 |own f=>refine zo (K.yG f (m f rfl)) λoc p fd sl k3 q=>⟨.func (J.K _ _ k3) rfl,xn (C g j J (.cons a r) h)⟩
 |append=>exact ⟨.vF,e1 r h λv y b h=>eR a h λi a h=>eL h λl e h=>hG h λc h=>PD J a e b c h⟩
 |pop=>
  refine ⟨.vF,e0 r h λh=>eR a h λi a h=>eL h λl e h=>?_⟩;generalize c:l.getLast?=o at h;induction o using aW with
  |some v=>exact aph J a e c h
  |none=>exact h.elim
 |reverse=>exact ⟨.vF,e0 r h λh=>eR a h λi a h=>eL h λl e h=>apR J a e h⟩
 |xW=>refine ⟨.vF,e1 r h λv y b h=>eI b h λk t h=>eR a h λi a h=>?_⟩;have h:=h;refine eD h λl e h=>aQ a.lE λ_ hp d=>?_;refine aa d ?_;exact afS K J hp e h
variable {C:aC} {rest:List ah}
theorem as5 (h:fy (k+1) A) (b:AF P A):fy k (A.under (.builtin "type.__call__" ⟨.ref C::rest,[]⟩))/\AF P (A.under (.builtin "type.__call__" ⟨.ref C::rest,[]⟩)):=by
 have f:(tn "type.__call__" ⟨.ref C::rest,[]⟩).weight=1:=by rfl
 have d:(tn "type.__call__" ⟨.ref C::rest,[]⟩).cUnits=1:=by rfl
 have c:(tn "type.__call__" ⟨.ref C::rest,[]⟩).envs=[]:=by rfl
 refine ⟨⟨h.q6,?_,?_⟩,?_⟩
 . have:=h.Ai;show A.depth+(tn "type.__call__" ⟨.ref C::rest,[]⟩).weight+k<=900;refine aa f ?_;exact ak 0x7087e440900920ce10fc8910802011 this
 . have:=h.FU;show A.units+(tn "type.__call__" ⟨.ref C::rest,[]⟩).cUnits+7*k<=5000;refine aa d ?_;exact ak 0x9c427910ec480490627109e44884ec02011 this
 . refine aQ (b) λa e q=>⟨a,?_,q⟩;show pushEnvs (tn "type.__call__" ⟨.ref C::rest,[]⟩).envs A.frames=_;refine aa c ?_;exact e
theorem anT {c:Nat} {xs:List ah} (K:cL I) (C:oZ prog w I n) (D:fy (3*n+1) A) (F:AF P A) (J:aF prog w I P W O s.heap) (r:bz W vs xs)
 (h:Ends prog w I P W s VR (ny GG (aj GG ai n) c vs O) Q E):mI (aZ prog w) A (.ref (I.cls c)) s/\aY (aZ prog w) A (call (.ref (I.cls c)) xs) Q E s:=by
 unfold ny at h;generalize z:GG.init c=S at h;induction S using aW with
 |none=>exact h.elim
 |some f=>
  dsimp only at h;refine j5 (K.kin c f z) λk1 k2 k3 G=>zo (K.yG f k2) λoc od fd sl k5 H=>?_;have Y:=makes_of (M:=aZ prog w) J.K G;refine ⟨.cls Y,xn ?_⟩;obtain ⟨i,g,d,t,os⟩:=s;have m:=J.K;have y:typeIn I.K (.ref (I.fn f))=some (.type "function"):=by show (I.K.lookup (I.fn f)).map (·.cls)=_;refine bA k5 (aa H ?_);rfl
  refine make_core Y (zG m k3) (λself=>bind_fn m self y) (.inl rfl) ?_;have kk:∀b o,i.get? b=some o->((i.push CL).push (zD (I.cls c) i.objs.size)).get? b=some o:=λb o e=>nH _ (nH _ e);have g1:((i.push CL).push (zD (I.cls c) i.objs.size)).get? (i.objs.size+1)=some (zD (I.cls c) i.objs.size):=by heap_get
  have g2:((i.push CL).push (zD (I.cls c) i.objs.size)).get? i.objs.size=some emptyDict:=by heap_get
  have q:aF prog w I P (W.add (i.objs.size+1,i.objs.size)) (O++[.ba c []]) ((i.push CL).push (zD (I.cls c) i.objs.size)):=by
   refine J.new (p:=(i.objs.size+1,i.objs.size)) (CA _) (bT _) kk <| ⟨.inl k1,Nat.succ_ne_self _,⟨_,g1,rfl,rfl,rfl⟩,?_,λ_=>none,?_,λa U=>.none⟩
   . intro o es ep go j;rw [g2] at go
     (injection go with go;subst go)
     (injection j with j;subst j)
     exact bT _
   . exact (Heap.Ns.new i (.type "dict")).keeps (kF _ _)
  refine bB (as5 (C:=I.cls c) (rest:=xs) D F) λa1 a2=>?_;have hr:bz (W.add (i.objs.size+1,i.objs.size)) (.ref O.length::vs) (.ref (i.objs.size+1)::xs):=by refine .cons ?_ (bz.mono (W.le_add _) r);have:=W.add_at (i.objs.size+1,i.objs.size);rw [J.len] at this;exact .ref this
  have B:=Ends.from (s':=⟨(i.push CL).push (zD (I.cls c) i.objs.size),g,d,t,os⟩) h (W.le_add (i.objs.size+1,i.objs.size)) ⟨rfl,rfl⟩;refine codeAny_mono (C a1 a2 q hr (Q:=λv s'=>v=.none/\Q (.ref (i.objs.size+1)) s') (E:=E) ?_) ?_
  . refine Ends.bind B λv T W1 x X _ N u L V l=>?_;cases L with
    |none=>refine ⟨rfl,?_⟩;refine Ends.here (R:=VR) l u ?_;have:=W.add_at (i.objs.size+1,i.objs.size);rw [J.len] at this;exact .ref (N.μ _ _ this)
    |_=>exact l.elim
  . intro r' s' k;rcases r' with e | v
    . exact k
    . induction v using Flow.casesOn<;>first | exact k | exact k.elim
variable {P'' P':Pin} {it:aC} {S:aC->Prop}
section
variable {a:aC} {c:ah} {d:w8}
structure Pin.jM (P P':Pin) (S:aC->Prop):Prop where
 ex:∀b,¬S b->P'.ex b=P.ex b
 fr:∀b,¬S b->P'.fr b=P.fr b
 no:∀b,S b->P.ex b=none/\P.fr b=none
 so:∀b,S b->P'.ex b≠none\/P'.fr b≠none
noncomputable def Pin.pin (P:Pin) (a:aC) (o:Obj):Pin:=⟨λb=>if b=a then some o else P.ex b,P.fr⟩
noncomputable def Pin.frm (P:Pin) (a:aC) (c:ah) (d:w8):Pin:=⟨P.ex,λb=>if b=a then some (c,d) else P.fr b⟩
theorem aF.pinned (J:aF prog w I P W O h) (X:P.jM P' S) (f:∀a,S a->fk P W a) (k:∀a o,S a->P'.ex a=some o->h.get? a=some o)
 (j:∀a c d,S a->P'.fr a=some (c,d)->∃o,h.get? a=some o/\o.cls=c/\o.data=d):aF prog w I P' W O h where
 con:=J.con
 pex a o e:=by
  by_cases q:S a
  . exact k a o q e
  . rw [X.ex a q] at e;exact J.pex a o e
 pfr a c d e:=by
  by_cases q:S a
  . exact j a c d q e
  . rw [X.fr a q] at e;exact J.pfr a c d e
 kin:=J.kin
 len:=J.len
 obj:=J.obj
 sep i p e:=by have s:=J.sep i p e;have b:¬S p.1:=λq=>((f _ q).2.2.2 i p e).1 rfl;have g:¬S p.2:=λq=>((f _ q).2.2.2 i p e).2 rfl;refine aa (X.ex _ b) (aa (X.fr _ b) (aa (X.ex _ g) (aa (X.fr _ g) ?_)));exact s
 inj:=J.inj
 dis a o e:=by
  have b:¬S a:=λq=>by rw [(f _ q).1] at e;contradiction
  refine aa (X.ex _ b) (aa (X.fr _ b) ?_);exact J.dis a o e
theorem aF.unpin (J:aF prog w I P' W O h) (X:P.jM P' S) (k:∀b x,¬S b->h.get? b=some x->h'.get? b=some x):aF prog w I P W O h'/\∀a,S a->fk P W a:=by
 have g:∀a o,W.T a=some o->¬S a:=λa o e q=>by
  have:=J.dis a o e;rcases X.so a q with z | z
  . exact z this.1
  . exact z this.2
 have f:∀(i:Nat) p,W.μ[i]?=some p->¬S p.1/\¬S p.2:=λi p e=>by have s:=J.sep i p e;exact ⟨λq=>(X.so _ q).elim (λz=>z s.1.2.1) (λz=>z s.1.2.2),λq=>(X.so _ q).elim (λz=>z s.2.2.1) (λz=>z s.2.2.2)⟩
 refine ⟨⟨λa o e=>k _ _ (g a o e) (J.con a o e),λa o e=>?_,λa c d e=>?_,J.kin,J.len,λi o p e j=>?_,λi p e=>?_,J.inj,λa o e=>?_⟩,λa q=>?_⟩
 . have n:¬S a:=λq=>by rw [(X.no a q).1] at e;contradiction
   rw [<-X.ex a n] at e;exact k _ _ n (J.pex a o e)
 . have n:¬S a:=λq=>by rw [(X.no a q).2] at e;contradiction
   rw [<-X.fr a n] at e;refine aQ (J.pfr a c d e) λo x y=>⟨o,k _ _ n x,y⟩
 . exact (J.obj i o p e j).at (λo=>k _ o (f i p j).1) (λo=>k _ o (f i p j).2)
 . have s:=J.sep i p e;rw [X.ex _ (f i p e).1,X.fr _ (f i p e).1,X.ex _ (f i p e).2,X.fr _ (f i p e).2] at s;exact s
 . have:=J.dis a o e;rw [X.ex _ (g a o e),X.fr _ (g a o e)] at this;exact this
 . refine ⟨?_,(X.no a q).1,(X.no a q).2,λi p e=>⟨λz=>(f i p e).1 (z▸q),λz=>(f i p e).2 (z▸q)⟩⟩;generalize e:W.T a=l;induction l using aW with
   |none=>rfl
   |some o=>exact absurd q (g a o e)
theorem aF.repin (J:aF prog w I P' W O h) (X:P.jM P' S) (Y:P.jM P'' S) (k:∀b x,¬S b->h.get? b=some x->h'.get? b=some x)
 (i:∀a o,S a->P''.ex a=some o->h'.get? a=some o) (f:∀a c d,S a->P''.fr a=some (c,d)->∃o,h'.get? a=some o/\o.cls=c/\o.data=d):aF prog w I P'' W O h':=
 let ⟨e,g⟩:=J.unpin X k
 e.pinned Y g i f
theorem Pin.ext_pin (c:P.ex a=none) (d:P.fr a=none):P.jM (P.pin a o) (· =a) where
 ex b n:=if_neg n
 fr _ _:=rfl
 no b e:=by refine aa e ?_;exact ⟨c,d⟩
 so b e:=.inl (by show (if b=a then some o else P.ex b)≠none;refine aa (if_pos e) ?_;exact oU _)
theorem Pin.pin_at {o:Obj}:(P.pin a o).ex a=some o:=if_pos rfl
theorem Pin.ext_frm (f:P.ex a=none) (g:P.fr a=none):P.jM (P.frm a c d) (· =a) where
 ex _ _:=rfl
 fr b n:=if_neg n
 no b e:=by refine aa e ?_;exact ⟨f,g⟩
 so b e:=.inr (by show (if b=a then some (c,d) else P.fr b)≠none;refine aa (if_pos e) ?_;exact oU _)
theorem Pin.frm_at {d:w8}:(P.frm a c d).fr a=some (c,d):=if_pos rfl
theorem aF.pin (J:aF prog w I P W O h) (f:fk P W a) (e:h.get? a=some o):aF prog w I (P.pin a o) W O h:=
 J.pinned (Pin.ext_pin f.2.1 f.2.2.1) (λb q=>by refine aa q ?_;exact f) (λb x q z=>by subst q;rw [Pin.pin_at] at z;refine iM z ?_;exact e)
  (λb c d q z=>by subst q;have z:=z;exact cX (f.2.2.1.symm.trans z))
theorem aF.frm (J:aF prog w I P W O h) (f:fk P W a) (e:h.get? a=some o):aF prog w I (P.frm a o.cls o.data) W O h:=
 J.pinned (Pin.ext_frm f.2.1 f.2.2.1) (λb q=>by subst q;exact f) (λb x q z=>by subst q;have z:=z;exact cX (f.2.1.symm.trans z))
  (λb c d q z=>by subst q;rw [Pin.frm_at] at z;cases z;exact ⟨o,e,rfl,rfl⟩)
inductive gx (W:Wd):AV->Nat->Obj->Prop
 |lst {r:Nat} {p:aC×aC} {i:Nat} {o:Obj}:W.μ[r]?=some p->o.cls=.type "list_iterator"->o.data=.fields #[.ref p.1,.int i 0]->gx W (.ref r) i o
 |aw {l:List AV} {t:aC} {i:Nat} {o:Obj}:VR W (.aw l) (.ref t)->o.cls=.type "tuple_iterator"->o.data=.fields #[.ref t,.int i 0]->gx W (.aw l) i o
 |cj {a b c:Int} {i:Nat}:gx W (.cj a b c) i {cls:=.type "range_iterator",dict:=none,data:=.fields #[qx (a+i*c),qx (qk a b c-i),qx c],slots:=#[]}
 |qG {x:List Nat} {t:Tok} {i:Nat} {o:Obj}:o.cls=.type "str_ascii_iterator"->o.data=.fields #[.str ⟨x.toArray⟩ t,.int i 0]->gx W (.str x) i o
 |rM {x:List Nat} {t:Tok} {i:Nat} {o:Obj}:o.cls=.type "str_iterator"->o.data=.fields #[.str ⟨x.toArray⟩ t,.int i 0]->gx W (.str x) i o
theorem gx.mono (le:W.le W') (h:gx W y i o):gx W' y i o:=by
 cases h with
 |lst a b c=>exact .lst (le.μ _ _ a) b c
 |aw a b c=>exact .aw (a.mono le) b c
 |cj=>exact .cj
 |qG a b=>exact .qG a b
 |rM a b=>exact .rM a b
theorem apt {x:List Nat} {t:Tok} (h:∀o,gx W (.str x) 0 o->Q (.ref s.heap.objs.size) {s with heap:=s.heap.push o}):
 aY (aZ prog w) A (Ha (.str ⟨x.toArray⟩ t)) Q E s:=by
 cases a:(⟨x.toArray⟩:Str).cps.all (·<128)
 . exact wpAny_pyIter_wide a (h _ (.rM rfl rfl))
 . exact wpAny_pyIter_ascii a (h _ (.qG rfl rfl))
theorem VB {u:ah} (J:aF prog w I P W O s.heap) (j:VR W y u) (e:sX y O=some l)
 (h:∀o,gx W y 0 o->Q (.ref s.heap.objs.size) {s with heap:=s.heap.push o}):aY (aZ prog w) A (Ha u) Q E s:=by
 cases j with
 |aw g z r=>exact wpAny_pyIter_tuple ⟨_,J.con _ _ g,rfl,_,rfl⟩ (h _ (.aw (.aw g z r) rfl rfl))
 |str x t=>exact apt h
 |@cj a b c _ _ _ _ g=>refine pQ e λf e=>wpAny_pyIter_range (J.con _ _ g) (Y6 f) (h _ ?_);have:=gx.cj (W:=W) (a:=a) (b:=b) (c:=c) (i:=0);simpa using this
 |ref hp=>refine oL e λk d e=>?_;obtain ⟨m,vs,n,g,p,z⟩:=J.obj _ _ _ d hp;exact wpAny_pyIter_list ⟨_,g,rfl,_,rfl⟩ (h _ (.lst hp rfl rfl))
 |_=>contradiction
theorem alX (R:gx W y i o) (g:s.heap.get? it=some o) (h:Q (.ref it) s):aY (aZ prog w) A (Ha (.ref it)) Q E s:=by
 cases R with
 |lst a b c=>exact wpAny_pyIter_listiter ⟨_,g,b,c⟩ h
 |aw a b c=>exact wpAny_pyIter_tupleiter ⟨_,g,b,c⟩ h
 |cj=>exact wpAny_pyIter_rangeiter g h
 |qG a b=>exact wpAny_pyIter_striter_ascii ⟨_,g,a,b⟩ h
 |rM a b=>exact wpAny_pyIter_striter_wide ⟨_,g,a,b⟩ h
theorem apW {c:Int} (n):∀a i v,(gH a c n)[i]?=some v->i<n/\v=.int (a+(i:Nat)*c):=by
 induction n with
 |zero=>intro a i v h;exact cX h
 |succ n e=>
  intro a i v h;induction i using xc with
  |zero=>obtain rfl:=eM h;exact ⟨Nat.succ_pos _,by simp⟩
  |succ i=>refine bB (e (a+c) i v h) λb d=>⟨Nat.succ_lt_succ b,?_⟩;refine d.trans ?_;congr 1;refine aa (show ((i+1:Nat):Int)=(i:Int)+1 from rfl ..) (aa (NK ..) ?_);exact dz (oy 0x40b208022020025830) (oy 0x410009101621005830)
theorem VC {Q:Option ah->ax->Prop} (J:aF prog w I P W O s.heap) (R:gx W y i o) (g:s.heap.get? it=some o) (e:fG y i O=some (some v))
 (h:∀h' T x d,gx W y (i+1) d->h'.get? it=some d->(∀b z,b≠it->s.heap.get? b=some z->h'.get? b=some z)->VR W v x->Q (some x) {s with heap:=h',toks:=T}):
 aY (aZ prog w) A (zI (.ref it)) Q E s:=by
 unfold fG at e;refine aQ (gJ.mp e) λl e1 e2=>?_;cases R with
 |@lst r p _ _ a b c=>refine oL e1 λX K e1=>?_;obtain rfl:=eM e1;obtain ⟨Y,vs,n,gl,B,z⟩:=J.obj _ _ _ K a;refine aQ (B.get i e2) λx F D=>wpAny_pyNext_list_item ⟨_,g,b,c⟩ ⟨_,gl,rfl,_,rfl⟩ (by simpa using F) λh' f j=>ct f λd u k m=>h h' s.toks x d (.lst a k m) u (λb z n q=>j.extBut b z n q) D
 |aw a b c=>
  (injection e1 with e1;subst e1)
  cases a with
  |aw gt z B=>refine aQ (B.get i e2) λx F D=>wpAny_pyNext_tuple_item ⟨_,g,b,c⟩ ⟨_,J.con _ _ gt,rfl,_,rfl⟩ (by simpa using F) λh' f j=>ct f λd u k m=>h h' s.toks x d (.aw (.aw gt z B) k m) u (λb z n q=>j.extBut b z n q) D
 |@cj a b c _=>
  refine pQ e1 λH e1=>?_;subst e1;refine bB (apW _ _ _ _ e2) λG M=>?_;subst M;have L:=Fw H;unfold ij at G;refine wpAny_pyNext_range_item g (dJ 0xe0281d18011e84400112 G (f9 (cJ 60330874897 L.1))) λh' f j=>h h' _ _ _ ?_ f (λb z n q=>j.extBut b z n q) (.int _ _);have:=gx.cj (W:=W) (a:=a) (b:=b) (c:=c) (i:=i+1);have N:a+(i:Int)*c+c=a+((i+1:Nat):Int)*c:=by refine aa (show ((i+1:Nat):Int)=(i:Int)+1 from rfl ..) (aa (NK ..) ?_);exact dz (oy 0x80b108022020025830) (oy 0x808009101621005830)
  have S:qk a b c-(i:Int)-1=qk a b c-((i+1:Nat):Int):=dz (dw 0x2402e028901c05b830) (dw 0x24070168900b80b830);refine aa N (aa S ?_);exact this
 |@qG x t _ _ a b=>
  (injection e1 with e1;subst e1)
  rw [iR] at e2;refine aQ (gJ.mp e2) λc C V=>?_;subst V;refine wpAny_pyNext_ascii_item ⟨_,g,a,b⟩ (by simpa using C) λh' f j=>ct f λd u k m=>h h' _ _ d (.qG k m) u (λb z n q=>j.extBut b z n q) (VR.str [c] _)
 |@rM x t _ _ a b=>
  (injection e1 with e1;subst e1)
  rw [iR] at e2;refine aQ (gJ.mp e2) λc C U=>?_;subst U;refine wpAny_pyNext_wide_item ⟨_,g,a,b⟩ (by simpa using C) λh' f j=>ct f λd u k m=>h h' _ _ d (.rM k m) u (λb z n q=>j.extBut b z n q) (VR.str [c] _)
theorem VA {Q:Option ah->ax->Prop} (d:A.handled=none) (J:aF prog w I P W O s.heap) (R:gx W y i o) (g:s.heap.get? it=some o) (e:fG y i O=some none)
 (h:∀h',(∀b z,b≠it->s.heap.get? b=some z->h'.get? b=some z)->Q none {s with heap:=h'}):
 aY (aZ prog w) A (zI (.ref it)) Q E s:=by
 unfold fG at e;refine aQ (gJ.mp e) λl e1 e2=>?_;cases R with
 |@lst r p _ _ a b c=>refine oL e1 λq k e1=>?_;obtain rfl:=eM e1;obtain ⟨u,vs,n,gl,f,z⟩:=J.obj _ _ _ k a;exact wpAny_pyNext_list_end d ⟨_,g,b,c⟩ ⟨_,gl,rfl,_,rfl⟩ (by simpa using f.RZ e2) h
 |aw a b c=>
  (injection e1 with e1;subst e1)
  cases a with
  |aw gt z f=>exact wpAny_pyNext_tuple_end d ⟨_,g,b,c⟩ ⟨_,J.con _ _ gt,rfl,_,rfl⟩ (by simpa using f.RZ e2) h
 |@cj a b c _=>refine pQ e1 λj e1=>?_;subst e1;have m:=Fw j;rw [abg,apX] at e2;unfold ij at e2;exact wpAny_pyNext_range_end d g (dJ 0x111c05c180e0204400012 e2 (lL _)) h
 |@qG x t _ _ a b=>
  (injection e1 with e1;subst e1)
  rw [iR,abU] at e2;exact wpAny_pyNext_ascii_end d ⟨_,g,a,b⟩ (by simpa using e2) h
 |@rM x t _ _ a b=>
  (injection e1 with e1;subst e1)
  rw [iR,abU] at e2;exact wpAny_pyNext_wide_end d ⟨_,g,a,b⟩ (by simpa using e2) h
end
variable {bX:dW} {cl:List (Str×aC)} {ep:Nat}
section
variable {x:Nat}
theorem ES {a:Type}:∀{l:List (Str×a)} {n:Str} {c:a},l.lookup n=some c->(n,c)∈l:=vq
structure lN (sc bX:dW):Prop where
 vk:∀id,rL sc id=true->rL bX id=true
 gk:∀id,l9 sc id=true->l9 bX id=true
 ck:∀id,sc.names.lookup id=some .cell->bX.names.lookup id=some .cell
theorem lN.refl (sc):lN sc sc:=⟨λ_ h=>h,λ_ h=>h,λ_ h=>h⟩
def SE (prog:cU) (w:bU) (I:KI) (n:Nat) (c:CE):Prop:=
 ∀{sc:dW} {e:cg} {ae:Env} {A:dh} {P:Pin} {W:Wd} {O:AH} {s:ax} {loc:aB} {Q:ah->ax->Prop} {E:ah->ax->Prop},
  cY sc c e=true->lN sc ae.scope->gK P W ae loc->fy (3*n+1) A->AF P A->aF prog w I P W O s.heap->Ends prog w I P W s VR (bh GG (aj GG ai n) c loc O) Q E->aY (aZ prog w) A (oW e ae) Q E s
theorem am1 (g:Str->qp->qp):∀(l:List (Str×qp)) id,(l.map λx=>(x.1,g x.1 x.2)).lookup id=(l.lookup id).map (g id):=by
 intro l;induction l with
 |nil=>intro _;exact rfl
 |cons b l a=>
  obtain ⟨n,k⟩:=b;intro id;refine aa gc (aa qn (aa qn ?_));cases h:id==n with
  |true=>simp only [rT];exact aa (eq_of_beq h) rfl
  |false=>exact a id
theorem wD (sc) (ae) (id):(xm sc ae).names.lookup id=(sc.names.lookup id).map λk=>if (k==.free&&ae.scope.kind==.function&&ae.kindOf id==some .cell) then .cell else k:=by refine bK ?_ (am1 (λn k=>if (k==nK&&ae.scope.kind==.function&&ae.kindOf n==some .cell) then N6 else k) ..).symm.symm;show (sc.names.map _).lookup id=_;congr 2;funext ⟨n,k⟩;dsimp only;split<;>rfl
theorem aqG (sc:dW) (ae:Env):lN sc (xm sc ae) where
 vk id h:=by
  unfold rL at h⊢;refine aa (wD ..) ?_;generalize e:sc.names.lookup id=a at h;induction a using aW with
  |none=>contradiction
  |some k=>
   show Z6 (if (k==nK&&ae.scope.kind==.function&&ae.kindOf id==some .cell) then .cell else k)=true;by_cases c:(k==nK&&ae.scope.kind==.function&&ae.kindOf id==some .cell)=true
   . exact aa (if_pos c) rfl
   . refine aa (if_neg c) ?_;exact h
 gk id h:=by
  unfold l9 at h⊢;refine aa (wD ..) ?_;generalize e:sc.names.lookup id=a at h;induction a using aW with
  |none=>contradiction
  |some k=>induction k using zp<;>first | (exact absurd h ag) | rfl
 ck id h:=by refine (wD ..).trans (bA (h ..) ?_);rfl
structure CV (sc bX:dW) (x:Nat):Prop where
 kind:bX.kind=.function
 lx:bX.names.lookup (nm x)=some .local
 nocell:∀y∈bX.names,y.2≠.cell
 loc:∀y∈bX.names,y.2=.local->(y.1=nm x\/y.1=(".0":Str))/\bX.names.lookup y.1=some .local
 fr:∀y∈bX.names,y.2=.free->sc.names.lookup y.1=some .cell/\bX.names.lookup y.1=some .free
theorem afD (h:It sc bX x=true):CV sc bX x:=by
 refine o5 h λc _ _ d a=>?_;replace a:=jt.mp a;refine ⟨?_,of_decide_eq_true d,λy b e=>?_,λy b e=>?_,λy b e=>?_⟩
 . generalize bX.kind=f at c;induction f using aca<;>first | rfl | exact gF c
 . have:=a y b;rw [e] at this;contradiction
 . have:=a y b;rw [e] at this;exact vC this λp q=>⟨(Bool.or_eq_true_iff.mp p).imp eq_of_beq eq_of_beq,of_decide_eq_true q⟩
 . have:=a y b;rw [e] at this;exact vC this λp q=>⟨of_decide_eq_true p,of_decide_eq_true q⟩
theorem afB:∀(names:List (Str×qp)) az,(∀id,(id,nK)∈names->∃c,ae.cells.lookup id=some c)->
 ∃cl,(forIn names az λx cs=>if (x.2==nK)=true then (do let a <-cellOf ae x.1;pure (aaW ((x.1,a)::cs))) else pure (aaW cs):Sem (List (Str×aC)))=pure cl/\
  ∀id,((id,nK)∈names\/az.lookup id=ae.cells.lookup id)->cl.lookup id=ae.cells.lookup id:=by
 intro names;induction names with
 |nil=>intro az _;exact ⟨az,(by simp only [abe]),λid h=>h.resolve_left bP⟩
 |cons x r i=>
  obtain ⟨n,k⟩:=x;intro az h;refine aa (NU ..) ?_;by_cases d:k=.free
  . subst d;refine a8 (h n cN) λc g=>aQ (i ((n,c)::az) λid b=>h id (cu _ b)) λcl e q=>⟨cl,?_,λid b=>?_⟩
    . have:cellOf ae n=pure c:=by unfold cellOf;exact aa g rfl
      simp only [beq_self_eq_true,if_true,this,pure_bind];exact e
    . by_cases f:id=n
      . subst f;exact q id (.inr (by rw [List.lookup_cons_self,g]))
      . refine q id ?_;rcases b with b | b
        . rcases cF.mp b with z | z
          . cases z;exact absurd rfl f
          . exact .inl z
        . refine .inr <| aa qn (aa (show (id==n)=false from by simpa using f) ?_)
          exact b
  . have hb:(k==nK)=false:=by simpa using d
    refine aQ (i az λid b=>h id (cu _ b)) λcl e q=>⟨cl,?_,λid b=>q id ?_⟩
    . simp only [hb,Bool.false_eq_true,if_false,pure_bind];exact e
    . rcases b with b | b
      . rcases cF.mp b with z | z
        . cases z;exact absurd rfl d
        . exact .inl z
      . exact .inr b
theorem afA (h:∀id,(id,nK)∈sc.names->∃c,ae.cells.lookup id=some c):
 ∃cl,closureFor sc ae=pure cl/\∀id,(id,nK)∈sc.names->cl.lookup id=ae.cells.lookup id:=by
 refine aQ (afB sc.names [] h) λcl e q=>⟨cl,?_,λid a=>q id (.inl a)⟩;unfold closureFor;rw [<-bind_pure (pure cl),<-e]
theorem an9:∀y,y<NN->nm y≠(".0":Str):=by
 have:∀y:Nat,y<pZ.length->(nm y==(".0":Str))=false:=by decide+kernel
 intro y a e;have:=this y a;rw [e] at this;contradiction
theorem AF.ext (h:AF P A) (X:P.jM P' S):AF P' A:=by
 refine aQ h λi e q=>⟨i,e,λk l=>?_⟩;obtain ⟨a,L,c,d,b,f,x,g⟩:=q k l;have j:¬S L:=λz=>cX (((X.no L z).2).symm.trans f);refine ⟨a,L,c,d,b,?_,?_,g⟩
 . refine (X.fr L j).trans ?_;exact f
 . refine (X.ex L j).trans ?_;exact x
theorem gK.comp {c:ah} {es:Array tq} {u:ah} (K:cL I) (L:gK P W ae loc) (X:CV sc bX x) (S:lN sc ae.scope) (H:x<NN)
 (t:∀id,(id,nK)∈bX.names->cl.lookup id=ae.cells.lookup id) (B:P.ex it=none) (F:zu es) (G:qw es (nm x)=some u) (r:VR W v u):
 gK ((P.pin it o).frm C c (.dict es ep)) W (G4 bX cl C ae) ((x,v)::loc) where
 fn:=X.kind
 gl:=L.gl
 bl:=L.bl
 lo:=by
  refine d9 c es ep ⟨Pin.frm_at,F,λy j i e n=>?_⟩;have d:(xm bX ae).names.lookup (nm y)=some .local:=n;rw [wD] at d;refine aQ (gJ.mp d) λk f h=>?_;have J:k=.local:=by
   by_cases q:(k==nK&&ae.scope.kind==.function&&ae.kindOf (nm y)==some .cell)=true
   . rw [if_pos q] at h;contradiction
   . rw [if_neg q] at h;exact h
  subst J;have b:=X.loc _ (ES f) rfl;have l:y=x:=(b.1.resolve_right (an9 y i)) |>K.rE y x i H
  subst l;have m:some v=some j:=by
   have:lk y ((y,v)::loc)=some v:=by simp [eh]
   rw [this] at e;exact e
  refine iM m <| ⟨u,G,r⟩
 ce:=by
  intro y j i e n;have s:bX.names.lookup (nm y)=some .free:=by
   have d:(xm bX ae).names.lookup (nm y)=some .cell\/(xm bX ae).names.lookup (nm y)=some .free:=n;rw [wD] at d;generalize f:bX.names.lookup (nm y)=Q at d;induction Q using aW with
   |none=>rcases d with q | q<;>contradiction
   |some k=>have p:=X.nocell _ (ES f);induction k using zp<;>first | rfl | (exact absurd rfl p) | (rcases d with q | q<;>(injection q with q;contradiction))
  have b:=ES s;have E:=S.ck _ (X.fr _ b rfl).1;have l:y≠x:=λq=>by subst q;rw [X.lx] at s;contradiction
  have m:lk y loc=some j:=by
   have:lk y ((x,v)::loc)=lk y loc:=by simp [eh,bC l]
   rw [this] at e;exact e
  refine fv (L.ce y j i m (.inl E)) λa M w N A O z=>d9 a M w ⟨?_,?_,O,z⟩
  . refine bK ?_ N.symm.symm;exact t _ b
  . show (if a=it then some o else P.ex a)=some w;refine (if_neg λq=>by subst q;rw [B] at A;contradiction).trans ?_;exact A
 cl:=by
  intro id g;have g:(xm bX ae).names.lookup id=some .cell:=g;rw [wD] at g;refine aQ (gJ.mp g) λk f h=>?_;have b:=ES f;have p:=X.nocell _ b;induction k using zp with
  |free=>refine a8 (L.cl _ (S.ck _ (X.fr _ b rfl).1)) λa D=>⟨a,by refine bK ?_ D.symm.symm;exact t _ b⟩
  |cell=>exact absurd rfl p
  |_=>contradiction
end
variable {Q':ah->ax->Prop} {px aie:Pos} {di:CE} {jS iter jk:cg} {Cn:Wd->ax->aJ AV->Prop} {R:vl->ax->Prop} {RR:ah->aC->vl->ax->Prop} {use:Option (ah->Sem Unit)}
section
variable {x:Nat}
structure vy (Cn:Wd->ax->aJ AV->Prop):Prop where
 DH:∀{W W' s s' m},Cn W s m->W.le W'->dF s s'->Cn W' s' m
 aq:∀{W s},¬Cn W s .aq
theorem vy.ends:vy λW s m=>Ends prog w I P W s VR m Q E:=⟨λh le k=>Ends.from h le k,λh=>h⟩
noncomputable def Z2 (a b:aC):aC->Prop:=λx=>x=a\/x=b
theorem agN {c:ah} {d:w8} (a:P.ex it=none) (e:P.fr it=none) (f:P.ex C=none) (g:P.fr C=none):P.jM ((P.pin it o).frm C c d) (Z2 it C) where
 ex b n:=if_neg λq=>n (.inl q)
 fr b n:=by exact (if_neg λq=>n (.inr q))
 no b q:=by rcases q with rfl | rfl;exact ⟨a,e⟩;exact ⟨f,g⟩
 so b q:=by
  rcases q with rfl | rfl
  . left;show (if b=b then some o else P.ex b)≠none;refine aa (if_pos rfl) ?_;exact oU _
  . right;refine aa Pin.frm_at ?_;exact oU _
theorem afF {D:ah} (hC:vy Cn)
 (K:cL I) (rZ:SE prog w I n di) (jd:cY bX di jS=true) (X:CV sc bX x) (S:lN sc ae.scope) (hx:x<NN) (L:gK P W ae loc) (hA:fy (3*n+1) A) (hF:AF P A)
 (fe:∀id,(id,nK)∈bX.names->cl.lookup id=ae.cells.lookup id)
 (h1:P.ex it=none) (h2:P.fr it=none) (h3:P.ex C=none) (h4:P.fr C=none) (bO:C≠it)
 (AP:∀W' O' s' m,W.le W'->dF s s'->aF prog w I P W' O' s'.heap->Cn W' s' (.ok (.ref r) O')->VR W' (.ref r) D->fk P W' C->s'.heap.Ns C m->R (.ok .next) s'):
 ∀k i W1 h g o c es ep,W.le W1->dF s g->VR W1 (.ref r) D->aF prog w I ((P.pin it o).frm C c (.dict es ep)) W1 h g.heap->gx W1 y i o->zu es->
  Cn W1 g (iX y r (λv O=>bh GG (aj GG ai n) di ((x,v)::loc) O) k i h)->
  nP (aZ prog w) A (.compLoop (.ListComp jS [⟨.Name (nm x) px,iter,[],0⟩] bX pos) 0 (.ref it) D (G4 bX cl C ae)) R g:=by
 intro k i W1 h g o c es ep le j p J B F f;refine codeAny_compLoop_tests (λk g=>∃i W1 h o c es ep,W.le W1/\dF s g/\VR W1 (.ref r) D/\aF prog w I ((P.pin it o).frm C c (.dict es ep)) W1 h g.heap/\gx W1 y i o/\zu es/\
  Cn W1 g (iX y r (λv O=>bh GG (aj GG ai n) di ((x,v)::loc) O) k i h)) ?_ k ⟨i,W1,h,o,c,es,ep,le,j,p,J,B,F,f⟩
 clear f F B J p j le ep es c o g h W1 i k;intro k g z8;refine aap z8 λi W1 h o c es ep Y=>Gk Y λle j p J B F f=>?_;clear z8 Y;have hh:=hA.q6;have U:∀{o c d},P.jM ((P.pin it o).frm C c d) (Z2 it C):=agN h1 h2 h3 h4;have kn:=J.pex it o Pin.pin_at;refine ct (J.pfr C c (.dict es ep) Pin.frm_at) λoC gC cC dC=>?_;induction k using xc with
 |zero=>exact (hC.aq f).elim
 |succ k=>
  refine ZU f (λf=>(hC.aq f).elim) (λet f=>?_) (λv et f=>?_)
  . refine VA hh J B kn et λh' G=>bB (J.unpin U λb z nb q=>G b z (λe=>nb (.inl e)) q) λJ' ho=>AP W1 h {g with heap:=h'} (qw es) le ⟨j.gens,j.os⟩ J' (hC.DH f (.refl W1) ⟨rfl,rfl⟩) p (ho C (.inr rfl)) ⟨oC,es,ep,G _ _ bO gC,dC,F,λ_=>rfl⟩
  . refine VC J B kn et λh' tk xv t Z g' G hv=>?_;have gC':=G _ _ bO gC;refine Hh (acH (by refine (wD ..).trans (bA (X.lx ..) ?_);rfl) ⟨oC,es,ep,gC',dC,F,λ_=>rfl⟩ (λAI TZ kY=>?_)
     (by refine aa X.kind ?_;rfl))
    refine fv TZ λu N H gC2 dC2 Y1 f2=>?_;clear TZ;refine wpAny_tests_nil <| aa (if_pos rfl) ?_
    have J2:aF prog w I ((P.pin it t).frm C u.cls (.dict N H)) W1 h AI:=by
     refine J.repin U U (λb z nb q=>?_) (λa z ha q=>?_) (λa c' d' ha q=>?_)
     . exact kY.extBut b z (λe=>nb (.inr e)) (G b z (λe=>nb (.inl e)) q)
     . by_cases e:a=it
       . subst e;have:(P.pin a t).ex a=some z:=q;rw [Pin.pin_at] at this;refine iM this <| kY.extBut a _ (bC bO) g'
       . have e2:=ha.resolve_left e;subst e2;have q:(if a=it then some t else P.ex a)=some z:=q;rw [if_neg e,h3] at q;exact cX q
     . by_cases e:a=C
       . subst e;rw [Pin.frm_at] at q;cases q;exact ⟨u,gC2,rfl,dC2⟩
       . have e2:=ha.resolve_right e;subst e2;have q:(if a=C then some (u.cls,Gv N H) else P.fr a)=some (c',d'):=q;rw [if_neg e,h2] at q;contradiction
    have L2:gK ((P.pin it t).frm C u.cls (.dict N H)) W1 (G4 bX cl C ae) ((x,v)::loc):=
     gK.comp K (L.mono le) X S hx fe h1 Y1 (by refine (f2 ..).trans ?_;exact if_pos rfl) hv
    have hF2:AF ((P.pin it t).frm C u.cls (.dict N H)) A:=hF.ext U;refine rZ jd (aqG bX ae) L2 hA hF2 J2 ?_;dsimp only at f;generalize bh GG (aj GG ai n) di ((x,v)::loc) h=Y at f⊢;induction Y using aJ.casesOn with
    |dm r' O'=>exact (hC.aq f).elim
    |aq=>exact (hC.aq f).elim
    |ok xv' O2=>
     intro W3 y3 s3 E J3 r3 V;refine xu (M:=λo=>Cn W1 g o->_) (λl el f=>?_) (λf=>(hC.aq f).elim) f;by_cases hz:l.length<SZ
     . rw [if_pos hz] at f
       . refine PD J3 (p.mono E) el r3 hz ?_;intro W4 y4 s4 Q J4 r4 T;refine ⟨k,zr k,i+1,W4,_,t,u.cls,N,H,(le.trans E).trans Q,⟨(T.gens.trans V.gens).trans j.gens,(T.os.trans V.os).trans j.os⟩,(p.mono E).mono Q,J4,(Z.mono E).mono Q,Y1,?_⟩;exact hC.DH f (E.trans Q) ⟨T.gens.trans V.gens,T.os.trans V.os⟩
     . rw [if_neg hz] at f;exact (hC.aq f).elim
theorem afE (hC:vy Cn)
 (K:cL I) (rZ:SE prog w I n di) (jd:cY bX di jS=true) (X:CV sc bX x) (S:lN sc ae.scope) (hx:x<NN) (L:gK P W ae loc) (hA:fy (3*n+1) A) (hF:AF P A)
 (fe:∀id,(id,nK)∈bX.names->cl.lookup id=ae.cells.lookup id)
 (J:aF prog w I P W O s.heap) (t:fk P W it) (Q:s.heap.get? it=some o) (V:gx W y 0 o)
 (hE:Cn W s (iX y O.length (λv O=>bh GG (aj GG ai n) di ((x,v)::loc) O) k 0 (O++[.lst []])))
 (AP:∀D C W' O' s' m,W.le W'->dF s s'->aF prog w I P W' O' s'.heap->Cn W' s' (.ok (.ref O.length) O')->VR W' (.ref O.length) D->fk P W' C->s'.heap.Ns C m->RR D C (.ok .next) s'):
 aY (aZ prog w) A (newList []) (λaz u=>aY (aZ prog w) A (newFunctionEnv bX ae.globals cl [] ae.qual none .none (some ae)) (λT M=>
  nP (aZ prog w) A (.compStart (.ListComp jS [⟨.Name (nm x) px,iter,[],0⟩] bX pos) 0 (.ref it) az {T with scope:=xm bX ae}) (RR az T.locals) M) E u) E s:=by
 refine zO (wpAny_newFunctionEnv X.nocell (by intro y hy;contradiction) (λjg F G=>?_) X.kind);dsimp only at F G⊢;have B:aF prog w I P (W.add (s.heap.objs.size,s.heap.objs.size)) (O++[.lst []]) (s.heap.push {cls:=.type "list",dict:=none,data:=.seq ([]:List ah).toArray}):=
  J.new (bT _) (bT _) (kF _ _) ⟨rfl,[],_,nI _ rfl,.nil,abR _⟩
 generalize Y:s.heap.push {cls:=.type "list",dict:=none,data:=.seq ([]:List ah).toArray}=r at F G B⊢;have l:=B.fresh (bT _);have keep:=λb z nb q=>G.extBut b z nb (nH _ q);have J1:=B.but l keep;have N:r.objs.size≠it:=λq=>by
  have h:=jK Q;have h2:r.objs.size=s.heap.objs.size+1:=by rw [<-Y,NJ]
  rw [h2] at q;rw [<-q] at h;exact absurd h (abL.mpr (CA _))
 have U:=keep it o N.symm (Y▸nH _ Q);refine fv F λob es ep gC dC sk f=>?_;have H:fk P (W.add (s.heap.objs.size,s.heap.objs.size)) it:=by
  refine ⟨t.1,t.2.1,t.2.2.1,λi p e=>?_⟩;rcases Oa i W.μ.length with hi | hi
  . have e:(W.μ++[_])[i]?=some p:=e;rw [iv hi] at e;exact t.2.2.2 i p e
  . have e:(W.μ++[(s.heap.objs.size,s.heap.objs.size)])[i]?=some p:=e;rw [mB hi] at e;have:p=(s.heap.objs.size,s.heap.objs.size):=by
     cases Z:i-W.μ.length with
     |zero=>rw [Z] at e;simpa using e.symm
     |succ j=>rw [Z] at e;contradiction
    refine aa this ?_;have:=jK Q;exact ⟨GU this,GU this⟩
 have hD:VR (W.add (s.heap.objs.size,s.heap.objs.size)) (.ref O.length) (.ref s.heap.objs.size):=by have:=W.add_at (s.heap.objs.size,s.heap.objs.size);rw [J.len] at this;exact .ref this
 have J2:aF prog w I ((P.pin it o).frm r.objs.size ob.cls (.dict es ep)) (W.add (s.heap.objs.size,s.heap.objs.size)) (O++[.lst []]) jg:=by
  have a:=(J1.pin H U);have ho:fk (P.pin it o) (W.add (s.heap.objs.size,s.heap.objs.size)) r.objs.size:=by refine ⟨l.1,?_,l.2.2.1,l.2.2.2⟩;refine (if_neg N).trans ?_;exact l.2.1
  have:=a.frm ho gC;rw [dC] at this;exact this
 have le:=W.le_add (s.heap.objs.size,s.heap.objs.size);have R:∀u:ax,u={s with heap:=jg,toks:=s.toks+([]:List (Str×ah)).length}->
  nP (aZ prog w) A (.compLoop (.ListComp jS [⟨.Name (nm x) px,iter,[],0⟩] bX pos) 0 (.ref it) (.ref s.heap.objs.size) (G4 bX cl r.objs.size ae))
   (RR (.ref s.heap.objs.size) r.objs.size) u:=by
  rintro u rfl;exact afF hC K rZ jd X S hx L hA hF fe t.2.1 t.2.2.1 l.2.1 l.2.2.1 N (λW' O' s' m a b c d e f g=>AP _ _ W' O' s' m a b c d e f g) k 0 _ _ _ o ob.cls es ep le ⟨rfl,rfl⟩ hD J2 (V.mono le) sk (hC.DH hE le ⟨rfl,rfl⟩)
 exact codeAny_compStart_list (R _ rfl) (alX V U (R _ rfl))
theorem RQ {e:cg} (h:p0 e=true):∀x,foldedSetIterable e ae x=pure x:=by intro x;induction e using u9<;>first | rfl | (contradiction;done)
theorem Qu {it:CE} (hC:vy Cn)
 (K:cL I) (rZ:SE prog w I n di) (zS:SE prog w I n it) (jd:cY bX di jS=true) (p:cY sc it jk=true) (Q:p0 jk=true) (T:It sc bX x=true) (S:lN sc ae.scope) (Y:x<NN) (L:gK P W ae loc) (F:fy (3*n+1) A) (G:AF P A)
 (J:aF prog w I P W O s.heap)
 (h:∀t,(∀y i W1 u j,W.le W1->aF prog w I P W1 i j.heap->VR W1 y u->dF s j->Cn W1 j (iX y i.length (λv O=>bh GG (aj GG ai n) di ((x,v)::loc) O) (dG y i) 0 (i++[.lst []]))->t u j)->Ends prog w I P W s VR (bh GG (aj GG ai n) it loc O) t E)
 (N:∀D C W' O' r s' m,W.le W'->dF s s'->aF prog w I P W' O' s'.heap->Cn W' s' (.ok (.ref r) O')->VR W' (.ref r) D->fk P W' C->s'.heap.Ns C m->compPost (aZ prog w) A E use Q' D C (.ok .next) s'):
 aY (aZ prog w) A (comprehension (.ListComp jS [⟨.Name (nm x) px,jk,[],0⟩] bX pos) bX ae aie (newList []) false (oW jk ae) use) Q' E s:=by
 have X:=afD T;refine aQ (afA λid U=>L.cl id (S.ck id (X.fr _ U rfl).1)) λcl e1 V=>wpAny_comprehension_free rfl (RQ Q) e1 X.kind (λy Z e=>(X.loc y Z e).2) <| zS p S L F G J (h _ ?_)
 intro y i W1 u j H k r1 M q;generalize B:sX y i=z9;induction z9 using aW with
 |none=>
  have:dG y i=0:=by unfold dG;exact aa B rfl
  simp only [this] at q;exact (hC.aq q).elim
 |some l=>
  refine VB k r1 B λo z=>?_;have kn:(j.heap.push o).get? j.heap.objs.size=some o:=by
   refine nI _ ?_;cases z with
   |lst a b c=>exact tF c
   |aw a b c=>exact tF c
   |cj=>rfl
   |qG a b=>exact tF b
   |rM a b=>exact tF b
  have R:aF prog w I P W1 i (j.heap.push o):=k.keep (kF _ _);exact afE hC K rZ jd X S Y (L.mono H) F G V R (k.fresh (bT _)) kn z (hC.DH q (.refl W1) ⟨rfl,rfl⟩)
   λD C W' O' s' m a b c d e f g=>N D C W' O' _ s' m (H.trans a) ⟨b.gens.trans M.gens,b.os.trans M.os⟩ c d e f g
theorem afG {it:CE} (K:cL I) (Y:SE prog w I n di) (zS:SE prog w I n it):SE prog w I n (.comp di x it):=by
 intro sc e ae A P W O s loc Q E c S L F H J h;refine V4.el Vv c λjS gs bX pos c=>gU c λg c=>U9 c λt jk U a c=>V2.el iG c λid np c=>ji c λc=>bB (dP.mp c) λk V=>?_;obtain rfl:=of_decide_eq_true k;have c:=V
 . refine zW c λl h2 o p v B=>bB (jj l) λT vQ=>qd vQ ?_;simp only [eval_ListComp];refine Qu vy.ends K Y zS v B p o S T L F H J (λQi q=>Ends.bind h λy j W1 u Z _ uD i X yH d=>q y j W1 u Z uD i X yH d) λD C W' O' r s' m le ks f d G N M=>⟨m,M,λh' R=>Ends.ok d (.refl W') (f.but N λb z nb q=>R.extBut b z nb q) G ⟨rfl,rfl⟩⟩
end
variable {a c:CE}
section
variable {b:CE} {e:cg}
section
variable (prog:cU) (w:bU) (I:KI) (n:Nat) (c:CE)
def SL:Prop:=
 ∀{sc:dW} {l:List cg} {ae:Env} {A:dh} {P:Pin} {W:Wd} {O:AH} {s:ax} {loc:aB} {pos:Pos} {Q:List ah->ax->Prop} {E:ah->ax->Prop},
  jP sc c l=true->lN sc ae.scope->gK P W ae loc->fy (3*n+1) A->AF P A->aF prog w I P W O s.heap->Ends prog w I P W s bz (lX GG (aj GG ai n) c loc O) Q E->aY (aZ prog w) A (Hb (vo pos (tL l ae))) Q E s
def ST:Prop:=
 ∀{sc:dW} {e:cg} {ae:Env} {A:dh} {P:Pin} {W:Wd} {O:AH} {s:ax} {loc:aB} {Q:Bool->ax->Prop} {E:ah->ax->Prop},
  cY sc c e=true->lN sc ae.scope->gK P W ae loc->fy (3*n+1) A->AF P A->aF prog w I P W O s.heap->Ends prog w I P W s (λ_ a b=>a=b) (fT GG (aj GG ai n) c loc O) Q E->aY (aZ prog w) A (isTrue e ae (oW e ae)) Q E s
def SB:Prop:=
 ∀{sc:dW} {l:List cg} {ae:Env} {A:dh} {P:Pin} {W:Wd} {O:AH} {s:ax} {loc:aB} {pos:Pos} {op:qj} {Q:ah->ax->Prop} {E:ah->ax->Prop},
  jP sc c l=true->lN sc ae.scope->gK P W ae loc->fy (3*n+1) A->AF P A->aF prog w I P W O s.heap->Ends prog w I P W s VR (vX GG (aj GG ai n) op c loc O) Q E->aY (aZ prog w) A (boolOp pos op (evalEach l ae)) Q E s
def SA:Prop:=
 ∀{sc:dW} {l:List cg} {ae:Env} {A:dh} {P:Pin} {W:Wd} {O:AH} {s:ax} {loc:aB} {op:qj} {Q:Bool->ax->Prop} {E:ah->ax->Prop},
  jP sc c l=true->lN sc ae.scope->gK P W ae loc->fy (3*n+1) A->AF P A->aF prog w I P W O s.heap->Ends prog w I P W s (λ_ a b=>a=b) (x8 GG (aj GG ai n) op c loc O) Q E->aY (aZ prog w) A (allTrue op l ae) Q E s
end
theorem C3 {d g:Type} {r:aJ d} {f:d->AH->aJ g} {b:g} {G:Prop} (e:r.bind f=.ok b O') (k:∀a c,r=.ok a c->f a c=.ok b O'->G):G:=by
 induction r using aJ.casesOn with
 |ok a c=>exact k a c rfl e
 |_=>contradiction
theorem Q2 {cl:Nat->List AV->AH->aJ AV}:∀{l:List cg} {loc:aB} {O O':AH} {vs:List AV},jP sc c l=true->lX GG cl c loc O=.ok vs O'->vs.length=l.length:=by
 induction c with
 |nil=>
  intro l loc O O' vs h e;induction l using cK with
  |nil=>obtain ⟨rfl,rfl⟩:=aJ.ok.inj e;rfl
  |cons _ _=>contradiction
 |cons a b _ d=>
  intro l loc O O' vs h e;induction l using cK with
  |nil=>contradiction
  |cons x r=>exact C3 e λv j ea e=>C3 e λg i f e=>(aJ.ok.inj e).1▸congrArg (· +1) (d (kQ h λ_ _ h=>h) f)
 |_=>intro l loc O O' vs h e;contradiction
theorem arj:SL prog w I n .nil:=by
 intro sc l ae A P W O s loc a Q E d S L b c J h;induction l using cK with
 |nil=>exact Hl (Ends.here h J .nil)
 |cons _ _=>contradiction
theorem ari (q:SE prog w I n a) (hb:SL prog w I n b):SL prog w I n (.cons a b):=by
 intro sc l ae A P W O s loc u Q E t S L c d J h;induction l using cK with
 |nil=>contradiction
 |cons e r=>refine kQ t λi j k=>CT ?_ (E6 i);refine q j S L c d J (Ends.bind h λv C W1 x G _ le f y F o=>?_);refine hb k S (L.mono le) c d f (Ends.bind o λvs B W2 xs H _ m g z D p=>?_);exact Ends.here p g (.cons (y.mono m) z)
theorem aqE:SA prog w I n .nil:=by
 intro sc l ae A P W O s loc op Q E c S L a b J h;induction l using cK with
 |nil=>
  induction op using Cm with
  |And=>exact wpAny_allTrue_And_nil (Ends.here h J rfl)
  |Or=>exact wpAny_allTrue_Or_nil (Ends.here h J rfl)
 |cons _ _=>contradiction
theorem aqD (m:ST prog w I n a) (hb:SA prog w I n b):SA prog w I n (.cons a b):=by
 intro sc l ae A P W O s loc op Q E p S L f g J h;induction l using cK with
 |nil=>contradiction
 |cons e r=>
  refine kQ p λy j k=>?_;replace h:Ends prog w I P W s (λ_ a b=>a=b) ((fT GG (aj GG ai n) a loc O).bind λt O=>match op,t with | .And,false=>.ok false O | .Or,true=>.ok true O | _,_=>x8 GG (aj GG ai n) op b loc O) Q E:=h;induction op using Cm with
  |And=>
   refine wpAny_allTrue_And_cons (m j S L f g J (Ends.bind h λv o W1 x u _ le c i q d=>?_));subst i;induction v using dy with
   |false=>exact Ends.here d c rfl
   |true=>exact hb k S (L.mono le) f g c d
  |Or=>
   refine wpAny_allTrue_Or_cons (m j S L f g J (Ends.bind h λv o W1 x u _ le c i q d=>?_));subst i;induction v using dy with
   |true=>exact Ends.here d c rfl
   |false=>exact hb k S (L.mono le) f g c d
theorem afx (h:jP sc c []=true):c.wC=true:=by induction c using CE.casesOn<;>first | rfl | contradiction
theorem afw {r:List cg} (h:jP sc c (e::r)=true):c.wC=false:=by induction c using CE.casesOn<;>first | rfl | contradiction
theorem aqF (q:SE prog w I n a) (hb:SB prog w I n b):SB prog w I n (.cons a b):=by
 intro sc l ae A P W O s loc c op Q E z S L j k J h;induction l using cK with
 |nil=>contradiction
 |cons e r=>
  refine kQ z λF p f=>?_;dsimp only [vX] at h;induction r using cK with
  |nil=>rw [afx f] at h;exact q p S L j k J h
  |cons e2 B=>
   rw [afw f] at h;show aY (aZ prog w) A (do
    let v <-oW e ae
    standAt c
    let t <-holding [v] (Hg v)
    match op,t with
    |.And,false | .Or,true=>pure v
    |_,_=>boolOp c op (evalEach (e2::B) ae)) Q E s
   refine aO (q p S L j k J (Ends.bind h λv D W1 x K _ le u m H y=>?_));refine aO (vx (aO (nQ (MU u m (Ends.bind y λt C W2 N M _ g d o G i=>?_)))));subst o;induction op using Cm<;>induction t using dy
   . exact bD (Ends.here i d (m.mono g))
   . exact hb f S (L.mono (le.trans g)) j k d i
   . exact hb f S (L.mono (le.trans g)) j k d i
   . exact bD (Ends.here i d (m.mono g))
theorem zg (k:cY sc c e=true) (S:lN sc ae.scope) (L:gK P W ae loc) (i:fy (3*n+1) A) (j:AF P A) (J:aF prog w I P W O s.heap) (l:SE prog w I n c)
 (f:isTrue e ae (oW e ae)=(do let v <-oW e ae;standAt e.pos;holding [v] (Hg v))) {Q:Bool->ax->Prop}
 (h:Ends prog w I P W s (λ_ a b=>a=b) ((bh GG (aj GG ai n) c loc O).bind λx O=>.dc (j1 O x) O) Q E):aY (aZ prog w) A (isTrue e ae (oW e ae)) Q E s:=by
 refine wpAny_isTrue_value ?_ f;exact l k S L i j J (Ends.bind h λv o W1 x q _ le d m p g=>MU d m g)
end
variable {es:CE}
section
variable {i:Int} {x:Nat} {o:CE}
theorem aqN:SE prog w I n .cn:=by
 intro sc e ae A P W O s loc Q E a S L b d J h;refine V3.el A7 a λc _ _ a=>?_;obtain rfl:=of_decide_eq_true a
 . exact acy (Ends.here h J .none)
theorem aqJ:SE prog w I n (.cb b):=by
 intro sc e ae A P W O s loc Q E a S L d f J h;refine V3.el A7 a λc _ _ a=>?_;obtain rfl:=of_decide_eq_true a
 . exact wpAny_Constant_bool (Ends.here h J (.bool _))
theorem aqK:SE prog w I n (.ci i):=by
 intro sc e ae A P W O s loc Q E a S L b d J h;refine V3.el A7 a λc _ _ a=>?_;obtain rfl:=of_decide_eq_true a
 . exact wpAny_Constant_int (Ends.tok h J (.int _ _))
theorem aqO {i:List Nat}:SE prog w I n (.cs i):=by
 intro sc e ae A P W O s loc Q E a S L b d J h;refine V3.el A7 a λc _ _ a=>?_;obtain rfl:=of_decide_eq_true a
 . exact wpAny_Constant_str (Ends.tok h J (.str _ _))
theorem vP (h:mx id=true):(id==("__debug__":Str))=false:=by unfold mx at h;simpa using h
theorem aqQ (K:cL I):SE prog w I n (.gi x i):=by
 intro sc e ae A P W O s loc Q E a S L j k J h;refine V2.el iG a λid _ a=>?_
 . refine qE a λc d f g=>bB (jj c) λl b=>?_;subst b;refine a8 (K.VY x i d) λt ht=>vw (Az K L J (S.gk _ f) ht (Ends.here h J (.int _ _))) (vP g)
theorem YU:SE prog w I n (.v x):=by
 intro sc e ae A P W O s loc Q E a S L k l J h;refine V2.el iG a λid _ a=>?_
 . simp only [qi,Nz] at a;refine bB a λb f=>?_;clear a;obtain ⟨⟨c,d⟩,h3⟩:=b;refine bB (jj c) λg i=>?_;subst i;dsimp only [bh] at h;generalize el:lk x loc=j at h;induction j using aW with
   |none=>exact h.elim
   |some v=>exact vw (F0 L J g (S.vk _ d) el f λu r=>Ends.here h J r) (vP h3)
theorem aqX (p:SL prog w I n es):SE prog w I n (.aw es):=by
 intro sc e ae A P W O s loc Q E a S L k m J h;refine V3.el Ep a λl _ _ a=>?_
 . simp only [qi] at a;have r:=vh a.1;refine wpAny_Tuple (p a.2 S L k m J (Ends.bind h λvs q W1 xs v g le f c t i=>?_));have b:=Q2 a.2 g;have j:=c.length;refine ⟨by refine aa j (aa b ?_);unfold qy;lia,yT f c (by refine aa b ?_;unfold SZ;lia) λW' u s' o d r' k'=>?_⟩;exact Ends.ok i o d r' k'
theorem aqS (m:SL prog w I n es):SE prog w I n (.lst es):=by
 intro sc e ae A P W O s loc Q E a S L j k J h;refine V2.el alT a λl _ a=>?_
 . simp only [qi] at a;have p:=vh a.1;refine wpAny_List (m a.2 S L j k J (Ends.bind h λvs o W1 xs r f le d c q g=>?_));have b:=Q2 a.2 f;have i:=c.length;exact ⟨by refine aa i (aa b ?_);unfold qy;lia,E5 d c (by refine aa b ?_;unfold SZ;lia) g⟩
theorem aqP:SE prog w I n .mU:=by
 intro sc e ae A P W O s loc Q E c S L d f J h;refine V3.el alN c λa b _ c=>ji c λc=>ji c λc=>?_
 . exact wpAny_Dict_empty (anS J h)
theorem YP {a:Nat} (K:cL I) (p:SE prog w I n o):SE prog w I n (.at o a):=by
 intro sc e ae A P W O s loc Q E c S L l m J h;refine V3.el wB c λF D _ c=>?_
 . refine qE c λg i j k=>bB (jj g) λr x=>qd x <| aa (acm ..) (aa (H3 j ..) ?_)
   refine aO (p k S L l m J (Ends.bind h λv f W1 u G _ le d z C b=>?_));generalize ea:dA v a f=B at b;induction B using aW with
   |none=>exact b.elim
   |some y=>refine aO (vx (aO (nQ (adt K d z (by simpa using i) r ea λH t q=>?_))));exact aO (acC (bD (Ends.tok b d q)))
theorem YT {i:CE} (z:SE prog w I n o) (hi:SE prog w I n i):SE prog w I n (.sub o i):=by
 intro sc e ae A P W O s loc Q E b S L d f J h;refine V3.el Eo b λM j _ b=>?_
 . refine kQ b λp q r=>Subscript_ (z q S L d f J (Ends.bind h λv G W1 u N _ le g C K x=>?_));refine hi r S (L.mono le) d f g (Ends.bind x λk l W2 T R _ m c D H a=>?_);generalize ea:cW v k l=F at a;induction F using aW with
   |none=>exact a.elim
   |some y=>exact asB c p (C.mono m) D ea λU t B=>Ends.tok a c B
theorem Yl {o:Option cg} (f:SE prog w I n c)
 (d:afy sc c o=true) (S:lN sc ae.scope) (L:gK P W ae loc) (a:fy (3*n+1) A) (b:AF P A) (J:aF prog w I P W O s.heap) (h:Ends prog w I P W s VR (bh GG (aj GG ai n) c loc O) Q E):aY (aZ prog w) A (evalPart o ae) Q E s:=by
 induction o using aW with
 |some e=>exact f d S L a b J h
 |none=>
  induction c using CE.casesOn with
  |cn=>exact bD (Ends.here h J .none)
  |aq=>exact h.elim
  |_=>contradiction
theorem aqW {lo hi:CE} (D:SE prog w I n o) (C:SE prog w I n lo) (B:SE prog w I n hi):SE prog w I n (.my o lo hi):=by
 intro sc e ae A P W O s loc Q E d S L f g J h;refine V3.el Eo d λU j _ d=>V4.el alV d λa b c _ d=>UN d λd=>?_
 . refine kQ d λq r t=>Subscript_ (D q S L f g J (Ends.bind h λv N W1 u V _ le l F T x=>?_));refine wpAny_Slice (Yl C r S (L.mono le) f g l (Ends.bind x λa K W2 ua X _ i m G R y=>?_));refine Yl B t S (L.mono (le.trans i)) f g m (Ends.bind y λb M W3 ub Y _ k p H Z z=>?_);exact bD (ark p (F.mono (i.trans k)) (G.mono k) H z)
theorem YQ {op:oS} {b:CE} (x:SE prog w I n a) (hb:SE prog w I n b):SE prog w I n (.aN op a b):=by
 intro sc e ae A P W O s loc Q E c S L d f J h;refine V4.el U0 c λl dT r _ c=>?_
 . refine kQ c λm o p=>aa (of_decide_eq_true m).symm <| wpAny_BinOp (x o S L d f J (Ends.bind h λv C W1 u G _ le g y F q=>?_))
   refine hb p S (L.mono le) d f g (Ends.bind q λk B W2 K H _ j i z D t=>?_);exact adG i (y.mono j) z t
theorem aqT (j:SE prog w I n a):SE prog w I n (.neg a):=by
 intro sc e ae A P W O s loc Q E b S L g i J h;refine V3.el Ld b λop x _ b=>bB (dP.mp b) λk l=>?_;obtain rfl:=of_decide_eq_true k;have b:=l
 . dsimp only [bh] at h;refine wpAny_UnaryOp (j b S L g i J (Ends.bind h λv o W1 u q _ le d m p c=>?_));induction v using AV.casesOn<;>try (exact c.elim)
   refine a8 m.jW λ_ f=>?_;refine aa f ?_;exact PyProof.Rows.neg_int (Ends.tok c d (.int _ _))
theorem aqV (k:SE prog w I n a):SE prog w I n (.not a):=by
 intro sc e ae A P W O s loc Q E b S L i j J h;refine V3.el Ld b λop x _ b=>bB (dP.mp b) λl m=>?_;obtain rfl:=of_decide_eq_true l;have b:=m
 . dsimp only [bh] at h;refine wpAny_UnaryOp (k b S L i j J (Ends.bind h λv r W1 u C _ le c o B f=>?_));refine not_value (MU c o (Ends.bind f λt q W2 F D _ y d p z g=>?_));subst p;exact Ends.here g d (.bool _)
theorem aqI {op:qj} (hb:SB prog w I n es):SE prog w I n (.bo op es):=by
 intro sc e ae A P W O s loc Q E a S L b c J h;refine V3.el U6 a λdT l _ a=>?_
 . simp only [qi] at a;refine aa (of_decide_eq_true a.1 ..).symm (aa (arm_eval_BoolOp ..) ?_);exact hb a.2 S L b c J h
theorem LV {e:cg} (h:p0 e=true):behindInMarks op e=false:=by induction e using u9<;>first | rfl | (contradiction;done)
theorem aqL {b:CE} (K:cL I) (C:SE prog w I n a) (hb:SE prog w I n b):SE prog w I n (.aP op a b):=by
 intro sc e ae A P W O s loc Q E c S L f i J h;refine V4.el Ek c λl U rs _ c=>gU c λdT c=>gU c λr c=>?_
 . refine qE c λq x y z=>aa (of_decide_eq_true q).symm <| wpAny_Compare1 (C y S L f i J (Ends.bind h λv H W1 u R _ le j D N B=>?_)) (LV x)
   refine hb z S (L.mono le) f i j (Ends.bind B λk m W2 X T _ o g F M d=>?_);generalize p:cG op v k m=G at d;induction G using aW with
   |none=>exact d.elim
   |some t=>exact xH K g (D.mono o) F f.u p λV=>Ends.tok d g (.bool t)
end
variable {f:Nat} {dT:lI} {r':cg}
section
variable {b:CE} {m:Nat}
theorem FN {b:Bool} {Q:Bool->ax->Prop} (h:Q b s):aY (aZ prog w) A (Hg (.bool b)) Q E s:=bD h
theorem Wk {r:cg} (h':p0 r'=true):lastMarks [op,dT] [r,r']=false:=by exact LV h'
theorem aqM (K:cL I) (Y:SE prog w I n a) (hb:SE prog w I n b) (Z:SE prog w I n c):SE prog w I n (.o9 op dT a b c):=by
 intro sc e ae A P W O s loc Q E d S L f m J h;refine V4.el Ek d λl ta rs _ d=>sV d λp q d=>gU d λp' d=>sV d λr q d=>gU d λr' d=>?_
 . refine HX d λT qX _ D U V G=>aa (of_decide_eq_true T).symm (aa (of_decide_eq_true qX).symm ?_);refine Compare_chain (Y U S L f m J (Ends.bind h λv ay W1 u s1 _ le F r1 ks X=>?_)) (Wk D);refine chain_link (hb V S (L.mono le) f m F (Ends.bind X λk H W2 uk s2 _ B j C gM g=>?_));generalize R:cG op v k H=x at g;induction x using aW with
   |none=>exact g.elim
   |some t=>
    refine xH K j (r1.mono B) C f.u R λtk=>FN ?_;induction t using dy with
    |false=>exact Ends.tok g j (.bool false)
    |true=>
     refine aa (if_pos rfl) <| chain_last (Z G S (L.mono (le.trans B)) f m j (Ends.bind (Ends.from g (.refl _) ⟨rfl,rfl⟩) λz M W3 uz s3 _ N y r3 uB i=>?_))
     generalize o:cG dT k z M=x;induction x using aW with
     |none=>rw [o] at i;exact i.elim
     |some t=>rw [o] at i;exact xH K y (C.mono N) r3 f.u o λtk=>Ends.tok i y (.bool t)
theorem arR (K:cL I) (Y:SE prog w I n a) (hb:SE prog w I n b) (Z:SE prog w I n c):ST prog w I n (.o9 op dT a b c):=by
 intro sc e ae A P W O s loc Q E d S L f m J h;refine V4.el Ek d λl ta rs _ d=>sV d λp q d=>gU d λp' d=>sV d λr q d=>gU d λr' d=>?_
 . refine HX d λT qX _ D U V G=>aa (of_decide_eq_true T).symm (aa (of_decide_eq_true qX).symm ?_);refine isTrue_chain (Y U S L f m J (Ends.bind h λv ay W1 u s1 _ le F r1 ks X=>?_)) (Wk D);refine test_link (hb V S (L.mono le) f m F (Ends.bind X λk H W2 uk s2 _ B j C gM g=>?_));generalize R:cG op v k H=x at g;induction x using aW with
   |none=>exact g.elim
   |some t=>
    refine xH K j (r1.mono B) C f.u R λtk=>FN ?_;induction t using dy with
    |false=>exact Ends.tok g j rfl
    |true=>
     refine aa (if_pos rfl) <| test_last (Z G S (L.mono (le.trans B)) f m j (Ends.bind (Ends.from g (.refl _) ⟨rfl,rfl⟩) λz M W3 uz s3 _ N y r3 uB i=>?_))
     generalize o:cG dT k z M=x;induction x using aW with
     |none=>rw [o] at i;exact i.elim
     |some t=>rw [o] at i;exact xH K y (C.mono N) r3 f.u o λtk=>FN (Ends.tok i y rfl)
theorem arQ (K:cL I) (C:SE prog w I n a) (hb:SE prog w I n b):ST prog w I n (.aP op a b):=by
 intro sc e ae A P W O s loc Q E c S L f i J h;refine V4.el Ek c λl U rs _ c=>gU c λdT c=>gU c λr c=>?_
 . refine qE c λq x y z=>aa (of_decide_eq_true q).symm <| wpAny_isTrue_Compare1 (C y S L f i J (Ends.bind h λv H W1 u R _ le j D N B=>?_)) (LV x)
   refine hb z S (L.mono le) f i j (Ends.bind B λk m W2 X T _ o g F M d=>?_);generalize p:cG op v k m=G at d;induction G using aW with
   |none=>exact d.elim
   |some t=>exact xH K g (D.mono o) F f.u p λV=>FN (Ends.tok d g rfl)
theorem aqR (p:ST prog w I n c) (o:SE prog w I n a) (hb:SE prog w I n b):SE prog w I n (.dD c a b):=by
 intro sc e ae A P W O s loc Q E g S L d f J h;refine V4.el Vt g λt x y _ g=>?_
 . refine kQ g λk l m=>PySem.wpAny_IfExp (p k S L d f J (Ends.bind h λt r W1 u z _ le i q v j=>?_));subst q;induction t using dy with
   |true=>refine aa (if_pos rfl) ?_;exact o l S (L.mono le) d f i j
   |false=>refine aa (if_neg uZ) ?_;exact hb m S (L.mono le) d f i j
theorem arS (p:ST prog w I n c) (o:ST prog w I n a) (hb:ST prog w I n b):ST prog w I n (.dD c a b):=by
 intro sc e ae A P W O s loc Q E g S L d f J h;refine V4.el Vt g λt x y _ g=>?_
 . refine kQ g λk l m=>isTrue_IfExp (p k S L d f J (Ends.bind h λt r W1 u z _ le i q v j=>?_));subst q;induction t using dy with
   |true=>refine aa (if_pos rfl) ?_;exact o l S (L.mono le) d f i j
   |false=>refine aa (if_neg uZ) ?_;exact hb m S (L.mono le) d f i j
theorem arU (i:ST prog w I n a):ST prog w I n (.not a):=by
 intro sc e ae A P W O s loc Q E b S L f g J h;refine V3.el Ld b λop x _ b=>bB (dP.mp b) λj k=>?_;obtain rfl:=of_decide_eq_true j;have b:=k
 . dsimp only [fT] at h;refine isTrue_not (i b S L f g J (Ends.bind h λt m W1 u p _ le c l o d=>?_));subst l;exact Ends.here d c rfl
theorem arO {op:qj} (d:SA prog w I n es):ST prog w I n (.bo op es):=by
 intro sc e ae A P W O s loc Q E a S L b c J h;refine V3.el U6 a λdT l _ a=>?_
 . simp only [qi] at a;refine aa (of_decide_eq_true a.1 ..).symm (aa (arm_isTrue_BoolOp ..) ?_);exact d a.2 S L b c J h
theorem adE {b:Nat} {s:ax}:mI (aZ prog w) A (r8 b) s:=by
 iterate 8 (induction b using xc;(focus (first | exact .vF | exact .type));rename_i b)
 exact .vF
theorem E0 {p:Pos} {l:List cg} {f:ah} (c:mx id=true) (d:jP sc es l=true)
 (e:∀{a:ah->ax->Prop},a f s->aY (aZ prog w) A (zE ae id) a E s)
 (h:aY (aZ prog w) A (Hb (vo pos (tL l ae))) (λvs b=>mI (aZ prog w) A f b/\aY (aZ prog w) A (call f vs) Q E b) E s):
 aY (aZ prog w) A (oW (.Call (.Name id p) l [] pos) ae) Q E s:=
 acx (vw (e (C7 (Im d).1 h)) (vP c))
theorem YR (K:cL I) (C:oZ prog w I n) (q:SL prog w I n es):SE prog w I n (.call f es):=by
 intro sc e ae A P W O s loc Q E a S L d i J h;refine V4.el sW a λg l u _ a=>V2.el iG a λid _ a=>ji a λa=>?_
 . refine o5 a λk j m o c=>bB (jj k) λt x=>?_;subst x;refine E0 o c (λr=>Az K L J (S.gk _ m) (K.VX f t j) r) <| q c S L d i J (Ends.bind h λvs z W1 xs D _ le b v u p=>?_)
   refine zo (K.yG f j) λoc y fd sl k3 B=>⟨.func (b.K _ _ k3) rfl,xn (C (d.le (ao 0x9006d0036830)) i b v p)⟩
theorem aqU {c:Nat} (K:cL I) (C:oZ prog w I n) (t:SL prog w I n es):SE prog w I n (.new c es):=by
 intro sc e ae A P W O s loc Q E a S L d i J h;refine V4.el sW a λg l x _ a=>V2.el iG a λid _ a=>ji a λa=>?_
 . refine o5 a λo y p q b=>bB (jj o) λD v=>?_;subst v;refine a8 (xe.mp y) λf k=>?_;have m:=(K.kin c f k).1;refine E0 q b (λu=>Az K L J (S.gk _ p) (K.Ew c (cu _ m)) u) <| t b S L d i J (Ends.bind h λvs B W1 xs F _ le j z x r=>?_)
   exact anT K C d i j z r
theorem aqH {b:Nat} (K:cL I) (q:SL prog w I n es):SE prog w I n (.bi b es):=by
 intro sc e ae A P W O s loc Q E a S L d p J h;refine V4.el sW a λg l t _ a=>V2.el iG a λid _ a=>ji a λa=>?_
 . refine o5 a λj u k m c=>?_;have hb:=vh j;have i:=eq_of_beq u;subst i;refine E0 m c (λr=>PT K L J (S.gk _ k) (K.Lo b hb).1 (K.Lo b hb).2 r) <| q c S L d p J (Ends.bind h λvs x W1 xs y _ le f v t o=>?_)
   exact ⟨adE,afl K d.q6 f v o⟩
theorem anh (K:cL I) (h:gE GG x m O=some (.own f)):(ai f).isSome=true:=by
 induction x using AV.casesOn with
 |ref r=>
  replace h:rA GG r m O=some (.own f):=h;delta rA at h;generalize O[r]?=a at h;induction a using aW with
  |none=>exact cX h
  |some o=>
   induction o using aV.casesOn with
   |ba c l=>
    replace h:(match lk m l with | none=>(GG.meth c m).map MK.own | some _=>none)=some (.own f):=h;generalize lk m l=a at h;induction a using aW with
    |some _=>exact cX h
    |none=>
     refine aQ (gJ.mp h) λd b e=>?_
     (injection e with e;subst e)
     exact K.Lq _ _ _ b
   |lst l=>exact Ej h (λ_ e=>by contradiction) λh=>Ej h (λ_ e=>by contradiction) λh=>pQ h λ_ e=>by contradiction
   |dI l=>exact pQ h λ_ e=>by contradiction
   |_=>exact cX h
 |_=>exact cX h
theorem YS {o:CE} (K:cL I) (C:oZ prog w I n) (N:SE prog w I n o) (M:SL prog w I n es):SE prog w I n (.meth o m es):=by
 intro sc e ae A P W O s loc Q E a S L d i J h;refine V4.el sW a λg l R p a=>V3.el wB a λo' n' Y a=>ji a λa=>?_
 . refine zW a λz B D F G c=>bB (jj z) λhx U=>qd U <| Xl B (vh D) F (Im c).2 (N G S L d i J (Ends.bind h λv t W1 u s1 _ le j q R b=>λpl=>?_))
   generalize ek:gE GG v m t=V at b;induction V using aW with
   |none=>exact b.elim
   |some k=>
    have b:=b;refine air K j q ek <| C7 (Im c).1 (M c S (L.mono le) d i j (Ends.bind b λvs X W2 xs s2 _ x r T Z H=>?_))
    exact afm K C (d.le (ao 0x9006d0036830)) i r (q.mono x) T (λf y=>anh K (y▸ek)) H
end
section
variable {o:CE}
theorem arX {x:Nat} (d:SE prog w I n (.v x)):ST prog w I n (.v x):=by
 intro sc e ae A P W O s loc Q E a S L b c J h;refine zg a S L b c J d ?_ ?_
 . refine V2.el iG a λid _ a=>?_
   . rfl
 . dsimp only [fT] at h;exact h
theorem aJ.zY {a b c:Type} (m:aJ a) (f) (g:b->AH->aJ c):(m.bind f).bind g=m.bind λv O=>(f v O).bind g:=by induction m using aJ.casesOn<;>rfl
theorem arM {a:Nat} (f:SE prog w I n (.at o a)):ST prog w I n (.at o a):=by
 intro sc e ae A P W O s loc Q E b S L c d J h;refine zg b S L c d J f ?_ ?_
 . refine V3.el wB b λi g _ b=>?_
   . rfl
 . dsimp only [fT] at h;refine aa (aJ.zY ..) ?_;exact h
theorem arW (f:SE prog w I n (.sub o a)):ST prog w I n (.sub o a):=by
 intro sc e ae A P W O s loc Q E b S L c d J h;refine zg b S L c d J f ?_ ?_
 . refine V3.el Eo b λg j _ b=>?_
   . rfl
 . dsimp only [fT] at h;dsimp only [bh];simp only [aJ.zY];exact h
theorem arN {op:oS} (f:SE prog w I n (.aN op o a)):ST prog w I n (.aN op o a):=by
 intro sc e ae A P W O s loc Q E b S L c d J h;refine zg b S L c d J f ?_ ?_
 . refine V4.el U0 b λl dT r _ b=>?_
   . rfl
 . dsimp only [fT] at h;dsimp only [bh];simp only [aJ.zY];exact h
theorem arP (i:SE prog w I n (.call f a)):ST prog w I n (.call f a):=by
 intro sc e ae A P W O s loc Q E b S L c d J h;refine zg b S L c d J i ?_ ?_
 . refine V4.el sW b λg l j _ b=>?_
   . rfl
 . dsimp only [fT] at h;dsimp only [bh];simp only [aJ.zY];exact h
theorem arT (i:SE prog w I n (.meth o f a)):ST prog w I n (.meth o f a):=by
 intro sc e ae A P W O s loc Q E b S L c d J h;refine zg b S L c d J i ?_ ?_
 . refine V4.el sW b λg l j p b=>?_
   . rfl
 . dsimp only [fT] at h;dsimp only [bh];simp only [aJ.zY];exact h
structure acJ (prog:cU) (w:bU) (I:KI) (n:Nat) (c:CE):Prop where
 e:SE prog w I n c
 l:SL prog w I n c
 t:ST prog w I n c
 b:SB prog w I n c
 a:SA prog w I n c
theorem MB (hb:∀loc O,bh GG (aj GG ai n) c loc O=.aq):SE prog w I n c:=by intro sc e ae A P W O s loc Q E d S L a b J h;rw [hb] at h;exact h.elim
theorem gu (hb:∀loc O,lX GG (aj GG ai n) c loc O=.aq):SL prog w I n c:=by intro sc e ae A P W O s loc a Q E f S L b d J h;rw [hb] at h;exact h.elim
theorem kH (hb:∀loc O,fT GG (aj GG ai n) c loc O=.aq):ST prog w I n c:=by intro sc e ae A P W O s loc Q E d S L a b J h;rw [hb] at h;exact h.elim
theorem fY (hb:∀op loc O,vX GG (aj GG ai n) op c loc O=.aq):SB prog w I n c:=by intro sc e ae A P W O s loc a op Q E f S L b d J h;rw [hb] at h;exact h.elim
theorem gq (hb:∀op loc O,x8 GG (aj GG ai n) op c loc O=.aq):SA prog w I n c:=by intro sc e ae A P W O s loc op Q E d S L a b J h;rw [hb] at h;exact h.elim
theorem adh (K:cL I) (C:oZ prog w I n) (c):acJ prog w I n c:=by
 induction c with
 |aq=>exact ⟨MB λ_ _=>rfl,gu λ_ _=>rfl,kH λ_ _=>rfl,fY λ_ _ _=>rfl,gq λ_ _ _=>rfl⟩
 |cn=>exact ⟨aqN,gu λ_ _=>rfl,kH λ_ _=>rfl,fY λ_ _ _=>rfl,gq λ_ _ _=>rfl⟩
 |cb b=>exact ⟨aqJ,gu λ_ _=>rfl,kH λ_ _=>rfl,fY λ_ _ _=>rfl,gq λ_ _ _=>rfl⟩
 |ci i=>exact ⟨aqK,gu λ_ _=>rfl,kH λ_ _=>rfl,fY λ_ _ _=>rfl,gq λ_ _ _=>rfl⟩
 |cs i=>exact ⟨aqO,gu λ_ _=>rfl,kH λ_ _=>rfl,fY λ_ _ _=>rfl,gq λ_ _ _=>rfl⟩
 |gi x i=>exact ⟨aqQ K,gu λ_ _=>rfl,kH λ_ _=>rfl,fY λ_ _ _=>rfl,gq λ_ _ _=>rfl⟩
 |v x=>exact ⟨YU,gu λ_ _=>rfl,arX YU,fY λ_ _ _=>rfl,gq λ_ _ _=>rfl⟩
 |nil=>exact ⟨MB λ_ _=>rfl,arj,kH λ_ _=>rfl,fY λ_ _ _=>rfl,aqE⟩
 |cons a b j hb=>exact ⟨MB λ_ _=>rfl,ari j.e hb.l,kH λ_ _=>rfl,aqF j.e hb.b,aqD j.t hb.a⟩
 |aw es h=>exact ⟨aqX h.l,gu λ_ _=>rfl,kH λ_ _=>rfl,fY λ_ _ _=>rfl,gq λ_ _ _=>rfl⟩
 |lst es h=>exact ⟨aqS h.l,gu λ_ _=>rfl,kH λ_ _=>rfl,fY λ_ _ _=>rfl,gq λ_ _ _=>rfl⟩
 |mU=>exact ⟨aqP,gu λ_ _=>rfl,kH λ_ _=>rfl,fY λ_ _ _=>rfl,gq λ_ _ _=>rfl⟩
 |«at» o a h=>exact ⟨YP K h.e,gu λ_ _=>rfl,arM (YP K h.e),fY λ_ _ _=>rfl,gq λ_ _ _=>rfl⟩
 |sub o i d e=>exact ⟨YT d.e e.e,gu λ_ _=>rfl,arW (YT d.e e.e),fY λ_ _ _=>rfl,gq λ_ _ _=>rfl⟩
 |my o lo hi d e g=>exact ⟨aqW d.e e.e g.e,gu λ_ _=>rfl,kH λ_ _=>rfl,fY λ_ _ _=>rfl,gq λ_ _ _=>rfl⟩
 |aN op a b d e=>exact ⟨YQ d.e e.e,gu λ_ _=>rfl,arN (YQ d.e e.e),fY λ_ _ _=>rfl,gq λ_ _ _=>rfl⟩
 |neg a h=>exact ⟨aqT h.e,gu λ_ _=>rfl,kH λ_ _=>rfl,fY λ_ _ _=>rfl,gq λ_ _ _=>rfl⟩
 |not a h=>exact ⟨aqV h.e,gu λ_ _=>rfl,arU h.t,fY λ_ _ _=>rfl,gq λ_ _ _=>rfl⟩
 |bo op es h=>exact ⟨aqI h.b,gu λ_ _=>rfl,arO h.a,fY λ_ _ _=>rfl,gq λ_ _ _=>rfl⟩
 |aP op a b d e=>exact ⟨aqL K d.e e.e,gu λ_ _=>rfl,arQ K d.e e.e,fY λ_ _ _=>rfl,gq λ_ _ _=>rfl⟩
 |o9 op dT a b c d e g=>exact ⟨aqM K d.e e.e g.e,gu λ_ _=>rfl,arR K d.e e.e g.e,fY λ_ _ _=>rfl,gq λ_ _ _=>rfl⟩
 |dD c a b d e g=>exact ⟨aqR d.t e.e g.e,gu λ_ _=>rfl,arS d.t e.t g.t,fY λ_ _ _=>rfl,gq λ_ _ _=>rfl⟩
 |call f es h=>exact ⟨YR K C h.l,gu λ_ _=>rfl,arP (YR K C h.l),fY λ_ _ _=>rfl,gq λ_ _ _=>rfl⟩
 |new c es h=>exact ⟨aqU K C h.l,gu λ_ _=>rfl,kH λ_ _=>rfl,fY λ_ _ _=>rfl,gq λ_ _ _=>rfl⟩
 |meth o m es d e=>exact ⟨YS K C d.e e.l,gu λ_ _=>rfl,arT (YS K C d.e e.l),fY λ_ _ _=>rfl,gq λ_ _ _=>rfl⟩
 |bi b es h=>exact ⟨aqH K h.l,gu λ_ _=>rfl,kH λ_ _=>rfl,fY λ_ _ _=>rfl,gq λ_ _ _=>rfl⟩
 |comp di x it d e=>exact ⟨afG K d.e e.e,gu λ_ _=>rfl,kH λ_ _=>rfl,fY λ_ _ _=>rfl,gq λ_ _ _=>rfl⟩
end
variable {P0:Pin} {Q1:lK->ax->Prop}
section
variable {m:RS}
structure Lv (P0:Pin) (S:aC->Prop) (ae:Env) (A:dh) (P:Pin) (W:Wd) (loc:aB):Prop where
 ext:P0.jM P S
 lr:gK P W ae loc
 af:AF P A
 sl:S ae.locals
 xl:P.ex ae.locals=none
 ce:∀id c,ae.cells.lookup id=some c->S c/\P.fr c=none/\∃o v,P.ex c=some o/\o.data=.cell v
 inj:∀id id' c,ae.cells.lookup id=some c->ae.cells.lookup id'=some c->id=id'
 fm:ae.frame=some ae.locals
 tp:∃yZ,A.frames=some (ae::yZ)
def bY (prog:cU) (w:bU) (I:KI) (P0:Pin) (S:aC->Prop) (ae:Env) (A:dh) (W:Wd) (s:ax) (m:RS) (Q:lK->ax->Prop) (E:ah->ax->Prop):Prop:=
 match m with
 |.next loc O=>∀P' W' s',W.le W'->Lv P0 S ae A P' W' loc->aF prog w I P' W' O s'.heap->dF s s'->Q .next s'
 |.cont loc O=>∀P' W' s',W.le W'->Lv P0 S ae A P' W' loc->aF prog w I P' W' O s'.heap->dF s s'->Q .cont s'
 |.ret v O=>∀P' W' x s' a,W.le W'->Lv P0 S ae A P' W' a->aF prog w I P' W' O s'.heap->VR W' v x->dF s s'->Q (.ret x) s'
 |.dm r O=>∀P' W' p s' a,W.le W'->Lv P0 S ae A P' W' a->aF prog w I P' W' O s'.heap->W'.μ[r]?=some p->XS P' W' p.1 s'.heap->dF s s'->E (.ref p.1) s'
 |.aq=>False
section
variable {Q:lK->ax->Prop}
theorem Lv.mono (V:Lv P0 S ae A P W loc) (le:W.le W'):Lv P0 S ae A P W' loc:={V with lr:=V.lr.mono le}
theorem bY.from (h:bY prog w I P0 S ae A W s m Q E) (le:W.le W') (k:dF s s'):bY prog w I P0 S ae A W' s' m Q E:=by
 induction m using RS.casesOn with
 |next loc O=>exact λa d c b V J k'=>h a d c (le.trans b) V J (k.trans k')
 |cont loc O=>exact λa d c b V J k'=>h a d c (le.trans b) V J (k.trans k')
 |ret v O=>exact λa d x c e b V J r k'=>h a d x c e (le.trans b) V J r (k.trans k')
 |dm r O=>exact λa d p c e b V J m x k'=>h a d p c e (le.trans b) V J m x (k.trans k')
 |aq=>exact h
theorem bY.atG (V:Lv P0 S ae A P W loc) (h:bY prog w I P0 S ae A W s (.dm r O') Q E):xt prog w I P W s r O' E:=
 λW' p s' le J m x k=>h P W' p s' loc le (V.mono le) J m x k
theorem bY.dp {c g:Type} {d:Wd->c->g->Prop} {m:aJ c} {f:c->AH->RS} {Q1:g->ax->Prop} (V:Lv P0 S ae A P W loc)
 (h:bY prog w I P0 S ae A W s (m.dp f) Q E)
 (k:∀v b W1 x a,m=.ok v b->W.le W1->aF prog w I P W1 b a.heap->d W1 v x->dF s a->Lv P0 S ae A P W1 loc->bY prog w I P0 S ae A W1 a (f v b) Q E->Q1 x a):Ends prog w I P W s d m Q1 E:=by
 induction m using aJ.casesOn with
 |ok v O=>exact λW1 x a le J r e=>k v O W1 x a rfl le J r e (V.mono le) (bY.from h le e)
 |dm r O=>exact bY.atG V h
 |aq=>exact h
theorem bY.next (h:bY prog w I P0 S ae A W s (.next loc O) Q E) (V:Lv P0 S ae A P W' loc) (J:aF prog w I P W' O s'.heap) (le:W.le W') (k:dF s s'):Q .next s':=h P W' s' le V J k
theorem bY.nx {t:Nat} (h:bY prog w I P0 S ae A W s (.next loc O) Q E) (V:Lv P0 S ae A P W loc) (J:aF prog w I P W O s.heap):Q .next {s with toks:=t}:=h P W _ (.refl W) V J ⟨rfl,rfl⟩
theorem bY.seq {f:aB->AH->RS} (h:bY prog w I P0 S ae A W s (m.seq f) Q E)
 (b:∀loc O P' W' s',m=.next loc O->W.le W'->Lv P0 S ae A P' W' loc->aF prog w I P' W' O s'.heap->dF s s'->bY prog w I P0 S ae A W' s' (f loc O) Q E->Q1 .next s') (a:∀x s',x≠.next->Q x s'->Q1 x s'):
 bY prog w I P0 S ae A W s m Q1 E:=by
 induction m using RS.casesOn with
 |next loc O=>exact λP' W' s' le V J k=>b loc O P' W' s' rfl le V J k (bY.from h le k)
 |cont loc O=>exact λP' W' s' le V J k=>a _ _ (by intro e;contradiction) (h P' W' s' le V J k)
 |ret v O=>exact λP' W' x s' l le V J r k=>a _ _ (by intro e;contradiction) (h P' W' x s' l le V J r k)
 |dm r O=>exact h
 |aq=>exact h
theorem AF.at (h:AF P A) (q:∀L c d,P.fr L=some (c,d)->P.ex L=none->(∀vs,d≠.fields vs)->∃k j,P'.fr L=some (k,j)/\P'.ex L=none/\∀vs,j≠.fields vs):AF P' A:=by refine aQ h λi e r=>⟨i,e,λl o=>?_⟩;obtain ⟨a,L,c,d,b,f,x,g⟩:=r l o;refine qg (q L c d f x g) λk j m x' n=>⟨a,L,k,j,b,m,x',n⟩
theorem wU {x:Nat} {u:ah} {Q:Unit->ax->Prop} (K:cL I) (V:Lv P0 S ae A P W loc) (J:aF prog w I P W O s.heap) (hx:x<NN) (hk:nu ae.scope (nm x)=true) (hv:VR W v u)
 (h:∀P' r t,Lv P0 S ae A P' W (up x v loc)->aF prog w I P' W O r->Q () {s with heap:=r,toks:=t}):aY M A (storeName ae (nm x) u) Q E s:=by
 unfold nu at hk;refine oO V.lr.lo λc es ep h1 h2 h3=>?_;generalize e:ae.scope.names.lookup (nm x)=z9 at hk;induction z9 using aW with
 |none=>contradiction
 |some k=>
  have R:ae.kindOf (nm x)=some k:=e;induction k using zp with
  |«local»=>
   refine ct (J.pfr _ _ _ h1) λo o1 o2 o3=>acH R ⟨o,es,ep,o1,o3,h2,λ_=>rfl⟩ (λr hn l=>?_) (by refine aa V.lr.fn ?_;rfl);refine fv (hn) λg T U X H MJ f'=>?_;clear hn;have F:P0.jM (P.frm ae.locals g.cls (.dict T U)) S:=by
    refine ⟨V.ext.ex,λb hb=>?_,V.ext.no,λb hb=>?_⟩
    . show (if b=ae.locals then _ else P.fr b)=P0.fr b;refine ((if_neg λq:b=ae.locals=>hb (q▸V.sl))).trans ?_;exact V.ext.fr b hb
    . by_cases q:b=ae.locals
      . right;refine qd q ?_;refine aa Pin.frm_at ?_;exact oU _
      . rcases V.ext.so b hb with z | z
        . exact .inl z
        . right;show (if b=ae.locals then _ else P.fr b)≠none;refine aa (if_neg q) ?_;exact z
   refine h (P.frm ae.locals g.cls (.dict T U)) r _ ?_ ?_
   . refine ⟨F,⟨V.lr.fn,V.lr.gl,V.lr.bl,⟨_,T,U,Pin.frm_at,MJ,λy m j f i=>?_⟩,λy m j f i=>?_,V.lr.cl⟩,?_,V.sl,V.xl,λid c C=>?_,V.inj,V.fm,V.tp⟩
     . rw [yI] at f;refine aa (f' ..) ?_;dsimp only;by_cases q:y=x
       . subst q;rw [if_pos rfl] at f⊢;refine iM f ?_;exact ⟨u,rfl,hv⟩
       . rw [if_neg q] at f;refine aa (if_neg λz=>q (K.rE y x j hx z)) <| h3 y m j f i
     . rw [yI] at f;have q:y≠x:=λq=>by subst q;rw [R] at i;rcases i with z | z<;>contradiction
       rw [if_neg q] at f;exact V.lr.ce y m j f i
     . refine V.af.at λL c d N x n=>?_;by_cases q:L=ae.locals
       . subst q;exact dE _ _ ⟨Pin.frm_at,V.xl,λvs z=>by contradiction⟩
       . exact dE c d ⟨(by refine (if_neg q).trans ?_;exact N),x,n⟩
     . refine fH (V.ce id c C) λa1 a2 p=>⟨a1,?_,p⟩;show (if c=ae.locals then _ else P.fr c)=none;rw [if_neg λq=>by refine j6 p λ_ _ z _=>?_;clear p;rw [q,V.xl] at z;contradiction];exact a2
   . refine J.repin V.ext F (λb z nb q=>?_) (λa z B q=>?_) (λa D G B q=>?_)
     . exact l.extBut b z (λq=>nb (q▸V.sl)) q
     . have q:P.ex a=some z:=q;exact l.extBut a z (λe=>by rw [e,V.xl] at q;contradiction) (J.pex a z q)
     . by_cases e:a=ae.locals
       . subst e;rw [Pin.frm_at] at q;cases q;exact ⟨g,X,rfl,H⟩
       . have q:(if a=ae.locals then some (g.cls,Gv T U) else P.fr a)=some (D,G):=q;rw [if_neg e] at q;refine aQ (J.pfr a D G q) λz Y Z=>⟨z,l.extBut a z e Y,Z⟩
  |cell=>
   refine a8 (V.lr.cl (nm x) e) λa B=>?_;obtain ⟨a1,a2,o,v0,p,a4⟩:=V.ce _ _ B;have aL:a≠ae.locals:=λq=>by rw [q,V.xl] at p;contradiction
   refine wpAny_storeName_cell V.lr.fn R B ⟨o,J.pex _ _ p,a4⟩ λr C l=>aQ C λg X H=>?_;clear C;have F:P0.jM (P.pin a g) S:=by
    refine ⟨λb hb=>?_,V.ext.fr,V.ext.no,λb hb=>?_⟩
    . show (if b=a then _ else P.ex b)=P0.ex b;refine (if_neg λq:b=a=>hb (q▸a1)).trans ?_;exact V.ext.ex b hb
    . by_cases q:b=a
      . left;refine aa q ?_;refine aa Pin.pin_at ?_;exact oU _
      . rcases V.ext.so b hb with z | z
        . left;show (if b=a then _ else P.ex b)≠none;refine aa (if_neg q) ?_;exact z
        . exact .inr z
   refine h (P.pin a g) r s.toks ?_ ?_
   . refine ⟨F,⟨V.lr.fn,V.lr.gl,V.lr.bl,⟨c,es,ep,h1,h2,λy m j f i=>?_⟩,λy m j f i=>?_,V.lr.cl⟩,V.af.at λL c d N x n=>⟨c,d,N,by refine (if_neg λq:L=a=>by rw [q,a2] at N;contradiction).trans ?_;exact x,n⟩,V.sl,?_,λid c C=>?_,V.inj,V.fm,V.tp⟩
     . rw [yI] at f;have q:y≠x:=λq=>by subst q;rw [R] at i;contradiction
       rw [if_neg q] at f;exact h3 y m j f i
     . rw [yI] at f;by_cases q:y=x
       . subst q;rw [if_pos rfl] at f;refine iM f <| d9 a u g ⟨B,Pin.pin_at,H,hv⟩
       . rw [if_neg q] at f;refine fv (V.lr.ce y m j f i) λb u' ob y1 y2 y3 y4=>d9 b u' ob ⟨y1,?_,y3,y4⟩;refine ((if_neg λz:b=a=>q (K.rE y x j hx (V.inj _ _ a (z▸y1) B)))).trans <| y2
     . show (if ae.locals=a then some g else P.ex ae.locals)=none;refine (if_neg (bC aL)).trans ?_;exact V.xl
     . obtain ⟨b1,b2,ob,vb,b3,b4⟩:=V.ce id c C;refine ⟨b1,b2,?_⟩;by_cases q:c=a
       . refine aa q ?_;exact dE g (some u) ⟨Pin.pin_at,H⟩
       . exact dE ob vb ⟨(by refine (if_neg q).trans ?_;exact b3),b4⟩
   . refine J.repin V.ext F (λb z nb q=>?_) (λb z hb q=>?_) (λb D G hb q=>?_)
     . exact l.extBut b z (λq=>nb (q▸a1)) q
     . by_cases e:b=a
       . subst e;rw [Pin.pin_at] at q;refine iM q ?_;exact X
       . have q:(if b=a then some g else P.ex b)=some z:=q;rw [if_neg e] at q;exact l.extBut b z e (J.pex b z q)
     . refine aQ (J.pfr b D G q) λz Y Z=>?_;have q:P.fr b=some (D,G):=q;exact ⟨z,l.extBut b z (λe=>by rw [e,a2] at q;contradiction) Y,Z⟩
  |_=>contradiction
end
end
variable {e L:aC} {oe:Obj} {T:List aC} {envs yZ:List Env} {fr:Option aC}
section
variable {vs:Array ah} {f:Array ah->Array ah} {Q:Unit->ax->Prop}
def XT (P:Pin) (W:Wd) (e:aC) (h:dv):Prop:=
 ∃oe vs t a b x,h.get? e=some oe/\oe.data=.fields vs/\vs[1]?=some (.ref t)/\fk P W t/\h.get? t=some a/\a.data=.fields b/\b[3]?=some x/\a.dict=none
theorem XT.xs (x:XT P W e h):XS P W e h:=by refine Nq x λoe vs t k l x a b c d f g i j=>dE oe vs ⟨a,b,(Gq.mp c).1,.inr ⟨t,k,l,x,c,d,f,g,i,j⟩⟩
theorem Jz {a:aC} (c:h.get? a=some o) (b:o.data=.fields vs):(h.update a (Ol f)).get? a=some (o.mapFields f):=
 tr _ c (tF (GW b _))
theorem Xg {f:Array ah->Array ah}:(o.mapFields f).dict=o.dict:=by obtain ⟨c,d,dt,sl⟩:=o;induction dt using NI<;>rfl
theorem aF.updX (J:aF prog w I P W O h) (hp:W.μ[r]?=some p) (i:h.get? p.1=some oe) (s:oe.data=.fields vs)
 (k:∀b o,b≠p.1->h.get? b=some o->h'.get? b=some o) (D:h'.get? p.1=some (oe.mapFields f)):aF prog w I P W O h' where
 con b o e:=k _ _ (λq=>by subst q;exact cX (((J.sep r p hp).1.1).symm.trans e)) (J.con b o e)
 pex b o e:=k _ _ (λq=>by subst q;exact cX (((J.sep r p hp).1.2.1).symm.trans e)) (J.pex b o e)
 pfr b c d e:=let ⟨o,x,y⟩:=J.pfr b c d e;⟨o,k _ _ (λq=>by subst q;exact cX (((J.sep r p hp).1.2.2).symm.trans e)) x,y⟩
 kin:=J.kin
 dis:=J.dis
 len:=J.len
 obj j o q e e':=by
  by_cases z:r=j
  . subst z;rw [hp] at e';refine iM e' ?_;have:=J.obj r o p e hp;induction o using aV.casesOn with
    |lst l=>obtain ⟨e,L,n,g,_⟩:=this;simp only [i] at g;(injection g with g;subst g);contradiction
    |dI l=>obtain ⟨e,⟨B,⟨E,es,ep,g,ex,dd,_⟩,_⟩,_⟩:=this;simp only [i] at g;(injection g with g;subst g);have:=dd.symm.trans s;contradiction
    |dS l=>obtain ⟨e,B,⟨E,es,ep,g,ex,dd,_⟩,_⟩:=this;simp only [i] at g;(injection g with g;subst g);have:=dd.symm.trans s;contradiction
    |ba c l=>
     obtain ⟨C,ne,⟨ox,a,b,M,A⟩,le,m,n,q⟩:=this;simp only [i] at a
     (injection a with a;subst a)
     refine fv n λF es ep u t G H=>?_;have v:=k _ _ (bC ne) u;refine ⟨C,ne,⟨_,D,by refine (Obj.cls_mapFields ..).trans ?_;exact b,?_,by refine Xg.trans ?_;exact A⟩,?_,m,⟨F,es,ep,v,t,G,H⟩,q⟩
     . unfold vr;exact aa (GW s ..) rfl
     . intro o N Q go K;simp only [v] at go
       (injection go with go;subst go)
       exact le _ _ _ u K
  . have:=J.inj r j p q z hp e';exact (J.obj j o q e e').at (λo=>k _ o (bC this.1)) (λo=>k _ o (bC this.2.1))
 sep:=J.sep
 inj:=J.inj
theorem aF.slots (J:aF prog w I P W O h) (x:Heap.SlotsOnly T h h') (g:∀b∈T,∃c d,P.fr b=some (c,d)) (j:∀b∈T,P.ex b=none):aF prog w I P W O h':=by
 have keep:∀b o,b∉T->h.get? b=some o->h'.get? b=some o:=λb o nb e=>(x.2.1 b nb).trans e;have k:∀b∈T,W.T b=none:=λb hb=>by
  generalize e:W.T b=l;induction l using aW with
  |none=>rfl
  |some o=>refine uW (g b hb) λc d z=>?_;exact cX (((J.dis b o e).2).symm.trans z)
 refine ⟨λb o e=>keep b o (λq=>cX ((k b q).symm.trans e)) (J.con b o e),λb o e=>keep b o (λq=>cX ((j b q).symm.trans e)) (J.pex b o e),λb c d e=>?_,J.kin,J.len,
  λi o p e f=>(J.obj i o p e f).at (λo=>keep _ o λq=>?_) (λo=>keep _ o λq=>?_),J.sep,J.inj,J.dis⟩
 . refine ct (J.pfr b c d e) λo a a1 a2=>a8 (x.2.2 b o a) λsl z=>⟨_,z,a1,a2⟩
 . refine uW (g _ q) λc d z=>?_;exact cX (((J.sep i p f).1.2.2).symm.trans z)
 . refine uW (g _ q) λc d z=>?_;exact cX (((J.sep i p f).2.2.2).symm.trans z)
noncomputable def H0:Heap:={objs:=#[],..}
theorem acL (b):H0.get? b=none:=by simp [Heap.get?,H0]
theorem AF.fun (J:aF prog w I P W O h) (m:AF P A) (e:A.frames=some envs):h.FunFrames H0 envs/\(∀b∈envs.filterMap (·.frame),∃c d,P.fr b=some (c,d)/\P.ex b=none/\∀vs,d≠.fields vs):=by
 refine aQ m λl i q=>?_;rw [e] at i
 (injection i with i;subst i)
 constructor
 . clear e;induction envs with
   |nil=>trivial
   |cons x r s=>obtain ⟨a,L,c,d,b,f,_,g⟩:=q x cN;refine ct (J.pfr _ _ _ f) λo t o2 o3=>⟨a,⟨L,o,b,acL _,t,λvs=>by refine aa o3 ?_;exact g vs⟩,s λi n=>q i (cu _ n)⟩
 . intro b hb;refine aQ (List.mem_filterMap.mp hb) λx p k=>?_;obtain ⟨a,L,c,d,j,f,x',g⟩:=q x p;rw [k] at j
   (injection j with j;refine aa j ?_)
   exact dE c d ⟨f,x',g⟩
theorem Md (hF:AF P A) (S:A.frames=some (ae::yZ)) (N:ae.frame=some L) (J:aF prog w I P W O s.heap) (hp:W.μ[r]?=some p)
 (x:XS P W p.1 s.heap) (h:∀h',aF prog w I P W O h'->XT P W p.1 h'->Q () {s with heap:=h'}):aY (aZ prog w) A (noteFrame (.ref p.1) ae) Q E s:=by
 refine fJ x λoe vs j i R hx=>?_;have f:∀(g:ah) (K:Bool) (m:dv),aF prog w I P W O m->m.get? p.1=some oe->
  aY (aZ prog w) A (do let a <-frameOf ae;let pl <-entryPlaceOf L K;let b <-aaG g a .none (qx L) .none pl;setField (.ref p.1) 1 b) Q E {s with heap:=m}:=by
  intro g K m u D;refine bB (AF.fun u hF S) λZ fm=>aO (wpAny_frameOf_fun S Z N λk M=>?_);have H:=u.slots M (λb hb=>let ⟨c,d,z,_⟩:=fm b hb;⟨c,d,z⟩) (λb hb=>let ⟨c,d,_,z,_⟩:=fm b hb;z);have v:k.get? p.1=some oe:=by refine (M.2.1 _ λhm=>?_).trans D;refine j6 (fm _ hm) λc d z _=>cX (((u.sep r p hp).1.2.2).symm.trans z)
  refine aO (wpAny_entryPlaceOf λpl Y=>?_);unfold aaG newFields;refine aO (zO ?_ (Y.sizeOk5 _ _ _ _ _));generalize B:({cls:=.type "traceback",dict:=none,data:=.fields ([g,.ref L,.none,qx L,.none]++(if pl.isEmpty then gX 6 vm else pl)).toArray}:Obj)=q;have X:q.isFreed=false:=by refine bA B.symm ?_;rfl
  have U:aF prog w I P W O (k.push q):=H.keep (kF _ _);have T:=H.fresh (bT _);have l:=kF k q _ _ v;have C:=(T.2.2.2 r p hp).1.symm;refine zP l i R (h _ ?_ ?_)
  . refine U.updX hp l i (λb o nb e=>?_) (Jz l i);rw [js _ _ (bC nb)];exact e
  . refine sT _ _ k.objs.size q _ (qx L) ⟨Jz l i,GW i _,(by simp [R]),T,?_,(congrArg _ B.symm),?_,(congrArg _ B.symm)⟩
    . rw [js _ _ (bC C)];exact nI k X
    . simp
 unfold noteFrame;rw [N];rcases hx with n | ⟨t,ot,ts,x,n,F,ht,G,y,V⟩
 . refine aO (lM j i n ?_);refine w5 ag <| f _ _ s.heap J j
 . refine aO (lM j i n ?_);refine Gi (show (mF t != vm)=true from by rfl) <| aO (lM ht G y ?_)
   by_cases hb:(x==qx L)=true
   . refine Gi hb <| bD (h s.heap J ⟨oe,vs,t,ot,ts,x,j,i,n,F,ht,G,y,V⟩)
   . refine w5 hb <| aO (zP ht G (Gq.mp y).1 ?_)
     refine f _ _ _ (J.but F λb o nb e=>?_) ?_
     . rw [js _ _ (bC nb)];exact e
     . rw [js _ _ (bC (F.2.2.2 r p hp).1)];exact j
theorem Aw (J:aF prog w I P W O s.heap) (hp:W.μ[r]?=some p)
 (x:XT P W p.1 s.heap) (h:∀h',aF prog w I P W O h'->XT P W p.1 h'->Q () {s with heap:=h'}):aY M A (setFlight (.ref p.1) fr) Q E s:=by
 refine Nq x λoe vs t m n x i g d a ht c l k=>?_;have j:=(Gq.mp l).1;unfold setFlight;refine aO (lM i g d ?_);refine Gi (show (mF t != vm)=true from by rfl) <| zP ht c j (h _ (J.but a λb o nb e=>?_) ⟨oe,vs,t,_,_,(fr.elim .none λf=>qx f),?_,g,d,a,Jz ht c,GW c _,by simp [j],by refine Xg.trans ?_;exact k⟩)
 . rw [js _ _ (bC nb)];exact e
 . rw [js _ _ (bC (a.2.2.2 r p hp).1)];exact i
theorem ady (J:aF prog w I P W O s.heap) (hp:W.μ[r]?=some p) (x:XT P W p.1 s.heap) (h:∀h',aF prog w I P W O h'->XT P W p.1 h'->E (.ref p.1) {s with heap:=h'}):
 G2 (aZ prog w) A ae E (.ref p.1) s:=by
 unfold G2;refine aao (id x) λoe vs t e g x' d c b f=>aO (lM d c b ?_);refine w5 (show ¬((mF t==vm)=true) from by simp) ?_
 first
  |exact aO (bD (Aw J hp x λh' a x'=>h h' a x'))
  |exact Aw J hp x λh' a x'=>h h' a x'
end
section
variable {a b:CS} {e o:CE}
section
variable (prog:cU) (w:bU) (I:KI) (n:Nat) (c:CS)
def SS:Prop:=
 ∀{st:fw} {ae:Env} {A:dh} {P0 P:Pin} {S:aC->Prop} {W:Wd} {O:AH} {s:ax} {loc:aB} {Q:lK->ax->Prop} {E:ah->ax->Prop},
  Dd ae.scope c st=true->Lv P0 S ae A P W loc->fy (3*n+1) A->aF prog w I P W O s.heap->bY prog w I P0 S ae A W s (aH GG (aj GG ai n) c loc O) Q E->aY (aZ prog w) A (exec st ae) Q E s
def SK:Prop:=
 ∀{l:List fw} {ae:Env} {A:dh} {P0 P:Pin} {S:aC->Prop} {W:Wd} {O:AH} {s:ax} {loc:aB} {Q:lK->ax->Prop} {E:ah->ax->Prop},
  jw ae.scope c l=true->Lv P0 S ae A P W loc->fy (3*n+1) A->aF prog w I P W O s.heap->bY prog w I P0 S ae A W s (aH GG (aj GG ai n) c loc O) Q E->aY (aZ prog w) A (execs l ae) Q E s
end
theorem arb:SK prog w I n .nil:=by
 intro l ae A P0 P S W O s loc Q E b V a J h;induction l using cK with
 |nil=>exact Hk (bY.next h V J (.refl _) (.refl _))
 |cons _ _=>contradiction
theorem ard (i:SS prog w I n a) (hb:SK prog w I n b):SK prog w I n (.seq a b):=by
 intro l ae A P0 P S W O s loc Q E c V d J h;induction l using cK with
 |nil=>contradiction
 |cons st r=>
  replace c:=dP.mp c;refine zM (i c.1 V d J ?_);refine bY.seq h (λloc O P' W' s' _ le f e k g=>?_) (λx s' m j=>?_)
  . exact hb c.2 f d e g
  . induction x using Flow.casesOn<;>first | exact absurd rfl m | exact j
theorem arH:SS prog w I n .BG:=by
 intro st ae A P0 P S W O s loc Q E a V b J h;refine V1.el al3 a λ_ a=>?_
 . exact wpAny_Pass (bY.next h V J (.refl _) (.refl _))
theorem arB:SS prog w I n .cont:=by
 intro st ae A P0 P S W O s loc Q E a V b J h;refine V1.el al1 a λ_ a=>?_
 . exact PySem.wpAny_Continue (h P W s (.refl _) V J (.refl _))
theorem arJ (f:SE prog w I n e):SS prog w I n (.ret e):=by
 intro st ae A P0 P S W O s loc Q E a V d J h;refine V2.el Li a λo _ a=>yr a λv a=>?_
 . dsimp only [aH] at h;refine OM (f a (.refl _) V.lr d V.af J (bY.dp V h λv j W1 x i _ le b g k V1 c=>?_));exact c P W1 x i loc (.refl _) V1 b g (.refl _)
theorem arG {c:CE} (m:ST prog w I n c) (l:SK prog w I n a) (hb:SK prog w I n b):SS prog w I n (.ite c a b):=by
 intro st ae A P0 P S W O s loc Q E e V d J h;refine V4.el al2 e λt x y _ e=>?_
 . refine kQ e λi j k=>PySem.wpAny_If (m i (.refl _) V.lr d V.af J (bY.dp V h λt p W1 x r _ le f o q V1 g=>?_));subst o;induction t using dy with
   |true=>refine aa (if_pos rfl) ?_;exact l j V1 d f g
   |false=>refine aa (if_neg uZ) ?_;exact hb k V1 d f g
theorem zk {v:cg} {t:Option cg} {l:Nat} (h:yV v=true):OL v t l ae=pure false:=by induction v using u9<;>first | rfl | (contradiction;done)
theorem arv {x:Nat} (K:cL I) (m:SE prog w I n e):SS prog w I n (.aK x e):=by
 intro st ae A P0 P S W O s loc Q E a V l J h;refine V3.el yE a λC v _ a=>gU a λt a=>V2.el iG a λid _ a=>?_
 . refine qE a λf g i j=>bB (jj f) λo p=>?_;subst p;refine wpAny_Assign_Name (m j (.refl _) V.lr l V.af J (bY.dp V h λv r W1 u B _ le c q z V1 k=>?_)) (zk i);exact wU K V1 c o g q λP' y t d b=>k P' W1 _ (.refl _) d b ⟨rfl,rfl⟩
theorem UX (h:ae.scope.kind=.function):interactive ae=false:=by unfold interactive;refine aa h ?_;rfl
theorem arC (f:SE prog w I n e):SS prog w I n (.eO e):=by
 intro st ae A P0 P S W O s loc Q E a V d J h;refine V2.el VJ a λv _ a=>?_
 . simp only [qi] at a;refine acz (f a.2 (.refl _) V.lr d V.af J (bY.dp V h λv g W1 u k _ le b j i V1 c=>?_)) (UX V.lr.fn) (zk a.1);exact bY.next c V1 b (.refl _) (.refl _)
theorem arw {a:Nat} (K:cL I) (C:SE prog w I n o) (B:SE prog w I n e):SS prog w I n (.cP o a e):=by
 intro st ae A P0 P S W O s loc Q E b V d J h;refine V3.el yE b λZ v _ b=>gU b λt b=>V3.el wB b λU T _ b=>?_
 . refine o5 b λm p q r x=>bB (jj m) λD f=>qd f <| acr (B r (.refl _) V.lr d V.af J (bY.dp V h λv M W1 u X _ le i F R V1 z=>?_)) (zk q)
   refine C x (.refl _) V1.lr d V1.af i (bY.dp V1 z λy k W2 uy Y _ l j G N V2 c=>?_);generalize es:nE y a v k=H at c;induction H using aW with
   |none=>exact c.elim
   |some L=>exact aq3 K j G (F.mono l) (by simpa using p) D es λs' g k'=>c P W2 s' (.refl _) V2 g k'
theorem ary {i:CE} (G:SE prog w I n o) (hi:SE prog w I n i) (F:SE prog w I n e):SS prog w I n (.kR o i e):=by
 intro st ae A P0 P S W O s loc Q E a V c J h;refine V3.el yE a λts v _ a=>gU a λt a=>V3.el Eo a λZ j _ a=>?_
 . refine o5 a λX r x z B=>wpAny_Assign_Subscript (F x (.refl _) V.lr c V.af J (bY.dp V h λv T W1 u s1 _ le g H Y V1 C=>?_)) (zk r);refine G z (.refl _) V1.lr c V1.af g (bY.dp V1 C λy N W2 uy s2 _ q l K U V2 D=>?_);refine hi B (.refl _) V2.lr c V2.af l (bY.dp V2 D λk p W3 uk s3 _ d m L uB V3 b=>?_);generalize es:oG y k v p=M at b;induction M using aW with
   |none=>exact b.elim
   |some R=>exact aq4 m (K.mono d) L (H.mono (q.trans d)) es λs' f k'=>b P W3 s' (.refl _) V3 f k'
end
variable {au:aB} {ts:List cg}
section
variable {e:CE}
theorem an1:∀y,y<NN->(nm y==("__classdict__":Str))=false:=by
 have:∀y:Nat,y<pZ.length->(nm y==("__classdict__":Str))=false:=by decide+kernel
 exact this
theorem arA {x:Nat} {op:oS} (K:cL I) (N:SE prog w I n e):SS prog w I n (.qH x op e):=by
 intro st ae A P0 P S W O s loc Q E d V L J h;refine V4.el al0 d λt dT v _ d=>V2.el iG d λid _ d=>?_
 . refine qE d λF G r H=>bB (jj F) λj B=>?_;subst B;refine aa (of_decide_eq_true r).symm ?_;have y:=of_decide_eq_true G;have f:nu ae.scope (nm x)=true:=by unfold nu;exact aa y rfl
   have T:rL ae.scope (nm x)=true:=by unfold rL;exact aa y rfl
   have m6:=an1 x j;dsimp only [aH] at h;generalize el:lk x loc=U at h;induction U using aW with
   |none=>exact h.elim
   |some a=>
    refine wpAny_AugAssign_Name (F0 V.lr J j T el m6 λu R=>?_);refine N H (.refl _) V.lr L V.af J (bY.dp V h λv C W1 Y g _ le p z X V1 b=>?_);have q:=R.mono le;replace b:bY prog w I P0 S ae A W1 g (H5 x op loc C a v) Q E:=b;clear r;induction op using abT with
    |Add=>refine CY (M:=λo=>bY prog w I P0 S ae A W1 g o Q E->_) (λi e1=>CY (M:=λo=>bY prog w I P0 S ae A W1 g o Q E->_) (λk e2 b=>?_) (λh=>by exact iu h)) (λh=>by exact iu h) b;subst e1 e2;refine a8 q.jW λ_ c=>?_;refine aa c ?_;refine a8 z.jW λ_ c=>?_;refine aa c ?_;refine iadd_int <| wU K V1 p j f (.int _ _) λP' D t m l=>b P' W1 _ (.refl _) m l ⟨rfl,rfl⟩
    |Sub=>refine CY (M:=λo=>bY prog w I P0 S ae A W1 g o Q E->_) (λi e1=>CY (M:=λo=>bY prog w I P0 S ae A W1 g o Q E->_) (λk e2 b=>?_) (λh=>by exact iu h)) (λh=>by exact iu h) b;subst e1 e2;refine a8 q.jW λ_ c=>?_;refine aa c ?_;refine a8 z.jW λ_ c=>?_;refine aa c ?_;refine isub_int <| wU K V1 p j f (.int _ _) λP' D t m l=>b P' W1 _ (.refl _) m l ⟨rfl,rfl⟩
    |_=>exact b.elim
theorem anG {ae:Env}:∀{xs:List Nat} {ts:List cg},yR sc xs ts=true->(CH ts ae).length=xs.length/\(CH ts ae).findIdx? (·.1)=none/\
 ∃ps,ps.length=xs.length/\(CH ts ae).map (·.2)=(xs.zip ps).map λf=>zx (.Name (nm f.1) f.2) ae:=by
 intro xs;induction xs with
 |nil=>intro ts h;exact ji h λ_=>⟨rfl,rfl,[],rfl,rfl⟩
 |cons x xs j=>intro ts h;refine sV h λt r h=>V2.el iG h λid p h=>kQ h λg l i=>bB (jj g) λm k=>?_;subst k;obtain ⟨a,b,ps,c,d⟩:=j i;have e:CH (.Name (nm x) p::r) ae=(false,zx (.Name (nm x) p) ae)::CH r ae:=rfl;refine ⟨by refine aa e (aa jv (aa a ?_));rfl,by rw [e,List.findIdx?_cons];simp [b],p::ps,by simp [c],by refine aa e (aa gc (aa d ?_));rfl⟩
theorem anF:∀{xs:List Nat} {ts:List cg},yR sc xs ts=true->∀x∈xs,x<NN/\nu sc (nm x)=true:=by
 intro xs;induction xs with
 |nil=>intro ts h x a;cases a
 |cons x xs f=>
  intro ts h y e;refine sV h λt r h=>V2.el iG h λid p h=>kQ h λb c d=>bB (jj b) λa g=>?_;subst g;rcases cF.mp e with q | q
  . subst q;exact ⟨a,c⟩
  . exact f d y q
theorem asz (K:cL I):
 ∀{xs:List Nat} {ps:List Pos} {vs:List AV} {a:List ah} {P:Pin} {loc au:aB} {s:ax} {Q:Unit->ax->Prop},ps.length=xs.length->(∀x∈xs,x<NN/\nu ae.scope (nm x)=true)->
  Lv P0 S ae A P W loc->aF prog w I P W O s.heap->bz W vs a->zX xs vs loc=some au->
  (∀P' s',Lv P0 S ae A P' W au->aF prog w I P' W O s'.heap->dF s s'->Q () s')->aY M A (assignInOrder ((xs.zip ps).map λc=>zx (.Name (nm c.1) c.2) ae) a) Q E s:=by
 intro xs;induction xs with
 |nil=>
  intro ps vs a P loc au s Q hp b V J r e h;induction vs using cK with
  |nil=>cases r;obtain rfl:=eM e;exact bD (h P s V J (.refl s))
  |cons _ _=>exact cX e
 |cons x xs l=>
  intro ps vs a P loc au s Q hp b V J r e h;induction ps using cK with
  |nil=>contradiction
  |cons p ps=>
   induction vs using cK with
   |nil=>contradiction
   |cons v vs=>
    cases r with
    |cons j r=>replace e:zX xs vs (up x v loc)=some au:=e;have q:=b x cN;refine aO (nQ (Hh (wU K V J q.1 q.2 j λP' n t i d=>?_)));exact l (by simpa using hp) (λy k=>b y (cu _ k)) i d r e λg m V2 f k2=>h g m V2 f ⟨k2.gens,k2.os⟩
theorem adp {xs:List Nat}:∀{vs:List AV} {loc au:aB},zX xs vs loc=some au->vs.length=xs.length:=by
 induction xs with
 |nil=>
  intro vs loc au h;induction vs using cK with
  |nil=>rfl
  |cons _ _=>exact cX h
 |cons x xs a=>
  intro vs loc au h;induction vs using cK with
  |nil=>exact cX h
  |cons v vs=>exact congrArg (· +1) (a h)
theorem Z0 {xs:List Nat} {k BY} {u:ah} {Q:Unit->ax->Prop} (K:cL I)
 (b:yR ae.scope xs ts=true) (f:A.handled=none) (V:Lv P0 S ae A P W loc) (J:aF prog w I P W O s.heap) (i:VR W v u) (e:jN xs v loc=some au)
 (h:∀P' s',Lv P0 S ae A P' W au->aF prog w I P' W O s'.heap->dF s s'->Q () s'):aY (aZ prog w) A (zx (.Tuple ts k BY) ae u) Q E s:=by
 unfold jN at e;induction v using AV.casesOn with
 |aw vs=>refine i.wZ J λa x m g r z=>?_;obtain ⟨l,n,ps,o,p⟩:=anG b;have q:=adp e;refine wpAny_assign_Tuple f (rn g) (aa l (aa j9 (aa r.length (aa q rfl)))) n λt j=>aa p <| asz K o (anF b) V (J.but (J.fresh (bT _)) j) r e λP' s' d c k'=>h P' s' d c ⟨k'.gens,k'.os⟩
 |_=>contradiction
theorem asE {k BY} {v:cg} (h:Zh v=true):swappedStores [.Tuple ts k BY] v ae=pure none:=by
 induction v using u9 with
 |Tuple vs _ _=>
  replace h:vs.all (foldedForSure 8)=true:=h;unfold swappedStores;dsimp only;split
  . rfl
  . split
    . rfl
    . split
      . rfl
      . first | rfl | rw [if_pos h]
 |_=>rfl
theorem arz {xs:List Nat} (K:cL I) (o:SE prog w I n e):SS prog w I n (.fC xs e):=by
 intro st ae A P0 P S W O s loc Q E a V c J h;refine V3.el yE a λts v _ a=>gU a λt a=>V3.el Ep a λl _ _ a=>?_
 . refine qE a λi j k m=>Assign_Tuple (o m (.refl _) V.lr c V.af J (bY.dp V h λv r W1 u y _ le f p x V1 b=>?_)) (by unfold swapsWithSole;exact zk j) (asE k);generalize ea:jN xs v loc=q at b;induction q using aW with
   |none=>exact b.elim
   |some au=>exact Z0 K i c.q6 V1 f p ea λP' s' g d k'=>b P' W1 s' (.refl _) g d k'
end
variable {Le:CE} {np:Pos} {target Lf:cg} {asn:AV->aB->Option aB}
section
variable {a:CS}
section
variable {Q:lK->ax->Prop}
theorem aog (V:Lv P0 S ae A P W loc) (J:aF prog w I P W O s.heap) (hp:W.μ[r]?=some p) (x:XS P W p.1 s.heap)
 (h:∀a,aF prog w I P W O a->XS P W p.1 a->E (.ref p.1) {s with heap:=a}):notedBy (aZ prog w) A ae (G2 (aZ prog w) A ae E) (.ref p.1) s:=by
 refine a8 V.tp λyZ d=>?_;unfold notedBy;refine Md V.af d V.fm J hp x λa c x'=>ady c hp x' λe f b=>h e f b.xs
theorem atm (t) (b) (n) (loc) (O):j3 t b (n+1) loc O=(match t loc O with
 |.ok false O=>.next loc O
 |.ok true O=>match b loc O with
  |.next loc O=>j3 t b n loc O
  |.cont loc O=>j3 t b n loc O
  |.ret v O=>.ret v O
  |_=>.aq
 |_=>.aq):=rfl
theorem arL (L:ST prog w I n c) (K:SK prog w I n a):SS prog w I n (.uU c a):=by
 intro st ae A P0 P S W O s loc Q E m V B J h;refine V4.el al6 m λt b o pos m=>ji m λm=>?_
 . refine vC m λG H=>wpAny_While <| codeAny_whileLoop (λk p=>∃loc P W1 O,W.le W1/\dF s p/\Lv P0 S ae A P W1 loc/\aF prog w I P W1 O p.heap/\bY prog w I P0 S ae A W1 p (j3 (fT GG (aj GG ai n) c) (aH GG (aj GG ai n) a) k loc O) Q E)
    ?_ WN ⟨loc,P,W,O,.refl _,.refl _,V,J,h⟩
   clear h J V O loc P;intro k p D;refine qh D λloc P W1 O g=>uV g λle C V J h=>?_;clear D g;induction k using xc with
   |zero=>exact h.elim
   |succ k=>
    rw [atm] at h;refine L G (.refl _) V.lr B V.af J ?_;generalize u:fT GG (aj GG ai n) c loc O=g;induction g using aJ.casesOn with
    |aq=>rw [u] at h;exact h.elim
    |dm r O'=>rw [u] at h;exact h.elim
    |ok t F=>
     rw [u] at h;intro W2 x R d z M f;subst M;induction t using dy with
     |false=>exact Hk (h P W2 R d (V.mono d) z f)
     |true=>
      refine aa (if_pos rfl) ?_;dsimp only at h;refine K H (V.mono d) B z ?_;generalize l:aH GG (aj GG ai n) a loc F=g;induction g using RS.casesOn with
      |aq=>rw [l] at h;exact h.elim
      |dm r O'=>rw [l] at h;exact h.elim
      |ret v O'=>rw [l] at h;exact λj W3 x y l3 e V3 i N k3=>h j W3 x y l3 (d.trans e) V3 i N (f.trans k3)
      |next q O'=>rw [l] at h;exact λj W3 y e V3 i k3=>⟨k,zr k,q,j,W3,O',(le.trans d).trans e,(C.trans f).trans k3,V3,i,bY.from h (d.trans e) (f.trans k3)⟩
      |cont q O'=>rw [l] at h;exact λj W3 y e V3 i k3=>⟨k,zr k,q,j,W3,O',(le.trans d).trans e,(C.trans f).trans k3,V3,i,bY.from h (d.trans e) (f.trans k3)⟩
noncomputable def Pin.unp (P:Pin) (a:aC):Pin:=⟨λb=>if b=a then none else P.ex b,P.fr⟩
theorem Lv.notS (V:Lv P0 S ae A P W loc) (a:fk P W it):¬S it:=λq=>(V.ext.so it q).elim (λz=>z a.2.1) (λz=>z a.2.2.1)
theorem Lv.pin (V:Lv P0 S ae A P W loc) (a:fk P W it):Lv (P0.pin it o) S ae A (P.pin it o) W loc:=by
 have l:=V.notS a;have ne:∀c,P.ex c≠none->c≠it:=λc f q=>f (q▸a.2.1);refine ⟨⟨λb hb=>?_,λb hb=>V.ext.fr b hb,λb hb=>?_,λb hb=>?_⟩,?_,?_,V.sl,?_,λid c f=>?_,V.inj,V.fm,V.tp⟩
 . show (if b=it then some o else P.ex b)=(if b=it then some o else P0.ex b);by_cases q:b=it
   . rw [if_pos q,if_pos q]
   . refine (if_neg q).trans (aa (if_neg q) ?_);exact V.ext.ex b hb
 . refine ⟨?_,(V.ext.no b hb).2⟩;refine (if_neg λq:b=it=>l (q▸hb)).trans ?_;exact (V.ext.no b hb).1
 . rcases V.ext.so b hb with z | z
   . left;show (if b=it then some o else P.ex b)≠none;refine aa (if_neg (ne b z)) ?_;exact z
   . exact .inr z
 . refine ⟨V.lr.fn,V.lr.gl,V.lr.bl,V.lr.lo,λx v j e k=>?_,V.lr.cl⟩;refine fv (V.lr.ce x v j e k) λc u ob m h p r=>d9 c u ob ⟨m,?_,p,r⟩;refine ((if_neg (ne c (by rw [h];exact oU _)))).trans ?_;exact h
 . refine V.af.at λL c d e x n=>⟨c,d,e,?_,n⟩;show (if L=it then some o else P.ex L)=none;rw [if_neg λq:L=it=>by rw [q,a.2.2.1] at e;contradiction];exact x
 . show (if ae.locals=it then some o else P.ex ae.locals)=none;refine Cj V.lr.lo λc es ep q _=>?_;rw [if_neg λz:ae.locals=it=>by rw [z,a.2.2.1] at q;contradiction];exact V.xl
 . obtain ⟨a1,a2,ob,v,g,i⟩:=V.ce id c f;refine ⟨a1,a2,ob,v,?_,i⟩;show (if c=it then some o else P.ex c)=some ob;rw [if_neg (ne c (by rw [g];exact oU _))];exact g
theorem Lv.unp (V:Lv (P0.pin it o) S ae A P W loc) (m:P0.ex it=none) (p:P0.fr it=none) (a:¬S it):Lv P0 S ae A (P.unp it) W loc:=by
 have z:P.ex it=some o:=by refine (V.ext.ex it a).trans ?_;exact Pin.pin_at
 have s:P.fr it=none:=by refine (V.ext.fr it a).trans ?_;exact p
 have h:∀id c,ae.cells.lookup id=some c->c≠it:=λid c g q=>a (q▸(V.ce id c g).1);have f:∀b,b≠it->(P.unp it).ex b=P.ex b:=λb hb=>if_neg hb;refine ⟨⟨λb hb=>?_,λb hb=>V.ext.fr b hb,λb hb=>?_,λb hb=>?_⟩,?_,?_,V.sl,?_,λid c g=>?_,V.inj,V.fm,V.tp⟩
 . show (if b=it then none else P.ex b)=P0.ex b;by_cases q:b=it
   . exact aa (if_pos q) (aa q (aa m rfl))
   . refine bK (if_neg q) (bK (V.ext.ex b hb) ?_);exact (if_neg q)
 . refine ⟨?_,(V.ext.no b hb).2⟩;have:=(V.ext.no b hb).1;have this:(if b=it then some o else P0.ex b)=none:=this;rw [if_neg λq:b=it=>a (q▸hb)] at this;exact this
 . refine aa (f b λq=>a (q▸hb)) ?_;exact V.ext.so b hb
 . refine ⟨V.lr.fn,V.lr.gl,V.lr.bl,V.lr.lo,λx v r e k=>?_,V.lr.cl⟩;refine fv (V.lr.ce x v r e k) λc u ob i t w y=>d9 c u ob ⟨i,(by refine (f c (h _ c i)).trans ?_;exact t),w,y⟩
 . refine V.af.at λL c d e x n=>⟨c,d,e,?_,n⟩;by_cases q:L=it
   . rw [q,s] at e;contradiction
   . refine (f L q).trans ?_;exact x
 . refine (f ae.locals λq=>a (q▸V.sl)).trans ?_;exact V.xl
 . obtain ⟨a1,a2,ob,v,j,l⟩:=V.ce id c g;exact ⟨a1,a2,ob,v,by refine (f c (h _ c g)).trans ?_;exact j,l⟩
theorem Pin.ext_unp (h:P.ex it=some o) (a:P.fr it=none):(P.unp it).jM P (· =it) where
 ex b n:=by show P.ex b=(if b=it then none else P.ex b);exact aa (if_neg n) rfl
 fr _ _:=rfl
 no b e:=by refine aa e ?_;exact ⟨if_pos rfl,a⟩
 so b e:=.inl (by refine aa e (aa h ?_);exact oU _)
theorem aF.unp (J:aF prog w I P W O h) (a:P.ex it=some o) (d:P.fr it=none):aF prog w I (P.unp it) W O h/\fk (P.unp it) W it/\h.get? it=some o:=by refine bB (J.unpin (Pin.ext_unp a d) λb x _ q=>q) λc e=>⟨c,e it rfl,J.pex it o a⟩
theorem XS.unp (x:XS P W e h):XS (P.unp it) W e h:=by refine fJ x λk vs a b c d=>dE k vs ⟨a,b,c,d.imp id ?_⟩;intro g;refine Nn g λt l ts y i f j=>?_;clear g;refine sS t l ts y ⟨i,⟨f.1,?_,f.2.2⟩,j⟩;show (if t=it then none else P.ex t)=none;refine bA f.2.1 ?_;exact ite_self _
theorem aid {b:List fw} (ha:SK prog w I n a) (h2:jw ae.scope a b=true) (hA:fy (3*n+1) A)
 (Kq:∀i o u W s,gx W y i o->s.heap.get? it=some o->∀Q E,Q () s->aY (aZ prog w) A (CO target (.ref it) u) Q E s)
 (Kb:∀{P0 P:Pin} {W:Wd} {O:AH} {loc D:aB} {v:AV} {u:ah} {s:ax} {Q:Unit->ax->Prop} {E:ah->ax->Prop},Lv P0 S ae A P W loc->aF prog w I P W O s.heap->VR W v u->asn v loc=some D->
   (∀P' s',Lv P0 S ae A P' W D->aF prog w I P' W O s'.heap->dF s s'->Q () s')->aY (aZ prog w) A (zx target ae u) Q E s)
 (k) (i) (o) (V:Lv P0 S ae A P W loc) (J:aF prog w I P W O s.heap) (g:fk P W it) (H:s.heap.get? it=some o) (G:gx W y i o)
 (h:bY prog w I P0 S ae A W s (d8 y asn (aH GG (aj GG ai n) a) k i loc O) Q E):
 nP (aZ prog w) A (.forLoop target (.ref it) b [] ae) (λr s'=>match r with | .ok f=>Q f s' | .error e=>G2 (aZ prog w) A ae E e s') s:=by
 have K:=V.notS g;have h0:P0.ex it=none:=by refine ((V.ext.ex it K).symm).trans ?_;exact g.2.1
 have AO:P0.fr it=none:=by refine ((V.ext.fr it K).symm).trans ?_;exact g.2.2.1
 refine codeAny_forLoop_any (λk m=>∃i o loc P W1 O,W.le W1/\dF s m/\Lv P0 S ae A P W1 loc/\aF prog w I P W1 O m.heap/\fk P W1 it/\m.heap.get? it=some o/\gx W1 y i o/\
  bY prog w I P0 S ae A W1 m (d8 y asn (aH GG (aj GG ai n) a) k i loc O) Q E) ?_ k ⟨i,o,loc,P,W,O,.refl _,.refl _,V,J,g,H,G,h⟩
 clear h G H g J V o i k;intro k m z8;refine Np z8 λi o loc P W1 O F=>Ni F λle R V J g H G h=>?_;clear z8 F;have hh:=hA.q6;induction k using xc with
 |zero=>exact h.elim
 |succ k=>
  refine ZU (M:=λo=>bY prog w I P0 S ae A W1 m o Q E) h (λh=>h.elim) (λX h=>?_) (λv X h=>?_)
  . refine VA hh J G H X λY Z=>Hk <| h P W1 {m with heap:=Y} (.refl _) V (J.but g λb z nb q=>Z b z nb q) ⟨rfl,rfl⟩
  . refine VC J G H X λY tk u l t g' Z hv=>?_;have J1:=J.but g λb z nb q=>Z b z nb q;have Jp:=J1.pin g g';have Vp:Lv (P0.pin it l) S ae A (P.pin it l) W1 loc:=V.pin g;refine Kq (i+1) l u W1 {m with heap:=Y,toks:=tk} t g' _ _ ?_;generalize ea:asn v loc=F at h;induction F using aW with
    |none=>exact h.elim
    |some bx=>
     refine Kb Vp Jp hv ea λP2 s2 V2 J2 k2=>?_;have h:bY prog w I P0 S ae A W1 s2 (EL (λloc O=>d8 y asn (aH GG (aj GG ai n) a) k (i+1) loc O) (aH GG (aj GG ai n) a bx O)) Q E:=bY.from h (.refl _) ⟨k2.gens,k2.os⟩;refine ha h2 V2 hA J2 ?_;have pinned:∀{c W3 T U} {s3:ax},Lv (P0.pin it l) S ae A c W3 U->aF prog w I c W3 T s3.heap->Lv P0 S ae A (c.unp it) W3 U/\aF prog w I (c.unp it) W3 T s3.heap/\fk (c.unp it) W3 it/\s3.heap.get? it=some l:=by
      intro c W3 T U s3 V3 j;have hx:c.ex it=some l:=by refine ((V3.ext.ex it K)).trans ?_;exact Pin.pin_at
      have hf:c.fr it=none:=by refine ((V3.ext.fr it K)).trans ?_;exact AO
      exact ⟨V3.unp h0 AO K,j.unp hx hf⟩
     generalize aH GG (aj GG ai n) a bx O=F at h⊢;induction F using RS.casesOn with
     |aq=>exact h.elim
     |dm r O'=>intro c W3 p s3 l3 d V3 j hp x3 k3;refine aog V3 j hp x3 λqW zQ Cg=>j5 (pinned (s3:={s3 with heap:=qW}) V3 zQ) λB C L N=>h (c.unp it) W3 p {s3 with heap:=qW} l3 d B C hp Cg.unp ⟨k3.gens,k3.os⟩
     |ret v O'=>intro c W3 x s3 l3 d V3 j r3 k3;refine j5 (pinned V3 j) λB C L N=>h (c.unp it) W3 x s3 l3 d B C r3 k3
     |next D O'=>intro c W3 s3 d V3 j k3;refine j5 (pinned V3 j) λB C L N=>⟨k,zr k,i+1,l,D,_,W3,O',le.trans d,⟨(k3.gens.trans k2.gens).trans R.gens,(k3.os.trans k2.os).trans R.os⟩,B,C,L,N,t.mono d,bY.from h d k3⟩
     |cont D O'=>intro c W3 s3 d V3 j k3;refine j5 (pinned V3 j) λB C L N=>⟨k,zr k,i+1,l,D,_,W3,O',le.trans d,⟨(k3.gens.trans k2.gens).trans R.gens,(k3.os.trans k2.os).trans R.os⟩,B,C,L,N,t.mono d,bY.from h d k3⟩
theorem RT {b:List fw} (hi:SE prog w I n Le) (x:cY ae.scope Le Lf=true) (q:p0 Lf=true) (B:SK prog w I n a) (z:jw ae.scope a b=true) (m:fy (3*n+1) A)
 (t:∀it i o u W y s,gx W y i o->s.heap.get? it=some o->∀Q E,Q () s->aY (aZ prog w) A (CO target (.ref it) u) Q E s)
 (r:∀{P0 P:Pin} {W:Wd} {O:AH} {loc g:aB} {v:AV} {u:ah} {s:ax} {Q:Unit->ax->Prop} {E:ah->ax->Prop},Lv P0 S ae A P W loc->aF prog w I P W O s.heap->VR W v u->asn v loc=some g->
   (∀P' s',Lv P0 S ae A P' W g->aF prog w I P' W O s'.heap->dF s s'->Q () s')->aY (aZ prog w) A (zx target ae u) Q E s)
 (V:Lv P0 S ae A P W loc) (J:aF prog w I P W O s.heap)
 (h:bY prog w I P0 S ae A W s ((bh GG (aj GG ai n) Le loc O).dp λy O=>d8 y asn (aH GG (aj GG ai n) a) (dG y O) 0 loc O) Q E):
 aY (aZ prog w) A (exec (.For target Lf b [] pos) ae) Q E s:=by
 refine wpAny_For (hi x (.refl _) V.lr m V.af J (bY.dp V h λy j W1 u p _ le d D G V1 e=>?_)) (RQ q);generalize k:sX y j=F;induction F using aW with
 |none=>
  have:dG y j=0:=by unfold dG;exact aa k rfl
  rw [this] at e;exact e.elim
 |some l=>
  refine VB d D k λo f=>?_;have C:(p.heap.push o).get? p.heap.objs.size=some o:=by
   refine nI _ ?_;cases f with
   |lst a b c=>exact tF c
   |aw a b c=>exact tF c
   |cj=>rfl
   |qG a b=>exact tF b
   |rM a b=>exact tF b
  exact aid B z m (λi o u W s=>t _ i o u W y s) r _ 0 o V1 (d.keep (kF _ _)) (d.fresh (bT _)) C f (bY.from e (.refl W1) ⟨rfl,rfl⟩)
theorem aiv {u:ah} {Q:Unit->ax->Prop} (h:Q () s):aY (aZ prog w) A (CO (.Name id np) (.ref it) u) Q E s:=bD h
theorem atr {d:Type} {c:Bool} {m a:Sem d} {Q:d->ax->Prop} (hb:b=false) (h:aY M A a Q E s):aY M A (if (b&&c)=true then m else a) Q E s:=by subst hb;exact h
theorem aiw {k BY} {u:ah} {Q:Unit->ax->Prop} (R:gx W y i o) (g:s.heap.get? it=some o) (h:Q () s):aY (aZ prog w) A (CO (.Tuple ts k BY) (.ref it) u) Q E s:=by
 unfold CO;induction u using xh<;>try exact bD h
 refine aO (OO g ?_);have no:∃nm vs,o.cls=.type nm/\o.data=.fields vs/\(["enumerate","zip","dict_itemiterator","dict_reverseitemiterator","odict_iterator","itertools.zip_longest","itertools.pairwise"].contains nm)=false:=by
  cases R with
  |lst _ b c=>exact ⟨_,_,b,c,ag⟩
  |aw _ b c=>exact ⟨_,_,b,c,ag⟩
  |cj=>exact ⟨_,_,rfl,rfl,ag⟩
  |qG b c=>exact ⟨_,_,b,c,ag⟩
  |rM b c=>exact ⟨_,_,b,c,ag⟩
 refine qg no λnm vs a d e=>aa a (aa d (atr e (bD h)))
theorem arE {x:Nat} {it:CE} (K:cL I) (hi:SE prog w I n it) (q:SK prog w I n a):SS prog w I n (.fV x it a):=by
 intro st ae A P0 P S W O s loc Q E c V p J h;refine V5.el VK c λt C b o _ c=>V2.el iG c λid _ c=>ji c λc=>?_
 . refine o5 c λi j k l m=>bB (jj i) λy d=>?_;subst d;refine RT hi l k q m p (λ_ _ _ _ _ _ _ _ _ Q E h=>aiv h) (λ{P0 P W O loc z v u s Q E} V J r e h=>?_) V J h;unfold gL at e
   (injection e with e;subst e)
   exact Hh (wU K V J y j r λP' B t g f=>h P' _ g f ⟨rfl,rfl⟩)
theorem arF {xs:List Nat} {it:CE} (K:cL I) (hi:SE prog w I n it) (l:SK prog w I n a):SS prog w I n (.lZ xs it a):=by
 intro st ae A P0 P S W O s loc Q E c V d J h;refine V5.el VK c λt q b o _ c=>V3.el Ep c λts _ _ c=>ji c λc=>?_
 . refine qE c λf i j k=>RT hi j i l k d (λ_ _ _ _ _ _ _ R g Q E h=>aiw R g h) (λ{P0 P W O loc p v u s Q E} V J m e h=>Z0 K f d.q6 V J m e h) V J h
end
end
section
variable {Q:lK->ax->Prop}
theorem asV {a b:Type} (m:aJ a) (f) (g:b->AH->RS):(m.bind f).dp g=m.dp λv O=>(f v O).dp g:=by induction m using aJ.casesOn<;>rfl
theorem arx {x:Nat} {it:CE} {y:Nat} (K:cL I) (rZ:SE prog w I n di) (zS:SE prog w I n it):SS prog w I n (.mN x di y it):=by
 intro st ae A P0 P S W O s loc Q E d V hA J h;refine V3.el yE d λts v H d=>gU d λt d=>V2.el iG d λid np d=>V4.el Vv d λR gens bX X d=>?_
 . refine o5 d λh1 h2 h3 h4 c=>bB (jj h1) λhx kV=>?_;subst kV;have M:=of_decide_eq_true h2;refine gU c λg c=>U9 c λt T ifs a c=>V2.el iG c λid' N c=>ji c λc=>bB (dP.mp c) λf m7=>?_;obtain rfl:=of_decide_eq_true f;have c:=m7
   . refine zW c λc1 c2 c3 c4 c5 c6=>bB (jj c1) λhy vS=>?_;subst vS;have hk:ae.kindOf (nm x)=some .local:=M;have Km:ae.blockKind=.function:=by unfold Env.blockKind;refine aa V.lr.fn ?_;rfl
     have F:OL (.ListComp R [⟨.Name (nm y) N,T,[],0⟩] bX X) (some (.Name (nm x) np)) H.line ae=pure true:=by unfold OL;dsimp only;refine aa Km (aa hk ?_);have l:(np.line==(Expr.ListComp R [⟨.Name (nm y) N,T,[],0⟩] bX X).pos.line)=true:=h3;refine aa l (aa h4 ?_);rfl
     dsimp only [aH] at h;dsimp only [bh] at h;rw [asV] at h;refine oM (exec_Assign_Name_used _ _ _ _ F) <| aO (vx (aO ?_))
     have nl:nu ae.scope (nm x)=true:=by unfold nu;exact aa M rfl
     have hC:vy (λW s m=>bY prog w I P0 S ae A W s (m.dp λv O=>.next (up x v loc) O) Q E):=⟨λh le k=>bY.from h le k,λh=>h⟩;refine aO (oY (Qu hC K rZ zS c5 c6 c4 c3 (.refl _) hy V.lr hA V.af J
      (λQi q=>bY.dp V h λy ay W1 u s1 _ uD Z r1 yH _ o=>q y ay W1 u s1 uD Z r1 yH o) ?_) (λ_ s' hq=>bD (bD hq)) λ_ _ e=>e)
     intro D C W' O' r s' m le ks Y o hD f hn;have j:=V.mono le;have i:=j.notS f;have h0:P0.ex C=none:=by refine ((j.ext.ex C i).symm).trans ?_;exact f.2.1
     have L:P0.fr C=none:=by refine ((j.ext.fr C i).symm).trans ?_;exact f.2.2.1
     refine oO hn λU es ep gC dC kC=>Hh (wU K (j.pin f) (Y.pin f gC) hx nl hD λP' h' t V2 J2=>?_);have G:P'.ex C=some U:=by refine (V2.ext.ex C i).trans ?_;exact Pin.pin_at
     have p:P'.fr C=none:=by refine (V2.ext.fr C i).trans ?_;exact L
     refine fH (J2.unp G p) λJ3 B g3=>⟨m,⟨U,es,ep,g3,dC,kC⟩,λqW hs=>?_⟩;exact o (P'.unp C) W' {s' with heap:=qW,toks:=t} (.refl _) (V2.unp h0 L i) (J3.but B λb z nb q=>hs.extBut b z nb q) ⟨rfl,rfl⟩
end
section
open Sem (wp)
theorem BR:Slot "reversed" "__next__" "reversed.__next__":=
 .of (owner:="reversed") (n:="__next__") (by refine (zL ..).trans (aa (zA ..) ?_);kernel_rfl) (by decide+kernel) (by decide+kernel) (by decide+kernel)
  (by first | exact .inl (by decide+kernel) | exact .inr (by decide+kernel)) (by refine (xk ..).trans ?_;kernel_rfl)
theorem QY:OB table "reversed.__next__"=some mA.«reversed.__next__»:=aco (by kernel_rfl)
theorem Mq:Manifest.owners.lookup (String.ofList ['d','e','s','r','e','v','e','r'].reverse)=some Manifest.sig_reversed:=by kernel_rfl
theorem PE (a):zw "reversed.__next__" ⟨[a],[]⟩:=by unfold zw;rw [OI (n:=['_','_','t','x','e','n','_','_']) (by kernel_rfl) Mq];kernel_rfl
theorem Y5:Slot "reversed" "__iter__" "reversed.__iter__":=
 .of (owner:="reversed") (n:="__iter__") (by refine (zL ..).trans (aa (zA ..) ?_);kernel_rfl) (by decide+kernel) (by decide+kernel) (by decide+kernel)
  (by first | exact .inl (by decide+kernel) | exact .inr (by decide+kernel)) (by refine (xk ..).trans ?_;kernel_rfl)
theorem ado (a):zw "reversed.__iter__" ⟨[a],[]⟩:=by unfold zw;rw [OI (n:=['_','_','r','e','t','i','_','_']) (by kernel_rfl) Mq];kernel_rfl
theorem agE:OB table "reversed.__iter__"=some mA.«dict_keyiterator.__iter__»:=
 entryFor_alias (id':="dict_keyiterator.__iter__") (by kernel_rfl) (by first | rfl | decide+kernel | (unfold String.splitOn;simp+decide [String.splitOnAux])) (by decide+kernel) (by kernel_rfl)
theorem MM:Slot "reversed" "__length_hint__" "reversed.__length_hint__":=
 .of (owner:="reversed") (n:="__length_hint__") (by refine (zL ..).trans (aa (zA ..) ?_);kernel_rfl) (by decide+kernel) (by decide+kernel) (by decide+kernel)
  (by first | exact .inl (by decide+kernel) | exact .inr (by decide+kernel)) (by refine (xk ..).trans ?_;kernel_rfl)
theorem adn (a):zw "reversed.__length_hint__" ⟨[a],[]⟩:=by unfold zw;rw [OI (n:=['_','_','t','n','i','h','_','h','t','g','n','e','l','_','_']) (by kernel_rfl) Mq];kernel_rfl
theorem agD:OB table "reversed.__length_hint__"=some mA.«reversed.__length_hint__»:=aco (by kernel_rfl)
theorem aqc:vu (.type "reversed") "__len__"=pure none:=by refine (zL ..).trans (aa (zA ..) ?_);kernel_rfl
theorem arl:Slot "reversed" "__init__" "object.__init__":=
 .of (owner:="object") (n:="__init__") (by refine (zL ..).trans (aa (zA ..) ?_);kernel_rfl) (by decide+kernel) (by decide+kernel) (by decide+kernel)
  (by first | exact .inl (by decide+kernel) | exact .inr (by decide+kernel)) (by refine (xk ..).trans ?_;kernel_rfl)
theorem Ij:TypeCalled "reversed" "reversed.__new__" "object.__init__":=
 ⟨by decide+kernel,by decide+kernel,⟨_,_,PySem.F.mro_reversed⟩,PySem.F.made_reversed,by decide+kernel,by rw [xk];kernel_rfl,arl⟩
theorem aod:vu (.type "tuple") "__reversed__"=pure none:=by refine (zL ..).trans (aa (zA ..) ?_);kernel_rfl
end
variable {Q₁:ah->ax->Prop} {items:Array ah} {us:List ah} {res:ah}
section
open Sem (wp)
section
variable {i:Int} {S:aC}
noncomputable def kG (t:aC) (i:Int):Obj:={cls:=.type "reversed",data:=.fields #[.ref t,qx i]}
theorem afC (c:s.heap.IsTuple t items) (l:items.size<=100000)
 (h:∀e,Q₁ (.ref s.heap.objs.size) {s with heap:=s.heap.push (kG t ((items.size:Int)-1)),toks:=e}):
 nP (aZ prog w) A (.call (.builtin "reversed.__new__") ⟨[.type "reversed",.ref t],[]⟩) (wants Q₁ E) s:=by
 refine acn <| aO (xq (PySem.F.newCall_reversed_1 _) (bD ⟨G9 ab0 _,Oz PySem.F.entry_reversed_new ?_⟩))
 refine aa (Nx ab0 _) ?_;have k:=c.typeIs;have f:=aod;have g:=ab5.lookup;have i:isSubtype (.type "tuple") (.type "dict")=pure false:=by refine (xk ..).trans ?_;kernel_rfl
 have j:=newClass_reversed (.ref t);have d:∀(Q:ah->ax->Prop) (E:ah->ax->Prop),(∀a b,Q (.int items.size a) {s with toks:=b})->aY (aZ prog w) A.in1 (call (.builtin "len") [.ref t]) Q E s:=λQ E h=>Ou c (by lia) (h _ _)
 wp_walk using d
 intro a b
 wp_walk
 exact h b
theorem afr (d:s.heap.IsTuple t items) (e:items.size<=100000)
 (h:∀a,Q (.ref s.heap.objs.size) {s with heap:=s.heap.push (kG t ((items.size:Int)-1)),toks:=a}):aY (aZ prog w) A (call (.type "reversed") [.ref t]) Q E s:=by
 refine callType_codes (Q₁:=λobj b=>obj=.ref s.heap.objs.size/\∃a,b={s with heap:=s.heap.push (kG t ((items.size:Int)-1)),toks:=a}) Ij (PySem.F.typeCall_reversed_1 _) PySem.F.entry_object_init
  (afC d e λa=>⟨rfl,a,rfl⟩) λobj b f=>?_
 obtain ⟨rfl,a,rfl⟩:=f;have c:({s with heap:=s.heap.push (kG t ((items.size:Int)-1)),toks:=a}:ax).TypeIs (.ref s.heap.objs.size) "reversed":=⟨_,nI _ rfl,rfl⟩;exact ⟨c,PySem.F.args_object_init_2 _ _,object_init_meets Ij.init.lookup Ij.made ag prog w A.in1 _ _ ⟨c,rfl,h a⟩⟩
theorem My (g:h.get? it=some (kG t i)):(h.update it (Ol (·.setIfInBounds 1 (qx j)))).get? it=some (kG t j):=
 tr _ g rfl
theorem ap9 {x:ah} {Q:Option ah->ax->Prop} (g:s.heap.get? it=some (kG t k)) (h:s.heap.IsTuple t items) (m:items.size<=100000) (i:items[k]?=some x)
 (d:∀a l,a.get? it=some (kG t ((k:Int)-1))->(∀b o,b≠it->s.heap.get? b=some o->a.get? b=some o)->Q (some x) {s with heap:=a,toks:=l}):aY (aZ prog w) A (zI (.ref it)) Q E s:=by
 have f:s.TypeIs (.ref it) "reversed":=⟨_,g,rfl⟩;have c:=h.typeIs;have j:=(Gq.mp i).1;unfold zI;refine aO (Hi (Hj f BR
  (xo BR f QY ?_ (PE _))))
 unfold mA.«reversed.__next__»;refine aO (xq rfl ?_);refine aO (lM g rfl rfl ?_);refine aO (lM g rfl rfl ?_);refine oM (if_neg (ao 8450608)) <| aO (OT c ab5.lookup ?_)
 refine aO (wpAny_mkInt ?_);refine aO (Hi (abV h (by lia) (by lia) (MF (ao 7354416) (ak 0x8e03e8c400111 j)) i ?_));refine aO (lM g rfl rfl ?_);refine aO (zP g rfl (bT _) ?_)
 first
 |refine bD ⟨x,rfl,bD (d _ _ (My g) λb o nb e=>?_)⟩
 |refine aO (bD (bD ⟨x,rfl,bD (d _ _ (My g) λb o nb e=>?_)⟩))
 rw [js _ _ (bC nb)];exact e
theorem ap6 {Q:Option ah->ax->Prop} (f:A.handled=none) (g:s.heap.get? it=some (kG t (-1)))
 (d:∀a,(∀b o,b≠it->s.heap.get? b=some o->a.get? b=some o)->Q none {s with heap:=a}):aY (aZ prog w) A (zI (.ref it)) Q E s:=by
 have c:s.TypeIs (.ref it) "reversed":=⟨_,g,rfl⟩;unfold zI;refine aO (Hi (Hj c BR
  (xo BR c QY ?_ (PE _))))
 unfold mA.«reversed.__next__»;refine aO (xq rfl ?_);refine aO (lM g rfl rfl ?_);refine aO (lM g rfl rfl ?_);refine oM (if_pos ag) <| aO (OQ ?_)
 have g1:(s.heap.update it (Ol (·.setIfInBounds 1 (qx (-1))))).get? it=some (kG t (-1)):=My g
 wp_walk using (zP g rfl (by simp)),(zP g1 rfl (by simp))
 delta raiseNew;refine aO (wpAny_handled ?_);refine aa (show A.in1.handled=none from f) <| aO (bD (wpAny_throw ?_))
 refine aO (acB ⟨_,nI _ rfl,rfl⟩ isSubtype_stop ?_);refine bD (d _ λb o nb e=>?_);refine nH _ (nH _ ?_);rw [js _ _ (bC nb),js _ _ (bC nb)];exact e
theorem ap8 {Q:Bool->ax->Prop} (g:s.heap.get? it=some (kG t ((k:Int)-1))) (n:s.heap.IsTuple t items) (o:items.size<=100000) (i:k=items.size)
 (l:∀b q,Q b {s with toks:=q}):aY (aZ prog w) A (aaA (.ref it)) Q E s:=by
 have d:s.TypeIs (.ref it) "reversed":=⟨_,g,rfl⟩;unfold aaA;refine aO (OT d aqc ?_);refine zN (λc=>absurd c ag) (λ_=>?_);refine zN (λc=>absurd c ag) (λ_=>?_);refine aO (OT d MM.lookup ?_);generalize f:("reversed.__length_hint__":String)=e;wp_delta;refine aa (show splitId e=some ("reversed","__length_hint__") from by subst f;decide+kernel) ?_;subst f;refine aO (acB (b:=true) d (by rw [xk];kernel_rfl) ?_);refine zN (λc=>absurd c ag) (λ_=>?_);refine zN (λc=>absurd c (by decide+kernel)) (λ_=>?_);refine aO (OQ ?_);refine aO (xq (MM.bind _) ?_);have j:∀(A:dh) (Q:ah->ax->Prop) (E:ah->ax->Prop),(∀a b,Q (.int items.size a) {s with toks:=b})->aY (aZ prog w) A (call (.builtin "len") [.ref t]) Q E s:=λA Q E h=>Ou n (by lia) (h _ _);refine aO (Hi (xo MM d agD ?_ (adn _)));unfold mA.«reversed.__length_hint__»;refine aO (xq rfl ?_);refine aO (lM g rfl rfl ?_);refine zN (λc=>absurd c (λh=>nomatch h)) (λ_=>?_);refine aO (j _ _ _ λa b=>?_);refine aO (bD ?_);refine aO (lM g rfl rfl ?_);show aY _ _ (if (items.size:Int)<(k:Int)-1+1 then _ else _) _ _ _;rw [if_neg (by exact ak 0x91203d423c8c400211 i)];refine aO (wpAny_mkInt (bD ⟨_,rfl,?_⟩));refine aO (bD ?_);have e1:((k:Int)-1+1)=k:=dz (ao 62195962304560) (ao 638270610405424);rw [e1];have m:Gr (k:Int)=true:=by unfold Gr;rw [decide_eq_true (by lia),decide_eq_true (by lia)];rfl
 have p:Gs (k:Int).toNat=false:=by unfold Gs;exact decide_eq_false (by rw [mG];exact aU 0x1010000007f22301c87a1186a05f22004400213 i o (f9 (ao 7354416)))
 dsimp only;rw [if_neg (show ¬(!Gr (k:Int))=true from by rw [m];decide),if_neg (show ¬(k:Int)<0 from by exact ao 8450608),if_neg (show ¬Gs (k:Int).toNat=true from by rw [p];decide)];exact bD (l _ _)
theorem aqa (g:s.heap.get? it=some (kG t i)) (h:Q (.ref it) s):aY (aZ prog w) A (Ha (.ref it)) Q E s:=by have a:s.TypeIs (.ref it) "reversed":=⟨_,g,rfl⟩;refine wpAny_pyIter_slot a Y5 (xo Y5 a agE ?_ (ado _));exact bD ⟨_,rfl,"reversed",_,a,BR.lookup,h⟩
theorem aqb (E:A.handled=none) (u:S≠it) (H:t≠it) (I:t≠S) (F:us.length<=100000):
 ∀(k:Nat) vs c s,s.heap.get? it=some (kG t ((k:Int)-1))->s.heap.IsTuple t us.toArray->k<=us.length->vs.length+k<=100000->
  s.heap.get? S=some {cls:=.type "list",data:=.seq vs.toArray c}->
  (∀a B f,(∀b o,b≠it->b≠S->s.heap.get? b=some o->a.get? b=some o)->a.get? S=some {cls:=.type "list",data:=.seq (vs++(us.take k).reverse).toArray f}->R (.ok (.ret res)) {s with heap:=a,toks:=B})->
  nP (aZ prog w) A (.builtin "list.extend.loop" ⟨[.ref S,.ref it,res],[]⟩) R s:=by
 intro k;induction k with
 |zero=>
  intro vs c s g ht m h hS l;refine Oz abZ <| aa (Nx CG _) <| aO (ap6 E g λa d=>?_)
  refine bD (l a s.toks c (λb o n _ e=>d b o n e) ?_);have:=d S _ u hS;simpa using this
 |succ k G=>
  intro vs c s g ht m h hS l;refine Oz abZ <| aa (Nx CG _) ?_
  have e1:(((k+1:Nat):Int)-1)=(k:Int):=dz (ao 62195959838768) (ao 638268085434416);rw [e1] at g;refine aO (ap9 g ht (by simpa using F) (x:=us[k]) (by simp) λa B D d=>?_);have v:=d S _ u hS;have p:=ht.at λo e=>d t o H e;refine a8 (EP (·.push us[k]) vs.toArray c) λf y=>?_;have q:(a.update S (tG (·.push us[k]))).get? S=some {cls:=.type "list",data:=.seq (vs++[us[k]]).toArray f}:=by rw [tr (tG (·.push us[k])) v (by refine bA y ?_;rfl),y];simp
  refine aO (OW v rfl (bD ⟨G9 CG _,G (vs++[us[k]]) f _ ?_ ?_ (ak 0x80083102402011 m) (by simp;exact ak 0x30d40be440900920c61a817c8910802011 h) q λJ C j r i=>?_⟩)
   (by simp;refine aa mG ?_;exact ak 0x2000000fe4020c61a817c8910802011 h) (by refine aa mG ?_;simp;exact ak 0x2000000fe4020c61a817c8910802011 h))
  . show (a.update S _).get? it=_;rw [js _ _ u];exact D
  . exact p.at λo e=>(js _ _ (bC I)).trans e
  . refine l J C j (λb o nb z e=>r b o nb z ?_) ?_
    . show (a.update S _).get? b=_;rw [js _ _ (bC z)];exact d b o nb e
    . refine i.trans ?_;congr 3;refine bA (ju ..) ?_;congr 1;refine aa (List.take_succ_eq_append_getElem (ak 0x800a3102402011 m)) (aa List.reverse_append ?_);rfl
theorem ap7 {vs:List ah} {c:Nat} (C:A.handled=none) (p:S≠it) (G:t≠it) (y:t≠S) (d:vs.length+us.length<=100000)
 (g:s.heap.get? it=some (kG t ((us.length:Int)-1))) (ht:s.heap.IsTuple t us.toArray) (hS:s.heap.get? S=some {cls:=.type "list",data:=.seq vs.toArray c})
 (h:∀i k l,(∀b o,b≠it->b≠S->s.heap.get? b=some o->i.get? b=some o)->i.get? S=some {cls:=.type "list",data:=.seq (vs++us.reverse).toArray l}->Q .none {s with heap:=i,toks:=k}):
 aY (aZ prog w) A (call (.builtin "list.extend") [.ref S,.ref it]) Q E s:=by
 have B:s.TypeIs (.ref it) "reversed":=⟨_,g,rfl⟩;have u:∀(a:ax) (f:Nat),(∀b o,b≠S->s.heap.get? b=some o->a.heap.get? b=some o)->a.heap.get? S=some {cls:=.type "list",data:=.seq vs.toArray f}->dF s a->a.drawn=s.drawn->
  nP (aZ prog w) A (.builtin "list.extend.loop" ⟨[.ref S,.ref it,.none],[]⟩) (λr s'=>match r with | .ok (.ret v)=>Q v s' | .ok _=>False | .error e=>E e s') a:=by
  intro a f k1 m F kd;refine aqb C p G y (ak 0xc3502f91083186a05f22002011 d) us.length vs f a (k1 it _ (bC p) g) (ht.at λo e=>k1 t o y e) (bT _) d m λi k l D q=>?_;rw [Cw] at q;have:=h i k l (λb o nb j e=>D b o nb j (k1 b o j e)) q;obtain ⟨hp,g1,I,J,H⟩:=a;obtain ⟨e1,e2⟩:=F;subst e1 e2 kd;exact this
 have n:aaB (.ref S) (.ref it)=false:=by simp [aaB,p]
 refine xn (OA Ow.plain PySem.F.entry_list_extend (Ow.check _ _ _ _ _ _ _ _ (show s.TypeIs (.ref S) "list" from ⟨_,hS,rfl⟩) (PySem.F.args_list_extend_2 _ _) ?_));unfold mA.«list.extend»;refine aO (xq rfl ?_);unfold Builtin.List.listExtendWith;refine aO (OU B ?_);refine oM (if_neg (by rw [n];decide)) ?_;refine aO (aqa g ?_);refine aO (nQ (ap8 g ht (by simp;exact ak 0xc3502f91083186a05f22002011 d) (by rfl) λb k=>?_));refine zN (λ_=>?_) (λ_=>bD ⟨G9 CG _,u _ c (λb o _ e=>e) hS ⟨rfl,rfl⟩ rfl⟩);refine aO (OQ ?_);refine aO <| aO (OW hS rfl ?_ (by simp;refine aa mG ?_;exact ak 0x8000003f90083186a05f22002011 d) (by refine aa mG ?_;simp;exact ak 0x8000003f90083186a05f22002011 d))
 refine a8 (EP (·.push vm) vs.toArray c) λf e1=>?_;have x:(s.heap.update S (tG (·.push vm))).get? S=some {cls:=.type "list",data:=.seq (vs.toArray.push .none) f}:=by rw [tr (tG (·.push vm)) hS (by refine bA e1 ?_;rfl),e1]
 refine a8 (EP (·.pop) (vs.toArray.push .none) f) λz e2=>OW x rfl ?_ (by simp;refine aa mG ?_;exact ak 0x2000000fe4480483186a05f22002011 d) (by refine aa mG ?_;simp;exact ak 0x800000bf90083186a05f22002011 d);refine bD ⟨G9 CG _,u _ z (λb o j e=>?_) ?_ ⟨rfl,rfl⟩ rfl⟩
 . show ((s.heap.update S _).update S _).get? b=_;rw [js _ _ (bC j),js _ _ (bC j)];exact e
 . show ((s.heap.update S _).update S _).get? S=_;rw [tr (tG (·.pop)) x (by refine bA e2 ?_;rfl),e2];simp
end
end
variable {l':List AV}
section
variable {Q:lK->ax->Prop}
theorem agM {u v:ah} {Q:ah->ax->Prop} (H:A.handled=none) (J:aF prog w I P W O s.heap) (K:VR W (.ref r) u) (e:O[r]?=some (.lst l)) (L:VR W (.aw l') v) (k:l.length+l'.length<=SZ)
 (h:∀s',aF prog w I P W (O.set r (.lst (l++l'.reverse))) s'.heap->dF s s'->Q .none s'):
 aY (aZ prog w) A (call (.type "reversed") [v]) (λx T=>aY (aZ prog w) A (call (.builtin "list.extend") [u,x]) Q E T) E s:=by
 refine ti (K.lst J e) λa vs n C hp g p z=>?_;refine aa C ?_;refine L.wZ J λt f m c y Y=>?_;have B:f.toArray.size=f.length:=by rfl
 have d:=k;have G:=p.length;have j:=y.length;refine afr (rn c) (cz 0xc3502f9308300608461a817c8820804400213 j d B) λX=>?_;have F:=kF s.heap (kG t ((f.toArray.size:Int)-1)) _ _ g;have i:=kF s.heap (kG t ((f.toArray.size:Int)-1)) _ _ c;have N:=oQ (jK g);have R:=oQ (jK c);have S:t≠a:=λq=>by subst q;rw [g] at c;simp at c
 refine ap7 H N R S (cz 0x30d40be4010483186a05f220c201304084400213 j G d) (by refine aa B.symm ?_;exact nI _ rfl) (rn i) F λV U D M hS=>?_;refine h _ ?_ ⟨rfl,rfl⟩;have keep:=λb o nb e=>M b o (oQ (jK e)) nb (kF _ _ _ _ e);exact J.upd hp (λb o nb e=>keep b o nb e) ⟨rfl,_,D,hS,p.append y.reverse,by refine aa eC (aa abm ?_);exact k⟩
theorem arD {o e:CE} (K:cL I) (ho:SE prog w I n o) (he:SE prog w I n e):SS prog w I n (.ext o e):=by
 intro st ae A P0 P S W O s loc Q E d V B J h;refine V2.el VJ d λv pos d=>V4.el sW d λg l ks p d=>V3.el wB d λo' nme ap d=>ji d λd=>gU d λc d=>V4.el sW d λg2 H gM p1 d=>V2.el iG d λid np d=>ji d λd=>gU d λe' d=>?_
 . refine PB d λU X Y Z c5 F c7 c8=>?_;have q1:=eq_of_beq U;have q2:=eq_of_beq X;subst q1 q2;refine acz ?_ (UX V.lr.fn) rfl;refine Xl Z (by show 1<20;decide) c5 rfl (ho c7 (.refl _) V.lr B V.af J (bY.dp V h λv j W1 u s1 _ le i L ks V1 t=>λpl=>?_));generalize G:A8 j v=z9 at t;induction z9 using dy with
   |false=>exact t.elim
   |true=>
    have D:∃r l,v=.ref r/\j[r]?=some (.lst l):=by
     induction v using AV.casesOn with
     |ref r=>exact xu (M:=λo=>o=true->∃r' l,AV.ref r=.ref r'/\j[r']?=some (.lst l)) (λl q _=>dE r l ⟨rfl,q⟩) gF G
     |_=>exact gF G
    refine j6 D λr l sA el=>?_;clear D;subst sA;refine ti (L.lst i el) λa vs n' T hp g rr z=>?_;subst T;have hd:∀b,mF a=.ref b->∃o,s1.heap.get? b=some o/\o.dict=none:=λb k=>by (injection k with k;subst k);exact ⟨_,g,rfl⟩
    refine CM (nk g).typeIs GZ Ow PySem.F.type_list_extend hd <| C7 rfl <| CT (acx (vw (PT K V1.lr i Y K.Lu.1 K.Lu.2 (C7 ?_ ?_)) rfl)) rfl
    . refine aa (E6 F) ?_;rfl
    refine CT ?_ (E6 F);refine he c8 (.refl _) V1.lr B V1.af i (bY.dp V1 t λy O2 W2 uy s2 _ dK R r2 gM V2 f=>?_);refine Hl ⟨.type,?_⟩;induction y using AV.casesOn with
    |aw l'=>
     refine xu (M:=λo=>bY prog w I P0 S ae A W2 s2 o Q E->_) (λH m f=>?_) (λh=>by exact iu h) f;by_cases C:H.length+l'.length<=SZ
     . rw [if_pos C] at f;refine oY (agM (Q:=λ_ s'=>Q .next s') B.q6 R (L.mono dK) m r2 C λs' N k'=>bY.next f V2 N (.refl _) k') (λx s3 hx=>?_) λ_ _ e=>e;exact Hl ⟨.vF,hx⟩
     . rw [if_neg C] at f;exact f.elim
    |_=>exact f.elim
end
variable {D:List ah} {names:List Str}
section
variable {l:List Str} {n:Str}
structure Ho (p:Gp) (names:List Str):Prop where
 po:p.posonlyargs=[]
 ko:p.kwonlyargs=[]
 va:p.vararg=none
 kw:p.kwarg=none
 ar:p.args.map (·.arg)=names
theorem RJ {c d:Type} {f g:c->Option d}:∀{l:List c},(∀a∈l,f a=g a)->l.filterMap f=l.filterMap g
 |[],_=>rfl
 |a::l,h=>by exact aa GB (aa GB (aa (h a cN) (aa (RJ λb hb=>h b (cu _ hb)) rfl)))
theorem RK {f:Type}:∀{l:List Str} {xs:List f},l.Nodup->xs.length=l.length->(l.filterMap λn=>((l.zip xs).lookup n).map (n,·))=l.zip xs
 |[],[],_,_=>rfl
 |a::l,x::xs,nd,e=>by
  rw [jL] at nd;simp only [GB];have b:(((a::l).zip (x::xs)).lookup a).map (a,·)=some (a,x):=by simp [List.zip_cons_cons,qn]
  refine aa b ?_;dsimp only;simp only [List.zip_cons_cons];congr 1;have c:∀n∈l,(((a,x)::l.zip xs).lookup n).map (n,·)=((l.zip xs).lookup n).map (n,·):=λn d=>by
   simp only [qn];have:(n==a)=false:=by simp only [beq_eq_false_iff_ne];intro q;exact nd.1 (by refine aa q.symm ?_;exact d)
   exact aa this rfl
  refine ((RJ c)).trans ?_;exact RK nd.2 (by simpa using e)
theorem adM (f) (d:∀n v sl,f (n,v) sl=if (sl.lookup n).isNone then (pure (.yield (sl++[(n,v)])):Sem _) else pure (.yield sl)):
 ∀(r:List (Str×ah)) (sl:List (Str×ah)),(r.map (·.1)).Nodup->(∀n∈r.map (·.1),sl.lookup n=none)->forIn r sl f=(pure (sl++r):Sem _):=by
 intro l;induction l with
 |nil=>intro sl _ _;rw [abe,vc]
 |cons g r e=>
  obtain ⟨n,v⟩:=g;intro sl nd b;refine aa (NU ..) (aa (d ..) ?_);have c:=b n (by simp);refine aa (if_pos (by rw [c];rfl) ..) (aa (pure_bind ..) ?_);dsimp only;simp only [gc,jL] at nd;rw [e (sl++[(n,v)]) nd.2 λm a=>?_]
  . rw [ju];rfl
  . rw [abp,b m (by simp only [gc,cF];exact .inr a),Option.none_or,qn];have:(m==n)=false:=by
     rw [beq_eq_false_iff_ne];intro q;exact nd.1 (by rw [<-q];exact a)
    rw [this];rfl
theorem adO (f) (e:∀n v sl,f (n,v) sl=if (sl.lookup n).isNone then (pure (.yield (sl++[(n,v)])):Sem _) else pure (.yield sl)):
 ∀(d a:List (Str×ah)) (sl:List (Str×ah)),(∀n∈d.map (·.1),(sl.lookup n).isSome=true)->forIn (d++a) sl f=forIn a sl f:=by
 intro l;induction l with
 |nil=>intro _ _ _;exact rfl
 |cons i r h=>obtain ⟨n,v⟩:=i;intro a sl c;refine aa (Cs ..) (aa (NU ..) (aa (e ..) ?_));have b:=c n (by simp);refine aa (if_neg (by cases q:sl.lookup n with | none=>rw [q] at b;cases b | some _=>simp) ..) ((pure_bind ..).trans ?_);exact h a sl λm g=>c m (by simp only [gc,cF];exact .inr g)
theorem Wv {c:Type} {xs:List c} (h:n∈l.take xs.length):((l.zip xs).lookup n).isSome=true:=by
 induction l generalizing xs with
 |nil=>simp at h
 |cons a l b=>
  induction xs using cK with
  |nil=>simp at h
  |cons x xs=>
   simp only [List.zip_cons_cons,qn];cases q:n==a with
   |true=>rfl
   |false=>
    simp only [jv,List.take_succ_cons] at h;rcases cF.mp h with z | z
    . simp only [z] at q;simp at q
    . exact b z
theorem am2 {c:Type} {xs:List c} (nd:l.Nodup) (h:n∈l.drop xs.length):(l.zip xs).lookup n=none:=by
 induction l generalizing xs with
 |nil=>rfl
 |cons a l b=>
  induction xs using cK with
  |nil=>rfl
  |cons x xs=>
   simp only [jL] at nd;rw [jv,List.drop_succ_cons] at h;simp only [List.zip_cons_cons,qn];have:(n==a)=false:=by simp only [beq_eq_false_iff_ne];intro q;exact nd.1 (by refine aa q.symm ?_;exact N0 h)
   refine aa this <| b nd.2 h
theorem LR {c d:Type} {l:List c}:∀{xs:List d},l.length<=xs.length->(l.zip xs).map (·.1)=l:=by
 induction l with
 |nil=>intro xs _;rfl
 |cons a l b=>
  intro xs h;induction xs using cK with
  |nil=>contradiction
  |cons x xs=>exact congrArg (a::·) (b (abD h))
theorem auh {c d:Type} {l:List c}:∀{xs ys:List d},xs.length<=l.length->l.zip xs++(l.drop xs.length).zip ys=l.zip (xs++ys):=by
 induction l with
 |nil=>
  intro xs ys h;induction xs using cK with
  |nil=>rfl
  |cons x xs=>contradiction
 |cons a l b=>
  intro xs ys h;induction xs using cK with
  |nil=>rfl
  |cons x xs=>exact congrArg ((a,x)::·) (b (abD h))
theorem aof {a:Type} {o:Option a} (h:o.isSome=true):¬o.isNone=true:=by
 induction o using aW with
 |none=>contradiction
 |some x=>exact λq=>nomatch q
theorem adP (f:Str×ah->List (Str×ah)->Sem (ForInStep (List (Str×ah)))) (e:∀n v sl,f (n,v) sl=if (sl.lookup n).isNone then (pure (.yield (sl++[(n,v)])):Sem _) else pure (.yield sl))
 {xs:List ah} {j m:Nat} (nd:names.Nodup) (b:names.length=xs.length+m) (d:D.length=m+k) (c:xs.length=k+j):
 forIn ((names.drop j).zip D) (names.zip xs) f=(pure (names.zip (xs++D.drop k)):Sem _):=by
 have i:(names.drop j).drop k=names.drop xs.length:=by rw [aa9,c,tC]
 have g:((names.drop j).take k).length=(D.take k).length:=aa j7 (aa nJ (aa j7 (aa b (aa c (aa d (aa (nN (N8 _ _)) (aa (nN (cz 0x18008310611010012011 Internal.jE)) rfl)))))));have h:(names.drop xs.length).length=(D.drop k).length:=by rw [nJ,nJ,b,d,GQ,abB]
 have e2:(names.drop j).zip D=((names.drop j).take k).zip (D.take k)++(names.drop xs.length).zip (D.drop k):=by rw [<-i,<-abz g,GO,GO]
 rw [e2,adO f e _ _ _ λn a=>?_,adM f e _ _ ?_ λn a=>?_,auh (b▸Nat.le_add_right _ _)]
 . refine aa (LR (GS h)) <| nd.sublist (List.drop_sublist _ _)
 . rw [LR (GS h)] at a;exact am2 nd a
 . rw [LR (GS g),List.take_drop,tC,<-c] at a;exact Wv (N0 a)
theorem adN {xs:List ah} (hp:Ho fd.params names) (nd:names.Nodup)
 (i:∀(M:iw) (A:dh) (E:ah->ax->Prop) (Q:Option (Array ah)->ax->Prop),(∀o:Option (Array ah),(o.getD #[]).toList=D->Q o s)->aY M A (seqItems? fd.defaults) Q E s)
 (g:xs.length<=names.length) (h:names.length-xs.length<=D.length) (e:D.length<=names.length):
 BindsTo s fd ⟨xs,[]⟩ (names.zip (xs++D.drop (D.length-(names.length-xs.length)))):=by
 have z:=CB e;refine a8 (GR g) λm d=>?_;rw [d,GQ] at h⊢;refine a8 (GR h) λk c=>?_;rw [c,d,tC] at e;refine a8 (GR (Nat.le_of_add_le_add_right e)) λj f=>aa (c ..) (aa (GQ ..) ?_);have l:names.length-D.length=j:=Oc (by rw [d,f,c,tC k j,Cx,tC k m]);obtain ⟨po,ko,va,kw,ar⟩:=hp;cases fd with
 |mk _ _ p=>
  cases p with
  |mk x a y v _ w=>
   dsimp only at po ko va kw ar i;subst po ko va kw ar;intro M A E Q u;refine aO (bD (aO (i M A E _ λo t=>?_)));subst t;refine w5 (λq=>?_) (w5 (λq=>?_) (aO (oM (b:=pure ((a.map (·.arg)).zip (xs++(o.getD #[]).toList.drop k))) ?_ (bD (aO (bD (w5 (λq=>by cases q) (bD ?_))))))))
   . have q:=of_decide_eq_true (dP.mp q).1;exact absurd g (Nat.not_le_of_gt q)
   . refine absurd q ?_;show ¬(!(List.filter _ (List.take ((a.map (·.arg)).length-(Gz ((o.getD #[]).toList.length-(a.map (·.arg)).length) (o.getD #[]).toList).length) (a.map (·.arg)))).isEmpty)=true;rw [z,GA,l,List.filter_eq_nil_iff.mpr λn r=>?_]
     . exact λq=>nomatch q
     . exact aof (Wv ((List.take_sublist_take_left (f▸N8 j k)).subset r))
   . show forIn ((Gz ((a.map (·.arg)).length-(Gz ((o.getD #[]).toList.length-(a.map (·.arg)).length) (o.getD #[]).toList).length) (a.map (·.arg))).zip (Gz ((o.getD #[]).toList.length-(a.map (·.arg)).length) (o.getD #[]).toList)) _ _=_
     (refine aa z ?_;rw [GA,l])
     exact adP _ (λ_ _ _=>rfl) nd d c f
   . show Q (List.filterMap _ (a.map (·.arg)++[])) s;refine aa (vc ..) <| (RK (xs:=xs++(o.getD #[]).toList.drop k) nd (by rw [eC,nJ,d,c,abB])).symm▸u
end
variable {bJ:ax} {ds:List AV} {sl:Array (Option ah)} {cm:Str->Option ah} {od:Option aC} {fn:Fn} {body:List fw}
section
variable {v:ah} {k:Str->Option qp} {b:List (Str×ah)} {n:Str}
noncomputable def QR:AV->ah->Bool
 |.int i,.int j _=>decide (i=j)
 |.str s,.str t _=>decide ((⟨s.toArray⟩:Str)=t)
 |_,_=>false
def IX:List AV->List ah->Bool
 |[],r=>jh r true
 |a::l,r=>iF r λv r=>QR a v&&IX l r
def IY (K:ql) (ds:List AV) (T:aC):Bool:=match K.lookup T with
 |some o=>(match o.data with | .seq items _=>IX ds items.toList | _=>false)
 |none=>false
def IW (K:ql) (ds:List AV):ah->Bool
 |.none=>ds.isEmpty
 |.ref T=>IY K ds T
 |_=>false
structure rX (I:KI) (f:Nat) (fn:Fn) (od:Option aC) (sl:Array (Option ah)) (fd:w9) (body:List fw):Prop where
 at':I.K.lookup (I.fn f)=some ⟨.type "function",od,.func fd,sl⟩
 bo:fd.body=.stmts body
 gl:fd.globals=eN
 bl:fd.builtins=kN
 cl:fd.closure=[]
 co:codeIn I.K fd.code fd.qualname=true
 pa:Ho fd.params (fn.ps.map nm)
 ps:∀x∈fn.ps,x<NN
 nd:fn.ps.Nodup
 df:IW I.K fn.ds fd.defaults=true
 kd:fd.scope.kind=.function
 gn:fd.scope.isGenerator=false
 cr:fd.scope.isCoroutine=false
 pk:∀x∈fn.ps,fd.scope.names.lookup (nm x)=some .local\/fd.scope.names.lookup (nm x)=some .cell
 ck:jw fd.scope fn.body body=true
structure vz (I:KI):Prop where
 fn:∀f fn,ai f=some fn->∃od sl fd body,rX I f fn od sl fd body
 st:zH I.K CJ=true/\gR I.K CJ "sys.recursionlimit"=some none
theorem afP {a:AV} (h:QR a v=true):VR W a v:=by
 induction a using AV.casesOn with
 |int i=>
  induction v using xh with
  |int j t=>obtain rfl:=of_decide_eq_true h;exact .int _ _
  |_=>exact gF h
 |str s=>
  induction v using xh with
  |str x t=>obtain rfl:=of_decide_eq_true h;exact .str _ _
  |_=>exact gF h
 |_=>exact gF h
theorem afQ {l:List AV}:∀{r:List ah},IX l r=true->bz W l r:=by
 induction l with
 |nil=>intro r h;exact ji h λ_=>.nil
 |cons a l d=>intro r h;exact sV h λv r h=>vC h λb c=>.cons (afP b) (d c)
theorem afR {K:ql} (X:K.In s.heap) (h:IW K ds v=true):∃D,bz W ds D/\
 ∀M A E Q,(∀o,(o.getD #[]).toList=D->Q o s)->aY M A (seqItems? v) Q E s:=by
 induction v using xh with
 |none=>obtain rfl:ds=[]:=Ct.mp h;exact ⟨([]),.nil,λM A E Q a=>aO (bD (bD (a none rfl)))⟩
 |ref T=>
  replace h:IY K ds T=true:=h;delta IY at h;generalize b:K.lookup T=e at h;induction e using aW with
  |none=>exact gF h
  |some o=>
   obtain ⟨c,d,dt,sl⟩:=o;induction dt using NI with
   |seq items n=>exact ⟨items.toList,afQ h,λM A E Q a=>wpAny_seqItems (X _ _ b) rfl (a (some items) rfl)⟩
   |_=>exact gF h
 |_=>exact gF h
theorem PQ {n:Str}:∀{m:Str->Option ah},n∉b.map (·.1)->zy k b m n=m n:=by
 induction b with
 |nil=>intro m _;rfl
 |cons p r a=>
  obtain ⟨pa,pv⟩:=p;intro m h;refine (a λq=>h (cu _ q)).trans ?_;by_cases c:k pa=some .local
  . exact (congrFun (if_pos c) n).trans (if_neg λq:n=pa=>h (q▸cN))
  . exact congrFun (if_neg c) n
theorem adI {n:Str}:∀{m:Str->Option ah},n∉b.map (·.1)->bindC k b m n=m n:=by
 induction b with
 |nil=>intro m _;rfl
 |cons p r a=>
  obtain ⟨pa,pv⟩:=p;intro m h;refine (a λq=>h (cu _ q)).trans ?_;by_cases c:k pa=some .local
  . exact congrFun (if_pos c) n
  . exact (congrFun (if_neg c) n).trans (if_neg λq:n=pa=>h (q▸cN))
theorem adK {v:ah}:∀{m:Str->Option ah},(b.map (·.1)).Nodup->(n,v)∈b->k n=some .local->zy k b m n=some v:=by
 induction b with
 |nil=>intro _ _ h;exact absurd h bP
 |cons p r c=>
  obtain ⟨pa,pv⟩:=p;intro m nd h a;rcases cF.mp h with z | z
  . cases z;exact (PQ (jL.mp nd).1).trans ((congrFun (if_pos a) n).trans (if_pos rfl))
  . exact c (jL.mp nd).2 z a
theorem adH {v:ah}:∀{m:Str->Option ah},(b.map (·.1)).Nodup->(n,v)∈b->k n≠some .local->bindC k b m n=some v:=by
 induction b with
 |nil=>intro _ _ h;exact absurd h bP
 |cons p r c=>
  obtain ⟨pa,pv⟩:=p;intro m nd h a;rcases cF.mp h with z | z
  . cases z;exact (adI (jL.mp nd).1).trans ((congrFun (if_neg a) n).trans (if_pos rfl))
  . exact c (jL.mp nd).2 z a
theorem amW {x:Nat} {v:AV} (r:bz W vs us):∀{ps:List Nat},lk x (ps.zip vs)=some v->x∈ps/\∃u,(nm x,u)∈(ps.map nm).zip us/\VR W v u:=
 bz.pR (M:=λvs us=>∀{ps:List Nat},lk x (ps.zip vs)=some v->x∈ps/\∃u,(nm x,u)∈(ps.map nm).zip us/\VR W v u) (λ{ps} h=>by induction ps using cK<;>exact cX h) (λ{_ _ _ _} d _ f {ps} h=>by
  induction ps using cK with
  |nil=>exact cX h
  |cons p ps=>
   replace h:=(eh x p _ _).symm.trans h;by_cases e:p=x
   . obtain rfl:=eM ((if_pos e).symm.trans h);subst e;exact ⟨cN,_,cN,d⟩
   . obtain ⟨a,u,b,c⟩:=f ((if_neg e).symm.trans h);exact ⟨cu _ a,u,cu _ b,c⟩) r
theorem Ik {names:List (Str×qp)}:∀{n:Nat} {az:List (Str×aC)},((id,N6)∈names\/(az.lookup id).isSome=true)->((zC n names az).lookup id).isSome=true:=by
 induction names with
 |nil=>intro n az h;exact h.resolve_left bP
 |cons p r b=>
  obtain ⟨pa,pv⟩:=p;intro n az h;by_cases a:(pv==N6)=true
  . refine aa (show zC n ((pa,pv)::r) az=zC (n+1) r ((pa,n)::az) from if_pos a) (b ?_);refine aa qn ?_;cases q:id==pa with
    |true=>right;rfl
    |false=>
     rcases h with h | h
     . rcases cF.mp h with z | z
       . cases z;simp at q
       . exact .inl z
     . exact .inr h
  . refine aa (show zC n ((pa,pv)::r) az=zC n r az from if_neg a) (b ?_);rcases h with h | h
    . rcases cF.mp h with z | z
      . cases z;exact absurd rfl a
      . exact .inl z
    . exact .inr h
theorem LS {c d:Type} {l:List c}:∀{xs:List d},(l.zip xs).map (·.1)=l.take xs.length:=by
 induction l with
 |nil=>intro xs;exact GP.symm
 |cons a l b=>
  intro xs;induction xs using cK with
  |nil=>rfl
  |cons x xs=>exact congrArg (a::·) b
open Classical in
noncomputable def z0 (P:Pin) (cells:List (Str×aC)) (h:dv) (L:aC) (c:ah) (d:w8):Pin:=
 ⟨λb=>if ∃id,cells.lookup id=some b then h.get? b else P.ex b,λb=>if b=L then some (c,d) else P.fr b⟩
noncomputable def C6 (L:aC) (cells:List (Str×aC)) (b:aC):Prop:=b=L\/∃id,cells.lookup id=some b
open Classical in
theorem agC (K:cL I) (F:rX I f fn od sl fd body) (J:aF prog w I P W O s.heap) (Z:AF P A)
 (j:ae=callEnvC fd s.heap.objs.size (I.fn f)) (hm:m=zy ae.kindOf ((fn.ps.map nm).zip us) λ_=>none) (G:cm=bindC ae.kindOf ((fn.ps.map nm).zip us) λ_=>none) (n:∀x v,lk x loc=some v->x∈fn.ps/\∃u,(nm x,u)∈(fn.ps.map nm).zip us/\VR W v u)
 (X:InCallC s ae.locals m ae.cells cm bJ):∃P',Lv P (C6 ae.locals ae.cells) ae (A.deeper ae) P' W loc/\aF prog w I P' W O bJ.heap/\dF s bJ/\∀b,C6 ae.locals ae.cells b->s.heap.objs.size<=b:=by
 have Y:ae.locals=s.heap.objs.size:=by refine bA j ?_;rfl
 have y:∀id,ae.kindOf id=fd.scope.names.lookup id:=λid=>by refine aa j ?_;rfl
 have T:ae.cells=zC (s.heap.objs.size+1) fd.scope.names []:=by refine bA j ?_;rfl
 refine uW X.toInCall.same λi tk B=>?_;subst B;refine fv X.toInCall.ns λo es ep ho hd hk hf=>?_;have keep:=X.toInCall.keep;have J1:=J.keep keep;have ab:∀b,C6 ae.locals ae.cells b->s.heap.objs.size<=b:=λb hb=>by
  rcases hb with rfl | ⟨id,hb⟩
  . refine aa Y ?_;exact bT _
  . have:=X.above id b (vq hb);rw [Y] at this;exact Cz this
 have out:=λb hb=>J.fresh (ab b hb);have nL:=λid q=>N9 _ (X.above id _ (vq q));have U:(((fn.ps.map nm).zip us).map (·.1)).Nodup:=by
  refine aa LS <| List.Nodup.sublist (List.take_sublist _ _) ?_
  have:∀l:List Nat,(∀x∈l,x<NN)->l.Nodup->(l.map nm).Nodup:=by
   intro l;induction l with
   |nil=>intro _ _;exact GJ
   |cons a l ih=>intro n nd;rw [jL] at nd;simp only [gc,jL];refine ⟨λq=>?_,ih (λx N=>n x (cu _ N)) nd.2⟩;refine aQ (gQ.mp q) λb hb e=>?_;have:=K.rE b a (n b (cu _ hb)) (n a cN) e;exact nd.1 (this▸hb)
  exact this fn.ps F.ps F.nd
 have ext:P.jM (z0 P ae.cells i ae.locals o.cls (.dict es ep)) (C6 ae.locals ae.cells):=by
  refine ⟨λb hb=>?_,λb hb=>?_,λb hb=>⟨(out b hb).2.1,(out b hb).2.2.1⟩,λb hb=>?_⟩
  . exact if_neg λq=>hb (.inr q)
  . exact if_neg λq=>hb (.inl q)
  . by_cases q:b=ae.locals
    . right;show (if b=ae.locals then _ else P.fr b)≠none;refine aa (if_pos q) ?_;exact oU _
    . left;have g:=hb.resolve_left q;refine a8 (id g) λid E=>aQ (X.cell id b E) λoc p _=>?_;show (if _ then i.get? b else P.ex b)≠none;refine aa (if_pos g) <| aa (show i.get? b=some oc from p) ?_;exact oU _
 have S:∀id c,ae.cells.lookup id=some c->∃oc,(z0 P ae.cells i ae.locals o.cls (.dict es ep)).ex c=some oc/\i.get? c=some oc/\oc.data=.cell (cm id):=λid c g=>by refine aQ (X.cell id c g) λoc p H=>⟨oc,?_,p,H⟩;refine (if_pos ⟨id,g⟩).trans ?_;exact p
 have o6:(z0 P ae.cells i ae.locals o.cls (.dict es ep)).fr ae.locals=some (o.cls,.dict es ep):=if_pos rfl;have xL:(z0 P ae.cells i ae.locals o.cls (.dict es ep)).ex ae.locals=none:=by refine (if_neg λ⟨id,q⟩=>nL id q).trans <| (out _ (.inl rfl)).2.1
 refine ⟨(z0 P ae.cells i ae.locals o.cls (.dict es ep)),⟨ext,?_,?_,.inl rfl,xL,λid c g=>?_,λid id' c i h2=>?_,?_,?_⟩,?_,⟨rfl,rfl⟩,ab⟩
 . refine ⟨by refine aa j ?_;exact F.kd,by refine bA j ?_;exact F.gl,by refine bA j ?_;exact F.bl,⟨o.cls,es,ep,o6,hk,λx v N e k=>?_⟩,λx v N e k=>?_,λid V=>?_⟩
   . obtain ⟨hp,u,L,M⟩:=n x v e;refine ⟨u,?_,M⟩;refine aa (hf ..) (aa (hm ..) ?_);exact adK U L k
   . obtain ⟨hp,u,L,M⟩:=n x v e;have t:ae.kindOf (nm x)=some .cell:=by
      rcases F.pk x hp with q | q
      . rw [y,q] at k;rcases k with k | k<;>contradiction
      . refine (y ..).trans ?_;exact q
     have r:(ae.cells.lookup (nm x)).isSome=true:=by refine aa T ?_;rw [y] at t;exact Ik (.inl (vq t))
     refine a8 (xe.mp r) λc g=>ct (S _ c g) λoc Q q2 R=>d9 c u oc ⟨g,Q,?_,M⟩;refine aa R (aa G ?_);exact congrArg _ (adH U L (by rw [t];intro q;contradiction))
   . have C:fd.scope.names.lookup id=some .cell:=by rw [j] at V;exact V
     have r:(ae.cells.lookup id).isSome=true:=by rw [T];exact Ik (.inl (vq C))
     exact xe.mp r
 . refine aQ (Z.ext ext) λh e1 q=>⟨(ae::h),?_,λe' DW=>?_⟩
   . show A.frames.map (ae::·)=_;rw [e1];rfl
   . rcases cF.mp DW with z | z
     . rw [z];refine ⟨?_,ae.locals,o.cls,.dict es ep,?_,o6,xL,λvs q=>by contradiction⟩
       . rw [j];show fd.scope.kind≠.module;rw [F.kd];intro q;contradiction
       . rw [j];rfl
     . exact q e' z
 . refine ct (S id c g) λoc Q q2 R=>⟨.inr ⟨id,g⟩,?_,oc,cm id,Q,R⟩;show (if c=ae.locals then _ else P.fr c)=none;rw [if_neg λz:c=ae.locals=>nL id (z▸g)];exact (out c (.inr ⟨id,g⟩)).2.2.1
 . exact name_of_addr X.apart (vq i) (vq h2)
 . rw [j];rfl
 . refine aQ Z λh e1 _=>⟨h,?_⟩;show A.frames.map (ae::·)=_;rw [e1];rfl
 . refine J1.pinned ext out (λa z D q=>?_) (λa c d D q=>?_)
   . have q:(if ∃id,ae.cells.lookup id=some a then i.get? a else P.ex a)=some z:=q;split at q
     . exact q
     . rw [(out a D).2.1] at q;contradiction
   . have q:(if a=ae.locals then some (o.cls,Gv es ep) else P.fr a)=some (c,d):=q;split at q
     . rename_i e;cases q;refine aa e <| ⟨o,ho,rfl,hd⟩
     . rw [(out a D).2.2.1] at q;contradiction
end
variable {E':ah->ax->Prop} {ps:List Nat}
theorem XS.unS (X:P0.jM P S) (x:XS P W e h):XS P0 W e h:=by refine fJ x λl vs a b c d=>dE l vs ⟨a,b,c,d.imp id ?_⟩;intro i;refine Nn i λt m n y j f k=>?_;clear i;have g:=λq=>(X.so t q).elim (λz=>z f.2.1) (λz=>z f.2.2.1);exact sS t m n y ⟨j,⟨f.1,by refine ((X.ex t g).symm).trans ?_;exact f.2.1,by refine ((X.fr t g).symm).trans ?_;exact f.2.2.1,f.2.2.2⟩,k⟩
theorem amR {R:ah->ax->Prop} (V:Lv P0 S ae A P W loc) (J:aF prog w I P W O s.heap) (hp:W.μ[r]?=some p) (x:XS P W p.1 s.heap)
 (h:∀a,aF prog w I P W O a->XS P W p.1 a->R (.ref p.1) {s with heap:=a}):aY (aZ prog w) A (leaving ae (.ref p.1)) (λ_ e=>R (.ref p.1) e) E' s:=by
 refine a8 V.tp λyZ d=>?_;unfold leaving;refine aO (Md V.af d V.fm J hp x λa c x'=>?_);exact Aw c hp x' λf g b=>h f g b.xs
theorem fy.deeper (h:fy (3*(n+1)) A):fy (3*n+1) (A.deeper ae):=by
 refine ⟨h.q6,?_,?_⟩
 . have:=h.Ai;exact ak 0x7087e448836848049067087e448846c02011 this
 . have:=h.FU;exact ak 0x9c42791220da76640248313884f2244236ec02011 this
theorem adJ {args:List AV} (h:qI ps ds args=some loc):args.length<=ps.length/\ps.length-args.length<=ds.length/\loc=ps.zip (args++ds.drop (ds.length-(ps.length-args.length))):=by
 unfold qI at h;split at h
 . rename_i q;refine smF h <| ⟨q.1,q.2,rfl⟩
 . contradiction
theorem P8 {xs:List ah} (K:cL I) (FO:vz I) (F:rX I f fn od sl fd body)
 (ud:fn.ds.length<=fn.ps.length) (G:A.depth<1000) (Q:AF P A) (J:aF prog w I P W O s.heap) (L:xs.length<=fn.ps.length) (M:fn.ps.length-xs.length<=fn.ds.length)
 (d:∀c D,bz W fn.ds D->c=xs++D.drop (fn.ds.length-(fn.ps.length-xs.length))->∀x v,lk x loc=some v->x∈fn.ps/\∃u,(nm x,u)∈(fn.ps.map nm).zip c/\VR W v u)
 (h:∀ae c S P' bJ,ae.scope=fd.scope->(∃t,c=xs++t)->bJ.heap.Ns ae.locals (zy ae.kindOf ((fn.ps.map nm).zip c) λ_=>none)->Lv P S ae (A.deeper ae) P' W loc->aF prog w I P' W O bJ.heap->dF s bJ->(∀b,S b->s.heap.objs.size<=b)->(∀b o,s.heap.get? b=some o->bJ.heap.get? b=some o)->
   aY (aZ prog w) (A.deeper ae) (execs body ae) (λf s'=>R (.ok (.ret (match f with | .ret v=>v | _=>.none))) s')
    (λe s'=>aY (aZ prog w) (A.deeper ae) (leaving ae e) (λ_ m=>R (.error e) m) (λH m=>R (.error H) m) s') bJ):
 nP (aZ prog w) A (.call (.ref (I.fn f)) ⟨xs,[]⟩) R s:=by
 have i:=J.K _ _ F.at';have g:s.heap.NoLimit:=⟨_,.of_isNs (CN J.K FO.st.1),ns_none_of J.K (.of_isNs (CN J.K FO.st.1)) FO.st.2⟩;refine aQ (afR (W:=W) J.K F.df) λD C N=>?_;have n:=C.length;have p:(fn.ps.map nm).Nodup:=by
  have:∀l:List Nat,(∀x∈l,x<NN)->l.Nodup->(l.map nm).Nodup:=by
   intro l;induction l with
   |nil=>intro _ _;exact GJ
   |cons a l Z=>intro d nd;rw [jL] at nd;simp only [gc,jL];refine ⟨λq=>?_,Z (λx j=>d x (cu _ j)) nd.2⟩;refine aQ (gQ.mp q) λb hb e=>?_;have:=K.rE b a (d b (cu _ hb)) (d a cN) e;exact nd.1 (this▸hb)
  exact this fn.ps F.ps F.nd
 have z:=adN (xs:=xs) F.pa p N (by refine aa (cf ..) ?_;exact L) (by refine aa (cf ..) (aa (n ..) ?_);exact M) (by refine aa (cf ..) (aa (n ..) ?_);exact ud);generalize B:xs++D.drop (D.length-((fn.ps.map nm).length-xs.length))=c at z;have yk:=d c D C (by rw [<-B,n,cf]);refine codeAny_call_function G i rfl F.cr F.gn F.bo (codeRec_of J.K F.co) (z _ _ _ _ ?_);refine aa F.cl <| wpAny_newFunctionEnv_cells F.kd (λx j=>?_) λae T s' X=>?_
 . have U:x.1∈fn.ps.map nm:=by
    have:=List.mem_map_of_mem (f:=Oq) j;have e:((fn.ps.map nm).zip c).map Oq=(fn.ps.map nm).take c.length:=LS;rw [e] at this;exact tB this
   refine aQ (gQ.mp U) λy Y e=>aa e.symm ?_;rcases F.pk y Y with q | q
   . exact .inl q
   . exact .inr ⟨q,Ik (.inl (vq q))⟩
 . have r:=T;refine ⟨g.keeps X.toInCall.keep,codeAny_func ?_⟩;refine kI (agC K F J Q r rfl rfl yk X) λP' V E k ab=>h ae c _ P' s' (by refine bA r ?_;rfl) ⟨_,B.symm⟩ X.toInCall.ns V E k ab X.toInCall.keep
theorem afo (K:cL I) (FO:vz I) (U:∀f fn,ai f=some fn->fn.ds.length<=fn.ps.length) (i:∀c,SK prog w I n c):oZ prog w I (n+1):=by
 intro A P W O s f vs xs Q E m H J r h;replace h:Ends prog w I P W s VR (match ai f with | none=>.aq | some fn=>(match qI fn.ps fn.ds vs with | none=>.aq | some loc=>gj (aH GG (aj GG ai n) fn.body loc O))) Q E:=h;generalize l:ai f=d at h;induction d using aW with
 |none=>exact h.elim
 |some fn=>
  replace h:Ends prog w I P W s VR (match qI fn.ps fn.ds vs with | none=>.aq | some loc=>gj (aH GG (aj GG ai n) fn.body loc O)) Q E:=h;generalize z:qI fn.ps fn.ds vs=d at h;induction d using aW with
  |none=>exact h.elim
  |some loc=>
   replace h:Ends prog w I P W s VR (gj (aH GG (aj GG ai n) fn.body loc O)) Q E:=h;refine qh (FO.fn f fn l) λod sl fd body F=>fH (adJ z) λC G g=>?_;have lx:=r.length;refine P8 (loc:=loc) K FO F (U f fn l) (by have:=m.Ai;exact ak 0x3e83f201467087e448846c02011 this) H J (by refine aa lx ?_;exact C) (by refine aa lx ?_;exact G) (λX D R M x v e=>?_) λae X S P' bJ y _ _ V o k _ _=>?_
   . refine aa M ?_;rw [g] at e;refine aa lx <| amW (r.append (R.drop _)) e
   have T:jw ae.scope fn.body body=true:=by refine aa y ?_;exact F.ck
   refine i fn.body T V (fy.deeper m) o ?_;generalize aH GG (aj GG ai n) fn.body loc O=d at h⊢;induction d using RS.casesOn with
   |aq=>exact h.elim
   |cont u O'=>exact h.elim
   |next u O'=>exact λj W2 b le V2 a k2=>h W2 .none b le (a.unpin V2.ext λ_ _ _ q=>q).1 .none (k.trans k2)
   |ret v O'=>exact λj W2 x b L le V2 a N k2=>h W2 x b le (a.unpin V2.ext λ_ _ _ q=>q).1 N (k.trans k2)
   |dm r' O'=>intro j W2 p b L le V2 a hp Y k2;refine amR V2 a hp Y λB t Z=>h W2 p {b with heap:=B} le (t.unpin V2.ext λ_ _ _ q=>q).1 hp (Z.unS V2.ext) ⟨k2.gens.trans k.gens,k2.os.trans k.os⟩
theorem afp:oZ prog w I 0:=by intro A P W O s f vs xs Q E a b J r h;exact h.elim
variable {d:u7} {g:Array GenState} {G fI:aC} {bs sub:List ah} {os:gY} {gO q:Str} {DU ab:Bool} {sn:List Str} {col:Option Bool} {dd:Option aC} {k0 k1 k2 k3 k5:Option ah}
section
open Sem (wp)
noncomputable abbrev i9 (G:aC):List Value:=[.ref G,.type "Exception",.type "BaseException",.type "object"]
structure r5 (I:KI) (gO q:Str) (N G:aC) (bs:List ah) (sn:List Str) (sub:List ah) (ab:Bool) (col:Option Bool) (dd:Option aC) (k0 k1 k2 k3 k5:Option ah) (fi:Nat):Prop where
 ob:I.K.lookup (I.cls bQ)=some (tJ gO q (I.cls bQ) N bs (i9 G) true sn sub ab col dd k0 k1 k2 k3 k5 "Exception.__new__")
 ini:kb I.K (.ref (I.cls bQ)) "__init__"=some (some (.ref (I.fn fi)))
 isf:(ai fi).isSome=true
 sta:kb I.K (.ref (I.cls bQ)) "__setattr__"=some (some (.builtin "object.__setattr__"))
 xga:kb I.K (.ref (I.cls bQ)) "__getattribute__"=some (some (.builtin "BaseException.__getattribute__"))
 xgk:kb I.K (.ref (I.cls bQ)) "__getattr__"=some none
section
variable {t:Nat}
theorem aty {Q:Unit->ax->Prop} (hC:h.get? C=some (tJ gO q C N bs (i9 G) DU sn sub ab col dd k0 k1 k2 k3 k5 "Exception.__new__"))
 (c:Q () ⟨h,g,d,t,os⟩):aY M A (G3 "Exception.__new__" ⟨.ref C::rest,[]⟩) Q E ⟨h,g,d,t,os⟩:=by
 have F:=Ov;have a:(mF C::i9 G).contains (.type "Exception")=true:=rfl;have b:=F.noStar;delta G3;rw [F.newKind];dsimp only;rw [F.newSplit];dsimp only;rw [F.newRow];dsimp only
 repeat (first | refine oX hC ?_ | (refine CR hC ?_;refine aa a ?_) | refine wpAny_staticBase_exc hC ?_ | refine acF hC ?_ | refine oM (if_neg (by rw [bne_self_eq_false];decide)) ?_ | wp_step)
 exact c
theorem atA (hC:h.get? C=some (tJ gO q C N bs (i9 G) DU sn sub ab col dd k0 k1 k2 k3 k5 "Exception.__new__"))
 (i:R (.ok (.ret (.ref (h.objs.size+1)))) ⟨(h.push {cls:=.type "tuple",data:=.seq rest.toArray}).push
   {cls:=.ref C,data:=.fields #[.ref h.objs.size,.none,.none,.none,.bool false,.none]},g,d,t,os⟩) (j:rest.length<=qy):
 nP (aZ prog w) A (.builtin "Exception.__new__" ⟨.ref C::rest,[]⟩) R ⟨h,g,d,t,os⟩:=by
 have F:=Ov;have f:=F.ends;have e:(mF C::i9 G).contains (.type "Exception")=true:=rfl;have b:(mF C::i9 G).contains (.type "AttributeError")=false:=rfl;have c:(mF C::i9 G).contains (.type "NameError")=false:=rfl;refine codeAny_builtinAt F.entry ?_;unfold mA.«BaseException.__new__»;refine ab8 <| ab8 (PySem.wpAt_stack λp a=>ab9 ?_)
 wp_walk
 refine ab9 <| aa F.owner ?_
 repeat (first | with_reducible refine wpAny_madeHere_exc F.canon hC ?_ | with_reducible refine oX hC ?_ | (with_reducible refine CR hC ?_;first | rw [e] | rw [b] | refine aa c ?_) | wp_step)
 refine aa (NJ ..) <| i
theorem atF {oI:Obj} {Q:Fin->ax->Prop}
 (hC:h.get? C=some (tJ gO q C N bs (i9 G) DU sn sub ab col dd k0 k1 k2 k3 k5 "Exception.__new__")) (hi:vg (aZ prog w) h (vu (.ref C) "__init__") (some (.ref fI)))
 (m:h.get? fI=some oI) (n:oI.cls=.type "function")
 (s:∀j e,h.objs.size<=e->aaZ h j e (.ref C) rest->
   aY (aZ prog w) A (call (.ref fI) (.ref e::rest)) (λr s'=>r=.none/\Q (.done (.ret (.ref e))) s') E ⟨j,g,d,t,os⟩) (l:rest.length<=qy):
 aY (aZ prog w) A (mA.«type.__call__» ⟨.ref C::rest,[]⟩) Q E ⟨h,g,d,t,os⟩:=by
 have F:=Ov
 repeat (first | with_reducible refine oX hC ?_ | with_reducible refine acF hC ?_ | wp_step)
 refine codeAny_call_builtin_code (aaE _ F.quiet) (aty hC ?_);refine atA hC ?_ l;have kp:∀b o,h.get? b=some o->((h.push {cls:=.type "tuple",data:=.seq rest.toArray}).push {cls:=.ref C,data:=.fields #[.ref h.objs.size,.none,.none,.none,.bool false,.none]}).get? b=some o:=
  λb o e=>nH _ (nH _ e)
 have c:=kp _ _ hC;have f:=kp _ _ m;have k:((h.push {cls:=.type "tuple",data:=.seq rest.toArray}).push
  {cls:=.ref C,data:=.fields #[.ref h.objs.size,.none,.none,.none,.bool false,.none]}).get? (h.objs.size+1)=some
  {cls:=.ref C,data:=.fields #[.ref h.objs.size,.none,.none,.none,.bool false,.none]}:=by heap_get
 have i:(mF C::i9 G).contains (.ref C)=true:=by simp
 unfold OD
 repeat (first | with_reducible refine oX k ?_ | (with_reducible refine CR c ?_;refine aa i ?_) | wp_step)
 refine (hi.keeps kp).at <| nQ (aO ?_)
 unfold bindSpecial;refine aO (OU ⟨_,f,n⟩ ?_);refine oM (if_pos ag) <| bD (aO (oY (s _ (h.objs.size+1) (CA _) ⟨kp,aa0 (CA _),h.objs.size,k,aa0 (bT _),?_⟩) (λr s' hr=>?_) λ_ _ x=>x))
 . exact nH _ (aa1 rfl rfl)
 . refine bB hr λa p=>?_;clear hr;refine aa a ?_
   wp_walk
   exact p
theorem atw {oI:Obj}
 (hC:h.get? C=some (tJ gO q C N bs (i9 G) DU sn sub ab col dd k0 k1 k2 k3 k5 "Exception.__new__")) (hi:vg (aZ prog w) h (vu (.ref C) "__init__") (some (.ref fI)))
 (c:h.get? fI=some oI) (f:oI.cls=.type "function")
 (j:∀a e,h.objs.size<=e->aaZ h a e (.ref C) rest->
   aY (aZ prog w) (A.under (.builtin "type.__call__" ⟨.ref C::rest,[]⟩)) (call (.ref fI) (.ref e::rest)) (λr s'=>r=.none/\Q (.ref e) s') E ⟨a,g,d,t,os⟩) (b:rest.length<=qy):
 aY (aZ prog w) A (call (.ref C) rest) Q E ⟨h,g,d,t,os⟩:=by
 have f1:=tc_lookup;have f2:=tc_bind (.ref C);have l:(⟨h,g,d,t,os⟩:ax).TypeIs (.ref C) "type":=⟨_,hC,rfl⟩;refine xn (acn ?_)
 repeat (any_goals (first | assumption | with_reducible refine oX hC ?_ | wp_step))
 refine ⟨rfl,?_⟩;refine codeAny_call_builtin_at (aaE _ (by decide+kernel)) entry_typeCall (wpAny_check_type_call_sub hC (atF hC hi c f (λa e k i=>j a e k i) b))
end
end
variable {ox:Obj}
section
variable {v:ah}
def EX (P:Pin) (W:Wd) (h:dv) (e C:aC) (vs:Array ah) (m:Str->Option ah) (n:Nat):Prop:=
 ∃o,h.get? e=some o/\o.cls=.ref C/\o.data=.fields vs/\((o.dict=none/\∀x,m x=none)\/∃d,o.dict=some d/\d≠e/\fk P W d/\h.Ns d m/\h.DictLe d n)
theorem aau {K:ql} {x:aC} {od:Option Obj} {g:Tok} {R:vl->ax->Prop}
 (X:K.In s.heap) (m:K.lookup C=some (tJ gO q C N bs (i9 G) true sn sub ab col dd k0 k1 k2 k3 k5 "Exception.__new__")) (I:InstAt s.heap x ox C od) (ht:CQ K C name=some none)
 (h:∀b,aY (aZ prog w) A.in1 (Builtin.ObjectAttr.storeInOwnDict (.ref x) (.ref C) (.str name g) name v b)
   (λfU s'=>match fU with | .done f=>R (.ok f) s' | .again c'=>c'.quiet=true/\nP (aZ prog w) A c' R s') (λe s'=>R (.error e) s') s):
 nP (aZ prog w) A (.call (.builtin "object.__setattr__") ⟨[.ref x,.str name g,v],[]⟩) R s:=by
 have c:=PySem.F.store_object;obtain ⟨d,j,i⟩:∃d,clsIn K C=some d/\d.mro=.ref C::i9 G:=⟨_,by unfold clsIn;exact aa m rfl,rfl⟩;have sub:vg (aZ prog w) s.heap (OD (.ref x) (.type "object")) true:=I.type.andThen (looks_mroIn X (by unfold mroIn;refine aa (j ..) (aa (Option.bind_some ..) (aa (i ..) ?_));simp [i9]));refine OA c.slot.plain c.entry (@check_slot (aZ prog w) _ _ s "object.__setattr__" "object" "__setattr__" (.ref x) [.str name g,v] [] _ c.kind c.split sub (c.args (.ref x) (.str name g) v) ?_);refine aQ (GX.mp ht) λiW l hr=>?_;have n:vg (aZ prog w) s.heap (mroOf (.ref C)) d.mro:=(G7 X j).andThen .now;have k:vg (aZ prog w) s.heap (Builtin.ObjectAttr.storeTaker? iW) none:=by
  induction iW using aW with
  |none=>simp at hr;exact .now
  |some a=>refine aQ (gJ.mp hr) λb hb e=>(looks_takesIn X hb).andThen ?_;induction b using dy<;>first | exact .now | contradiction
 rw [osa_eq];rw [refuse_eq];refine aO (aO (I.type.here (aO (n.here ?_))));refine aa (i ..) (aa (acs ..) (aa (acs ..) (aa (PySem.F.store_Exception.passes ..) ?_)));refine bD (aO (I.type.here (aO ((zG X l).here (aO (k.here ?_))))));exact h _
theorem atE {fi a:Nat} {vs:Array ah} {Q:Unit->ax->Prop} (K:cL I)
 (X:r5 I gO q N G bs sn sub ab col dd k0 k1 k2 k3 k5 fi) (J:aF prog w I P W O s.heap) (ho:fk P W e) (hE:EX P W s.heap e (I.cls bQ) vs m n) (ha:a∈attrL) (F:n<1000)
 (h:∀h' tk,aF prog w I P W O h'->EX P W h' e (I.cls bQ) vs (λx=>if x=nm a then some v else m x) (n+1)->Q () {s with heap:=h',toks:=tk}):
 aY (aZ prog w) A (setAttr (.ref e) (nm a) v) Q E s:=by
 refine kI hE λo g i C z=>?_;have oj:vr o=true:=by unfold vr;exact aa C rfl
 have ht:CQ I.K (I.cls bQ) (nm a)=some none:=by unfold CQ;refine aa (K.q7 bQ cN a ha) ?_;rfl
 have h1:=K.m6 bQ cN;refine aQ (any_some h1) λcd m6 sP=>?_;have fU:∀(d:aC) (j:dv) (b:Nat),j.get? e=some {o with dict:=some d}->d≠e->aF prog w I P W O j->fk P W d->j.Ns d m->j.DictLe d n->
  aY (aZ prog w) A.in1 (Builtin.ObjectAttr.storeInDict d (.str (nm a) b) (nm a) v)
   (λfU s'=>match fU with | .done f=>(match (Except.ok f:vl) with | .ok (.ret _)=>Q () s' | .ok _=>False | .error e=>E e s') | .again c'=>c'.quiet=true/\nP (aZ prog w) A c' (λr s'=>match r with | .ok (.ret _)=>Q () s' | .ok _=>False | .error e=>E e s') s')
   (λe s'=>match (Except.error e:vl) with | .ok (.ret _)=>Q () s' | .ok _=>False | .error e=>E e s') {s with heap:=j,toks:=s.toks+1}:=by
  intro d j b B p J0 od t y;refine aO (bD (aO (XD t y (abG F ag) λh' R sb hO=>?_)));refine oO (id R) λo1 Q0 QZ g1 Y _=>?_;have H:=hO o1 Q0 QZ g1 Y;refine aO (acE g1 (by refine bA Y ?_;exact acq (by refine aa mG ?_;(split at H;(rename_i L;exact ak 0x244000001fca00833e83f22044400012 H F);(rename_i L;exact ak 0x910000007f28020cfa0fc8811122100012 H F)))) ?_);refine bD (h _ _ (J0.but od λV o' nb q=>(sb.2 V nb).trans q) ⟨_,(sb.2 e (bC p)).trans B,i,C,.inr ⟨d,rfl,p,od,R,λo2 sE sD g2 k=>?_⟩⟩);have:=hO o2 sE sD g2 k
  (split at this;(rename_i L;exact ak 0x9108020c400011 this);(rename_i L;exact ak 0x24420083122100011 this))
 rcases z with ⟨U,D⟩ | ⟨d,l,p,od,t,y⟩
 . have c:InstAt s.heap e o (I.cls bQ) none:=⟨g,i,oj,by refine aa U ?_;trivial⟩;refine OH J.K c X.sta (aau J.K X.ob c ht λb=>?_);refine aO (bD (aO (aO (Hm g ?_))));refine aa i <| aO (N4 (G7 J.K m6) ?_)
   refine aa sP <| oM (if_neg ag) ?_
   obtain ⟨oc,Mn,Mm,M⟩:=o;subst i C U;refine oM (if_neg (by simp [typeHasDict])) ?_;have T:=oQ (jK g);have S:(s.heap.push {cls:=.type "dict",data:=.dict #[]}).get? e=some {cls:=.ref (I.cls bQ),dict:=none,data:=.fields vs,slots:=M}:=nH _ g;refine aO (wpAny_alloc (aO (wpAny_update S ?_)));refine bD ?_;have J1:aF prog w I P W O (s.heap.push {cls:=.type "dict",data:=.dict #[]}):=J.keep (kF _ _);have J2:=J1.but ho (h':=(s.heap.push {cls:=.type "dict",data:=.dict #[]}).update e λo=>{cls:=o.cls,dict:=some s.heap.objs.size,data:=o.data,slots:=o.slots}) λV o' nb q=>by rw [js _ _ (bC nb)];exact q
   have Z:((s.heap.push {cls:=.type "dict",data:=.dict #[]}).update e λo=>{cls:=o.cls,dict:=some s.heap.objs.size,data:=o.data,slots:=o.slots}).get? s.heap.objs.size=some {cls:=.type "dict",data:=.dict #[]}:=by rw [js _ _ T];exact aa1 rfl rfl
   refine fU s.heap.objs.size _ _ (tr _ S rfl) (bC T) J2 (J.fresh (bT _)) ⟨_,#[],_,Z,rfl,λe he=>absurd he (λh=>nomatch h),λx=>by refine aa (D ..) ?_;rfl⟩ λo2 sE sD g2 k=>?_;rw [Z] at g2
   (injection g2 with g2;subst g2)
   (injection k with k;subst k)
   exact abR _
 . have c:∃u,InstAt s.heap e o (I.cls bQ) (some u):=by
    refine Cj (id t) λu es ep gD _=>⟨u,g,i,oj,by refine aa l ?_;exact gD⟩
   refine a8 c λu c=>OH J.K c X.sta (aau J.K X.ob c ht λb=>?_);refine aO (bD (aO (aO (Hm g ?_))));refine aa i <| aO (N4 (G7 J.K m6) ?_)
   refine aa sP <| oM (if_neg ag) <| aa l <| bD (fU d s.heap _ ?_ p J od t y)
   refine g.trans ?_;obtain ⟨oc,Mn,Mm,M⟩:=o;dsimp only at l;exact aa l rfl
end
variable {sf:Nat} {uk ua:ah}
section
variable {vs:Array ah} {l:List fw}
section
variable {fi:Nat}
theorem Nu {st:fw} {a x:Nat} {c:ah} {es:Array tq} {Q:lK->ax->Prop} (K:cL I) (X:r5 I gO q N G bs sn sub ab col dd k0 k1 k2 k3 k5 fi)
 (b:Dd ae.scope (.cP (.v sf) a (.v x)) st=true) (V:Lv P0 S ae A P W loc) (J:aF prog w I P W O s.heap) (Y:fk P W e) (R:EX P W s.heap e (I.cls bQ) vs m n) (hz:n<1000)
 (mb:P.fr ae.locals=some (c,.dict es ep)) (r:zu es) (T:ae.kindOf (nm sf)=some .local) (B:qw es (nm sf)=some (.ref e)) (U:lk x loc=some v)
 (h:∀d z u,aF prog w I P W O d->VR W v u->EX P W d e (I.cls bQ) vs (λy=>if y=nm a then some u else m y) (n+1)->Q .next {s with heap:=d,toks:=z}):
 aY (aZ prog w) A (exec st ae) Q E s:=by
 refine V3.el yE b λts vv pos b=>gU b λt b=>V3.el wB b λo' nn ap b=>?_
 . refine o5 b λL M h3 f g=>bB (jj L) λha k=>qd k <| V2.el iG f λid1 p1 f=>V2.el iG g λid2 p2 g=>?_
   . simp only [qi,Nz] at f g;refine bB f λp F=>?_;clear f;obtain ⟨⟨a1,a2⟩,a3⟩:=p;refine bB g λl b4=>?_;clear g;obtain ⟨⟨H,b2⟩,b3⟩:=l;refine bB (jj a1) λhx j=>?_;subst j;refine bB (jj H) λhs i=>?_;subst i;refine acr (vw (F0 V.lr J hx a2 U F λu Z=>?_) (vP a3)) (zk rfl);refine ct (J.pfr _ _ _ mb) λo o1 o2 o3=>vw (acD V.lr.fn T ⟨o,es,ep,o1,o3,r,λ_=>rfl⟩ B ?_) (vP b3);exact atE K X J Y R (by simpa using M) hz λd z C D=>h d z u C Z D
theorem EX.unS (X:P0.jM P S) (x:EX P W h e C vs m n):EX P0 W h e C vs m n:=by refine kI x λo a b c d=>⟨o,a,b,c,d.imp id ?_⟩;intro i;refine kI i λt j nd f k=>?_;clear i;have g:=λq=>(X.so t q).elim (λz=>z f.2.1) (λz=>z f.2.2.1);exact ⟨t,j,nd,⟨f.1,by refine ((X.ex t g).symm).trans ?_;exact f.2.1,by refine ((X.fr t g).symm).trans ?_;exact f.2.2.1,f.2.2.2⟩,k⟩
theorem aF.join (J:aF prog w I P W O h) {o:aV} (f:fk P W p.1) (g:fk P W p.2) (hr:OR prog w I (W.add p) p h o):aF prog w I P (W.add p) (O++[o]) h where
 con:=J.con
 pex:=J.pex
 pfr:=J.pfr
 kin:=J.kin
 dis:=J.dis
 len:=by show (W.μ++[p]).length=_;simp [J.len]
 obj j x q e d:=by
  rcases Ob j W.μ.length with c | c | c
  . rw [iv (by refine aa J.len.symm ?_;exact c)] at e;have u:W.μ[j]?=some q:=by
     have d:(W.μ++[p])[j]?=some q:=d;rwa [iv c] at d
    exact (J.obj j x q e u).mono (W.le_add p)
  . subst c;rw [W.add_at] at d;refine iM d ?_;rw [J.len] at e;simp at e;subst e;exact hr
  . exfalso;have:=(ez.mp d).1;have t:(W.add p).μ.length=W.μ.length+1:=by show (W.μ++[p]).length=_;simp
    exact aU 0x20204401011122100213 t this c
 sep j q e:=by
  by_cases c:j<W.μ.length
  . have d:W.μ[j]?=some q:=by
     have e:(W.μ++[p])[j]?=some q:=e;rwa [iv c] at e
    exact J.sep j q d
  . have t:=(ez.mp e).1;have l:(W.add p).μ.length=W.μ.length+1:=by show (W.μ++[p]).length=_;simp
    have:j=W.μ.length:=by exact bV (aU 0x20820c01011122100212 l t) (ak 283673363729 c)
    subst this;rw [W.add_at] at e;refine iM e <| ⟨⟨f.1,f.2.1,f.2.2.1⟩,g.1,g.2.1,g.2.2.1⟩
 inj i j q r mf ei ej:=by
  have out:∀k q,k<W.μ.length->(W.add p).μ[k]?=some q->W.μ[k]?=some q:=λk q v e=>by have e:(W.μ++[p])[k]?=some q:=e;rwa [iv v] at e
  have l:(W.add p).μ.length=W.μ.length+1:=by show (W.μ++[p]).length=_;simp
  have hi:=(ez.mp ei).1;have c:=(ez.mp ej).1;by_cases n:i<W.μ.length
  . by_cases m:j<W.μ.length
    . exact J.inj i j q r mf (out _ _ n ei) (out _ _ m ej)
    . have:j=W.μ.length:=by exact bV (aU 0x40020c49042084400112 c l) (ak 283673363729 m)
      subst this;rw [W.add_at] at ej;refine iM ej ?_;have a:=f.2.2.2 i q (out _ _ n ei);have b:=g.2.2.2 i q (out _ _ n ei);exact ⟨a.1,b.1,a.2,b.2⟩
  . have:i=W.μ.length:=by exact bV (aU 0x40020c49042084400112 hi l) (ak 283673363729 n)
    subst this;rw [W.add_at] at ei;refine iM ei ?_;have m:j<W.μ.length:=by exact (kL mf).elim (λs=>iu (aU 0x404449042084400113 c l s)) (λs=>ak 35195315028241 s)
    have a:=f.2.2.2 j r (out _ _ m ej);have b:=g.2.2.2 j r (out _ _ m ej);exact ⟨a.1.symm,a.2.symm,b.1.symm,b.2.symm⟩
@[elab_as_elim] theorem Il {a b:CS} {G:List fw->Prop} (h:jw sc (.seq a b) l=true) (k:∀s r,Dd sc a s=true->jw sc b r=true->G (s::r)):G l:=by
 induction l using cK with
 |nil=>contradiction
 |cons s r=>exact vC h (k s r)
@[elab_as_elim] theorem afv {G:List fw->Prop} (h:jw sc .nil l=true) (k:G []):G l:=by
 induction l using cK with
 |nil=>exact k
 |cons s r=>contradiction
theorem atz {k a:AV} (K:cL I) (FO:vz I) (X:r5 I gO q N G bs sn sub ab col dd k0 k1 k2 k3 k5 1000) (jf:∀od sl fd body fn,ai 1000=some fn->rX I 1000 fn od sl fd body->fd.scope.names.lookup (nm 89)=some .local)
 (Ki:A.depth<1000) (hF:AF P A) (J:aF prog w I P W O s.heap) (u:fk P W e) (hE:∃f,s.heap.get? e=some f/\f.cls=.ref (I.cls bQ)/\f.data=.fields vs/\f.dict=none) (hk:VR W k uk) (ha:VR W a ua)
 (h:∀s' m,aF prog w I P W O s'.heap->EX P W s'.heap e (I.cls bQ) vs m 3->(∀b,b<NN->OV W (lk b [(90,k),(91,a),(92,.str [])]) (m (nm b)))->dF s s'->Q .none s'):
 aY (aZ prog w) A (call (.ref (I.fn 1000)) [.ref e,uk,ua]) Q E s:=by
 have et:ai 1000=some ⟨[89,90,91,92],[.int (-1),.str []],Ig⟩:=by rfl
 refine qh (FO.fn 1000 _ et) λod sl fd body F=>?_;have Ux:=jf od sl fd body _ et F;have M:∃f,s.heap.get? e=some f/\f.data=.fields vs:=by obtain ⟨f,n,_,x2,_⟩:=hE;exact ⟨f,n,x2⟩
 refine xn (P8 (loc:=[(90,k),(91,a),(92,.str [])]) K FO F ag Ki hF J (by show 3<=4;decide) (by show 4-3<=2;decide) (λus D rD j x v i=>?_) λae us S P' bJ R j Kz V J' ks eH Kt=>?_)
 . cases rD with
   |cons r1 r2=>
    cases r2 with
    |cons r3 r4=>
     cases r4;rename_i d1 d2;have j:us=[.ref e,uk,ua,d2]:=j;refine aa j ?_;simp only [eh,ry] at i;split at i
     . rename_i q;(injection i with i;subst i);refine aa q.symm ?_;exact ⟨ag,uk,by simp,hk⟩
     . split at i
       . rename_i q;(injection i with i;subst i);refine aa q.symm ?_;exact ⟨ag,ua,by simp,ha⟩
       . split at i
         . rename_i q;refine iM i ?_;refine aa q.symm ?_;exact ⟨ag,d2,by simp,r3⟩
         . contradiction
 . refine a8 (j) λt j=>?_;have l:jw ae.scope Ig body=true:=by refine aa R ?_;exact F.ck
   refine oO (V.lr.lo) λc es ep f1 f2 f3=>?_;have z:qw es (nm 89)=some (.ref e):=by
    refine fv (Kz) λo i8 ki g1 g2 g3 g4=>ct (J'.pfr _ _ _ f1) λo' p g2' y=>?_;rw [g1] at p
    (injection p with p;subst p)
    rw [g2] at y
    (injection y with y;subst y)
    refine ((g4 ..)).trans (aa (j ..) ?_);have pJ:ae.kindOf (nm 89)=some .local:=by show ae.scope.names.lookup (nm 89)=_;refine aa R ?_;exact Ux
    show zy ae.kindOf ((nm 89,mF e)::_) _ (nm 89)=_;unfold zy;rw [if_pos pJ,PQ ?_,if_pos rfl];intro hm;have e1:(([nm 90,nm 91,nm 92]:List Str).zip ([uk,ua]++t)).map (·.1)=([nm 90,nm 91,nm 92]:List Str).take ([uk,ua]++t).length:=LS;have nf:nm 89∈(([nm 90,nm 91,nm 92]:List Str).zip ([uk,ua]++t)).map (·.1):=hm;rw [e1] at nf;have:=tB nf;revert this;decide+kernel
   have T:ae.kindOf (nm 89)=some .local:=by show ae.scope.names.lookup (nm 89)=_;refine aa R ?_;exact Ux
   have nS:¬S e:=λhS=>by refine aQ (M) λf n _=>N9 _ (tD (jK n) (eH e hS))
   have L:fk P' W e:=⟨u.1,by refine ((V.ext.ex e nS)).trans ?_;exact u.2.1,by refine ((V.ext.fr e nS)).trans ?_;exact u.2.2.1,u.2.2.2⟩;have JY:EX P' W bJ.heap e (I.cls bQ) vs (λ_=>none) 0:=by refine kI (hE) λf n x2 x3 x4=>⟨f,Kt _ _ n,x2,x3,.inl ⟨x4,λ_=>rfl⟩⟩
   . refine Il l λt1 r c1 l=>Il l λt2 r c2 l=>Il l λt3 r c3 l=>afv l ?_;obtain ⟨hp,g,d,tk,os⟩:=bJ;refine zM (Nu K X c1 V J' L JY ag f1 f2 T z (v:=k) (by simp [eh,ry]) λh1 tk1 u1 J1 r1 E1=>?_);refine zM (Nu (s:=⟨h1,g,d,tk1,os⟩) K X c2 V J1 L E1 ag f1 f2 T z (v:=a) (by simp [eh,ry]) λh2 tk2 u2 J2 r2 E2=>?_);refine zM (Nu (s:=⟨h2,g,d,tk2,os⟩) K X c3 V J2 L E2 ag f1 f2 T z (v:=.str []) (by simp [eh,ry]) λh3 tk3 u3 J3 r3 E3=>?_);refine Hk <| h ⟨h3,g,d,tk3,os⟩ _ (J3.unpin V.ext λ_ _ _ q=>q).1 (E3.unS V.ext) (λb hb=>?_) ⟨ks.gens,ks.os⟩
     have U:(90:Nat)<NN:=by decide
     have Y:(91:Nat)<NN:=by decide
     have Z:(92:Nat)<NN:=by decide
     by_cases H:b=92
     . refine aa H ?_;refine aa (if_pos rfl) ?_;exact .some r3
     . refine aa (if_neg λq=>H (K.rE _ _ hb Z q)) ?_;by_cases C:b=91
       . refine aa C ?_;refine aa (if_pos rfl) ?_;exact .some r2
       . refine aa (if_neg λq=>C (K.rE _ _ hb Y q)) ?_;by_cases B:b=90
         . refine aa B ?_;refine aa (if_pos rfl) ?_;exact .some r1
         . refine aa (if_neg λq=>B (K.rE _ _ hb U q)) ?_;have:lk b [(90,k),(91,a),(92,AV.str [])]=none:=by
            simp only [eh,ry];exact bK (if_neg (bC B)) (bK (if_neg (bC C)) (bK (if_neg (bC H)) rfl))
           refine aa this ?_;exact .none
theorem atB {x:Sem ah} {Q:lK->ax->Prop} (o:A.handled=none)
 (h:aY (aZ prog w) A x (λv a=>∃e b vs,v=.ref e/\a.heap.get? C=some (tJ gO q C N bs (i9 G) true sn sub ab col dd k0 k1 k2 k3 k5 "Exception.__new__")/\
   a.heap.get? e=some b/\b.cls=.ref C/\b.data=.fields vs/\vs[1]?=some .none/\E (.ref e) a) E s):
 aY (aZ prog w) A (raiseStmt ae (some x) none) Q E s:=by
 have l:(mF C::i9 G).contains (.type "BaseException")=true:=rfl;unfold raiseStmt;refine aO (oY h (λv a k=>?_) λ_ _ x=>x);refine Nm (k) λe b vs c hC n i j f m=>?_;clear k;refine aa c ?_;obtain ⟨hp,g,d,u,os⟩:=a;obtain ⟨oc,t,r,p⟩:=b;dsimp only at i j;subst i j
 repeat (first | with_reducible refine oX n ?_ | with_reducible refine oX hC ?_ | (with_reducible refine CR hC ?_;refine aa l ?_) | wp_step)
 refine aa f <| bD <| oM (if_neg (λh=>nomatch h)) <| bD (wpAny_raiseNew_none o m)
theorem AF.underT (b:AF P A) {rest:List ah}:AF P (A.under (.builtin "type.__call__" ⟨.ref C::rest,[]⟩)):=by
 have c:(tn "type.__call__" ⟨.ref C::rest,[]⟩).envs=[]:=by rfl
 refine aQ b λa e q=>⟨a,?_,q⟩;refine aa c ?_;exact e
theorem arI {c:Nat} (K:cL I) (FO:vz I) (X:r5 I gO q N G bs sn sub ab col dd k0 k1 k2 k3 k5 1000) (jf:∀od sl fd body fn,ai 1000=some fn->rX I 1000 fn od sl fd body->fd.scope.names.lookup (nm 89)=some .local)
 (hl:SL prog w I n es):SS prog w I n (.raise c es):=by
 intro st ae A P0 P S W O s loc Q E f V z J h;refine V3.el al4 f λo0 o1 pos f=>yr f λx0 f=>V4.el sW f λg l ks p f=>V2.el iG f λid np f=>ji f λf=>UN f λf=>?_
 . refine o5 f λh1 h2 h3 h4 Z=>bB (jj h1) λhx sC=>?_;subst sC;have jC:=eq_of_beq h2;subst jC;dsimp only [aH] at h;refine oM (arm_exec_Raise ..) ?_;have T:=X.ob;have call:aY (aZ prog w) A (oW (.Call (.Name (nm bQ) np) l [] p) ae) (λv y=>∃e F vs,v=.ref e/\y.heap.get? (I.cls bQ)=some (tJ gO q (I.cls bQ) N bs (i9 G) true sn sub ab col dd k0 k1 k2 k3 k5 "Exception.__new__")/\
    y.heap.get? e=some F/\F.cls=.ref (I.cls bQ)/\F.data=.fields vs/\vs[1]?=some .none/\E (.ref e) y) E s:=by
    refine E0 h4 Z (λD=>Az K V.lr J h3 (K.Ew bQ cN) D) <| hl Z (.refl _) V.lr z V.af J (bY.dp V h λvs ay W1 xs H C le i r1 ks V1 r=>?_)
    clear C;refine a2E (M:=λo=>bY prog w I P0 S ae A W1 H o Q E) r1 r (λh=>h) λk uk a ua rk ra r=>?_;rw [if_pos rfl] at r;have wk:=i.K _ _ T;refine ⟨⟨.machine,λQ E D=>?_⟩,?_⟩
    . obtain ⟨hp,g,d,tk,os⟩:=H;exact wpAny_keeperOf_exc wk D
    refine zo (K.yG 1000 (by rfl)) λoc Ml fd sl k3 k4=>?_;obtain ⟨hp,g,d,tk,os⟩:=H;refine atw wk (zG i.K X.ini) (i.K _ _ k3) k4 (λY e ge hm=>?_) (by show 2<=_;refine aa mG ?_;decide);obtain ⟨Kt,auK,t,he,htn,ht⟩:=hm;have Jk:aF prog w I P W1 ay Y:=i.keep Kt;have ho:fk P W1 e:=i.fresh ge;refine atz (s:=⟨Y,g,d,tk,os⟩) K FO X jf ?_ V1.af.underT Jk ho ⟨_,he,rfl,rfl,rfl⟩ rk ra λs' m R E3 om U=>⟨rfl,?_⟩
    . have:=z.Ai;have hw:(tn "type.__call__" ⟨[.ref (I.cls bQ),uk,ua],[]⟩).weight=1:=by rfl
      show A.depth+(tn "type.__call__" ⟨[.ref (I.cls bQ),uk,ua],[]⟩).weight<1000;refine aa hw ?_;exact ak 0xfa0fc89009467087e448836802011 this
    refine kI (E3) λo g1 g2 g3 g4=>?_;rcases g4 with ⟨z1,L⟩ | ⟨j,z1,L,z3,z4,z5⟩
    . exfalso;have:=om 90 ag;rw [L] at this;cases this
    . have oj:vr o=true:=by unfold vr;exact aa g3 rfl
      have B:OR prog w I (W1.add (e,j)) (e,j) s'.heap (.ba bQ [(GG.ek,k),(GG.ea,a),(GG.ed,.str [])]):=
       ⟨.inr rfl,bC L,⟨o,g1,g2,oj,z1⟩,z5,m,z4,λb hb=>(om b hb).mono (W1.le_add _)⟩
      have J2:=R.join ho z3 B;refine d9 e o _ ⟨rfl,R.K _ _ T,g1,g2,g3,rfl,?_⟩;refine r P (W1.add (e,j)) (e,j) s' loc (W1.le_add _) (V1.mono (W1.le_add _)) J2 (by have:=W1.add_at (e,j);rw [i.len] at this;exact this) ⟨o,_,g1,g3,by simp,.inl rfl⟩ ⟨U.gens,U.os⟩
   refine aO (vx ?_);exact atB z.q6 (aO (oY call (λv uR u=>aO (vx (bD u))) λ_ _ x=>x))
end
end
variable {Xv:ah}
section
variable {e:Option ah} {a:Nat}
section
variable {fi:Nat}
variable {t:Nat}
theorem atx {e:aC} {Q:Unit->ax->Prop} (hC:h.get? C=some (tJ gO q C N bs (i9 G) true sn sub ab col dd k0 k1 k2 k3 k5 "Exception.__new__"))
 (j:h.get? e=some oe) (c:oe.cls=.ref C) (i:Q () ⟨h,g,d,t,os⟩):aY M A (G3 "BaseException.__getattribute__" ⟨[.ref e,Xv],[]⟩) Q E ⟨h,g,d,t,os⟩:=by
 have f:builtinKind "BaseException.__getattribute__"=some .slot:=by decide+kernel
 have a:splitId "BaseException.__getattribute__"=some ("BaseException","__getattribute__"):=by decide+kernel
 have b:(mF C::i9 G).contains (.type "BaseException")=true:=rfl;have k:=PySem.F.args_bexc_ga (.ref e) Xv;simp only [G3,f,a];refine aO ?_
 . unfold OD
   repeat (first | (with_reducible refine oX j ?_;refine aa c ?_) | (with_reducible refine CR hC ?_;refine aa b ?_) | wp_step)
   exact i
theorem atD {e:aC} {y:ah} (K:cL I) (X:r5 I gO q N G bs sn sub ab col dd k0 k1 k2 k3 k5 fi) (b:I.K.In h)
 (r:a∈attrL) (i:h.get? e=some oe) (f:oe.cls=.ref (I.cls bQ)) (l:vr oe=true) (s:oe.dict=some dx) (v:h.Ns dx m) (u:m (nm a)=some y) (C:handedIn y=true)
 (x:∀D,Q y ⟨h,g,d,D,os⟩):aY (aZ prog w) A (getAttr (.ref e) (nm a) true) Q E ⟨h,g,d,t,os⟩:=by
 have hC:=b _ _ X.ob;have n:vg (aZ prog w) h (vu (.ref (I.cls bQ)) "__getattribute__") _:=zG b X.xga;have o:vg (aZ prog w) h (vu (.ref (I.cls bQ)) "__getattr__") _:=zG b X.xgk;have p:vg (aZ prog w) h (vu (.ref (I.cls bQ)) (nm a)) _:=zG b (K.q7 bQ cN a r);have f3:=abY.ga.bind (.ref e);have z:(true&&onTheHeap (zv "BaseException.__getattribute__"))=false:=by rfl
 have k:(zv "BaseException.__getattribute__"==zv "object.__getattribute__")=false:=by decide+kernel
 have B:(onTheHeap (mF (I.cls bQ))&&zv "BaseException.__getattribute__"==zv "object.__getattribute__")=false:=by refine bA k ?_;rfl
 unfold getAttr getAttrBy
 repeat (any_goals (first | assumption | with_reducible refine n.at ?_ | with_reducible refine o.at ?_ | (with_reducible refine oX i ?_;refine aa f ?_) | wp_step))
 refine OA abY.ga.plain PySem.F.entry_bexc_ga (atx hC i f ?_);have j:∀c,oe.data≠.cls c:=λc e=>by unfold vr at l;rw [e] at l;contradiction
 unfold mA.«object.__getattribute__»
 repeat (first | with_reducible refine p.at ?_ | (with_reducible refine oX i ?_;refine aa f ?_) | wp_step)
 split
 . rename_i c m6;exact absurd m6 (j c)
 unfold instanceDict
 repeat (first | (with_reducible refine oX i ?_;refine aa f ?_) | with_reducible refine oX hC ?_ | wp_step)
 refine aa s ?_
 repeat (first | (with_reducible refine wpAny_nsGet v ?_;refine aa u ?_) | wp_step)
 refine PySem.W.handed_on C <| x _
theorem AF.mark (h:AF P A):AF P (A.mark e):=h
theorem aix {Q:Unit->ax->Prop} (V:Lv P0 S ae A P W loc) (J:aF prog w I P W O s.heap) (K:ae.kindOf (nm n)=some .local)
 (h:∀P' f X,Lv P0 S ae A P' W []->aF prog w I P' W O f->Q () {s with heap:=f,toks:=X}):aY M A (do bindName ae (nm n) .none;acw ae (nm n) pos) Q E s:=by
 refine oO V.lr.lo λc es ep D F h3=>ct (J.pfr _ _ _ D) λo U o2 o3=>wpAny_nameGoes K ⟨o,es,ep,U,o3,F,λ_=>rfl⟩ (by refine aa V.lr.fn ?_;rfl) λf m' N k=>?_;refine fv N λj g i C u t f'=>?_;have p:P0.jM (P.frm ae.locals j.cls (.dict g i)) S:=by
  refine ⟨V.ext.ex,λb hb=>?_,V.ext.no,λb hb=>?_⟩
  . show (if b=ae.locals then _ else P.fr b)=P0.fr b;refine (if_neg λq:b=ae.locals=>hb (q▸V.sl)).trans ?_;exact V.ext.fr b hb
  . by_cases q:b=ae.locals
    . right;subst q;refine aa Pin.frm_at ?_;exact oU _
    . rcases V.ext.so b hb with z | z
      . exact .inl z
      . right;show (if b=ae.locals then _ else P.fr b)≠none;refine aa (if_neg q) ?_;exact z
 refine h (P.frm ae.locals j.cls (.dict g i)) f _ ?_ ?_
 . refine ⟨p,⟨V.lr.fn,V.lr.gl,V.lr.bl,⟨_,g,i,Pin.frm_at,t,λy Y R B T=>(by contradiction)⟩,λy Y R B T=>(by contradiction),V.lr.cl⟩,?_,V.sl,V.xl,λid c H=>?_,V.inj,V.fm,V.tp⟩
   . refine V.af.at λL c d v x n=>?_;by_cases q:L=ae.locals
     . subst q;exact dE _ _ ⟨Pin.frm_at,V.xl,λvs z=>by contradiction⟩
     . exact dE c d ⟨(by refine (if_neg q).trans ?_;exact v),x,n⟩
   . refine fH (V.ce id c H) λa1 a2 l=>⟨a1,?_,l⟩;refine (if_neg λq=>by obtain ⟨_,_,z,_⟩:=l;rw [q,V.xl] at z;contradiction).trans ?_;exact a2
 . refine J.repin V.ext p (λb z nb q=>?_) (λa z G q=>?_) (λa m r G q=>?_)
   . exact k.extBut b z (λq=>nb (q▸V.sl)) q
   . have q:P.ex a=some z:=q;exact k.extBut a z (λe=>by rw [e,V.xl] at q;contradiction) (J.pex a z q)
   . by_cases e:a=ae.locals
     . subst e;rw [Pin.frm_at] at q;cases q;exact ⟨j,C,rfl,u⟩
     . have q:(if a=ae.locals then some (j.cls,Gv g i) else P.fr a)=some (m,r):=q;rw [if_neg e] at q;refine aQ (J.pfr a m r q) λz Z z2=>⟨z,k.extBut a z e Z,z2⟩
theorem Lv.mark (V:Lv P0 S ae A P W loc):Lv P0 S ae (A.mark e) P W loc:=⟨V.ext,V.lr,V.af,V.sl,V.xl,V.ce,V.inj,V.fm,V.tp⟩
theorem Lv.unmark (V:Lv P0 S ae (A.mark e) P W loc):Lv P0 S ae A P W loc:=⟨V.ext,V.lr,V.af,V.sl,V.xl,V.ce,V.inj,V.fm,V.tp⟩
theorem an0:nm bQ=("DesignError":Str):=by decide+kernel
theorem aqx {M:RS->Prop} (h:M (FA a (.dm r O))) (k0:M .aq->False):∃l v,O[r]?=some (.ba bQ l)/\lk a l=some v/\M (.ret (.aw [.none,v]) O):=by
 replace h:M (aX .aq O r λc l=>match lk a l with | some v=>if c=bQ then .ret (.aw [.none,v]) O else .aq | none=>.aq):=h;delta aX at h;generalize O[r]?=b at h⊢;induction b using aW with
 |none=>exact (k0 h).elim
 |some o=>
  induction o using aV.casesOn with
  |ba c l=>
   replace h:M (match lk a l with | some v=>if c=bQ then .ret (.aw [.none,v]) O else .aq | none=>.aq):=h;generalize el:lk a l=b at h;induction b using aW with
   |none=>exact (k0 h).elim
   |some v=>
    by_cases e:c=bQ
    . subst e;exact ⟨l,v,rfl,el,(if_pos rfl:(if bQ=bQ then RS.ret (.aw [.none,v]) O else .aq)=_)▸h⟩
    . exact (k0 ((if_neg e:(if c=bQ then RS.ret (.aw [.none,v]) O else .aq)=_)▸h)).elim
  |_=>exact (k0 h).elim
theorem arK {e:CE} {x:Nat} (K:cL I) (X:r5 I gO q N G bs sn sub ab col dd k0 k1 k2 k3 k5 fi) (he:SE prog w I n e):SS prog w I n (.w2 e x a):=by
 intro st ae A P0 P S W O s loc Q E c V hA J h;refine V5.el al5 c λb hs o f p10 c=>?_;refine gU c λr c=>?_;refine V2.el Li c λd p1 c=>?_;refine yr c λv c=>?_;refine gU c λhd c=>?_;refine ji c λc=>?_;refine ji c λc=>?_;refine bB (dP.mp c) λsP F=>?_;refine aam (akl sP) λp2 p8 p9 tt H hx ht c2 c3 c6 c7 B=>?_;refine aa H ?_;refine atv (as1 ht) λp3 p4 p5 p6 kk p7 H q7 c9=>?_;refine aa H ?_
 . have q1:=True.intro;have L:a∈attrL:=by simpa using c9
   have T:ae.kindOf (nm x)=some .local:=B;have U:nu ae.scope (nm x)=true:=by unfold nu;exact aa B rfl
   have Z:rL ae.scope (nm x)=true:=by unfold rL;exact aa B rfl
   refine wpAny_Try_except (zM (OM (he F (.refl _) V.lr hA V.af J ?_)));dsimp only [aH] at h;generalize bh GG (aj GG ai n) e loc O=z9 at h⊢;induction z9 using aJ.casesOn with
   |aq=>exact h.elim
   |ok v1 ay=>exact λW1 u g le C r1 k1=>h P W1 u g loc le (V.mono le) C r1 k1
   |dm r ay=>
    refine qg (aqx (M:=λo=>bY prog w I P0 S ae A W s o Q E) h λh=>h) λl v1 er el h=>?_;intro W1 p g le C hp xs k1;have V1:=V.mono le;refine a8 (V1.tp) λyZ ho=>?_;refine Md V1.af ho V1.fm C hp xs λh2 J2 x2=>?_;refine Aw (s:={g with heap:=h2}) J2 hp x2 λh3 j x3=>?_;have wm:=j.K _ _ X.ob;refine uY (mH.A6 (j.obj _ _ _ er hp)) λox3 od3 m3 R3 t hd3 sQ N3 om3=>?_;obtain ⟨g3,bM,no3,_⟩:=t;refine wpAny_handleBy_cons (codeAny_handlers_test ?_) (by intro q;contradiction);refine vw (Az K (s:={g with heap:=h3}) V1.lr j c2 (by refine bA an0.symm ?_;exact K.Ew bQ cN) ?_) (vP c3);obtain ⟨hp0,g0,m,t0,i⟩:=g;refine wpAny_excMatches_sub_self wm g3 bM (by simp [i9]) ?_;refine codeAny_handlers_suite_as ?_;refine Aw (s:=⟨h3,g0,m,t0,i⟩) j hp x3 λh4 J4 x4=>?_;refine wU K V1.mark (s:=⟨h4,g0,m,t0,i⟩) J4 hx U (.ref hp) λP5 h5 t5 V5 k=>?_;refine uY (mH.A6 (k.obj _ _ _ er hp)) λox5 od5 m5 R5 z R TP N5 om5=>?_;obtain ⟨g5,lQ,no5,_⟩:=z;have d:=om5 a q7;rw [el] at d;generalize D:m5 (nm a)=z9;induction z9 using aW with
    |none=>rw [D] at d;contradiction
    |some y=>
     simp only [D] at d;cases d with
     |some hv=>
      refine zM (OM (wpAny_Tuple (CT (acy (CT ?_ rfl)) rfl)));refine aa (acm ..) (aa (H3 (by rfl) ..) ?_);refine aO (vw (F0 V5.lr (s:=⟨h5,g0,m,t5,i⟩) k hx Z (by rw [yI,if_pos rfl]) (by simpa using c7) λu hu=>?_) (vP c6));have Y:u=.ref p.1:=by
       obtain ⟨_,KG,rfl⟩:=hu.lE
       . simp only [hp] at KG;refine iM KG ?_;rfl
      subst Y;refine aO (vx (aO (nQ (atD K X k.K L g5 lQ no5 R N5 D hv.To λtk=>?_))));refine aO (acC (bD (Hl ?_)));refine ⟨by show 2<=qy;refine aa mG ?_;decide,?_⟩;exact yT (vs:=[.none,v1]) (s:=⟨h5,g0,m,tk,i⟩) (Q:=λu s'=>aY (aZ prog w) A (do bindName ae (nm x) .none;acw ae (nm x) p9) (λ_ uR=>Q (.ret u) uR) E s') k (.cons .none (.cons hv .nil)) (by show 2<=SZ;decide) λW6 u6 s6 Wm J6 r6 k6=>
       aix (V5.unmark.mono Wm) J6 T λP7 h7 t7 V7 J7=>h P7 W6 u6 {s6 with heap:=h7,toks:=t7} [] (le.trans Wm) V7 J7 r6 ⟨k6.gens.trans k1.gens,k6.os.trans k1.os⟩
end
end
structure OX (prog:cU) (w:bU) (I:KI) (n:Nat) (c:CS):Prop where
 s:SS prog w I n c
 k:SK prog w I n c
theorem arc {c:CS} (h:∀sc l,jw sc c l=false):SK prog w I n c:=by intro l ae A P0 P S W O s loc Q E a V b J d;rw [h] at a;contradiction
theorem adi (K:cL I) (FO:vz I) (X:r5 I gO q N G bs sn sub ab col dd k0 k1 k2 k3 k5 1000) (jf:∀od sl fd body fn,ai 1000=some fn->rX I 1000 fn od sl fd body->fd.scope.names.lookup (nm 89)=some .local) (C:oZ prog w I n) (c):OX prog w I n c:=by
 have ac:=λc=>adh K C c;have d:∀c:CS,(∀sc l,jw sc c l=false)->SS prog w I n c->OX prog w I n c:=λc h k=>⟨k,arc h⟩;induction c with
 |aq=>
  refine ⟨?_,?_⟩
  . intro st ae A P0 P S W O s loc Q E g V j J h;dsimp only [aH] at h;exact h.elim
  . intro st ae A P0 P S W O s loc Q E g V j J h;dsimp only [aH] at h;exact h.elim
 |nil=>refine ⟨?_,arb⟩;intro st ae A P0 P S W O s loc Q E g V j J h;exact (uZ g).elim
 |seq a b f hb=>refine ⟨?_,ard f.s hb.k⟩;intro st ae A P0 P S W O s loc Q E g V j J h;exact (uZ g).elim
 |aK x e=>exact d _ (λ_ _=>rfl) (arv K (ac e).e)
 |mN x di y it=>exact d _ (λ_ _=>rfl) (arx K (ac di).e (ac it).e)
 |fC xs e=>exact d _ (λ_ _=>rfl) (arz K (ac e).e)
 |cP o a e=>exact d _ (λ_ _=>rfl) (arw K (ac o).e (ac e).e)
 |kR o i e=>exact d _ (λ_ _=>rfl) (ary (ac o).e (ac i).e (ac e).e)
 |qH x op e=>exact d _ (λ_ _=>rfl) (arA K (ac e).e)
 |eO e=>exact d _ (λ_ _=>rfl) (arC (ac e).e)
 |ext o e=>exact d _ (λ_ _=>rfl) (arD K (ac o).e (ac e).e)
 |ite c a b f hb=>exact d _ (λ_ _=>rfl) (arG (ac c).t f.k hb.k)
 |uU c a f=>exact d _ (λ_ _=>rfl) (arL (ac c).t f.k)
 |fV x it a f=>exact d _ (λ_ _=>rfl) (arE K (ac it).e f.k)
 |lZ xs it a f=>exact d _ (λ_ _=>rfl) (arF K (ac it).e f.k)
 |ret e=>exact d _ (λ_ _=>rfl) (arJ (ac e).e)
 |cont=>exact d _ (λ_ _=>rfl) arB
 |BG=>exact d _ (λ_ _=>rfl) arH
 |raise c es=>exact d _ (λ_ _=>rfl) (arI K FO X jf (ac es).l)
 |w2 e x a=>exact d _ (λ_ _=>rfl) (arK K X (ac e).e)
theorem asU:∀f fn,ai f=some fn->fn.ds.length<=fn.ps.length:=by
 have:∀p∈fM,p.2.ds.length<=p.2.ps.length:=by decide
 have key:∀(l:List (Nat×Fn)),(∀p∈l,p.2.ds.length<=p.2.ps.length)->∀f fn,lk f l=some fn->fn.ds.length<=fn.ps.length:=by
  intro l;induction l with
  |nil=>intro _ f fn h;exact cX h
  |cons p l c=>
   intro a f fn h;obtain ⟨g,b⟩:=p;simp only [eh] at h;split at h
   . cases h;exact a (g,fn) cN
   . exact c (λp hp=>a p (cu _ hp)) f fn h
 exact key fM this
theorem afn (K:cL I) (FO:vz I) (X:r5 I gO q N G bs sn sub ab col dd k0 k1 k2 k3 k5 1000) (jf:∀od sl fd body fn,ai 1000=some fn->rX I 1000 fn od sl fd body->fd.scope.names.lookup (nm 89)=some .local):∀n,oZ prog w I n:=by
 intro l;induction l with
 |zero=>exact afp
 |succ n a=>exact afo K FO asU λc=>(adi K FO X jf a c).k
end Internal
namespace Internal
open PySem
variable {f:Int} {fn:Fn} {args l:List AV} {loc au:aB} {n r c a b k:Nat} {O O':AH} {ds:List nO} {v:AV} {G:GT} {cl:Nat->List AV->AH->aJ AV} {rest:CS}
section
variable {x y:Int}
theorem aJ.C3 {b c:Type} (a) (O) (f:b->AH->aJ c):(aJ.ok a O).bind f=f a O:=rfl
theorem BW {b:Type} (a:b) (O) (f):(aJ.ok a O).dp f=f a O:=rfl
theorem EJ {a:Type} (x y:Nat) (v:a) (l):lk x ((y,v)::l)=if y=x then some v else lk x l:=eh x y v l
section
variable (G:GT) (cl:Nat->List AV->AH->aJ AV)
def VU (di:CE) (x:Nat) (loc:aB) (y:AV) (O:AH):aJ AV:=iX y O.length (λv O=>bh G cl di ((x,v)::loc) O) (dG y O) 0 (O++[.lst []])
theorem agx (s) (loc) (O):bh G cl (.cs s) loc O=.ok (.str s) O:=rfl
theorem agw (di) (x) (it) (loc) (O):bh G cl (.comp di x it) loc O=(bh G cl it loc O).bind (VU G cl di x loc):=rfl
def aqv (b:CS) (r:RS):RS:=r.seq (aH G cl b)
def VS (x:Nat) (loc:aB) (v:AV) (O:AH):RS:=.next (up x v loc) O
def VT (x:Nat) (op:oS) (loc:aB) (a b:AV) (O:AH):RS:=H5 x op loc O a b
def Eu (x:Nat) (a:CS) (loc:aB) (y:AV) (O:AH):RS:=d8 y (gL x) (aH G cl a) (dG y O) 0 loc O
def VV (xs:List Nat) (a:CS) (loc:aB) (y:AV) (O:AH):RS:=d8 y (jN xs) (aH G cl a) (dG y O) 0 loc O
def amc (c:Nat) (vs:List AV) (O:AH):RS:=Hq .aq vs λk a=>if c=bQ then .dm O.length (O++[.ba bQ [(G.ek,k),(G.ea,a),(G.ed,.str [])]]) else .aq
theorem aqB (loc) (O):aH G cl .nil loc O=.next loc O:=rfl
theorem aqC (a b) (loc) (O):aH G cl (.seq a b) loc O=aqv G cl b (aH G cl a loc O):=rfl
theorem aqy (x) (di) (y) (it) (loc) (O):aH G cl (.mN x di y it) loc O=(bh G cl (.comp di y it) loc O).dp (VS x loc):=rfl
theorem Mz (x) (it) (a) (loc) (O):aH G cl (.fV x it a) loc O=(bh G cl it loc O).dp (Eu G cl x a loc):=rfl
theorem aqA (xs) (it) (a) (loc) (O):aH G cl (.lZ xs it a) loc O=(bh G cl it loc O).dp (VV G cl xs a loc):=rfl
end
theorem aqz (a b) (O):cG .Eq (.str a) (.str b) O=some (decide (a=b)):=congrArg some (xZ a b)
theorem Ii {f:Nat} (h:ai f=some fn) (hb:qI fn.ps fn.ds args=some loc) (n) (O):aj GG ai (n+1) f args O=gj (aH GG (aj GG ai n) fn.body loc O):=by show (match ai f with | none=>aJ.aq | some fn=>_)=_;refine aa h ?_;show (match qI fn.ps fn.ds args with | none=>aJ.aq | some loc=>_)=_;refine aa hb ?_;rfl
theorem BK (h:O[r]?=some (.lst l)) (e:l.mapM (fs n O)=some ds):fs (n+1) O (.ref r)=some (.list ds):=by show aL none O r (λl=>(l.mapM (fs n O)).map PyData.list)=_;delta aL;exact aa h (congrArg (CC PyData.list) e)
theorem Am {x y:AV} {d e:nO} (h:fs 8 O x=some d) (h':fs 8 O y=some e) (s:fP d=true) (s':fP e=true):ph O x y=some (kM d e):=by delta ph;refine aa h (aa h' ?_);exact if_pos (dP.mpr ⟨s,s'⟩)
theorem Pw {R:Type} {d:R} {f:List (Int×AV)->R} {l:List (Int×AV)} (h:O[r]?=some (.dI l)):aD d O r f=f l:=by delta aD;exact aa h rfl
theorem qD {R:Type} {d:R} {f:Nat->List (Nat×AV)->R} {l:List (Nat×AV)} (h:O[r]?=some (.ba c l)):aX d O r f=f c l:=by delta aX;exact aa h rfl
theorem g8 {R:Type} {d:R} {f:List AV->R} (h:O[r]?=some (.lst l)):aL d O r f=f l:=by delta aL;exact aa h rfl
theorem Py {m:List AV} (h:O[a]?=some (.lst l)) (h':O[b]?=some (.lst m)) (z:l.length+m.length<=SZ):dg .Add (.ref a) (.ref b) O=.ok (.ref O.length) (O++[.lst (l++m)]):=
 (g8 h).trans ((g8 h').trans (if_pos (by refine aa eC ?_;exact z)))
theorem Xo (h:O[a]?=some (.lst [v])) (z:k<=SZ):dg .Mult (.ref a) (.int k) O=.ok (.ref O.length) (O++[.lst (gX k v)]):=
 (g8 h).trans ((if_pos ⟨by lia,Int.ofNat_le.mpr z⟩).trans (if_pos (by refine aa Cu ?_;exact z)))
theorem ld (h:a<=b) (k:b<=c:=by decide):a<=c:=xd h k
theorem EG (h:a<=b) (k:b<c:=by decide):a<c:=abE h k
theorem EZ {a:Int} (h:a.natAbs<k):-(k:Int)<a/\a<k:=⟨dJ 0x11f68c0701a04400112 h Internal.naN,dJ 0x2380d180e0204400112 h Int.le_natAbs⟩
theorem tP {a:Int} (h:-(k:Int)<a) (h':a<k):a.natAbs<k:=Internal.lh (λe=>dJ 0x428c008f420380912 h' e) (λe=>dJ 0x10a301847a10003e912 h e)
theorem Xk (x):-2<=((x%6:Nat):Int)-2/\((x%6:Nat):Int)-2<=3:=⟨ao 1168743979056,ao 0xc9101ee0d880111 (gf _ ag)⟩
theorem anD {l:Int} (h:-2<=f/\f<=3) (h':-2<=l/\l<=3):(l-f).natAbs+1<=6:=Internal.lh (λe=>jl 0x31120120c400a03d08823a04c80813 h'.2 h.1 e) (λe=>jl 0x1889009062005c03d0991102008e813 h'.1 h.2 e)
theorem Xi (x):-4<=((x%10:Nat):Int)-4/\((x%10:Nat):Int)-4<=5:=⟨ao 2268256655408,ao 0x14a101ee0e880111 (gf _ ag)⟩
theorem ZV (h:0<=x) (e:y=x+1):y.toNat=x.toNat+1:=by subst e;obtain ⟨m,rfl⟩:=NL h;rfl
theorem ZW (h:¬0<x):(0:Int).toNat=x.toNat:=(Int.toNat_of_nonpos (Int.not_lt.mp h)).symm
theorem ZT (h:0<=x) (e:y=x+1):y.toNat=x.natAbs+1:=by subst e;obtain ⟨m,rfl⟩:=NL h;rfl
theorem tn2 (h:0<=-x) (e:y= -x+1):y.toNat=x.natAbs+1:=by rw [<-aa6];exact ZT h e
theorem sq {a:CS} (h:aH G cl a loc O=.next au O'):aH G cl (.seq a rest) loc O=aH G cl rest au O':=by refine (aqC ..).trans (bA (h ..) ?_);rfl
end
variable {x:AV} {F:aB->Nat->Prop} {X:Nat->Prop} {o:aV} {op:lI}
section
variable {c:CS} {r:aJ AV} {f:Nat}
noncomputable def dk {a:Type} (t:a) (K:a->Nat->Prop):Nat->Prop
 |0=>K t 0
 |k+1=>match k%256 with
  |0=>∀{v},t=v->K v (k/256)
  |_+1=>K t k
noncomputable def wI {a:Type} (t:a) (K:a->Nat->Prop) (X:Nat->Prop):Nat->Prop
 |0=>X 0
 |k+1=>match k%256 with
  |0=>∀{v},t=v->K v (k/256)
  |_+1=>X k
def cS {b c:Type} (K:aJ c->Nat->Prop) (F:b->AH->Nat->Prop):aJ b->Nat->Prop
 |.ok a O=>F a O
 |.dm r O=>K (.dm r O)
 |.aq=>K .aq
def jr {b:Type} (K:RS->Nat->Prop) (F:b->AH->Nat->Prop):aJ b->Nat->Prop
 |.ok a O=>F a O
 |.dm r O=>K (.dm r O)
 |.aq=>K .aq
abbrev XX (a:Type):=aB->AH->(aJ a->Nat->Prop)->Nat->Prop
noncomputable def tT (A B:Nat->Prop) (t:Bool):Nat->Prop:=match t with | true=>A | false=>B
section
variable (n:Nat)
def hV (x:Nat) (loc:aB) (O:AH) (K:aJ AV->Nat->Prop):Nat->Prop:=dk (lk x loc) λo=>K (.dc o O)
def ajU (A:XX (List AV)):XX AV:=λloc O K=>A loc O (cS K λvs O=>K (.ok (.aw vs) O))
def ajE (A:XX (List AV)):XX AV:=λloc O K=>A loc O (cS K λvs O=>dk (ig (.lst vs) O) K)
def hAt (a:Nat) (A:XX AV):XX AV:=λloc O K=>A loc O (cS K λx O=>dk (dA x a O) λo=>K (.dc o O))
def hSub (A B:XX AV):XX AV:=λloc O K=>A loc O (cS K λx O=>B loc O (cS K λk O=>dk (cW x k O) λo=>K (.dc o O)))
def ajQ (A B C:XX AV):XX AV:=λloc O K=>A loc O (cS K λx O=>B loc O (cS K λa O=>C loc O (cS K λb O=>dk (te x a b O) K)))
def ajn (op:oS) (A B:XX AV):XX AV:=λloc O K=>A loc O (cS K λx O=>B loc O (cS K λy O=>dk (dg op x y O) K))
def ajG (A:XX AV):XX AV:=λloc O K=>A loc O (cS K λx O=>K (aI .aq x λi=>.ok (.int (-i)) O))
def ajI (A:XX AV):XX AV:=λloc O K=>A loc O (cS K λx O=>dk (j1 O x) λo=>K ((aJ.dc o O).bind λb O=>.ok (.bool !b) O))
def ajs (op:lI) (A B:XX AV):XX AV:=λloc O K=>A loc O (cS K λx O=>B loc O (cS K λy O=>dk (cG op x y O) λo=>K ((aJ.dc o O).bind λb O=>.ok (.bool b) O)))
def ajt (op dT:lI) (A B C:XX AV):XX AV:=λloc O K=>A loc O (cS K λx O=>B loc O (cS K λy O=>dk (cG op x y O) λo=>cS K (λt O=>dk t (tT
 (C loc O (cS K λz O=>dk (cG dT y z O) λo=>K ((aJ.dc o O).bind λb O=>.ok (.bool b) O))) (K (.ok (.bool false) O)))) (aJ.dc o O)))
def ajA (c a b:CE) (C:XX Bool) (A B:XX AV):XX AV:=λloc O K=>wI (bh GG (aj GG ai n) (.dD c a b) loc O) K (C loc O (cS K λt O=>dk t (tT (A loc O K) (B loc O K))))
def ajq (f:Nat) (A:XX (List AV)):XX AV:=λloc O K=>A loc O (cS K λvs O=>dk (aj GG ai n f vs O) K)
def ajH (c:Nat) (A:XX (List AV)):XX AV:=λloc O K=>A loc O (cS K λvs O=>dk (ny GG (aj GG ai n) c vs O) K)
def hMe (m:Nat) (A:XX AV) (B:XX (List AV)):XX AV:=λloc O K=>A loc O (cS K λx O=>dk (gE GG x m O) λo=>cS K (λk O=>B loc O (cS K λvs O=>dk (qJ (aj GG ai n) k x vs O) K)) (aJ.dc o O))
def hBi (b:Nat) (A:XX (List AV)):XX AV:=λloc O K=>A loc O (cS K λvs O=>dk (fQ b vs O) K)
def aju (di:CE) (x:Nat) (A:XX AV):XX AV:=λloc O K=>A loc O (cS K λy O=>dk (iX y O.length (λv O=>bh GG (aj GG ai n) di ((x,v)::loc) O) (dG y O) 0 (O++[.lst []])) K)
def ajv (A:XX AV) (B:XX (List AV)):XX (List AV):=λloc O K=>A loc O (cS K λv O=>B loc O (cS K λvs O=>K (.ok (v::vs) O)))
def hB (op:qj) (z:Bool) (A B:XX AV):XX AV:=λloc O K=>match z with
 |true=>A loc O K
 |false=>A loc O (cS K λx O=>dk (j1 O x) λo=>cS K (λt O=>dk t λt=>match op,t with
  |.And,false=>K (.ok x O)
  |.Or,true=>K (.ok x O)
  |_,_=>B loc O K) (aJ.dc o O))
def wX (K:aJ Bool->Nat->Prop):aJ AV->Nat->Prop:=cS K λx O=>dk (j1 O x) λo=>K (aJ.dc o O)
def asO (A:XX Bool):XX Bool:=λloc O K=>A loc O λm=>K (m.bind λb O=>.ok (!b) O)
def asM (C A B:XX Bool):XX Bool:=λloc O K=>C loc O (cS K λt O=>dk t (tT (A loc O K) (B loc O K)))
def asK (op:lI) (A B:XX AV):XX Bool:=λloc O K=>A loc O (cS K λx O=>B loc O (cS K λy O=>dk (cG op x y O) λo=>K (aJ.dc o O)))
def asL (op dT:lI) (A B C:XX AV):XX Bool:=λloc O K=>A loc O (cS K λx O=>B loc O (cS K λy O=>dk (cG op x y O) λo=>cS K (λt O=>dk t (tT
 (C loc O (cS K λz O=>dk (cG dT y z O) λo=>K (aJ.dc o O))) (K (.ok false O)))) (aJ.dc o O)))
def tV (x:Nat):XX Bool:=λloc O K=>dk (lk x loc) λo=>wX K (aJ.dc o O)
def tAt (a:Nat) (A:XX AV):XX Bool:=λloc O K=>A loc O (cS K λx O=>dk (dA x a O) λo=>wX K (aJ.dc o O))
def asP (A B:XX AV):XX Bool:=λloc O K=>A loc O (cS K λx O=>B loc O (cS K λk O=>dk (cW x k O) λo=>wX K (aJ.dc o O)))
def asI (op:oS) (A B:XX AV):XX Bool:=λloc O K=>A loc O (cS K λx O=>B loc O (cS K λy O=>dk (dg op x y O) (wX K)))
def asJ (f:Nat) (A:XX (List AV)):XX Bool:=λloc O K=>A loc O (cS K λvs O=>dk (aj GG ai n f vs O) (wX K))
def tMe (m:Nat) (A:XX AV) (B:XX (List AV)):XX Bool:=λloc O K=>A loc O (cS K λx O=>dk (gE GG x m O) λo=>cS K (λk O=>B loc O (cS K λvs O=>dk (qJ (aj GG ai n) k x vs O) (wX K))) (aJ.dc o O))
def tA (op:qj) (A B:XX Bool):XX Bool:=λloc O K=>A loc O (cS K λt O=>dk t λt=>match op,t with
 |.And,false=>K (.ok false O)
 |.Or,true=>K (.ok true O)
 |_,_=>B loc O K)
mutual
def xE:CE->XX AV
 |.cn=>λ_ O K=>K (.ok .none O)
 |.cb b=>λ_ O K=>K (.ok (.bool b) O)
 |.ci i=>λ_ O K=>K (.ok (.int i) O)
 |.cs s=>λ_ O K=>K (.ok (.str s) O)
 |.gi _ i=>λ_ O K=>K (.ok (.int i) O)
 |.v x=>hV x
 |.aw es=>ajU (xL es)
 |.lst es=>ajE (xL es)
 |.mU=>λ_ O K=>K (ig (.dI []) O)
 |.at e a=>hAt a (xE e)
 |.sub e i=>hSub (xE e) (xE i)
 |.my e lo hi=>ajQ (xE e) (xE lo) (xE hi)
 |.aN op a b=>ajn op (xE a) (xE b)
 |.neg a=>ajG (xE a)
 |.not a=>ajI (xE a)
 |.bo op es=>xB op es
 |.aP op a b=>ajs op (xE a) (xE b)
 |.o9 op dT a b c=>ajt op dT (xE a) (xE b) (xE c)
 |.dD c a b=>ajA n c a b (xT c) (xE a) (xE b)
 |.call f es=>ajq n f (xL es)
 |.new c es=>ajH n c (xL es)
 |.meth e m es=>hMe n m (xE e) (xL es)
 |.bi b es=>hBi b (xL es)
 |.comp di x it=>aju n di x (xE it)
 |.aq=>λ_ _ K=>K .aq
 |.nil=>λ_ _ K=>K .aq
 |.cons ..=>λ_ _ K=>K .aq
def xL:CE->XX (List AV)
 |.nil=>λ_ O K=>K (.ok [] O)
 |.cons a b=>ajv (xE a) (xL b)
 |_=>λ_ _ K=>K .aq
def xB (op:qj):CE->XX AV
 |.cons a b=>hB op (CE.wC b) (xE a) (xB op b)
 |_=>λ_ _ K=>K .aq
def xT:CE->XX Bool
 |.not a=>asO (xT a)
 |.bo op es=>xA op es
 |.dD c a b=>asM (xT c) (xT a) (xT b)
 |.aP op a b=>asK op (xE a) (xE b)
 |.o9 op dT a b c=>asL op dT (xE a) (xE b) (xE c)
 |.v x=>tV x
 |.at e a=>tAt a (xE e)
 |.sub e i=>asP (xE e) (xE i)
 |.aN op a b=>asI op (xE a) (xE b)
 |.call f es=>asJ n f (xL es)
 |.meth e m es=>tMe n m (xE e) (xL es)
 |_=>λ_ _ K=>K .aq
def xA (op:qj):CE->XX Bool
 |.nil=>λ_ O K=>K (.ok (match op with | .And=>true | .Or=>false) O)
 |.cons a b=>tA op (xT a) (xA op b)
 |_=>λ_ _ K=>K .aq
end
def Mf (F:aB->Nat->Prop):aB->Nat->Prop
 |[]=>F []
 |p::l=>Mf (λl=>F (p::l)) l
theorem aoh:∀{l:aB} {F:aB->Nat->Prop},(∀a,F l a)->∀a,Mf F l a:=by
 intro l;induction l with
 |nil=>exact λh=>h
 |cons p l b=>exact λh=>b h
def Mi (m:Bool) (F:aB->Nat->Prop) (l:aB):Nat->Prop:=match m with | true=>Mf F l | false=>F l
theorem XG {m:Bool} {l:aB} (h:∀a,F l a):∀a,Mi m F l a:=by
 induction m using dy with
 |true=>exact aoh h
 |false=>exact h
variable (m:Bool)
def MQ (K:RS->Nat->Prop) (F:aB->AH->Nat->Prop):RS->Nat->Prop
 |.next loc O=>Mi m (λloc=>F loc O) loc
 |.ret v O=>K (.ret v O)
 |.cont loc O=>K (.cont loc O)
 |.dm r O=>K (.dm r O)
 |.aq=>K .aq
abbrev XR:=aB->AH->(RS->Nat->Prop)->Nat->Prop
def sSq (a b:CS) (A B:XR):XR:=λloc O K=>wI (aH GG (aj GG ai n) a loc O) (MQ m K λloc O=>wI (aH GG (aj GG ai n) b loc O) K (B loc O K)) (A loc O (MQ m K λloc O=>wI (aH GG (aj GG ai n) b loc O) K (B loc O K)))
noncomputable def oN (O:AH) (o:Option aB):RS:=match o with | some loc=>.next loc O | none=>.aq
noncomputable def oH (loc:aB) (o:Option AH):RS:=match o with | some O=>.next loc O | none=>.aq
def YM (x:Nat) (A:XX AV):XR:=λloc O K=>A loc O (jr K λv O=>K (.next (up x v loc) O))
def aqo (xs:List Nat) (A:XX AV):XR:=λloc O K=>A loc O (jr K λv O=>dk (jN xs v loc) λo=>K (oN O o))
def aqm (a:Nat) (b A:XX AV):XR:=λloc O K=>A loc O (jr K λv O=>b loc O (jr K λx O=>dk (nE x a v O) λo=>K (oH loc o)))
def aqn (a I A:XX AV):XR:=λloc O K=>A loc O (jr K λv O=>a loc O (jr K λx O=>I loc O (jr K λk O=>dk (oG x k v O) λo=>K (oH loc o))))
def aqp (x:Nat) (op:oS) (A:XX AV):XR:=λloc O K=>dk (lk x loc) λo=>jr K (λa O=>A loc O (jr K λb O=>K (VT x op loc a b O))) (aJ.dc o O)
def aqq (A:XX AV):XR:=λloc O K=>A loc O (jr K λ_ O=>K (.next loc O))
def aqr (a A:XX AV):XR:=λloc O K=>a loc O (jr K λx O=>dk (A8 O x) (tT (A loc O (jr K λy O=>dk (Jg x y loc O) K)) (K .aq)))
def aqs (C:XX Bool) (A B:XR):XR:=λloc O K=>C loc O (jr K λt O=>dk t (tT (A loc O K) (B loc O K)))
def YN (asn:AV->aB->Option aB) (a:CS) (A:XX AV):XR:=λloc O K=>A loc O (jr K λy O=>dk (d8 y asn (aH GG (aj GG ai n) a) (dG y O) 0 loc O) K)
def aqu (A:XX AV):XR:=λloc O K=>A loc O (jr K λv O=>K (.ret v O))
def aqt (c:Nat) (A:XX (List AV)):XR:=λloc O K=>A loc O (jr K λvs O=>K (amc GG c vs O))
def xS:CS->XR
 |.nil=>λloc O K=>K (.next loc O)
 |.BG=>λloc O K=>K (.next loc O)
 |.cont=>λloc O K=>K (.cont loc O)
 |.seq a b=>sSq n m a b (xS a) (xS b)
 |.aK x e=>YM x (xE n e)
 |.mN x di y it=>YM x (xE n (.comp di y it))
 |.fC xs e=>aqo xs (xE n e)
 |.cP o a e=>aqm a (xE n o) (xE n e)
 |.kR o i e=>aqn (xE n o) (xE n i) (xE n e)
 |.qH x op e=>aqp x op (xE n e)
 |.eO e=>aqq (xE n e)
 |.ext o e=>aqr (xE n o) (xE n e)
 |.ite c a b=>aqs (xT n c) (xS a) (xS b)
 |.uU c a=>λloc O K=>dk (j3 (fT GG (aj GG ai n) c) (aH GG (aj GG ai n) a) WN loc O) K
 |.fV x it a=>YN n (gL x) a (xE n it)
 |.lZ xs it a=>YN n (jN xs) a (xE n it)
 |.ret e=>aqu (xE n e)
 |.raise c es=>aqt c (xL n es)
 |.w2 e _ a=>λloc O K=>xE n e loc O λm=>dk (FA a m) K
 |.aq=>λ_ _ K=>K .aq
end
theorem cV {b:Type} {t:b} {K:b->Nat->Prop} (h:∀a,K t a):∀a,dk t K a
 |0=>h 0
 |k+1=>by
  show (match k%256 with | 0=>∀{v},t=v->K v (k/256) | _+1=>K t k);split
  . intro v e;subst e;exact h _
  . exact h _
theorem Mp {b:Type} {t:b} {K:b->Nat->Prop} (h:∀a,K t a) (x:∀a,X a):∀a,wI t K X a
 |0=>x 0
 |k+1=>by
  show (match k%256 with | 0=>∀{v},t=v->K v (k/256) | _+1=>X k);split
  . intro v e;subst e;exact h _
  . exact x _
theorem cQ {c d:Type} {m:aJ c} {f:c->AH->aJ d} {K:aJ d->Nat->Prop} {F:c->AH->Nat->Prop} (h:∀b,K (m.bind f) b) (k:∀a O,(∀b,K (f a O) b)->∀b,F a O b):∀b,cS K F m b:=by
 induction m using aJ.casesOn with
 |ok a O=>exact k a O h
 |dm=>exact h
 |aq=>exact h
theorem jH {c:Type} {m:aJ c} {f:c->AH->RS} {K:RS->Nat->Prop} {F:c->AH->Nat->Prop} (h:∀b,K (m.dp f) b) (k:∀a O,(∀b,K (f a O) b)->∀b,F a O b):∀b,jr K F m b:=by
 induction m using aJ.casesOn with
 |ok a O=>exact k a O h
 |dm=>exact h
 |aq=>exact h
def zR {b:Type} (X:aB->AH->(aJ b->Nat->Prop)->Nat->Prop) (Y:aB->AH->aJ b):Prop:=∀loc O K,(∀a,K (Y loc O) a)->∀a,X loc O K a
structure OkX (n:Nat) (e:CE):Prop where
 E:zR (xE n e) (bh GG (aj GG ai n) e)
 L:zR (xL n e) (lX GG (aj GG ai n) e)
 B:∀op,zR (xB n op e) (vX GG (aj GG ai n) op e)
 T:zR (xT n e) (fT GG (aj GG ai n) e)
 A:∀op,zR (xA n op e) (x8 GG (aj GG ai n) op e)
theorem iQ (e):OkX n e:=by
 induction e with
 |v x=>exact ⟨λloc O K h=>cV (K:=λo=>K (.dc o O)) h,λloc O K h=>h,λop loc O K h=>h,λloc O K h=>cV (K:=λo=>wX K (.dc o O)) (cQ h λ_ _ h=>cV h),λop loc O K h=>h⟩
 |cons a b q p=>exact ⟨λloc O K h=>h,λloc O K h=>q.E _ _ _ (cQ h λ_ _ h=>p.L _ _ _ (cQ h λ_ _ h=>h)),λop loc O K h=>by
  show ∀d,(match CE.wC b with | true=>xE n a loc O K | false=>xE n a loc O (cS K λx O=>dk (j1 O x) λo=>cS K (λt O=>dk t λt=>match op,t with
   |.And,false=>K (.ok x O)
   |.Or,true=>K (.ok x O)
   |_,_=>xB n op b loc O K) (aJ.dc o O))) d
  have h:∀d,K (match CE.wC b with | true=>bh GG (aj GG ai n) a loc O | false=>(bh GG (aj GG ai n) a loc O).bind λx O=>(aJ.dc (j1 O x) O).bind λt O=>match op,t with
   |.And,false=>.ok x O
   |.Or,true=>.ok x O
   |_,_=>vX GG (aj GG ai n) op b loc O) d:=h
  generalize CE.wC b=t at h⊢;induction t using dy with
  |true=>exact q.E _ _ _ h
  |false=>exact q.E _ _ _ (cQ h λ_ _ h=>cV (cQ h λt O h=>cV (by
   induction t using dy<;>induction op using Cm
   . exact h
   . exact p.B _ _ _ _ h
   . exact p.B _ _ _ _ h
   . exact h))),
  λloc O K h=>h,λop loc O K h=>q.T _ _ _ (cQ h λt O h=>cV (by
   induction t using dy<;>induction op using Cm
   . exact h
   . exact p.A _ _ _ _ h
   . exact p.A _ _ _ _ h
   . exact h))⟩
 |aw es i=>exact ⟨λloc O K h=>i.L _ _ _ (cQ h λ_ _ h=>h),λloc O K h=>h,λop loc O K h=>h,λloc O K h=>h,λop loc O K h=>h⟩
 |lst es i=>exact ⟨λloc O K h=>i.L _ _ _ (cQ h λ_ _ h=>cV h),λloc O K h=>h,λop loc O K h=>h,λloc O K h=>h,λop loc O K h=>h⟩
 |«at» e a i=>exact ⟨λloc O K h=>i.E _ _ _ (cQ h λ_ _ h=>cV h),λloc O K h=>h,λop loc O K h=>h,λloc O K h=>i.E _ _ _ (cQ h λ_ _ h=>cV (cQ h λ_ _ h=>cV h)),λop loc O K h=>h⟩
 |sub e k i r=>exact ⟨λloc O K h=>i.E _ _ _ (cQ h λ_ _ h=>r.E _ _ _ (cQ h λ_ _ h=>cV h)),λloc O K h=>h,λop loc O K h=>h,λloc O K h=>i.E _ _ _ (cQ h λ_ _ h=>r.E _ _ _ (cQ h λ_ _ h=>cV (cQ h λ_ _ h=>cV h))),λop loc O K h=>h⟩
 |my e lo hi i i1 i2=>exact ⟨λloc O K h=>i.E _ _ _ (cQ h λ_ _ h=>i1.E _ _ _ (cQ h λ_ _ h=>i2.E _ _ _ (cQ h λ_ _ h=>cV h))),λloc O K h=>h,λop loc O K h=>h,λloc O K h=>h,λop loc O K h=>h⟩
 |aN op a b i j=>exact ⟨λloc O K h=>i.E _ _ _ (cQ h λ_ _ h=>j.E _ _ _ (cQ h λ_ _ h=>cV h)),λloc O K h=>h,λop loc O K h=>h,λloc O K h=>i.E _ _ _ (cQ h λ_ _ h=>j.E _ _ _ (cQ h λ_ _ h=>cV (cQ h λ_ _ h=>cV h))),λop loc O K h=>h⟩
 |neg a i=>exact ⟨λloc O K h=>i.E _ _ _ (cQ h λ_ _ h=>h),λloc O K h=>h,λop loc O K h=>h,λloc O K h=>h,λop loc O K h=>h⟩
 |not a i=>exact ⟨λloc O K h=>i.E _ _ _ (cQ h λ_ _ h=>cV h),λloc O K h=>h,λop loc O K h=>h,λloc O K h=>i.T _ _ _ h,λop loc O K h=>h⟩
 |bo op es i=>exact ⟨λloc O K h=>i.B _ _ _ _ h,λloc O K h=>h,λop loc O K h=>h,λloc O K h=>i.A _ _ _ _ h,λop loc O K h=>h⟩
 |aP op a b i j=>exact ⟨λloc O K h=>i.E _ _ _ (cQ h λ_ _ h=>j.E _ _ _ (cQ h λ_ _ h=>cV h)),λloc O K h=>h,λop loc O K h=>h,λloc O K h=>i.E _ _ _ (cQ h λ_ _ h=>j.E _ _ _ (cQ h λ_ _ h=>cV h)),λop loc O K h=>h⟩
 |o9 op dT a b c i j l=>
  have br:∀{α:Type} {f g:Nat->Prop} {K:aJ α->Nat->Prop} {a b:aJ α} (t:Bool),(∀d,K (match t with | true=>a | false=>b) d)->((∀d,K a d)->∀d,f d)->((∀d,K b d)->∀d,g d)->∀d,tT f g t d:=λt h u v=>by
   induction t using dy with
   |true=>exact u h
   |false=>exact v h
  exact ⟨λloc O K h=>i.E _ _ _ (cQ h λ_ _ h=>j.E _ _ _ (cQ h λ_ _ h=>cV (cQ h λt _ h=>cV (br t h (λh=>l.E _ _ _ (cQ h λ_ _ h=>cV h)) λh=>h)))),λloc O K h=>h,λop loc O K h=>h,
   λloc O K h=>i.E _ _ _ (cQ h λ_ _ h=>j.E _ _ _ (cQ h λ_ _ h=>cV (cQ h λt _ h=>cV (br t h (λh=>l.E _ _ _ (cQ h λ_ _ h=>cV h)) λh=>h)))),λop loc O K h=>h⟩
 |dD c a b i j l=>
  have br:∀{α:Type} {f g:Nat->Prop} {K:aJ α->Nat->Prop} {a b:aJ α} (t:Bool),(∀d,K (match t with | true=>a | false=>b) d)->((∀d,K a d)->∀d,f d)->((∀d,K b d)->∀d,g d)->∀d,tT f g t d:=λt h u v=>by
   induction t using dy with
   |true=>exact u h
   |false=>exact v h
  exact ⟨λloc O K h=>Mp h (i.T _ _ _ (cQ h λt _ h=>cV (br t h (j.E _ _ _) (l.E _ _ _)))),λloc O K h=>h,λop loc O K h=>h,λloc O K h=>i.T _ _ _ (cQ h λt _ h=>cV (br t h (j.T _ _ _) (l.T _ _ _))),λop loc O K h=>h⟩
 |call f es i=>exact ⟨λloc O K h=>i.L _ _ _ (cQ h λ_ _ h=>cV h),λloc O K h=>h,λop loc O K h=>h,λloc O K h=>i.L _ _ _ (cQ h λ_ _ h=>cV (cQ h λ_ _ h=>cV h)),λop loc O K h=>h⟩
 |new c es i=>exact ⟨λloc O K h=>i.L _ _ _ (cQ h λ_ _ h=>cV h),λloc O K h=>h,λop loc O K h=>h,λloc O K h=>h,λop loc O K h=>h⟩
 |meth e m es i j=>exact ⟨λloc O K h=>i.E _ _ _ (cQ h λ_ _ h=>cV (cQ h λ_ _ h=>j.L _ _ _ (cQ h λ_ _ h=>cV h))),λloc O K h=>h,λop loc O K h=>h,λloc O K h=>i.E _ _ _ (cQ h λ_ _ h=>cV (cQ h λ_ _ h=>j.L _ _ _ (cQ h λ_ _ h=>cV (cQ h λ_ _ h=>cV h)))),λop loc O K h=>h⟩
 |bi b es i=>exact ⟨λloc O K h=>i.L _ _ _ (cQ h λ_ _ h=>cV h),λloc O K h=>h,λop loc O K h=>h,λloc O K h=>h,λop loc O K h=>h⟩
 |comp di x it s i=>exact ⟨λloc O K h=>i.E _ _ _ (cQ h λ_ _ h=>cV h),λloc O K h=>h,λop loc O K h=>h,λloc O K h=>h,λop loc O K h=>h⟩
 |_=>exact ⟨λloc O K h=>h,λloc O K h=>h,λop loc O K h=>h,λloc O K h=>h,λop loc O K h=>h⟩
theorem Nt (c:CS):∀{loc O K},(∀d,K (aH GG (aj GG ai n) c loc O) d)->∀d,xS n m c loc O K d:=by
 induction c with
 |seq a b i j=>
  intro loc O K h;have q:∀d,MQ m K (λloc O=>wI (aH GG (aj GG ai n) b loc O) K (xS n m b loc O K)) (aH GG (aj GG ai n) a loc O) d:=by
   have h:∀d,K ((aH GG (aj GG ai n) a loc O).seq λloc O=>aH GG (aj GG ai n) b loc O) d:=h;generalize aH GG (aj GG ai n) a loc O=r at h;induction r using RS.casesOn with
   |next loc O=>exact XG (F:=λloc=>wI (aH GG (aj GG ai n) b loc O) K (xS n m b loc O K)) (Mp h (j h))
   |_=>exact h
  exact Mp q (i q)
 |aK x e=>exact λh=>(iQ e).E _ _ _ (jH h λ_ _ h=>h)
 |mN x e y i=>exact λh=>(iQ (.comp e y i)).E _ _ _ (jH h λ_ _ h=>h)
 |fC xs e=>exact λh=>(iQ e).E _ _ _ (jH h λ_ _ h=>cV h)
 |cP o a e=>exact λh=>(iQ e).E _ _ _ (jH h λ_ _ h=>(iQ o).E _ _ _ (jH h λ_ _ h=>cV h))
 |kR o i e=>exact λh=>(iQ e).E _ _ _ (jH h λ_ _ h=>(iQ o).E _ _ _ (jH h λ_ _ h=>(iQ i).E _ _ _ (jH h λ_ _ h=>cV h)))
 |qH x op e=>exact λ{loc O K} h=>cV (K:=λo=>jr K (λa O=>xE n e loc O (jr K λb O=>K (VT x op loc a b O))) (aJ.dc o O)) (jH h λ_ _ h=>(iQ e).E _ _ _ (jH h λ_ _ h=>h))
 |eO e=>exact λh=>(iQ e).E _ _ _ (jH h λ_ _ h=>h)
 |ext o e=>exact λ{loc O K} h=>(iQ o).E _ _ _ (jH h λx O h=>cV (by
  have h:=h;generalize A8 O x=t at h;induction t using dy with
  |true=>exact (iQ e).E _ _ _ (jH h λ_ _ h=>cV h)
  |false=>exact h))
 |ite c a b i j=>exact λh=>(iQ c).T _ _ _ (jH h λt _ h=>cV (by
  induction t using dy with
  |true=>exact i h
  |false=>exact j h))
 |uU=>exact λh=>cV h
 |fV x it=>exact λh=>(iQ it).E _ _ _ (jH h λ_ _ h=>cV h)
 |lZ x it=>exact λh=>(iQ it).E _ _ _ (jH h λ_ _ h=>cV h)
 |ret e=>exact λh=>(iQ e).E _ _ _ (jH h λ_ _ h=>h)
 |raise c es=>exact λh=>(iQ es).L _ _ _ (jH h λ_ _ h=>h)
 |w2 e=>exact λh=>(iQ e).E _ _ _ (cV h)
 |_=>exact λh=>h
theorem goS (ks) {r:RS} (h:xS n false c loc O (λr _=>aH GG (aj GG ai n) c loc O=r) ks->aH GG (aj GG ai n) c loc O=r):aH GG (aj GG ai n) c loc O=r:=h (Nt c (λ_=>rfl) ks)
theorem DL (ks) {c:CE} {r:aJ Bool} (h:xT n c loc O (λr _=>fT GG (aj GG ai n) c loc O=r) ks->fT GG (aj GG ai n) c loc O=r):fT GG (aj GG ai n) c loc O=r:=h ((iQ c).T _ _ _ (λ_=>rfl) ks)
theorem kr (ks) {c:CE} (h:xE n c loc O (λr _=>bh GG (aj GG ai n) c loc O=r) ks->bh GG (aj GG ai n) c loc O=r):bh GG (aj GG ai n) c loc O=r:=h ((iQ c).E _ _ _ (λ_=>rfl) ks)
theorem ye (ks) (h:xS n false c loc O (λr _=>gj (aH GG (aj GG ai n) c loc O)=gj r) ks->gj (aH GG (aj GG ai n) c loc O)=r):gj (aH GG (aj GG ai n) c loc O)=r:=h (Nt c (λ_=>rfl) ks)
def xC (m:Bool) (n f:Nat) (args:List AV) (O:AH) (a:Nat):Prop:=match ai f with
 |none=>True
 |some fn=>match qI fn.ps fn.ds args with
  |none=>True
  |some loc=>Mi m (λloc=>xS n m fn.body loc O (λr _=>aj GG ai (n+1) f args O=gj r)) loc a
theorem aat {m:Bool} (ks):xC m n f args O ks:=by
 unfold xC;generalize e:ai f=o;induction o using aW with
 |none=>trivial
 |some fn=>
  dsimp only;generalize a:qI fn.ps fn.ds args=o;induction o using aW with
  |none=>trivial
  |some loc=>exact XG (Nt _ (λ_=>Ii e a n O)) ks
theorem aM (ks) (h:xC true n f args O ks->aj GG ai (n+1) f args O=r):aj GG ai (n+1) f args O=r:=h (aat ks)
theorem sJ (ks) (h:xC false n f args O ks->aj GG ai (n+1) f args O=r):aj GG ai (n+1) f args O=r:=h (aat ks)
theorem rI {a b:Int} (h:a=b):aJ.ok (AV.int a) O=.ok (.int b) O:=h▸rfl
theorem L8 (h:O++[o]=O'):ig o O=.ok (.ref O.length) O':=h▸rfl
theorem kin (b) {y:AV} (h:cG op x y O=some b:=by kernel_rfl!):cG op x y O=some b:=h
theorem zZ {p:Prop} [Decidable p] (h:p):(!decide p)=false:=by rw [decide_eq_true h];rfl
theorem xx {p:Prop} [Decidable p] (h:¬p):(!decide p)=true:=by rw [decide_eq_false h];rfl
end
variable {x0:AV}
theorem afO {x0:AV}:aj GG ai (n+1) 73 [x0] O=gj (aH GG (aj GG ai n) Ih [(184,x0)] O):=Ii (fn:=⟨[184],[],Ih⟩) rfl rfl n O
variable {d W pa pb sk i:Nat} {s:AV}
section
set_option smartUnfolding false
section
variable {w:Nat}
theorem H7 (a b:Nat):NF a b=((a&&& b:Nat):Int):=by simp [NF]
theorem PK (a b:Nat):Builtin.bitOr a b=((a||| b:Nat):Int):=by refine (PyProof.Rows.bitOr_and ..).trans (bA (H7 ..) ?_);have:=abW a b;exact dz (cz 0x388e6390eae0cc1042002311 this) (cz 0x2398e43aa03e0cc1042002211 this)
theorem anH (a b:Nat):(a^^^b)+(a&&& b)=a||| b:=by
 have c:(a^^^b)||| (a&&& b)=a||| b:=by apply zq;intro i;simp only [abQ,Oi,Og];cases a.testBit i<;>cases b.testBit i<;>rfl
 have d:(a^^^b)&&& (a&&& b)=0:=by apply zq;intro i;simp only [Og,Oi,abS];cases a.testBit i<;>cases b.testBit i<;>rfl
 have:=abW (a^^^b) (a&&& b);exact bV (kZ 0x20304120d00021022084c1042002313 this d c) (kZ 0x608240834000c4c1042002212 this c)
theorem adw (a b:Nat):NG a b=((a^^^b:Nat):Int):=by unfold NG;refine aa (PK ..) (bA (H7 ..) ?_);have:=anH a b;exact dz (aU 0x711c87b83202002311 this) (aU 0x4721e80f83202002211 this)
theorem Bz (a b:Nat) (O):dg .BitAnd (.int a) (.int b) O=.ok (.int ((a&&& b:Nat):Int)) O:=by refine aa (H7 ..).symm ?_;rfl
theorem pY (a b:Nat) (O):dg .BitOr (.int a) (.int b) O=.ok (.int ((a||| b:Nat):Int)) O:=by refine aa (PK ..).symm ?_;rfl
theorem yQ (a b:Nat) (O):dg .BitXor (.int a) (.int b) O=.ok (.int ((a^^^b:Nat):Int)) O:=by refine aa (adw ..).symm ?_;rfl
theorem BA (O) (h:n<=1000) (h':a<2^64):dg .LShift (.int a) (.int n) O=.ok (.int ((a*2^n:Nat):Int)) O:=by refine (if_pos ⟨by exact ao 7354416,by exact ao 0x3e83f203e0cfa0fc80011 h,by unfold rK;exact decide_eq_true (by simpa using h')⟩).trans ?_;simp
theorem Xu (O) (h:n<=1000):dg .LShift (.int 1) (.int n) O=.ok (.int ((2^n:Nat):Int)) O:=by have:=BA (a:=1) O h ag;rwa [Nat.one_mul] at this
theorem uJ (a n:Nat) (O):dg .RShift (.int a) (.int n) O=.ok (.int ((a/2^n:Nat):Int)) O:=by
 show (if (0:Int)<=n then aJ.ok (AV.int ((a:Int).fdiv (2^(n:Int).toNat))) O else .aq)=_;refine ((if_pos (ao 7354416))).trans ?_;congr 2;refine aa (rR ..) (((aa3 _ (Int.pow_nonneg ag) ..)).trans ?_)
 norm_cast
theorem apk (w):((2^w:Nat):Int)-1=((2^w-1:Nat):Int):=by have:=Nat.one_le_two_pow (n:=w);exact dz (ak 0x8e2407b83122100011 Internal.jE) (ak 0x911e80f83102402211 (tE (ao 318028943377 this)))
theorem kj (h:w<=1000):aj GG ai (n+1) 16 [.int w] O=.ok (.int ((2^w-1:Nat):Int)) O:=by refine ((Ii rfl rfl ..)).trans <| ye 259 λF=>F (Xu O h) (rI (apk _))
noncomputable def dZ (w a b:Nat):AV:=.aw [.int w,.int a,.int b]
theorem Yp (h:w<=60):2^w-1<2^64:=by
 have:=abM (n:=2) ag h;have a:2^60<2^64:=by decide
 lia
theorem wH (a w:Nat) (O):dg .BitAnd (.int a) (.int ((2^w-1:Nat):Int)) O=.ok (.int ((a%2^w:Nat):Int)) O:=by refine aa (Nat.and_two_pow_sub_one_eq_mod ..).symm ?_;exact Bz a _ O
theorem L7 (O) (h:a<2^64):dg .LShift (.int a) (.int 0) O=.ok (.int a) O:=by have:=BA (n:=0) O ag h;rwa [Nat.pow_zero,Nat.mul_one] at this
theorem anB (a:Nat) (O):dg .BitXor (.int a) (.int a) O=.ok (.int ((0:Nat):Int)) O:=by refine aa (Nat.xor_self a).symm ?_;exact yQ a a O
theorem Xt (a:Nat) (O):dg .BitOr (.int a) (.int ((0:Nat):Int)) O=.ok (.int a) O:=by have:=pY a 0 O;rwa [Nat.or_zero] at this
theorem anx (b:Nat) (O):cG .Eq (.int b) (.int 0) O=some (decide (b=0)):=congrArg some (decide_eq_decide.mpr ⟨Int.ofNat.inj,congrArg Int.ofNat⟩)
theorem EV {x:Nat} (h:w<=60):x%2^w<2^64:=by
 have a:x%2^w<2^w:=gf _ (Nat.two_pow_pos w);have:=abM (n:=2) ag h;have b:2^60<2^64:=by decide
 lia
theorem ahE {lo:Nat} (e:0<w) (h:lo+w<=W) (d:W<=60):
 aj GG ai (n+2) 24 [dZ W a b,.int lo,.int w] O=.ok (dZ w ((a/2^lo)%2^w) ((b/2^lo)%2^w)) O:=by
 have c:w<=60:=aU 0x785e4820c01010804f0bc80012 d h;exact aM 0x306020206020206010304050105060803 λF=>F (rI (if_neg (show ¬((lo:Int)<0) by exact ao 8450608))) (rI (if_neg (show ¬((W:Int)<lo+w) by exact aU 0x4701d10f23202002011 h))) (decide_eq_false (show ¬((lo:Int)+w<=lo) by exact ak 0x11c0711d40c001111 e)) (rI (show (lo:Int)+w-lo=w by exact dz (ak 0x8e0388e03ab830) (ak 0x8e0388ea80f830))) (kj (show w<=1000 by exact ao 0x7d07e4020cf0bc80011 c)) (rI (Int.sub_self (lo:Int))) (kj (show w<=1000 by exact ao 0x7d07e4020cf0bc80011 c)) (L7 _ (Yp c)) (anB _ _) (uJ _ _ _) (wH _ _ _) (L7 _ (EV c)) (uJ _ _ _) (wH _ _ _) (L7 _ (EV c)) (Xt _ _) (Xt _ _)
noncomputable def Fs (W f l sk a p:Nat):Nat:=a&&& ((2^W-1)^^^(2^(l-f)-1)*2^f)||| (p/2^sk%2^(l-f))*2^f
theorem ahy {f l:Nat} {lo:Int} (o:0<lo+w) (p:lo<W) (r:0<w) (d:(f:Int)=if lo<0 then 0 else lo) (c:(l:Int)=if (W:Int)<lo+w then (W:Int) else lo+w) (q:(sk:Int)=f-lo) (j:W<=60) (k:0<W):
 aj GG ai (n+2) 25 [dZ W a b,.int lo,dZ w pa pb] O=.ok (dZ W (Fs W f l sk a pa) (Fs W f l sk b pb)) O:=by
 have i:f<l:=by (split at d;(rename_i s;split at c;(rename_i e;exact aU 0x10518802220487a111c07b13 c d k);(rename_i e;exact jm 0x828c470080c88121e844700807b13 c d o));(rename_i s;split at c;(rename_i e;exact jm 0x828c4701220087a111c07b13 c d p);(rename_i e;exact jm 0x4146200888021e844700807b13 c d r)))
 have m:l<=W:=by (split at c;(rename_i e;exact ak 0x8008311c07a11 c);(rename_i e;exact jm 0x10008311c0221f444700807a12 c e))
 have g:l-f<=60:=aU 0x785e4820c010013c2f22004400013 m j (Od _ _);have h:f<=1000:=aU 0x7d07e4820cf0bc8801004044400013 m i j;exact aM 0x1020204060102020406010305050105060903 λF=>F (rI d.symm) (rI c.symm) (decide_eq_false (show ¬((l:Int)<=f) by exact ak 0xe23c0c400111 i)) (rI (show (l:Int)-f=((l-f:Nat):Int) by exact dz (aU 0x4721c07b83202100011 Internal.jE) (aU 0x4721e80f83202002211 (tE (ak 35193167544593 i))))) (kj (show l-f<=1000 by exact ao 0x7d07e4020cf0bc80011 g)) (rI q.symm) (kj (show W<=1000 by exact ao 0x7d07e4020cf0bc80011 j)) (BA O h (Yp g)) (yQ _ _ _) (Bz _ _ _) (uJ _ _ _) (wH _ _ _) (BA _ h (EV g)) (pY _ _ _) (Bz _ _ _) (uJ _ _ _) (wH _ _ _) (BA _ h (EV g)) (pY _ _ _)
theorem ahR (h:w<=1000):aj GG ai (n+2) 17 [.int w,.int a,.int b] O=.ok (dZ w (a%2^w) (b%2^w)) O:=by exact aM 198147 λF=>F (kj h) (wH _ _ _) (wH _ _ _)
theorem Jj (h:w<=1000):aj GG ai (n+2) 18 [.int w] O=.ok (dZ w (2^w-1) (2^w-1)) O:=by exact aM 3 λF=>F (kj h)
theorem agU (h:w<=1000):aj GG ai (n+2) 19 [.int w] O=.ok (dZ w 0 (2^w-1)) O:=by exact aM 4 λF=>F (kj h)
theorem ahf (h:w<=1000):aj GG ai (n+2) 20 [.int w,.int a] O=.ok (dZ w (a%2^w) 0) O:=by exact aM 261 λF=>F (kj h) (wH _ _ _)
theorem Ap {O:AH}:aj GG ai (n+1) 21 [dZ w a b] O=.ok (.bool (decide (b=0))) O:=by exact aM 4 λF=>F (anx _ _)
noncomputable def sg (w a:Nat):Int:=if a/2^(w-1)=1 then (a:Int)-((2^w:Nat):Int) else a
def BQ (w a b:Nat):AV:=if b=0 then .int (sg w a) else .none
theorem Au (h:0<w) (h':w<=60):aj GG ai (n+1) 22 [dZ w a b,.bool true] O=.ok (BQ w a b) O:=by
 by_cases hb:b=0
 . subst hb;have e1:(w:Int)-1=((w-1:Nat):Int):=dz (ak 0x8e2407b83122100011 Internal.jE) (ak 0x911e80f83102402211 (tE (ao 318028910865 h)));unfold BQ sg;by_cases d:a/2^(w-1)=1
   . (refine aa (if_pos d) ?_;exact aM 84017424 λF=>F (rI e1) (uJ _ _ _) (decide_eq_true (show ((a/2^(w-1):Nat):Int)=1 by exact dz (ao 316925842817553 d) (ao 31121539072785 d))) (Xu O (show w<=1000 by exact ao 0x7d07e4020cf0bc80011 h')))
   . (refine aa (if_neg d) ?_;exact aM 131344 λF=>F (rI e1) (uJ _ _ _) (decide_eq_false (show ¬((a/2^(w-1):Nat):Int)=1 by exact (kL d).elim (λc=>ao 316923695333649 c) (λc=>ao 316921543168273 c))))
 . rw [BQ,if_neg hb];exact aM 8 λF=>F (xx (show ¬(b:Int)=0 by exact (kL hb).elim (λc=>iu (ao 524561 c)) (λc=>ao 35446566424849 c)))
theorem yP (a) (b:Nat) (O) (h:b<2^64):dg .Mult (.int a) (.int b) O=.ok (.int (a*b)) O:=by exact (if_pos (by unfold rK;exact decide_eq_true (by simpa using h)))
theorem adk (x):x&&& 1=x%2:=Nat.and_one_is_mod x
theorem yY (x:Nat) (O):dg .BitAnd (.int x) (.int 1) O=.ok (.int ((x%2:Nat):Int)) O:=by refine aa (adk ..).symm ?_;exact Bz x 1 O
theorem as3 (x:Nat) (O) (h:x<2^64):dg .Mult (.int 2) (.int x) O=.ok (.int ((2*x:Nat):Int)) O:=by have:=yP 2 x O h;refine this.trans ?_;simp
noncomputable def z6 (a b i:Nat):Nat:=a/2^i%2+2*(b/2^i%2)
theorem DF {O:AH}:aj GG ai (n+1) 23 [dZ w a b,.int i] O=.ok (.int (z6 a b i:Nat)) O:=by have c:b/2^i%2<2^64:=tD (gf _ ag) ag;exact aM 4312006917 λF=>F (uJ _ _ _) (yY _ _) (uJ _ _ _) (yY _ _) (as3 _ _ c)
noncomputable def qU (a:Nat) (t:Bool):Nat:=a||| (if t then 240 else 0)
theorem FQ (x:Nat) (O):dg .BitAnd (.int x) (.int 2) O=.ok (.int ((x&&& 2:Nat):Int)) O:=Bz x 2 O
theorem ag9 (e:a<16) (hb:b<16):aj GG ai (n+3) 14 [dZ 4 a b,.int 8,.bool true] O=.ok (dZ 8 (qU a (decide (8<=a))) (qU b (decide (8<=b)))) O:=by
 have c:decide (((z6 a b 3%2:Nat):Int)≠0)=decide (8<=a):=by
  have:∀a:Nat,a<16->∀b:Nat,b<16->decide (((z6 a b 3%2:Nat):Int)≠0)=decide (8<=a):=by decide+kernel
  exact this a e b hb
 have d:decide (((z6 a b 3&&& 2:Nat):Int)≠0)=decide (8<=b):=by
  have:∀a:Nat,a<16->∀b:Nat,b<16->decide (((z6 a b 3&&& 2:Nat):Int)≠0)=decide (8<=b):=by decide+kernel
  exact this a e b hb
 generalize decide (8<=a)=p at*;generalize decide (8<=b)=q at*;cases p<;>cases q<;>
  (first | exact aM 0x102070102070701030f λF=>F (kj ag) (kj ag) (yQ _ _ _) (DF) (yY _ _) c (pY _ _ _) (FQ _ _) d (pY _ _ _) | exact aM 0x202070102070701030f λF=>F (kj ag) (kj ag) (yQ _ _ _) (DF) (yY _ _) c (pY _ _ _) (FQ _ _) d (pY _ _ _) | exact aM 0x102070202070701030f λF=>F (kj ag) (kj ag) (yQ _ _ _) (DF) (yY _ _) c (pY _ _ _) (FQ _ _) d (pY _ _ _) | exact aM 0x202070202070701030f λF=>F (kj ag) (kj ag) (yQ _ _ _) (DF) (yY _ _) c (pY _ _ _) (FQ _ _) d (pY _ _ _))
theorem agS (h:w<=60):aj GG ai (n+3) 26 [dZ w a b,dZ w c d] O=.ok (if b=0/\d=0 then dZ w ((a+c)%2^w) 0 else dZ w (2^w-1) (2^w-1)) O:=by
 have f:w<=1000:=ao 0x7d07e4020cf0bc80011 h;by_cases hb:b=0
 . by_cases e:d=0
   . refine aa (if_pos ⟨hb,e⟩) <| aM 47278326275 λF=>F (Ap) (zZ hb) (Ap) (zZ e) (ahf f)
   . refine aa (if_neg λq=>e q.2) <| aM 21508522499 λF=>F (Ap) (zZ hb) (Ap) (xx e) (Jj f)
 . refine aa (if_neg λq=>hb q.1) <| aM 328195 λF=>F (Ap) (xx hb) (Jj f)
theorem agW (h:w<=60):aj GG ai (n+4) 27 [.str [43],dZ w a b,dZ w c d,s] O=.ok (if b=0/\d=0 then dZ w ((a+c)%2^w) 0 else dZ w (2^w-1) (2^w-1)) O:=by exact aM 1283 λF=>F (aqz _ _ _) (agS h)
theorem agZ (h:w<=60):aj GG ai (n+5) 28 [.str [43],dZ w a b,dZ w c d,s] O=.ok (if b=0/\d=0 then dZ w ((a+c)%2^w) 0 else dZ w (2^w-1) (2^w-1)) O:=by
 have e:=agW (n:=n) (a:=a) (b:=b) (c:=c) (d:=d) (O:=O) h (s:=s);have f:uA (if b=0/\d=0 then dZ w ((a+c)%2^w) 0 else dZ w (2^w-1) (2^w-1))=false:=by split<;>rfl
 exact aM 84215046 λF=>F e f f f
end
end
variable {m:Nat} {e:AV} {o':aV} {R R':List Nat}
section
set_option smartUnfolding false
section
variable {a b:AH} {f:Nat}
structure aA (R:List Nat) (O O':AH):Prop where
 get:∀(r:Nat) o,r∉R->O[r]?=some o->O'[r]?=some o
 len:O.length<=O'.length
theorem aA.refl (R) (O):aA R O O:=⟨λ_ _ _ h=>h,bT _⟩
theorem aA.trans {c:AH} (x:aA R a b) (y:aA R b c):aA R a c:=⟨λr o h e=>y.get r o h (x.get r o h e),xd x.len y.len⟩
theorem aA.mono (x:aA R a b) (h:∀r∈R,r∈R'):aA R' a b:=⟨λr o n e=>x.get r o (λq=>n (h r q)) e,x.len⟩
theorem aA.any (x:aA [] a b):aA R a b:=x.mono λ_ h=>nomatch h
theorem aA.push (R) (O τ):aA R O (O++τ):=⟨λr o _ e=>by rw [iv (ez.mp e).1];exact e,by simp⟩
theorem aA.set (O) (r) (o):aA [r] O (O.set r o):=⟨λq o' h e=>by rw [NV (λz=>h (by simp [z]))];exact e,by simp⟩
theorem cI (O:AH) (o):(O++[o])[O.length]?=some o:=by simp
theorem dX (h:O[r]?=some o'):(O.set r o)[r]?=some o:=abi (ez.mp h).1
def eW (O:AH) (r c a:Nat) (v:AV):Prop:=∃l,O[r]?=some (.ba c l)/\lk a l=some v
def rY (O:AH) (r c m f:Nat):Prop:=∃l,O[r]?=some (.ba c l)/\lk m l=none/\GG.meth c m=some f
theorem eW.iW {a:Nat} (h:eW O r c a v) (e:c≠bQ):dA (.ref r) a O=some v:=by refine aQ h λl b d=>(qD b).trans ((if_neg e).trans d)
theorem rz (h:O[r]?=some o):gE GG (.ref r) m O=gE GG (.ref 0) m [o]:=by show rA GG r m O=rA GG 0 m [o];delta rA;refine aa h ?_;rfl
theorem Bb {i:AV} (h:O[r]?=some o):cW (.ref r) i O=cW (.ref 0) i [o]:=by unfold cW yA yB;dsimp only;refine aa h ?_;rfl
theorem rY.meth (h:rY O r c m f):gE GG (.ref r) m O=some (.own f):=by refine ct h λl a b d=>?_;show rA GG r m O=_;delta rA;refine aa a ?_;show (match lk m l with | none=>(GG.meth c m).map MK.own | some _=>none)=_;exact aa b (congrArg (CC MK.own) d)
theorem eW.keep {a:Nat} (h:eW O r c a v) (k:aA R O O') (n:r∉R):eW O' r c a v:=let ⟨l,a,b⟩:=h;⟨l,k.get _ _ n a,b⟩
theorem rY.keep (h:rY O r c m f) (k:aA R O O') (n:r∉R):rY O' r c m f:=let ⟨l,a,b⟩:=h;⟨l,k.get _ _ n a,b⟩
structure Sg where
 w:Nat
 msb:Int
 lsb:Int
 net:Bool
 sc:Bool
 sd:Bool
 mem:Option (Int×Int)
 ao5:AV
noncomputable def Sg.kind (g:Sg):AV:=.str (if g.net then [119,105,114,101] else [114,101,103])
noncomputable def Sg.fi (g:Sg):AV:=match g.mem with | some p=>.int p.1 | none=>.none
noncomputable def Sg.la (g:Sg):AV:=match g.mem with | some p=>.int p.2 | none=>.none
def Sg.fields (k:Nat) (g:Sg):List (Nat×AV):=[(116,.int k),(165,g.ao5),(90,g.kind),(118,.int g.w),(99,.bool g.sd),(148,.int g.msb),(147,.int g.lsb),(103,g.fi),(106,g.la),(166,.none),(91,.int (-1)),(146,.bool g.sc)]
structure Wo where
 D:Nat
 L:Nat
 S:Nat
 E:Nat
 rs:List Nat
 gs:List Sg
 en:List (List Nat×AV)
structure Std (w:Wo) (O:AH):Prop where
 des:eW O w.D 87 112 (.ref w.L)
 sl:O[w.L]?=some (.lst (w.rs.map .ref))
 sg:∀(k:Nat) (r:Nat) (g:Sg),w.rs[k]?=some r->w.gs[k]?=some g->O[r]?=some (.ba 86 (g.fields k))
 sd:eW O w.S 88 145 (.ref w.D)
 se:eW O w.S 88 180 (.ref w.E)
 lo:rY O w.S 88 151 1016
 en:O[w.E]?=some (.dS w.en)
 ln:w.rs.length=w.gs.length
noncomputable def Wo.refs (w:Wo):List Nat:=[w.D,w.L,w.S,w.E]++w.rs
theorem Std.keep {w:Wo} (h:Std w O) (k:aA R O O') (n:∀r∈w.refs,r∉R):Std w O':=by
 have nr:∀(k r:Nat),w.rs[k]?=some r->r∉R:=λk r e=>n r (j8 _ (gW e));exact ⟨h.des.keep k (n _ (by simp [Wo.refs])),k.get _ _ (n _ (by simp [Wo.refs])) h.sl,λi r g e a=>k.get _ _ (nr i r e) (h.sg i r g e a),h.sd.keep k (n _ (by simp [Wo.refs])),h.se.keep k (n _ (by simp [Wo.refs])),
  h.lo.keep k (n _ (by simp [Wo.refs])),k.get _ _ (n _ (by simp [Wo.refs])) h.en,h.ln⟩
theorem Std.keep0 {w:Wo} (h:Std w O) (k:aA [] O O'):Std w O':=h.keep k λ_ _ q=>nomatch q
section
variable {w:Wo} {g:Sg}
theorem Std.at' (H:Std w O) (a:w.gs[k]?=some g):∃r,w.rs[k]?=some r/\O[r]?=some (.ba 86 (g.fields k)):=by
 have:k<w.rs.length:=by refine aa H.ln ?_;exact (ez.mp a).1
 exact ⟨_,dO this,H.sg k _ g (dO this) a⟩
theorem jD (h:O[r]?=some (.lst l)) (a:l[k]?=some v):cW (.ref r) (.int k) O=some v:=by show yA r k O=_;delta yA;refine aa h ?_;show uw l k=_;unfold uw;rw [if_pos (by exact ao 7354416),rR,a]
theorem Std.item (H:Std w O) (hr:w.rs[k]?=some r):cW (.ref w.L) (.int k) O=some (.ref r):=
 jD H.sl (by rw [iR,hr];rfl)
theorem fZ {a:Nat} (h:O[r]?=some (.ba 86 (g.fields k))):dA (.ref r) a O=lk a (g.fields k):=by exact (qD h).trans rfl
theorem nF (h:O[r]?=some (.ba 86 (g.fields k))) (a:lk m (g.fields k)=none) (b:GG.meth 86 m=some f):gE GG (.ref r) m O=some (.own f):=rY.meth ⟨_,h,a,b⟩
theorem qT {a b:List Nat} (h:a≠b):pj a b=false:=(xZ a b).trans (decide_eq_false h)
theorem xY {a b:List Nat} (h:a=b):pj a b=true:=(xZ a b).trans (decide_eq_true h)
theorem fiN (g:Sg):uA g.fi=!g.mem.isSome:=by unfold Sg.fi;cases g.mem<;>rfl
theorem aeA:cG .IsNot g.fi .none O=some g.mem.isSome:=congrArg some ((congrArg (!·) (fiN g)).trans (NB _))
theorem atl {t:aB->AH->aJ Bool} {b:aB->AH->RS} (h:t loc O=.ok true O) (h':b loc O=.ret v O'):j3 t b (n+1) loc O=.ret v O':=by show (match t loc O with | .ok false O=>RS.next loc O | .ok true O=>(match b loc O with | .next loc O=>j3 t b n loc O | .cont loc O=>j3 t b n loc O | .ret v O=>.ret v O | _=>.aq) | _=>.aq)=_;refine aa h ?_;dsimp only;exact aa h' rfl
noncomputable def cD (k:Nat):AV:=.aw [.str [115,105,103],.int k]
theorem ahD (h:O[r]?=some (.ba 86 (g.fields k))):aj GG ai (n+1) 1008 [.ref r] O=.ok (.bool g.mem.isSome) O:=by exact aM 259 λF=>F (fZ h) aeA
theorem yb (H:Std w O) (b:w.gs[k]?=some g):aj GG ai (n+2) 37 [.ref w.S,cD k] O=.ok (.bool g.mem.isSome) O:=by refine aQ (H.at' b) λr hr a=>aM 4311941384 λF=>F (H.sd.iW ag) (H.des.iW ag) (H.item hr) (nF a rfl rfl) (ahD a)
theorem As (H:Std w O) (b:w.gs[k]?=some g):aj GG ai (n+1) 38 [.ref w.S,cD k,x] O=.ok (.aw [.int g.w,.bool g.sd,.int g.msb,.int g.lsb,.bool g.sc]) O:=by refine aQ (H.at' b) λr hr a=>aM 0x202020204030108 λF=>F (H.sd.iW ag) (H.des.iW ag) (H.item hr) (fZ a) (fZ a) (fZ a) (fZ a) (fZ a)
theorem ahz (H:Std w O) (a:w.gs[k]?=some g):aj GG ai (n+1) 39 [.ref w.S,cD k,.none] O=.ok (.aw [.str [115,105,103],.int g.w,.int k]) O:=by refine aQ (H.at' a) λr hr b=>aM 16974088 λF=>F (H.sd.iW ag) (H.des.iW ag) (H.item hr) (fZ b)
theorem n7 {t:List Nat} (ht:t≠[112,97,116,104]):aj GG ai (n+1) 36 [.aw (.str t::l)] O=.ok (.aw (.str t::l)) O:=by exact aM 5 λF=>F (qT ht)
theorem ahi (H:Std w O) {nm:List Nat} (a:lk nm w.en=some v):aj GG ai (n+1) 1016 [.ref w.S,.str nm] O=.ok v O:=by
 have d:cG .In (.str nm) (.ref w.E) O=some true:=by
  have c:(lk nm w.en).isSome=true:=by refine bA a ?_;rfl
  show nj O (.str nm) w.E=_;delta nj;exact aa H.en (congrArg some c)
 have b:cW (.ref w.E) (.str nm) O=some v:=by show yB w.E nm O=_;delta yB;exact aa H.en a
 refine aM 5 λF=>F (atl ?_ ?_)
 . exact DL 257 λF=>F (congrArg _ rfl) (congrArg _ rfl)
 . exact goS 33816836 λF=>F (H.se.iW ag) d (H.se.iW ag) b
noncomputable def dR (nm:List Nat):AV:=.aw [.str [105,100],.int 0,.str nm]
theorem Jm (H:Std w O) {nm:List Nat} (b:lk nm w.en=some v) (a:uA v=false):aj GG ai (n+2) 46 [.ref w.S,dR nm] O=.ok v O:=by exact aM 328457 λF=>F H.lo.meth (ahi H b) a
theorem An (H:Std w O) {nm:List Nat} (b:lk nm w.en=some v) (a:uA v=false):aj GG ai (n+3) 47 [.ref w.S,dR nm] O=.ok (.aw [v,.none]) O:=by have e1:aj GG ai (n+2) 36 [dR nm] O=.ok (dR nm) O:=n7 ag;have e2:=Jm (n:=n) H b a;unfold dR at*;exact aM 2819 λF=>F e1 e2
noncomputable def nq (b e:AV):AV:=.aw [.str [105,110,100,101,120],.int 0,b,e]
theorem agY (H:Std w O) {nm:List Nat} (d:lk nm w.en=some (cD k)) (b:w.gs[k]?=some g) (c:g.mem.isSome=true):aj GG ai (n+4) 47 [.ref w.S,nq (dR nm) e] O=.ok (.aw [cD k,e]) O:=by have e1:aj GG ai (n+3) 36 [nq (dR nm) e] O=.ok (nq (dR nm) e) O:=n7 ag;have e2:=An (n:=n) H d (by rfl);have a:=yb (n:=n+1) H b;rw [c] at a;unfold nq at*;exact aM 595459 λF=>F e1 e2 a
end
end
end
variable {b6:aB} {it:AV} {w:Wo} {g:Sg} {asn:AV->aB->Option aB}
section
set_option smartUnfolding false
section
variable {b:aB->AH->RS}
def Q4 (it:AV) (asn:AV->aB->Option aB) (b:aB->AH->RS) (n i:Nat) (r:RS):RS:=EL (λloc O=>d8 it asn b n i loc O) r
theorem sH (h:fG it i O=some (some v)) (h':asn v loc=some au):d8 it asn b (n+1) i loc O=Q4 it asn b n (i+1) (b au O):=by show wY _ _ _ (fG it i O)=_;refine aa h ?_;show (match asn v loc with | none=>RS.aq | some loc=>EL _ (b loc O))=_;exact aa h' rfl
theorem qV (h:fG it i O=some (some v)) (h':asn v loc=some au) (hb:b au O=.next b6 O'):d8 it asn b (n+1) i loc O=d8 it asn b n (i+1) b6 O':=by refine (sH h h').trans (bA hb ?_);rfl
theorem RN (h:fG it i O=some (some v)) (h':asn v loc=some au) (hb:b au O=.cont b6 O'):d8 it asn b (n+1) i loc O=d8 it asn b n (i+1) b6 O':=by refine (sH h h').trans (bA hb ?_);rfl
theorem RO (h:fG it i O=some (some v)) (h':asn v loc=some au) (hb:b au O=.dm r O'):d8 it asn b (n+1) i loc O=.dm r O':=by refine (sH h h').trans (bA hb ?_);rfl
theorem jU {r:RS} (a:dG it O=m) (h:d8 it asn b m 0 loc O=r):d8 it asn b (dG it O) 0 loc O=r:=a▸h
theorem sG (h:fG it i O=some none):d8 it asn b (n+1) i loc O=.next loc O:=by show wY _ _ _ (fG it i O)=_;exact aa h rfl
theorem x9 {O:AH}:Q4 it asn b n i (.next loc O)=d8 it asn b n i loc O:=rfl
theorem arf (a b c d e) (O):te (.aw [a,b,c,d,e]) (.int 0) (.int 2) O=.ok (.aw [a,b]) O:=rfl
theorem sl1 (a b c d) (O):te (.aw [a,b,c,d]) (.int 1) .none O=.ok (.aw [b,c,d]) O:=rfl
theorem asQ (a b c d) (O):dg .Add (.aw [a]) (.aw [b,c,d]) O=.ok (.aw [a,b,c,d]) O:=rfl
theorem ahk (H:Std w O) {nm:List Nat} (e:lk nm w.en=some (cD k)) (b:w.gs[k]?=some g) (d:g.mem.isSome=false):aj GG ai (n+3) 50 [.ref w.S,dR nm] O=.ok (.aw [.int g.w,.bool g.sd]) O:=by have e1:aj GG ai (n+2) 36 [dR nm] O=.ok (dR nm) O:=n7 ag;have e2:=Jm (n:=n) H e rfl;have a:=yb (n:=n) H b;have c:∀x,aj GG ai (n+2) 38 [.ref w.S,cD k,x] O=_:=λx=>As H b;rw [d] at a;exact aM 4446292739 λF=>F e1 e2 a (c _) (arf _ _ _ _ _ _)
theorem Rx (H:Std w O) {nm:List Nat} (f:lk nm w.en=some (cD k)) (a:w.gs[k]?=some g) (e:g.mem.isSome=false):aj GG ai (n+3) 51 [.ref w.S,dR nm] O=.ok (.aw [.str [115,105,103],.int g.w,.int k]) O:=by have e1:aj GG ai (n+2) 36 [dR nm] O=.ok (dR nm) O:=n7 ag;have e2:=Jm (n:=n) H f rfl;have b:=yb (n:=n) H a;have c:=λx=>As (n:=n+1) H a (x:=x);have d:=ahz (n:=n+1) H a;rw [e] at b;exact aM 21626161923 λF=>F e1 e2 b (c _) d
noncomputable def ly (c:Nat):AV:=.aw [.str [110,117,109],.int 0,.aw [.int 8,.int c,.int 0],.bool true,.bool true]
noncomputable def vJ (c:Nat):AV:=.aw [.str [99,111,110,115,116],.int 8,.int c,.int 0]
theorem aha (d:c<256):aj GG ai (n+3) 14 [.aw [.int 8,.int c,.int 0],.int 8,x] O=.ok (.aw [.int 8,.int c,.int 0]) O:=by
 have e1:=ahR (n:=n) (w:=8) (a:=c) (b:=0) (O:=O) ag;rw [Nat.mod_eq_of_lt (show c<2^8 from d)] at e1;have e1:=e1;have e:decide ((8:Int)<=8)=true:=by decide
 exact aM 13 λF=>F e1
theorem ahl (c) (a:c<256):aj GG ai (n+4) 45 [ly c,.int 8,.bool true] O=.ok (vJ c) O:=by have e1:=aha (n:=n) (O:=O) a (x:=.bool true);exact aM 270 λF=>F e1 (asQ _ _ _ _ _)
theorem Q9:aj GG ai (n+1) 43 [.str [43]] O=.ok (.bool true) O:=by exact aM 3 λF=>F (kin true)
theorem Rt (c):aj GG ai (n+1) 53 [x,ly c] O=.ok (.aw [.int 8,.bool true]) O:=by exact aM 0 id
theorem Rr (H:Std w O) {nm:List Nat} (c:lk nm w.en=some (cD k)) (a:w.gs[k]?=some g) (b:g.mem.isSome=false):aj GG ai (n+4) 53 [.ref w.S,dR nm] O=.ok (.aw [.int g.w,.bool g.sd]) O:=by have e1:=ahk (n:=n) H c a b;exact aM 1297 λF=>F (kin true) e1
structure WI (w:Wo) (g:Sg):Prop where
 en:lk [105] w.en=some (cD 4)
 gs:w.gs[4]?=some g
 w4:g.w=4
 sd:g.sd=true
 nm:g.mem=none
 nt:g.net=false
def C2 (c:Nat):AV:=.aw [.str [98,105,110],.int 0,.str [43],dR [105],ly c]
theorem ag8 (H:Std w O) (Y:WI w g) (c):aj GG ai (n+6) 53 [.ref w.S,C2 c] O=.ok (.aw [.int 8,.bool true]) O:=by
 have e1:=Q9 (n:=n+4) (O:=O);have e2:aj GG ai (n+5) 52 [.ref w.S,dR [105],ly c] O=.ok (.aw [.int 8,.bool true]) O:=by have a:=Rr (n:=n) H Y.en Y.gs (by refine bA Y.nm ?_;rfl);have b:=Rt (n:=n+3) (O:=O) c (x:=.ref w.S);rw [Y.w4,Y.sd] at a;exact aM 1284 λF=>F a b
 exact aM 593681 λF=>F (kin false) e1 e2
noncomputable def uQ:AV:=.aw [.str [115,105,103],.int 4,.int 4]
def sF:AV:=.aw [.str [101,120,116],.int 8,uQ,.bool true]
def tR (c:Nat):AV:=.aw [.str [98,105,110],.int 8,.str [43],sF,vJ c,.bool true]
theorem ahe (l):aj GG ai (n+1) 40 [.aw (.str [101,120,116]::l)] O=.ok (.bool true) O:=by exact aM 10 λF=>F (kin true)
theorem ahd (l):aj GG ai (n+1) 40 [.aw (.str [98,105,110]::l)] O=.ok (.bool true) O:=by exact aM 10 λF=>F (kin true)
theorem ahc:aj GG ai (n+2) 41 [sF] O=.ok sF O:=by
 have e1:aj GG ai (n+1) 40 [sF] O=_:=ahe _;have e2:aj GG ai (n+1) 35 [sF] O=.ok (.aw [uQ]) O:=by exact aM 0 id
 exact aM 1539 λF=>F e1 e2
theorem ahb (c):aj GG ai (n+2) 41 [tR c] O=.ok (tR c) O:=by
 have e1:aj GG ai (n+1) 40 [tR c] O=_:=ahd _;have e2:aj GG ai (n+1) 35 [tR c] O=.ok (.aw [sF,vJ c]) O:=by exact aM 0 id
 exact aM 1539 λF=>F e1 e2
theorem ahX {t:List Nat} {wd:Int} (a:v=.aw (.str t::.int wd::l)):aj GG ai (n+1) 44 [v,.int wd,x] O=.ok v O:=by subst a;exact aM 6 λF=>F (decide_eq_true (rfl:wd=wd))
theorem ahW:aj GG ai (n+3) 44 [uQ,.int 8,.bool true] O=.ok sF O:=by have e1:=ahc (n:=n) (O:=O);exact aM 12 λF=>F e1
theorem Q7 (c) (a:c<256):aj GG ai (n+5) 55 [x,ly c,.int 8,.bool true] O=.ok (vJ c) O:=by have e1:=ahl (n:=n) (O:=O) c a;exact aM 13 λF=>F e1
theorem ag1 (H:Std w O) (Y:WI w g):aj GG ai (n+4) 55 [.ref w.S,dR [105],.int 4,.bool true] O=.ok uQ O:=by have e1:=Rx (n:=n) H Y.en Y.gs (by rw [Y.nm];rfl);rw [Y.w4] at e1;have e2:aj GG ai (n+3) 44 [uQ,.int 4,.bool true] O=.ok uQ O:=ahX rfl;exact aM 2608 λF=>F e1 e2
theorem ag2 (H:Std w O) (Y:WI w g):aj GG ai (n+4) 55 [.ref w.S,dR [105],.int 8,.bool true] O=.ok sF O:=by have e1:=Rx (n:=n) H Y.en Y.gs (by refine bA Y.nm ?_;rfl);rw [Y.w4] at e1;have e2:=ahW (n:=n) (O:=O);exact aM 2608 λF=>F e1 e2
theorem ag0 (H:Std w O) (Y:WI w g) (c) (a:c<256):aj GG ai (n+7) 55 [.ref w.S,C2 c,.int 8,.bool true] O=.ok (tR c) O:=by
 have e1:aj GG ai (n+6) 54 [.ref w.S,C2 c,.int 8,.bool true] O=.ok (tR c) O:=by have b:=Q9 (n:=n+4) (O:=O);have d:=ag2 (n:=n+1) H Y;have e:=Q7 (n:=n) (O:=O) c a (x:=.ref w.S);have f:=ahb (n:=n+3) (O:=O) c;exact aM 34277639 λF=>F b d e f
 exact aM 19 λF=>F e1
set_option genCtorIdx false in
inductive Ix where
 |c (v:Nat) | i | p (v:Nat)
def Ix.bc:Ix->AV
 |.c v=>ly v
 |.i=>dR [105]
 |.p v=>C2 v
def Ix.val:Ix->AV
 |.c v=>vJ v
 |.i=>uQ
 |.p v=>tR v
noncomputable def Ix.ok:Ix->Prop
 |.c v=>v<256
 |.i=>True
 |.p v=>v<4
theorem Ar (H:Std w O) (Y:WI w g) (x:Ix) (a:x.ok):aj GG ai (n+8) 56 [.ref w.S,x.bc] O=.ok (.aw [x.val,.bool true]) O:=by
 induction x using Ix.casesOn with
 |c v=>have e1:=Rt (n:=n+6) (O:=O) v (x:=.ref w.S);have e2:=Q7 (n:=n+2) (O:=O) v a (x:=.ref w.S);exact aM 2052 λF=>F e1 e2
 |i=>have e1:=Rr (n:=n+3) H Y.en Y.gs (by refine bA Y.nm ?_;rfl);rw [Y.w4,Y.sd,show ((4:Nat):Int)=4 from rfl] at e1;have e2:=ag1 (n:=n+3) H Y;exact aM 2052 λF=>F e1 e2
 |p v=>have e1:=ag8 (n:=n+1) H Y v;have e2:=ag0 (n:=n) H Y v (by have:v<4:=a;exact ao 0x2007e4028d080111 this);exact aM 2052 λF=>F e1 e2
theorem Av (c) (d:c<256) (H:Std w O) (Y:WI w g):aj GG ai (n+10) 59 [.ref w.S,ly c] O=.ok (.int (sg 8 c)) O:=by
 have e1:aj GG ai (n+9) 58 [.ref w.S,ly c] O=.ok (.aw [.aw [.int 8,.int c,.int 0],.bool true]) O:=by
  have e:=Ar (n:=n) H Y (.c c) d;have f:∀x,aj GG ai (n+8) 57 [.ref w.S,vJ c,x] O=.ok (.aw [.int 8,.int c,.int 0]) O:=λx=>by exact aM 8 λF=>F (sl1 _ _ _ _ _)
  exact aM 2052 λF=>F e (f _)
 have e2:=Au (n:=n+8) (w:=8) (a:=c) (b:=0) (O:=O) ag ag;have e2:=e2;exact aM 1540 λF=>F e1 e2
end
end
variable {gi:Sg}
section
set_option smartUnfolding false
section
variable {v:Int} {b:AV} {t:List Nat}
def xO (k a:AV):aV:=.ba bQ [(90,k),(91,a),(92,.str [])]
theorem Xr (a) (O):dg .Mult (.int a) (.int 1) O=.ok (.int a) O:=by have:=yP a 1 O ag;rw [show ((1:Nat):Int)=1 from rfl,NM] at this;exact this
theorem Xs (a) (O):dg .Mult (.int a) (.int (-1)) O=.ok (.int (-a)) O:=by show (if rK (-1)=true then aJ.ok (AV.int (a* -1)) O else .aq)=_;rw [if_pos ag,show a* -1= -a by lia]
theorem MG (h:c<256):-128<=sg 8 c/\sg 8 c<128:=by
 unfold sg
 (split;(rename_i a;lia);(rename_i a;lia))
theorem Q8 (a:1<=v) (b:v<=65536):aj GG ai (n+1) 42 [.int v,x] O=.ok (.int v) O:=by exact aM 1284 λF=>F (decide_eq_false (show ¬v<1 by exact cJ 39601947318289 a)) (decide_eq_false (show ¬65536<v by exact cJ 0x400017cc8c400017c80811 b))
theorem ag4 (a:v<1):aj GG ai (n+1) 42 [.int v,x] O=.dm O.length (O++[xO (.str [98,97,100,95,114,97,110,103,101]) x]):=by exact aM 4 λF=>F (decide_eq_true a)
def BF (b:AV) (l r:Nat):AV:=.aw [.str [112,97,114,116],.int 0,b,ly l,ly r]
def FT (t:List Nat) (b:AV) (x:AV) (c:Nat):AV:=.aw [.str t,.int 0,b,x,ly c]
theorem RB {x:AV}:aj GG ai (n+1) 48 [x,.aw (.str [105,110,100,101,120]::l)] O=.ok (.int 1) O:=by exact aM 0 id
theorem ahJ (H:Std w O) (Y:WI w gi) {l:Nat} (d:l<256) (hr:r<256):aj GG ai (n+11) 48 [.ref w.S,BF b l r] O=.ok (.int ((sg 8 l-sg 8 r).natAbs+1)) O:=by have e1:=Av (n:=n) l d H Y;have e2:=Av (n:=n) r hr H Y;have a:=MG d;have c:=MG hr;have f:=Q8 (n:=n+9) (O:=O) (v:=(sg 8 l-sg 8 r).natAbs+1) (ao 77370308656) (Internal.lh (λe=>jl 0x400017c8901d60c008a03d0c017911220200bce813 c.1 a.2 e) (λe=>jl 0x20000be4480eb060045c03d088802f3a0600bc80913 c.2 a.1 e)) (x:=.int 0);exact aM 394256 λF=>F e1 e2 f
theorem DG (H:Std w O) (Y:WI w gi) (ht:t=[117,112]\/t=[100,111,119,110]) (d:c<256):aj GG ai (n+11) 48 [.ref w.S,FT t b x c] O=if 1<=sg 8 c then .ok (.int (sg 8 c)) O else .dm O.length (O++[xO (.str [98,97,100,95,114,97,110,103,101]) (.int 0)]):=by
 have e1:=Av (n:=n) c d H Y;have e:=MG d;by_cases h:1<=sg 8 c
 . have a:=Q8 (n:=n+9) (O:=O) (cJ 335208814609 h) (cJ 0x20000be4060e00bc80911 e.2) (x:=.int 0);refine bK ?_ (if_pos h).symm;rcases ht with rfl | rfl<;>exact aM 785 λF=>F e1 a
 . have a:=ag4 (n:=n+9) (O:=O) (cJ 39610537253905 h) (x:=.int 0);refine bK ?_ (if_neg h).symm;rcases ht with rfl | rfl<;>exact aM 785 λF=>F e1 a
set_option genCtorIdx false in
inductive Wh where
 |at (lo:Int) | kD (x:Ix) (base step:Int)
def Wh.av:Wh->AV
 |.at lo=>.aw [.str [97,116],.int lo]
 |.kD x b s=>.aw [.str [112,105,99,107],x.val,.bool true,.int b,.int s]
noncomputable def Sg.yc (g:Sg):AV:=.aw [.int g.w,.bool g.sd,.int g.msb,.int g.lsb,.bool g.sc]
noncomputable def Sg.f7 (g:Sg):Int:=if g.lsb<=g.msb then 1 else -1
theorem vY:aj GG ai (n+1) 22 [.aw [.int 8,.int c,.int 0],.bool true] O=.ok (.int (sg 8 c)) O:=Au ag ag
def rC:Ix->Int->Int->Wh
 |.c v,b,s=>.at ((sg 8 v-b)*s)
 |x,b,s=>.kD x b s
noncomputable def xD (t:List Nat) (v l s:Int):Int:=if t=[117,112]/\s<0 then l-v+1 else if t=[100,111,119,110]/\0<s then l+v-1 else l
def ke (t:List Nat) (v:Int) (g:Sg):Int:=xD t v g.lsb g.f7
theorem ahU {E:List AV} {t:AV} (a:g.sc=true):aj GG ai (n+1) 49 [.ref w.S,.aw (t::.int 0::E),g.yc] O=.dm O.length (O++[xO (.str [115,101,108,101,99,116,95,111,102,95,115,99,97,108,97,114]) (.int 0)]):=by exact aM 13 λF=>F a
theorem ahT (H:Std w O) (Y:WI w gi) {l:Nat} (e:l<256) (hr:r<256) (d:g.sc=false):aj GG ai (n+11) 49 [.ref w.S,BF b l r,g.yc] O=
 if (sg 8 l-sg 8 r)*g.f7<0 then .dm O.length (O++[xO (.str [98,97,100,95,114,97,110,103,101]) (.int 0)]) else .ok (Wh.at ((sg 8 r-g.lsb)*g.f7)).av O:=by
 have e1:=Av (n:=n) l e H Y;have e2:=Av (n:=n) r hr H Y;by_cases c:g.lsb<=g.msb
 . refine aa (show g.f7=1 from if_pos c) ?_;by_cases a:(sg 8 l-sg 8 r)*1<0
   . refine bK ?_ (if_pos a).symm;exact aM 38756091661 λF=>F d (decide_eq_true c) e1 e2 (decide_eq_true a)
   . refine bK ?_ (if_neg a).symm;exact aM 38756091661 λF=>F d (decide_eq_true c) e1 e2 (decide_eq_false a)
 . refine aa (show g.f7= -1 from if_neg c) ?_;by_cases a:(sg 8 l-sg 8 r)* -1<0
   . refine bK ?_ (if_pos a).symm;exact aM 38756091661 λF=>F d (decide_eq_false c) e1 e2 (decide_eq_true a)
   . refine bK ?_ (if_neg a).symm;exact aM 38756091661 λF=>F d (decide_eq_false c) e1 e2 (decide_eq_false a)
theorem Ju (H:Std w O) (Y:WI w gi) (ht:t=[105,110,100,101,120]\/t=[117,112]\/t=[100,111,119,110]) {x:Ix} (f:x.ok) {rest:List AV} (d:g.sc=false)
 (e:aj GG ai (n+11) 48 [.ref w.S,.aw (.str t::.int 0::b::x.bc::rest)] O=.ok (.int v) O):aj GG ai (n+12) 49 [.ref w.S,.aw (.str t::.int 0::b::x.bc::rest),g.yc] O=.ok (rC x (ke t v g) g.f7).av O:=by
 have e1:=Ar (n:=n+3) H Y x f;unfold ke;by_cases a:g.lsb<=g.msb
 . refine aa (show g.f7=1 from if_pos a) ?_;rcases ht with rfl | rfl | rfl
   . induction x using Ix.casesOn with
     |c=>exact aM 73401042701 λF=>F d (decide_eq_true a) e e1 vY
     |_=>exact aM 386598669 λF=>F d (decide_eq_true a) e e1
   . induction x using Ix.casesOn with
     |c=>exact aM 73451374349 λF=>F d (decide_eq_true a) e e1 vY
     |_=>exact aM 436930317 λF=>F d (decide_eq_true a) e e1
   . induction x using Ix.casesOn with
     |c=>exact aM 73552037645 λF=>F d (decide_eq_true a) e e1 vY
     |_=>exact aM 537593613 λF=>F d (decide_eq_true a) e e1
 . refine aa (show g.f7= -1 from if_neg a) ?_;rcases ht with rfl | rfl | rfl
   . induction x using Ix.casesOn with
     |c=>exact aM 73401042701 λF=>F d (decide_eq_false a) e e1 vY
     |_=>exact aM 386598669 λF=>F d (decide_eq_false a) e e1
   . induction x using Ix.casesOn with
     |c=>exact aM 73552037645 λF=>F d (decide_eq_false a) e e1 vY
     |_=>exact aM 537593613 λF=>F d (decide_eq_false a) e e1
   . induction x using Ix.casesOn with
     |c=>exact aM 73451374349 λF=>F d (decide_eq_false a) e e1 vY
     |_=>exact aM 436930317 λF=>F d (decide_eq_false a) e e1
end
end
variable {p:Bool}
section
set_option smartUnfolding false
section
variable {b:AV}
set_option genCtorIdx false in
inductive Se where
 |ix (x:Ix) | kB (l r:Nat) | up (x:Ix) (c:Nat) | down (x:Ix) (c:Nat)
def Se.bc (b:AV):Se->AV
 |.ix x=>nq b x.bc
 |.kB l r=>BF b l r
 |.up x c=>FT [117,112] b x.bc c
 |.down x c=>FT [100,111,119,110] b x.bc c
def Se.ok:Se->Prop
 |.ix x=>x.ok
 |.kB l r=>l<256/\r<256
 |.up x c | .down x c=>x.ok/\c<256
def Se.eK:Se->Int
 |.ix _=>1
 |.kB l r=>(sg 8 l-sg 8 r).natAbs+1
 |.up _ c | .down _ c=>sg 8 c
def Se.fE (g:Sg) (s:Se):Option (List Nat):=if g.sc=true then some [115,101,108,101,99,116,95,111,102,95,115,99,97,108,97,114] else match s with
 |.ix _=>none
 |.kB l r=>if (sg 8 l-sg 8 r)*g.f7<0 then some [98,97,100,95,114,97,110,103,101] else none
 |.up _ c | .down _ c=>if 1<=sg 8 c then none else some [98,97,100,95,114,97,110,103,101]
def Se.wh (g:Sg):Se->Wh
 |.ix x=>rC x (ke [105,110,100,101,120] 1 g) g.f7
 |.kB _ r=>.at ((sg 8 r-g.lsb)*g.f7)
 |.up x c=>rC x (ke [117,112] (sg 8 c) g) g.f7
 |.down x c=>rC x (ke [100,111,119,110] (sg 8 c) g) g.f7
def mY (f:List Nat) (O:AH):aJ AV:=.dm O.length (O++[xO (.str f) (.int 0)])
theorem ahS (H:Std w O) (Y:WI w gi) (s:Se) (e:s.ok):aj GG ai (n+12) 49 [.ref w.S,s.bc b,g.yc] O=match s.fE g with | some f=>mY f O | none=>.ok (s.wh g).av O:=by
 unfold Se.fE;by_cases a:g.sc=true
 . refine aa (if_pos a) ?_;induction s using Se.casesOn<;>exact ahU a
 . refine aa (if_neg a) ?_;have a:=Bool.not_eq_true _▸a;induction s using Se.casesOn with
   |ix x=>exact Ju H Y (.inl rfl) e a RB
   |kB l r=>
    refine (ahT H Y e.1 e.2 a).trans ?_;dsimp only;by_cases h:(sg 8 l-sg 8 r)*g.f7<0
    . refine ((if_pos h)).trans (aa (if_pos h) ?_);rfl
    . refine (if_neg h).trans (aa (if_neg h) ?_);rfl
   |up x c=>
    have d:=DG (n:=n) H Y (.inl rfl) (b:=b) (x:=x.bc) e.2;dsimp only;by_cases h:1<=sg 8 c
    . rw [if_pos h] at d⊢;exact Ju H Y (.inr (.inl rfl)) e.1 a d
    . rw [if_neg h] at d⊢;by_cases i:g.lsb<=g.msb<;>first | exact aM 722701 λF=>F a (decide_eq_true i) d | exact aM 722701 λF=>F a (decide_eq_false i) d
   |down x c=>
    have d:=DG (n:=n) H Y (.inr rfl) (b:=b) (x:=x.bc) e.2;dsimp only;by_cases h:1<=sg 8 c
    . rw [if_pos h] at d⊢;exact Ju H Y (.inr (.inr rfl)) e.1 a d
    . rw [if_neg h] at d⊢;by_cases i:g.lsb<=g.msb<;>first | exact aM 722701 λF=>F a (decide_eq_true i) d | exact aM 722701 λF=>F a (decide_eq_false i) d
theorem UO {p q:Prop} [Decidable p] [Decidable q] {d:Type} {a b:d} (h:(if p then some a else if q then none else some b)=none):q:=by
 by_cases c:q
 . exact c
 . rw [if_neg c] at h;by_cases hp:p
   . rw [if_pos hp] at h;exact nomatch h
   . rw [if_neg hp] at h;exact nomatch h
theorem ahI (H:Std w O) (Y:WI w gi) (s:Se) (a:s.ok) (e:s.fE g=none):aj GG ai (n+11) 48 [.ref w.S,s.bc b] O=.ok (.int s.eK) O:=by
 induction s using Se.casesOn with
 |ix x=>exact RB
 |kB l r=>exact ahJ H Y a.1 a.2
 |up x c=>have d:=DG (n:=n) H Y (.inl rfl) (b:=b) (x:=x.bc) a.2;exact d.trans (if_pos (UO e))
 |down x c=>have d:=DG (n:=n) H Y (.inr rfl) (b:=b) (x:=x.bc) a.2;exact d.trans (if_pos (UO e))
theorem Rv (h:O[r]?=some (.ba 86 (g.fields k))):aj GG ai (n+2) 1007 [.ref r] O=.ok (.bool g.net) O:=by
 have e1:aj GG ai (n+1) 66 [] O=.ok (.aw ([[119,105,114,101],[116,114,105],[119,97,110,100],[119,111,114],[116,114,105,48],[116,114,105,49],[116,114,105,114,101,103],[115,117,112,112,108,121,48],[115,117,112,112,108,121,49]].map AV.str)) O:=by exact aM 0 id
 have e2:cG .In g.kind (.aw ([[119,105,114,101],[116,114,105],[119,97,110,100],[119,111,114],[116,114,105,48],[116,114,105,49],[116,114,105,114,101,103],[115,117,112,112,108,121,48],[115,117,112,112,108,121,49]].map AV.str)) O=some g.net:=by unfold Sg.kind;generalize g.net=t;cases t<;>kernel_rfl
 exact aM 65795 λF=>F (fZ h) e1 e2
noncomputable def nU (p net:Bool):Option (List Nat):=if p then (if net then some [97,115,115,105,103,110,95,116,111,95,110,101,116] else none) else if net then none else some [97,115,115,105,103,110,95,116,111,95,118,97,114,105,97,98,108,101]
theorem DE (H:Std w O) (b:w.gs[k]?=some g):aj GG ai (n+3) 61 [.ref w.S,cD k,.bool p,.int 0] O=match nU p g.net with | some f=>mY f O | none=>.ok .none O:=by refine aQ (H.at' b) λr hr a=>?_;have e1:=Rv (n:=n) a;generalize g.net=t at*;induction p using dy<;>cases t<;>exact aM 4311941389 λF=>F (H.sd.iW ag) (H.des.iW ag) (H.item hr) (nF a rfl rfl) e1
theorem Ia {a b:List Nat} (h:a≠b):(!pj a b)=true:=by refine bA (qT h) ?_;rfl
theorem ag3 {t:List Nat} (a:t≠[108,111,99,97,108]) (b:t≠[115,105,103]) {p:AV}:aj GG ai (n+1) 61 [x,.aw (.str t::l),p,.int 0] O=mY [110,111,116,95,97,115,115,105,103,110,97,98,108,101] O:=by exact aM 1285 λF=>F (qT a) (Ia b)
end
end
variable {y q y0 y1 y2 y3 y4 y5 y6 y7 y8:Nat} {L:List Nat} {A5:AV}
section
set_option smartUnfolding false
section
variable {x:Nat} {M:List Nat}
theorem anQ {nm:List Nat} (a:nm=[97]\/nm=[98]\/nm=[99]) (s:Se):cG .Eq (dR nm) (s.bc (dR nm)) O=some false:=by
 induction s using Se.casesOn with
 |ix x=>rcases a with rfl | rfl | rfl<;>induction x using Ix.casesOn<;>kernel_rfl
 |kB l r=>rcases a with rfl | rfl | rfl<;>kernel_rfl
 |up x c=>rcases a with rfl | rfl | rfl<;>induction x using Ix.casesOn<;>kernel_rfl
 |down x c=>rcases a with rfl | rfl | rfl<;>induction x using Ix.casesOn<;>kernel_rfl
theorem anN (y:Ix) (s:Se):cG .Eq (nq (dR [109]) y.bc) (s.bc (nq (dR [109]) y.bc)) O=some false:=by
 induction s using Se.casesOn with
 |ix x=>induction y using Ix.casesOn<;>induction x using Ix.casesOn<;>kernel_rfl
 |kB l r=>induction y using Ix.casesOn<;>kernel_rfl
 |up x c=>induction y using Ix.casesOn<;>induction x using Ix.casesOn<;>kernel_rfl
 |down x c=>induction y using Ix.casesOn<;>induction x using Ix.casesOn<;>kernel_rfl
theorem agH {nm:List Nat} (a:nm=[97]\/nm=[98]\/nm=[99]\/nm=[112]):cG .Eq (dR nm) (dR nm) O=some true:=by rcases a with rfl | rfl | rfl | rfl<;>kernel_rfl
noncomputable def BE (wd:Int) (k:Nat) (wv wh:AV):AV:=.aw [.str [115,105,103],.int wd,.int k,wv,wh]
noncomputable def Wh.pT:Wh->Bool
 |.at _=>false
 |.kD ..=>true
def FC (s:Se) (g:Sg) (p:Bool) (k:Nat) (wv:AV) (O:AH):aJ AV:=match s.fE g with
 |some f=>mY f O
 |none=>if ((s.wh g).pT&&!p)=true then mY [110,111,116,95,99,111,110,115,116,97,110,116] O else .ok (BE s.eK k wv (s.wh g).av) O
theorem PF (y:Ix):uA y.bc=false:=by induction y using Ix.casesOn<;>rfl
theorem Wh.tag (x:Wh):∃l,x.av=.aw (.str (if x.pT then [112,105,99,107] else [97,116])::l):=by induction x using Wh.casesOn<;>exact ⟨_,rfl⟩
theorem ml {d:Type} (x y:Nat) (v:d) (l):lk x (up y v l)=if y=x then some v else lk x l:=by
 induction l with
 |nil=>simp only [FX,eh,ry]
 |cons p l c=>
  obtain ⟨z,u⟩:=p;simp only [tg];by_cases b:z=y
  . subst b;refine bA (if_pos rfl) ?_;simp only [eh];by_cases a:z=x<;>simp [a]
  . refine bA (if_neg b) ?_;simp only [eh,c];by_cases a:z=x
    . exact aa (if_pos a) (aa (if_neg (λq=>b (a.trans q.symm))) (aa (if_pos a) rfl))
    . exact iP (if_neg a) ((if_neg a).trans rfl)
theorem cT {a:Type} {v:a} {l:List (Nat×a)} (h:¬y=x):lk x (up y v l)=lk x l:=(ml x y v l).trans (if_neg h)
theorem ic {a:Type} {v:a} {l:List (Nat×a)} (h:cA y x=false):lk x (up y v l)=lk x l:=cT (Nat.ne_of_beq_eq_false h)
theorem nA (a:x∈L) (h:y∉L:=by decide):¬y=x:=λe=>h (e▸a)
theorem nB (a:x∉L) (h:y∈L:=by decide):¬y=x:=λe=>a (e▸h)
theorem nC (a:x∈L) (h:∀x∈L,x∉M:=by decide):x∉M:=h x a
theorem nD (a:x∉L) (h:∀x∈M,x∈L:=by decide):x∉M:=λq=>a (h x q)
theorem m1 (h:q≠a):q∉[a]:=λe=>h (xb.mp e)
theorem m2 (h:q≠a) (h':q≠b):q∉[a,b]:=λe=>(cF.mp e).elim h (m1 h')
theorem m3 (h:q≠a) (h':q≠b) (d:q≠c):q∉[a,b,c]:=λe=>(cF.mp e).elim h (m2 h' d)
theorem lk_s {a:Type} {v:a} {l:List (Nat×a)}:lk x (up x v l)=some v:=(ml x x v l).trans (if_pos rfl)
theorem lq {a:Type} {v:a} {l:List (Nat×a)} {r:Option a} (h:cA y x=false) (k:lk x l=r):lk x (up y v l)=r:=(ic h).trans k
theorem lr1 {a:Type} {b:a} {l:List (Nat×a)} {r:Option a} (h:cA y0 x=false) (k:lk x l=r):lk x (up y0 b l)=r:=lq h k
theorem lr2 {a:Type} {b c:a} {l:List (Nat×a)} {r:Option a} (h:(cA y0 x||cA y1 x)=false) (k:lk x l=r):lk x (up y0 b (up y1 c l))=r:=lq (jJ.mp h).1 (lr1 (jJ.mp h).2 k)
theorem lr3 {a:Type} {b c d:a} {l:List (Nat×a)} {r:Option a} (h:(cA y0 x||(cA y1 x||cA y2 x))=false) (k:lk x l=r):lk x (up y0 b (up y1 c (up y2 d l)))=r:=lq (jJ.mp h).1 (lr2 (jJ.mp h).2 k)
theorem lr4 {a:Type} {b c d e:a} {l:List (Nat×a)} {r:Option a} (h:(cA y0 x||(cA y1 x||(cA y2 x||cA y3 x)))=false) (k:lk x l=r):lk x (up y0 b (up y1 c (up y2 d (up y3 e l))))=r:=lq (jJ.mp h).1 (lr3 (jJ.mp h).2 k)
theorem lr5 {a:Type} {b c d e f:a} {l:List (Nat×a)} {r:Option a} (h:(cA y0 x||(cA y1 x||(cA y2 x||(cA y3 x||cA y4 x))))=false) (k:lk x l=r):lk x (up y0 b (up y1 c (up y2 d (up y3 e (up y4 f l)))))=r:=lq (jJ.mp h).1 (lr4 (jJ.mp h).2 k)
theorem lr6 {a:Type} {b c d e f g:a} {l:List (Nat×a)} {r:Option a} (h:(cA y0 x||(cA y1 x||(cA y2 x||(cA y3 x||(cA y4 x||cA y5 x)))))=false) (k:lk x l=r):lk x (up y0 b (up y1 c (up y2 d (up y3 e (up y4 f (up y5 g l))))))=r:=lq (jJ.mp h).1 (lr5 (jJ.mp h).2 k)
theorem lr7 {a:Type} {b c d e f g i:a} {l:List (Nat×a)} {r:Option a} (h:(cA y0 x||(cA y1 x||(cA y2 x||(cA y3 x||(cA y4 x||(cA y5 x||cA y6 x))))))=false) (k:lk x l=r):lk x (up y0 b (up y1 c (up y2 d (up y3 e (up y4 f (up y5 g (up y6 i l)))))))=r:=lq (jJ.mp h).1 (lr6 (jJ.mp h).2 k)
theorem lr8 {a:Type} {b c d e f g i j:a} {l:List (Nat×a)} {r:Option a} (h:(cA y0 x||(cA y1 x||(cA y2 x||(cA y3 x||(cA y4 x||(cA y5 x||(cA y6 x||cA y7 x)))))))=false) (k:lk x l=r):lk x (up y0 b (up y1 c (up y2 d (up y3 e (up y4 f (up y5 g (up y6 i (up y7 j l))))))))=r:=lq (jJ.mp h).1 (lr7 (jJ.mp h).2 k)
theorem yK {a:Type} {b c d e f g i j m:a} {l:List (Nat×a)} {r:Option a} (h:(cA y0 x||(cA y1 x||(cA y2 x||(cA y3 x||(cA y4 x||(cA y5 x||(cA y6 x||(cA y7 x||cA y8 x))))))))=false) (k:lk x l=r):lk x (up y0 b (up y1 c (up y2 d (up y3 e (up y4 f (up y5 g (up y6 i (up y7 j (up y8 m l)))))))))=r:=lq (jJ.mp h).1 (lr8 (jJ.mp h).2 k)
theorem Se.Zk (s:Se) (b):∃t a,s.bc b=.aw (.str t::.int 0::b::a)/\(t=[105,110,100,101,120]\/t=[112,97,114,116]\/t=[117,112]\/t=[100,111,119,110]):=by induction s using Se.casesOn<;>exact dE _ _ ⟨rfl,ag⟩
theorem Zj {t:List Nat} (ht:t=[105,110,100,101,120]\/t=[112,97,114,116]\/t=[117,112]\/t=[100,111,119,110]):
 t≠[112,97,116,104]/\cG .NotIn (.str t) (.aw [.str [105,100],.str [112,97,116,104],.str [105,110,100,101,120],.str [112,97,114,116],.str [117,112],.str [100,111,119,110]]) O=some false/\pj t [105,100]=false/\pj t [112,97,116,104]=false:=by
 rcases ht with rfl | rfl | rfl | rfl<;>exact ⟨ag,by kernel_rfl,rfl,rfl⟩
theorem RD (H:Std w O) (Y:WI w gi) (m:w.gs[k]?=some g) (s) (A:s.ok) {b wv:AV}
 (hb:aj GG ai (n+13) 47 [.ref w.S,b] O=.ok (.aw [cD k,A5]) O)
 (B:(A5=.none/\wv=.none/\g.mem.isSome=false)\/(∃y:Ix,y.ok/\A5=y.bc/\wv=.aw [y.val,.bool true]))
 (c:cG .Eq b (s.bc b) O=some false) (C:nU p g.net=none):
 aj GG ai (n+14) 62 [.ref w.S,s.bc b,.bool p] O=FC s g p k wv O:=by
 have d:=DE (n:=n+10) H m (p:=p);rw [C] at d;have es:∀x,aj GG ai (n+13) 38 [.ref w.S,cD k,x] O=.ok g.yc O:=λx=>As H m;have i:=yb (n:=n+11) H m;have a:=ahS (n:=n+1) H Y (g:=g) s A (b:=b);have ed:s.fE g=none->aj GG ai (n+13) 48 [.ref w.S,s.bc b] O=.ok (.int s.eK) O:=λh=>ahI H Y s A h;refine j6 (s.Zk b) λt j v ht=>?_;rw [v] at a ed c⊢;clear v;refine j5 (Zj (O:=O) ht) λD e hi hp=>?_;have a1:=n7 (n:=n+12) (O:=O) (l:=.int 0::b::j) D;unfold FC;generalize s.fE g=o at a ed⊢;induction o using aW with
 |some f=>
  rcases B with ⟨rfl,rfl,r⟩ | ⟨y,u,rfl,rfl⟩
  . rw [r] at i;exact aM 0x7080b07090a040a0503 λF=>F a1 e (congrArg _ hi) (congrArg _ hp) hb d (es _) i c a
  . exact aM 0x706040707090a040a0503 λF=>F a1 e (congrArg _ hi) (congrArg _ hp) hb d (es _) (congrArg _ (PF y)) (Ar H Y y u) c a
 |none=>
  have ed:=ed rfl;refine a8 ((s.wh g).tag) λl z=>?_;rw [z] at a⊢;clear z;generalize (s.wh g).pT=q at*;rcases B with ⟨rfl,rfl,r⟩ | ⟨y,u,rfl,rfl⟩
  . rw [r] at i;induction q using dy with
    |false=>exact aM 0xe07080b07090a040a0503 λF=>F a1 e (congrArg _ hi) (congrArg _ hp) hb d (es _) i c a ed
    |true=>
     induction p using dy with
     |false=>exact aM 0x7080b07090a040a0503 λF=>F a1 e (congrArg _ hi) (congrArg _ hp) hb d (es _) i c a
     |true=>exact aM 0x1107080b07090a040a0503 λF=>F a1 e (congrArg _ hi) (congrArg _ hp) hb d (es _) i c a ed
  . have y1:=Ar (n:=n+5) H Y y u;have y2:=PF y;induction q using dy with
    |false=>exact aM 0xe0706040707090a040a0503 λF=>F a1 e (congrArg _ hi) (congrArg _ hp) hb d (es _) (congrArg _ y2) y1 c a ed
    |true=>
     induction p using dy with
     |false=>exact aM 0x706040707090a040a0503 λF=>F a1 e (congrArg _ hi) (congrArg _ hp) hb d (es _) (congrArg _ y2) y1 c a
     |true=>exact aM 0x110706040707090a040a0503 λF=>F a1 e (congrArg _ hi) (congrArg _ hp) hb d (es _) (congrArg _ y2) y1 c a ed
end
end
section
set_option smartUnfolding false
theorem RC (H:Std w O) (h:w.gs[k]?=some g) (s:Se) {b:AV} {f:List Nat}
 (hb:aj GG ai (n+13) 47 [.ref w.S,b] O=.ok (.aw [cD k,A5]) O) (e:nU p g.net=some f):aj GG ai (n+14) 62 [.ref w.S,s.bc b,.bool p] O=mY f O:=by
 have a:=DE (n:=n+10) H h (p:=p);rw [e] at a;refine j6 (s.Zk b) λt c d ht=>aa d <| j5 (Zj (O:=O) ht) λj i hi hp=>aM 9938622088451 λF=>F (n7 j) i (congrArg _ hi) (congrArg _ hp) hb a
theorem ahN (H:Std w O) {nm:List Nat} (j:lk nm w.en=some (cD k)) (b:w.gs[k]?=some g) (e:g.mem.isSome=false) (i:nm=[97]\/nm=[98]\/nm=[99]):
 aj GG ai (n+14) 62 [.ref w.S,dR nm,.bool p] O=match nU p g.net with | some f=>mY f O | none=>.ok (BE g.w k .none (Wh.at 0).av) O:=by
 have a:=DE (n:=n+10) H b (p:=p);have es:∀x,aj GG ai (n+13) 38 [.ref w.S,cD k,x] O=.ok g.yc O:=λx=>As H b;have c:=yb (n:=n+11) H b;rw [e] at c;have hb:=An (n:=n+10) H j (by rfl);have d:=agH (O:=O) (nm:=nm) (by rcases i with h | h | h<;>simp [h]);generalize m:nU p g.net=l at a;induction l using aW with
 |some f=>dsimp only at a⊢;exact aM 152044803 λF=>F (n7 ag) (kin false) hb a
 |none=>dsimp only at a⊢;exact aM 0x80b0709100503 λF=>F (n7 ag) (kin false) hb a (es _) c d
theorem ahQ (H:Std w O) (Y:WI w gi) (e:lk [109] w.en=some (cD k)) (b:w.gs[k]?=some g) (d:g.mem.isSome=true) (x:Ix) (h:x.ok):
 aj GG ai (n+14) 62 [.ref w.S,nq (dR [109]) x.bc,.bool p] O=match nU p g.net with | some f=>mY f O | none=>.ok (BE g.w k (.aw [x.val,.bool true]) (Wh.at 0).av) O:=by
 have a:=DE (n:=n+10) H b (p:=p);have es:=λx=>As (n:=n+12) H b (x:=x);have c:=yb (n:=n+11) H b;rw [d] at c;have hb:=An (n:=n+10) H e (by rfl);have e1:=Ar (n:=n+5) H Y x h;generalize j:nU p g.net=i at a;induction i using aW with
 |some f=>dsimp only at a⊢;exact aM 152569091 λF=>F (n7 ag) (kin false) hb a
 |none=>dsimp only at a⊢;exact aM 5360149402748163 λF=>F (n7 ag) (kin false) hb a (es _) c e1
theorem ahO (c) {p:AV}:aj GG ai (n+14) 62 [x,ly c,p] O=mY [110,111,116,95,97,115,115,105,103,110,97,98,108,101] O:=by exact aM 1283 λF=>F (n7 ag) (kin true)
theorem ahP (H:Std w O) {nm:List Nat} (b:lk nm w.en=some (.aw (.str [112,97,114,97,109]::l))) {p:AV}:aj GG ai (n+14) 62 [.ref w.S,dR nm,p] O=mY [110,111,116,95,97,115,115,105,103,110,97,98,108,101] O:=by have hb:=An (n:=n+10) H b (by rfl);have a:=ag3 (n:=n+12) (O:=O) (t:=[112,97,114,97,109]) (l:=l) ag ag (x:=.ref w.S) (p:=p);exact aM 152044803 λF=>F (n7 ag) (kin false) hb a
end
variable {N:Nat} {τ:AH} {out:List AV}
section
set_option smartUnfolding false
section
variable {d:List (Int×AV)} {t:aB->AH->aJ Bool} {b:aB->AH->RS}
set_option genCtorIdx false in
inductive b0 where
 |id (nm:List Nat) (k:Nat) | word (x:Ix) | bg (nm:List Nat) (k:Nat) (s:Se) | rN (y:Ix) (s:Se)
def b0.bc:b0->AV
 |.id nm _=>dR nm
 |.word x=>nq (dR [109]) x.bc
 |.bg nm _ s=>s.bc (dR nm)
 |.rN y s=>s.bc (nq (dR [109]) y.bc)
noncomputable def b0.key:b0->Nat
 |.id _ k | .bg _ k _=>k
 |_=>3
noncomputable def b0.wd:b0->Option Ix
 |.word x | .rN x _=>some x
 |_=>none
def zm:Option Ix->AV
 |none=>.none
 |some x=>.aw [x.val,.bool true]
def b0.eK (g:Sg):b0->Int
 |.id .. | .word _=>g.w
 |.bg _ _ s | .rN _ s=>s.eK
def b0.wh (g:Sg):b0->Wh
 |.id .. | .word _=>.at 0
 |.bg _ _ s | .rN _ s=>s.wh g
def b0.i7 (g:Sg) (p:Bool) (e:b0):Option (List Nat):=match nU p g.net with
 |some f=>some f
 |none=>match e with
  |.id .. | .word _=>none
  |.bg _ _ s | .rN _ s=>match s.fE g with
   |some f=>some f
   |none=>if ((s.wh g).pT&&!p)=true then some [110,111,116,95,99,111,110,115,116,97,110,116] else none
def b0.ok (w:Wo) (g:Sg):b0->Prop
 |.id nm k=>lk nm w.en=some (cD k)/\g.mem.isSome=false/\(nm=[97]\/nm=[98]\/nm=[99])
 |.bg nm k s=>s.ok/\lk nm w.en=some (cD k)/\g.mem.isSome=false/\(nm=[97]\/nm=[98]\/nm=[99])
 |.word x=>x.ok/\lk [109] w.en=some (cD 3)/\g.mem.isSome=true
 |.rN y s=>y.ok/\s.ok/\lk [109] w.en=some (cD 3)/\g.mem.isSome=true
def b0.pv (g:Sg) (e:b0):AV:=BE (e.eK g) e.key (zm e.wd) (e.wh g).av
theorem ahM (H:Std w O) (Y:WI w gi) (e:b0) (b:w.gs[e.key]?=some g) (a:e.ok w g):
 aj GG ai (n+14) 62 [.ref w.S,e.bc,.bool p] O=match e.i7 g p with | some f=>mY f O | none=>.ok (e.pv g) O:=by
 induction e using b0.casesOn with
 |id nm k=>refine (ahN H a.1 b a.2.1 a.2.2).trans ?_;unfold b0.i7;cases nU p g.net<;>rfl
 |word x=>refine (ahQ H Y a.2.1 b a.2.2 x a.1).trans ?_;unfold b0.i7;cases nU p g.net<;>rfl
 |bg nm k s=>
  have hb:=An (n:=n+10) H a.2.1 (by rfl);unfold b0.i7;generalize d:nU p g.net=c;induction c using aW with
  |some f=>exact RC H b s hb d
  |none=>
   refine (RD H Y b s a.1 hb (.inl ⟨rfl,rfl,a.2.2.1⟩) (anQ a.2.2.2 s) d).trans ?_;unfold FC;dsimp only;generalize s.fE g=c;induction c using aW with
   |some f=>rfl
   |none=>dsimp only;split<;>rfl
 |rN y s=>
  have hb:=agY (n:=n+9) (e:=y.bc) H a.2.2.1 b a.2.2.2;unfold b0.i7;generalize d:nU p g.net=c;induction c using aW with
  |some f=>exact RC H b s hb d
  |none=>
   refine (RD H Y b s a.2.1 hb (.inr ⟨y,a.1,rfl,rfl⟩) (anN y s) d).trans ?_;unfold FC;dsimp only;generalize s.fE g=c;induction c using aW with
   |some f=>rfl
   |none=>dsimp only;split<;>rfl
theorem b0.Xz (e:b0):∃t l,e.bc=.aw (.str t::l)/\t≠[99,97,116]:=by
 induction e using b0.casesOn with
 |id nm k=>exact dE _ _ ⟨rfl,ag⟩
 |word x=>exact dE _ _ ⟨rfl,ag⟩
 |bg nm k s=>induction s using Se.casesOn<;>exact dE _ _ ⟨rfl,ag⟩
 |rN y s=>induction s using Se.casesOn<;>exact dE _ _ ⟨rfl,ag⟩
theorem LQ (h:O[r]?=some (.lst l)):gE GG (.ref r) 11 O=some .pop:=(rz h).trans rfl
theorem m_append (h:O[r]?=some (.lst l)):gE GG (.ref r) 10 O=some .append:=(rz h).trans rfl
theorem Xc (h:O[r]?=some (.lst l)):gE GG (.ref r) 12 O=some .reverse:=(rz h).trans rfl
theorem uG (h:O[r]?=some (.dI d)):gE GG (.ref r) 13 O=some .xW:=(rz h).trans rfl
theorem Ip (h:O[r]?=some (.lst (l++[v]))):qJ cl .pop (.ref r) [] O=.ok v (O.set r (.lst l)):=by refine (g8 h).trans ?_;rw [List.getLast?_concat,List.dropLast_concat]
theorem ck_append (h:O[r]?=some (.lst l)) (a:l.length<SZ):qJ cl .append (.ref r) [v] O=.ok .none (O.set r (.lst (l++[v]))):=(g8 h).trans (if_pos a)
theorem Qs (h:O[r]?=some (.lst l)):qJ cl .reverse (.ref r) [] O=.ok .none (O.set r (.lst l.reverse)):=g8 h
theorem tU {k:Int} (h:O[r]?=some (.dI d)):qJ cl .xW (.ref r) [.int k] O=.ok ((lk k d).getD .none) O:=by exact Pw h
theorem ZY (h:O[r]?=some (.lst l)):j1 O (.ref r)=some (!l.isEmpty):=by exact g8 h
theorem mj (h:O[r]?=some (.lst l)):fQ 0 [.ref r] O=.ok (.int l.length) O:=g8 h
theorem ait (O:AH) (o o'):(O++[o,o'])[O.length+1]?=some o':=by rw [mB (by exact ao 9665775664),show O.length+1-O.length=1 by exact bV (ak 0x24020c48842002211 (tE (ao 9665775664))) (ak 0x204a0c00842402011 Internal.jE)];rfl
theorem JA (O) (o) (τ:AH):(O++o::τ)[O.length]?=some o:=by rw [mB (by exact ao 2096),oR];rfl
theorem du (h:r≠q):(O.set r o)[q]?=O[q]?:=NV h
theorem bI (h:O[q]?=some o):(O++τ)[q]?=some o:=by rw [iv (ez.mp h).1];exact h
theorem agA {a:Type} (l) (v:a):(l++[v]).isEmpty=false:=by induction l using cK<;>rfl
theorem ZX (h:O[r]?=some (.lst (l++[v]))):j1 O (.ref r)=some true:=(ZY h).trans (congrArg (λb=>some (!b)) (agA l v))
theorem bZ (h:O[q]?=some o):q<O.length:=(ez.mp h).1
noncomputable def mP (a b:AV):AV:=.aw [.str [99,97,116],.int 0,.aw [a,b]]
inductive Fl:List AV->List AV->Nat->Prop
 |nil:Fl [] [] 0
 |leaf {s out n t l:_}:t≠[99,97,116]->Fl s out n->Fl (s++[.aw (.str t::l)]) (.aw (.str t::l)::out) (n+1)
 |C9 {s out n a b:_}:Fl (s++[b,a]) out n->Fl (s++[mP a b]) out (n+1)
theorem aad (h:t loc O=.ok true O) (h':b loc O=.next au O'):j3 t b (n+1) loc O=j3 t b n au O':=by show (match t loc O with | .ok false O=>RS.next loc O | .ok true O=>(match b loc O with | .next loc O=>j3 t b n loc O | .cont loc O=>j3 t b n loc O | .ret v O=>.ret v O | _=>.aq) | _=>.aq)=_;refine aa h ?_;dsimp only;exact aa h' rfl
theorem atn (h:t loc O=.ok false O'):j3 t b (n+1) loc O=.next loc O':=by show (match t loc O with | .ok false O=>_ | .ok true O=>_ | _=>RS.aq)=_;exact aa h rfl
theorem ah7 {st:List AV} (F:Fl st out n):∀m loc O g d az,n<m->g≠d->lk 159 loc=some (.ref g)->lk 160 loc=some (.ref d)->O[g]?=some (.lst az)->O[d]?=some (.lst st)->
 az.length+n<SZ->st.length+n<SZ->∃au O',j3 (fT GG (aj GG ai N) (.v 160)) (aH GG (aj GG ai N) RL) m loc O=.next au O'/\lk 159 au=some (.ref g)/\aA [g,d] O O'/\O'[g]?=some (.lst (az++out)):=by
 induction F with
 |nil=>intro m loc O g d az p j k i o h q f;refine a8 (kK p) λm v=>?_;subst v;refine dE loc O ⟨?_,k,aA.refl _ _,(by refine aa (vc ..) ?_;exact o)⟩;refine aa (show 0+m+1=m+1 by exact bV (ao 0x240212000a4830) (ao 0x24001484804830)) <| atn <| DL 257 λF=>F i (ZY h)
 |@leaf s out n t l ht _ r=>
  intro m loc O g d az p j k i o h q f;refine a8 (kK p) λm u=>?_;subst u;have g1:(O.set d (.lst s))[g]?=some (.lst az):=(du (bC j)).trans o;refine fJ (r (n+1+m) (up 107 (.aw (.str t::l)) loc) ((O.set d (.lst s)).set g (.lst (az++[.aw (.str t::l)]))) g d (az++[.aw (.str t::l)]) (ak 8873421310512) j (lq rfl k) (lq rfl i)
   (dX g1) ((du j).trans (dX h)) (by refine aa eC (aa abo ?_);exact aU 0x4040900928c80910802111 q) (by simp only [eC,abo] at f;exact aU 0x404004a320244212012111 f)) λau O' e a b c=>?_
  refine dE au O' ⟨?_,a,?_,?_⟩
  . refine (aad ?_ ?_).trans e
    . exact DL 257 λF=>F i (ZX h)
    . exact goS 0x10101020303010102 λF=>F i (LQ h) (Ip h) lk_s (qT ht) (lq rfl k) (m_append g1) lk_s (ck_append g1 (show az.length<SZ by exact aU 0x40028c80910802111 q))
  . exact ((aA.set O d _).mono (eZ [1])).trans (((aA.set _ g _).mono (eZ [0])).trans b)
  . refine aa (c ..) (aa (ju ..) ?_);rfl
 |@C9 s out n a b _ r=>
  intro m loc O g d az p j k i o h q f;refine a8 (kK p) λm w=>?_;subst w;have g1:(O.set d (.lst s))[g]?=some (.lst az):=(du (bC j)).trans o;have g2:(O.set d (.lst s))[d]?=some (.lst s):=dX h;refine fJ (r (n+1+m) (up 107 (mP a b) loc) ((O.set d (.lst s)).set d (.lst (s++[b,a]))) g d az (ak 8873421310512) j (lq rfl k) (lq rfl i)
   ((du (bC j)).trans g1) (dX g2) (aU 0x10100128c80910802111 q) (by rw [eC] at f⊢;simp at f⊢;exact aU 0x101044024a320244212012111 f)) λau O' e x y z=>?_
  have lst:A8 (O.set d (.lst s)) (.ref d)=true:=g8 g2;have ext:∀loc:aB,Jg (.ref d) (.aw [a,b]) loc (O.set d (.lst s))=.next loc ((O.set d (.lst s)).set d (.lst (s++[b,a]))):=by
   intro loc;refine (g8 g2).trans <| (if_pos (by simp only [eC] at f;simp at f⊢;exact aU 0x4088048320244212012111 f)).trans ?_
   rfl
  refine dE au O' ⟨?_,x,?_,z⟩
  . refine (aad ?_ ?_).trans e
    . exact DL 257 λF=>F i (ZX h)
    . exact goS 0x201010503010102 λF=>F i (LQ h) (Ip h) lk_s (lq rfl i) lst lk_s (ext _)
  . exact ((aA.set O d _).mono (eZ [1])).trans (((aA.set _ d _).mono (eZ [1])).trans y)
theorem Ru (F:Fl [e] out m) (f:m<40):∃O',aj GG ai (n+1) 60 [e] O=.ok (.ref O.length) O'/\aA [] O O'/\O'[O.length]?=some (.lst out):=by
 refine fJ (ah7 (N:=n) F 40 [(136,e),(159,.ref O.length),(160,.ref (O.length+1))] (O++[.lst [],.lst [e]]) O.length (O.length+1) [] f (ao 9665775152) rfl rfl (JA _ _ _) (ait _ _ _) (by simp [SZ];exact ao 0x30d40be4028ca0bc80111 f) (by simp [SZ];exact ao 0xc3502f9002528ca0bc80111 f)) λau O' a b c d=>?_;refine ⟨O',?_,⟨λr o _ e=>c.get r o (by have:=bZ e;simp;exact ⟨ak 35191020060945 this,ak 0x9108018c400111 this⟩) (bI e),by have:=c.len;simp at this;exact ak 0x80083104402011 this⟩,d⟩;have e1:(O++[aV.lst []]).length=O.length+1:=eC;have e2:(O++[aV.lst []])++[aV.lst [e]]=O++[.lst [],.lst [e]]:=by simp
 have g:ig (.lst [e]) (O++[.lst []])=.ok (.ref (O.length+1)) (O++[.lst [],.lst [e]]):=by refine aa e1.symm (aa e2.symm ?_);rfl
 exact sJ 197382 λF=>F g a b
end
end
variable {rp ra:Nat} {E:AV} {es:List b0}
def b0.gs (gk:Nat->Sg) (e:b0):Sg:=gk e.key
def jz (gk:Nat->Sg) (p:Bool):List b0->Option (List Nat)
 |[]=>none
 |e::es=>match e.i7 (gk e.key) p with | some f=>some f | none=>jz gk p es
def jI (gk:Nat->Sg):List b0->Int
 |[]=>0
 |e::es=>e.eK (gk e.key)+jI gk es
def nz (gk:Nat->Sg) (es:List b0):List AV:=es.map λe=>e.pv (gk e.key)
structure Kn (w:Wo) (gk:Nat->Sg) (es:List b0):Prop where
 gs:∀e∈es,w.gs[e.key]?=some (gk e.key)
 ok:∀e∈es,e.ok w (gk e.key)
 w1:∀e∈es,1<=(gk e.key).w
theorem Se.Cf {s:Se} (h:s.fE g=none):1<=s.eK:=by
 unfold Se.fE at h;split at h
 . contradiction
 . induction s using Se.casesOn with
   |ix x=>exact xa 1
   |kB l r=>show (1:Int)<=(sg 8 l-sg 8 r).natAbs+1;exact ao 77370308656
   |up x c=>
    dsimp only at h;split at h
    . assumption
    . contradiction
   |down x c=>
    dsimp only at h;split at h
    . assumption
    . contradiction
theorem b0.Cf {e:b0} (h:e.i7 g p=none) (a:1<=g.w):1<=e.eK g:=by
 unfold b0.i7 at h;split at h
 . contradiction
 . induction e using b0.casesOn with
   |id nm k=>show (1:Int)<=g.w;exact ao 31121534390289 a
   |word x=>show (1:Int)<=g.w;exact ao 31121534390289 a
   |bg nm k s=>
    dsimp only at h;split at h
    . contradiction
    . exact Se.Cf (by assumption)
   |rN y s=>
    dsimp only at h;split at h
    . contradiction
    . exact Se.Cf (by assumption)
section
variable {gk:Nat->Sg}
theorem oK (h:O[r]?=some (.lst l)):fG (.ref r) i O=some l[i]?:=by exact congrArg (CC λl:List AV=>l[i]?) (g8 h)
theorem l0 (h:O[r]?=some (.lst l)):dG (.ref r) O=l.length+1:=by delta dG;exact aa (show sX (.ref r) O=some l from g8 h) rfl
theorem ZZ (h:O[r]?=some (.lst l)):fQ 6 [.ref r] O=.ok (.aw l) O:=g8 h
theorem asS (Y:WI w gi) (L:ra≠rp) (M:∀r∈w.refs,r<ra):∀es O m i j az W loc,Std w O->Kn w gk es->O[rp]?=some (.lst (j++es.map b0.bc))->j.length=i->es.length<m->az.length+es.length<SZ->
 O[ra]?=some (.lst az)->lk 143 loc=some (.ref w.S)->lk 161 loc=some (.bool p)->lk 159 loc=some (.ref ra)->lk 118 loc=some (.int W)->
 ∃O',aA [ra] O O'/\match jz gk p es with
  |some f=>∃r,d8 (.ref rp) (gL 107) (aH GG (aj GG ai (n+14)) FK) m i loc O=.dm r O'/\O'[r]?=some (xO (.str f) (.int 0))
  |none=>∃g,d8 (.ref rp) (gL 107) (aH GG (aj GG ai (n+14)) FK) m i loc O=.next g O'/\O'[ra]?=some (.lst (az++nz gk es))/\lk 159 g=some (.ref ra)/\lk 118 g=some (.int (W+jI gk es)):=by
 intro l;induction l with
 |nil=>intro O m i j az W loc H K hp hi z q o s t u y;refine a8 (kK z) λm N=>?_;subst N;refine ⟨O,aA.refl _ _,?_⟩;dsimp only [jz,jI] at*;simp only [nz,NX,vc,Int.add_zero] at*;refine ⟨loc,?_,o,u,y⟩;refine aa (show [].length+m+1=m+1 by simp) <| sG (by rw [oK hp];subst hi;simp)
 |cons e es I=>
  intro O m i j az W loc H K hp hi z q o s t u y;refine a8 (kK z) λm J=>?_;subst J;have v:=ahM (n:=n) H Y e (K.gs e cN) (K.ok e cN) (p:=p);have e0:(e::es).length+m+1=(es.length+m+1)+1:=by simp [jv];exact bV (ak 0x9100121024024830) (ak 0x8120121220024830)
  rw [e0];have E:fG (.ref rp) i O=some (some e.bc):=by rw [oK hp];subst hi;simp
  generalize C:e.i7 (gk e.key) p=B at v;induction B using aW with
  |some f=>dsimp only [jz];rw [C];refine ⟨_,aA.push _ _ _,O.length,RO E rfl ?_,cI _ _⟩;exact goS 16843010 λF=>F (lq rfl s) lk_s (lq rfl t) v
  |none=>
   dsimp only [jz];rw [C];have A:az.length<SZ:=by simp at q;exact aU 0x40028c80910802111 q
   have G:az.length+1+es.length<SZ:=by simp at q;exact aU 0x4040900928c80910802111 q
   refine aQ (I (O.set ra (.lst (az++[e.pv (gk e.key)]))) (es.length+m+1) (i+1) (j++[e.bc]) (az++[e.pv (gk e.key)]) (W+e.eK (gk e.key)) (up 118 (.int (W+e.eK (gk e.key))) (up 163 (e.pv (gk e.key)) (up 107 e.bc loc)))
    (H.keep (aA.set O ra _) λr hr=>by have:=M r hr;simp;exact ak 35191020060945 this) ⟨λx h=>K.gs x (cu _ h),λx h=>K.ok x (cu _ h),λx h=>K.w1 x (cu _ h)⟩
    (by rw [du L,hp,ju];rfl) (by simp [hi]) (ak 9964343003696) (by simp;exact aU 0x4040900928c80812012111 G) (dX o) (lr3 rfl s) (lr3 rfl t) (lr3 rfl u) (lk_s)) λO' k h=>?_
   have body:aH GG (aj GG ai (n+14)) FK (up 107 e.bc loc) O=.next (up 118 (.int (W+e.eK (gk e.key))) (up 163 (e.pv (gk e.key)) (up 107 e.bc loc))) (O.set ra (.lst (az++[e.pv (gk e.key)]))):=by exact goS 0x1030101010301010102 λF=>F (lq rfl s) lk_s (lq rfl t) v (lr2 rfl u) (m_append o) lk_s (ck_append o A) (lr2 rfl y) lk_s
   rw [qV E rfl body];refine ⟨O',(aA.set O ra _).trans k,?_⟩;generalize D:jz gk p es=B;induction B using aW with
   |some f=>rw [D] at h;exact h
   |none=>
    rw [D] at h;dsimp only at h⊢;refine kI h λg a b c d=>⟨g,a,?_,c,?_⟩
    . rw [b,ju];rfl
    . rw [d,aa2];rfl
theorem ato (h:jz gk p es=none) (a:∀e∈es,1<=(gk e.key).w):0<=jI gk es/\(es≠[]->1<=jI gk es):=by
 induction es with
 |nil=>exact ⟨xa 0,λh=>absurd rfl h⟩
 |cons e es d=>
  replace h:(match e.i7 (gk e.key) p with | some f=>some f | none=>jz gk p es)=none:=h;generalize b:e.i7 (gk e.key) p=g at h;induction g using aW with
  |some f=>contradiction
  |none=>have:=d h λx c=>a x (cu _ c);have:=b0.Cf b (a e cN);show 0<=e.eK (gk e.key)+jI gk es/\(_->1<=e.eK (gk e.key)+jI gk es);exact ⟨by lia,λ_=>by lia⟩
noncomputable def jn (W:Int) (ps:List AV):AV:=.aw [.str [108,118],.int W,.aw ps]
theorem ahK (H:Std w O) (Y:WI w gi) (K:Kn w gk es) (s:es≠[]) (u:es.length<1000) (F:Fl [E] (es.map b0.bc) m) (v:m<40) (x:∀r∈w.refs,r<O.length):
 ∃O',aA [] O O'/\match jz gk p es with
  |some f=>∃r,aj GG ai (n+15) 63 [.ref w.S,E,.bool p] O=.dm r O'/\O'[r]?=some (xO (.str f) (.int 0))
  |none=>aj GG ai (n+15) 63 [.ref w.S,E,.bool p] O=.ok (jn (jI gk es) (nz gk es)) O':=by
 refine ct (Ru (n:=n+13) (O:=O++[.lst []]) F v) λh e1 k1 j=>?_;have ln:(O++[aV.lst []]).length=O.length+1:=eC;rw [ln] at j e1;have q:h[O.length]?=some (.lst []):=k1.get _ _ bP (cI _ _);have kk:aA [] O h:=(aA.push _ _ _).trans k1;have i:(es.map b0.bc).length=es.length:=cf ..;refine aQ (asS (n:=n) Y (ao 9665775152) x es h (es.length+1) 0 [] [] 0 [(143,.ref w.S),(136,E),(161,.bool p),(159,.ref O.length),(118,.int 0)] (H.keep0 kk) K j rfl (ao 9665776176) (by simp [SZ];exact ao 0x30d40be4028cfa0fc80111 u) q rfl rfl rfl rfl) λl k2 g=>?_;refine ⟨l,⟨λr o _ e=>k2.get r o (by have:=bZ e;simp;exact ak 35191020060945 this) (kk.get r o bP e),xd kk.len k2.len⟩,?_⟩;have k:dG (.ref (O.length+1)) h=es.length+1:=by rw [l0 j,i]
 generalize t:jz gk p es=z at g;induction z using aW with
 |some f=>dsimp only at g⊢;refine aQ g λr a b=>⟨r,?_,b⟩;exact aM 264 λF=>F e1 (jU k a)
 |none=>dsimp only at g⊢;refine kI g λA a b c d=>?_;have y:=(ato t K.w1).2 s;rw [Int.zero_add] at d;exact sJ 282587406991624 λF=>F e1 (jU k a) d (decide_eq_false (show ¬jI gk es=0 by exact cJ 4419722713105 y)) d c (ZZ b)
end
variable {all:List AV}
section
variable {f:List Nat}
section
variable {gk:Nat->Sg}
theorem YO (h:O[r]?=some (xO (.str f) x)):FA 90 (.dm r O)=.ret (.aw [.none,.str f]) O:=by exact (qD h).trans rfl
theorem Jt (H:Std w O) (Y:WI w gi) (K:Kn w gk es) (c:es≠[]) (d:es.length<1000) (F:Fl [E] (es.map b0.bc) m) (e:m<40) (g:∀r∈w.refs,r<O.length):
 ∃O',aA [] O O'/\aj GG ai (n+16) 77 [.ref w.S,E,.bool p] O=.ok (match jz gk p es with | some f=>.aw [.none,.str f] | none=>.aw [jn (jI gk es) (nz gk es),.str []]) O':=by
 refine aQ (ahK (n:=n) H Y (p:=p) K c d F e g) λO' k h=>⟨O',k,?_⟩;generalize j:jz gk p es=i at h;induction i using aW with
 |some f=>refine aQ h λr a b=>aM 261 λF=>F a (YO b)
 |none=>exact aM 5 λF=>F h
theorem ahL (H:Std w O) (F:Fl [E] [E] 1) (g:∀O,Std w O->aj GG ai (n+14) 62 [.ref w.S,E,.bool p] O=mY f O):
 ∃O',aA [] O O'/\aj GG ai (n+16) 77 [.ref w.S,E,.bool p] O=.ok (.aw [.none,.str f]) O':=by
 refine ct (Ru (n:=n+13) (O:=O++[.lst []]) F ag) λa e1 k1 b=>?_;have ln:(O++[aV.lst []]).length=O.length+1:=eC;rw [ln] at b e1;have kk:=(aA.push _ _ _).trans k1;have c:=g a (H.keep0 kk);have e:aj GG ai (n+15) 63 [.ref w.S,E,.bool p] O=.dm a.length (a++[xO (.str f) (.int 0)]):=by
  have d:dG (.ref (O.length+1)) a=1+1:=by refine (l0 b).trans ?_;rfl
  refine aM 264 λF=>F e1 (jU d (RO (v:=E) ?_ rfl ?_))
  . refine (oK b).trans ?_;rfl
  . exact goS 5 λF=>F c
 refine ⟨_,kk.trans (aA.push _ _ [xO (.str f) (.int 0)]),?_⟩;exact aM 261 λF=>F e (YO (cI a (xO (.str f) (.int 0))))
structure Pt where
 w:Int
 k:Nat
 wd:Option Ix
 wh:Wh
def Pt.av (p:Pt):AV:=BE p.w p.k (zm p.wd) p.wh.av
def b0.pt (gk:Nat->Sg) (e:b0):Pt:=⟨e.eK (gk e.key),e.key,e.wd,e.wh (gk e.key)⟩
theorem aps (es):nz gk es=(es.map (b0.pt gk)).map Pt.av:=by unfold nz;refine aa fO ?_;rfl
noncomputable def Wh.uI (lo:Int):Wh->Wh
 |.at l=>.at (l+lo)
 |.kD x b s=>.kD x (b-lo*s) s
noncomputable def Wh.unit:Wh->Prop
 |.at _=>True
 |.kD _ _ s=>s=1\/s= -1
def kg (lo w:Int):Int->List Pt->List Pt
 |_,[]=>[]
 |a,p::ps=>if (if lo<a-p.w then a-p.w else lo)<(if a<lo+w then a else lo+w) then
  ⟨(if a<lo+w then a else lo+w)-(if lo<a-p.w then a-p.w else lo),p.k,p.wd,p.wh.uI ((if lo<a-p.w then a-p.w else lo)-(a-p.w))⟩::kg lo w (a-p.w) ps
  else kg lo w (a-p.w) ps
theorem ahj {x:Wh} (a:x.unit) {lo:Int}:aj GG ai (n+1) 64 [x.av,.int lo] O=.ok (x.uI lo).av O:=by
 induction x using Wh.casesOn with
 |«at» l=>exact aM 0 id
 |kD x b s=>rcases a with rfl | rfl<;>exact aM 0 id
theorem FP {i:Nat}:fG (.aw l) i O=some l[i]?:=rfl
theorem afJ {lo wd:Int} {all:List AV}:∀ps O m i q az d loc,(∀p∈ps,p.wh.unit)->all=q++ps.map Pt.av->q.length=i->ps.length<m->az.length+ps.length<SZ->
 O[ra]?=some (.lst az)->lk 101 loc=some (.int lo)->lk 93 loc=some (.int wd)->lk 159 loc=some (.ref ra)->lk 110 loc=some (.int d)->
 ∃O' j,aA [ra] O O'/\d8 (.aw all) (jN [90,118,139,125,134]) (aH GG (aj GG ai (n+1)) QQ) m i loc O=.next j O'/\O'[ra]?=some (.lst (az++(kg lo wd d ps).map Pt.av))/\lk 159 j=some (.ref ra)/\lk 93 j=some (.int wd):=by
 intro l;induction l with
 |nil=>intro O m i q az d loc z w hi A v s o r t u;refine a8 (kK A) λm I=>?_;subst I;refine dE O loc ⟨aA.refl _ _,?_,(by dsimp only [kg];simpa using s),t,r⟩;refine aa (show [].length+m+1=m+1 by simp) <| sG (by rw [FP,w];subst hi;simp)
 |cons p ps E=>
  intro O m i q az d loc z w hi A v s o r t u;refine a8 (kK A) λm J=>?_;subst J;have e0:(p::ps).length+m+1=(ps.length+m+1)+1:=by simp [jv];exact bV (ak 0x9100121024024830) (ak 0x8120121220024830)
  rw [e0];have H:∀lo,aj GG ai (n+1) 64 [p.wh.av,.int lo] O=.ok (p.wh.uI lo).av O:=λlo=>ahj (z p cN);have G:fG (.aw all) i O=some (some p.av):=by rw [FP,w];subst hi;simp
  have C:az.length<SZ:=by simp at v;exact aU 0x40028c80910802111 v
  have D:az.length+1+ps.length<SZ:=by simp at v;exact aU 0x4040900928c80910802111 v
  generalize h:(if lo<d-p.w then d-p.w else lo)=f;generalize g:(if d<lo+wd then d else lo+wd)=lst;by_cases y:f<lst
  . refine uX (E (O.set ra (.lst (az++[Pt.av ⟨lst-f,p.k,p.wd,p.wh.uI (f-(d-p.w))⟩]))) (ps.length+m+1) (i+1) (q++[p.av]) (az++[Pt.av ⟨lst-f,p.k,p.wd,p.wh.uI (f-(d-p.w))⟩]) (d-p.w)
     (up 110 (.int (d-p.w)) (up 106 (.int lst) (up 103 (.int f) (up 164 (.int (d-p.w)) (up 134 p.wh.av (up 125 (zm p.wd) (up 139 (.int p.k) (up 118 (.int p.w) (up 90 (.str [115,105,103]) loc)))))))))
     (λx B=>z x (cu _ B)) (by rw [w,ju];rfl) (by simp [hi]) (ak 9964343003696) (by simp;exact aU 0x4040900928c80812012111 D) (dX s) (yK rfl o) (yK rfl r) (yK rfl t) (lk_s)) λO' j k e a b c=>?_
    refine dE O' j ⟨(aA.set O ra _).trans k,?_,?_,b,c⟩
    . refine (qV G rfl ?_).trans e
      set_option smartUnfolding false in exact goS 0x4010201010101020101010102020103010201030101040102 fun F => F (lr5 rfl u) (lr3 rfl lk_s) (lr6 rfl o) lk_s (rI h) (lr7 rfl o) (lr7 rfl r) (lr7 rfl u) (rI g) (lq rfl lk_s) lk_s (decide_eq_true y) (lr8 rfl t) (m_append s) (lr7 rfl lk_s) lk_s (lq rfl lk_s) (lr5 rfl lk_s) (lr4 rfl lk_s) (lr3 rfl lk_s) (lq rfl lk_s) (lr2 rfl lk_s) (H _) (ck_append s C) (lr2 rfl lk_s)
    . rw [a];dsimp only [kg];simp only [h,g,if_pos y,gc,ju,List.singleton_append]
  . refine uX (E O (ps.length+m+1) (i+1) (q++[p.av]) az (d-p.w)
     (up 110 (.int (d-p.w)) (up 106 (.int lst) (up 103 (.int f) (up 164 (.int (d-p.w)) (up 134 p.wh.av (up 125 (zm p.wd) (up 139 (.int p.k) (up 118 (.int p.w) (up 90 (.str [115,105,103]) loc)))))))))
     (λx B=>z x (cu _ B)) (by rw [w,ju];rfl) (by simp [hi]) (ak 9964343003696) (aU 0x10100128c80812012111 D) s (yK rfl o) (yK rfl r) (yK rfl t) (lk_s)) λO' j k e a b c=>?_
    refine dE O' j ⟨k,?_,?_,b,c⟩
    . refine (qV G rfl ?_).trans e
      set_option smartUnfolding false in exact goS 0x3020103010201030101040102 fun F => F (lr5 rfl u) (lr3 rfl lk_s) (lr6 rfl o) lk_s (rI h) (lr7 rfl o) (lr7 rfl r) (lr7 rfl u) (rI g) (lq rfl lk_s) lk_s (decide_eq_false y) (lr2 rfl lk_s)
    . rw [a];dsimp only [kg];simp only [h,g,if_neg y]
theorem ahG {W lo wd:Int} {ps:List Pt} (g:∀p∈ps,p.wh.unit) (f:ps.length<1000):∃O',aA [] O O'/\aj GG ai (n+2) 65 [jn W (ps.map Pt.av),.int lo,.int wd] O=.ok (jn wd ((kg lo wd W ps).map Pt.av)) O':=by
 refine uX (afJ (n:=n) ps (O++[.lst []]) (ps.length+1) 0 [] [] W [(136,jn W (ps.map Pt.av)),(101,.int lo),(93,.int wd),(159,.ref O.length),(110,.int W)]
  g rfl rfl (ao 9665776176) (by simp [SZ];exact ao 0x30d40be4028cfa0fc80111 f) (cI _ _) rfl rfl rfl rfl) λO' h k e a b c=>?_
 refine ⟨O',⟨λr o _ e=>k.get r o (by have:=bZ e;simp;exact ak 35191020060945 this) (bI e),by have:=k.len;simp at this;exact ak 0x80083102402011 this⟩,?_⟩;have d:dG (.aw (ps.map Pt.av)) (O++[.lst []])=ps.length+1:=by exact congrArg _ (cf ..)
 exact sJ 16843531 λF=>F (jU d e) c b (ZZ a)
end
end
variable {a' b':Nat} {eY piece bits:List Nat}
section
variable {w:Nat}
noncomputable def bN (f:Nat->Bool):List Nat->Nat
 |[]=>0
 |b::bs=>(f b).toNat+2*bN f bs
noncomputable def eT (b:Nat):Bool:=decide (b%2=1)
noncomputable def eJ (b:Nat):Bool:=decide (b/2%2=1)
def made (bits:List Nat):AV:=dZ bits.length (bN eT bits) (bN eJ bits)
theorem adu (f):∀l,bN f l<2^l.length:=by
 intro l;induction l with
 |nil=>exact Nat.zero_lt_one
 |cons b bs a=>have:=a;simp only [jv,Nat.pow_succ];dsimp only [bN];cases f b<;>simp<;>lia
theorem vE (f) (l):∀i,(bN f l).testBit i=(l[i]?).any f:=by
 induction l with
 |nil=>intro i;exact abS i
 |cons b bs a=>
  intro i;dsimp only [bN];induction i using xc with
  |zero=>refine (Nat.testBit_zero ..).trans ?_;cases h:f b<;>simp [h,Nat.add_mul_mod_self_left]
  |succ i=>rw [Nat.testBit_succ,List.getElem?_cons_succ,<-a i];congr 1;cases f b<;>simp<;>exact bV (aU 0x100085204c4a10009a211 (Cy _ _)) (aU 0x821488811204c4a10009a312 (Cy _ _) (gf _ ag))
theorem PI (f) (l) (lo w):(bN f l/2^lo)%2^w=bN f ((l.drop lo).take w):=by
 apply zq;intro i;rw [abO,abN,vE,vE,List.getElem?_take];by_cases h:i<w
 . rw [if_pos h,abf,decide_eq_true h,NC,tC]
 . refine iP (if_neg h) (aa (decide_eq_false h) ?_);rfl
noncomputable def dN (lo:Int) (piece eY:List Nat):List Nat:=eY.mapIdx λi b=>if lo<=i/\(i:Int)<lo+piece.length then piece.getD (i-lo).toNat 0 else b
theorem oB (lo) (piece eY):(dN lo piece eY).length=eY.length:=by simp [dN]
theorem PH (g) {lo:Int} {f l:Nat} (p:0<lo+piece.length) (r:lo<eY.length) (j:(f:Int)=if lo<0 then 0 else lo) (c:(l:Int)=if (eY.length:Int)<lo+piece.length then (eY.length:Int) else lo+piece.length) (d:(sk:Int)=f-lo):
 Fs eY.length f l sk (bN g eY) (bN g piece)=bN g (dN lo piece eY):=by
 apply zq;intro i;unfold Fs;simp only [abQ,Og,Oi,Oh,abP,abP,Oh,abO,abN,vE,vE,vE];unfold dN;rw [List.getElem?_mapIdx];have fi:f<=i↔lo<=i:=by (split at j;(rename_i b;lia);(rename_i b;lia))
 have k:i<eY.length->(i<l↔(i:Int)<lo+piece.length):=λq=>by (split at c;(rename_i b;lia);(rename_i b;lia))
 have e:i<l->i<eY.length:=λq=>by (split at c;(rename_i b;exact aU 0x20828c0101111c07a12 c q);(rename_i b;exact LC 0x40c28c0181111c0221f444700807a13 c b q))
 clear j c;by_cases hi:i<eY.length
 . rw [dO hi,decide_eq_true hi];simp only [Option.any_some,rT];by_cases a:lo<=i/\(i:Int)<lo+piece.length
   . refine iP (if_pos a) ?_;have a1:=fi.2 a.1;have a2:=(Oe a1).2 ((k hi).2 a.2);obtain ⟨m,rfl⟩:=GR a1;have n:((f+m:Nat)-lo:Int).toNat=m+sk:=by refine bA (show ((f+m:Nat):Int)-lo=(m+sk:Nat) by exact dz (jm 0x82e008085ee0c008f407b11 d) (jm 0x8085e8020be0c008f407a11 d)) ?_;rfl
     have h:m+sk<piece.length:=LC 0x10302128c000f4c7a121c0210017912 a.2 d;rw [decide_eq_true a1,decide_eq_true a2,n,GQ,dO h];simp [rS,dO h]
   . refine iP (if_neg a) ?_;have:¬(f<=i/\i-f<l-f):=by
      exact λq=>a ⟨fi.1 q.1,(k hi).1 ((Oe q.1).1 q.2)⟩
     by_cases a1:f<=i
     . have a2:¬i-f<l-f:=λq=>this ⟨a1,q⟩;simp [a1,a2]
     . simp [a1]
 . have:¬(f<=i/\i-f<l-f):=by
    exact λq=>hi (e ((Oe q.1).1 q.2))
   have o:=Nat.le_of_not_lt hi;rw [GD o];by_cases a1:f<=i
   . have a2:¬i-f<l-f:=λq=>this ⟨a1,q⟩;simp [a1,a2]
   . simp [a1]
theorem adv (n b) (f) (h:f b=false):bN f (gX n b)=0:=by apply zq;intro i;rw [vE,abh];split<;>simp [*]
theorem H9 (n b) (f) (h:f b=true):bN f (gX n b)=2^n-1:=by apply zq;intro i;rw [vE,Oh,abh];split<;>simp [*]
theorem ahF {lo:Nat} (b:0<w) (h:lo+w<=bits.length) (a:bits.length<=60):aj GG ai (n+2) 24 [made bits,.int lo,.int w] O=.ok (made ((bits.drop lo).take w)) O:=by unfold made;rw [ahE b h a,PI,PI,j7,nJ,show min w (bits.length-lo)=w by exact bV (ak 35193167544337 (qr _ _)) (ak 283673363217 (nN (cz 0x18108300611001202002012 h Internal.jE)))]
theorem Ry {lo:Int} (b:0<lo+piece.length) (c:lo<eY.length) (j:0<piece.length) (i:eY.length<=60) (h:0<eY.length):aj GG ai (n+2) 25 [made eY,.int lo,made piece] O=.ok (made (dN lo piece eY)) O:=by
 obtain ⟨f,a⟩:∃f:Nat,(f:Int)=if lo<0 then 0 else lo:=⟨(if lo<0 then 0 else lo).toNat,by split<;>lia⟩
 obtain ⟨l,d⟩:∃l:Nat,(l:Int)=if (eY.length:Int)<lo+piece.length then (eY.length:Int) else lo+piece.length:=⟨(if (eY.length:Int)<lo+piece.length then (eY.length:Int) else lo+piece.length).toNat,by split<;>lia⟩
 obtain ⟨sk,e⟩:∃sk:Nat,(sk:Int)=f-lo:=⟨(f-lo).toNat,f9 (by (split at a;(rename_i g;exact dw 0xf40e0c080911 g);(rename_i g;exact dw 0x7a07060007b11 a)))⟩;unfold made;rw [ahy b c j a d e i (ao 45298487569 h),PH eT b c a d e,PH eJ b c a d e,oB]
theorem Q6 (h:w<=1000):aj GG ai (n+2) 18 [.int w] O=.ok (made (gX w 3)) O:=by refine (Jj h).trans ?_;unfold made;exact aa (H9 _ _ _ ag) (aa (H9 _ _ _ ag) (aa Cu rfl))
theorem agV (h:w<=1000):aj GG ai (n+2) 19 [.int w] O=.ok (made (gX w 2)) O:=by refine (agU h).trans ?_;unfold made;exact aa (adv _ _ _ ag) (aa (H9 _ _ _ ag) (aa Cu rfl))
theorem DC {w':Nat}:cG .Eq (dZ w a b) (dZ w' a' b') O=some (decide (w=w'/\a=a'/\b=b')):=by
 have h:∀w a b,fs 8 O (dZ w a b)=some (.tuple [.int w,.int a,.int b]):=λ_ _ _=>rfl;have s:∀w a b:Int,fP (.tuple [.int w,.int a,.int b])=true:=λ_ _ _=>by kernel_rfl
 refine (Am (h ..) (h ..) (s ..) (s ..)).trans ?_;simp only [kM,vi,aay,GY];rw [Ny];simp;lia
end
variable {M St V:Nat} {l':List Nat} {mm:Option Nat} {va wa:Nat->List Nat}
section
variable {d:List (Int×AV)} {x:Int}
theorem LN {c e:Type} [DecidableEq c] (x y:c) (v:e) (l):lk x (up y v l)=if y=x then some v else lk x l:=by
 induction l with
 |nil=>simp only [FX,eh,ry]
 |cons p l d=>
  obtain ⟨z,u⟩:=p;simp only [tg];by_cases b:z=y
  . subst b;refine bA (if_pos rfl) ?_;simp only [eh];by_cases a:z=x<;>simp [a]
  . refine bA (if_neg b) ?_;simp only [eh,d];by_cases a:z=x
    . (refine (if_pos a).trans ?_;rw [if_neg (λq=>b (a.trans q.symm)),if_pos a])
    . exact iP (if_neg a) ((if_neg a).trans rfl)
theorem FY {a c:Type} [DecidableEq a] (y:a) (v:c) (l):(up y v l).length<=l.length+1:=by
 induction l with
 |nil=>simp [FX]
 |cons p l b=>
  obtain ⟨z,u⟩:=p;simp only [tg];split
  . simp
  . simp;exact ak 0x24420083122100011 b
structure kO (w:Wo) (O:AH):Prop where
 sl:O[w.L]?=some (.lst (w.rs.map .ref))
 sg:∀(k:Nat) (r:Nat) (g:Sg),w.rs[k]?=some r->w.gs[k]?=some g->O[r]?=some (.ba 86 (g.fields k))
 ln:w.rs.length=w.gs.length
 lt:∀r∈w.refs,r<O.length
theorem kO.at' (H:kO w O) (a:w.gs[k]?=some g):∃r,w.rs[k]?=some r/\O[r]?=some (.ba 86 (g.fields k)):=by
 have:k<w.rs.length:=by refine aa H.ln ?_;exact (ez.mp a).1
 exact ⟨_,dO this,H.sg k _ g (dO this) a⟩
theorem kO.item (H:kO w O) (hr:w.rs[k]?=some r):cW (.ref w.L) (.int k) O=some (.ref r):=
 jD H.sl (by rw [iR,hr];rfl)
noncomputable def fc (g:Sg):List Nat:=gX g.w (if g.net then 2 else 3)
structure cO (w:Wo) (g3:Sg) (St V M:Nat) (mm:Option Nat) (c:Nat) (va wa:Nat->List Nat) (O:AH):Prop where
 ob:O[St]?=some (.ba 83 [(112,.ref w.L),(115,.ref V),(114,.ref M),(113,.int 1)])
 vs:∃vs,O[V]?=some (.dI vs)/\vs.length<=c/\∀(k:Nat) g,w.gs[k]?=some g->g.mem=none->lk (k:Int) vs=some (made (va k))\/(lk (k:Int) vs=none/\made (va k)=made (fc g))
 ms:match mm with
  |none=>O[M]?=some (.dI [])/\∀p,made (wa p)=made (fc g3)
  |some q=>O[M]?=some (.dI [(3,.ref q)])/\∃ms,O[q]?=some (.dI ms)/\ms.length<=c/\∀p:Nat,lk (p:Int) ms=some (made (wa p))\/(lk (p:Int) ms=none/\made (wa p)=made (fc g3))
 ln:(∀(k:Nat) g,w.gs[k]?=some g->g.mem=none->(va k).length=g.w)/\∀p,(wa p).length=g3.w
 g3:g3.net=false
 sz:∀(k:Nat) g,w.gs[k]?=some g->0<g.w/\g.w<=60
 dj:V≠M/\St≠V/\St≠M/\∀q∈mm,q≠V/\q≠M/\q≠St
 nr:V∉w.refs/\M∉w.refs/\∀q∈mm,q∉w.refs
section
variable {g3:Sg}
theorem Std.lt (H:Std w O):∀r∈w.refs,r<O.length:=by
 intro r hr;unfold Wo.refs at hr;rcases eG.mp hr with h | h
 . simp only [cF,bP,or_false] at h;rcases h with rfl | rfl | rfl | rfl
   . refine aQ H.des λl a _=>?_;exact bZ a
   . exact bZ H.sl
   . refine aQ H.sd λl a _=>?_;exact bZ a
   . exact bZ H.en
 . obtain ⟨i,hi,e⟩:=ve h;have b:w.rs[i]?=some r:=by rw [dO hi,e]
   have:i<w.gs.length:=by refine aa H.ln.symm ?_;exact hi
   exact bZ (H.sg i r _ b (dO this))
theorem Std.sgs (H:Std w O):kO w O:=⟨H.sl,H.sg,H.ln,H.lt⟩
theorem cO.meth (T:cO w g3 St V M mm c va wa O) {f:Nat} (a:lk m [(112,AV.ref w.L),(115,.ref V),(114,.ref M),(113,.int 1)]=none) (b:GG.meth 83 m=some f):gE GG (.ref St) m O=some (.own f):=rY.meth ⟨_,T.ob,a,b⟩
theorem cO.at (T:cO w g3 St V M mm c va wa O):dA (.ref St) a O=lk a [(112,AV.ref w.L),(115,.ref V),(114,.ref M),(113,.int 1)]:=by exact (qD T.ob).trans rfl
theorem BP (h:O[r]?=some (.dI d)) (a:d.length<SZ):oG (.ref r) (.int x) v O=some (O.set r (.dI (up x v d))):=by show wQ r x v O=_;delta wQ;refine aa h <| if_pos a
theorem US (h:O[r]?=some (.dI d)):yt O (.int x) (.ref r)=some (lk x d).isSome:=by show nj O (.int x) r=_;delta nj;exact aa h rfl
theorem RY {a:Type} [DecidableEq a] {x:a} {d:List (a×AV)} (h:lk x d=some v):aJ.ok ((lk x d).getD .none) O=.ok v O:=by refine aa h ?_;rfl
theorem Jy {a:Type} [DecidableEq a] {x:a} {d:List (a×AV)} (h:lk x d=none):aJ.ok ((lk x d).getD .none) O=.ok .none O:=by refine aa h ?_;rfl
theorem Jo (H:kO w O) (T:cO w g3 St V M mm c va wa O) (b:w.gs[k]?=some g) (i:g.mem=none):aj GG ai (n+3) 1002 [.ref St,.int k] O=.ok (made (va k)) O:=by
 refine ct T.vs λvs hV _ j=>?_;have d:dA (.ref St) 115 O=some (.ref V):=T.at;have e:dA (.ref St) 112 O=some (.ref w.L):=T.at;rcases j k g b i with h | ⟨h,f⟩
 . exact aM 131331 λF=>F d (uG hV) ((tU hV).trans (RY h))
 . refine aQ (H.at' b) λr hr a=>?_;have en:=Rv (n:=n) a;have z:=(T.sz k g b).2;have e1:=agV (n:=n) (O:=O) (ao 0x7d07e4020cf0bc80011 z);have e2:=Q6 (n:=n) (O:=O) (ao 0x7d07e4020cf0bc80011 z);refine aa f ?_;unfold fc;generalize l:g.net=t at en⊢;cases t with
   |false=>exact aM 0x10601040209020103 λF=>F d (uG hV) ((tU hV).trans (Jy h)) e (H.item hr) (nF a rfl rfl) en (fZ a) e2
   |true=>exact aM 0x10501040209020103 λF=>F d (uG hV) ((tU hV).trans (Jy h)) e (H.item hr) (nF a rfl rfl) en (fZ a) e1
theorem RF (H:kO w O) (T:cO w g3 St V M mm c va wa O) (g:w.gs[3]?=some g3) (p:Nat):aj GG ai (n+3) 1003 [.ref St,.int 3,.int p] O=.ok (made (wa p)) O:=by
 have k:=T.g3;refine aQ (H.at' g) λr hr i=>?_;have z:=(T.sz 3 g3 g).2;have e2:=Q6 (n:=n) (O:=O) (ao 0x7d07e4020cf0bc80011 z);have d:dA (.ref St) 114 O=some (.ref M):=T.at;have j:dA (.ref St) 112 O=some (.ref w.L):=T.at;have hi:=H.item hr;have e:=T.ms;have f:fc g3=gX g3.w 3:=by unfold fc;refine aa k ?_;rfl
 induction mm using aW with
 |none=>refine bB e λa b=>aa (b p) (aa f ?_);exact aM 282583229399299 λF=>F d (uG a) (tU a) j hi (fZ i) e2
 |some q=>
  obtain ⟨a,ms,b,_,l⟩:=e;rcases l p with h | ⟨h,m⟩
  . exact aM 8724283651 λF=>F d (uG a) (tU a) (uG b) ((tU b).trans (RY h))
  . refine aa m (aa f ?_);exact aM 0x101020a0208020103 λF=>F d (uG a) (tU a) (uG b) ((tU b).trans (Jy h)) j hi (fZ i) e2
noncomputable def dH (f:Nat->List Nat) (k:Nat) (v:List Nat):Nat->List Nat:=λx=>if x=k then v else f x
theorem EO {l:List Nat}:made l=made l'↔l.length=l'.length/\bN eT l=bN eT l'/\bN eJ l=bN eJ l':=by unfold made dZ;simp;lia
theorem Jr (H:kO w O) (T:cO w g3 St V M mm c va wa O) (t:w.gs[k]?=some g) (A:g.mem=none) (G:c<SZ) {lo:Int} (D:0<lo+piece.length) (E:lo<g.w) (I:0<piece.length):
 ∃b O',aj GG ai (n+4) 1004 [.ref St,.int k,.none,.int lo,made piece] O=.ok (.bool b) O'/\cO w g3 St V M mm (c+1) (dH va k (dN lo piece (va k))) wa O'/\aA [V] O O'/\(∀vs,O[V]?=some (.dI vs)->∃l,O'[V]?=some (.dI l)/\∀x:Int,x≠k->lk x l=lk x vs):=by
 have el:=T.ln.1 k g t A;have z:=T.sz k g t;have y:=Jo (n:=n) H T t A;have ep:=Ry (n:=n+1) (O:=O) D (dJ 0x380d188e0244400312 el E) I (ak 0x1e1791083002084f0bc80012 z.2 el) (ak 0x802a30020c4001112 z.1 el);have mg:=T.meth (m:=13) rfl rfl;refine ct T.vs λvs hV v u=>?_;have J:dA (.ref St) 115 O=some (.ref V):=T.at;have C:(dN lo piece (va k)).length=(va k).length:=oB ..;have B:(∀(x:Nat) g,w.gs[x]?=some g->g.mem=none->(dH va k (dN lo piece (va k)) x).length=g.w)/\∀p,(wa p).length=g3.w:=by
  refine ⟨λx i f j=>?_,T.ln.2⟩;unfold dH;split
  . rename_i e;subst e;refine C.trans ?_;exact T.ln.1 x i f j
  . exact T.ln.1 x i f j
 by_cases o:made (dN lo piece (va k))=made (va k)
 . refine dE false O ⟨?_,⟨T.ob,⟨vs,hV,by exact ak 0x9108020c400011 v,λx i f j=>?_⟩,?_,B,T.g3,T.sz,T.dj,T.nr⟩,aA.refl _ _,λvs h=>⟨vs,h,λ_ _=>rfl⟩⟩
   . have s:cG .Eq (made (dN lo piece (va k))) (made (va k)) O=some true:=by
      unfold made;rw [DC,decide_eq_true (EO.mp o)]
     exact aM 84279815 λF=>F mg y ep s
   . unfold dH;split
     . rename_i e;subst e;refine aa o ?_;exact u x i f j
     . exact u x i f j
   . induction mm using aW with
     |none=>exact T.ms
     |some q=>obtain ⟨a,ms,b,d,e⟩:=T.ms;exact ⟨a,ms,b,by exact ak 0x9108020c400011 d,e⟩
 . refine dE true (O.set V (.dI (up (k:Int) (made (dN lo piece (va k))) vs))) ⟨?_,⟨?_,⟨_,dX hV,?_,λx i f j=>?_⟩,?_,B,T.g3,T.sz,T.dj,T.nr⟩,aA.set _ _ _,λl h=>⟨_,dX h,λx f=>by rw [hV] at h;(injection h with h;injection h with h;subst h);rw [LN,if_neg (bC f)]⟩⟩
   . have s:cG .Eq (made (dN lo piece (va k))) (made (va k)) O=some false:=by
      unfold made at o⊢;rw [DC,decide_eq_false (λq=>o (EO.mpr q))]
     have es:oG (.ref V) (.int k) (made (dN lo piece (va k))) O=some (O.set V (.dI (up (k:Int) (made (dN lo piece (va k))) vs))):=BP hV (aU 0x1000a3202044400012 v G);exact aM 2224877339143 λF=>F mg y ep s J es
   . refine (du (bC T.dj.2.1)).trans ?_;exact T.ob
   . have:=FY (k:Int) (made (dN lo piece (va k))) vs;exact aU 0x9208020c80801122100012 this v
   . refine aa (LN ..) ?_;unfold dH;by_cases e:x=k
     . subst e;refine aa (if_pos rfl) (aa (if_pos rfl) ?_);exact .inl rfl
     . refine aa (if_neg ((kL e).elim (λr=>ak 0xe23d0c400111 r) (λr=>ak 0x8e03d8c400111 r))) (aa (if_neg e) ?_);exact u x i f j
   . induction mm using aW with
     |none=>exact ⟨(du T.dj.1).trans T.ms.1,T.ms.2⟩
     |some q=>obtain ⟨a,ms,b,d,e⟩:=T.ms;exact ⟨(du T.dj.1).trans a,ms,(du (bC (T.dj.2.2.2 q rfl).1)).trans b,by exact ak 0x9108020c400011 d,e⟩
end
end
section
variable {l:Int}
section
variable {g3:Sg}
theorem RG (h:O[r]?=some (.ba 86 (g.fields k))) (b:g.mem=some (f,l)):aj GG ai (n+1) 1009 [.ref r] O=.ok (.int ((l-f).natAbs+1)) O:=by have a:dA (.ref r) 103 O=some (.int f):=(fZ h).trans (congrArg some (by unfold Sg.fi;exact aa b rfl));have c:dA (.ref r) 106 O=some (.int l):=(fZ h).trans (congrArg some (by unfold Sg.la;exact aa b rfl));exact aM 132611 λF=>F a c a
noncomputable def dU (f l i:Int):Int:=if f<=l then i-f else f-i
theorem ahx {i:Int} (h:O[r]?=some (.ba 86 (g.fields k))) (m:g.mem=some (f,l)):aj GG ai (n+2) 1010 [.ref r,.int i] O=.ok (.int (if dU f l i<0\/(l-f).natAbs+1<=dU f l i then -1 else dU f l i)) O:=by
 have a:dA (.ref r) 103 O=some (.int f):=(fZ h).trans (congrArg some (by unfold Sg.fi;exact aa m rfl));have e:dA (.ref r) 106 O=some (.int l):=(fZ h).trans (congrArg some (by unfold Sg.la;exact aa m rfl));have j:=RG (n:=n) h m;have nl:∀{x:Int} (b:¬x<0) (c:¬((l-f).natAbs+1<=x)),¬(x<0\/(l-f).natAbs+1<=x):=λb c q=>q.elim b c;unfold dU;by_cases d:f<=l
 . refine aa (if_pos d) ?_;by_cases b:i-f<0
   . refine aa (if_pos (.inl b)) <| aM 7713794950659 λF=>F a e a (decide_eq_true d) a (decide_eq_true b)
   . by_cases c:(l-f).natAbs+1<=i-f
     . refine aa (if_pos (.inr c)) <| aM 0x20103070402020603 λF=>F a e a (decide_eq_true d) a (decide_eq_false b) (nF h rfl rfl) j (decide_eq_true c)
     . refine aa (if_neg (nl b c)) <| aM 0x20103070402020603 λF=>F a e a (decide_eq_true d) a (decide_eq_false b) (nF h rfl rfl) j (decide_eq_false c)
 . refine aa (if_neg d) ?_;by_cases b:f-i<0
   . refine aa (if_pos (.inl b)) <| aM 8809011611139 λF=>F a e a (decide_eq_false d) a (decide_eq_true b)
   . by_cases c:(l-f).natAbs+1<=f-i
     . refine aa (if_pos (.inr c)) <| aM 0x20103080302020603 λF=>F a e a (decide_eq_false d) a (decide_eq_false b) (nF h rfl rfl) j (decide_eq_true c)
     . refine aa (if_neg (nl b c)) <| aM 0x20103080302020603 λF=>F a e a (decide_eq_false d) a (decide_eq_false b) (nF h rfl rfl) j (decide_eq_false c)
theorem o7 {l:List (Nat×AV)} (h:O[r]?=some (.ba c l)):dA (.ref r) a O=if c=bQ then none else lk a l:=by exact qD h
theorem RA (H:kO w O) (T:cO w g3 St V M mm c va wa O) (G:w.gs[3]?=some g3) (hm:g3.mem=some (f,l)) (Z:c<SZ) {p:Nat} (hp:(p:Int)<(l-f).natAbs+1) {lo:Int} (X:0<lo+piece.length) (Y:lo<g3.w) (hw:0<piece.length):
 ∃b S O',aj GG ai (n+4) 1004 [.ref St,.int 3,.int p,.int lo,made piece] O=.ok (.bool b) O'/\cO w g3 St V M S (c+1) va (dH wa p (dN lo piece (wa p))) O'/\aA (M::mm.toList) O O'/\(∀q∈S,q∈mm\/O.length<=q):=by
 have el:=T.ln.2 p;have Ug:=T.g3;have z:=T.sz 3 g3 G;refine aQ (H.at' G) λr hr u=>?_;have hi:cW (.ref w.L) (.int 3) O=some (.ref r):=H.item hr;have J:dA (.ref St) 112 O=some (.ref w.L):=T.at;have I:dA (.ref St) 114 O=some (.ref M):=T.at;have E:=RG (n:=n+2) u hm;have D:=RF (n:=n) H T G p;have ep:=Ry (n:=n+1) (O:=O) X (dJ 0x380d188e0244400312 el Y) hw (ak 0x1e1791083002084f0bc80012 z.2 el) (ak 0x802a30020c4001112 z.1 el);have mg:=T.meth (m:=125) rfl rfl;have W:(dN lo piece (wa p)).length=(wa p).length:=oB ..;have N:(∀(x:Nat) g,w.gs[x]?=some g->g.mem=none->(va x).length=g.w)/\∀q,(dH wa p (dN lo piece (wa p)) q).length=g3.w:=by
  refine ⟨T.ln.1,λq=>?_⟩;unfold dH;split
  . rename_i e;subst e;refine W.trans ?_;exact T.ln.2 q
  . exact T.ln.2 q
 have d1:decide ((p:Int)<0)=false:=decide_eq_false (ao 8450608);have C:decide (((l-f).natAbs:Int)+1<=p)=false:=decide_eq_false (ak 0x38911d40c488e807911 hp);have y:∀O':AH,O'[V]?=O[V]?->∃vs,O'[V]?=some (.dI vs)/\vs.length<=c+1/\∀(k:Nat) g,w.gs[k]?=some g->g.mem=none->lk (k:Int) vs=some (made (va k))\/(lk (k:Int) vs=none/\made (va k)=made (fc g)):=by intro O' h;refine ct T.vs λvs a b d=>⟨vs,h.trans a,(ak 0x9108020c400011 b),d⟩
 by_cases t:made (dN lo piece (wa p))=made (wa p)
 . have P:∀q,made (dH wa p (dN lo piece (wa p)) q)=made (wa q):=by
    intro q;unfold dH;split
    . rename_i e;subst e;exact t
    . rfl
   refine d9 false mm O ⟨?_,⟨T.ob,y O rfl,?_,N,T.g3,T.sz,T.dj,T.nr⟩,aA.refl _ _,λq i=>.inl i⟩
   . have s:cG .Eq (made (dN lo piece (wa p))) (made (wa p)) O=some true:=by
      unfold made;rw [DC,decide_eq_true (EO.mp t)]
     exact aM 0x5060305020101020c λF=>F J hi (nF u rfl rfl) E C mg D ep s
   . induction mm using aW with
     |none=>exact ⟨T.ms.1,λq=>(P q).trans (T.ms.2 q)⟩
     |some q=>obtain ⟨a,ms,b,d,e⟩:=T.ms;exact ⟨a,ms,b,by exact ak 0x9108020c400011 d,λx=>by refine aa (P x) ?_;exact e x⟩
 . have s:cG .Eq (made (dN lo piece (wa p))) (made (wa p)) O=some false:=by
    unfold made at t⊢;rw [DC,decide_eq_false (λq=>t (EO.mpr q))]
   have R:=T.ms;induction mm using aW with
   |none=>
    refine bB R λa b=>?_;have v:V<O.length:=by refine aQ T.vs λvs q _=>?_;exact bZ q
    have Q:St<O.length:=bZ T.ob;have j:M<O.length:=bZ a;refine d9 true (some O.length) (((O++[aV.dI []]).set M (aV.dI [(3,AV.ref O.length)])).set O.length (aV.dI [((p:Int),made (dN lo piece (wa p)))])) ⟨?_,⟨?_,y _ ?_,⟨?_,_,dX (o':=.dI []) ?_,?_,λq=>?_⟩,N,T.g3,T.sz,⟨T.dj.1,T.dj.2.1,T.dj.2.2.1,λq i=>?_⟩,⟨T.nr.1,T.nr.2.1,λq i=>?_⟩⟩,?_,λq i=>.inr ?_⟩
    . have K:cG .NotIn (.int 3) (.ref M) O=some true:=congrArg (CC (!·)) (US a);have g1:(O++[aV.dI []])[M]?=some (.dI []):=bI a;have s1:oG (.ref M) (.int 3) (.ref O.length) (O++[aV.dI []])=some ((O++[aV.dI []]).set M (aV.dI [(3,AV.ref O.length)])):=BP g1 ag;have A:dA (.ref St) 114 (O++[aV.dI []])=some (.ref M):=o7 (bI T.ob);have B:dA (.ref St) 114 ((O++[aV.dI []]).set M (aV.dI [(3,AV.ref O.length)]))=some (.ref M):=o7 ((du (bC T.dj.2.2.1)).trans (bI T.ob));have g2:((O++[aV.dI []]).set M (aV.dI [(3,AV.ref O.length)]))[M]?=some (aV.dI [(3,AV.ref O.length)]):=dX g1;have i2:cW (.ref M) (.int 3) ((O++[aV.dI []]).set M (aV.dI [(3,AV.ref O.length)]))=some (.ref O.length):=(Bb g2).trans rfl;have mZ:((O++[aV.dI []]).set M (aV.dI [(3,AV.ref O.length)]))[O.length]?=some (.dI []):=(du (ak 35191020060945 j)).trans (cI _ _);have L:oG (.ref O.length) (.int p) (made (dN lo piece (wa p))) ((O++[aV.dI []]).set M (aV.dI [(3,AV.ref O.length)]))=some (((O++[aV.dI []]).set M (aV.dI [(3,AV.ref O.length)])).set O.length (aV.dI [((p:Int),made (dN lo piece (wa p)))])):=BP mZ ag;exact aM 0x202060204010605060305020101020c λF=>F J hi (nF u rfl rfl) E C mg D ep s I K A s1 B i2 L
    . refine bK (du (ak 279378395409 Q)) (bK (du (bC T.dj.2.2.1)) ?_);exact bI T.ob
    . rw [du (by exact ak 279378395409 v),du (bC T.dj.1),iv v]
    . refine (du (by exact ak 279378395409 j)).trans ?_;exact dX (bI a)
    . refine (du (by exact ak 35191020060945 j)).trans ?_;exact cI _ _
    . show 1<=c+1;exact ao 9665849392
    . unfold dH;by_cases e:q=p
      . subst e;refine aa (if_pos rfl) ?_;left;simp [eh]
      . refine aa (if_neg e) ?_;right;exact ⟨by simp [eh,ry];lia,b q⟩
    . (injection i with i;subst i);exact ⟨ak 279378395409 v,⟨ak 279378395409 j,ak 279378395409 Q⟩⟩
    . (injection i with i;subst i);exact λq=>absurd (H.lt _ q) (ao 560)
    . refine ⟨λr o hr e=>?_,by simp⟩;have:=bZ e;refine bK (du (ak 279378395409 this)) (bK (du (λq=>hr (by simp [q]))) ?_);exact bI e
    . (injection i with i;subst i);exact bT _
   |some q=>
    obtain ⟨a,ms,b,d,e⟩:=R;have dj:=T.dj.2.2.2 q rfl;refine d9 true (some q) (O.set q (aV.dI (up (p:Int) (made (dN lo piece (wa p))) ms))) ⟨?_,⟨?_,y _ ?_,⟨?_,_,dX b,?_,λx=>?_⟩,N,T.g3,T.sz,T.dj,T.nr⟩,(aA.set _ _ _).mono (eZ [1]),λx hx=>.inl hx⟩
    . have K:cG .NotIn (.int 3) (.ref M) O=some false:=congrArg (CC (!·)) (US a);have i2:cW (.ref M) (.int 3) O=some (.ref q):=(Bb a).trans rfl;have L:oG (.ref q) (.int p) (made (dN lo piece (wa p))) O=some (O.set q (aV.dI (up (p:Int) (made (dN lo piece (wa p))) ms))):=BP b (aU 0x1000a3202044400012 d Z);exact aM 0x20206010605060305020101020c λF=>F J hi (nF u rfl rfl) E C mg D ep s I K I i2 L
    . refine (du dj.2.2).trans ?_;exact T.ob
    . exact (du dj.1)
    . refine (du dj.2.1).trans ?_;exact a
    . have:=FY (p:Int) (made (dN lo piece (wa p))) ms;exact aU 0x9208020c80801122100012 this d
    . refine aa (LN ..) ?_;unfold dH;by_cases U:x=p
      . subst U;refine aa (if_pos rfl) (aa (if_pos rfl) ?_);exact .inl rfl
      . refine aa (if_neg (by lia)) (aa (if_neg U) ?_);exact e x
end
end
variable {C:Nat}
section
variable {l:List Nat}
def jb (am:List Nat):Option Int:=if bN eJ am=0 then some (sg 4 (bN eT am)) else none
def eF (am:List Nat):Ix->Option Int
 |.c v=>some (sg 8 v)
 |.i=>jb am
 |.p v=>(jb am).map (· +(v:Int))
noncomputable def gP:Option Int->AV
 |some i=>.int i
 |none=>.none
def Wh.lo (am:List Nat):Wh->Option Int
 |.at l=>some l
 |.kD x b s=>(eF am x).map λv=>(v-b)*s
def Wh.Fe:Wh->Prop
 |.at _=>True
 |.kD x _ s=>x.ok/\(s=1\/s= -1)
theorem asD:∀a,a<16->∀v,v<4->sg 8 ((qU a (decide (8<=a))+v)%256)=sg 4 a+(v:Int):=by decide+kernel
theorem Q3:∀a,a<16->(qU a (decide (8<=a))=0↔a=0):=by decide+kernel
section
variable {g3:Sg}
theorem Rp (v):aj GG ai (n+1) 30 [vJ v,x] O=.ok (.aw [.int 8,.int v,.int 0]) O:=by exact aM 0 id
theorem Rq (H:Std w O) (T:cO w g3 St V M mm c va wa O) (Y:WI w gi) (hC:eW O C 84 126 (.ref St)):aj GG ai (n+4) 30 [uQ,.ref C] O=.ok (made (va 4)) O:=by have e1:=Jo (n:=n) H.sgs T Y.gs Y.nm;have e1:=e1;exact aM 196880 λF=>F (hC.iW ag) (T.meth rfl rfl) e1
theorem cO.am (T:cO w g3 St V M mm c va wa O) (Y:WI w gi):(va 4).length=4:=(T.ln.1 4 gi Y.gs Y.nm).trans Y.w4
theorem Xd (h:l.length=4):made l=dZ 4 (bN eT l) (bN eJ l):=by unfold made;exact aa h rfl
theorem vD (h:l.length=4) (f):bN f l<16:=by have:=adu f l;rw [h] at this;exact this
theorem ag7 (H:Std w O) (T:cO w g3 St V M mm c va wa O) (Y:WI w gi) (hC:eW O C 84 126 (.ref St)):aj GG ai (n+5) 30 [sF,.ref C] O=.ok (dZ 8 (qU (bN eT (va 4)) (decide (8<=bN eT (va 4)))) (qU (bN eJ (va 4)) (decide (8<=bN eJ (va 4))))) O:=by have e1:=Rq (n:=n) H T Y hC;have a:=T.am Y;rw [Xd a] at e1;have e2:=ag9 (n:=n+1) (O:=O) (vD a eT) (vD a eJ);exact aM 1318 λF=>F e1 e2
set_option smartUnfolding false in
theorem ag6 (H:Std w O) (T:cO w g3 St V M mm c va wa O) (Y:WI w gi) (hC:eW O C 84 126 (.ref St)) (v):aj GG ai (n+6) 30 [tR v,.ref C] O=.ok (if bN eJ (va 4)=0 then dZ 8 ((qU (bN eT (va 4)) (decide (8<=bN eT (va 4)))+v)%256) 0 else dZ 8 255 255) O:=by
 have e1:=ag7 (n:=n) H T Y hC;have g:=T.am Y;have e2:=Rp (n:=n+4) (O:=O) v (x:=.ref C);have e:=agZ (n:=n) (w:=8) (a:=qU (bN eT (va 4)) (decide (8<=bN eT (va 4)))) (b:=qU (bN eJ (va 4)) (decide (8<=bN eJ (va 4)))) (c:=v) (d:=0) (O:=O) ag (s:=.bool true);by_cases f:bN eJ (va 4)=0
 . rw [if_pos f];rw [if_pos ⟨(Q3 _ (vD g eJ)).mpr f,rfl⟩] at e;exact aM 197662 λF=>F e1 e2 e
 . rw [if_neg f];rw [if_neg λq=>f ((Q3 _ (vD g eJ)).mp q.1)] at e;exact aM 197662 λF=>F e1 e2 e
theorem RE (H:Std w O) (T:cO w g3 St V M mm c va wa O) (Y:WI w gi) (hC:eW O C 84 126 (.ref St)) (x) (j:x.ok):aj GG ai (n+7) 29 [x.val,.bool true,.ref C] O=.ok (gP (eF (va 4) x)) O:=by
 have e:=T.am Y;have f:=vD e eT;have h:=vD e eJ;induction x using Ix.casesOn with
 |c v=>have e1:=Rp (n:=n+5) (O:=O) v (x:=.ref C);have e2:=vY (n:=n+5) (O:=O) (c:=v);exact aM 516 λF=>F e1 e2
 |i=>
  have e1:=Rq (n:=n+2) H T Y hC;rw [Xd e] at e1;have e2:=Au (n:=n+5) (w:=4) (a:=bN eT (va 4)) (b:=bN eJ (va 4)) (O:=O) ag ag;have g:BQ 4 (bN eT (va 4)) (bN eJ (va 4))=gP (jb (va 4)):=by
   unfold BQ jb;by_cases d:bN eJ (va 4)=0
   . refine (if_pos d).trans (iP (if_pos d) ?_);rfl
   . refine (if_neg d).trans (iP (if_neg d) ?_);rfl
  rw [g] at e2;exact aM 516 λF=>F e1 e2
 |p v=>
  have e1:=ag6 (n:=n) H T Y hC v;unfold eF jb;by_cases d:bN eJ (va 4)=0
  . rw [if_pos d] at e1⊢;have e2:=Au (n:=n+5) (w:=8) (a:=(qU (bN eT (va 4)) (decide (8<=bN eT (va 4)))+v)%256) (b:=0) (O:=O) ag ag;exact aM 516 λF=>F e1 (e2.trans (congrArg (λi=>aJ.ok (AV.int i) O) (asD _ f v j)))
  . rw [if_neg d] at e1⊢;have e2:=Au (n:=n+5) (w:=8) (a:=255) (b:=255) (O:=O) ag ag;exact aM 516 λF=>F e1 e2
theorem ahh (H:Std w O) (T:cO w g3 St V M mm c va wa O) (Y:WI w gi) (hC:eW O C 84 126 (.ref St)) (x:Wh) (a:x.Fe):aj GG ai (n+8) 31 [x.av,.ref C] O=.ok (gP (x.lo (va 4))) O:=by
 induction x using Wh.casesOn with
 |«at» l=>exact aM 0 id
 |kD x b s=>
  have e1:=RE (n:=n) H T Y hC x a.1;unfold Wh.lo;dsimp only;generalize e:eF (va 4) x=d at e1;induction d using aW with
  |none=>exact aM 13 λF=>F e1
  |some v=>rcases a.2 with rfl | rfl<;>exact aM 13 λF=>F e1
structure Rw where
 k:Nat
 pl:Option Nat
 lo:Int
 w:Int
 take:Int
noncomputable def y9:Option Nat->AV
 |some p=>.int p
 |none=>.none
def Rw.av (r:Rw):AV:=.aw [.str [115,105,103],.int r.k,y9 r.pl,.int r.lo,.int r.w,.int r.take]
def Pt.pl (g3:Sg) (am:List Nat) (p:Pt):Option (Option Nat):=match p.wd with
 |none=>some none
 |some x=>match eF am x,g3.mem with
  |some i,some (f,l)=>if dU f l i<0\/(l-f).natAbs+1<=dU f l i then none else some (some (dU f l i).toNat)
  |_,_=>none
def Pt.lo (gk:Nat->Sg) (am:List Nat) (p:Pt):Option Int:=match p.wh.lo am with
 |none=>none
 |some lo=>if lo+p.w<=0\/((gk p.k).w:Int)<=lo then none else some lo
def Pt.rw1 (gk:Nat->Sg) (am:List Nat) (a:Int) (p:Pt):List Rw:=match p.pl (gk 3) am,p.lo gk am with | some pl,some lo=>[⟨p.k,pl,lo,p.w,a-p.w⟩] | _,_=>[]
def lF (gk:Nat->Sg) (am:List Nat):Int->List Pt->List Rw
 |_,[]=>[]
 |a,p::ps=>p.rw1 gk am a++lF gk am (a-p.w) ps
structure Pt.ok (w:Wo) (gk:Nat->Sg) (p:Pt):Prop where
 wh:p.wh.Fe
 wd:∀x,p.wd=some x->x.ok/\p.k=3/\(gk 3).mem.isSome=true
 gs:w.gs[p.k]?=some (gk p.k)
theorem ahg (H:Std w O) (T:cO w g3 St V M mm c va wa O) (hC:eW O C 84 126 (.ref St)) (p:Pt) (a:w.gs[p.k]?=some g):aj GG ai (n+1) 32 [p.av,.ref C] O=.ok (.int g.w) O:=by refine aQ (H.at' a) λr hr b=>?_;have d:dA (.ref St) 112 O=some (.ref w.L):=T.at;exact aM 16974088 λF=>F (hC.iW ag) d (H.item hr) (fZ b)
end
end
variable {az:List AV}
section
variable {p:Pt} {t:Int}
section
variable {g3:Sg} {gk:Nat->Sg}
theorem apP (H:Std w O) (T:cO w g3 St V M mm c va wa O) (Y:WI w gi) (hC:eW O C 84 126 (.ref St)) (hp:p.ok w gk) (h:O[ra]?=some (.lst az)) (o:az.length<SZ) {pl:Option Nat} {loc:aB}
 (e:lk 134 loc=some p.wh.av) (a:lk 132 loc=some (.ref C)) (f:lk 93 loc=some (.int p.w)) (g:lk 107 loc=some p.av) (i:lk 137 loc=some (.ref ra)) (j:lk 90 loc=some (.str [115,105,103])) (k:lk 139 loc=some (.int p.k)) (l:lk 121 loc=some (y9 pl)) (m:lk 138 loc=some (.int t)):
 aH GG (aj GG ai (n+8)) Fz loc O=match p.lo gk (va 4) with
  |none=>.cont (up 101 (gP (p.wh.lo (va 4))) loc) O
  |some lo=>.next (up 101 (gP (p.wh.lo (va 4))) loc) (O.set ra (.lst (az++[Rw.av ⟨p.k,pl,lo,p.w,t⟩]))):=by
 have e1:=ahh (n:=n) H T Y hC p.wh hp.wh;have e2:=ahg (n:=n+7) H T hC p hp.gs;unfold Fz Pt.lo;generalize s:p.wh.lo (va 4)=r at e1;induction r using aW with
 |none=>exact goS 50397442 λF=>F e a e1 lk_s
 |some lo=>
  dsimp only;by_cases b:lo+p.w<=0
  . refine aa (if_pos (.inl b)) <| goS 845537377059074 λF=>F e a e1 lk_s lk_s (lq rfl f) (decide_eq_true b)
  . by_cases d:((gk p.k).w:Int)<=lo
    . refine aa (if_pos (.inr d)) <| goS 0x20101010103010303010102 λF=>F e a e1 lk_s lk_s (lq rfl f) (decide_eq_false b) lk_s (lq rfl g) (lq rfl a) e2 (decide_eq_true d)
    . refine aa (if_neg (λq=>q.elim b d)) <| goS 0x10101010101010104020101010103010303010102 λF=>F e a e1 lk_s lk_s (lq rfl f) (decide_eq_false b) lk_s (lq rfl g) (lq rfl a) e2 (decide_eq_false d) (lq rfl i) (m_append h) (lq rfl j) (lq rfl k) (lq rfl l) lk_s (lq rfl f) (lq rfl m) (ck_append h o)
noncomputable def YJ (o:Option (List AV)) (ra:Nat) (loc:aB) (O:AH):RS:=match o with
 |none=>.cont loc O
 |some l=>.next loc (O.set ra (.lst l))
theorem apN (H:Std w O) (T:cO w (gk 3) St V M mm c va wa O) (Y:WI w gi) (hC:eW O C 84 126 (.ref St)) (hp:p.ok w gk) (X:O[ra]?=some (.lst az)) (Z:az.length<SZ) {loc:aB}
 (S:lk 134 loc=some p.wh.av) (j:lk 132 loc=some (.ref C)) (u:lk 93 loc=some (.int p.w)) (U:lk 107 loc=some p.av) (z:lk 137 loc=some (.ref ra)) (W:lk 90 loc=some (.str [115,105,103])) (I:lk 139 loc=some (.int p.k)) (h:lk 125 loc=some (zm p.wd)) (A:lk 138 loc=some (.int t)):
 ∃g,lk 132 g=some (.ref C)/\lk 137 g=some (.ref ra)/\lk 138 g=some (.int (t-p.w))/\
  aH GG (aj GG ai (n+8)) Mu loc O=YJ (match p.pl (gk 3) (va 4),p.lo gk (va 4) with | some pl,some lo=>some (az++[Rw.av ⟨p.k,pl,lo,p.w,t-p.w⟩]) | _,_=>none) ra g O:=by
 have m:∀(pl:Option Nat) (o:aB),(∀x,x≠121->x≠135->lk x o=lk x (up 138 (.int (t-p.w)) loc))->lk 121 o=some (y9 pl)->p.pl (gk 3) (va 4)=some pl->∃g,lk 132 g=some (.ref C)/\lk 137 g=some (.ref ra)/\lk 138 g=some (.int (t-p.w))/\
  aH GG (aj GG ai (n+8)) Fz o O=YJ (match p.pl (gk 3) (va 4),p.lo gk (va 4) with | some pl,some lo=>some (az++[Rw.av ⟨p.k,pl,lo,p.w,t-p.w⟩]) | _,_=>none) ra g O:=by
  intro pl o k D G;have e:∀x,x≠121->x≠135->x≠138->lk x o=lk x loc:=λx a b d=>by rw [k x a b,cT (λq=>d q.symm)]
  have N:lk 138 o=some (.int (t-p.w)):=(k 138 ag ag).trans lk_s;have rt:=apP (n:=n) H T Y hC hp X Z ((e _ ag ag ag).trans S) ((e _ ag ag ag).trans j) ((e _ ag ag ag).trans u) ((e _ ag ag ag).trans U) ((e _ ag ag ag).trans z) ((e _ ag ag ag).trans W) ((e _ ag ag ag).trans I) D N;refine ⟨(up 101 (gP (p.wh.lo (va 4))) o),?_,?_,?_,rt.trans ?_⟩
  . refine bK (ic (by rfl)) (bK (e _ ag ag ag) ?_);exact j
  . refine bK (ic (by rfl)) (bK (e _ ag ag ag) ?_);exact z
  . exact lq rfl N
  . refine aa G ?_;cases p.lo gk (va 4)<;>rfl
 generalize s:p.wd=K at h;induction K using aW with
 |none=>refine kI (m none (up 121 .none (up 138 (.int (t-p.w)) loc)) (λx k _=>(cT (λq=>k q.symm))) (by refine lk_s.trans ?_;rfl) (by unfold Pt.pl;exact aa s rfl)) λg a b d e=>?_;refine ⟨g,a,b,d,?_⟩;exact goS 50659586 λF=>F A u (lr2 rfl h) e
 |some x=>
  refine fH (hp.wd x s) λk L v=>a8 (xe.mp v) λE v=>?_;obtain ⟨f,l⟩:=E;have e1:=RE (n:=n+1) H T Y hC x k;have P:=hp.gs;rw [L] at P;refine aQ (H.at' P) λr hr J=>?_;have R:dA (.ref St) 112 O=some (.ref w.L):=T.at;have hi:cW (.ref w.L) (.int (p.k:Nat)) O=some (.ref r):=by refine aa L ?_;exact H.item hr
  have Q:=hC.iW ag;generalize y:eF (va 4) x=K;induction K using aW with
  |none=>
   rw [y] at e1;refine ⟨(up 135 .none (up 121 .none (up 138 (.int (t-p.w)) loc))),(lr3 rfl j),(lr3 rfl z),(lr2 rfl lk_s),?_⟩;have:p.pl (gk 3) (va 4)=none:=by unfold Pt.pl;refine aa s ?_;dsimp only;exact aa y rfl
   refine aa this <| goS 0x301020204050102 λF=>F A u (lr2 rfl h) (lr2 rfl h) (lr2 rfl h) (lr2 rfl j) e1 lk_s
  |some i=>
   rw [y] at e1;have ep:=ahx (n:=n+6) (i:=i) J v;by_cases B:dU f l i<0\/((l-f).natAbs:Int)+1<=dU f l i
   . have:p.pl (gk 3) (va 4)=none:=by unfold Pt.pl;refine aa s ?_;dsimp only;refine aa y (aa v ?_);dsimp only;exact (if_pos B)
     rw [if_pos B] at ep;refine ⟨(up 121 (.int (-1)) (up 135 (.int i) (up 121 .none (up 138 (.int (t-p.w)) loc)))),(lr4 rfl j),(lr4 rfl z),(lr3 rfl lk_s),?_⟩;refine aa this <| goS 0x301010101010101050301020204050102 λF=>F A u (lr2 rfl h) (lr2 rfl h) (lr2 rfl h) (lr2 rfl j) e1 lk_s (lr3 rfl j) Q R (lr3 rfl I) hi (nF J rfl rfl) lk_s ep lk_s
   . have G:p.pl (gk 3) (va 4)=some (some (dU f l i).toNat):=by unfold Pt.pl;refine aa s ?_;dsimp only;refine aa y (aa v ?_);dsimp only;exact (if_neg B)
     rw [if_neg B] at ep;refine kI (m (some (dU f l i).toNat) (up 121 (.int (dU f l i)) (up 135 (.int i) (up 121 .none (up 138 (.int (t-p.w)) loc)))) (λx k jV=>by simp only [ml];simp [bC k,bC jV]) (by
      refine lk_s.trans ?_;show some (AV.int _)=some (AV.int (((dU f l i).toNat:Nat):Int));exact aa (f9 (by omega)) rfl) G) λg a b d e=>?_
     refine ⟨g,a,b,d,?_⟩;exact goS 0x2020301010101010101050301020204050102 λF=>F A u (lr2 rfl h) (lr2 rfl h) (lr2 rfl h) (lr2 rfl j) e1 lk_s (lr3 rfl j) Q R (lr3 rfl I) hi (nF J rfl rfl) lk_s ep lk_s (decide_eq_false (show ¬dU f l i<0 by omega)) e
theorem apO (Y:WI w gi) (ou:∀r∈w.refs,r≠ra):∀ps O m i g az d loc,Std w O->cO w (gk 3) St V M mm c va wa O->eW O C 84 126 (.ref St)->(ra∉V::M::St::C::mm.toList)->(∀p∈ps,p.ok w gk)->all=g++ps.map Pt.av->g.length=i->ps.length<m->az.length+ps.length<SZ->
 O[ra]?=some (.lst az)->lk 132 loc=some (.ref C)->lk 137 loc=some (.ref ra)->lk 138 loc=some (.int d)->
 ∃O' f,aA [ra] O O'/\d8 (.aw all) (gL 107) (aH GG (aj GG ai (n+8)) (.seq (.fC [90,93,139,125,134] (.v 107)) Mu)) m i loc O=.next f O'/\O'[ra]?=some (.lst (az++(lF gk (va 4) d ps).map Rw.av))/\lk 137 f=some (.ref ra):=by
 intro l;induction l with
 |nil=>intro O m i g az d loc H T hC A B s hi K o h R J S;refine a8 (kK K) λm mW=>?_;subst mW;refine dE O loc ⟨aA.refl _ _,?_,(by refine aa (show lF gk (va 4) d []=[] from rfl ..) (aa (NX ..) (aa (vc ..) ?_));exact h),J⟩;refine aa (show [].length+m+1=m+1 by simp) ?_;exact sG (by rw [FP,s];subst hi;simp)
 |cons p ps W=>
  intro O m i g az d loc H T hC A B s hi K o h R J S;refine a8 (kK K) λm sC=>?_;subst sC;have e0:(p::ps).length+m+1=(ps.length+m+1)+1:=by simp [jv];exact bV (ak 0x9100121024024830) (ak 0x8120121220024830)
  rw [e0];have X:fG (.aw all) i O=some (some p.av):=by rw [FP,s];subst hi;simp
  have L:az.length<SZ:=by simp at o;exact aU 0x40028c80910802111 o
  have U:az.length+1+ps.length<SZ:=by simp at o;exact aU 0x4040900928c80910802111 o
  refine kI (apN (n:=n) (gk:=gk) (t:=d) (loc:=up 134 p.wh.av (up 125 (zm p.wd) (up 139 (.int p.k) (up 93 (.int p.w) (up 90 (.str [115,105,103]) (up 107 p.av loc)))))) H T Y hC (B p cN) h L
   (by exact lk_s) (by exact lr6 rfl R) (by exact lr3 rfl lk_s) (by exact lr5 rfl lk_s) (by exact lr6 rfl J) (by exact lr4 rfl lk_s) (by exact lr2 rfl lk_s) (by exact lq rfl lk_s) (by exact lr6 rfl S)) λQ a1 a2 P u=>?_
  have skip:(match p.pl (gk 3) (va 4),p.lo gk (va 4) with | some pl,some lo=>some (az++[Rw.av ⟨p.k,pl,lo,p.w,d-p.w⟩]) | _,_=>none)=match p.rw1 gk (va 4) d with | []=>none | r::_=>some (az++[r.av]):=by unfold Pt.rw1;cases p.pl (gk 3) (va 4)<;>cases p.lo gk (va 4)<;>rfl
  rw [skip] at u;rw [show lF gk (va 4) d (p::ps)=p.rw1 gk (va 4) d++lF gk (va 4) (d-p.w) ps from rfl];have N:p.rw1 gk (va 4) d=[]\/∃r,p.rw1 gk (va 4) d=[r]:=by unfold Pt.rw1;cases p.pl (gk 3) (va 4)<;>cases p.lo gk (va 4)<;>simp
  generalize hh:p.rw1 gk (va 4) d=sP at N u⊢;simp only [cF,not_or] at A;refine uV (A) λD v E G I=>?_;clear A;rcases N with rfl | ⟨r,rfl⟩
  . refine fJ (W O (ps.length+m+1) (i+1) (g++[p.av]) az (d-p.w) Q H T hC (by simp only [cF,not_or];exact ⟨D,v,E,G,I⟩) (λx j=>B x (cu _ j)) (by rw [s,ju];rfl) (by simp [hi]) (by exact ak 9964343003696) (by exact aU 0x10100128c80812012111 U) h a1 a2 P) λO' f k e a b=>?_;refine dE O' f ⟨k,(RN X rfl ?_).trans e,(by rw [a];rfl),b⟩;exact goS 514 λF=>F lk_s u
  . have kk:=aA.set O ra (.lst (az++[r.av]));have Z:cO w (gk 3) St V M mm c va wa (O.set ra (.lst (az++[r.av]))):=by
     obtain ⟨q1,⟨vs,q2,q3⟩,q4,q5⟩:=T;refine ⟨(du E).trans q1,⟨vs,(du D).trans q2,q3⟩,?_,q5,‹_›,‹_›,‹_›,‹_›⟩;induction mm using aW with
     |none=>exact ⟨(du v).trans q4.1,q4.2⟩
     |some q=>obtain ⟨x,ms,y,z⟩:=q4;exact ⟨(du v).trans x,ms,(du (by simpa using I)).trans y,z⟩
    refine fJ (W (O.set ra (.lst (az++[r.av]))) (ps.length+m+1) (i+1) (g++[p.av]) (az++[r.av]) (d-p.w) Q (H.keep kk λx j=>by simp;exact ou x j) Z (hC.keep kk (by simp;exact bC G)) (by simp only [cF,not_or];exact ⟨D,v,E,G,I⟩) (λx j=>B x (cu _ j)) (by rw [s,ju];rfl) (by simp [hi]) (by exact ak 9964343003696) (by simp;exact aU 0x4040900928c80812012111 U) (dX h) a1 a2 P) λO' f k e a b=>?_;refine dE O' f ⟨kk.trans k,(qV X rfl ?_).trans e,?_,b⟩
    . exact goS 514 λF=>F lk_s u
    . rw [a,ju];rfl
end
end
variable {rr rc:Nat}
section
variable {g3:Sg} {gk:Nat->Sg}
theorem cO.keep (T:cO w g3 St V M mm c va wa O) (kk:aA R O O') (h:∀r∈St::V::M::mm.toList,r∉R):cO w g3 St V M mm c va wa O':=by
 obtain ⟨a,⟨vs,b,d⟩,q4,q5⟩:=T;refine ⟨kk.get _ _ (h _ cN) a,⟨vs,kk.get _ _ (h _ (cu _ cN)) b,d⟩,?_,q5,‹_›,‹_›,‹_›,‹_›⟩;induction mm using aW with
 |none=>exact ⟨kk.get _ _ (h _ (cu _ (cu _ cN))) q4.1,q4.2⟩
 |some q=>obtain ⟨x,ms,y,z⟩:=q4;exact ⟨kk.get _ _ (h _ (cu _ (cu _ cN))) x,ms,kk.get _ _ (h _ (by simp)) y,z⟩
theorem cO.lt (T:cO w g3 St V M mm c va wa O):∀r∈St::V::M::mm.toList,r<O.length:=by
 obtain ⟨a,⟨vs,b,d⟩,q4,q5⟩:=T;intro r hr;induction mm using aW with
 |none=>
  simp only [Option.toList_none,cF,bP,or_false] at hr;rcases hr with rfl | rfl | rfl
  . exact bZ a
  . exact bZ b
  . exact bZ q4.1
 |some q=>
  obtain ⟨x,ms,y,z⟩:=q4;simp only [Option.toList_some,cF,bP,or_false] at hr;rcases hr with rfl | rfl | rfl | rfl
  . exact bZ a
  . exact bZ b
  . exact bZ x
  . exact bZ y
theorem ahA (H:Std w O) (T:cO w (gk 3) St V M mm c va wa O) (Y:WI w gi) (hC:eW O C 84 126 (.ref St)) {W:Int} {ps:List Pt} (i:∀p∈ps,p.ok w gk) (g:ps.length<1000):
 ∃O',aA [] O O'/\aj GG ai (n+9) 33 [jn W (ps.map Pt.av),.ref C] O=.ok (.ref O.length) O'/\O'[O.length]?=some (.lst ((lF gk (va 4) W ps).map Rw.av)):=by
 have s:C<O.length:=by refine aQ hC λl a _=>?_;exact bZ a
 have d:=T.lt;refine fJ (apO (n:=n) Y (λr hr=>oQ (H.lt r hr)) ps (O++[.lst []]) (ps.length+1) 0 [] [] W [(136,jn W (ps.map Pt.av)),(132,.ref C),(137,.ref O.length),(138,.int W)]
  (H.keep0 (aA.push _ _ _)) (T.keep (aA.push [] _ _) (λ_ _=>bP)) (hC.keep (aA.push [] _ _) bP) (by
   intro h;simp only [cF] at h;have j:=d St cN;have m:=d V (cu _ cN);have q:=d M (cu _ (cu _ cN));rcases h with h | h | h | h | h
   . exact ak 138583998994 h m
   . exact ak 138583998994 h q
   . exact ak 138583998994 h j
   . exact ak 138583998994 h s
   . have:=d O.length (by simp only [cF];exact .inr (.inr (.inr h)));exact ao 273 this) i rfl rfl (ao 9665776176) (by simp [SZ];exact ao 0x30d40be4028cfa0fc80111 g) (cI _ _) rfl rfl rfl) λO' t k e a b=>?_
 refine ⟨O',⟨λr o _ e=>k.get r o (by have:=bZ e;simp;exact ak 35191020060945 this) (bI e),by have:=k.len;simp at this;exact ak 0x80083102402011 this⟩,?_,(by refine a.trans ?_;rfl)⟩;have f:dG (.aw (ps.map Pt.av)) (O++[.lst []])=ps.length+1:=by exact congrArg _ (cf ..)
 exact sJ 779 λF=>F (jU f e) b
noncomputable def rH (bits:List Nat) (r:Rw):List Nat:=(bits.drop r.take.toNat).take r.w.toNat
structure Us where
 va:Nat->List Nat
 wa:Nat->List Nat
def Us.lz (bits:List Nat) (u:Us) (r:Rw):Us:=match r.pl with
 |none=>⟨dH u.va r.k (dN r.lo (rH bits r) (u.va r.k)),u.wa⟩
 |some p=>⟨u.va,dH u.wa p (dN r.lo (rH bits r) (u.wa p))⟩
structure Rw.ok (w:Wo) (gk:Nat->Sg) (bS:Nat) (r:Rw):Prop where
 t0:0<=r.take
 w0:0<r.w
 tw:r.take+r.w<=bS
 lw:0<r.lo+r.w
 lo:r.lo<(gk r.k).w
 gs:w.gs[r.k]?=some (gk r.k)
 nm:r.pl=none->(gk r.k).mem=none
 mm:∀p,r.pl=some p->r.k=3/\∃f l:Int,(gk 3).mem=some (f,l)/\(p:Int)<(l-f).natAbs+1
theorem ahC (H:Std w O) {u:Us} (T:cO w (gk 3) St V M mm c u.va u.wa O) (m:c<SZ) {r:Rw} (hr:r.ok w gk bits.length):
 ∃b g O',aj GG ai (n+4) 1004 [.ref St,.int r.k,y9 r.pl,.int r.lo,made (rH bits r)] O=.ok (.bool b) O'/\cO w (gk 3) St V M g (c+1) (u.lz bits r).va (u.lz bits r).wa O'/\aA (V::M::mm.toList) O O'/\(∀q∈g,q∈mm\/O.length<=q):=by
 have t0:=hr.t0;have w0:=hr.w0;have tw:=hr.tw;have sl:(rH bits r).length=r.w.toNat:=by unfold rH;(refine j7.trans ?_;rw [nJ,nN]);exact amK 0x1061060087a11063d09010800080e2002814 tw Internal.jE (f9 (cJ 60330875153 w0)) (f9 (cJ 60330874897 t0))
 have o:0<r.lo+((rH bits r).length:Int):=by refine aa sl ?_;have:=hr.lw;exact jl 0x38040746038881100101912 this (lL _)
 have s:0<(rH bits r).length:=by refine aa sl ?_;exact dw 0x15180e0204001912 w0 (lL _)
 generalize hp:r.pl=x;induction x using aW with
 |none=>refine fJ (Jr (n:=n) H.sgs T hr.gs (hr.nm hp) m o hr.lo s) λb O' e i k _=>d9 b mm O' ⟨e,?_,k.mono (eZ [0]),λq h=>.inl h⟩;unfold Us.lz;refine aa hp ?_;exact i
 |some p=>
  obtain ⟨j,f,l,v,t⟩:=hr.mm p hp;have d:=hr.lo;rw [j] at d;refine fv (RA (n:=n) H.sgs T (by have:=hr.gs;rw [j] at this;exact this) v m t o d s) λb g O' e i k q=>?_;refine d9 b g O' ⟨?_,?_,k.mono (by simp;intro a h;exact .inr (.inr h)),q⟩
  . refine aa j ?_;exact e
  . unfold Us.lz;refine aa hp ?_;exact i
theorem asy (hb:bits.length<=60) (bO:rr≠rc) (AK:C≠rc):∀(rs:List Rw) O mm c m i v g u loc,Std w O->cO w (gk 3) St V M mm c u.va u.wa O->eW O C 84 126 (.ref St)->
 (∀r∈w.refs,r≠rc)->(∀r∈St::V::M::mm.toList,r≠rr/\r≠rc)->(C∉V::M::mm.toList)->C<O.length->rr<O.length->rc<O.length->(∀r∈rs,r.ok w gk bits.length)->O[rr]?=some (.lst (v++rs.map Rw.av))->v.length=i->rs.length<m->c+rs.length<SZ->g.length+rs.length<=8->
 O[rc]?=some (.dI g)->lk 132 loc=some (.ref C)->lk 140 loc=some (.ref rc)->lk 120 loc=some (made bits)->
 ∃O' L U K,aA (rc::V::M::mm.toList) O O'/\d8 (.ref rr) (jN [90,139,121,101,93,138]) (aH GG (aj GG ai (n+5)) BV) m i loc O=.next K O'/\cO w (gk 3) St V M L (c+rs.length) (rs.foldl (Us.lz bits) u).va (rs.foldl (Us.lz bits) u).wa O'/\O'[rc]?=some (.dI U)/\U.length<=8/\lk 140 K=some (.ref rc)/\(∀q∈L,q∈mm\/O.length<=q):=by
 intro l;induction l with
 |nil=>intro O mm c m i v g u loc H T hC hw j G uc kx W eS hr hi hm B k Y N P Q;refine a8 (kK hm) λm kV=>?_;subst kV;refine sS O mm g loc ⟨aA.refl _ _,?_,T,Y,(by simpa using k),P,λq h=>.inl h⟩;refine aa (show [].length+m+1=m+1 by simp) <| sG (by rw [oK hr];subst hi;simp)
 |cons r rs ih=>
  intro O mm c m i v g u loc H T hC hw j G uc kx W eS hr hi hm B k Y N P Q;refine a8 (kK hm) λm mV=>?_;subst mV;have e0:(r::rs).length+m+1=(rs.length+m+1)+1:=by simp [jv];exact bV (ak 0x9100121024024830) (ak 0x8120121220024830)
  rw [e0];have S:=eS r cN;have tu:fG (.ref rr) i O=some (some r.av):=by rw [oK hr];subst hi;simp
  have hz':c<SZ:=by simp at B;exact aU 0x40028c80910802111 B
  have hl:c+1+rs.length<SZ:=by simp at B;exact aU 0x4040900928c80910802111 B
  have ake:g.length<SZ:=by simp [SZ] at k⊢;exact ak 0x30d40be4028e08910802011 k
  have t0:=S.t0;have w0:=S.w0;have tw:=S.tw;have es:=ahF (n:=n+3) (O:=O) (lo:=r.take.toNat) (w:=r.w.toNat) (dw 0x15180e0204001912 w0 (lL _)) (Wa 0x10109062087a10023d080e2002813 tw (f9 (cJ 60330874897 t0)) (f9 (cJ 60330875153 w0))) hb;rw [f9 t0,f9 (by exact cJ 60330875153 w0)] at es;have es:=es;refine fv (ahC (n:=n+1) H T hz' S) λb I s ef T1 k1 R=>?_;have mg:=T.meth (m:=141) rfl rfl;have iU:=hC.iW ag;have dV:=j V (cu _ cN);have dM:=j M (cu _ (cu _ cN));have XA:∀x,x≠V->x≠M->(∀q∈mm.toList,q≠x)->x∉V::M::mm.toList:=by
   intro x a b e h;simp only [cF] at h;rcases h with h | h | h
   . exact a h
   . exact b h
   . exact e x h rfl
  have fX:=k1.get _ _ (XA _ (bC dV.1) (bC dM.1) λq h=>(j q (by simp only [cF];exact .inr (.inr (.inr h)))).1) hr;have X:=k1.get _ _ (XA _ (bC dV.2) (bC dM.2) λq h=>(j q (by simp only [cF];exact .inr (.inr (.inr h)))).2) Y;have ou:∀x∈w.refs,x∉V::M::mm.toList:=by
   intro x d h;simp only [cF] at h;rcases h with h | h | h
   . exact T.nr.1 (h▸d)
   . exact T.nr.2.1 (h▸d)
   . exact T.nr.2.2 x (by simpa using h) d
  have H1:=H.keep k1 ou;have wk:=hC.keep k1 G;have Tu:∀x∈St::V::M::I.toList,x≠rr/\x≠rc:=by
   intro x d;simp only [cF] at d;rcases d with h | h | h | h
   . exact j x (by simp [h])
   . exact j x (by simp [h])
   . exact j x (by simp [h])
   . rcases R x (by simpa using h) with z | z
     . exact j x (by simp only [cF];exact .inr (.inr (.inr (by simpa using z))))
     . exact ⟨aU 0x101043004044400012 z kx,aU 0x101043004044400012 z W⟩
  have Z:C∉V::M::I.toList:=by
   intro h;simp only [cF] at h;rcases h with h | h | h
   . exact G (by simp [h])
   . exact G (by simp [h])
   . rcases R C (by simpa using h) with z | z
     . exact G (by simp only [cF];exact .inr (.inr (by simpa using z)))
     . exact ak 138583998482 z uc
  have D:=k1.len;generalize A:up 142 (made (rH bits r)) (up 138 (.int r.take) (up 93 (.int r.w) (up 101 (.int r.lo) (up 121 (y9 r.pl) (up 139 (.int r.k) (up 90 (.str [115,105,103]) loc))))))=t;have g1:lk 132 t=some (.ref C):=by rw [<-A];exact lr7 rfl N
  have g2:lk 140 t=some (.ref rc):=by rw [<-A];exact lr7 rfl P
  have g3:lk 120 t=some (made bits):=by rw [<-A];exact lr7 rfl Q
  have body:∃p J,aH GG (aj GG ai (n+5)) BV (up 138 (.int r.take) (up 93 (.int r.w) (up 101 (.int r.lo) (up 121 (y9 r.pl) (up 139 (.int r.k) (up 90 (.str [115,105,103]) loc)))))) O=.next t p/\aA [rc] s p/\p[rc]?=some (.dI J)/\J.length<=g.length+1:=by
   have ss:oG (.ref rc) (.int r.k) (.bool true) s=some (s.set rc (.dI (up (r.k:Int) (.bool true) g))):=BP X ake;induction b using dy with
   |false=>refine dE s g ⟨?_,aA.refl _ _,X,(ao 9665775664)⟩;rw [<-A];unfold BV;exact goS 0x1010101010101040301010102 λF=>F (lr6 rfl Q) lk_s (lq rfl lk_s) es (lr6 rfl lk_s) (lr7 rfl N) iU mg (lr5 rfl lk_s) (lr4 rfl lk_s) (lr3 rfl lk_s) lk_s ef
   |true=>refine dE _ _ ⟨?_,aA.set s rc (.dI (up (r.k:Int) (.bool true) g)),dX X,FY _ _ _⟩;rw [<-A];unfold BV;exact goS 0x1010401010101010101040301010102 λF=>F (lr6 rfl Q) lk_s (lq rfl lk_s) es (lr6 rfl lk_s) (lr7 rfl N) iU mg (lr5 rfl lk_s) (lr4 rfl lk_s) (lr3 rfl lk_s) lk_s ef (lr7 rfl P) (lr5 rfl lk_s) ss
  refine fJ body λp J eb k2 hc2 mh=>?_;rw [qV tu rfl eb];have E:=k2.len;have ak0:∀x∈St::V::M::I.toList,x∉[rc]:=λx d=>by simp;exact (Tu x d).2
  refine w7 (ih p I (c+1) (rs.length+m+1) (i+1) (v++[r.av]) J (u.lz bits r) t (H1.keep k2 λx d=>by simp;exact hw x d) (T1.keep k2 ak0) (wk.keep k2 (by simpa using AK)) hw Tu Z (cz 0x20c28c81811004004400013 E D uc) (cz 0x20c28c81811004004400013 E D kx) (cz 0x20c28c81811004004400013 E D W) (λx d=>eS x (cu _ d))
   (by rw [k2.get _ _ (by simpa using bO) fX,ju];rfl) (by simp [hi]) (ak 9964343003696) hl (by simp at k;exact aU 0x41200120e0892084201122100012 mh k) hc2 g1 g2 g3) λO' L U K kk e T' c1 c2 c3 c4=>?_
  have toK:∀x,x<O.length->x∉rc::V::M::mm.toList->x∉rc::V::M::I.toList:=by
   intro x d f h;simp only [cF,not_or] at f h;rcases h with h | h | h | h
   . exact f.1 h
   . exact f.2.1 h
   . exact f.2.2.1 h
   . rcases R x (by simpa using h) with z | z
     . exact f.2.2.2 (by simpa using z)
     . exact ak 138583998482 z d
  refine sS O' L U K ⟨⟨λx o f ho=>?_,by have:=kk.len;exact cz 0x20c20c81801004004400013 this E D⟩,e,(by rw [jv,<-Cx,Nat.add_right_comm];exact T'),c1,c2,c3,λq h=>?_⟩
  . have d:=bZ ho;refine kk.get x o (toK x d f) (k2.get x o ?_ (k1.get x o ?_ ho))
    . simp only [cF,not_or] at f;simpa using f.1
    . simp only [cF,not_or] at f⊢;exact f.2
  . rcases c4 q h with z | z
    . rcases R q z with y | y
      . exact .inl y
      . exact .inr y
    . exact .inr (cz 0x20c20c81801004004400013 z E D)
end
variable {Z:Nat} {rs:List Rw}
section
variable {g3:Sg} {gk:Nat->Sg}
theorem ahH (H:Std w O) {u:Us} (T:cO w (gk 3) St V M mm c u.va u.wa O) (hC:eW O C 84 126 (.ref St)) (P:C∉V::M::mm.toList) (hb:bits.length<=60) (L:∀r∈St::V::M::mm.toList,r≠rr) (hr:O[rr]?=some (.lst (rs.map Rw.av))) (I:∀r∈rs,r.ok w gk bits.length) (N:c+rs.length<SZ) (K:rs.length<=8):
 ∃v O' b,aj GG ai (n+6) 34 [.ref rr,made bits,.ref C] O=.ok v O'/\cO w (gk 3) St V M b (c+rs.length) (rs.foldl (Us.lz bits) u).va (rs.foldl (Us.lz bits) u).wa O'/\aA (V::M::mm.toList) O O'/\(∀q∈b,q∈mm\/O.length<=q):=by
 have s:C<O.length:=by refine aQ hC λl a _=>?_;exact bZ a
 have p:=bZ hr;have B:=T.lt;refine w7 (asy (n:=n) hb (rc:=O.length) (ak 35191020060945 p) (ak 35191020060945 s) rs (O++[.dI []]) mm c (rs.length+1) 0 [] [] u [(137,.ref rr),(120,made bits),(132,.ref C),(140,.ref O.length)]
  (H.keep0 (aA.push _ _ _)) (T.keep (aA.push [] _ _) (λ_ _=>by simp)) (hC.keep (aA.push [] _ _) bP) (λr h=>oQ (H.lt r h)) (λr h=>⟨L r h,oQ (B r h)⟩) P (by simp;exact ak 0x9108028c400111 s) (by simp;exact ak 0x9108028c400111 p) (by simp) I (bI hr) rfl (ao 9665776176) N (by simpa using K) (cI _ _) rfl rfl rfl) λO' b t Q k e A D i E G=>?_
 have J:dG (.ref rr) (O++[.dI []])=rs.length+1:=by refine (l0 (bI hr)).trans ?_;simp
 have g:fQ 7 [.ref O.length] O'=.ok (.ref O'.length) (O'++[.lst ((mz (t.map (·.1))).map .int)]):=by
  refine (Pw D).trans ((if_pos i).trans ?_);unfold mu;rw [if_pos]
  . rfl
  . have d:∀x (l:List Int),(sU x l).length=l.length+1:=by
     intro x l;induction l with
     |nil=>rfl
     |cons y l f=>show (if x<=y then x::y::l else y::sU x l).length=_;split<;>simp [f]
    have sl:∀l:List Int,(mz l).length=l.length:=by
     intro l;induction l with
     |nil=>rfl
     |cons y l f=>show (sU y (mz l)).length=_;refine aa (d ..) (aa (f ..) ?_);rfl
    refine aa (cf ..) (aa (sl ..) (aa (cf ..) ?_));unfold SZ;exact ao 0x30d40be4020e080011 i
 refine d9 (.ref O'.length) _ b ⟨?_,A.keep (aA.push [] O' [.lst ((mz (t.map (·.1))).map .int)]) (λ_ _=>by simp),⟨λr o j m=>?_,?_⟩,λq h=>?_⟩
 . exact sJ 66309 λF=>F (jU J e) E g
 . refine bI (k.get r o ?_ (bI m));have:=bZ m;simp only [cF,not_or] at j⊢;exact ⟨by exact ak 35191020060945 this,j⟩
 . have:=k.len;simp at this⊢;exact ak 0x24420083102402011 this
 . rcases G q h with z | z
   . exact .inl z
   . simp at z;exact .inr (ak 0x80083102402011 z)
noncomputable def nx (xs:List Nat):Nat:=xs.getLastD 0
noncomputable def a9 (xs:List Nat):List AV:=xs.map λx=>.int (x:Nat)
theorem UY (O) (m) (xs):(a9 xs).mapM (fs (m+1) O)=some (xs.map λx=>tI (x:Nat)):=by
 induction xs with
 |nil=>rfl
 |cons x xs a=>refine aa Cv (aa a ?_);rfl
theorem anO {xs:List Nat} {e:Nat} (h:O[r]?=some (.lst (a9 xs))) (g:O[e]?=some (.lst [])):cG .NotEq (.ref r) (.ref e) O=some (!xs.isEmpty):=by
 show (ph O (.ref r) (.ref e)).map (!·)=_;have b:=BK h (UY O 6 _);have f:fs 8 O (.ref e)=some (.list []):=BK g rfl;have i:fP (.list (xs.map λx=>tI (x:Nat)))=true:=by
  have c:∀xs:List Nat,mC (xs.map λx=>tI (x:Nat))=true:=by
   intro xs;induction xs with
   |nil=>simp [mC]
   |cons x xs a=>simp [mC,rV,a]
  have d:∀xs:List Nat,tH (.list (xs.map λx=>tI (x:Nat)))<=2:=by
   intro xs;have:qt (xs.map λx=>tI (x:Nat))<=1:=by
    induction xs with
    |nil=>simp [qt]
    |cons x xs a=>simp [qt,tH];exact ao 39591214579729 a
   simp only [tH];exact ao 76877930529554449 this
  unfold fP;simp only [rV,c];have:=d xs;simp;exact ao 0x805e4020c880011 this
 have j:fP (.list [])=true:=by kernel_rfl
 refine aa (Am b f i j) ?_;induction xs using cK with
 |nil=>simp [kM,vi]
 |cons x xs=>simp [kM,vi]
theorem anI {xs:List Nat} (h:xs≠[]):a9 xs=a9 xs.dropLast++[.int (nx xs:Nat)]:=by
 have:=List.dropLast_concat_getLast h;unfold nx
 conv=>lhs;rw [<-this]
 unfold a9;rw [kJ,List.map_singleton,List.getLastD_eq_getLast?,List.getLast?_eq_some_getLast h];rfl
theorem Io {xs:List Nat} (h:O[r]?=some (.lst (a9 xs))) (b:xs.length<SZ):qJ cl .append (.ref r) [.int a] O=.ok .none (O.set r (.lst (a9 (xs++[a])))):=by refine (ck_append h (by unfold a9;refine aa (cf ..) ?_;exact b)).trans ?_;unfold a9;refine aa kJ ?_;rfl
theorem ja {xs:List Nat} (h:O[Z]?=some (.lst (a9 xs))):∃O',aj GG ai (n+1) 68 [.ref Z] O=.ok (.int (nx xs:Nat)) O'/\aA [Z] O O'/\O'[Z]?=some (.lst (a9 xs.dropLast)):=by
 have a:(O++[aV.lst []])[Z]?=some (.lst (a9 xs)):=bI h;have e1:=anO a (cI O (.lst []));by_cases b:xs=[]
 . subst b;refine ⟨(O++[aV.lst []]),?_,aA.push _ _ _,(a)⟩;exact aM 5 λF=>F e1
 . have d:xs.isEmpty=false:=by cases xs with | nil=>exact absurd rfl b | cons _ _=>rfl
   have c:(O++[aV.lst []])[Z]?=some (.lst (a9 xs.dropLast++[.int (nx xs:Nat)])):=by refine aa (anI b).symm ?_;exact a
   refine ⟨((O++[aV.lst []]).set Z (.lst (a9 xs.dropLast))),?_,(aA.push _ _ _).trans (aA.set _ _ _),dX a⟩;exact aM 16908549 λF=>F e1 (congrArg _ d) (LQ c) (Ip c)
end
theorem pq {b:aB->AH->RS} (P:Nat->aB->AH->Prop)
 (j:∀i loc O,P i loc O->fG it i O=some l[i]?)
 (step:∀i v loc O,l[i]?=some v->P i loc O->∃d a O',asn v loc=some d/\(b d O=.next a O'\/b d O=.cont a O')/\P (i+1) a O'):
 ∀k i m loc O,i+k=l.length->k<m->P i loc O->∃a O',d8 it asn b m i loc O=.next a O'/\P l.length a O':=by
 intro l;induction l with
 |zero=>intro i m loc O hi f h;refine a8 (kK f) λm q=>?_;subst q;have hi:i=l.length:=bV (ak 0x80083100402211 hi) (ak 290481527333649 hi);subst hi;refine dE loc O ⟨?_,h⟩;refine aa (show 0+m+1=m+1 by exact bV (ao 0x240212000a4830) (ao 0x24001484804830)) <| sG (by refine (j _ _ _ h).trans ?_;simp)
 |succ k u=>
  intro i m loc O hi f h;refine a8 (kK f) λm p=>?_;subst p;have g:i<l.length:=aU 0x40028c80910802211 hi;refine oO (step i l[i] loc O (dO g) h) λd a O' n c t=>?_;refine j6 (u (i+1) (k+1+m) a O' (bV (aU 0x4040900920c80910802211 hi) (aU 0x2048048820c80910802311 hi)) (ak 8873421310512) t) λs r e hp=>dE s r ⟨?_,hp⟩;have o:fG it i O=some (some l[i]):=by rw [j _ _ _ h,dO g]
  refine aa (show k+1+m+1=(k+1+m)+1 by exact bV (ak 0x910240248488120124830) (ak 0x910240248488120124830)) <| c.elim (λc=>(qV o n c).trans e) λc=>(RN o n c).trans e
theorem oz (a b:Nat) (h:b≠0) (O):dg .Mod (.int a) (.int b) O=.ok (.int ((a%b:Nat):Int)) O:=by
 refine ((if_neg ((kL h).elim (λc=>iu (ao 524561 c)) (λc=>ao 35446566424849 c)))).trans (aa (Gx _ (ao 7354416)) ?_)
 norm_cast
theorem EY (a b:Nat) (h:b≠0) (h':b<2^64) (O):dg .FloorDiv (.int a) (.int b) O=.ok (.int ((a/b:Nat):Int)) O:=by
 refine ((if_pos ⟨by exact (kL h).elim (λc=>iu (ao 524561 c)) (λc=>ao 35446566424849 c),by unfold rK;exact decide_eq_true (by simpa using h')⟩)).trans (aa (aa3 _ (ao 7354416)) ?_)
 norm_cast
theorem anz (a b) (h:b≠0) (O):dg .Mod (.int a) (.int b) O=.ok (.int (a.fmod b)) O:=by exact (if_neg h)
theorem lit (k):(OfNat.ofNat k:Int)=((k:Nat):Int):=rfl
theorem wG (a:Nat) (O):dg .Mod (.int a) (.int 4) O=.ok (.int ((a%4:Nat):Int)) O:=oz a 4 ag O
theorem dv4 (a:Nat) (O):dg .FloorDiv (.int a) (.int 4) O=.ok (.int ((a/4:Nat):Int)) O:=EY a 4 ag ag O
theorem LW (a:Nat) (O):dg .Mod (.int a) (.int 2) O=.ok (.int ((a%2:Nat):Int)) O:=oz a 2 ag O
theorem dv2 (a:Nat) (O):dg .FloorDiv (.int a) (.int 2) O=.ok (.int ((a/2:Nat):Int)) O:=EY a 2 ag ag O
theorem Xh (a:Nat) (O):dg .Mod (.int a) (.int 1024) O=.ok (.int ((a%1024:Nat):Int)) O:=oz a 1024 ag O
theorem QU (a:Nat) (O):dg .FloorDiv (.int a) (.int 1024) O=.ok (.int ((a/1024:Nat):Int)) O:=EY a 1024 ag ag O
theorem dv5 (a:Nat) (O):dg .FloorDiv (.int a) (.int 5) O=.ok (.int ((a/5:Nat):Int)) O:=EY a 5 ag ag O
theorem gI (a c) (n):(gH a c n).length=n:=by
 induction n generalizing a with
 |zero=>rfl
 |succ n b=>exact congrArg (· +1) (b (a+c))
theorem Mv (a c) (n i) (h:i<n):(gH a c n)[i]?=some (.int (a+c*i)):=by
 induction n generalizing a i with
 |zero=>contradiction
 |succ n b=>
  induction i using xc with
  |zero=>exact congrArg (λz=>some (AV.int z)) (by simp)
  |succ i=>refine (b (a+c) i (ak 0x20028c48842402111 h)).trans ?_;congr 2;refine (aa2 ..).trans ?_;congr 1;rw [show ((i+1:Nat):Int)=1+i by exact dz (ao 62208910489648) (ao 633516325427248),Int.mul_add,NM]
theorem YG (a b):ij a b 1=(b-a).toNat:=by
 unfold ij qk;refine aa (if_pos ag ..) (aa (Cp ..) ?_);split
 . exact congrArg _ (aa7 ..)
 . exact ZW (by lia)
theorem ap0 (a b) (_:a<=b):ij a b 1=(b-a).toNat:=YG a b
theorem ze (h:m<100000):fQ 4 [.int m] O=.ok (.cj 0 m 1) O:=by show (if fh 0 m 1 then aJ.ok (AV.cj 0 m 1) O else .aq)=_;rw [if_pos];unfold fh;simp;exact ao 0x30d40be4028c61a817c80111 h
theorem VD (h:m<100000):sX (.cj 0 m 1) O=some (gH 0 1 m):=by
 have:fh 0 m 1=true:=by unfold fh;simp;exact ao 0x30d40be4028c61a817c80111 h
 refine (if_pos this).trans <| aa (ap0 0 m (ao 7354416)) ?_
 simp
theorem uS (h:m<100000):fG (.cj 0 m 1) i O=some (gH 0 1 m)[i]?:=by unfold fG;refine bA (VD h) ?_;rfl
theorem sI (h:m<100000):dG (.cj 0 m 1) O=m+1:=by unfold dG;refine aa (VD h) ?_;simp [gI]
theorem wO (h:(gH 0 1 m)[i]?=some v):v=.int (i:Nat)/\i<m:=by
 have hi:i<m:=by have:=(ez.mp h).1;rwa [gI] at this
 rw [Mv 0 1 m i hi] at h
 (injection h with h;subst h)
 exact ⟨by simp,hi⟩
theorem ap2 {xs:List Nat} (h:O[Z]?=some (.lst (a9 xs))) (m:lk 184 loc=some (.ref Z)) (o:lk 150 loc=some (.int (a:Nat))) (r:xs.length+30<SZ):
 ∃c O',d8 (.cj 0 (30:Nat) 1) (gL 186) (aH GG (aj GG ai n) Mx) 31 0 loc O=.next c O'/\aA [Z] O O'/\lk 184 c=some (.ref Z)/\∃b7,O'[Z]?=some (.lst (a9 b7))/\b7.length<=xs.length+30:=by
 refine fJ (pq (asn:=gL 186) (b:=aH GG (aj GG ai n) Mx)
  (λi c O'=>aA [Z] O O'/\lk 184 c=some (.ref Z)/\∃(a:Nat) (b7:List Nat),lk 150 c=some (.int a)/\O'[Z]?=some (.lst (a9 b7))/\b7.length<=xs.length+i/\i<=30)
  (λi c O' _=>uS ag) (λi v c O' q p=>by
   obtain ⟨k,a1,a,b7,a2,d,f,s⟩:=p;obtain ⟨rfl,hi⟩:=wO q;by_cases j:(0:Int)<a
   . refine ⟨_,up 150 (.int ((a/1024:Nat):Int)) (up 186 (.int i) c),O'.set Z (.lst (a9 (b7++[a%1024]))),rfl,.inl ?_,k.trans (aA.set _ _ _),?_,a/1024,b7++[a%1024],?_,dX d,?_,hi⟩
     . exact goS 0x10301010101020202 λF=>F (lq rfl a2) (decide_eq_true j) (lq rfl a1) (m_append d) (lq rfl a2) (Xh _ _) (Io d (cz 0x60428cc0f179208440104200478bc80113 hi f r)) (lq rfl a2) (QU _ _)
     . exact lr2 rfl a1
     . exact lk_s
     . simp;exact aU 0x2482108480483202100011 f
   . refine ⟨_,up 186 (.int i) c,O',rfl,.inl ?_,k,?_,a,b7,?_,d,by exact aU 0x9208420083202100011 f,hi⟩
     . exact goS 514 λF=>F (lq rfl a2) (decide_eq_false j)
     . exact lq rfl a1
     . exact lq rfl a2) 30 0 31 loc O (aa (gI ..) rfl) ag ⟨aA.refl _ _,m,a,xs,o,h,by exact ao 1075841072,ag⟩) λc O' e k a1 a2=>?_
 refine fJ a2 λa b7 t l g _=>?_;rw [gI] at g;exact ⟨c,O',e,k,a1,b7,l,g⟩
theorem ahB (c:List Int):∃Z xs O',aj GG ai (n+1) 67 [.gA (c.map .int)] O=.ok (.ref Z) O'/\aA [] O O'/\O'[Z]?=some (.lst (a9 xs))/\O.length<=Z:=by
 have G:((c.map AV.int).take 40).length<=40:=by simp;exact ao 0x505e4020ca0bc80011 (qr _ _)
 have jf:te (.gA (c.map .int)) .none (.int 40) (O++[.lst []])=.ok (.ref (O.length+1)) (O++[.lst []]++[.lst ((c.map .int).take 40)]):=by show (if (0:Int)<=40 then ig (.lst ((c.map .int).take 40)) (O++[.lst []]) else .aq)=_;refine ((if_pos ag)).trans ?_;simp [ig]
 have g0:(O++[aV.lst []]++[aV.lst ((c.map AV.int).take 40)])[O.length+1]?=some (.lst ((c.map .int).take 40)):=by have:=cI (O++[aV.lst []]) (aV.lst ((c.map AV.int).take 40));rwa [show (O++[aV.lst []]).length=O.length+1 by simp] at this
 obtain ⟨K,d,e1,k1,g1,a1,m,B,L⟩:=pq (asn:=gL 185) (b:=aH GG (aj GG ai n) YI) (l:=(c.map .int).take 40)
  (λi j O'=>aA [O.length] (O++[.lst []]++[.lst ((c.map .int).take 40)]) O'/\O'[O.length+1]?=some (.lst ((c.map .int).take 40))/\lk 184 j=some (.ref O.length)/\∃b7:List Nat,O'[O.length]?=some (.lst (a9 b7))/\b7.length<=i*31)
  (λi j O' h=>oK h.2.1) (λi v j O' x E=>by
   obtain ⟨k,g,a1,b7,s,t⟩:=E;have hi:i<40:=by have:=(ez.mp x).1;exact ak 0x1417900a3282f22004400112 this G
   obtain ⟨z,rfl⟩:∃z:Int,v=.int z:=by have:=gW x;refine aQ (gQ.mp (tB this)) λz _ e=>⟨z,e.symm⟩
   obtain ⟨a,p⟩:∃a:Nat,(a:Int)=if 0<=z then z else 7-z:=⟨(if 0<=z then z else 7-z).toNat,by split<;>lia⟩
   have H:b7.length<SZ:=by unfold SZ;exact ak 0x61a817c8851801f2f82004a0bc8011f2f2 hi t
   obtain ⟨D,y,e2,k2,A,J,C,w⟩:=ap2 (xs:=b7++[a%1024]) (loc:=up 150 (.int ((a/1024:Nat):Int)) (up 150 (.int (a:Nat)) (up 185 (.int z) j)))
    (dX s) (lr3 rfl a1) (by exact lk_s) (by unfold SZ;simp;exact ak 0x61a817c8f1791221251801f2f82004a0bc8011f2f2 hi t)
   have kk:=(aA.set O' O.length (aV.lst (a9 (b7++[a%1024])))).trans k2;refine ⟨_,D,y,rfl,.inl ?_,k.trans kk,kk.get _ _ (by simp) g,A,J,C,by simp at w;exact aU 0x92087cbe0041901f2f8200478bc8910900012 w t⟩;have en:aH GG (aj GG ai n) (.aK 150 (.dD (.aP .GtE (.v 185) (.ci 0)) (.v 185) (.aN .Sub (.ci 7) (.v 185)))) (up 185 (.int z) j) O'=.next (up 150 (.int (a:Nat)) (up 185 (.int z) j)) O':=by
    by_cases q:0<=z
    . rw [if_pos q] at p;refine aa p ?_;exact goS 66050 λF=>F lk_s (decide_eq_true q) lk_s
    . rw [if_neg q] at p;refine aa p ?_;exact goS 66050 λF=>F lk_s (decide_eq_false q) lk_s
   have u:∀O,dG (.cj 0 30 1) O=31:=λO=>sI ag;have e2:=e2;exact goS 0x40103010101010301 λF=>F en (lr2 rfl a1) (m_append s) lk_s (Xh _ _) (Io s H) lk_s (QU _ _) (jU (u _) e2)) ((c.map AV.int).take 40).length 0 (((c.map AV.int).take 40).length+1) [(183,.gA (c.map .int)),(184,.ref O.length)] _ (Oj _) (ao 9665776176)
   ⟨aA.refl _ _,g0,rfl,[],by exact bI (cI O (.lst [])),by exact bT _⟩
 refine d9 d.length ((m.take 160).reverse) ((d++[aV.lst ((a9 m).take 160)]).set d.length (.lst ((a9 m).take 160).reverse)) ⟨?_,⟨λr o _ h=>?_,?_⟩,?_,?_⟩
 . have u:=l0 g0;have I:te (.ref O.length) .none (.int 160) d=.ok (.ref d.length) (d++[.lst ((a9 m).take 160)]):=by
    exact (g8 B).trans rfl
   exact sJ 0x301010301030106 λF=>F jf (jU u e1) a1 I lk_s (Xc (cI d (aV.lst ((a9 m).take 160)))) (Qs (cI d (aV.lst ((a9 m).take 160)))) lk_s
 . have:=bZ h;have f:=k1.len;simp at f;refine (du (by exact aU 0x40410c01011104402012 f this)).trans <| bI (k1.get _ _ (m1 (ak 35191020060945 this)) (bI (bI h)))
 . have f:=k1.len;simp at f⊢;exact ak 0x24420083104402011 f
 . refine (dX (cI _ _)).trans ?_;unfold a9;rw [<-NY,<-List.map_reverse]
 . have f:=k1.len;simp at f;exact ak 0x80083104402011 f
variable {msb lsb:Int} {rb wide:Nat} {bs:List Nat}
theorem yS (xs):(a9 xs).length=xs.length:=by unfold a9;exact (cf ..)
theorem adR (h:O[rb]?=some (.lst (a9 bs))) (o:lk 188 loc=some (.ref rb)) (p:lk 150 loc=some (.int (a:Nat))) (s:bs.length+5<SZ) (hb:∀b∈bs,b<4):
 ∃d O' c,d8 (.cj 0 (5:Nat) 1) (gL 153) (aH GG (aj GG ai n) C4) 6 0 loc O=.next d O'/\aA [rb] O O'/\(∀x,x≠150->x≠153->lk x d=lk x loc)/\O'[rb]?=some (.lst (a9 c))/\c.length=bs.length+5/\∀b∈c,b<4:=by
 refine fJ (pq (asn:=gL 153) (b:=aH GG (aj GG ai n) C4)
  (λi d O'=>aA [rb] O O'/\(∀x,x≠150->x≠153->lk x d=lk x loc)/\∃(a:Nat) (c:List Nat),lk 150 d=some (.int a)/\O'[rb]?=some (.lst (a9 c))/\c.length=bs.length+i/\∀b∈c,b<4)
  (λi d O' _=>uS ag) (λi v d O' r q=>by
   obtain ⟨k,a1,a,c,a2,g,f,j⟩:=q;obtain ⟨rfl,hi⟩:=wO r;refine ⟨_,up 150 (.int ((a/4:Nat):Int)) (up 153 (.int i) d),O'.set rb (.lst (a9 (c++[a%4]))),rfl,.inl ?_,k.trans (aA.set _ _ _),?_,a/4,c++[a%4],?_,dX g,?_,?_⟩
   . exact goS 284777823404290 λF=>F (lq rfl ((a1 188 ag ag).trans o)) (m_append g) (lq rfl a2) (wG _ _) (Io g (cz 0x60428cc292084401042085480113 hi f s)) (lq rfl a2) (dv4 _ _)
   . intro x l m;simp only [ml];refine bK (if_neg (bC l)) (bK (if_neg (bC m)) ?_);exact a1 x l m
   . exact lk_s
   . simp;exact bV (aU 0x2482108480483202100211 f) (aU 0x2402124108483202100311 f)
   . intro b hb;rcases eG.mp hb with h | h
     . exact j b h
     . simp at h;exact ak 0x2100a3422044400212 h (gf _ ag)) 5 0 6 loc O (aa (gI ..) rfl) ag ⟨aA.refl _ _,λ_ _ _=>rfl,a,bs,p,h,by exact bV (ao 1075841072) (ao 8407088),hb⟩) λd O' e k a1 z=>?_
 refine fJ z λa c a2 g f j=>?_;rw [gI] at f;exact d9 d O' c ⟨e,k,a1,g,f,j⟩
theorem Ao {xs:List Nat} (h:O[Z]?=some (.lst (a9 xs))) (u:wide<=60):∃rb bits b7 O',aj GG ai (n+2) 69 [.ref Z,.int wide] O=.ok (.ref rb) O'/\aA [Z] O O'/\O'[Z]?=some (.lst (a9 b7))/\O'[rb]?=some (.lst (a9 bits))/\bits.length=wide/\(∀b∈bits,b<4)/\O.length<=rb:=by
 have p:(wide+4)/5<100000:=aU 0x61a817c8855a100880856884f0bc80012 u (Cy _ _);have s:=bZ h;refine fJ (pq (asn:=gL 186) (b:=aH GG (aj GG ai (n+1)) adQ) (l:=gH 0 1 ((wide+4)/5))
  (λi a O'=>aA [Z,O.length] (O++[.lst []]) O'/\(lk 184 a=some (.ref Z)/\lk 188 a=some (.ref O.length)/\lk 187 a=some (.int wide))/\∃(b7 f:List Nat),O'[Z]?=some (.lst (a9 b7))/\O'[O.length]?=some (.lst (a9 f))/\f.length=5*i/\∀b∈f,b<4)
  (λi a O' _=>uS p) (λi v a O' I H=>by
   obtain ⟨k,⟨a1,a2,y⟩,b7,f,a4,a5,a6,a7⟩:=H;refine bB (wO I) λA hi=>?_;subst A;refine ct (ja (n:=n) a4) λK e2 k2 g2=>?_;have w:=k2.get _ _ (m1 (ak 279378395409 s)) a5;refine uY (adR (n:=n+1) (loc:=up 150 (.int (nx b7:Nat)) (up 186 (.int i) a)) w (lr2 rfl a2) (lk_s) (by unfold SZ;exact kZ 0xc3502f9524128d09848042b442785e4c0080564084400154 hi a6 u (Cy _ _)) a7) λE x g m k3 j B q C=>?_;refine ⟨_,E,x,rfl,.inl ?_,k.trans ((k2.mono (eZ [0])).trans (k3.mono (eZ [1]))),⟨?_,?_,?_⟩,b7.dropLast,g,k3.get _ _ (m1 (ak 35191020060945 s)) g2,B,by exact bV (aU 0x24825601064158821522100212 q a6) (aU 0x4904ad064158831522100312 q a6),C⟩
   . have G:∀O,dG (.cj 0 5 1) O=6:=λO=>sI ag;have m:=m;exact goS 262402 λF=>F (lq rfl a1) e2 (jU (G _) m)
   . refine (j _ ag ag).trans ?_;exact lr2 rfl a1
   . refine (j _ ag ag).trans ?_;exact lr2 rfl a2
   . refine (j _ ag ag).trans ?_;exact lr2 rfl y) ((wide+4)/5) 0 ((wide+4)/5+1) [(184,.ref Z),(187,.int wide),(188,.ref O.length)] (O++[.lst []]) (by refine bK ?_ (gI ..).symm;exact bV (ao 84016) (ao 10487856)) (ao 9665776176)
   ⟨aA.refl _ _,⟨rfl,rfl,rfl⟩,xs,[],bI h,cI _ _,rfl,by exact λ_ h=>absurd h bP⟩) λL c e k g1 z=>?_
 refine fJ z λJ d g2 g3 g4 g5=>?_;clear z;rw [gI] at g4;refine sS c.length (d.take wide) J (c++[.lst (a9 (d.take wide))]) ⟨?_,⟨λr o hr t=>?_,?_⟩,bI g2,cI _ _,?_,λb hb=>g5 b (tB hb),?_⟩
 . have D:dg .FloorDiv (.int (wide+4)) (.int 5) (O++[.lst []])=.ok (.int (((wide+4)/5:Nat):Int)) (O++[.lst []]):=dv5 (wide+4) _;have sl:te (.ref O.length) .none (.int wide) c=.ok (.ref c.length) (c++[.lst (a9 (d.take wide))]):=by
    have e:(a9 d).take wide=a9 (d.take wide):=by unfold a9;exact aa NY rfl
    refine (g8 g3).trans ?_;show (if (0:Int)<=wide then ig (.lst ((a9 d).take (wide:Int).toNat)) c else .aq)=_;refine aa (if_pos (ao 7354416) ..) (aa (rR ..) (aa (e ..) ?_));rfl
   exact sJ 1103856992519 λF=>F D (ze p) (jU (sI p) e) g1.2.1 g1.2.2 sl
 . have:=bZ t;refine bI (k.get r o ?_ (bI t));simp only [cF,bP,or_false,not_or] at hr⊢;exact ⟨hr,by exact ak 35191020060945 this⟩
 . have:=k.len;simp at this⊢;exact ak 0x24420083102402011 this
 . refine j7.trans (bA g4 ?_);exact bV (ak 35193167544337 (qr _ _)) (ak 283673363217 (nN (aU 0x159041a91022848210015a312 (Cy _ _) (gf _ ag))))
 . have:=k.len;simp at this;exact ak 0x80083102402011 this
theorem PJ (f) (l) (b):bN f (l++[b])=bN f l+(f b).toNat*2^l.length:=by
 induction l with
 |nil=>exact (show (f b).toNat+2*0=0+(f b).toNat*2^0 by simp)
 |cons x l a=>dsimp only [Cs,bN];simp only [a,jv,Nat.pow_succ];refine aa (Nat.mul_add ..) (aa (abJ ..).symm (aa (Cx ..) ?_));congr 2;rw [abK 2 (f b).toNat,abJ,abK 2 (2^l.length)]
theorem Yo (h:i<=60):dg .Pow (.int 2) (.int i) O=.ok (.int ((2^i:Nat):Int)) O:=by
 show (if 0<=(i:Int)/\(i:Int)<=1000/\rK 2=true then aJ.ok (AV.int (2^(i:Int).toNat)) O else .aq)=_;refine aa (if_pos ⟨by exact ao 7354416,by exact ao 0x3e83f203e0cf0bc80011 h,ag⟩ ..) (aa (rR ..) ?_)
 norm_cast
theorem Aq (h:O[rb]?=some (.lst (a9 bits))) (f:bits.length<=60) (hb:∀b∈bits,b<4):aj GG ai (n+1) 70 [.ref rb] O=.ok (made bits) O:=by
 have k:bits.length<100000:=by exact ao 0x30d40be4028cf0bc80011 f
 refine uX (pq (asn:=gL 191) (b:=aH GG (aj GG ai n) Xe) (l:=gH 0 1 bits.length)
  (λi c O'=>O'=O/\lk 188 c=some (.ref rb)/\lk 190 c=some (.int (bN eT (bits.take i):Nat))/\lk 189 c=some (.int (bN eJ (bits.take i):Nat)))
  (λi c O' _=>uS k) (λi v c O' x p=>by
   refine j5 (p) λj a1 a2 w=>?_;clear p;subst j;refine bB (wO x) λj hi=>?_;subst j;have it:=jD h (by unfold a9;rw [iR,dO hi];rfl);have b4:=hb _ (GF hi);have m:2^i<2^64:=Nat.pow_lt_pow_right ag (ak 0x2017900a33c2f22004400112 hi f);have r:bits.take (i+1)=bits.take i++[bits[i]]:=by rw [List.take_succ,dO hi];rfl
   have s:(bits.take i).length=i:=by refine j7.trans ?_;exact bV (ak 35193167544337 (qr _ _)) (ak 283673363217 (nN (ak 35193167544593 hi)))
   have e1:bits[i]%2=(eT bits[i]).toNat:=by unfold eT;by_cases q:bits[i]%2=1<;>simp [q]<;>exact (kL q).elim (λd=>bV (ao 4406842491153 d) (ao 10288)) (λd=>bV (iu (ao 155768586514 (gf _ ag) d)) (iu (ao 155768586514 (gf _ ag) d)))
   have e2:bits[i]/2=(eJ bits[i]).toNat:=by unfold eJ;by_cases q:bits[i]/2%2=1<;>simp [q]<;>lia
   have m1:∀a:Nat,dg .Mult (.int a) (.int ((2^i:Nat):Int)) O'=.ok (.int ((a*2^i:Nat):Int)) O':=λa=>by refine (yP _ _ _ m).trans ?_;norm_cast
   refine d9 _ (up 189 (.int (bN eJ (bits.take (i+1)):Nat)) (up 190 (.int (bN eT (bits.take (i+1)):Nat)) (up 191 (.int i) c))) O' ⟨rfl,.inl ?_,rfl,?_,?_,?_⟩
   . have t:((bN eT (bits.take (i+1)):Nat):Int)=(bN eT (bits.take i):Nat)+((bits[i]%2*2^i:Nat):Int):=by refine aa (r ..) (aa (PJ ..) (aa (s ..) (aa (e1 ..).symm ?_)));rfl
     have u:((bN eJ (bits.take (i+1)):Nat):Int)=(bN eJ (bits.take i):Nat)+((bits[i]/2*2^i:Nat):Int):=by refine aa (r ..) (aa (PJ ..) (aa (s ..) (aa (e2 ..).symm ?_)));rfl
     refine aa t (aa u ?_);exact goS 0x1010101010101030101010101010102 λF=>F (lq rfl a2) (lq rfl a1) lk_s it (LW _ _) lk_s (Yo (show i<=60 by exact ak 0x1e17900833c2f22004400112 hi f)) (m1 _) (lr2 rfl w) (lr2 rfl a1) (lq rfl lk_s) it (dv2 _ _) (lq rfl lk_s) (Yo (show i<=60 by exact ak 0x1e17900833c2f22004400112 hi f)) (m1 _)
   . exact lr3 rfl a1
   . exact lq rfl lk_s
   . exact lk_s) bits.length 0 (bits.length+1) [(188,.ref rb),(190,.int 0),(189,.int 0)] O (by refine aa (gI ..) ?_;exact bV (ao 84016) (ao 10487856)) (ao 9665776176) ⟨rfl,rfl,rfl,rfl⟩) λy o e g g1 g2 g3=>?_
 subst g;rw [gI,Cw] at g2 g3;have ln:fQ 0 [.ref rb] o=.ok (.int bits.length) o:=by rw [mj h,yS]
 exact sJ 282578833703175 λF=>F ln (ze k) (jU (sI k) e) g1 ln g2 g3
noncomputable def dY (f:Int):Nat:=(f.fmod 256).toNat
theorem Ah (f):dY f<256:=by unfold dY;have a:=aa4 f (show (0:Int)<256 by decide);have b:=Int.fmod_lt_of_pos f (show (0:Int)<256 by decide);exact dw 0x400fc80518001e84400fc80912 b (f9 (cJ 60330874897 a))
theorem IU (f):((dY f:Nat):Int)=f.fmod 256:=by unfold dY;exact f9 (aa4 f ag)
theorem FD (b:-128<=f) (c:f<128):sg 8 (dY f)=f:=by
 have h:=IU f;rw [Gx _ ag] at h;unfold sg;have d:=Ah f
 (split;(rename_i a;lia);(rename_i a;lia))
theorem ya:aj GG ai (n+1) 71 [.int f] O=.ok (ly (dY f)) O:=by exact aM 3 λF=>F ((anz f 256 ag O).trans (congrArg (λi=>aJ.ok (AV.int i) O) (IU f).symm))
noncomputable def o6 (W:Nat) (msb lsb i:Int):Int:=if 0<=(if lsb<=msb then i-lsb else lsb-i)/\(if lsb<=msb then i-lsb else lsb-i)<W then (if lsb<=msb then i-lsb else lsb-i) else -1
theorem agX {i:Int} (h:O[rb]?=some (.lst l)):aj GG ai (n+1) 72 [.ref rb,.int msb,.int lsb,.int i] O=.ok (.int (o6 l.length msb lsb i)) O:=by
 unfold o6;by_cases c:lsb<=msb
 . refine aa (if_pos c) ?_;by_cases a:0<=i-lsb
   . by_cases b:i-lsb<l.length
     . refine aa (if_pos ⟨a,b⟩) <| aM 33687814 λF=>F (decide_eq_true c) (decide_eq_true a) (mj h) (decide_eq_true b)
     . refine aa (if_neg λq=>b q.2) <| aM 33687814 λF=>F (decide_eq_true c) (decide_eq_true a) (mj h) (decide_eq_false b)
   . refine aa (if_neg λq=>a q.1) <| aM 2310 λF=>F (decide_eq_true c) (decide_eq_false a)
 . refine aa (if_neg c) ?_;by_cases a:0<=lsb-i
   . by_cases b:lsb-i<l.length
     . refine aa (if_pos ⟨a,b⟩) <| aM 33687814 λF=>F (decide_eq_false c) (decide_eq_true a) (mj h) (decide_eq_true b)
     . refine aa (if_neg λq=>b q.2) <| aM 33687814 λF=>F (decide_eq_false c) (decide_eq_true a) (mj h) (decide_eq_false b)
   . refine aa (if_neg λq=>a q.1) <| aM 2310 λF=>F (decide_eq_false c) (decide_eq_false a)
variable {h:AV->AV} {U:Nat->Nat->List Nat}
section
variable {f:AV->AH->aJ AV}
section
theorem afu (h:fG it i O=some (some v)) (a:f v O=.ok x O') (b:O'[r]?=some (.lst az)) (c:az.length<SZ):iX it r f (n+1) i O=iX it r f n (i+1) (O'.set r (.lst (az++[x]))):=by show wY _ _ _ (fG it i O)=_;refine aa h ?_;show (match f v O with | .ok x O'=>aL aJ.aq O' r _ | _=>aJ.aq)=_;refine aa a <| (g8 b).trans (if_pos c)
theorem Iu (P:Nat->List AV->AH->Prop)
 (d:∀i az O,P i az O->fG it i O=some l[i]?)
 (step:∀i v az O,l[i]?=some v->P i az O->∃x O',f v O=.ok x O'/\O'[r]?=some (.lst az)/\az.length<SZ/\P (i+1) (az++[x]) (O'.set r (.lst (az++[x])))):
 ∀k i m az O,i+k=l.length->k<m->P i az O->∃j O',iX it r f m i O=.ok (.ref r) O'/\P l.length j O':=by
 intro l;induction l with
 |zero=>intro i m az O hi b h;refine a8 (kK b) λm n=>?_;subst n;have hi:i=l.length:=bV (ak 0x80083100402211 hi) (ak 290481527333649 hi);subst hi;refine dE az O ⟨?_,h⟩;refine aa (show 0+m+1=m+1 by exact bV (ao 0x240212000a4830) (ao 0x24001484804830)) ?_;show wY _ _ _ (fG it l.length O)=_;exact aa (d _ _ _ h) (aa (GD (bT _)) rfl)
 |succ k u=>intro i m az O hi b h;refine a8 (kK b) λm g=>?_;subst g;have c:i<l.length:=aU 0x40028c80910802211 hi;refine fJ (step i l[i] az O (dO c) h) λx O' p q s t=>?_;refine j6 (u (i+1) (k+1+m) (az++[x]) (O'.set r (.lst (az++[x]))) (bV (aU 0x4040900920c80910802211 hi) (aU 0x2048048820c80910802311 hi)) (ak 8873421310512) t) λa o e hp=>dE a o ⟨?_,hp⟩;refine aa (show k+1+m+1=(k+1+m)+1 by exact bV (ak 0x910240248488120124830) (ak 0x910240248488120124830)) <| (afu ((d _ _ _ h).trans (congrArg some (dO c))) p q s).trans e
theorem vI (k:∀az,sX it (O++[aV.lst az])=some l) (n:∀v∈l,∀az,f v (O++[aV.lst az])=.ok (h v) (O++[aV.lst az])) (o:l.length<=SZ) (m) (p:l.length<m):
 iX it O.length f m 0 (O++[.lst []])=.ok (.ref O.length) (O++[.lst (l.map h)]):=by
 refine qg (Iu (λi az O'=>az=(l.take i).map h/\O'=O++[aV.lst az])
  (λi az O' ⟨c,d⟩=>by subst d;unfold fG;refine bA (k ..) ?_;rfl)
  (λi v az O' g ⟨c,d⟩=>by
    subst d;have j:=(ez.mp g).1;refine dE (h v) _ ⟨n v (gW g) az,cI _ _,(by refine aa (c ..) (aa (cf ..) (aa (j7 ..) ?_));exact cz 0x40c28c01801202004400113 j o (qr _ _)),?_,?_⟩
    . refine aa c (aa GN (aa g (aa kJ ?_)));rfl
    . refine List.set_append.trans ?_;simp) l.length 0 m [] _ (bV (ao 84016) (ao 10487856)) p ⟨rfl,rfl⟩) λaz O' e a b=>?_
 subst a;subst b;rw [e,Cw]
noncomputable def bH:Nat->List Nat
 |0=>[97]
 |1=>[98]
 |2=>[99]
 |_=>[109]
structure Lr where
 Wd:Nat
 wr:Nat->Nat
 br:Nat->List Nat
def iY (t:Lr) (gk:Nat->Sg) (k:Nat):AV:=.aw [.int k,.int (gk k).msb,.int (gk k).lsb,.bool (gk k).sc,(gk k).fi,(gk k).la,.ref (t.wr k)]
structure kP (t:Lr) (gk:Nat->Sg) (am:List Nat) (U:Nat->Nat->List Nat) (O:AH):Prop where
 wd:O[t.Wd]?=some (.dS [([97],iY t gk 0),([98],iY t gk 1),([99],iY t gk 2),([109],iY t gk 3),([105],gP (jb am))])
 wl:∀k,k<4->O[t.wr k]?=some (.lst ((t.br k).map .ref))
 bt:∀k,k<4->∀(j r:Nat),(t.br k)[j]?=some r->O[r]?=some (.lst (a9 (U k j)))/\(U k j).length=(gk k).w/\(∀b∈U k j,b<4)
 nb:∀k,k<3->(t.br k).length=1
 nm:∃f l:Int,(gk 3).mem=some (f,l)/\(t.br 3).length=(l-f).natAbs+1
structure CW (gk:Nat->Sg):Prop where
 w:∀k,k<4->((gk k).w:Int)=((gk k).msb-(gk k).lsb).natAbs+1
 m:∀k,k<4->-4<=(gk k).msb/\(gk k).msb<=5/\-4<=(gk k).lsb/\(gk k).lsb<=5
 sc:∀k,k<4->(gk k).sc=true->(gk k).msb=0/\(gk k).lsb=0
 mem:∀k,k<3->(gk k).mem=none
 m3:∀f l:Int,(gk 3).mem=some (f,l)->-2<=f/\f<=3/\-2<=l/\l<=3
variable {t:Lr} {gk:Nat->Sg} {am:List Nat} {xs:List Nat}
theorem kP.item (R:kP t gk am U O) (a:k<4):cW (.ref t.Wd) (.str (bH k)) O=some (iY t gk k):=by have:∀s,cW (.ref t.Wd) (.str s) O=lk s [([97],iY t gk 0),([98],iY t gk 1),([99],iY t gk 2),([109],iY t gk 3),([105],gP (jb am))]:=λs=>(Bb R.wd).trans rfl;refine (this ..).trans <| pX rfl rfl rfl rfl k a
noncomputable def Ix.iF:Ix->Bool
 |.c _=>true
 |_=>false
theorem aq7 (h:a<16):-8<=sg 4 a/\sg 4 a<=7:=by unfold sg;(split;(rename_i b;lia);(rename_i b;lia))
theorem RI (h:am.length=4) {i:Int} (hi:jb am=some i):-8<=i/\i<=7:=by
 unfold jb at hi;split at hi
 . (injection hi with hi;subst hi);exact aq7 (vD h eT)
 . contradiction
theorem uH (a:Nat) (O):dg .Mod (.int a) (.int 3) O=.ok (.int ((a%3:Nat):Int)) O:=oz a 3 ag O
theorem anf (a:Nat) (O):dg .Mod (.int a) (.int 12) O=.ok (.int ((a%12:Nat):Int)) O:=oz a 12 ag O
theorem mr (a:Nat) (O):dg .Mod (.int a) (.int 10) O=.ok (.int ((a%10:Nat):Int)) O:=oz a 10 ag O
theorem Bw (a:Nat) (O):dg .Mod (.int a) (.int 5) O=.ok (.int ((a%5:Nat):Int)) O:=oz a 5 ag O
theorem Xj (a:Nat) (O):dg .Mod (.int a) (.int 6) O=.ok (.int ((a%6:Nat):Int)) O:=oz a 6 ag O
set_option smartUnfolding false in
theorem Jq (q:am.length=4) (R:kP t gk am U O) (s:O[Z]?=some (.lst (a9 xs))) (e:Z≠t.Wd):∃x b7 O',aj GG ai (n+2) 74 [.ref Z,.ref t.Wd] O=.ok (.aw [x.bc,gP (eF am x),.bool x.iF]) O'/\x.ok/\aA [Z] O O'/\O'[Z]?=some (.lst (a9 b7))/\∀i,eF am x=some i->-20<=i/\i<=20:=by
 refine ct (ja (n:=n) s) λm e1 k1 g1=>?_;have h:cW (.ref t.Wd) (.str [105]) m=some (gP (jb am)):=by have:=k1.get _ _ (by simp;exact bC e) R.wd;exact (Bb this).trans rfl
 have y:nx xs%3<3:=gf _ ag;have dd:∀k:Nat,decide (((nx xs%3:Nat):Int)=(k:Int))=decide (nx xs%3=k):=λk=>by rw [Ny,decide_eq_true_iff,decide_eq_true_iff];lia
 have d:=dd 0;have g:=dd 1;by_cases q0:nx xs%3=0
 . refine ct (ja (n:=n) g1) λa e2 k2 g2=>?_;have b:=ya (n:=n) (O:=a) (f:=((nx xs.dropLast%12:Nat):Int)-5);have r:eF am (.c (dY (((nx xs.dropLast%12:Nat):Int)-5)))=some (((nx xs.dropLast%12:Nat):Int)-5):=congrArg some (FD (ao 0x2901ec0179d830) (ao 0x200bca901ee8f080111 (gf _ ag)));refine d9 (.c (dY (((nx xs.dropLast%12:Nat):Int)-5))) _ a ⟨?_,Ah _,k1.trans k2,g2,?_⟩
   . refine aa r <| aM 5501903765763 λF=>F e1 (uH _ _) (d.trans (decide_eq_true q0)) e2 (anf _ _) b
   . intro i hi;rw [r] at hi
     (injection hi with hi;subst hi);exact ⟨ao 0x2901e8a179d830,ao 0x50bca901ee0f080111 (gf _ ag)⟩
 . by_cases l:nx xs%3=1
   . refine d9 .i _ m ⟨?_,trivial,k1,g1,λi hi=>by have:=RI q hi;exact ⟨cJ 90902881353394193 this.1,cJ 0x285e4060dc80811 this.2⟩⟩;exact aM 12969115907 λF=>F e1 (uH _ _) (d.trans (decide_eq_false q0)) (g.trans (decide_eq_true l)) h
   . refine ct (ja (n:=n) g1) λa e2 k2 g2=>?_;have c:cW (.ref t.Wd) (.str [105]) a=some (gP (jb am)):=by
      have:=k2.get _ _ (by simp;exact bC e) (k1.get _ _ (by simp;exact bC e) R.wd);exact (Bb this).trans rfl
     have b:=ya (n:=n) (O:=a) (f:=((nx xs.dropLast%4:Nat):Int));have u:dY ((nx xs.dropLast%4:Nat):Int)=nx xs.dropLast%4:=by have:=IU ((nx xs.dropLast%4:Nat):Int);rw [Gx _ ag] at this;lia
     rw [u] at b;have p:nx xs.dropLast%4<4:=gf _ ag;refine d9 (.p (nx xs.dropLast%4)) _ a ⟨?_,p,k1.trans k2,g2,λi hi=>?_⟩
     . rw [show eF am (.p (nx xs.dropLast%4))=(jb am).map (· +((nx xs.dropLast%4:Nat):Int)) from rfl];generalize jb am=o at c⊢;induction o using aW with
       |none=>exact aM 0x605010405050103 λF=>F e1 (uH _ _) (d.trans (decide_eq_false q0)) (g.trans (decide_eq_false l)) e2 (wG _ _) c b
       |some i=>exact aM 0x60405010405050103 λF=>F e1 (uH _ _) (d.trans (decide_eq_false q0)) (g.trans (decide_eq_false l)) e2 (wG _ _) c c b
     . unfold eF at hi;refine aQ (gJ.mp hi) λj v w=>?_;subst w;have:=RI q v;exact ⟨dw 0x1c02142f3b06020e811 this.1,dw 0x142f20380583420045c80812 this.2 p⟩
def BU (f l:Int) (nw:Nat):Option Int->Int
 |none=>-1
 |some i=>if 0<=dU f l i/\dU f l i<nw then dU f l i else -1
set_option smartUnfolding false in
theorem ahZ (R:kP t gk am U O) (a:k<3):aj GG ai (n+3) 75 [.ref Z,.ref t.Wd,.str (bH k)] O=.ok (.aw [dR (bH k),.int 0,.bool true]) O:=by
 have hi:=R.item (ao 0x84028cc80111 a);have b:bH k≠[109]:=by exact Bs ag ag ag k a
 exact aM 1540 λF=>F hi (Ia b)
set_option smartUnfolding false in
theorem ahY (p:am.length=4) (R:kP t gk am U O) {f l:Int} (j:(gk 3).mem=some (f,l)) (o:O[Z]?=some (.lst (a9 xs))) (m:Z≠t.Wd) (r:Z≠t.wr 3):∃y b7 O',aj GG ai (n+3) 75 [.ref Z,.ref t.Wd,.str [109]] O=.ok (.aw [nq (dR [109]) y.bc,.int (BU f l (t.br 3).length (eF am y)),.bool y.iF]) O'/\y.ok/\aA [Z] O O'/\O'[Z]?=some (.lst (a9 b7)):=by
 refine ti (Jq (n:=n) p R o m) λy b7 O' e s k g _=>?_;have hi:=R.item (k:=3) (Lw 34810416);have hi:=hi;have d:(gk 3).fi=.int f:=by unfold Sg.fi;exact congrArg _ j
 have h:(gk 3).la=.int l:=by unfold Sg.la;exact aa j rfl
 unfold iY at hi;simp only [d,h] at hi;have wl:=k.get _ _ (by simp;exact bC r) (R.wl 3 (Lw 34810416));have ln:fQ 0 [.ref (t.wr 3)] O'=.ok (.int (t.br 3).length) O':=by rw [mj wl,cf]
 refine d9 y b7 O' ⟨?_,s,k,g⟩;generalize v:eF am y=u at e;induction u using aW with
 |none=>exact aM 2820 λF=>F hi e
 |some i=>
  unfold BU;dsimp only;by_cases c:f<=l
  . refine aa (show dU f l i=i-f from if_pos c) ?_;by_cases a:0<=i-f
    . by_cases b:i-f<((t.br 3).length:Nat)
      . refine aa (if_pos ⟨a,b⟩) <| aM 2207798594308 λF=>F hi e (decide_eq_true c) (decide_eq_true a) ln (decide_eq_true b)
      . refine aa (if_neg λq=>b q.2) <| aM 2207798594308 λF=>F hi e (decide_eq_true c) (decide_eq_true a) ln (decide_eq_false b)
    . refine aa (if_neg λq=>a q.1) <| aM 185404164 λF=>F hi e (decide_eq_true c) (decide_eq_false a)
  . refine aa (show dU f l i=f-i from if_neg c) ?_;by_cases a:0<=f-i
    . by_cases b:f-i<((t.br 3).length:Nat)
      . refine aa (if_pos ⟨a,b⟩) <| aM 2207798594308 λF=>F hi e (decide_eq_false c) (decide_eq_true a) ln (decide_eq_true b)
      . refine aa (if_neg λq=>b q.2) <| aM 2207798594308 λF=>F hi e (decide_eq_false c) (decide_eq_true a) ln (decide_eq_false b)
    . refine aa (if_neg λq=>a q.1) <| aM 185404164 λF=>F hi e (decide_eq_false c) (decide_eq_false a)
end
end
variable {ri:Nat} {sc fx:Bool} {idx:List (Option Int)} {sp:AV}
section
variable {a b:Int}
def gN (k:Nat):Option Ix->Option Se->b0
 |none,none=>.id (bH k) k
 |some y,none=>.word y
 |none,some s=>.bg (bH k) k s
 |some y,some s=>.rN y s
def fb (k:Nat):Option Ix->AV
 |none=>dR (bH k)
 |some y=>nq (dR [109]) y.bc
theorem EU (k:Nat) (wd:Option Ix):∀bg:Option Se,(gN k wd bg).bc=match bg with | none=>fb k wd | some s=>s.bc (fb k wd)
 |none=>by induction wd using aW<;>rfl
 |some s=>by induction wd using aW<;>rfl
theorem rB (k:Nat) (wd:Option Ix) (g:Sg):∀bg:Option Se,(gN k wd bg).wh g=match bg with | none=>.at 0 | some s=>s.wh g
 |none=>by induction wd using aW<;>rfl
 |some s=>by induction wd using aW<;>rfl
theorem Bx (k:Nat) (wd:Option Ix) (g:Sg):∀bg:Option Se,(gN k wd bg).eK g=match bg with | none=>(g.w:Int) | some s=>s.eK
 |none=>by induction wd using aW<;>rfl
 |some s=>by induction wd using aW<;>rfl
def de (g:Sg):Option Se->List Nat
 |none=>[]
 |some s=>(s.fE g).getD []
noncomputable def iO (lo:Option Int) (W j:Nat):Int:=match lo with
 |none=>-1
 |some l=>if 0<=l+j/\l+j<W then l+j else -1
noncomputable def tf (lo:Option Int) (W w:Nat):List Int:=(dQ w).map (iO lo W)
def kS (W:Nat) (msb lsb:Int):Option Int->Int
 |none=>-1
 |some i=>o6 W msb lsb i
theorem yC (h:O[r]?=some (.lst l)):sX (.ref r) O=some l:=by exact g8 h
set_option smartUnfolding false in
theorem ME {st:Bool} {bits:List AV} {bG nm:AV} {f:List Nat} (s:lk 146 loc=some (.bool sc)) (j:lk 204 loc=some (.ref ri)) (p:lk 188 loc=some (.ref rb)) (m:lk 148 loc=some (.int msb)) (k:lk 147 loc=some (.int lsb))
 (g:lk 203 loc=some bG) (c:lk 177 loc=some nm) (d:lk 191 loc=some sp) (q:lk 201 loc=some (.str f)) (e:lk 199 loc=some (.bool fx)) (r:lk 200 loc=some (.bool st)) (hi:O[ri]?=some (.lst (idx.map gP))) (hb:O[rb]?=some (.lst bits)) (u:bits.length=W) (x:idx.length<=SZ):
 aH GG (aj GG ai (n+1)) BO loc O=.ret (.aw [bG,nm,sp,.ref O.length,.str (if sc then [115,101,108,101,99,116,95,111,102,95,115,99,97,108,97,114] else f),.bool (fx&&st)]) (O++[.lst ((idx.map (kS W msb lsb)).map .int)]):=by
 have a:∀loc:aB,∀f:List Nat,lk 204 loc=some (.ref ri)->lk 188 loc=some (.ref rb)->lk 148 loc=some (.int msb)->lk 147 loc=some (.int lsb)->lk 203 loc=some bG->lk 177 loc=some nm->lk 191 loc=some sp->lk 201 loc=some (.str f)->lk 199 loc=some (.bool fx)->lk 200 loc=some (.bool st)->
  aH GG (aj GG ai (n+1)) (.seq (.mN 202 (.dD (.aP .Is (.v 135) .cn) (.neg (.ci 1)) (.call 72 (jx (.v 188) (.v 148) (.v 147) (.v 135)))) 135 (.v 204)) (.seq (.ret (.aw (xG (.v 203) (.v 177) (.v 191) (.v 202) (.v 201) (.bo .And (bf (.v 199) (.v 200)))))) .nil)) loc O=.ret (.aw [bG,nm,sp,.ref O.length,.str f,.bool (fx&&st)]) (O++[.lst ((idx.map (kS W msb lsb)).map .int)]):=by
  intro loc f j p m k g c d q e r;have b:=vI (f:=λv O=>bh GG (aj GG ai (n+1)) (.dD (.aP .Is (.v 135) .cn) (.neg (.ci 1)) (.call 72 (jx (.v 188) (.v 148) (.v 147) (.v 135)))) ((135,v)::loc) O) (h:=λv=>match v with | .int i=>.int (o6 W msb lsb i) | _=>.int (-1)) (l:=idx.map gP)
   (λaz=>yC (bI hi)) (λv w az=>by
    refine aQ (gQ.mp w) λo _ y=>?_;subst y;have ea:∀i,aj GG ai (n+1) 72 [.ref rb,.int msb,.int lsb,.int i] (O++[.lst az])=.ok (.int (o6 W msb lsb i)) (O++[.lst az]):=λi=>by rw [agX (bI hb),u]
    induction o using aW with
    |none=>exact kr 0 id
    |some i=>exact kr 33620229 λF=>F p m k (ea _)) (by simpa using x) ((idx.map gP).length+1) (ao 9665776176)
  have e2:(idx.map gP).map (λv=>match v with | .int i=>AV.int (o6 W msb lsb i) | _=>.int (-1))=(idx.map (kS W msb lsb)).map .int:=by rw [fO,fO];apply vf;intro o _;induction o using aW<;>rfl
  rw [e2] at b;have t:=l0 hi;have b:iX (.ref ri) O.length (λv O=>bh GG (aj GG ai (n+1)) (.dD (.aP .Is (.v 135) .cn) (.neg (.ci 1)) (.call 72 (jx (.v 188) (.v 148) (.v 147) (.v 135)))) ((135,v)::loc) O) (dG (.ref ri) O) 0 (O++[.lst []])=.ok (.ref O.length) (O++[.lst ((idx.map (kS W msb lsb)).map .int)]):=by rw [t];exact b
  induction fx using dy with
  |true=>induction st using dy<;>exact goS 0x30101010101030102 λF=>F j b (lq rfl g) (lq rfl c) (lq rfl d) lk_s (lq rfl q) (lq rfl e) (lq rfl r)
  |false=>exact goS 72340172838207746 λF=>F j b (lq rfl g) (lq rfl c) (lq rfl d) lk_s (lq rfl q) (lq rfl e)
 induction sc using dy with
 |true=>have:=a (up 201 (.str [115,101,108,101,99,116,95,111,102,95,115,99,97,108,97,114]) loc) [115,101,108,101,99,116,95,111,102,95,115,99,97,108,97,114] (lq rfl j) (lq rfl p) (lq rfl m) (lq rfl k) (lq rfl g) (lq rfl c) (lq rfl d) lk_s (lq rfl e) (lq rfl r);exact goS 1282 λF=>F s this
 |false=>have:=a loc f j p m k g c d q e r;exact goS 770 λF=>F s this
theorem YF (a c:Int):∀n,gH a c n=(dQ n).map λi:Nat=>AV.int (a+c*(i:Int))
 |n=>by
  apply NR;intro i;by_cases h:i<n
  . rw [Mv a c n i h,iR,List.getElem?_range h];rfl
  . rw [GD (by refine aa (gI ..) ?_;exact ak 283673363729 h),GD (by simp;exact ak 283673363729 h)]
theorem YD (c:a.natAbs<1000) (hb:b.natAbs<1000):fQ 4 [.int a,.int b] O=.ok (.cj a b 1) O:=by show (if fh a b 1 then aJ.ok (AV.cj a b 1) O else .aq)=_;rw [if_pos];unfold fh;simp;exact ⟨ao 0x30d40be4028cfa0fc80111 c,ao 0x30d40be4028cfa0fc80111 hb⟩
theorem apU (c:a.natAbs<1000) (hb:b.natAbs<1000):fQ 4 [.int a,.int b,.int (-1)] O=.ok (.cj a b (-1)) O:=by show (if fh a b (-1) then aJ.ok (AV.cj a b (-1)) O else .aq)=_;rw [if_pos];unfold fh;simp;exact ⟨ao 0x30d40be4028cfa0fc80111 c,ao 0x30d40be4028cfa0fc80111 hb⟩
theorem apZ (a b):ij a b (-1)=(a-b).toNat:=by
 unfold ij qk;refine aa (if_neg ag ..) (aa (show (-(-1:Int))=1 from rfl ..) (aa (Cp ..) ?_));split
 . exact congrArg _ (aa7 ..)
 . exact ZW (by lia)
theorem LM (c:a.natAbs<1000) (hb:b.natAbs<1000):fQ 5 [.cj a b 1] O=.ok (.ref O.length) (O++[.lst ((dQ (b-a).toNat).map λi:Nat=>AV.int (a+(i:Int)))]):=by show (if fh a b 1 then mu (gH a 1 (ij a b 1)) O else .aq)=_;refine aa (if_pos (by unfold fh;simp;exact ⟨ao 0x30d40be4028cfa0fc80111 c,ao 0x30d40be4028cfa0fc80111 hb⟩) ..) (aa (YG ..) (aa (YF ..) ?_));unfold mu ig;refine ((if_pos (by rw [cf,qm];exact ld ((Gy (n:=2000)).mpr (by have d:=EZ c;have e:=EZ hb;clear c hb;exact hJ 0xfa07e7880170620fa0fcfd227d07e780912 e.2 d.1))))).trans ?_;simp only [Int.one_mul]
theorem amU (c:a.natAbs<1000) (hb:b.natAbs<1000):fQ 5 [.cj a b (-1)] O=.ok (.ref O.length) (O++[.lst ((dQ (a-b).toNat).map λi:Nat=>AV.int (a-(i:Int)))]):=by show (if fh a b (-1) then mu (gH a (-1) (ij a b (-1))) O else .aq)=_;refine aa (if_pos (by unfold fh;simp;exact ⟨ao 0x30d40be4028cfa0fc80111 c,ao 0x30d40be4028cfa0fc80111 hb⟩) ..) (aa (apZ ..) (aa (YF ..) ?_));unfold mu ig;refine ((if_pos (by rw [cf,qm];exact ld ((Gy (n:=2000)).mpr (by have d:=EZ c;have e:=EZ hb;clear c hb;exact hJ 0xfa07e780117067d07e78891007d07e7e912 e.1 d.2))))).trans ?_;congr 5;funext i;congr 1;lia
end
variable {j:Nat} {t:Lr} {cp:Int}
section
variable {v i l:Int}
section
def gB (Z:Nat) (t:Lr) (gk:Nat->Sg) (k:Nat) (b:AV) (cp:Int) (fx:Bool) (a rb:Nat):aB:=[(184,.ref Z),(193,.ref t.Wd),(177,.str (bH k)),(116,.int k),(148,.int (gk k).msb),(147,.int (gk k).lsb),(146,.bool (gk k).sc),(103,(gk k).fi),(106,(gk k).la),(122,.ref (t.wr k)),(154,b),(191,.int cp),(199,.bool fx),(90,.int a),(188,.ref rb)]
theorem LZ (x) (b s) (am):(rC x b s).lo am=(eF am x).map λv=>(v-b)*s:=by induction x using Ix.casesOn<;>rfl
theorem Xm (x) (b s):(rC x b s).pT=!x.iF:=by induction x using Ix.casesOn<;>rfl
theorem adB (v) (g):ke [105,110,100,101,120] v g=g.lsb:=by unfold ke xD;rw [if_neg (λh=>nomatch h),if_neg (λh=>nomatch h)]
theorem zi (h:g.lsb<=g.msb):g.f7=1:=by unfold Sg.f7;exact (if_pos h)
theorem zh (h:¬g.lsb<=g.msb):g.f7= -1:=by unfold Sg.f7;exact (if_neg h)
theorem adD (h:g.lsb<=g.msb):ke [117,112] v g=g.lsb:=by unfold ke xD;exact aa (zi h) (aa (if_neg (λh=>nomatch h)) (aa (if_neg (λh=>nomatch h)) rfl))
theorem adC (h:¬g.lsb<=g.msb):ke [117,112] v g=g.lsb-v+1:=by unfold ke xD;exact aa (zh h) ((if_pos ag).trans rfl)
theorem adA (h:g.lsb<=g.msb):ke [100,111,119,110] v g=g.lsb+v-1:=by unfold ke xD;exact aa (zi h) (aa (if_neg (λh=>nomatch h)) (aa (if_pos ag) rfl))
theorem adz (h:¬g.lsb<=g.msb):ke [100,111,119,110] v g=g.lsb:=by unfold ke xD;exact aa (zh h) (aa (if_neg (λh=>nomatch h)) (aa (if_neg (λh=>nomatch h)) rfl))
theorem MO {w:Nat} {F:Nat->Option Int} {lo:Option Int} (h:∀j,j<w->kS W msb lsb (F j)=iO lo W j):((dQ w).map F).map (kS W msb lsb)=tf lo W w:=by unfold tf;refine fO.trans ?_;apply vf;intro j a;exact h j (GI.mp a)
theorem C1 (a:lsb<=msb) (h:i-lsb=l+j):kS W msb lsb (some i)=iO (some l) W j:=by unfold kS o6 iO;simp only [if_pos a,h]
theorem C0 (a:¬lsb<=msb) (h:lsb-i=l+j):kS W msb lsb (some i)=iO (some l) W j:=by unfold kS o6 iO;simp only [if_neg a,h]
variable {gk:Nat->Sg} {am:List Nat} {xs:List Nat}
def vA (t:Lr) (gk:Nat->Sg) (am:List Nat) (Z k:Nat) (wd:Option Ix) (cp:Int) (fx:Bool) (O:AH) (m:aJ AV):Prop:=
 ∃(bg:Option Se) (eV:List Int) (a:Bool) (rs:Nat) (b7:List Nat) (O':AH),
  m=.ok (.aw [(gN k wd bg).bc,.str (bH k),.int cp,.ref rs,.str (de (gk k) bg),.bool (fx&&a)]) O'/\aA [Z] O O'/\O'[Z]?=some (.lst (a9 b7))/\O'[rs]?=some (.lst (eV.map .int))/\O.length<=rs/\
  (∀s,bg=some s->s.ok/\s.eK<=10)/\(de (gk k) bg=[]->eV=tf (((gN k wd bg).wh (gk k)).lo am) (gk k).w ((gN k wd bg).eK (gk k)).toNat)/\(de (gk k) bg=[]->a=!((gN k wd bg).wh (gk k)).pT)
set_option smartUnfolding false in
theorem aqZ {wd:Option Ix} (e:O[Z]?=some (.lst (a9 xs))) (d:O[rb]?=some (.lst (a9 (U k 0)))) (m:(U k 0).length=(gk k).w) (g:(gk k).w<=60):
 vA t gk am Z k wd cp fx O (gj (aH GG (aj GG ai (n+3)) rJ (gB Z t gk k (fb k wd) cp fx 0 rb) O)):=by
 have e1:fQ 0 [.ref rb] O=.ok (.int (gk k).w) O:=by rw [mj d,yS,m]
 have e2:=ze (O:=O) (ao 0x30d40be4028cf0bc80011 g);have c:=LM (O:=O) (a:=0) (b:=((gk k).w:Nat)) ag (by lia);refine sT none (tf (some 0) (gk k).w (gk k).w) true O.length xs _ ⟨?_,aA.push _ _ _,bI e,cI _ _,bT _,(λs h=>by contradiction),λ_=>?_,λ_=>?_⟩
 . have f:((dQ (((gk k).w:Int)-0).toNat).map λi:Nat=>AV.int (0+(i:Int)))=(tf (some 0) (gk k).w (gk k).w).map .int:=by
    unfold tf;refine bK ?_ fO.symm;simp only [Int.sub_zero,rR];apply vf;intro j l;have:=GI.mp l;simp only [Gw,iO];exact aa (if_pos (⟨ao 7526692912,ak 0x2380e0568c400111 this⟩)) rfl
   rw [f] at c;rw [EU,aay];exact ye 65802 λF=>F e1 e2 c
 . rw [rB,Bx];rfl
 . rw [rB];rfl
set_option smartUnfolding false in
theorem aq0 (l:am.length=4) {wd:Option Ix} (R:kP t gk am U O) (e:Z≠t.Wd) (w:Z≠rb) (g:O[Z]?=some (.lst (a9 xs))) (f:O[rb]?=some (.lst (a9 (U k 0)))) (r:(U k 0).length=(gk k).w) (A:(gk k).w<=60):
 vA t gk am Z k wd cp fx O (gj (aH GG (aj GG ai (n+3)) rJ (gB Z t gk k (fb k wd) cp fx 1 rb) O)):=by
 refine ti (Jq (n:=n+1) l R g e) λx b7 c e1 u k1 g1 hb=>?_;have d:=k1.get _ _ (by simp;exact bC w) f;have b:=ME (n:=n+2) (loc:=[(184,.ref Z),(193,.ref t.Wd),(177,.str (bH k)),(116,.int k),(148,.int (gk k).msb),(147,.int (gk k).lsb),(146,.bool (gk k).sc),(103,(gk k).fi),(106,(gk k).la),(122,.ref (t.wr k)),(154,fb k wd),(191,.int cp),(199,.bool fx),(90,.int (1:Nat)),(188,.ref rb),(131,x.bc),(135,gP (eF am x)),(200,.bool x.iF),(204,.ref c.length),(203,nq (fb k wd) x.bc),(201,.str [])])
  (fx:=fx) (idx:=[eF am x]) rfl rfl rfl rfl rfl rfl rfl rfl rfl rfl rfl (cI _ _) (bI d) ((yS ..).trans (r ..)) (by simp [SZ])
 refine sT (some (.ix x)) _ x.iF _ b7 _ ⟨?_,k1.trans ((aA.push _ _ _).trans (aA.push _ (c++[aV.lst [gP (eF am x)]]) [aV.lst (([eF am x].map (kS (gk k).w (gk k).msb (gk k).lsb)).map .int)])),bI (bI g1),cI _ _,?_,(λs h=>by (injection h with h;subst h);exact ⟨u,by show (1:Int)<=10;decide⟩),λm=>?_,λm=>?_⟩
 . rw [EU];have y:de (gk k) (some (.ix x))=if (gk k).sc=true then [115,101,108,101,99,116,95,111,102,95,115,99,97,108,97,114] else []:=by
    unfold de;dsimp only;unfold Se.fE;by_cases q:(gk k).sc=true
    . rw [if_pos q,if_pos q];rfl
    . rw [if_neg q,if_neg q];rfl
   rw [y];generalize eF am x=o at e1 b⊢;induction o using aW with
   |none=>exact ye 4109 λF=>F e1 b
   |some i=>exact ye 4365 λF=>F e1 b
 . have:=k1.len;simp;exact ak 0x9108020c400011 this
 . rw [rB,Bx];dsimp only [Se.wh,Se.eK];rw [LZ,adB];have:=MO (W:=(gk k).w) (F:=λ_=>eF am x) (lo:=(eF am x).map λv=>(v-(gk k).lsb)*(gk k).f7) (λj p=>by
    generalize eF am x=z;induction z using aW with
    |none=>rfl
    |some i=>
     rw [rT];by_cases a:(gk k).lsb<=(gk k).msb
     . rw [zi a];exact C1 a (dz (jl 0xe2005188400b830) (jl 0x200501c400a3160c480111 p))
     . rw [zh a];exact C0 a (by lia))
   exact this
 . rw [rB];dsimp only [Se.wh];rw [Xm,NB]
end
end
section
variable {gk:Nat->Sg} {am:List Nat} {xs:List Nat}
set_option smartUnfolding false in
theorem aq1 (G:CW gk) (S:k<4) {wd:Option Ix} (B:Z≠rb) (E:O[Z]?=some (.lst (a9 xs))) (D:O[rb]?=some (.lst (a9 (U k 0)))) (M:(U k 0).length=(gk k).w) (R:(gk k).w<=60):
 vA t gk am Z k wd cp fx O (gj (aH GG (aj GG ai (n+3)) rJ (gB Z t gk k (fb k wd) cp fx 2 rb) O)):=by
 refine ct (ja (n:=n+2) E) λQ e1 k1 g1=>?_;refine ct (ja (n:=n+2) g1) λo e2 k2 g2=>?_;generalize v:((nx xs%10:Nat):Int)-4=L at*;generalize x:((nx xs.dropLast%10:Nat):Int)-4=c at*;have d:-4<=L/\L<=5:=v▸Xi _;have g:-4<=c/\c<=5:=x▸Xi _;have eL:Unit->((nx xs%10:Nat):Int)-4=L:=λ_=>v;have eR:Unit->((nx xs.dropLast%10:Nat):Int)-4=c:=λ_=>x;clear v x;have C:o[rb]?=some (.lst (a9 (U k 0))):=k2.get _ _ (by simp;exact bC B) (k1.get _ _ (by simp;exact bC B) D);have cl:=λO=>ya (n:=n+2) (f:=L) (O:=O);have cr:=λO=>ya (n:=n+2) (f:=c) (O:=O);have sl:=FD (f:=L) (by exact cJ 0x802f3b06010e811 d.1) (by exact cJ 0x1005e4068d480811 d.2);have z:=FD (f:=c) (by exact cJ 0x802f3b06010e811 g.1) (by exact cJ 0x1005e4068d480811 g.2);have H:(gk k).sc=true\/(gk k).sc=false:=by cases (gk k).sc<;>simp
 have fU:∀(idx:List Int) (f:List Nat) (A:idx.length<=SZ),
  de (gk k) (some (.kB (dY L) (dY c)))=(if (gk k).sc=true then [115,101,108,101,99,116,95,111,102,95,115,99,97,108,97,114] else f)->
  (f=[]->∃F:Nat->Int,idx=(dQ ((L-c).natAbs+1)).map F/\∀j,kS (gk k).w (gk k).msb (gk k).lsb (some (F j))=iO (some ((c-(gk k).lsb)*(gk k).f7)) (gk k).w j)->
  aH GG (aj GG ai (n+3)) rJ (gB Z t gk k (fb k wd) cp fx 2 rb) O=aH GG (aj GG ai (n+3)) BO (gB Z t gk k (fb k wd) cp fx 2 rb++[(156,.int L),(155,.int c),(200,.bool true),(201,.str f),(204,.ref o.length),(203,BF (fb k wd) (dY L) (dY c))]) (o++[.lst (idx.map .int)])->
  vA t gk am Z k wd cp fx O (gj (aH GG (aj GG ai (n+3)) rJ (gB Z t gk k (fb k wd) cp fx 2 rb) O)):=by
  intro idx f A m I J;refine aa J ?_;have N:=ME (n:=n+2) (O:=o++[.lst (idx.map .int)]) (loc:=gB Z t gk k (fb k wd) cp fx 2 rb++[(156,.int L),(155,.int c),(200,.bool true),(201,.str f),(204,.ref o.length),(203,BF (fb k wd) (dY L) (dY c))])
   (sc:=(gk k).sc) (fx:=fx) (st:=true) (ri:=o.length) (rb:=rb) (W:=(gk k).w) (idx:=idx.map some) rfl rfl rfl rfl rfl rfl rfl rfl rfl rfl rfl (by refine ((cI ..)).trans (aa (fO ..) ?_);rfl) (bI C) (by exact ((yS ..)).trans (M ..)) (by refine aa (cf ..) ?_;exact A)
  refine sT (some (.kB (dY L) (dY c))) _ true _ _ _ ⟨?_,k1.trans (k2.trans ((aA.push _ _ _).trans (aA.push _ (o++[aV.lst (idx.map .int)]) [aV.lst (((idx.map some).map (kS (gk k).w (gk k).msb (gk k).lsb)).map .int)]))),bI (bI g2),cI _ _,?_,(λs h=>by (injection h with h;subst h);exact ⟨⟨Ah _,Ah _⟩,by show ((sg 8 (dY L)-sg 8 (dY c)).natAbs:Int)+1<=10;refine aa sl (aa z ?_);exact Internal.lh (λe=>jl 0x288901d60c008a03d0a91102010e813 g.1 d.2 e) (λe=>jl 0x144480eb060045c03d08843a05480813 g.2 d.1 e)⟩),λh=>?_,λ_=>?_⟩
  . refine aa (EU ..) (aa (m ..) ?_);exact congrArg gj N
  . have:=k1.len;have:=k2.len;simp;lia
  . rw [m] at h;have y:f=[]:=by
     split at h
     . contradiction
     . exact h
    refine aQ (I y) λF P K=>?_;subst P;refine aa (rB ..) (aa (Bx ..) ?_);dsimp only [Se.wh,Se.eK,Wh.lo];refine aa sl (aa z ?_);have:=MO (W:=(gk k).w) (w:=(L-c).natAbs+1) (msb:=(gk k).msb) (lsb:=(gk k).lsb) (F:=λj=>some (F j)) (lo:=some ((c-(gk k).lsb)*(gk k).f7)) (λj _=>K j);simp only [show ((((L-c).natAbs:Nat):Int)+1).toNat=(L-c).natAbs+1 from rfl,<-this];simp only [fO];rfl
  . refine aa (rB ..) ?_;rfl
 have r:de (gk k) (some (.kB (dY L) (dY c)))=(if (gk k).sc=true then [115,101,108,101,99,116,95,111,102,95,115,99,97,108,97,114] else if (L-c)*(gk k).f7<0 then [98,97,100,95,114,97,110,103,101] else []):=by
  unfold de;dsimp only;unfold Se.fE;dsimp only;refine aa sl (aa z ?_);by_cases q:(gk k).sc=true
  . refine aa (if_pos q) (aa (if_pos q) ?_);rfl
  . refine aa (if_neg q) (aa (if_neg q) ?_);split<;>rfl
 by_cases l:(gk k).lsb<=(gk k).msb
 . rw [zi l,NM] at r;have p:=LM (O:=o) (a:=c) (b:=L+1) (tP (by exact cJ 0x1f41f9fb46010e811 g.1) (cJ 0x3e83f3c068d480811 g.2)) (tP (cJ 0x12011f41f9fb46010e811 d.1) (cJ 0xfa0fcf120168d480811 d.2));have u:=YD (O:=o) (a:=c) (b:=L+1) (tP (by exact cJ 0x1f41f9fb46010e811 g.1) (cJ 0x3e83f3c068d480811 g.2)) (tP (cJ 0x12011f41f9fb46010e811 d.1) (cJ 0xfa0fcf120168d480811 d.2));rw [show ((dQ (L+1-c).toNat).map λi:Nat=>AV.int (c+(i:Int)))=((dQ (L+1-c).toNat).map λi:Nat=>c+(i:Int)).map .int by refine bK ?_ fO.symm;rfl] at p;refine fU ((dQ (L+1-c).toNat).map λi:Nat=>c+(i:Int)) (if L-c<0 then [98,97,100,95,114,97,110,103,101] else []) (by refine aa (cf ..) (aa (qm ..) ?_);exact ld ((Gy).mpr (hJ 0x1478012215c1a91102010e812 g.1 d.2))) r (λh=>⟨λi=>c+(i:Int),?_,λj=>?_⟩) ?_
   . have:¬L-c<0:=by intro q;rw [if_pos q] at h;contradiction
     exact aa (show (L+1-c).toNat=(L-c).natAbs+1 from ZT (hJ 0x20050383022005d11 this) (dz (hJ 0x91002a102402b830) (hJ 0x8120151220055830))) rfl
   . refine aa (zi l) ?_;exact C1 l (dz (jl 0x1c400a310801c02b830) (jl 0x100380540710028c5830))
   . by_cases m:L-c<0
     . rw [if_pos m];exact goS 0x3020501040702010d010104010110 λF=>F e1 (mr _ _) (rI (eL ())) e2 (mr _ _) (rI (eR ())) (decide_eq_true l) (Xr _ _) (decide_eq_true m) (decide_eq_true l) u p (cl _) (cr _) rfl
     . rw [if_neg m];exact goS 0x3020501040702010d010104010110 λF=>F e1 (mr _ _) (rI (eL ())) e2 (mr _ _) (rI (eR ())) (decide_eq_true l) (Xr _ _) (decide_eq_false m) (decide_eq_true l) u p (cl _) (cr _) rfl
 . rw [zh l] at r;rw [show (L-c)* -1= -(L-c) by lia] at r;have p:=amU (O:=o) (a:=c) (b:=L-1) (tP (by exact cJ 0x1f41f9fb46010e811 g.1) (cJ 0x3e83f3c068d480811 g.2)) (tP (cJ 0x12029f41f9fb46010e811 d.1) (cJ 0xfa0fcf1202e8d480811 d.2));have u:=apU (O:=o) (a:=c) (b:=L-1) (tP (by exact cJ 0x1f41f9fb46010e811 g.1) (cJ 0x3e83f3c068d480811 g.2)) (tP (cJ 0x12029f41f9fb46010e811 d.1) (cJ 0xfa0fcf1202e8d480811 d.2));rw [show ((dQ (c-(L-1)).toNat).map λi:Nat=>AV.int (c-(i:Int)))=((dQ (c-(L-1)).toNat).map λi:Nat=>c-(i:Int)).map .int by rw [fO];rfl] at p;refine fU ((dQ (c-(L-1)).toNat).map λi:Nat=>c-(i:Int)) (if -(L-c)<0 then [98,97,100,95,114,97,110,103,101] else []) (by rw [cf,qm];exact ld ((Gy).mpr (hJ 0x1478911405c18843a05480812 g.2 d.1))) r (λh=>⟨λi=>c-(i:Int),?_,λj=>?_⟩) ?_
   . have:¬-(L-c)<0:=by intro q;rw [if_pos q] at h;contradiction
     rw [show (c-(L-1)).toNat=(L-c).natAbs+1 from tn2 (hJ 0x801701c1811002ed11 this) (dz (hJ 0x4801172122280b830) (hJ 0x480a22891002e5830))]
   . rw [zh l];exact C0 l (by lia)
   . by_cases m:-(L-c)<0
     . rw [if_pos m];exact goS 0x3020501040702010d010104010110 λF=>F e1 (mr _ _) (rI (eL ())) e2 (mr _ _) (rI (eR ())) (decide_eq_false l) (Xs _ _) (decide_eq_true m) (decide_eq_false l) u p (cl _) (cr _) rfl
     . rw [if_neg m];exact goS 0x3020501040702010d010104010110 λF=>F e1 (mr _ _) (rI (eL ())) e2 (mr _ _) (rI (eR ())) (decide_eq_false l) (Xs _ _) (decide_eq_false m) (decide_eq_false l) u p (cl _) (cr _) rfl
end
variable {κ:Nat}
section
variable {gk:Nat->Sg} {am:List Nat} {xs:List Nat}
theorem apQ {c:Type} (w) (f:Nat->c):((dQ w).map f).reverse=(dQ w).map λj=>f (w-1-j):=by
 apply vd
 . simp
 . intro i a b;simp at a b⊢
set_option smartUnfolding false in
theorem YX (h4:am.length=4) (G:CW gk) (hk:k<4) (w:κ=3\/κ=4) {wd:Option Ix} (R:kP t gk am U O) (bO:Z≠t.Wd) (oh:Z≠rb) (da:O[Z]?=some (.lst (a9 xs))) (cy:O[rb]?=some (.lst (a9 (U k 0)))) (hw:(U k 0).length=(gk k).w) (hW:(gk k).w<=60):
 vA t gk am Z k wd cp fx O (gj (aH GG (aj GG ai (n+3)) rJ (gB Z t gk k (fb k wd) cp fx κ rb) O)):=by
 refine ti (Jq (n:=n+1) h4 R da bO) λx b7 ay e1 hx k1 g1 hb=>ct (ja (n:=n+2) g1) λp e2 k2 g2=>?_;obtain ⟨c,E⟩:∃c:Nat,(c:Int)=((nx b7%5:Nat):Int)+(if (gk k).sc=true then 1 else 0):=⟨nx b7%5+(if (gk k).sc=true then 1 else 0),by split<;>lia⟩;have y:c<=5:=by (split at E;(rename_i q9;exact ak 0x290083522044488e807a12 E (gf _ ag));(rename_i q9;exact ak 0x290083522044088e807a12 E (gf _ ag)))
 have b1:p[rb]?=some (.lst (a9 (U k 0))):=k2.get _ _ (by simp;exact bC oh) (k1.get _ _ (by simp;exact bC oh) cy);have cw:=λO=>ya (n:=n+2) (f:=(c:Int)) (O:=O);have B:=FD (f:=(c:Int)) (by exact ao 257722800176) (ao 0x802f203e8d480011 y);let S:Se:=if κ=3 then .up x (dY c) else .down x (dY c)
 have hS:S=if κ=3 then .up x (dY c) else .down x (dY c):=rfl
 clear_value S
 have pG:de (gk k) (some S)=(if (gk k).sc=true then [115,101,108,101,99,116,95,111,102,95,115,99,97,108,97,114] else if (0:Int)<c then [] else [98,97,100,95,114,97,110,103,101]):=by
  unfold de;dsimp only;unfold Se.fE;by_cases q:(gk k).sc=true
  . refine aa (if_pos q) (aa (if_pos q) ?_);rfl
  . refine aa (if_neg q) (aa (if_neg q) ?_);have e:(1<=(c:Int))=((0:Int)<c):=by simp only [eq_iff_iff];lia
    rcases w with rfl | rfl
    . refine aa hS ?_;simp only [if_true,B,e];split<;>rfl
    . refine aa hS ?_;simp only [show ¬(4=3) by decide,if_false,B,e];split<;>rfl
 have P:S.bc (fb k wd)=FT (if κ=3 then [117,112] else [100,111,119,110]) (fb k wd) x.bc (dY c):=by
  rcases w with rfl | rfl
  . refine bA hS ?_;rfl
  . refine bA hS ?_;rfl
 have fU:∀(u:List (Option Int)) (loc:aB) (D:AH) (ri:Nat),u.length<=SZ->aA [] p D->D[ri]?=some (.lst (u.map gP))->
  lk 146 loc=some (.bool (gk k).sc)->lk 204 loc=some (.ref ri)->lk 188 loc=some (.ref rb)->lk 148 loc=some (.int (gk k).msb)->lk 147 loc=some (.int (gk k).lsb)->lk 203 loc=some (S.bc (fb k wd))->lk 177 loc=some (.str (bH k))->lk 191 loc=some (.int cp)->lk 201 loc=some (.str (if (0:Int)<c then [] else [98,97,100,95,114,97,110,103,101]))->lk 199 loc=some (.bool fx)->lk 200 loc=some (.bool x.iF)->
  (∃F:Nat->Option Int,u=(dQ c).map F/\∀j,j<c->kS (gk k).w (gk k).msb (gk k).lsb (F j)=iO ((S.wh (gk k)).lo am) (gk k).w j)->
  aH GG (aj GG ai (n+3)) rJ (gB Z t gk k (fb k wd) cp fx κ rb) O=aH GG (aj GG ai (n+3)) BO loc D->
  vA t gk am Z k wd cp fx O (gj (aH GG (aj GG ai (n+3)) rJ (gB Z t gk k (fb k wd) cp fx κ rb) O)):=by
  intro u loc D ri hz J Uo qZ wj og oa n9 wg jc wc pA we yi hF he;refine aa he ?_;have tl:=ME (n:=n+2) qZ wj og oa n9 wg jc wc pA we yi Uo (J.get _ _ bP b1) (show _=(gk k).w by exact (yS ..).trans (hw ..)) hz;have W:=J.any (R:=[Z]);refine sT (some S) _ x.iF _ _ _ ⟨?_,k1.trans (k2.trans (W.trans (aA.push _ D [aV.lst ((u.map (kS (gk k).w (gk k).msb (gk k).lsb)).map .int)]))),bI (J.get _ _ bP g2),cI _ _,?_,(λs h=>by (injection h with h;subst h);refine aa hS ?_;split<;>exact ⟨⟨hx,Ah _⟩,by show sg 8 (dY c)<=10;refine aa B ?_;exact ao 0xa203e0d480011 y⟩),λh=>?_,λ_=>?_⟩
  . refine aa (EU ..) (aa (pG ..) ?_);exact congrArg gj tl
  . have:=k1.len;have:=k2.len;have:=J.len;simp;lia
  . refine aQ hF λF vQ hj=>?_;clear hF;subst vQ;refine aa (rB ..) (aa (Bx ..) ?_);dsimp only;have fL:S.eK=(c:Int):=by
     refine bA hS ?_;split<;>exact B
    refine aa (fL ..) (aa (rR ..) ?_);exact MO hj
  . refine aa (rB ..) ?_;have:(S.wh (gk k)).pT=!x.iF:=by
     refine aa hS ?_;split<;>exact Xm _ _ _
    rw [this,NB]
 have A:(S.wh (gk k)).lo am=(eF am x).map λv=>(v-ke (if κ=3 then [117,112] else [100,111,119,110]) (c:Int) (gk k))*(gk k).f7:=by
  rcases w with rfl | rfl
  . refine aa hS ?_;simp only [if_true];show (rC _ _ _).lo am=_;rw [LZ,B]
  . refine aa hS ?_;simp only [show ¬(4=3) by decide,if_false];show (rC _ _ _).lo am=_;rw [LZ,B]
 have C:=E.symm;have L:∀loc:aB,lk 184 loc=some (.ref Z)->lk 146 loc=some (.bool (gk k).sc)->aH GG (aj GG ai (n+3)) (.aK 187 (.aN .Add (.aN .Mod (.call 68 (bw (.v 184))) (.ci 5)) (.dD (.v 146) (.ci 1) (.ci 0)))) loc ay=.next (up 187 (.int c) loc) p:=by
  intro loc a b;generalize q:(gk k).sc=z9 at b C;induction z9 using dy with
  |true=>rw [if_pos rfl] at C;exact goS 12918522113 λF=>F a e2 (Bw _ _) b (rI C)
  |false=>rw [if_neg ag] at C;exact goS 12918522113 λF=>F a e2 (Bw _ _) b (rI C)
 have M:∀loc:aB,lk 187 loc=some (.int c)->aH GG (aj GG ai (n+3)) (.aK 201 (.dD (.aP .Gt (.v 187) (.ci 0)) (.cs []) (.cs [98,97,100,95,114,97,110,103,101]))) loc p=.next (up 201 (.str (if (0:Int)<c then [] else [98,97,100,95,114,97,110,103,101])) loc) p:=by
  intro loc a;by_cases q:(0:Int)<c
  . refine aa (if_pos q) ?_;exact goS 514 λF=>F a (decide_eq_true q)
  . refine aa (if_neg q) ?_;exact goS 514 λF=>F a (decide_eq_false q)
 let g:AH:=p++[aV.lst [.str [117,112],.str [100,111,119,110]]];have K:g=p++[aV.lst [.str [117,112],.str [100,111,119,110]]]:=rfl
 clear_value g
 have k3:aA [] p g:=by refine aa K ?_;exact aA.push _ _ _
 have l3:g.length=p.length+1:=by refine bA K ?_;simp
 have N:∀loc:aB,lk 90 loc=some (.int κ)->lk 154 loc=some (fb k wd)->lk 131 loc=some x.bc->lk 187 loc=some (.int c)->aH GG (aj GG ai (n+3)) (.aK 203 (.aw (lQ (.sub (.lst (bf (.cs [117,112]) (.cs [100,111,119,110]))) (.aN .Sub (.v 90) (.ci 3))) (.ci 0) (.v 154) (.v 131) (.call 71 (bw (.v 187)))))) loc p=.next (up 203 (S.bc (fb k wd)) loc) g:=by
  intro loc a b d e;have fg:cW (.ref p.length) (.int ((κ:Int)-3)) g=some (.str (if κ=3 then [117,112] else [100,111,119,110])):=by
   refine bA K ?_;rcases w with rfl | rfl
   . exact jD (k:=0) (cI _ _) rfl
   . exact jD (k:=1) (cI _ _) rfl
  refine aa P <| goS 282578800214273 λF=>F (L8 K.symm) a fg b d e (cw _)
 have Q:¬(κ:Int)=0:=by rcases w with rfl | rfl<;>decide
 have T:¬(κ:Int)=1:=by rcases w with rfl | rfl<;>decide
 have V:¬(κ:Int)=2:=by rcases w with rfl | rfl<;>decide
 generalize I:eF am x=z9 at e1;induction z9 using aW with
 |none=>
  have g5:(g++[aV.lst [AV.none]])[g.length]?=some (.lst [AV.none]):=cI _ _;have Y:dg .Mult (.ref g.length) (.int c) (g++[aV.lst [AV.none]])=.ok (.ref (g.length+1)) (g++[aV.lst [AV.none]]++[.lst (gX c AV.none)]):=by refine aa (show g.length+1=(g++[aV.lst [AV.none]]).length by rw [eC];rfl) ?_;exact Xo g5 (ld y)
  refine fU (gX c none) (gB Z t gk k (fb k wd) cp fx κ rb++[(131,x.bc),(135,.none),(200,.bool x.iF),(187,.int c),(201,.str (if (0:Int)<c then [] else [98,97,100,95,114,97,110,103,101])),(203,S.bc (fb k wd)),(204,.ref (g.length+1))]) (g++[aV.lst [AV.none]]++[.lst (gX c AV.none)]) (g.length+1) (by rw [Cu];unfold SZ;exact ao 0x30d40be4020d480011 y) (k3.trans ((aA.push _ _ _).trans (aA.push _ _ _))) ?_ rfl rfl rfl rfl rfl rfl rfl rfl rfl rfl rfl ⟨λ_=>none,?_,λj _=>?_⟩ ?_
  . rw [List.map_replicate];have:=cI (g++[aV.lst [AV.none]]) (.lst (gX c AV.none));rwa [show (g++[aV.lst [AV.none]]).length=g.length+1 by simp] at this
  . apply vd
    . simp
    . intro i h1 h2;simp
  . rw [A,I];rfl
  . exact goS 0x40902020304040504 λF=>F (decide_eq_false Q) (decide_eq_false T) (decide_eq_false V) e1 (L _ rfl rfl) (M _ rfl) (N _ rfl rfl rfl rfl) Y rfl
 |some i=>
  have H:=hb i I;obtain ⟨lw,l⟩:∃lw:Int,lw=if κ=3 then i else i-c+1:=⟨_,rfl⟩
  have z:-30<=lw/\lw<=30:=by rw [l];(split;(rename_i q9;exact ⟨cJ 0x1e2f3b060050bce811 H.1,cJ 0x3c5e4060c50bc80811 H.2⟩);(rename_i q9;exact ⟨dw 0x120380a878bcec1a900020050bce812 H.1 y,dw 0x1e2f2240701560c50bc80811 H.2⟩))
  have X:=LM (O:=g) (b:=lw+c) (Internal.lh (λe=>dw 0xfa0fc80518001e8478bc80812 z.2 e) (λe=>dw 0x3e83f201460300f420078bce812 z.1 e)) (Internal.lh (λe=>dJ 0x7d07e4428c0700847a152000478bc80813 z.2 y e) (λe=>dJ 0x7d07e4028c4700b00f420078bce812 z.1 e));rw [show (lw+c-lw).toNat=c by exact bV (dJ 0x800830023805407a11 (f9 (dw 60151576624))) (dJ 0x8008311c000e015811 (lL _))] at X;have r2:=YD (O:=g) (b:=lw+c) (Internal.lh (λe=>dw 0xfa0fc80518001e8478bc80812 z.2 e) (λe=>dw 0x3e83f201460300f420078bce812 z.1 e)) (Internal.lh (λe=>dJ 0x7d07e4428c0700847a152000478bc80813 z.2 y e) (λe=>dJ 0x7d07e4028c4700b00f420078bce812 z.1 e));have g5:=cI g (.lst ((dQ c).map λi:Nat=>AV.int (lw+(i:Int))));have QW:∀loc:aB,lk 90 loc=some (.int κ)->lk 135 loc=some (.int i)->lk 187 loc=some (.int c)->aH GG (aj GG ai (n+3)) (.aK 190 (.dD (.aP .Eq (.v 90) (.ci 3)) (.v 135) (.aN .Add (.aN .Sub (.v 135) (.v 187)) (.ci 1)))) loc g=.next (up 190 (.int lw) loc) g:=by
   intro loc a b d;rcases w with rfl | rfl
   . rw [if_pos rfl] at l;rw [l];exact goS 770 λF=>F a b
   . rw [if_neg ag] at l;rw [l];exact goS 66306 λF=>F a b d
  by_cases m:(gk k).lsb<=(gk k).msb
  . refine fU ((dQ c).map λj:Nat=>some (lw+(j:Int))) (gB Z t gk k (fb k wd) cp fx κ rb++[(131,x.bc),(135,.int i),(200,.bool x.iF),(187,.int c),(201,.str (if (0:Int)<c then [] else [98,97,100,95,114,97,110,103,101])),(203,S.bc (fb k wd)),(190,.int lw),(204,.ref g.length)]) (g++[.lst ((dQ c).map λi:Nat=>AV.int (lw+(i:Int)))]) g.length (by rw [cf,qm];unfold SZ;exact ao 0x30d40be4020d480011 y) (k3.trans (aA.push _ _ _)) ?_ rfl rfl rfl rfl rfl rfl rfl rfl rfl rfl rfl ⟨λj=>some (lw+(j:Int)),rfl,λj _=>?_⟩ ?_
    . rw [g5,fO];rfl
    . rw [A,I,rT,zi m];rcases w with rfl | rfl
      . rw [if_pos rfl] at l⊢;rw [adD m];exact C1 m (dz (V8 0x720228c4400700ae0c400a11 l) (V8 0x800e01501c808a3160c400b11 l))
      . rw [if_neg ag] at l⊢;rw [adA m];exact C1 m (dz (V9 0x11c480e415114622023805706240711500a11 l) (V9 0x2023805447120390544518b06240711500b11 l))
    . exact goS 0x40601070602020304040504 λF=>F (decide_eq_false Q) (decide_eq_false T) (decide_eq_false V) e1 (L _ rfl rfl) (M _ rfl) (N _ rfl rfl rfl rfl) (QW _ rfl rfl rfl) r2 X (decide_eq_false (show ¬(gk k).msb<(gk k).lsb by exact hJ 294410782737 m)) rfl
  . refine fU ((dQ c).map λj:Nat=>some (lw+((c-1-j:Nat):Int))) (gB Z t gk k (fb k wd) cp fx κ rb++[(131,x.bc),(135,.int i),(200,.bool x.iF),(187,.int c),(201,.str (if (0:Int)<c then [] else [98,97,100,95,114,97,110,103,101])),(203,S.bc (fb k wd)),(190,.int lw),(204,.ref g.length)]) ((g++[aV.lst ((dQ c).map λi:Nat=>AV.int (lw+(i:Int)))]).set g.length (aV.lst ((dQ c).map λi:Nat=>AV.int (lw+(i:Int))).reverse)) g.length (by rw [cf,qm];unfold SZ;exact ao 0x30d40be4020d480011 y) ⟨λr o _ ho=>?_,?_⟩ ?_ rfl rfl rfl rfl rfl rfl rfl rfl rfl rfl rfl ⟨λj=>some (lw+((c-1-j:Nat):Int)),rfl,λj hj=>?_⟩ ?_
    . have:=bZ ho;rw [du (by exact aU 0x810c488440c4400112 this l3)];exact bI (k3.get _ _ bP ho)
    . simp;exact ak 0x24021083122100311 l3
    . rw [dX g5,apQ,fO];rfl
    . rw [A,I,rT,zh m];rcases w with rfl | rfl
      . rw [if_pos rfl] at l⊢;rw [adC m];exact C0 m (by lia)
      . rw [if_neg ag] at l⊢;rw [adz m];exact C0 m (by lia)
    . exact goS 0x501030601070602020304040504 λF=>F (decide_eq_false Q) (decide_eq_false T) (decide_eq_false V) e1 (L _ rfl rfl) (M _ rfl) (N _ rfl rfl rfl rfl) (QW _ rfl rfl rfl) r2 X (decide_eq_true (show (gk k).msb<(gk k).lsb by exact hJ 303000718353 m)) (Xc g5) (Qs g5) rfl
end
variable {Rl:List Nat}
section
variable {gk:Nat->Sg} {am:List Nat} {xs:List Nat}
structure CX (t:Lr) (Rl:List Nat):Prop where
 wd:t.Wd∉Rl
 wr:∀k,k<4->t.wr k∉Rl
 br:∀k,k<4->∀r∈t.br k,r∉Rl
theorem kP.keep (R:kP t gk am U O) (kk:aA Rl O O') (o:CX t Rl):kP t gk am U O':=
 ⟨kk.get _ _ o.wd R.wd,λk a=>kk.get _ _ (o.wr k a) (R.wl k a),λk a j r h=>⟨kk.get _ _ (o.br k a r (gW h)) (R.bt k a j r h).1,(R.bt k a j r h).2⟩,R.nb,R.nm⟩
theorem kP.first (R:kP t gk am U O) (a:k<4):∃rb,(t.br k)[0]?=some rb:=by
 have:0<(t.br k).length:=by
  by_cases h:k<3
  . refine aa (R.nb k h) ?_;decide
  . have:k=3:=bV (ao 0x64020d080111 a) (ao 867797828881 h);subst this;refine j6 R.nm λf l _ e=>aa e ?_;exact ao 9665784368
 exact ⟨_,dO this⟩
def MC (t:Lr) (gk:Nat->Sg) (am:List Nat) (k:Nat) (wd:Option Ix) (cp:Int):Prop:=
 (k<3->wd=none/\cp=0)/\(k=3->∃(y:Ix) (f l:Int),wd=some y/\y.ok/\(gk 3).mem=some (f,l)/\cp=BU f l (t.br 3).length (eF am y))
theorem aq2 (d:am.length=4) (R:kP t gk am U O) (a:O[Z]?=some (.lst (a9 xs))) (o:CX t [Z]) (b:k<4):∃wd cp fx b7 O',aj GG ai (n+3) 75 [.ref Z,.ref t.Wd,.str (bH k)] O=.ok (.aw [fb k wd,.int cp,.bool fx]) O'/\aA [Z] O O'/\O'[Z]?=some (.lst (a9 b7))/\MC t gk am k wd cp/\(k<3->fx=true):=by
 by_cases h:k<3
 . exact Ei none 0 true xs O ⟨ahZ R h,aA.refl _ _,a,⟨λ_=>⟨rfl,rfl⟩,λq=>by lia⟩,λ_=>rfl⟩
 . have:k=3:=bV (ao 0x64020d080111 b) (ao 867797828881 h);subst this;refine j6 R.nm λf l c j=>fv (ahY (n:=n) d R c a (λq=>o.wd (by simp [q])) (λq=>o.wr 3 b (by simp [q]))) λy b7 O' e i kk g=>Ei (some y) _ y.iF b7 O' ⟨e,kk,g,⟨λq=>by lia,λ_=>⟨y,f,l,rfl,i,c,rfl⟩⟩,λq=>by lia⟩
structure acT (t:Lr) (gk:Nat->Sg) (am:List Nat) (Z k:Nat) (wd:Option Ix) (bg:Option Se) (cp:Int) (eV:List Int) (mX:Bool) (rs:Nat) (O O':AH):Prop where
 kk:aA [Z] O O'
 row:∃b7:List Nat,O'[Z]?=some (.lst (a9 b7))
 sp:O'[rs]?=some (.lst (eV.map .int))
 fr:O.length<=rs
 base:MC t gk am k wd cp
 ok:∀s,bg=some s->s.ok/\s.eK<=10
 at':de (gk k) bg=[]->eV=tf (((gN k wd bg).wh (gk k)).lo am) (gk k).w ((gN k wd bg).eK (gk k)).toNat
 fx:k<3->de (gk k) bg=[]->mX=!((gN k wd bg).wh (gk k)).pT
theorem Rz (f:am.length=4) (G:CW gk) (R:kP t gk am U O) (d:∀k,k<4->(gk k).w<=60) (u:O[Z]?=some (.lst (a9 xs))) (o:CX t [Z]) (a:k<4):
 ∃wd bg cp eV mX rs O',aj GG ai (n+4) 76 [.ref Z,.ref t.Wd,.str (bH k)] O=.ok (.aw [(gN k wd bg).bc,.str (bH k),.int cp,.ref rs,.str (de (gk k) bg),.bool mX]) O'/\acT t gk am Z k wd bg cp eV mX rs O O':=by
 refine atu (aq2 (n:=n) f R u o a) λwd cp fx g A e1 k1 g1 hb p=>ct (ja (n:=n+2) g1) λj e2 k2 g2=>?_;have b:=(R.keep k1 o).keep k2 o;refine a8 (b.first a) λrb m=>?_;have c:=b.bt k a 0 rb m;have i:Z≠rb:=λq=>o.br k a rb (gW m) (by simp [q]);have l:Z≠t.Wd:=λq=>o.wd (by simp [q]);have w:nx g%5<5:=gf _ ag;have hi:=R.item a;have v:=jD (b.wl k a) (by rw [iR,m];rfl);have r:vA t gk am Z k wd cp fx j (gj (aH GG (aj GG ai (n+3)) rJ (gB Z t gk k (fb k wd) cp fx (nx g%5) rb) j)):=by generalize B:nx g%5=z at*;have w1:=c.2.1;exact lt5 (aqZ g2 c.1 w1 (d k a)) (aq0 f b l i g2 c.1 w1 (d k a)) (aq1 G a i g2 c.1 w1 (d k a)) (YX f G a (.inl rfl) b l i g2 c.1 w1 (d k a)) (YX f G a (.inr rfl) b l i g2 c.1 w1 (d k a)) z w
 generalize x:aH GG (aj GG ai (n+3)) rJ (gB Z t gk k (fb k wd) cp fx (nx g%5) rb) j=X at r;refine Nq r λbg eV s rs b7 O' e kk row sp fr ok at' pk=>UM wd bg cp eV (fx&&s) rs O' ⟨bK ?_ e,⟨k1.trans (k2.trans kk),⟨b7,row⟩,sp,by have:=k1.len;have:=k2.len;lia,hb,ok,at',λh y=>?_⟩⟩
 . exact aM 1116708603652 λF=>F hi e1 e2 (Bw _ _) v x
 . refine aa (p h ..) (aa (NC ..) ?_);exact pk y
end
variable {D:Nat}
section
variable {l:List (Nat×AV)}
theorem aq6 (O) (x y) (τ:AH):(O++x::τ).set O.length y=O++y::τ:=by refine (N1 _ _ (bT _) ..).trans (aa (oR ..) ?_);rfl
theorem eo {v:AV}:nE (.ref O.length) a v (O++.ba c l::τ)=if c≠bQ/\l.length<SZ then some (O++.ba c (up a v l)::τ) else none:=by refine (qD (JA ..)).trans <| aa (aq6 ..) rfl
theorem rF {x:aV}:ig o (O++x::τ)=.ok (.ref (O.length+(τ.length+1))) (O++x::(τ++[o])):=by unfold ig;refine aa (eC ..) (aa (jv ..) (aa (ju ..) ?_));rfl
theorem BN {a:Nat}:nE (.ref O.length) a (.ref (O++.ba c l::τ).length) ((O++.ba c l::τ)++[o])=if c≠bQ/\l.length<SZ then some (O++.ba c (up a (.ref (O.length+(τ.length+1))) l)::(τ++[o])) else none:=by simp only [ju,Cs,eo,eC,jv]
noncomputable def fD (b:Nat):List (Nat×AV):=[(112,.ref (b+1)),(176,.ref (b+2)),(175,.ref (b+3)),(174,.ref (b+4)),(173,.ref (b+5)),(172,.ref (b+6)),(171,.ref (b+7)),(170,.ref (b+8)),(169,.ref (b+9)),(168,.none),(167,.ref (b+10))]
set_option smartUnfolding false in
theorem anV:ny GG (aj GG ai (n+1)) 87 [] O=.ok (.ref O.length) (O++[.ba 87 (fD O.length),.lst [],.lst [],.lst [],.lst [],.lst [],.lst [],.lst [],.lst [],.lst [],.dI []]):=by
 have e:aj GG ai (n+1) 1011 [.ref O.length] (O++[.ba 87 []])=.ok .none (O++[.ba 87 (fD O.length),.lst [],.lst [],.lst [],.lst [],.lst [],.lst [],.lst [],.lst [],.lst [],.dI []]):=by exact aM 0x404020302030203020302030203020302030202 λF=>F rF eo rF eo rF eo rF eo rF eo rF eo rF eo rF eo rF eo eo BN
 show (aj GG ai (n+1) 1011 [.ref O.length] (O++[.ba 87 []])).bind _=_;refine aa e ?_;rfl
noncomputable def fS (b e:Nat) (num:AV):List (Nat×AV):=[(145,.ref b),(177,.str [116,111,112]),(178,.none),(90,.str [109,111,100,117,108,101]),(165,.str [116,111,112]),(182,.str [119,105,114,101]),(181,.none),(180,.ref e),(150,num)]
set_option smartUnfolding false in
theorem anW (b:O[D]?=some (.ba 87 (fD D))) (d:O[D+7]?=some (.lst [])):ny GG (aj GG ai (n+2)) 88 [.ref D,.str [116,111,112],.none,.str [109,111,100,117,108,101]] O=.ok (.ref O.length) ((O.set (D+7) (.lst [.str [116,111,112]]))++[.ba 88 (fS D (O.length+1) (.int 0)),.dI []]):=by
 have g:=bZ b;have jf:=bZ d;have e:aj GG ai (n+2) 1014 [.ref O.length,.ref D,.str [116,111,112],.none,.str [109,111,100,117,108,101]] (O++[.ba 88 []])=.ok .none ((O.set (D+7) (.lst [.str [116,111,112]]))++[.ba 88 (fS D (O.length+1) (.int 0)),.dI []]):=by
  have h:∀τ,gE GG (.ref D) 179 (O++τ)=some (.own 1013):=λτ=>(rz (bI b)).trans rfl;have ea:∀τ,aj GG ai (n+1) 1013 [.ref D,.str [116,111,112]] (O++τ)=.ok (.int 0) ((O.set (D+7) (.lst [.str [116,111,112]]))++τ):=by intro τ;have a1:dA (.ref D) 171 (O++τ)=some (.ref (D+7)):=o7 (bI b);have g1:(O++τ)[D+7]?=some (.lst []):=bI d;have a2:dA (.ref D) 171 ((O++τ).set (D+7) (.lst ([]++[.str [116,111,112]])))=some (.ref (D+7)):=o7 ((du (show D+7≠D by exact ao 478168112)).trans (bI b));refine iP ((List.set_append_left _ _ jf)).symm ?_;have ln:fQ 0 [.ref (D+7)] ((O++τ).set (D+7) (.lst ([]++[.str [116,111,112]])))=.ok (.int 1) _:=mj (dX g1);exact aM 4362207491 λF=>F a1 (m_append g1) (ck_append (l:=[]) g1 ag) a2 ln
  have f:∀l τ,dA (.ref O.length) 165 (O++.ba 88 l::τ)=lk 165 l:=λl τ=>o7 (JA O (.ba 88 l) τ);have sl:(O.set (D+7) (.lst [.str [116,111,112]])).length=O.length:=by simp
  have i:∀(l:List (Nat×AV)) (τ:AH) (a:Nat) (v:AV),nE (.ref O.length) a v ((O.set (D+7) (.lst [.str [116,111,112]]))++.ba 88 l::τ)=if 88≠bQ/\l.length<SZ then some ((O.set (D+7) (.lst [.str [116,111,112]]))++.ba 88 (up a v l)::τ) else none:=λl τ a v=>by have:=eo (O:=O.set (D+7) (.lst [.str [116,111,112]])) (c:=88) (l:=l) (τ:=τ) (a:=a) (v:=v);rwa [sl] at this
  have sd:∀{o:aV} {l:List (Nat×AV)} {τ:AH} {a:Nat},nE (.ref O.length) a (.ref ((O.set (D+7) (.lst [.str [116,111,112]]))++.ba 88 l::τ).length) (((O.set (D+7) (.lst [.str [116,111,112]]))++.ba 88 l::τ)++[o])=if 88≠bQ/\l.length<SZ then some ((O.set (D+7) (.lst [.str [116,111,112]]))++.ba 88 (up a (.ref (O.length+(τ.length+1))) l)::(τ++[o])) else none:=by intro o l τ a;have:=BN (O:=O.set (D+7) (.lst [.str [116,111,112]])) (o:=o) (c:=88) (l:=l) (τ:=τ) (a:=a);rwa [sl] at this
  have nw:∀{o x:aV} {τ:AH},ig o (O.set (D+7) (.lst [.str [116,111,112]])++x::τ)=.ok (.ref (O.length+(τ.length+1))) (O.set (D+7) (.lst [.str [116,111,112]])++x::(τ++[o])):=by intro o x τ;have:=rF (O:=O.set (D+7) (.lst [.str [116,111,112]])) (o:=o) (x:=x) (τ:=τ);rwa [sl] at this
  exact aM 0x20102090404040505050504 λF=>F eo eo eo eo eo eo eo BN (h _) (f _ _) (ea _) (i _ _ _ _)
 show (aj GG ai (n+2) 1014 [.ref O.length,.ref D,.str [116,111,112],.none,.str [109,111,100,117,108,101]] (O++[.ba 88 []])).bind _=_;refine aa e ?_;rfl
set_option smartUnfolding false in
theorem anZ:ny GG (aj GG ai (n+1)) 83 [x] O=.ok (.ref O.length) (O++[.ba 83 [(112,x),(115,.ref (O.length+1)),(114,.ref (O.length+2)),(113,.int 1)],.dI [],.dI []]):=by
 have e:aj GG ai (n+1) 1001 [.ref O.length,x] (O++[.ba 83 []])=.ok .none (O++[.ba 83 [(112,x),(115,.ref (O.length+1)),(114,.ref (O.length+2)),(113,.int 1)],.dI [],.dI []]):=by exact aM 67372036 λF=>F eo BN BN eo
 show (aj GG ai (n+1) 1001 [.ref O.length,x] (O++[.ba 83 []])).bind _=_;refine aa e ?_;rfl
set_option smartUnfolding false in
theorem anU {y:AV}:ny GG (aj GG ai (n+1)) 84 [x,y] O=.ok (.ref O.length) (O++[.ba 84 [(126,x),(127,y),(128,.int 0)]]):=by
 have e:aj GG ai (n+1) 1005 [.ref O.length,x,y] (O++[.ba 84 []])=.ok .none (O++[.ba 84 [(126,x),(127,y),(128,.int 0)]]):=by exact aM 328964 λF=>F eo eo eo
 show (aj GG ai (n+1) 1005 [.ref O.length,x,y] (O++[.ba 84 []])).bind _=_;refine aa e ?_;rfl
end
variable {num:AV} {sd net:Bool}
section
variable {l q:List (List Nat×AV)}
def gZ (O:AH) (r:Nat) (l:List (List Nat×AV)):Prop:=O[r]?=some (.dS l)\/(l=[]/\O[r]?=some (.dI []))
theorem gZ.set (h:gZ O r l) (a:l.length<SZ) (k) (v):oG (.ref r) (.str k) v O=some (O.set r (.dS (up k v l))):=by
 rcases h with h | ⟨rfl,h⟩
 . show wR r k v O=_;delta wR;refine aa h <| if_pos a
 . show wR r k v O=_;delta wR;refine aa h ?_;rfl
theorem gZ.in' (h:gZ O r l) (k):cG .In (.str k) (.ref r) O=some (lk k l).isSome:=by
 rcases h with h | ⟨rfl,h⟩
 . show nj O (.str k) r=_;delta nj;refine aa h ?_;rfl
 . show nj O (.str k) r=_;delta nj;refine aa h ?_;rfl
theorem gZ.keep (h:gZ O r l) (k:aA R O O') (n:r∉R):gZ O' r l:=by
 rcases h with h | ⟨e,h⟩
 . exact .inl (k.get _ _ n h)
 . exact .inr ⟨e,k.get _ _ n h⟩
theorem gZ.lt (h:gZ O r l):r<O.length:=by rcases h with h | ⟨e,h⟩<;>exact bZ h
set_option smartUnfolding false in
theorem anY {k w:Int} {p kind:AV}:ny GG (aj GG ai (n+1)) 86 [.int k,p,kind,.int w,.bool sd,.int msb,.int lsb] O=.ok (.ref O.length) (O++[.ba 86 [(116,.int k),(165,p),(90,kind),(118,.int w),(99,.bool sd),(148,.int msb),(147,.int lsb),(103,.none),(106,.none),(166,.none),(91,.int (-1)),(146,.bool false)]]):=by
 have e:aj GG ai (n+1) 1006 [.ref O.length,.int k,p,kind,.int w,.bool sd,.int msb,.int lsb] (O++[.ba 86 []])=.ok .none (O++[.ba 86 [(116,.int k),(165,p),(90,kind),(118,.int w),(99,.bool sd),(148,.int msb),(147,.int lsb),(103,.none),(106,.none),(166,.none),(91,.int (-1)),(146,.bool false)]]):=by exact aM 0x40404040405050505050504 λF=>F eo eo eo eo eo eo eo eo eo eo eo eo
 show (aj GG ai (n+1) 1006 [.ref O.length,.int k,p,kind,.int w,.bool sd,.int msb,.int lsb] (O++[.ba 86 []])).bind _=_;refine aa e ?_;rfl
noncomputable def td (w:Nat) (msb lsb:Int) (net sd:Bool) (p:List Nat):Sg:=⟨w,msb,lsb,net,false,sd,none,.str p⟩
theorem Q5 {rs:List Nat} (g:O[b]?=some (.ba 87 (fD b))) (e:O[b+1]?=some (.lst (rs.map .ref))) (hB:gZ O (b+10) q) (B:q.length<SZ) (G:rs.length<SZ) {w:Nat} {p:List Nat}:
 ∃O',aj GG ai (n+2) 1012 [.ref b,.str p,.str (if net then [119,105,114,101] else [114,101,103]),.int w,.bool sd,.int msb,.int lsb,.int (-1)] O=.ok (.ref O.length) O'/\aA [b+1,b+10] O O'/\O'[O.length]?=some (.ba 86 ((td w msb lsb net sd p).fields rs.length))/\O'[b+1]?=some (.lst ((rs++[O.length]).map .ref))/\gZ O' (b+10) (up p (.int rs.length) q)/\O'.length=O.length+1:=by
 have z:=bZ g;have A:=bZ e;have j:=hB.lt;let a:AH:=O++[.ba 86 ((td w msb lsb net sd p).fields rs.length)];have f:a=O++[.ba 86 ((td w msb lsb net sd p).fields rs.length)]:=rfl;have C:a.length=O.length+1:=by refine bA f ?_;simp
 clear_value a
 have e1:=anY (n:=n) (O:=O) (k:=(rs.length:Nat)) (w:=(w:Nat)) (msb:=msb) (lsb:=lsb) (p:=.str p) (kind:=.str (if net then [119,105,114,101] else [114,101,103])) (sd:=sd);have e1:ny GG (aj GG ai (n+1)) 86 [.int rs.length,.str p,.str (if net then [119,105,114,101] else [114,101,103]),.int w,.bool sd,.int msb,.int lsb] O=.ok (.ref O.length) a:=by refine e1.trans (iP f ?_);rfl
 have g1:a[O.length]?=some (.ba 86 ((td w msb lsb net sd p).fields rs.length)):=by refine aa f ?_;exact cI _ _
 have d:∀{r o},O[r]?=some o->a[r]?=some o:=λh=>by refine aa f ?_;exact bI h
 have a1:dA (.ref b) 112 O=some (.ref (b+1)):=o7 g;have ln:fQ 0 [.ref (b+1)] O=.ok (.int rs.length) O:=by rw [mj e,cf]
 have D:nE (.ref O.length) 91 (.int (-1)) a=some a:=by
  refine (qD g1).trans <| (if_pos ⟨ag,by simp [Sg.fields,SZ]⟩).trans ?_
  congr 1;refine aa (show (up 91 (.int (-1)) ((td w msb lsb net sd p).fields rs.length))=(td w msb lsb net sd p).fields rs.length from rfl) ?_;apply NR;intro i;by_cases hi:O.length=i
  . subst hi;rw [dX g1,g1]
  . exact (du hi)
 have a2:dA (.ref b) 112 a=some (.ref (b+1)):=o7 (d g);let c:AH:=a.set (b+1) (.lst (rs.map .ref++[.ref O.length]));have m:c=a.set (b+1) (.lst (rs.map .ref++[.ref O.length])):=rfl;have s:=ck_append (cl:=aj GG ai (n+1)) (v:=.ref O.length) (d e) (by refine aa (cf ..) ?_;exact G);rw [<-m] at s;have k2:aA [b+1] a c:=aA.set _ _ _;have g2:c[b+1]?=some (.lst (rs.map .ref++[.ref O.length])):=dX (d e);have u:c.length=O.length+1:=aa m (aa tx (aa C rfl))
 clear_value c
 have x:dA (.ref b) 167 c=some (.ref (b+10)):=o7 (k2.get _ _ (by simp) (d g));have y:dA (.ref O.length) 116 c=some (.int rs.length):=o7 (k2.get _ _ (m1 (ak 0x24021043114402111 j)) g1);have l:=(hB.keep (by refine aa f ?_;exact aA.push [] _ _) bP).keep k2 (λh=>nomatch h);have E:=l.set B p (.int rs.length);refine ⟨(c.set (b+10) (.dS (up p (.int rs.length) q))),?_,⟨λr o hr t=>?_,by refine aa tx ?_;exact ak 290482094605073 u⟩,?_,?_,.inl ?_,(tx.trans u)⟩
 . exact aM 0x2020402010405070103 λF=>F a1 ln e1 D a2 (m_append (d e)) s y x E
 . simp only [cF,bP,or_false,not_or] at hr;have:=bZ t;refine (du (bC hr.2)).trans <| k2.get _ _ (by simp;exact hr.1) (d t)
 . refine (du (by exact ak 0x22880463114402111 j)).trans ?_;exact k2.get _ _ (m1 (ak 0x24021043114402111 j)) g1
 . refine aa (du (ao 9898431628336)) (aa g2 (aa kJ ?_));rfl
 . rcases l with h | ⟨_,h⟩<;>exact dX h
theorem Jl (hS:O[b+11]?=some (.ba 88 (fS b (b+12) num))) (a:gZ O (b+12) q) (d:q.length<SZ) {nm:List Nat} (c:lk nm q=none):aj GG ai (n+1) 1015 [.ref (b+11),.str nm,v,.int (-1)] O=.ok .none (O.set (b+12) (.dS (up nm v q))):=by have a1:dA (.ref (b+11)) 180 O=some (.ref (b+12)):=o7 hS;have hi:=a.in' nm;rw [c] at hi;exact aM 33947908 λF=>F a1 hi a1 (a.set d nm v)
theorem aiq {xs:List Nat} {nm:List Nat} (u:O[Z]?=some (.lst (a9 xs))) (e:lk 184 loc=some (.ref Z)) (o:lk 177 loc=some (.str nm)):∃msb lsb sc b7 O' g,(-4<=msb/\msb<=5/\-4<=lsb/\lsb<=5)/\(sc=true->msb=0/\lsb=0)/\(nm≠[99]->sc=false)/\aA [Z] O O'/\O'[Z]?=some (.lst (a9 b7))/\
 lk 148 g=some (.int msb)/\lk 147 g=some (.int lsb)/\lk 146 g=some (.bool sc)/\(∀x,x≠148->x≠147->x≠146->lk x g=lk x loc)/\∀c,aH GG (aj GG ai (n+1)) (.seq F8 (.seq F9 (.seq Ga (.seq Gb c)))) loc O=aH GG (aj GG ai (n+1)) c g O':=by
 refine ct (ja (n:=n) u) λw e1 k1 g1=>ct (ja (n:=n) g1) λt e2 k2 g2=>?_;generalize i:((nx xs%10:Nat):Int)-4=L at*;generalize j:((nx xs.dropLast%10:Nat):Int)-4=f at*;have k:-4<=L/\L<=5:=⟨dw 76211000319400465 i,dw 0x52030744008804203db12 i (gf _ ag)⟩;have l:-4<=f/\f<=5:=⟨dw 76211000319400465 j,dw 0x52030744008804203db12 j (gf _ ag)⟩;by_cases r:nm=[99]
 . subst r;refine ct (ja (n:=n) g2) λp q k3 g3=>?_;generalize s:decide (((nx xs.dropLast.dropLast%4:Nat):Int)=3)=v;induction v using dy with
   |true=>have m:∀O,cG .Eq (.int ((nx xs.dropLast.dropLast%4:Nat):Int)) (.int 3) O=_:=λO=>congrArg some s;refine sT 0 0 true _ p (up 147 (.int 0) (up 148 (.int 0) (up 146 (.bool true) (up 147 (.int f) (up 148 (.int L) loc))))) ⟨ag,λ_=>⟨rfl,rfl⟩,λh=>absurd rfl h,k1.trans (k2.trans k3),g3,(lq rfl lk_s),(lk_s),(lr2 rfl lk_s),λx a b d=>by simp only [ml];simp [bC a,bC b,bC d],λc=>?_⟩;exact goS 0x60301010104030101010301010102 λF=>F e e1 (mr _ _) (rI i) (lq rfl e) e2 (mr _ _) (rI j) (lr2 rfl o) (lr2 rfl e) q (wG _ _) (m _) lk_s rfl
   |false=>have m:∀O,cG .Eq (.int ((nx xs.dropLast.dropLast%4:Nat):Int)) (.int 3) O=_:=λO=>congrArg some s;refine sT L f false _ p (up 146 (.bool false) (up 147 (.int f) (up 148 (.int L) loc))) ⟨⟨k.1,k.2,l.1,l.2⟩,(λh=>by contradiction),λh=>absurd rfl h,k1.trans (k2.trans k3),g3,(lr2 rfl lk_s),(lq rfl lk_s),(lk_s),λx a b d=>by simp only [ml];simp [bC a,bC b,bC d],λc=>?_⟩;exact goS 0x30301010104030101010301010102 λF=>F e e1 (mr _ _) (rI i) (lq rfl e) e2 (mr _ _) (rI j) (lr2 rfl o) (lr2 rfl e) q (wG _ _) (m _) lk_s rfl
 . refine sT L f false _ t (up 146 (.bool false) (up 147 (.int f) (up 148 (.int L) loc))) ⟨⟨k.1,k.2,l.1,l.2⟩,(λh=>by contradiction),λ_=>rfl,k1.trans k2,g2,(lr2 rfl lk_s),(lq rfl lk_s),(lk_s),λx a b d=>by simp only [ml];simp [bC a,bC b,bC d],λc=>?_⟩;have cn:∀O,cG .Eq (.str nm) (.str [99]) O=some false:=λO=>congrArg some (qT r);exact goS 0x30501030101010301010102 λF=>F e e1 (mr _ _) (rI i) (lq rfl e) e2 (mr _ _) (rI j) (lr2 rfl o) (cn _) lk_s rfl
end
variable {w':Wo} {mZ:Sg} {eB j2:Nat->List Nat}
structure Rc where
 r:Nat
 g:Sg
 wr:Nat
 br:List Nat
 U:List (List Nat)
noncomputable def Rc.refs (x:Rc):List Nat:=x.r::x.wr::x.br
structure mL (b k:Nat) (x:Rc) (O:AH):Prop where
 sg:O[x.r]?=some (.ba 86 (x.g.fields k))
 wl:O[x.wr]?=some (.lst (x.br.map .ref))
 ln:x.br.length=x.U.length
 bt:∀(j r:Nat),x.br[j]?=some r->∃u,x.U[j]?=some u/\O[r]?=some (.lst (a9 u))/\u.length=x.g.w/\∀y∈u,y<4
 hi:∀r∈x.refs,b+17<=r
 nd:x.refs.Nodup
theorem mL.lt {x:Rc} (h:mL b k x O):∀r∈x.refs,r<O.length:=by
 intro r hr;unfold Rc.refs at hr;simp only [cF] at hr;rcases hr with rfl | rfl | hr
 . exact bZ h.sg
 . exact bZ h.wl
 . obtain ⟨i,hi,e⟩:=ve hr;refine ct (h.bt i r (by rw [dO hi,e])) λu _ a _=>?_;exact bZ a
theorem mL.keep {x:Rc} (h:mL b k x O) (kk:aA R O O') (n:∀r∈x.refs,r∉R):mL b k x O':=by refine ⟨kk.get _ _ (n _ (by simp [Rc.refs])) h.sg,kk.get _ _ (n _ (by simp [Rc.refs])) h.wl,h.ln,λj r e=>?_,h.hi,h.nd⟩;refine ct (h.bt j r e) λu a c d=>⟨u,a,kk.get _ _ (n _ (by simp [Rc.refs,gW e])) c,d⟩
def jT (k:Nat) (x:Rc):AV:=.aw [.int k,.int x.g.msb,.int x.g.lsb,.bool x.g.sc,x.g.fi,x.g.la,.ref x.wr]
def wo (b:Nat) (l:List Rc):Wo:=⟨b,b+1,b+11,b+12,l.map Rc.r,l.map Rc.g,l.mapIdx λk _=>(bH k,cD k)⟩
def lH (l:List Rc):List (List Nat×AV):=l.mapIdx λk x=>(bH k,jT k x)
structure Bd (b Z:Nat) (l:List Rc) (g3:Sg) (mm:Option Nat) (c:Nat) (va wa:Nat->List Nat) (O:AH):Prop where
 row:∃xs,O[Z]?=some (.lst (a9 xs))
 rb:Z<b
 d:O[b]?=some (.ba 87 (fD b))
 sl:O[b+1]?=some (.lst ((l.map Rc.r).map .ref))
 bp:∃q,gZ O (b+10) q/\q.length<=l.length
 s:∃num,O[b+11]?=some (.ba 88 (fS b (b+12) num))
 en:gZ O (b+12) (wo b l).en
 wd:gZ O (b+16) (lH l)
 T:cO (wo b l) g3 (b+13) (b+14) (b+15) mm c va wa O
 rc:∀(k:Nat) (x:Rc),l[k]?=some x->mL b k x O
 vn:∀vs,O[b+14]?=some (.dI vs)->∀k:Nat,l.length<=k->lk (k:Int) vs=none
 lo:b+17<=O.length
 od:∀(k k':Nat) (x x':Rc),k<k'->l[k]?=some x->l[k']?=some x'->∀r∈x.refs,∀r'∈x'.refs,r<r'
section
variable {l:List Rc} {g3:Sg}
theorem qF {a:Type} {l:List a} {x y:a} {P:Prop} (h:(l++[x])[k]?=some y) (b:k<l.length->l[k]?=some y->P) (c:k=l.length->y=x->P):P:=by
 rcases Oa k l.length with q | q
 . simp only [iv q] at h;exact b q h
 . have e:=bV (by have:=(ez.mp h).1;rw [eC] at this;exact abC this) q;simp only [e,mB (bT _),oR] at h;exact c e (eM h).symm
theorem aag {x:Rc} (a:q∈(wo b (l++[x])).refs):q∈(wo b l).refs\/q=x.r:=by have a:q∈[b,b+1,b+11,b+12]++(l++[x]).map Rc.r:=a;rw [kJ,<-ju] at a;exact (eG.mp a).imp id xb.mp
theorem MH (sl:O[b+1]?=some (.lst ((l.map Rc.r).map .ref))) (rc:∀(k:Nat) (x:Rc),l[k]?=some x->mL b k x O) (lo:b+17<=O.length):kO (wo b l) O where
 sl:=sl
 sg k r g c a:=by
  have c:(l.map Rc.r)[k]?=some r:=c;have a:(l.map Rc.g)[k]?=some g:=a;rw [iR] at c a;refine aQ (gJ.mp c) λx d j=>?_;subst j;rw [d] at a
  (injection a with a;subst a)
  exact (rc k x d).sg
 ln:=by show (l.map Rc.r).length=(l.map Rc.g).length;simp
 lt r hr:=by
  have hr:r∈[b,b+1,b+11,b+12]++l.map Rc.r:=hr;rcases eG.mp hr with h | h
  . simp at h;lia
  . refine aQ (gQ.mp h) λx d f=>?_;subst f;obtain ⟨i,hi,e⟩:=ve d;exact (rc i x (by rw [dO hi,e])).lt _ (by simp [Rc.refs])
theorem Bd.sgs (B:Bd b Z l g3 mm c va wa O):kO (wo b l) O:=MH B.sl B.rc B.lo
theorem Ms {p o:List Nat} (h:p.length=o.length):dN 0 p o=p:=by
 apply vd
 . rw [oB,h]
 . intro i a b;have:∀a,(dN 0 p o)[i]'a=if (0:Int)<=i/\(i:Int)<0+p.length then p.getD ((i:Int)-0).toNat 0 else o[i]'(by rw [<-h];exact b):=by
    intro a;exact NW ..
   rw [this,if_pos ⟨by exact ao 7354416,by exact ak 0x2381403e8c400111 b⟩];simp [rS,b]
theorem cO.grow (T:cO w g3 St V M none c va wa O) (f:w'.gs=w.gs++[g]) (u:w'.L=w.L) (hr:∀r∈w'.refs,r∈w.refs\/(r≠V/\r≠M))
 (m:∀k,k<w.gs.length->eB k=va k) (l:g.mem=none->eB w.gs.length=fc g) (o:∀vs,O[V]?=some (.dI vs)->lk (w.gs.length:Int) vs=none) (n:∀p,j2 p=fc mZ) (i:mZ.net=false) (v:0<g.w/\g.w<=60):cO w' mZ St V M none c eB j2 O where
 ob:=by refine aa u ?_;exact T.ob
 vs:=by
  refine ct T.vs λvs j s t=>⟨vs,j,s,λk b a d=>?_⟩;rw [f] at a;refine qF a (λe a=>?_) λe1 e2=>?_
  . refine aa (m k e) ?_;exact t k b a d
  . subst e1;subst e2;exact .inr ⟨o vs j,by exact congrArg _ (l d)⟩
 ms:=⟨T.ms.1,λp=>congrArg _ (n p)⟩
 ln:=by
  refine ⟨λk b a d=>?_,λp=>by refine bA (n p) ?_;simp [fc]⟩;rw [f] at a;refine qF a (λe a=>?_) λe1 e2=>?_
  . refine bA (m k e) ?_;exact T.ln.1 k b a d
  . subst e1;subst e2;refine bA (l d) ?_;simp [fc]
 g3:=i
 sz:=by
  intro k b a;rw [f] at a;refine qF a (λe a=>?_) λe1 e2=>?_
  . exact T.sz k b a
  . subst e1;subst e2;exact v
 dj:=T.dj
 nr:=by
  refine ⟨λh=>?_,λh=>?_,λq x=>by contradiction⟩
  . rcases hr _ h with h | h
    . exact T.nr.1 h
    . exact h.1 rfl
  . rcases hr _ h with h | h
    . exact T.nr.2.1 h
    . exact h.2 rfl
def Lc (b Z:Nat) (loc:aB):Prop:=lk 184 loc=some (.ref Z)/\lk 145 loc=some (.ref b)/\lk 143 loc=some (.ref (b+11))/\lk 126 loc=some (.ref (b+13))/\lk 193 loc=some (.ref (b+16))
theorem ade (h:-4<=msb/\msb<=5/\-4<=lsb/\lsb<=5):∃w:Nat,(w:Int)=(msb-lsb).natAbs+1/\0<w/\w<=10:=⟨(msb-lsb).natAbs+1,by exact dz (ao 633817517979696) (ao 633516870555696),by exact ao 9665784368,by exact Internal.lh (λe=>jl 0x51120120c400a03d08843a05480813 h.2.1 h.2.2.1 e) (λe=>jl 0x2889009062005c03d0a91102010e813 h.1 h.2.2.2 e)⟩
theorem ara (h:O[r]?=some (.ba 86 (g.fields k))) (b):nE (.ref r) 146 (.bool b) O=some (O.set r (.ba 86 (({g with sc:=b}:Sg).fields k))):=by exact (qD h).trans (if_pos ⟨ag,by simp [Sg.fields,SZ]⟩)
end
theorem BZ {a b:Type} [DecidableEq a] {x:a} {v:b} {l:List (a×b)} (h:lk x l=none):up x v l=l++[(x,v)]:=by
 induction l with
 |nil=>rfl
 |cons p l c=>
  obtain ⟨y,u⟩:=p;replace h:=(eh x y u l).symm.trans h;by_cases q:y=x
  . rw [if_pos q] at h;contradiction
  . rw [if_neg q] at h;exact (tg x y u v l).trans ((if_neg q).trans (congrArg ((y,u)::·) (c h)))
theorem Mc:∀i,i<4->∀j,j<4->bH i=bH j->i=j:=by decide
theorem Wu {d g:Type} (f:Nat->g->d) (l:List g) (k) (h:l.length<=k) (b:k<4):lk (bH k) (l.mapIdx λi x=>(bH i,f i x))=none:=by
 have key:∀(q:List (List Nat×d)),(∀p∈q,p.1≠bH k)->lk (bH k) q=none:=by
  intro q;induction q with
  |nil=>intro _;rfl
  |cons a q j=>intro c;obtain ⟨y,u⟩:=a;simp only [eh];refine ((if_neg (c (y,u) cN))).trans <| j λp hp=>c p (cu _ hp)
 apply key;intro p hp;obtain ⟨i,hi,e⟩:=abt.mp hp;refine aa e.symm ?_;intro q;have:=Mc i (aU 0x84028c80801424044400113 hi b h) k b q;exact aU 0x41001200044400313 this hi h
section
variable {l:List Rc} {g3:Sg}
def qb (k:Nat):List Nat:=[116,111,112,46]++bH k
def lj (k:Nat):Bool:=decide (bH k=[98])
theorem anA (k):dg .Add (.str [116,111,112,46]) (.str (bH k)) O=.ok (.str (qb k)) O:=by
 have:(bH k).length=1:=by
  match k with
  |0=>rfl
  |1=>rfl
  |2=>rfl
  |_+3=>rfl
 refine (if_pos (by rw [this];decide)).trans ?_;rfl
theorem amA (h:lk 177 loc=some (.str (bH k))):bh GG (aj GG ai n) (.dD (.aP .Eq (.v 177) (.cs [98])) (.cs [119,105,114,101]) (.cs [114,101,103])) loc O=.ok (.str (if lj k then [119,105,114,101] else [114,101,103])) O:=by
 unfold lj;by_cases q:bH k=[98]
 . refine aa (decide_eq_true q) ?_;exact kr 514 λF=>F h (xY q)
 . refine aa (decide_eq_false q) ?_;exact kr 514 λF=>F h (qT q)
noncomputable def R6 (Z b:Nat):List Nat:=[Z,b+1,b+10,b+12,b+14,b+16]
theorem Xf (B:Bd b Z l g3 mm c va wa O) (v:l.length<4) (L:Lc b Z loc) (m:lk 177 loc=some (.str (bH l.length))):
 ∃(msb lsb:Int) (sc:Bool) (w:Nat) (b7:List Nat) (O':AH) (d:aB) (r:Nat),(-4<=msb/\msb<=5/\-4<=lsb/\lsb<=5)/\((w:Int)=(msb-lsb).natAbs+1/\0<w/\w<=10)/\(sc=true->msb=0/\lsb=0)/\(bH l.length≠[99]->sc=false)/\aA [Z,b+1,b+10] O O'/\O.length<=r/\r<O'.length/\O'[Z]?=some (.lst (a9 b7))/\
  O'[r]?=some (.ba 86 ((⟨w,msb,lsb,lj l.length,sc,false,none,.str (qb l.length)⟩:Sg).fields l.length))/\O'[b+1]?=some (.lst ((l.map Rc.r++[r]).map .ref))/\(∃q,gZ O' (b+10) q/\q.length<=l.length+1)/\
  Lc b Z d/\lk 177 d=some (.str (bH l.length))/\lk 148 d=some (.int msb)/\lk 147 d=some (.int lsb)/\lk 146 d=some (.bool sc)/\lk 117 d=some (.ref r)/\lk 103 d=some .none/\lk 106 d=some .none/\
  ∀a,aH GG (aj GG ai (n+4)) (.seq F8 (.seq F9 (.seq Ga (.seq Gb (.seq M6 (.seq M7 (.seq M8 a))))))) loc O=aH GG (aj GG ai (n+4)) a d O':=by
 refine a8 B.row λxs H=>Np (aiq (n:=n+3) H L.1 m) λmsb lsb sc P f N T=>aai T λhb J R k1 g1 t s G g e1=>a8 (ade hb) λw z=>?_;have e:=B.rb;refine aQ B.bp λu K E=>?_;have i:∀x,x≠Z->x∉[Z]:=λx h=>m1 h;refine Nk (Q5 (n:=n+2) (k1.get _ _ (i _ (ak 279378395409 e)) B.d) (k1.get _ _ (i _ (ak 318931592020241 e)) B.sl) (K.keep k1 (i _ (ak 0xa22110c400111 e))) (by unfold SZ;exact ak 0xc3502f900a3422044400012 E v) (by refine aa (cf ..) ?_;unfold SZ;exact ao 0x30d40be4028d080111 v) (w:=w) (msb:=msb) (lsb:=lsb) (net:=lj l.length) (sd:=false) (p:=qb l.length)) λM e2 k2 g2 I D C=>?_;rw [cf] at g2 D;have S:=ara g2 sc;have Q:=g;have lw:=k1.len;have k:=bZ g1;refine A4 msb lsb sc w P (M.set f.length (.ba 86 (({td w msb lsb (lj l.length) false (qb l.length) with sc:=sc}:Sg).fields l.length))) (up 106 .none (up 103 .none (up 117 (.ref f.length) N))) f.length ⟨hb,z,J,R,⟨λr o hr y=>?_,?_⟩,k1.len,(by refine aa tx ?_;exact ak 292681117860625 C),?_,dX g2,?_,⟨up (qb l.length) (.int (l.length:Nat)) u,?_,?_⟩,?_,?_,?_,?_,?_,?_,?_,?_,λa=>?_⟩
 . have:=bZ y;simp only [cF,bP,or_false,not_or] at hr;refine (du (by exact aU 0x2043202004400112 this lw)).trans <| k2.get _ _ (by simp;exact hr.2) (k1.get _ _ (by simpa using hr.1) y)
 . refine aa tx ?_;exact aU 0x40020c488440c4400012 lw C
 . refine (du (by exact ak 279378395409 k)).trans ?_;exact k2.get _ _ (m2 (ak 0x9108018c400111 e) (ak 0x51108018c400111 e)) g1
 . have:b+1<f.length:=by have:=B.lo;exact aU 0x10120128c8080110225e402012 this lw
   refine (du (by exact ak 0x24021043102402111 this)).trans ?_;exact I
 . exact D.keep (aA.set _ _ _) (by simp;have:=B.lo;exact aU 0x10a20118c8080110225e402012 this lw)
 . have:=FY (qb l.length) (.int (l.length:Nat)) u;exact aU 0x9208020c80801122100012 this E
 . refine uV L λa1 a2 U V W=>⟨?_,?_,?_,?_,?_⟩<;>simp only [ml]<;>simp<;>refine (g _ ag ag ag).trans ?_<;>assumption
 . simp only [ml];simp;refine (g _ ag ag ag).trans ?_;exact m
 . exact lr3 rfl t
 . exact lr3 rfl s
 . exact lr3 rfl G
 . exact lr2 rfl lk_s
 . exact lq rfl lk_s
 . exact lk_s
 . refine (e1 ..).trans ?_;have A:=(g _ ag ag ag).trans m;have j:=(g _ ag ag ag).trans L.2.1;have md:gE GG (.ref b) 196 f=some (.own 1012):=by
    have:=k1.get _ _ (i _ (show b≠Z by exact ak 279378395409 e)) B.d;exact (rz this).trans rfl
   exact goS 0x40101030101010301010101010102 λF=>F j md A (anA _) (amA A) t s (rI z.1.symm) t s e2 (lq rfl G) lk_s S rfl
end
variable {wr c':Nat} {cM:Option Nat} {wl:List (List Nat×AV)}
section
variable {l:List Rc} {g3:Sg}
theorem ah5 {nm:List Nat} {en:List (List Nat×AV)} (j:lk 143 loc=some (.ref (b+11))) (e:lk 177 loc=some (.str nm)) (f:lk 117 loc=some (.ref r)) (t:lk 193 loc=some (.ref (b+16))) (s:lk 148 loc=some (.int g.msb)) (q:lk 147 loc=some (.int g.lsb)) (u:lk 146 loc=some (.bool g.sc)) (w:lk 103 loc=some g.fi) (i:lk 106 loc=some g.la) (x:lk 122 loc=some (.ref wr))
 (hr:O[r]?=some (.ba 86 (g.fields k))) (hS:O[b+11]?=some (.ba 88 (fS b (b+12) num))) (m:gZ O (b+12) en) (o:gZ O (b+16) wl) (d:lk nm en=none) (p:lk nm wl=none) (y:en.length<SZ) (z:wl.length<SZ) (l:r≠b+12):
 aH GG (aj GG ai (n+1)) (.seq B7 (.seq B8 .nil)) loc O=.next loc ((O.set (b+12) (.dS (en++[(nm,cD k)]))).set (b+16) (.dS (wl++[(nm,.aw [.int k,.int g.msb,.int g.lsb,.bool g.sc,g.fi,g.la,.ref wr])]))):=by
 have m1:gE GG (.ref (b+11)) 195 O=some (.own 1015):=(rz hS).trans rfl;have ed:=Jl (n:=n) hS m y (v:=cD k) d;rw [BZ d] at ed;have a1:dA (.ref r) 116 O=some (.int k):=(fZ hr).trans rfl;have a2:dA (.ref r) 116 (O.set (b+12) (.dS (en++[(nm,cD k)])))=some (.int k):=by have:(O.set (b+12) (.dS (en++[(nm,cD k)])))[r]?=some (.ba 86 (g.fields k)):=(du (bC l)).trans hr;exact (fZ this).trans rfl
 have a:gZ (O.set (b+12) (.dS (en++[(nm,cD k)]))) (b+16) wl:=o.keep (aA.set _ _ _) (λh=>nomatch h);have c:=a.set z nm (.aw [.int k,.int g.msb,.int g.lsb,.bool g.sc,g.fi,g.la,.ref wr]);rw [BZ p] at c;unfold cD at ed a2 c⊢;unfold B7 B8;exact goS 0x101010101010101010103010101010102 λF=>F j m1 e f a1 ed f a2 s q u w i x t e c
theorem Bd.fU (B:Bd b Z l g3 mm c va wa O) (r:l.length<4) {x:Rc} (k:aA [Z,b+1,b+10,b+14,b+15] O τ)
 (row:∃xs,τ[Z]?=some (.lst (a9 xs))) (sl:τ[b+1]?=some (.lst (((l++[x]).map Rc.r).map .ref))) (bp:∃q,gZ τ (b+10) q/\q.length<=(l++[x]).length)
 (T:cO (wo b (l++[x])) mZ (b+13) (b+14) (b+15) cM c' eB j2 τ) (hm:∀q∈cM,b+17<=q) (u:mL b l.length x τ) (hx:∀q∈x.refs,O.length<=q)
 (vn:∀vs,τ[b+14]?=some (.dI vs)->∀k,l.length<k->lk (k:Int) vs=none):
 ∃O',aA [b+12,b+16] τ O'/\Bd b Z (l++[x]) mZ cM c' eB j2 O'/\∀loc,Lc b Z loc->lk 177 loc=some (.str (bH l.length))->lk 117 loc=some (.ref x.r)->lk 148 loc=some (.int x.g.msb)->lk 147 loc=some (.int x.g.lsb)->lk 146 loc=some (.bool x.g.sc)->lk 103 loc=some x.g.fi->lk 106 loc=some x.g.la->lk 122 loc=some (.ref x.wr)->
  aH GG (aj GG ai (n+1)) (.seq B7 (.seq B8 .nil)) loc τ=.next loc O':=by
 have o:=B.rb;have z:=B.lo;have ln:=k.len;have t:∀q,b+11<=q->q≠b+14->q≠b+15->q∉[Z,b+1,b+10,b+14,b+15]:=λq h w p=>by simp;exact ⟨aU 0x40410c01011116402012 h o,⟨ak 0x24021043116402011 h,⟨ak 0x144021043116402011 h,⟨(kL p).elim (λe=>(kL w).elim (λf=>ak 0x1c4420063e22100111 f) (λf=>iu (ak 0x1c44211f1f22100112 e f))) (λe=>ak 0x1c402104311e3e402111 e),(kL p).elim (λe=>ak 0x1e3e4420063f1f22100111 e) (λe=>ak 0x1e3e402104311e3e402111 e)⟩⟩⟩⟩
 refine a8 B.s λnum hS=>?_;have hS:=k.get _ _ (t _ (ao 97859428960304) (ao 0x7100ac804630) (ao 0x78f900ac804630)) hS;have R:=B.en.keep k (t _ (ao 0x6100ac804830) (ao 0x7100b0804630) (ao 0x78f900b0804630));have S:=B.wd.keep k (t _ (ao 0x817900ac804830) (ao 0x7100840bc804430) (ao 0x78f900840bc804430));have Y:=Wu (λk _=>cD k) l l.length (bT _) r;have W:=Wu (λk x=>jT k x) l l.length (bT _) r;have z1:(wo b l).en.length<SZ:=by refine aa GH ?_;unfold SZ;exact ao 0x30d40be4028d080111 r
 have z2:(lH l).length<SZ:=by refine aa GH ?_;unfold SZ;exact ao 0x30d40be4028d080111 r
 have X:x.r≠b+12:=by have:=u.hi x.r cN;exact ak 0x18402104310225e402011 this
 have fU:=λloc (L:Lc b Z loc) D H F E I J v K=>ah5 (n:=n) (wr:=x.wr) L.2.2.1 D H L.2.2.2.2 F E I J v K u.sg hS R S Y W z1 z2 X;have kk:aA [b+12,b+16] τ ((τ.set (b+12) (.dS ((wo b l).en++[(bH l.length,cD l.length)]))).set (b+16) (.dS (lH l++[(bH l.length,jT l.length x)]))):=((aA.set _ _ _).mono (eZ [0])).trans ((aA.set _ _ _).mono (eZ [1]));have M:((τ.set (b+12) (.dS ((wo b l).en++[(bH l.length,cD l.length)]))).set (b+16) (.dS (lH l++[(bH l.length,jT l.length x)])))[b+12]?=some (.dS ((wo b l).en++[(bH l.length,cD l.length)])):=by refine (du (by exact ao 0x6100840bc804430)).trans ?_;rcases R with h | ⟨_,h⟩<;>exact dX h
 have N:((τ.set (b+12) (.dS ((wo b l).en++[(bH l.length,cD l.length)]))).set (b+16) (.dS (lH l++[(bH l.length,jT l.length x)])))[b+16]?=some (.dS (lH l++[(bH l.length,jT l.length x)])):=by have:gZ (τ.set (b+12) (.dS ((wo b l).en++[(bH l.length,cD l.length)]))) (b+16) (lH l):=S.keep (aA.set _ _ _) (λh=>nomatch h);rcases this with h | ⟨_,h⟩<;>exact dX h
 generalize C:(τ.set (b+12) (.dS ((wo b l).en++[(bH l.length,cD l.length)]))).set (b+16) (.dS (lH l++[(bH l.length,jT l.length x)]))=O' at kk M N;have i:∀q,q≠b+12->q≠b+16->q∉[b+12,b+16]:=λq a d=>m2 a d;have l2:=kk.len;have hi:∀q,b+17<=q->q∉[b+12,b+16]:=λq h=>m2 (ak 0x18402104310225e402011 h) (ak 0x205e402104310225e402011 h);refine ⟨O',kk,⟨a8 row λxs h=>⟨xs,kk.get _ _ (i _ (ak 0x61108018c400111 o) (ak 0x8179108018c400111 o)) h⟩,o,kk.get _ _ (i _ (ao 104155055664) (ao 35589174855216)) (k.get _ _ (by simp;exact ak 279378395409 o) B.d),kk.get _ _ (i _ (ao 0x610084804630) (ao 0x81790084804630)) sl,aQ bp λq w p=>⟨q,w.keep kk (i _ (ao 0x6100a8804630) (ao 0x817900a8804630)),p⟩,⟨num,kk.get _ _ (i _ (ao 0x6100ac804630) (ao 0x817900ac804630)) hS⟩,.inl (M.trans ?_),.inl (N.trans ?_),T.keep kk (λq g=>?_),λk' y A=>?_,λvs h k' hk=>?_,by exact cz 0x2044bc9848320225e4c201004004400013 l2 ln z,λk' k2 y y' G A P q g U V=>?_⟩,λloc L D H F E I J v K=>C▸fU loc L D H F E I J v K⟩
 . show some (aV.dS _)=some (aV.dS ((l++[x]).mapIdx λk _=>(bH k,cD k)));refine aa abq ?_;rfl
 . show some (aV.dS _)=some (aV.dS ((l++[x]).mapIdx λk x=>(bH k,jT k x)));refine aa abq ?_;rfl
 . rcases (eG (s:=[b+13,b+14,b+15])).mp g with h | h
   . simp at h;exact i q (h.elim (λe=>ak 0x184420043d22100311 e) (λe=>e.elim (λf=>ak 0x184420043e22100311 f) (λf=>ak 0x184420043f1f22100311 f))) (h.elim (λe=>ak 0x205e4420063d22100211 e) (λe=>e.elim (λf=>ak 0x205e4420063e22100211 f) (λf=>ak 0x205e4420063f1f22100211 f)))
   . exact hi q (hm q (Option.mem_toList.mp h))
 . refine qF A (λ_ h=>?_) λe1 e2=>?_
   . exact ((B.rc k' y h).keep k λq g=>by have:=(B.rc k' y h).hi q g;exact t q (ak 0x22c8048310225e402011 this) (ak 0x1c402104310225e402011 this) (ak 0x1e3e402104310225e402011 this)).keep kk λq g=>hi q ((B.rc k' y h).hi q g)
   . subst e1;subst e2;exact u.keep kk λq g=>hi q (u.hi q g)
 . refine vn vs ?_ k' (by rwa [eC] at hk);refine aQ T.vs λvs' Q _=>?_;have:=kk.get _ _ (i _ (by exact ao 0x6100b8804430) (by exact ao 0x817900b8804630)) Q;rw [h] at this;rw [Q,this]
 . refine qF A (λa1 a2=>qF P (λj m=>B.od k' k2 y y' G a2 m q g U V) λj m=>?_) λa1 a2=>qF P (λj m=>iu (aU 0x10111040c4400113 j a1 G)) λj m=>iu (aU 0x10111040c4400213 j a1 G);subst m;exact tD ((B.rc k' y a2).lt q g) (hx U V)
theorem M1 (B:Bd b Z l g3 none c va wa O) (K:l.length<3) (m7:c+1<SZ) (Ee:∀p,wa p=fc g3) (L:Lc b Z loc) (oi:lk 177 loc=some (.str (bH l.length))):
 ∃x eB O' au,aH GG (aj GG ai (n+4)) Ca loc O=.next au O'/\Bd b Z (l++[x]) g3 none (c+1) eB wa O'/\Lc b Z au/\aA (R6 Z b) O O'/\
  (-4<=x.g.msb/\x.g.msb<=5/\-4<=x.g.lsb/\x.g.lsb<=5)/\((x.g.w:Int)=(x.g.msb-x.g.lsb).natAbs+1/\0<x.g.w/\x.g.w<=10)/\(x.g.sc=true->x.g.msb=0/\x.g.lsb=0)/\(l.length≠2->x.g.sc=false)/\x.g.net=lj l.length/\x.g.sd=false/\x.g.mem=none/\x.br.length=1/\x.U=[eB l.length]/\∀k,k<l.length->eB k=va k:=by
 refine Ck (Xf (n:=n) B (by exact ao 0x84028cc80111 K) L oi) λmsb lsb sc w ir ay t r z9=>aak z9 λhb Q Eb pO k1 C P g1 gr gl gb v uM wM wL zc rG Yv Yw e1=>?_;clear z9;refine aQ gb λq0 gb Jx=>?_;have I:=B.rb;have s:=B.lo;have iI:=k1.len;refine w7 (Ao (n:=n+2) g1 (wide:=w) (by exact ao 0x785e4020e880011 Q.2.2)) λrb bits tj f e2 k2 g2 l6 bl b4 N=>?_;have pW:=k2.len;let g:Sg:=⟨w,msb,lsb,lj l.length,sc,false,none,.str (qb l.length)⟩;have hg:g=⟨w,msb,lsb,lj l.length,sc,false,none,.str (qb l.length)⟩:=rfl;rw [<-hg] at gr;let e:AH:=f++[.lst [.ref rb]];have U:e=f++[.lst [.ref rb]]:=rfl;have uE:e.length=f.length+1:=by refine bA U ?_;simp
 have k3:aA [] f e:=by refine aa U ?_;exact aA.push _ _ _
 have W:e[f.length]?=some (.lst [.ref rb]):=by refine aa U ?_;exact cI _ _
 clear_value e
 have V:rb<f.length:=bZ l6;have kx:r≠Z:=by exact cz 0x1030433020040101110225e402013 s I C
 have AA:e[r]?=some (.ba 86 (g.fields l.length)):=k3.get _ _ bP (k2.get _ _ (by simpa using kx) gr);have RX:e[rb]?=some (.lst (a9 bits)):=k3.get _ _ bP l6;have G:aA [Z,b+1,b+10] O e:=k1.trans ((k2.mono (by exact eZ [0])).trans k3.any);let x:Rc:=⟨r,g,f.length,[rb],[bits]⟩;have hx:x=⟨r,g,f.length,[rb],[bits]⟩:=rfl;have S:∀q,b+11<=q->q∉[Z,b+1,b+10]:=λq h=>by exact m3 (aU 0x40410c01011116402012 h I) (ak 0x24021043116402011 h) (ak 0x144021043116402011 h)
 have T3:=B.T.keep G (by
  intro q i;simp at i;exact S q (i.elim (λA=>ak 0x2c88483d22100311 A) (λA=>A.elim (λz=>ak 0x2c88483e22100311 z) (λz=>ak 0x2c88483f1f22100311 z))))
 have A1:(wo b (l++[x])).gs=(wo b l).gs++[g]:=by show (l++[x]).map Rc.g=_;refine (kJ).trans ?_;rfl
 have M:(wo b l).gs.length=l.length:=by show (l.map Rc.g).length=_;simp
 have uf:g.mem=none:=rfl;have H:0<g.w/\g.w<=60:=⟨Q.2.1,by have:=Q.2.2;show w<=60;exact ao 0x785e4020e880011 this⟩;have TG:cO (wo b (l++[x])) g3 (b+13) (b+14) (b+15) none c (dH va l.length (fc g)) wa e:=by
  refine T3.grow A1 rfl (λq i=>?_) (λk h=>?_) (λ_=>?_) (λvs h=>?_) Ee T3.g3 H
  . exact (aag i).imp id λh=>by have h:q=r:=h;exact ⟨cz 0x1c4820043106004c0897920804400313 h s C,cz 0x1e3e4820043106004c0897920804400313 h s C⟩
  . rw [M] at h;unfold dH;exact (if_neg (ak 35191020060945 h))
  . refine bA M ?_;unfold dH;exact (if_pos rfl)
  . refine aa M ?_;have hv:O[b+14]?=some (.dI vs):=by
     refine aQ B.T.vs λvs' J _=>?_;have:=G.get _ _ (S _ (by exact ao 0x7100ac804830)) J;rw [this] at h;(injection h with h;injection h with h;subst h);exact J
    exact B.vn vs hv l.length (bT _)
 have uP:=λk y R=>(B.rc k y R).keep G λq i=>S q (by have:=(B.rc k y R).hi q i;exact ak 0x22c8048310225e402011 this);have uv:∀q∈x.refs,O.length<=q:=by intro q i;have i:q∈[r,f.length,rb]:=i;simp at i;exact i.elim (λA=>aU 0x1000831040c4400012 C A) (λA=>A.elim (λz=>Ey 0xa1020c4283130800481811004004400115 V N P C z) (λz=>kZ 0x2030831080c481801004044400014 N P C z))
 have Nv:x.refs.Nodup:=by show [r,f.length,rb].Nodup;have:r<ay.length:=P;simp;exact ⟨⟨cz 0x60018c80801304044400113 this V N,aU 0x100063202004400112 this N⟩,ak 279378395409 V⟩
 have YK:mL b l.length x e:=⟨AA,W,rfl,λj q h=>by
  match j with
  |0=>(injection h with h;subst h);exact ⟨bits,rfl,RX,bl,b4⟩
  |j+1=>simp [x] at h,λq i=>by have:=uv q i;exact aU 0x8112f24120c00897920804400012 this s,Nv⟩
 have Y2:e[b+1]?=some (.lst (((l++[x]).map Rc.r).map .ref)):=by refine aa kJ <| k3.get _ _ bP (k2.get _ _ (by exact m1 (ak 318931592020241 I)) gl)
 have S3:=MH Y2 (λk y R=>qF R (λ_ h=>uP k y h) λe1 e2=>by subst e1;subst e2;exact YK) (by exact Wb 0x4044bca048360a004c301150225e50201006004488440c4400116 V uE N s P C);have Kv:(wo b (l++[x])).gs[l.length]?=some g:=by rw [A1,mB (by refine aa M ?_;exact bT _),M,oR];rfl
 have pP:(dH va l.length (fc g) l.length).length=w:=by unfold dH;refine bA (if_pos rfl) ?_;simp [fc,hg]
 refine fJ (Jr (n:=n) S3 TG Kv uf (ak 0x800a3102402111 m7) (lo:=0) (by refine aa bl ?_;exact ao 0x70280e8c001111 H.1) (by show (0:Int)<w;exact ao 30848803934481 H.1) (by refine aa bl ?_;exact ao 45298487569 H.1)) λbo Y e4 T4 D v4=>?_;rw [Ms (by rw [bl,pP])] at T4;have LK:=D.len;have T:∀q,q≠b+14->q∉[b+14]:=λq h=>m1 h;let u:aB:=up 191 (.int 0) (up 122 (.ref f.length) t);have o:∀y,y≠191->y≠122->lk y u=lk y t:=λy a d=>by show lk y (up 191 _ (up 122 _ t))=_;simp only [ml];simp [bC a,bC d]
 have Es:aA [Z,b+1,b+10,b+14,b+15] O Y:=(G.mono (eZ [0,1,2])).trans (D.mono (eZ [3]));refine ct (B.fU (n:=n+3) (ao 0x84028cc80111 K) Es ⟨tj,D.get _ _ (T _ (ak 0x71108018c400111 I)) (k3.get _ _ bP g2)⟩ (D.get _ _ (T _ (ao 0x710084804630)) Y2) ⟨q0,((gb.keep k2 (m1 (ak 0xa22110c400111 I))).keep k3 bP).keep D (T _ (ao 0x7100a8804630)),by refine aa eC ?_;exact Jx⟩ T4 (λq i=>by contradiction) (YK.keep D λq i=>by have:=uv q i;exact T q (aU 0x71208410c00897920804400012 this s)) uv (λvs h k D1=>?_)) λO5 k5 B5 fU=>?_
 . refine aQ TG.vs λX E _=>aQ (v4 X E) λvs4 h1 h2=>?_;rw [h1] at h;(injection h with h;injection h with h;subst h);refine (h2 _ (by exact ak 0xe23d0c400111 D1)).trans ?_;have hv:O[b+14]?=some (.dI X):=by
    refine aQ B.T.vs λvs' J _=>?_;have:=G.get _ _ (S _ (by exact ao 0x7100ac804830)) J;rw [this] at E;(injection E with E;injection E with E;subst E);exact J
   exact B.vn X hv k (by exact ak 35193167544593 D1)
 have LL:Lc b Z u:=⟨(o _ ag ag).trans v.1,(o _ ag ag).trans v.2.1,(o _ ag ag).trans v.2.2.1,(o _ ag ag).trans v.2.2.2.1,(o _ ag ag).trans v.2.2.2.2⟩;refine sS x _ O5 u ⟨?_,B5,LL,(G.mono (by simp [R6])).trans ((D.mono (by simp [R6])).trans (k5.mono (by simp [R6]))),hb,Q,Eb,λh=>pO (λq=>h (by have:=Mc l.length (ao 0x84028cc80111 K) 2 ag q;exact this)),rfl,rfl,rfl,rfl,?_,λk iD=>?_⟩
 . unfold Ca;refine (e1 ..).trans ?_;have zU:dA (.ref r) 118 ay=some (.int w):=(fZ gr).trans rfl;have b8:aH GG (aj GG ai (n+4)) zl t ay=.next (up 122 (.ref f.length) t) e:=by
    unfold zl;exact goS 4311810305 λF=>F v.1 rG zU e2 (L8 U.symm)
   have BC:=λq=>by have:=Mc l.length (ao 0x84028cc80111 K) 3 ag q;exact ao 54976735347474 this K
   have b9:aH GG (aj GG ai (n+4)) Gd (up 122 (.ref f.length) t) e=.next (up 122 (.ref f.length) t) e:=by exact goS 513 λF=>F (lq rfl uM) (qT BC)
   have H6:aH GG (aj GG ai (n+4)) M5 (up 122 (.ref f.length) t) e=.next u Y:=by
    have ln:fQ 0 [.ref f.length] e=.ok (.int 1) e:=by refine (mj W).trans ?_;rfl
    have fu:dG (.cj 0 1 1) e=2:=sI ag;have zT:dA (.ref r) 116 e=some (.int l.length):=(fZ AA).trans rfl;have i0:cW (.ref f.length) (.int 0) e=some (.ref rb):=jD W rfl;have em:=Aq (n:=n+3) RX (by refine aa bl ?_;exact ao 0x785e4020cf0bc80011 H.2) b4;have ms:=TG.meth (m:=141) rfl rfl;have amF:=(o _ ag ag).trans rG;have amG:=(o _ ag ag).trans v.2.2.2.1;have Lz:=(o _ ag ag).trans uM;have Ly:lk 122 u=some (.ref f.length):=by exact lq rfl lk_s
    have LA:lk 191 u=some (.int 0):=by exact lk_s
    have lp:d8 (.cj 0 1 1) (gL 191) (aH GG (aj GG ai (n+4)) yM) 2 0 (up 122 (.ref f.length) t) e=.next u Y:=by refine (qV (by rfl) (by rfl) ?_).trans (sG (by rfl));exact goS 0x101010101020201010102 λF=>F amG ms amF zT Lz (qT BC) Ly LA i0 em e4
    exact goS 131329 λF=>F lk_s ln (jU fu lp)
   exact goS 16908801 λF=>F b8 b9 H6 (fU u LL ((o _ ag ag).trans uM) ((o _ ag ag).trans rG) ((o _ ag ag).trans wM) ((o _ ag ag).trans wL) ((o _ ag ag).trans zc) ((o _ ag ag).trans Yv) ((o _ ag ag).trans Yw) (lq rfl lk_s))
 . show [bits]=[dH (dH va l.length (fc g)) l.length bits l.length];unfold dH;exact aa (if_pos rfl) rfl
 . unfold dH;exact (if_neg (by exact ak 35191020060945 iD)).trans (if_neg (ak 35191020060945 iD))
end
variable {ll:Int} {nw:Nat}
section
variable {l:List Rc} {g3:Sg}
theorem am8 {xs:List Nat} {w:Nat} (H:O[Z]?=some (.lst (a9 xs))) (hr:O[r]?=some (.ba 86 (g.fields k))) (S:g.w=w) (P:w<=60) (Q:r≠Z) (yh:lk 184 loc=some (.ref Z)) (qY:lk 117 loc=some (.ref r)) (M:nw<=100):
 ∃(br:List Nat) (U:List (List Nat)) (b7:List Nat) (O':AH),iX (.cj 0 nw 1) O.length (λv O=>bh GG (aj GG ai (n+2)) wF ((186,v)::loc) O) (nw+1) 0 (O++[.lst []])=.ok (.ref O.length) O'/\aA [Z] O O'/\O'[Z]?=some (.lst (a9 b7))/\O'[O.length]?=some (.lst (br.map .ref))/\br.length=nw/\U.length=nw/\
  (∀(j q:Nat),br[j]?=some q->∃u,U[j]?=some u/\O'[q]?=some (.lst (a9 u))/\u.length=w/\∀y∈u,y<4)/\(∀q∈br,O.length<q/\q<O'.length)/\br.Nodup:=by
 have x:=bZ H;have T:=bZ hr;refine fJ (Iu (f:=λv O=>bh GG (aj GG ai (n+2)) wF ((186,v)::loc) O)
  (λi az O'=>aA [Z,O.length] (O++[.lst []]) O'/\(∃b7:List Nat,O'[Z]?=some (.lst (a9 b7)))/\∃(br:List Nat) (U:List (List Nat)),az=br.map AV.ref/\O'[O.length]?=some (.lst az)/\br.length=i/\U.length=i/\(∀(j q:Nat),br[j]?=some q->∃u,U[j]?=some u/\O'[q]?=some (.lst (a9 u))/\u.length=w/\∀y∈u,y<4)/\(∀q∈br,O.length<q/\q<O'.length)/\br.Nodup)
  (λi az O' _=>uS (ao 0x30d40be4028d90bc80011 M)) (λi v az O' R I=>by
   refine fH I λkk p s=>?_;clear I;refine a8 p λb7 row=>Nl s λbr U t D c d B m C=>?_;clear p s;have hi:i<nw:=by have:=(ez.mp R).1;rwa [gI] at this
   have sR:O'[r]?=some (.ba 86 (g.fields k)):=kk.get _ _ (m2 ((kL Q).elim (λb=>ak 35191020060945 b) (λb=>ak 279378395409 b)) (ak 35191020060945 T)) (bI hr);refine w7 (Ao (n:=n) row P) λrb bits tj G e2 k2 g2 L bl b4 A=>?_;have E:=kk.len;simp at E;have l2:=k2.len;have K:G[O.length]?=some (.lst az):=k2.get _ _ (m1 (ak 279378395409 x)) D;have N:=bZ L;refine ⟨.ref rb,G,?_,K,by rw [t,cf,c];unfold SZ;exact ak 0xc3502f900a3642f22004400112 hi M,(kk.trans (k2.mono (eZ [0]))).trans ((aA.set _ _ _).mono (eZ [1])),⟨tj,(du (ak 279378395409 x)).trans g2⟩,br++[rb],U++[bits],by rw [t,kJ];rfl,dX K,by simp [c],by simp [d],λj q a=>?_,λq l=>?_,?_⟩
   . unfold wF;have zU:dA (.ref r) 118 O'=some (.int w):=(fZ sR).trans (by rw [<-S];rfl);exact kr 16843009 λF=>F yh qY zU e2
   . by_cases z:j<br.length
     . rw [iv z] at a;refine ct (B j q a) λu W X Y=>?_;have:=m q (gW a);refine ⟨u,(by rw [iv (by exact cz 0x40028cc08213040c4400113 z d c)];exact W),?_,Y⟩;rw [du (by exact ak 35191020060945 this.1)];exact k2.get _ _ (m1 (aU 0x101043004044400112 this.1 x)) X
     . have:j=br.length:=by have:=(ez.mp a).1;simp at this;exact bV (ak 0x80083122100111 this) (ak 283673363729 z)
       subst this;rw [mB (bT _),oR] at a
       (injection a with a;subst a)
       exact ⟨bits,(by rw [c,<-d,mB (bT _),oR];rfl),(by rw [du (by exact aU 0x40018c80801102402012 E A)];exact L),bl,b4⟩
   . rw [tx];rcases eG.mp l with h | h
     . have:=m q h;exact ⟨ak 35195315028241 this.1,cz 0x60028c80801304044400113 this.2 N A⟩
     . have:q=rb:=by simpa using h
       exact ⟨cz 0x20a3106004c0920804400313 this E A,aU 0x1000a3202044400212 this N⟩
   . refine List.nodup_append.mpr ⟨C,by simp,λq l V yn=>?_⟩;have:=m q l;have:V=rb:=by simpa using yn
     lia) nw 0 (nw+1) [] (O++[.lst []]) (by rw [gI];exact bV (ao 84016) (ao 10487856)) (ao 9665776176) ⟨aA.refl _ _,⟨xs,bI H⟩,[],[],rfl,cI _ _,rfl,rfl,by simp,by exact λ_ h=>absurd h bP,by exact GJ⟩) λaz O' e kk p s=>?_
 refine a8 p λb7 row=>Nl s λbr U t D c d B m C=>?_;clear p s;rw [gI] at c d;refine sS br U b7 O' ⟨e,⟨λq o l J=>kk.get q o (by have:=bZ J;simp at l⊢;exact ⟨(kL l).elim (λb=>ak 35191020060945 b) (λb=>ak 279378395409 b),ak 35191020060945 this⟩) (bI J),by have:=kk.len;simp at this;exact ak 0x80083102402011 this⟩,row,(by rw [D,t]),c,d,B,m,C⟩
def qf (g:Sg) (U:List (List Nat)) (i p:Nat):List Nat:=if p<i then U.getD p [] else fc g
theorem am9 {br:List Nat} {U:List (List Nat)} (H:kO w O) (T:cO w g St V M none c va (λ_=>fc g) O) (R:w.gs[3]?=some g) (hm:g.mem=some (f,ll)) (jB:br.length=(ll-f).natAbs+1) (hU:U.length=br.length) (hb:br.length<=100) (hz:c+br.length<SZ)
 (hr:O[r]?=some (.ba 86 (g.fields 3))) (Z:O[wr]?=some (.lst (br.map .ref))) (pD:∀(j q:Nat),br[j]?=some q->∃u,U[j]?=some u/\O[q]?=some (.lst (a9 u))/\u.length=g.w/\∀y∈u,y<4) (hd:∀q,(q=r\/q=wr\/q∈br\/q∈w.refs)->q≠M)
 (Y:lk 126 loc=some (.ref St)) (qY:lk 117 loc=some (.ref r)) (jc:lk 177 loc=some (.str [109])) (wb:lk 122 loc=some (.ref wr)) (C:∀q∈w.refs,q<O.length):
 ∃(s:Option Nat) (O':AH) (d:aB),d8 (.cj 0 br.length 1) (gL 191) (aH GG (aj GG ai (n+4)) yM) (br.length+1) 0 loc O=.next d O'/\cO w g St V M s (c+br.length) va (qf g U br.length) O'/\aA [M] O O'/\(∀q∈s,O.length<=q)/\∀x,x≠191->lk x d=lk x loc:=by
 have B:=T.sz 3 g R;refine fJ (pq (it:=.cj 0 br.length 1) (asn:=gL 191) (b:=aH GG (aj GG ai (n+4)) yM) (l:=gH 0 1 br.length)
  (λi d O'=>(∃s,cO w g St V M s (c+i) va (qf g U i) O'/\∀q∈s,O.length<=q)/\aA [M] O O'/\∀x,x≠191->lk x d=lk x loc)
  (λi d O' _=>uS (by exact ao 0x30d40be4028d90bc80011 hb)) (λi v d O' hv hP=>by
   obtain ⟨⟨yN,P,Q⟩,kk,t⟩:=hP;refine bB (wO hv) λbj hi=>?_;subst bj;have len:=kk.len;have hM:M<O.length:=T.lt M (cu _ (cu _ cN));have z:∀q,(q=r\/q=wr\/q∈br\/q∈w.refs)->q∉[M]:=λq h=>by simpa using hd q h
   have X:kO w O':=⟨kk.get _ _ (z _ (by simp [Wo.refs])) H.sl,λk q g' a b=>kk.get _ _ (z _ (.inr (.inr (.inr (j8 _ (gW a)))))) (H.sg k q g' a b),H.ln,λq h=>tD (H.lt q h) len⟩;refine kI (pD i br[i] (dO hi)) λu hu J A K=>?_;have yn:=kk.get _ _ (z _ (.inr (.inr (.inl (GF hi))))) J;have sR:=kk.get _ _ (z _ (.inl rfl)) hr;have E:=kk.get _ _ (z _ (.inr (.inl rfl))) Z;have wl:(qf g U i i).length=g.w:=by unfold qf;rw [if_neg (N9 _)];simp [fc]
   refine fv (RA (n:=n) X P R hm (by exact cz 0x18004128cc0820844400112 hi hz) (p:=i) (aU 0x2487403e8c49042084400112 hi jB) (lo:=0) (ak 0x1c0a03a3100444400312 A B.1) (ao 30848803934481 B.1) (ak 0x2a3100444400312 A B.1)) λbo L O2 e2 D k2 q2=>?_;rw [Ms (by rw [A,wl])] at D;have KW:dH (qf g U i) i u=qf g U (i+1):=by
    funext p;unfold dH qf;by_cases hp:p=i
    . subst hp;rw [if_pos rfl,if_pos (zr _)];simp [rS,hu]
    . rw [if_neg hp];by_cases C:p<i
      . rw [if_pos C,if_pos (by exact ak 0x9108028c400111 C)]
      . rw [if_neg C,if_neg (by lia)]
   rw [KW] at D;refine d9 (up 191 (.int i) d) (up 191 (.int i) d) O2 ⟨rfl,.inl ?_,⟨L,D,λq J=>?_⟩,⟨λq o I S=>?_,by have:=k2.len;exact aU 0x82083004004400012 this len⟩,λx W=>?_⟩
   . have zT:dA (.ref r) 116 O'=some (.int 3):=(fZ sR).trans rfl;have ii:cW (.ref wr) (.int i) O'=some (.ref br[i]):=jD E (by rw [iR,dO hi];rfl);have em:=Aq (n:=n+3) yn (ak 0x1e17900833c2f22004400212 A B.2) K;have ms:=P.meth (m:=141) rfl rfl;unfold yM;exact goS 0x101010101030201010102 λF=>F (lq rfl ((t 126 ag).trans Y)) ms (lq rfl ((t 117 ag).trans qY)) zT (lq rfl ((t 177 ag).trans jc)) lk_s (lq rfl ((t 122 ag).trans wb)) lk_s ii em e2
   . rcases q2 q J with h | h
     . exact Q q h
     . exact aU 0x82083004004400012 h len
   . have:=bZ S;refine k2.get q o ?_ (kk.get q o I S);intro h;simp only [cF,bP,or_false] at I h;rcases h with h | h
     . exact I h
     . have:=Q q (by simpa using h);lia
   . rw [cT (bC W)];exact t x W) br.length 0 (br.length+1) loc O (by rw [gI];exact bV (ao 84016) (ao 10487856)) (ao 9665776176)
   ⟨⟨none,by
     have:qf g U 0=λ_=>fc g:=by funext p;unfold qf;rw [if_neg (by exact ao 1049136)]
     rw [this];exact T,by simp⟩,aA.refl _ _,λ_ _=>rfl⟩) λd O' e G kk t=>?_
 refine aQ G λs N yl=>?_;rw [gI] at N;exact d9 s O' d ⟨e,N,kk,yl,t⟩
end
section
variable {l:List Rc} {g3:Sg}
theorem aq8 (h:O[r]?=some (.ba 86 (g.fields k))):nE (.ref r) 103 (.int f) O=some (O.set r (.ba 86 (up 103 (.int f) (g.fields k)))):=by exact (qD h).trans (if_pos ⟨ag,by simp [Sg.fields,SZ]⟩)
theorem aq9 (h:O[r]?=some (.ba 86 (up 103 (.int f) (g.fields k)))):nE (.ref r) 106 (.int ll) O=some (O.set r (.ba 86 (({g with mem:=some (f,ll)}:Sg).fields k))):=by exact (qD h).trans (if_pos ⟨ag,(show (12:Nat)<100000 by decide)⟩)
theorem ana (B:Bd b Z l g3 none c va wa O) (P:l.length=3) (m7:c+10<SZ) (L:Lc b Z loc) (oi:lk 177 loc=some (.str (bH l.length))):
 ∃x cM c' eB j2 f ll O' au,aH GG (aj GG ai (n+4)) Ca loc O=.next au O'/\Bd b Z (l++[x]) x.g cM c' eB j2 O'/\c'<=c+10/\Lc b Z au/\
  (-4<=x.g.msb/\x.g.msb<=5/\-4<=x.g.lsb/\x.g.lsb<=5)/\((x.g.w:Int)=(x.g.msb-x.g.lsb).natAbs+1/\0<x.g.w/\x.g.w<=10)/\x.g.sc=false/\x.g.net=false/\x.g.sd=false/\x.g.mem=some (f,ll)/\(-2<=f/\f<=3/\-2<=ll/\ll<=3)/\x.br.length=(ll-f).natAbs+1/\(∀p u,x.U[p]?=some u->j2 p=u)/\(∀k,k<l.length->eB k=va k)/\
  (∀q∈cM,b+17<=q/\q<O'.length/\q≠Z/\∀(k:Nat) y,(l++[x])[k]?=some y->q∉y.refs)/\aA (R6 Z b++[b+15]) O O':=by
 refine Ck (Xf (n:=n) B (by exact ao 0x84028cc80211 P) L oi) λmsb lsb sc w ir ay G r z9=>aak z9 λhb hw Eb pO k1 A AS g1 gr gl gb C uM wM wL zc V Yv Yw e1=>?_;clear z9;refine aQ gb λq0 gb Jx=>?_;have dB:sc=false:=pO (by refine aa P ?_;decide);subst dB;have M:=B.rb;have i:=B.lo;have iI:=k1.len;have BC:bH l.length=[109]:=by refine bA P ?_;rfl
 have anR:lj l.length=false:=by refine bA P ?_;rfl
 rw [BC] at uM;rw [anR] at gr;have zU:dA (.ref r) 118 ay=some (.int w):=(fZ gr).trans rfl;refine w7 (Ao (n:=n+2) g1 (wide:=w) (by exact ao 0x785e4020e880011 hw.2.2)) λrb bits tj K e2 k2 g2 l6 bl b4 yo=>?_;have pW:=k2.len;let S:AH:=K++[.lst [.ref rb]];have nh:S=K++[.lst [.ref rb]]:=rfl;have uE:S.length=K.length+1:=by refine bA nh ?_;simp
 have k3:aA [] K S:=by refine aa nh ?_;exact aA.push _ _ _
 clear_value S
 have kx:r≠Z:=by exact cz 0x1030433020040101110225e402013 i M A
 have g23:=k3.get _ _ bP g2;refine ct (ja (n:=n+3) g23) λO4 e4 k4 g4=>ct (ja (n:=n+3) g4) λY e5 k5 g5=>?_;generalize hF:((nx tj%6:Nat):Int)-2=f at*;generalize JZ:((nx tj.dropLast%6:Nat):Int)-2=ll at*;have bF:-2<=f/\f<=3:=hF▸Xk _;have H8:-2<=ll/\ll<=3:=JZ▸Xk _;have uF:=λ_:Unit=>hF;have uL:=λ_:Unit=>JZ;clear hF JZ;have n6:(ll-f).natAbs+1<=6:=anD bF H8;have LK:=k4.len;have Wq:=k5.len;have s8:∀q,q≠Z->q∉[Z]:=λq h=>m1 h;have yf:=k5.get _ _ (s8 _ kx) (k4.get _ _ (s8 _ kx) (k3.get _ _ bP (k2.get _ _ (s8 _ kx) gr)));have s1:=aq8 (f:=f) yf;let g0:Sg:=⟨w,msb,lsb,false,false,false,none,.str (qb l.length)⟩;let g:Sg:=⟨w,msb,lsb,false,false,false,some (f,ll),.str (qb l.length)⟩;have hg:g=⟨w,msb,lsb,false,false,false,some (f,ll),.str (qb l.length)⟩:=rfl;let t:AH:=(Y.set r (.ba 86 (up 103 (.int f) (g0.fields l.length)))).set r (.ba 86 (g.fields l.length));have UL:t=(Y.set r (.ba 86 (up 103 (.int f) (g0.fields l.length)))).set r (.ba 86 (g.fields l.length)):=rfl;have s2:=aq9 (g:=g0) (ll:=ll) (O:=Y.set r (.ba 86 (up 103 (.int f) (g0.fields l.length)))) (dX yf);have s2:nE (.ref r) 106 (.int ll) (Y.set r (.ba 86 (up 103 (.int f) (g0.fields l.length))))=some t:=s2;have k6:aA [r] Y t:=by refine aa UL ?_;exact (aA.set _ _ _).trans (aA.set _ _ _)
 have yg:t[r]?=some (.ba 86 (g.fields l.length)):=by refine aa UL ?_;exact dX (dX yf)
 clear_value t
 have g6:t[Z]?=some (.lst (a9 tj.dropLast.dropLast)):=k6.get _ _ (by exact m1 (by exact cz 0x1820633020040101110225e402013 i M A)) g5;have Wr:=k6.len;let I:aB:=up 106 (.int ll) (up 103 (.int f) (up 122 (.ref K.length) G));have R:∀y,y≠106->y≠103->y≠122->lk y I=lk y G:=λy a d e=>by show lk y (up 106 _ (up 103 _ (up 122 _ G)))=_;simp only [ml];simp [bC a,bC d,bC e]
 refine att (am8 (n:=n+2) (loc:=I) (nw:=(ll-f).natAbs+1) g6 yg (w:=w) rfl (by exact ao 0x785e4020e880011 hw.2.2) kx ((R _ ag ag ag).trans C.1) ((R _ ag ag ag).trans V) (ld n6)) λbr U xs7 z e7 k7 g7 DM Q hU pD DR hnd=>?_;have X:=k7.len;have lb:br.length<=6:=Q▸n6;have V6:ay.length<=t.length:=by exact Ey 0x8508340a0044a0460c481801004004400015 Wr Wq LK uE pW
 clear pW uE LK Wq Wr;have E:r<t.length:=bZ yg;have Lk:aA [Z,r] ay z:=(k2.mono (by exact eZ [0])).trans (k3.any.trans ((k4.mono (by exact eZ [0])).trans ((k5.mono (by exact eZ [0])).trans ((k6.mono (by exact eZ [1])).trans (k7.mono (by exact eZ [0]))))));have W:aA [Z,b+1,b+10] O z:=⟨λq o s ho=>Lk.get q o (by have:=bZ ho;simp at s⊢;lia) (k1.get q o s ho),by exact cz 0x40c20c01801202004400113 E X A⟩;have AB:=k7.get _ _ (s8 _ kx) yg;let x:Rc:=⟨r,g,t.length,br,U⟩;have n3:∀q,b+11<=q->q∉[Z,b+1,b+10]:=λq h=>by exact m3 (by exact aU 0x40410c01011116402012 h M) (by exact ak 0x24021043116402011 h) (by exact ak 0x144021043116402011 h)
 have T7:cO (wo b l) g3 (b+13) (b+14) (b+15) none c va wa z:=B.T.keep W (by intro q s;simp at s;exact n3 q (s.elim (λd2=>ak 0x2c88483d22100311 d2) (λd2=>d2.elim (λd1=>ak 0x2c88483e22100311 d1) (λd1=>ak 0x2c88483f1f22100311 d1))));have A1:(wo b (l++[x])).gs=(wo b l).gs++[g]:=by refine kJ.trans ?_;rfl
 have ku:(wo b l).gs.length=l.length:=by show (l.map Rc.g).length=_;simp
 have Ed:∀vs,z[b+14]?=some (.dI vs)->O[b+14]?=some (.dI vs):=by intro vs h;refine aQ B.T.vs λvs' fp _=>?_;have:=W.get _ _ (n3 _ (by exact ao 0x7100ac804830)) fp;rw [this] at h;(injection h with h;injection h with h;subst h);exact fp
 have ou:∀q∈(wo b (l++[x])).refs,q∈(wo b l).refs\/q=r:=λq s=>aag s;have TG:cO (wo b (l++[x])) g (b+13) (b+14) (b+15) none c va (λ_=>fc g) z:=
  T7.grow A1 rfl (λq s=>(ou q s).imp id λh=>by exact ⟨cz 0x1c4820043106004c0897920804400313 h i A,cz 0x1e3e4820043106004c0897920804400313 h i A⟩) (λk _=>rfl) (λh=>by contradiction) (λvs h=>by refine aa ku ?_;exact B.vn vs (Ed vs h) _ (bT _)) (λ_=>rfl) rfl ⟨hw.2.1,by have:=hw.2.2;show w<=60;exact ao 0x785e4020e880011 this⟩
 have uP:∀(k:Nat) (y:Rc),l[k]?=some y->mL b k y z:=λk y T=>(B.rc k y T).keep W λq s=>n3 q (by have:=(B.rc k y T).hi q s;exact ak 0x22c8048310225e402011 this);have uv:∀q∈x.refs,O.length<=q/\q<z.length:=by
  intro q s;have s:q∈r::t.length::br:=s;simp only [cF] at s;have:t.length<z.length:=bZ DM;rcases s with h | h | h
  . exact ⟨aU 0x2083104004400312 h A,cz 0x60028c80811304044400213 h this E⟩
  . exact ⟨cz 0xc20c81801104044400313 h E A,aU 0x1000a3202044400212 h this⟩
  . have:=DR q h;exact ⟨cz 0x20c20c81801004044400113 this.1 E A,ak 35195315028241 this.2⟩
 have Nv:x.refs.Nodup:=by
  show (r::t.length::br).Nodup;refine jL.mpr ⟨?_,jL.mpr ⟨λh=>?_,hnd⟩⟩
  . intro h;rcases cF.mp h with h | h
    . exact ak 17593331090194 h E
    . have:=DR r h;exact ak 138583998738 this.1 E
  . have:=DR _ h;exact ao 273 this.1
 have YL:mL b l.length x z:=⟨AB,DM,by show br.length=U.length;exact bV (aU 0x208312211021122100312 hU Q) (aU 0x10008312211031122100212 hU Q),λj q h=>pD j q h,λq s=>by have:=uv q s;exact aU 0x8112f24120c00897920804400012 this.1 i,Nv⟩;have Y3:z[b+1]?=some (.lst (((l++[x]).map Rc.r).map .ref)):=by refine aa kJ <| Lk.get _ _ (by exact m2 (by exact ak 318931592020241 M) (by exact aU 0x10120118c8080110225e402012 i A)) gl
 have S7:kO (wo b (l++[x])) z:=MH Y3 (λk y T=>qF T (λ_ h=>uP k y h) λe1 e2=>by subst e1;subst e2;exact YL) (by exact kZ 0x10112f26120c0200140225e4c201202004400114 E X i A);have Kv:(wo b (l++[x])).gs[3]?=some g:=by rw [A1,<-P,mB (by refine aa ku ?_;exact bT _),ku,oR];rfl
 have aiz:z[r]?=some (.ba 86 (g.fields 3)):=by refine aa P.symm ?_;exact AB
 refine ti (am9 (n:=n) (loc:=up 122 (.ref t.length) I) S7 TG Kv (f:=f) (ll:=ll) rfl (br:=br) (U:=U) Q (hU.trans Q.symm) (ld lb) (abE (abA (ld lb) c) m7) aiz DM pD (λq s h=>by
  rcases s with N | N | N | N
  . exact cz 0x106004c0897920807c7c9040084400314 N h i A
  . exact kZ 0x100897920804c2001106007c7c9040084400315 N h V6 iI i
  . have:=DR q N;exact kZ 0x100897920804c2001006007c7c9042084400115 this.1 h V6 iI i
  . rcases ou q N with h2 | h2
    . exact B.T.nr.2.1 (h▸h2)
    . exact cz 0x106004c0897920807c7c9040084400314 h2 h i A)
  (lq rfl ((R _ ag ag ag).trans C.2.2.2.1)) (lq rfl ((R _ ag ag ag).trans V)) (lq rfl ((R _ ag ag ag).trans uM)) (lk_s) S7.lt) λcM O8 H e8 T8 J yl L3=>?_
 have auX:=J.len;have n8:∀q,q≠b+15->q∉[b+15]:=λq h=>m1 h;have L4:∀y,y≠191->y≠122->lk y H=lk y I:=λy a d=>by rw [L3 y a,cT (bC d)]
 have D:∀y,y≠191->y≠122->y≠106->y≠103->lk y H=lk y G:=λy a d e h=>(L4 y a d).trans (R y e h d);have Ly:lk 122 H=some (.ref t.length):=by exact ((L3 _ ag)).trans lk_s
 have amD:lk 103 H=some (.int f):=by refine ((L4 _ ag ag)).trans ?_;show lk 103 (up 106 _ (up 103 _ (up 122 _ G)))=_;simp only [ml];simp
 have amE:lk 106 H=some (.int ll):=by refine ((L4 _ ag ag)).trans ?_;show lk 106 (up 106 _ (up 103 _ (up 122 _ G)))=_;simp only [ml];simp
 have k08:aA [Z,b+1,b+10,b+14,b+15] O O8:=(W.mono (eZ [0,1,2])).trans (J.mono (eZ [4]));have ano:∀q∈cM,q<O8.length:=λq s=>T8.lt q (by simp;right;right;right;exact s);refine ct (B.fU (n:=n+3) (by exact ao 0x84028cc80211 P) k08 ⟨xs7,J.get _ _ (n8 _ (by exact ak 0x78f9108018c400111 M)) g7⟩ (J.get _ _ (n8 _ (by exact ao 0x78f90084804630)) Y3) ⟨q0,(gb.keep Lk (by exact m2 (by exact ak 0xa22110c400111 M) (by exact aU 0x10a20118c8080110225e402012 i A))).keep J (n8 _ (by exact ao 0x78f900a8804630)),by refine aa eC ?_;exact Jx⟩ T8 (λq s=>by have:=yl q s;exact Ey 0x2044bca048320a0054089794080401801304044400015 this E X i A) (YL.keep J λq s=>by have:=uv q s;exact n8 q (by exact aU 0x78f9208410c00897920804400012 this.1 i)) (λq s=>(uv q s).1) (λvs h k D1=>?_)) λO9 k9 B9 fU=>?_
 . have h7:z[b+14]?=some (.dI vs):=by
    refine aQ (TG.vs) λvs' fp _=>?_;have:=J.get _ _ (n8 _ (by exact ao 0x78f900b8804630)) fp;rw [this] at h;(injection h with h;injection h with h;subst h);exact fp
   exact B.vn vs (Ed vs h7) k (by exact ak 35193167544593 D1)
 have amS:=k9.len;rw [BC] at fU;have LL:Lc b Z H:=⟨(D _ ag ag ag ag).trans C.1,(D _ ag ag ag ag).trans C.2.1,(D _ ag ag ag ag).trans C.2.2.1,(D _ ag ag ag ag).trans C.2.2.2.1,(D _ ag ag ag ag).trans C.2.2.2.2⟩;refine alu x cM (c+br.length) va (qf g U br.length) f ll O9 H ⟨?_,B9,abA (ld lb) c,LL,hb,hw,rfl,rfl,rfl,rfl,⟨bF.1,bF.2,H8.1,H8.2⟩,Q,λp u hu=>?_,λ_ _=>rfl,λq s=>⟨?_,?_,?_,λk y T Un=>?_⟩,(W.mono (by simp [R6])).trans ((J.mono (by simp [R6])).trans (k9.mono (by simp [R6])))⟩
 . unfold Ca;refine ((e1 ..)).trans ?_;have b8:aH GG (aj GG ai (n+4)) zl G ay=.next (up 122 (.ref K.length) G) S:=by
    unfold zl;exact goS 4311810305 λF=>F C.1 V zU e2 (L8 nh.symm)
   have b9:aH GG (aj GG ai (n+4)) Gd (up 122 (.ref K.length) G) S=.next (up 122 (.ref t.length) I) z:=by
    have r1:∀O,fQ 4 [.int (((ll-f).natAbs:Int)+1)] O=.ok (.cj 0 (((ll-f).natAbs:Int)+1) 1) O:=λO=>ze (m:=(ll-f).natAbs+1) (EG n6);have fu:dG (.cj 0 (((ll-f).natAbs:Int)+1) 1) t=(ll-f).natAbs+1+1:=sI (m:=(ll-f).natAbs+1) (EG n6);have e7:iX (.cj 0 (((ll-f).natAbs:Int)+1) 1) t.length (λv O=>bh GG (aj GG ai (n+4)) wF ((186,v)::I) O) ((ll-f).natAbs+1+1) 0 (t++[.lst []])=.ok (.ref t.length) z:=e7;have pG:(f-ll).natAbs=(ll-f).natAbs:=by rw [<-aa6,Int.neg_sub]
    have e7:iX (.cj 0 (((ll-f).natAbs:Int)+1) 1) t.length (λv O=>bh GG (aj GG ai (n+4)) wF ((186,v)::I) O) (dG (.cj 0 (((ll-f).natAbs:Int)+1) 1) t) 0 (t++[.lst []])=.ok (.ref t.length) z:=by rw [fu];exact e7
    exact goS 0x102020103010103010103010101030101010401 λF=>F (lq rfl uM) (lq rfl C.1) e4 (Xj _ _) (rI (uF ())) (lr2 rfl C.1) e5 (Xj _ _) (rI (uL ())) (lq rfl lk_s) (lr3 rfl V) s1 lk_s (lr3 rfl V) s2 (lq rfl lk_s) lk_s (rI (congrArg Int.ofNat pG)) (r1 _) e7
   have H6:aH GG (aj GG ai (n+4)) M5 (up 122 (.ref t.length) I) z=.next H O8:=by
    have ln:fQ 0 [.ref t.length] z=.ok (.int br.length) z:=by rw [mj DM,cf]
    have r1:fQ 4 [.int br.length] z=.ok (.cj 0 br.length 1) z:=ze (m:=br.length) (EG lb);have fu:dG (.cj 0 br.length 1) z=br.length+1:=sI (m:=br.length) (EG lb);exact goS 16843009 λF=>F lk_s ln r1 (jU fu e8)
   exact goS 16908801 λF=>F b8 b9 H6 (fU H LL ((D _ ag ag ag ag).trans uM) ((D _ ag ag ag ag).trans V) ((D _ ag ag ag ag).trans wM) ((D _ ag ag ag ag).trans wL) ((D _ ag ag ag ag).trans zc) amD amE Ly)
 . have hp:p<U.length:=(ez.mp hu).1;have hu:U[p]?=some u:=hu;unfold qf;rw [if_pos (by exact cz 0x60028c490460c449042084400113 hp hU Q)];simp [rS,hu]
 . have:=yl q s;exact Ey 0x2044bca048320a0054089794080401801304044400015 this E X i A
 . have:=ano q s;exact aU 0x1000a3202004400112 this amS
 . have:=yl q s;exact Wb 0xc0410c8280140c0454089794080401801304044400016 this E X i M A
 . have h1:=yl q s;refine qF T (λ_ h=>?_) λ_ e=>?_
   . have:=(uP k y h).lt q Un;exact ak 137510256914 this h1
   . subst e;have:=uv q Un;exact ak 137510256914 this.2 h1
end
theorem ais (O τ:AH) (i):(O++τ)[O.length+i]?=τ[i]?:=by rw [mB (by exact ak 8592033840),show O.length+i-O.length=i by exact bV (aU 0x40020c80842002211 (tE (ak 8592033840))) (aU 0x40420c01042002011 Internal.jE)]
def Ay:Sg:=td 1 0 0 false false []
theorem atg {xs:List Nat} (j:O[Z]?=some (.lst (a9 xs))):∃O',Bd O.length Z [] Ay none 0 (λ_=>[]) (λ_=>fc Ay) O'/\aA [] O O'/\O'.length=O.length+17/\
 ∀d,aH GG (aj GG ai (n+4)) (.seq M9 (.seq Na (.seq Nb (.seq Z8 d)))) [(184,.ref Z)] O=aH GG (aj GG ai (n+4)) d [(184,.ref Z),(145,.ref O.length),(143,.ref (O.length+11)),(126,.ref (O.length+13)),(193,.ref (O.length+16))] O':=by
 have l:=bZ j;generalize hb:O.length=b at*;let A:AH:=[.ba 87 (fD b),.lst [],.lst [],.lst [],.lst [],.lst [],.lst [],.lst [],.lst [],.lst [],.dI []];have e0:ny GG (aj GG ai (n+4)) 87 [] O=.ok (.ref b) (O++A):=by rw [anV,hb]
 let e:AH:=[.ba 87 (fD b),.lst [],.lst [],.lst [],.lst [],.lst [],.lst [],.lst [.str [116,111,112]],.lst [],.lst [],.dI []];have m:(O++A).set (b+7) (.lst [.str [116,111,112]])=O++e:=by refine aa (N1 _ _ (ak 0x39108020c400211 hb)) (aa (show b+7-O.length=7 by exact bV (aU 0x39208372210020884400312 hb (tE (ak 0x39108020c400211 hb))) (aU 0x10728300413910804400212 hb Internal.jE)) ?_);rfl
 have a:∀(f:AH) (i:Nat),(O++f)[b+i]?=f[i]?:=λf i=>by refine aa hb.symm ?_;exact ais O f i
 have p:(O++A).length=b+11:=by refine aa eC (aa hb ?_);rfl
 have e1:ny GG (aj GG ai (n+4)) 88 [.ref b,.str [116,111,112],.none,.str [109,111,100,117,108,101]] (O++A)=.ok (.ref (b+11)) (O++e++[aV.ba 88 (fS b (b+12) (.int 0)),aV.dI []]):=by have:=anW (n:=n+2) (a A 0) (a A 7);rw [p,m] at this;exact this
 have q:(O++e++[aV.ba 88 (fS b (b+12) (.int 0)),aV.dI []]).length=b+13:=by refine aa eC (aa eC (aa hb ?_));rfl
 have e2:=anZ (n:=n+3) (O:=O++e++[.ba 88 (fS b (b+12) (.int 0)),.dI []]) (x:=.ref (b+1));rw [q] at e2;let c:AH:=e++([.ba 88 (fS b (b+12) (.int 0)),.dI []]++([.ba 83 [(112,.ref (b+1)),(115,.ref (b+13+1)),(114,.ref (b+13+2)),(113,.int 1)],.dI [],.dI []]++[.dI []]));have r:(O++e++[aV.ba 88 (fS b (b+12) (.int 0)),aV.dI []]++[aV.ba 83 [(112,.ref (b+1)),(115,.ref (b+13+1)),(114,.ref (b+13+2)),(113,.int 1)],.dI [],.dI []]).length=b+16:=by simp only [eC,hb];rfl
 have o:O++e++[aV.ba 88 (fS b (b+12) (.int 0)),aV.dI []]++[aV.ba 83 [(112,.ref (b+1)),(115,.ref (b+13+1)),(114,.ref (b+13+2)),(113,.int 1)],.dI [],.dI []]++[aV.dI []]=O++c:=by simp only [ju];rfl
 refine ⟨(O++c),⟨⟨xs,bI j⟩,by exact ak 35195315028241 l,a c 0,a c 1,⟨[],.inr ⟨rfl,a c 10⟩,bT _⟩,⟨_,a c 11⟩,.inr ⟨rfl,a c 12⟩,.inr ⟨rfl,a c 16⟩,⟨a c 13,⟨[],a c 14,bT _,λk g h _=>by contradiction⟩,⟨a c 15,λ_=>rfl⟩,⟨(λk g h _=>by contradiction),λ_=>rfl⟩,rfl,(λk g h=>by contradiction),⟨by exact ao 0x78f900b8804630,by exact ao 0x7100b4804630,by exact ao 0x78f900b4804630,by simp⟩,⟨?_,?_,by simp⟩⟩,(λk x h=>by contradiction),λvs h k _=>?_,?_,λk k' x x' _ h=>by contradiction⟩,aA.push _ _ _,?_,λd=>?_⟩
 . show b+14∉[b,b+1,b+11,b+12]++[];simp
 . show b+15∉[b,b+1,b+11,b+12]++[];simp
 . have:=a c 14;rw [this] at h
   (injection h with h;injection h with h;subst h);rfl
 . refine aa eC (aa hb ?_);exact bT _
 . refine aa eC (aa hb ?_);rfl
 . have a1:dA (.ref b) 112 (O++e++[aV.ba 88 (fS b (b+12) (.int 0)),aV.dI []])=some (.ref (b+1)):=by
    have:(O++e++[aV.ba 88 (fS b (b+12) (.int 0)),.dI []])[b]?=some (.ba 87 (fD b)):=bI (a e 0);exact o7 this
   refine aa o.symm (aa r.symm ?_);exact goS 12901942274 λF=>F e0 e1 a1 e2 rfl
def cx (l:List Rc) (k:Nat):Rc:=l.getD k ⟨0,Ay,0,[],[]⟩
structure Lp (b Z:Nat) (l:List Rc) (g3:Sg) (mm:Option Nat) (c:Nat) (va wa:Nat->List Nat) (O:AH):Prop where
 B:Bd b Z l g3 mm c va wa O
 len:l.length=4
 g3:g3=(cx l 3).g
 c:c<=20
 bd:∀k,k<4->-4<=(cx l k).g.msb/\(cx l k).g.msb<=5/\-4<=(cx l k).g.lsb/\(cx l k).g.lsb<=5
 w:∀k,k<4->((cx l k).g.w:Int)=((cx l k).g.msb-(cx l k).g.lsb).natAbs+1/\0<(cx l k).g.w/\(cx l k).g.w<=10
 sc:∀k,k<4->(cx l k).g.sc=true->(cx l k).g.msb=0/\(cx l k).g.lsb=0
 sb:(cx l 1).g.sc=false
 net:∀k,k<4->(cx l k).g.net=lj k
 mem:∀k,k<3->(cx l k).g.mem=none/\(cx l k).br.length=1/\(cx l k).U=[va k]
 m3:∃f ll:Int,(cx l 3).g.mem=some (f,ll)/\(-2<=f/\f<=3/\-2<=ll/\ll<=3)/\(cx l 3).br.length=(ll-f).natAbs+1
 u3:∀p u,(cx l 3).U[p]?=some u->wa p=u
 mm:∀q∈mm,b+17<=q/\q<O.length/\q≠Z/\∀(k:Nat) (y:Rc),l[k]?=some y->q∉y.refs
theorem ath (B:Bd b Z [] Ay none 0 (λ_=>[]) (λ_=>fc Ay) O) (L:Lc b Z loc):
 ∃l g3 mm c va wa O' au,Lp b Z l g3 mm c va wa O'/\Lc b Z au/\aA (R6 Z b++[b+15]) O O'/\aH GG (aj GG ai (n+4)) Nc loc O=.next au O':=by
 have g:∀(loc:aB) (v:AV),Lc b Z loc->Lc b Z (up 177 v loc):=λloc v a=>⟨lq rfl a.1,lq rfl a.2.1,lq rfl a.2.2.1,lq rfl a.2.2.2.1,lq rfl a.2.2.2.2⟩;refine qh (M1 (n:=n) B ag ag (λ_=>rfl) (g loc (.str [97]) L) (by refine lk_s.trans ?_;rfl)) λx0 va0 O0 m d=>Gj d λe0 B0 L0 k0 o w t h0c q h0d p s u _=>?_;clear d;refine qh (M1 (n:=n) B0 (by simp) ag (λ_=>rfl) (g m (.str [98]) L0) (by refine lk_s.trans ?_;rfl)) λx1 va1 ay bx d=>Gj d λe1 B1 L1 k1 x G D y A h1d z C E F=>?_;clear d;refine qh (M1 (n:=n) B1 (bT _) ag (λ_=>rfl) (g bx (.str [99]) L1) (by refine lk_s.trans ?_;rfl)) λx2 va2 O2 b6 d=>Gj d λe2 B2 L2 k2 H P M h2c J h2d I K N Ta=>?_;clear d;refine aas (ana (n:=n) B2 (by rfl) ag (g b6 (.str [109]) L2) (by refine lk_s.trans ?_;rfl)) λx3 mm c Z4 Z9 f ll O3 eX d=>aaj d λe3 B3 hc L3 Q Y W T h3d S R V X i U k3=>?_;clear d;have j:aA (R6 Z b++[b+15]) O O2:=((k0.trans k1).trans k2).mono (by intro r h;exact gw _ h);have v30:=(i 0 (by simp)).trans ((Ta 0 (by simp)).trans (F 0 (bT _)));have v31:=(i 1 (by simp)).trans (Ta 1 (bT _));have v32:=i 2 (bT _);refine A4 _ _ mm c Z4 Z9 O3 eX ⟨⟨B3,rfl,rfl,by exact ao 0x285e4020e88912240a4900011 hc,λk e=>?_,λk e=>?_,λk e=>?_,y (λh=>nomatch h),λk e=>?_,λk e=>?_,⟨f,ll,S,R,V⟩,X,U⟩,L3,j.trans k3,?_⟩
 . exact pX o x H Q k e
 . exact pX w G P Y k e
 . exact pX t D M (by intro h;rw [show (cx ([]++[x0]++[x1]++[x2]++[x3]) 3)=x3 from rfl,W] at h;contradiction) k e
 . exact pX q A J T k e
 . exact Bs (⟨p,s,by refine aa v30 ?_;exact u⟩) (⟨z,C,by refine aa v31 ?_;exact E⟩) (⟨I,K,by refine aa v32 ?_;exact N⟩) k e
 . unfold Nc;have fu:dG (.str [97,98,99,109]) O=5:=rfl;simp only [Mz,agx,BW,Eu,fu];refine aa (sH rfl rfl) (aa e0 (aa x9 (aa (sH rfl rfl) (aa e1 (aa x9 (aa (sH rfl rfl) (aa e2 (aa x9 (aa (sH rfl rfl) (aa e3 (aa x9 ?_)))))))))));exact sG rfl
theorem cO.grow2 {g3:Sg} (T:cO w g3 St V M mm c va wa O) (f:w'.gs=w.gs++[g]) (s:w'.L=w.L) (hr:∀r∈w'.refs,r∈w.refs\/(r≠V/\r≠M/\∀q∈mm,r≠q))
 (m:∀k,k<w.gs.length->eB k=va k) (j:g.mem=none->eB w.gs.length=fc g) (n:∀vs,O[V]?=some (.dI vs)->lk (w.gs.length:Int) vs=none) (t:0<g.w/\g.w<=60):cO w' g3 St V M mm c eB wa O where
 ob:=by refine aa s ?_;exact T.ob
 vs:=by
  refine ct T.vs λvs i o p=>⟨vs,i,o,λk d a e=>?_⟩;rw [f] at a;by_cases b:k<w.gs.length
  . rw [iv b] at a;refine aa (m k b) ?_;exact p k d a e
  . have:k=w.gs.length:=by
     have:=(ez.mp a).1;simp at this;exact bV (ak 0x80083122100111 this) (ak 283673363729 b)
    subst this;rw [mB (bT _),oR] at a
    (injection a with a;subst a)
    exact .inr ⟨n vs i,by exact congrArg _ (j e)⟩
 ms:=T.ms
 ln:=by
  refine ⟨λk d a e=>?_,T.ln.2⟩;rw [f] at a;by_cases b:k<w.gs.length
  . rw [iv b] at a;refine bA (m k b) ?_;exact T.ln.1 k d a e
  . have:k=w.gs.length:=by
     have:=(ez.mp a).1;simp at this;exact bV (ak 0x80083122100111 this) (ak 283673363729 b)
    subst this;rw [mB (bT _),oR] at a
    (injection a with a;subst a)
    refine bA (j e) ?_;simp [fc]
 g3:=T.g3
 sz:=by
  intro k d a;rw [f] at a;by_cases b:k<w.gs.length
  . rw [iv b] at a;exact T.sz k d a
  . have:k=w.gs.length:=by
     have:=(ez.mp a).1;simp at this;exact bV (ak 0x80083122100111 this) (ak 283673363729 b)
    subst this;rw [mB (bT _),oR] at a
    (injection a with a;subst a);exact t
 dj:=T.dj
 nr:=by
  refine ⟨λh=>?_,λh=>?_,λq l h=>?_⟩
  . rcases hr _ h with h | h
    . exact T.nr.1 h
    . exact h.1 rfl
  . rcases hr _ h with h | h
    . exact T.nr.2.1 h
    . exact h.2.1 rfl
  . rcases hr _ h with h | h
    . exact T.nr.2.2 q l h
    . exact h.2.2 q l rfl
theorem alM (m):∀xs,((a9 xs).mapM (fs (m+1) O))=some (xs.map λx=>tI (x:Nat)):=λxs=>UY O m xs
theorem UT {xs:List Nat} (h:O[r]?=some (.lst (a9 xs))) (k:Nat):cG .NotIn (.int k) (.ref r) O=some (!decide (k∈xs)):=by
 show (yt O (.int k) (.ref r)).map (!·)=_;have:yt O (.int k) (.ref r)=wA O (.int k) (a9 xs):=(show nj O (.int k) r=_ from by delta nj;exact aa h rfl);refine bA this ?_;unfold wA;refine aa (alM 7 ..) ?_;show ((if fP (.int k)&&(xs.map λx=>tI (x:Nat)).all fP then some ((xs.map λx=>tI (x:Nat)).any λy=>kM y (.int k)) else none:Option Bool).map λx=>!x)=_;have c:∀i:Int,fP (.int i)=true:=λi=>by kernel_rfl
 refine aa (c ..) (aa (NC ..) ?_);have g:(xs.map λx=>tI (x:Nat)).all fP=true:=by simp only [jt];intro x b;refine aQ (gQ.mp b) λa _ f=>?_;subst f;exact c _
 refine aa (g ..) (aa (if_pos rfl ..) (aa (rT ..) (aa (List.any_map ..) ?_)));congr 2;rw [Ny,aa8,decide_eq_true_iff];constructor
 . intro d;refine aQ d λx b e=>?_;clear d;simp [kM] at e;have:x=k:=bV (ak 0x8008311c07a11 e) (ak 18155124587281 e);exact this▸b
 . intro b;exact ⟨k,b,by simp [kM]⟩
theorem ah4:∀a,a<4->∀b,b<4->∀c,c<4->∀d,d<4->jb [a,b,c,d]=if 2∈[a,b,c,d]\/3∈[a,b,c,d] then none else some (((a:Int)+2*b)+4*c-8*d):=by decide+kernel
theorem yd {f:AV->AH->aJ AV} {x:aJ AV} (a:dG it τ=m) (h:iX it r f m 0 O=x):iX it r f (dG it τ) 0 O=x:=a▸h
theorem adj {xs:List Nat} (o:O[Z]?=some (.lst (a9 xs))) (L:Lc b Z loc):∃am ra b7 O' k,am.length=4/\(∀y∈am,y<4)/\aA [Z] O O'/\O'[Z]?=some (.lst (a9 b7))/\O'[ra]?=some (.lst (a9 am))/\O.length<=ra/\lk 194 k=some (.ref ra)/\Lc b Z k/\
 ∀a,aH GG (aj GG ai (n+4)) (.seq w3 (.seq Ce a)) loc O=aH GG (aj GG ai (n+4)) a k O':=by
 refine w7 (Ao (n:=n+2) o (wide:=4) ag) λc bits D x e1 k1 g1 p bl b4 g=>ct (ja (n:=n+3) g1) λe e2 k2 g2=>?_;have E:=bZ p;have j:=bZ o;have l:=k2.get _ _ (m1 (aU 0x2043202004400112 j g)) p;have e1:=e1;have d:Lc b Z (up 194 (.ref c) loc):=by refine uV L λa1 a2 t u w=>⟨?_,?_,?_,?_,?_⟩<;>refine (ic (by rfl)).trans ?_<;>assumption
 have r:aH GG (aj GG ai (n+4)) w3 loc O=.next (up 194 (.ref c) loc) x:=by unfold w3;exact goS 257 λF=>F L.1 e1
 by_cases q:(0:Int)<(nx D%5:Nat)
 . have m:=vI (f:=λv O=>bh GG (aj GG ai (n+4)) (.aN .Mod (.v 197) (.ci 2)) ((197,v)::up 194 (.ref c) loc) O) (h:=λv=>match v with | .int i=>.int (i.fmod 2) | v=>v) (λaz=>yC (bI l)) (λv B az=>by
    refine aQ (gQ.mp B) λy _ s=>?_;subst s;exact kr 0 id) (by refine aa (yS ..) (aa (bl ..) ?_);decide) ((a9 bits).length+1) (by exact ao 9665776176)
   have A:(a9 bits).map (λv=>match v with | .int i=>AV.int (i.fmod 2) | v=>v)=a9 (bits.map (· %2)):=by unfold a9;refine fO.trans (aa fO ?_);apply vf;intro y _;show AV.int ((y:Int).fmod 2)=AV.int ((y%2:Nat):Int);refine bA (Gx _ ag) ?_;rfl
   rw [A] at m;have I:=k1.len;have G:=k2.len;refine Ei (bits.map (· %2)) e.length _ (e++[.lst (a9 (bits.map (· %2)))]) (up 194 (.ref e.length) (up 194 (.ref c) loc)) ⟨(by simp [bl]),λy C=>?_,k1.trans (k2.trans (aA.push _ _ _)),bI g2,cI _ _,(cz 0x20c20c81801004044400013 G E g),lk_s,?_,λa=>?_⟩
   . refine aQ (gQ.mp C) λz _ H=>?_;subst H;have:z%2<2:=gf _ ag;exact ao 0x84028c880111 this
   . refine uV d λa1 a2 t u w=>⟨?_,?_,?_,?_,?_⟩<;>refine (ic (by rfl)).trans ?_<;>assumption
   . exact goS 0x201020201010301 λF=>F r d.1 e2 (Bw _ _) (decide_eq_true q) lk_s (yd (l0 l) m) rfl
 . refine Ei bits c _ e (up 194 (.ref c) loc) ⟨bl,b4,k1.trans k2,g2,l,g,lk_s,d,λa=>?_⟩;exact goS 1108118405889 λF=>F r d.1 e2 (Bw _ _) (decide_eq_false q) rfl
theorem ah3 {am:List Nat} (o:am.length=4) (hb:∀y∈am,y<4) (f:O[ra]?=some (.lst (a9 am))) (c:lk 194 loc=some (.ref ra)):∃j,lk 192 j=some (gP (jb am))/\(∀x,x≠192->lk x j=lk x loc)/\∀b,aH GG (aj GG ai (n+4)) (.seq Ge (.seq Cb b)) loc O=aH GG (aj GG ai (n+4)) b j O:=by
 . refine qh (Jv o) λp q r s m=>?_;subst m;have hp:=hb p cN;have t:=hb q (cu _ cN);have hr:=hb r (cu _ (cu _ cN));have u:=hb s (by simp);have d:=ah4 p hp q t r hr s u;have k:=UT f 2;have l:=UT f 3;have v:cW (.ref ra) (.int 0) O=some (.int p):=jD f rfl;have i1:cW (.ref ra) (.int 1) O=some (.int q):=jD f rfl;have i2:cW (.ref ra) (.int 2) O=some (.int r):=jD f rfl;have i3:cW (.ref ra) (.int 3) O=some (.int s):=jD f rfl;have m1:=λa:Int=>yP a q O (by lia);have m2:=λa:Int=>yP a r O (by lia);have m3:=λa:Int=>yP a s O (by lia);by_cases g:2∈[p,q,r,s]
   . rw [if_pos (.inl g)] at d;refine ⟨(up 192 .none loc),(by refine lk_s.trans (aa d ?_);rfl),λx e=>(cT (bC e)),λb=>?_⟩;exact goS 33620228 λF=>F (lq rfl c) k (zZ g) rfl
   . by_cases i:3∈[p,q,r,s]
     . rw [if_pos (.inr i)] at d;refine ⟨(up 192 .none loc),(by refine lk_s.trans (aa d ?_);rfl),λx e=>(cT (bC e)),λb=>?_⟩;exact goS 564053776859396 λF=>F (lq rfl c) k (xx g) (lq rfl c) l (zZ i) rfl
     . rw [if_neg λh=>h.elim g i] at d;refine ⟨(up 192 (.int (((p:Int)+2*q)+4*r-8*s)) (up 192 .none loc)),(by refine lk_s.trans (aa d ?_);rfl),λx e=>(cT (bC e)).trans (cT (bC e)),λb=>?_⟩;exact goS 0x30101020101020101010103010101010104 λF=>F (lq rfl c) k (xx g) (lq rfl c) l (xx i) (lq rfl c) v (lq rfl c) i1 (m1 _) (lq rfl c) i2 (m2 _) (lq rfl c) i3 (m3 _) rfl
section
variable {l:List Rc}
structure qB (nw:Nat) (va wa:Nat->List Nat) (U:Nat->Nat->List Nat):Prop where
 v:∀k,k<3->va k=U k 0
 w:∀p,p<nw->wa p=U 3 p
structure WF (b Z:Nat) (w:Wo) (t:Lr) (gk:Nat->Sg) (gi:Sg) (mm:Option Nat) (c:Nat) (va wa:Nat->List Nat) (U:Nat->Nat->List Nat) (O:AH):Prop where
 row:∃xs,O[Z]?=some (.lst (a9 xs))
 rb:Z<b
 wd:t.Wd=b+16
 rf:w.D=b/\w.L=b+1/\w.S=b+11/\w.E=b+12
 H:Std w O
 Y:WI w gi
 T:cO w (gk 3) (b+13) (b+14) (b+15) mm c va wa O
 R:kP t gk (va 4) U O
 G:CW gk
 gs:∀k,k<4->w.gs[k]?=some (gk k)
 en:∀k,k<4->lk (bH k) w.en=some (cD k)
 np:lk [112] w.en=none/\w.en.length<=10
 net:∀k,k<4->(gk k).net=lj k
 wz:∀k,k<4->0<(gk k).w/\(gk k).w<=10
 sb:(gk 1).sc=false
 hr:(∀r∈w.rs,b+17<=r)/\(∀k,k<4->b+17<=t.wr k)/\∀k,k<4->∀r∈t.br k,b+17<=r/\r∉w.rs/\∀k',k'<4->r≠t.wr k'
 inj:∀k k' j j' r:Nat,k<4->k'<4->(t.br k)[j]?=some r->(t.br k')[j']?=some r->k=k'/\j=j'
 md:∀q∈mm,b+17<=q/\q∉w.rs/\∀k,k<4->q≠t.wr k/\q∉t.br k
 sc:∃num,O[b+11]?=some (.ba 88 (fS b (b+12) num))
def vZ (l:List Rc) (gi:Sg) (k:Nat):Sg:=if k=4 then gi else (cx l k).g
theorem fW (h:l.length=4) (b:k<4):l[k]?=some (cx l k):=by have a:k<l.length:=ak 0x800a34220c5080112 b h;unfold cx;rw [rS,dO a];rfl
theorem atq (h:l.length=4):lH l=[([97],jT 0 (cx l 0)),([98],jT 1 (cx l 1)),([99],jT 2 (cx l 2)),([109],jT 3 (cx l 3))]:=by refine qh (Jv h) λb c d e a=>?_;subst a;rfl
theorem agB (h:l.length=4):(wo b l).en=[([97],cD 0),([98],cD 1),([99],cD 2),([109],cD 3)]:=by refine qh (Jv h) λc d e f a=>?_;subst a;rfl
theorem w_end {g3:Sg} (P:Lp b Z l g3 mm c va wa O) (L:Lc b Z loc):
 ∃(w:Wo) (t:Lr) (gk:Nat->Sg) (gi:Sg) (c':Nat) (eB:Nat->List Nat) (U:Nat->Nat->List Nat) (O':AH),gj (aH GG (aj GG ai (n+4)) (.seq w3 (.seq Ce (.seq Gf (.seq Gg (.seq Gh (.seq Ge (.seq Cb (.seq Cc (.seq Cd .nil))))))))) loc O)=.ok (.aw [.ref (b+11),.ref (b+13),.ref (b+16)]) O'/\WF b Z w t gk gi mm c' eB wa U O'/\qB (t.br 3).length eB wa U/\c'<=30:=by
 have B:=P.B;refine a8 (B.row) λxs AU=>?_;refine aan (adj (n:=n) AU L) λam ra ir ay bx z9=>Nj z9 λQ wt k1 g1 gra ng Yy W e1=>?_;clear z9;have K:=B.rb;have H:=B.lo;have R:=k1.len;have s8:∀q,q≠Z->q∉[Z]:=λq h=>m1 h;refine aQ (B.bp) λbq Kd pC=>?_;refine Nk (Q5 (n:=n+2) (O:=ay) (b:=b) (rs:=l.map Rc.r) (q:=bq) (k1.get _ _ (s8 _ (by exact ak 279378395409 K)) B.d) (k1.get _ _ (s8 _ (by exact ak 318931592020241 K)) B.sl) (Kd.keep k1 (s8 _ (by exact ak 0xa22110c400111 K))) (by have:=P.len;unfold SZ;exact ak 0xc3502f910a3002005080212 this pC) (by refine aa (cf ..) (aa (P.len ..) ?_);decide) (w:=4) (msb:=3) (lsb:=0) (net:=false) (sd:=true) (p:=[116,111,112,46,105])) λN e2 k2 g2 DK l6 l2=>?_;rw [if_neg ag] at e2;rw [cf,P.len] at g2;let E:=ay.length;have Uo:E=ay.length:=rfl;let gi:Sg:=td 4 3 0 false true [116,111,112,46,105];have X:aA [Z,b+1,b+10] O N:=(k1.mono (by exact eZ [0])).trans (k2.mono (by exact eZ [1,2]));have S:∀q,b+11<=q->q∉[Z,b+1,b+10]:=λq h=>by exact m3 (by exact aU 0x40410c01011116402012 h K) (ak 0x24021043116402011 h) (ak 0x144021043116402011 h)
 have T2:cO (wo b l) g3 (b+13) (b+14) (b+15) mm c va wa N:=B.T.keep X (by
  intro q C;simp at C;rcases C with h | h | h | h
  . exact S q (ak 0x2c88483d22100311 h)
  . exact S q (ak 0x2c88483e22100311 h)
  . exact S q (ak 0x2c88483f1f22100311 h)
  . have:=(P.mm q h).1;exact S q (ak 0x22c8048310225e402011 this))
 let w:Wo:=⟨b,b+1,b+11,b+12,l.map Rc.r++[E],l.map Rc.g++[gi],(wo b l).en++[([105],cD 4)]⟩;have ku:(wo b l).gs.length=4:=by show (l.map Rc.g).length=_;rw [cf,P.len]
 have UH:∀q∈w.refs,q∈(wo b l).refs\/q=E:=by
  intro q C;have C:q∈[b,b+1,b+11,b+12]++(l.map Rc.r++[E]):=C;rcases eG.mp C with h | h
  . exact .inl (gw _ h)
  . rcases eG.mp h with h | h
    . exact .inl (j8 _ h)
    . exact .inr (by simpa using h)
 have Ed:∀vs,N[b+14]?=some (.dI vs)->O[b+14]?=some (.dI vs):=by intro vs h;refine aQ B.T.vs λvs' fp _=>?_;have:=X.get _ _ (S _ (by exact ao 0x7100ac804830)) fp;rw [this] at h;(injection h with h;injection h with h;subst h);exact fp
 have mml:∀q∈mm,q<O.length:=λq C=>(P.mm q C).2.1;have TG:cO w g3 (b+13) (b+14) (b+15) mm c (dH va 4 (fc gi)) wa N:=by
  refine T2.grow2 (w':=w) (g:=gi) rfl rfl (λq C=>(UH q C).imp id λh=>⟨by exact cz 0x1c4c2004320225e4c201104004400313 h R H,by exact cz 0x1e3e4c2004320225e4c201104004400313 h R H,λz hz=>by have:=mml z hz;exact cz 0x810cc08013040c4400113 this h R⟩) (λk o=>?_) (λ_=>?_) (λvs h=>?_) ⟨ag,ag⟩
  . rw [ku] at o;unfold dH;exact (if_neg (by exact ao 0x84018d080111 o))
  . refine bA ku ?_;unfold dH;exact (if_pos rfl)
  . refine aa ku ?_;exact B.vn vs (Ed vs h) 4 (by refine aa P.len ?_;exact bT _)
 have uP:∀(k:Nat) (y:Rc),l[k]?=some y->mL b k y N:=λk y I=>(B.rc k y I).keep X λq C=>S q (by have:=(B.rc k y I).hi q C;exact ak 0x22c8048310225e402011 this);have S2:kO w N:=by
  refine ⟨?_,λk q g' A D=>?_,?_,λq C=>?_⟩
  . exact DK
  . have A:(l.map Rc.r++[E])[k]?=some q:=A;have D:(l.map Rc.g++[gi])[k]?=some g':=D;by_cases b5:k<l.length
    . rw [iv (by refine aa (cf ..) ?_;exact b5),iR] at A D;refine aQ (gJ.mp A) λy I af9=>?_;subst af9;rw [I] at D;(injection D with D;subst D);exact (uP k y I).sg
    . have uf:k=4:=by have:=(ez.mp A).1;simp [P.len] at this;have:=P.len;lia
      subst uf;rw [mB (by simp [P.len])] at A D;simp [P.len] at A D;subst A D;exact g2
  . show (l.map Rc.r++[E]).length=(l.map Rc.g++[gi]).length;simp
  . rcases UH q C with h | h
    . have:=B.sgs.lt q h;exact cz 0x1000a3302004498440c4400113 this l2 R
    . exact aU 0x40028c488440c4400212 h l2
 have uf:w.gs[4]?=some gi:=by show (l.map Rc.g++[gi])[4]?=some gi;rw [mB (by simp [P.len])];simp [P.len]
 have S8:=k2.get _ _ (by exact m2 (by exact aU 0x9008810c8080110225e402012 H ng) (by exact aU 0x51008810c8080110225e402012 H ng)) gra;have pP:(dH va 4 (fc gi) 4).length=4:=by unfold dH;refine bA (if_pos rfl) ?_;rfl
 refine fJ (Jr (n:=n) S2 TG uf rfl (by have:=P.c;unfold SZ;exact ao 0x30d40be4028c50bc80011 this) (piece:=am) (lo:=0) (by refine aa Q ?_;decide) ag (by refine aa Q ?_;decide)) λbo T e3 T3 k3 v3=>?_;rw [Ms (by exact (Q).trans pP)] at T3;have n3:∀q,q≠b+14->q∉[b+14]:=λq h=>m1 h;have uE:=k3.len;refine a8 B.s λnum hS=>?_;have DP:=k3.get _ _ (n3 _ (by exact ao 0x7100ac804630)) (X.get _ _ (S _ (by exact ao 97859428960304)) hS);have Tc:=(B.en.keep X (S _ (ao 0x6100ac804830))).keep k3 (n3 _ (ao 0x7100b0804630));have hW3:=(B.wd.keep X (S _ (ao 0x817900ac804830))).keep k3 (n3 _ (ao 0x7100840bc804430));have g3i:=k3.get _ _ (n3 _ (aU 0x71208410c00897920804400012 R H)) g2;have Xy:∀(α:Type) (f:Nat->Rc->α) (s:List Nat),(∀k,k<4->bH k≠s)->lk s (l.mapIdx λk x=>(bH k,f k x))=none:=by
  intro α f s hs;have key:∀(q:List (List Nat×α)),(∀p∈q,p.1≠s)->lk s q=none:=by
   intro q;induction q with
   |nil=>intro _;rfl
   |cons a q ih=>intro C;obtain ⟨y,u⟩:=a;simp only [eh];refine ((if_neg (C (y,u) cN))).trans <| ih λp hp=>C p (cu _ hp)
  apply key;intro p hp;obtain ⟨i,hi,e⟩:=abt.mp hp;refine aa e.symm <| hs i (by refine aa P.len.symm ?_;exact hi)
 have ni:∀k,k<4->bH k≠[105]:=by decide
 have np:∀k,k<4->bH k≠[112]:=by decide
 have he:lk [105] (wo b l).en=none:=Xy AV (λk _=>cD k) _ ni;have KZ:lk [105] (lH l)=none:=Xy AV (λk x=>jT k x) _ ni;have z1:(wo b l).en.length=4:=by show (l.mapIdx _).length=4;rw [GH,P.len]
 have z2:(lH l).length=4:=by show (l.mapIdx _).length=4;rw [GH,P.len]
 have ed:=Jl (n:=n+3) DP Tc (by refine aa z1 ?_;decide) (nm:=[105]) (v:=cD 4) he;rw [BZ he] at ed;let V:AH:=T.set (b+12) (.dS ((wo b l).en++[([105],cD 4)]));have K4:V=T.set (b+12) (.dS ((wo b l).en++[([105],cD 4)])):=rfl;rw [<-K4] at ed;have k4:aA [b+12] T V:=by refine aa K4 ?_;exact aA.set _ _ _
 have aii:V[b+12]?=some (.dS w.en):=by refine aa K4 ?_;rcases Tc with h | ⟨_,h⟩<;>exact dX h
 have n4:∀q,q≠b+12->q∉[b+12]:=λq h=>m1 h;have aiB:=k4.get _ _ (n4 _ (by exact aU 0x61008810c8080110225e402012 H ng)) (k3.get _ _ (n3 _ (by exact aU 0x71008810c8080110225e402012 H ng)) S8);have L2:∀y,y≠117->lk y (up 117 (.ref E) bx)=lk y bx:=λy h=>by exact (cT (bC h))
 refine ct (ah3 (n:=n) (loc:=up 117 (.ref E) bx) Q wt aiB ((L2 _ ag).trans Yy)) λeX apw L3 e5=>?_;have L4:∀y,y≠117->y≠192->lk y eX=lk y bx:=λy a d=>(L3 y d).trans (L2 y a);have Ti:=hW3.keep k4 (n4 _ (by exact ao 0x6100840bc804430));have s5:=Ti.set (by refine aa z2 ?_;decide) [105] (gP (jb am));rw [BZ KZ] at s5;let G:AH:=V.set (b+16) (.dS (lH l++[([105],gP (jb am))]));have K5:G=V.set (b+16) (.dS (lH l++[([105],gP (jb am))])):=rfl;rw [<-K5] at s5;have k5:aA [b+16] V G:=by refine aa K5 ?_;exact aA.set _ _ _
 have aij:G[b+16]?=some (.dS (lH l++[([105],gP (jb am))])):=by refine aa K5 ?_;rcases Ti with h | ⟨_,h⟩<;>exact dX h
 have n5:∀q,q≠b+16->q∉[b+16]:=λq h=>m1 h;have Et:aA [b+12,b+16] T G:=(k4.mono (by exact eZ [0])).trans (k5.mono (by exact eZ [1]));have yO:∀q,q≠b+12->q≠b+16->q∉[b+12,b+16]:=λq a d=>m2 a d;have Bf:aA [b+12,b+14,b+16] N G:=(k3.mono (by exact eZ [1])).trans (Et.mono (by exact eZ [0,2]));have By:∀q,q≠b+12->q≠b+14->q≠b+16->q∉[b+12,b+14,b+16]:=λq a d e=>m3 a d e;have walk:gj (aH GG (aj GG ai (n+4)) (.seq w3 (.seq Ce (.seq Gf (.seq Gg (.seq Gh (.seq Ge (.seq Cb (.seq Cc (.seq Cd .nil))))))))) loc O)=.ok (.aw [.ref (b+11),.ref (b+13),.ref (b+16)]) G:=by
  have md:gE GG (.ref b) 196 ay=some (.own 1012):=by have:=k1.get _ _ (s8 _ (show b≠Z by exact ak 279378395409 K)) B.d;exact (rz this).trans rfl
  have e2:aj GG ai (n+4) 1012 [.ref b,.str [116,111,112,46,105],.str [114,101,103],.int 4,.bool true,.int 3,.int 0,.int (-1)] ay=.ok (.ref E) N:=e2;have ms:=TG.meth (m:=141) (f:=1004) rfl rfl;have zT:dA (.ref E) 116 N=some (.int 4):=(fZ g2).trans rfl;have ada:dA (.ref E) 116 T=some (.int 4):=(fZ g3i).trans rfl;have em:=Aq (n:=n+3) S8 (by refine aa Q ?_;decide) wt;have e3:aj GG ai (n+4) 1004 [.ref (b+13),.int 4,.none,.int 0,made am] N=.ok (.bool bo) T:=e3;have LW:gE GG (.ref (b+11)) 195 T=some (.own 1015):=(rz DP).trans rfl;have ed:aj GG ai (n+4) 1015 [.ref (b+11),.str [105],.aw [.str [115,105,103],.int 4],.int (-1)] T=.ok .none V:=ed;have tl:gj (aH GG (aj GG ai (n+4)) (.seq Cc (.seq Cd .nil)) eX V)=.ok (.aw [.ref (b+11),.ref (b+13),.ref (b+16)]) G:=by exact ye 1103856992514 λF=>F apw ((L4 193 ag ag).trans W.2.2.2.2) s5 ((L4 143 ag ag).trans W.2.2.1) ((L4 126 ag ag).trans W.2.2.2.1) ((L4 193 ag ag).trans W.2.2.2.2)
  refine bA (e1 ..) ?_;refine bK ?_ tl;exact ye 0x1010101010301010101010103010102 λF=>F W.2.1 md e2 (lq rfl W.2.2.2.1) ms lk_s zT (lq rfl Yy) em e3 (lq rfl W.2.2.1) LW lk_s ada ed (e5 _)
 have J:=λk o=>fW P.len (k:=k) o;have hgs:∀k,k<4->w.gs[k]?=some (vZ l gi k):=by intro k o;show (l.map Rc.g++[gi])[k]?=_;rw [iv (by refine aa (cf ..) (aa (P.len ..) ?_);exact o),iR,J k o];unfold vZ;refine iP (if_neg (by exact ao 0x84018d080111 o)) ?_;rfl
 have M:∀k,k<4->vZ l gi k=(cx l k).g:=λk o=>by unfold vZ;exact (if_neg (by exact ao 0x84018d080111 o))
 have alg:dH (dH va 4 (fc gi)) 4 am 4=am:=by unfold dH;exact (if_pos rfl)
 have hvk:∀k,k<4->dH (dH va 4 (fc gi)) 4 am k=va k:=λk o=>by unfold dH;exact ((if_neg (by exact ao 0x84018d080111 o))).trans (if_neg (by exact ao 0x84018d080111 o))
 have Fx:∀(k:Nat) (y:Rc),l[k]?=some y->mL b k y G:=λk y I=>(uP k y I).keep Bf λq C=>by have:=(uP k y I).hi q C;exact By q (ak 0x18402104310225e402011 this) (ak 0x1c402104310225e402011 this) (ak 0x205e402104310225e402011 this)
 have T5:cO w (vZ l gi 3) (b+13) (b+14) (b+15) mm (c+1) (dH (dH va 4 (fc gi)) 4 am) wa G:=by
  refine aa (M 3 ag) (aa P.g3.symm ?_);exact T3.keep Et (by
   intro q C;simp at C;rcases C with h | h | h | h
   . exact yO q (ak 0x184420043d22100311 h) (ak 0x205e4420063d22100211 h)
   . exact yO q (ak 0x184420043e22100311 h) (ak 0x205e4420063e22100211 h)
   . exact yO q (ak 0x184420043f1f22100311 h) (ak 0x205e4420063f1f22100211 h)
   . have:=(P.mm q h).1;exact yO q (ak 0x18402104310225e402011 this) (ak 0x205e402104310225e402011 this))
 have atp:lH l=[([97],jT 0 (cx l 0)),([98],jT 1 (cx l 1)),([99],jT 2 (cx l 2)),([109],jT 3 (cx l 3))]:=atq P.len;have Jf:(wo b l).en=[([97],cD 0),([98],cD 1),([99],cD 2),([109],cD 3)]:=agB P.len;have Mo:∀k k':Nat,k<4->k'<4->∀r∈(cx l k).refs,∀r'∈(cx l k').refs,k≠k'->r≠r':=by
  intro k k' o Y r hr r' sR bO;rcases kL bO with h | h
  . exact oQ (B.od k k' _ _ h (J k o) (J k' Y) r hr r' sR)
  . exact GU (B.od k' k _ _ h (J k' Y) (J k o) r' sR r hr)
 refine A4 w (⟨b+16,λk=>(cx l k).wr,λk=>(cx l k).br⟩) (vZ l gi) gi (c+1) _ (λk j=>(cx l k).U.getD j []) G ⟨walk,⟨⟨ir,Bf.get _ _ (By _ (ak 0x61108018c400111 K) (ak 0x71108018c400111 K) (ak 0x8179108018c400111 K)) (k2.get _ _ (m2 (ak 0x9108018c400111 K) (ak 0x51108018c400111 K)) g1)⟩,K,rfl,⟨rfl,rfl,rfl,rfl⟩,?_,?_,T5,?_,?_,hgs,?_,?_,?_,?_,?_,?_,?_,?_,⟨num,Et.get _ _ (yO _ (ao 0x6100ac804630) (ao 0x817900ac804630)) DP⟩⟩,⟨?_,?_⟩,(by have:=P.c;exact ao 0xf179120120c50bc80011 this)⟩
 . have J8:=Et.get _ _ (yO _ (ao 0x6100ac804630) (ao 0x817900ac804630)) DP;have hD5:=Bf.get _ _ (By b (ao 104155055664) (ao 121334924848) (ao 35589174855216)) (X.get _ _ (m3 (ak 279378395409 K) (ao 9665775152) (ao 86975186480)) B.d);have x1:eW G b 87 112 (.ref (b+1)):=⟨fD b,hD5,rfl⟩;have x2:G[b+1]?=some (.lst ((l.map Rc.r++[E]).map .ref)):=Bf.get _ _ (By _ (ao 0x610084804630) (ao 0x710084804630) (ao 0x81790084804630)) DK;have x3:∀(k r:Nat) (g:Sg),(l.map Rc.r++[E])[k]?=some r->(l.map Rc.g++[gi])[k]?=some g->G[r]?=some (.ba 86 (g.fields k)):=by
    intro k r g A D;have kX:r∈l.map Rc.r++[E]:=gW A;have:b+17<=r:=by
     rcases eG.mp kX with h | h
     . refine aQ (gQ.mp h) λy I af6=>?_;subst af6;obtain ⟨i,hi,e⟩:=ve I;exact (B.rc i y (by rw [dO hi,e])).hi _ (by simp [Rc.refs])
     . have:r=E:=by simpa using h
       exact cz 0x44bc9848320225e4c201104004400313 this R H
    exact Bf.get _ _ (By _ (ak 0x18402104310225e402011 this) (ak 0x1c402104310225e402011 this) (ak 0x205e402104310225e402011 this)) (S2.sg k r g A D)
   have x4:eW G (b+11) 88 145 (.ref b):=⟨fS b (b+12) num,J8,rfl⟩;have x5:eW G (b+11) 88 180 (.ref (b+12)):=⟨fS b (b+12) num,J8,rfl⟩;have x6:rY G (b+11) 88 151 1016:=⟨fS b (b+12) num,J8,rfl,rfl⟩;have x7:G[b+12]?=some (.dS w.en):=k5.get _ _ (n5 _ (ao 0x817900b0804630)) aii;exact ⟨x1,x2,x3,x4,x5,x6,x7,S2.ln⟩
 . refine ⟨?_,uf,rfl,rfl,rfl,rfl⟩;show lk [105] ((wo b l).en++[([105],cD 4)])=some (cD 4);refine aa Jf ?_;rfl
 . refine ⟨?_,λk o=>(Fx k _ (J k o)).wl,λk o j r hj=>?_,λk o=>(P.mem k o).2.1,?_⟩
   . show G[b+16]?=_;refine aa aij (aa atp (aa alg ?_));show some (aV.dS [_,_,_,_,_])=some (aV.dS [_,_,_,_,_]);rfl
   . refine kI ((Fx k _ (J k o)).bt j r hj) λu A D h3 h5=>?_;have hu:(cx l k).U.getD j []=u:=by simp only [rS,A];rfl
     show G[r]?=some (.lst (a9 ((cx l k).U.getD j [])))/\((cx l k).U.getD j []).length=(vZ l gi k).w/\∀b∈(cx l k).U.getD j [],b<4;refine aa hu (aa (M k o) ?_);exact ⟨D,h3,h5⟩
   . refine qg P.m3 λf ll A _ h3=>dE f ll ⟨(by refine bA (M 3 ag) ?_;exact A),h3⟩
 . refine ⟨λk o=>?_,λk o=>?_,λk o=>?_,λk o=>?_,λf ll h=>?_⟩
   . refine aa (M k o) ?_;exact (P.w k o).1
   . refine aa (M k o) ?_;exact P.bd k o
   . refine aa (M k o) ?_;exact P.sc k o
   . refine bA (M k (ao 0x84028cc80111 o)) ?_;exact (P.mem k o).1
   . rw [M 3 ag] at h;refine qg P.m3 λf' ll' A D _=>?_;rw [A] at h;cases h;exact D
 . intro k o;show lk (bH k) ((wo b l).en++[([105],cD 4)])=some (cD k);refine aa Jf <| pX rfl rfl rfl rfl k o
 . refine ⟨?_,?_⟩
   . show lk [112] ((wo b l).en++[([105],cD 4)])=none;refine aa Jf ?_;rfl
   . show ((wo b l).en++[([105],cD 4)]).length<=10;refine aa eC (aa z1 ?_);decide
 . intro k o;refine bA (M k o) ?_;exact P.net k o
 . intro k o;refine aa (M k o) ?_;exact (P.w k o).2
 . refine bA (M 1 ag) ?_;exact P.sb
 . refine ⟨λr hr=>?_,λk o=>(Fx k _ (J k o)).hi _ (by simp [Rc.refs]),λk o r hr=>?_⟩
   . have hr:r∈l.map Rc.r++[E]:=hr;rcases eG.mp hr with h | h
     . refine aQ (gQ.mp h) λy I af1=>?_;subst af1;obtain ⟨i,hi,e⟩:=ve I;exact (B.rc i y (by rw [dO hi,e])).hi _ (by simp [Rc.refs])
     . have:r=E:=by simpa using h
       exact cz 0x44bc9848320225e4c201104004400313 this R H
   . have hr:r∈(cx l k).br:=hr;have kx:r∈(cx l k).refs:=by simp [Rc.refs,hr]
     have je:=(B.rc k _ (J k o)).lt r kx;have nd:=(B.rc k _ (J k o)).nd;unfold Rc.refs at nd;rw [jL,jL] at nd;refine ⟨(B.rc k _ (J k o)).hi r kx,λh=>?_,λk' Y=>?_⟩
     . have h:r∈l.map Rc.r++[E]:=h;rcases eG.mp h with h | h
       . refine aQ (gQ.mp h) λy I e=>?_;obtain ⟨i,hi,e'⟩:=ve I;have TN:i<4:=by refine aa P.len.symm ?_;exact hi
         have UJ:y=cx l i:=by have:=J i TN;rw [dO hi,e'] at this;exact eM this
         by_cases TO:k=i
         . subst TO;rw [UJ] at e;exact nd.1 (by refine aa e ?_;exact cu _ hr)
         . exact Mo k i o TN r kx y.r (by refine aa UJ ?_;simp [Rc.refs]) TO e.symm
       . have:r=E:=by simpa using h
         exact aU 0x41001200044400313 this je R
     . show r≠(cx l k').wr;by_cases pJ:k=k'
       . subst pJ;intro q;rw [q] at hr;exact nd.2.1 hr
       . exact Mo k k' o Y r kx _ (by simp [Rc.refs]) pJ
 . intro k k' j j' r o Y A D;have A:(cx l k).br[j]?=some r:=A;have D:(cx l k').br[j']?=some r:=D;have m1:r∈(cx l k).refs:=by simp [Rc.refs,gW A]
   have m2:r∈(cx l k').refs:=by simp [Rc.refs,gW D]
   by_cases pJ:k=k'
   . subst pJ;have nd:=(B.rc k _ (J k o)).nd;unfold Rc.refs at nd;rw [jL,jL] at nd;refine ⟨rfl,?_⟩;have l1:=(ez.mp A).1;exact (List.getElem?_inj l1 nd.2.2).mp (A.trans D.symm)
   . exact absurd rfl (Mo k k' o Y r m1 r m2 pJ)
 . intro q C;refine j5 (P.mm q C) λA D h3 Q=>⟨A,λh=>?_,λk o=>⟨λe=>?_,λh=>?_⟩⟩
   . have h:q∈l.map Rc.r++[E]:=h;rcases eG.mp h with h | h
     . refine aQ (gQ.mp h) λy I e=>?_;obtain ⟨i,hi,e'⟩:=ve I;exact Q i y (by rw [dO hi,e']) (by refine aa e.symm ?_;simp [Rc.refs])
     . have:q=E:=by simpa using h
       exact aU 0x41001200044400313 this D R
   . have e:q=(cx l k).wr:=e;exact Q k _ (J k o) (by refine aa e ?_;simp [Rc.refs])
   . have h:q∈(cx l k).br:=h;exact Q k _ (J k o) (by simp [Rc.refs,h])
 . intro k o;refine (hvk k (by exact ao 0x84028cc80111 o)).trans (aa ((P.mem k o).2.2) ?_);rfl
 . intro p hp;have hp:p<(cx l 3).br.length:=hp;have ui:=(Fx 3 _ (J 3 ag)).ln;have hu:(cx l 3).U[p]?=some ((cx l 3).U[p]'(aU 0x820a3004044400212 ui hp)):=dO _;refine (P.u3 p _ hu).trans ?_;show _=(cx l 3).U.getD p [];simp only [rS,hu];rfl
theorem ah0 {xs:List Nat} (h:O[Z]?=some (.lst (a9 xs))):∃b w t gk gi mm c va wa U O',aj GG ai (n+5) 73 [.ref Z] O=.ok (.aw [.ref (b+11),.ref (b+13),.ref (b+16)]) O'/\WF b Z w t gk gi mm c va wa U O'/\qB (t.br 3).length va wa U/\c<=30:=by refine kI (atg (n:=n) h) λm B k1 p e1=>Nr (ath (n:=n) (loc:=[(184,.ref Z),(145,.ref O.length),(143,.ref (O.length+11)),(126,.ref (O.length+13)),(193,.ref (O.length+16))]) B ⟨rfl,rfl,rfl,rfl,rfl⟩) λl g3 mm c va wa k o P e k2 e2=>Nr (w_end (n:=n) P e) λw t gk gi g j U f i F a d=>⟨O.length,w,t,gk,gi,mm,g,j,wa,U,f,?_,F,a,d⟩;refine afO.trans ?_;show gj (aH GG (aj GG ai (n+4)) Z7 _ O)=_;unfold Z7;refine bA (e1 ..) (bA (sq e2 ..) ?_);exact i
end
variable {r1 r2:Nat}
noncomputable def ft (b:Nat) (w:Wo) (t:Lr) (mm:Option Nat):List Nat:=[b,b+1,b+11,b+12,b+13,b+14,b+15,b+16]++w.rs++[t.wr 0,t.wr 1,t.wr 2,t.wr 3]++(t.br 0++t.br 1++t.br 2++t.br 3)++mm.toList
section
variable {gk:Nat->Sg}
theorem Nd (h:r∈[b,b+1,b+11,b+12,b+13,b+14,b+15,b+16]):r∈ft b w t mm:=gw _ (gw _ (gw _ (gw _ h)))
theorem th (k:Nat) (h:[b,b+1,b+11,b+12,b+13,b+14,b+15,b+16][k]?=some r:=by rfl):r∈ft b w t mm:=Nd (gW h)
theorem wfM (h:r∈mm.toList):r∈ft b w t mm:=j8 _ h
theorem aac (h:r∈[b,b+1,b+11,b+12]++w.rs):r∈ft b w t mm:=
 (eG.mp h).elim (λh=>Nd (gw [b+13,b+14,b+15,b+16] h)) λh=>gw _ (gw _ (gw _ (j8 _ h)))
theorem atk (h:r∈[b+13,b+14,b+15]++mm.toList):r∈ft b w t mm:=
 (eG.mp h).elim (λh=>Nd (j8 [b,b+1,b+11,b+12] (gw [b+16] h))) wfM
theorem Ng (a:k<4):t.wr k∈ft b w t mm:=
 gw _ (gw _ (j8 _ (gW (i:=k) (pX rfl rfl rfl rfl k a))))
theorem PZ (a:k<4):r∈t.br k->r∈t.br 0++t.br 1++t.br 2++t.br 3:=
 pX (λh=>gw _ (gw _ (gw _ h))) (λh=>gw _ (gw _ (j8 _ h))) (λh=>gw _ (j8 _ h)) (j8 _) k a
theorem Nf (a:k<4) (h:r∈t.br k):r∈ft b w t mm:=gw _ (j8 _ (PZ a h))
theorem adU {P:Prop} (h:r∈t.br 0++t.br 1++t.br 2++t.br 3) (hB:∀k,k<4->r∈t.br k->P):P:=
 (eG.mp h).elim (λh=>(eG.mp h).elim (λh=>(eG.mp h).elim (hB 0 ag) (hB 1 ag)) (hB 2 ag)) (hB 3 ag)
theorem aab {P:Prop} (h:r∈ft b w t mm) (d:r∈[b,b+1,b+11,b+12]++w.rs->P) (f:r∈[b+13,b+14,b+15]++mm.toList->P) (c:r=b+16->P) (a:∀k,k<4->r=t.wr k->P) (hB:∀k,k<4->r∈t.br k->P):P:=by
 refine (eG.mp h).elim (λh=>(eG.mp h).elim (λh=>(eG.mp h).elim (λh=>(eG.mp h).elim (λh=>?_) λh=>d (j8 _ h)) λh=>?_) λh=>adU h hB) λh=>f (j8 _ h)
 . refine ((eG).mp h).elim (λh=>d (gw _ h)) λh=>((eG).mp h).elim (λh=>f (gw _ h)) λh=>c (xb.mp h)
 . refine a8 (NZ.mp h) λk e=>?_
   match k,e with
   |0,e=>exact a 0 ag (eM e).symm
   |1,e=>exact a 1 ag (eM e).symm
   |2,e=>exact a 2 ag (eM e).symm
   |3,e=>exact a 3 ag (eM e).symm
   |k+4,e=>contradiction
theorem WF.refs (F:WF b Z w t gk gi mm c va wa U O):w.refs=[b,b+1,b+11,b+12]++w.rs:=by refine j5 F.rf λa d e f=>?_;unfold Wo.refs;exact aa a (aa d (aa e (aa f rfl)))
theorem WF.keep (F:WF b Z w t gk gi mm c va wa U O) (kk:aA R O O') (a:∀r∈ft b w t mm,r∉R) (row:∃xs,O'[Z]?=some (.lst (a9 xs))):WF b Z w t gk gi mm c va wa U O' where
 row:=row
 rb:=F.rb
 wd:=F.wd
 rf:=F.rf
 H:=F.H.keep kk λr hr=>a r (aac (F.refs▸hr))
 Y:=F.Y
 T:=F.T.keep kk λr hr=>a r (atk hr)
 R:=F.R.keep kk ⟨by refine aa F.wd ?_;exact a _ (th 7),λk d=>a _ (Ng d),λk d r hr=>a _ (Nf d hr)⟩
 G:=F.G
 gs:=F.gs
 en:=F.en
 np:=F.np
 net:=F.net
 wz:=F.wz
 sb:=F.sb
 hr:=F.hr
 inj:=F.inj
 md:=F.md
 sc:=by refine a8 F.sc λnum h=>⟨num,kk.get _ _ (a _ (th 2)) h⟩
theorem WF.lt (F:WF b Z w t gk gi mm c va wa U O):∀r∈ft b w t mm,r<O.length:=λr hr=>
 aab hr (λh=>F.H.lt r (F.refs▸h)) (F.T.lt r) (λh=>h▸F.wd▸bZ F.R.wd) (λk a h=>h▸bZ (F.R.wl k a)) λk a h=>by refine a8 (NZ.mp h) λi hi=>bZ (F.R.bt k a i r hi).1
def lG (va wa:Nat->List Nat) (nw:Nat):List AV:=[made (va 0),made (va 1),made (va 2)]++(dQ nw).map λp=>made (wa p)
set_option smartUnfolding false in
theorem ahV (F:WF b Z w t gk gi mm c va wa U O):aj GG ai (n+4) 78 [.ref (b+13),.ref (b+16)] O=.ok (.ref O.length) (O++[.lst (lG va wa (t.br 3).length)]):=by
 have d:∀az:List AV,WF b Z w t gk gi mm c va wa U (O++[.lst az]):=λaz=>F.keep (aA.push [] O [.lst az]) (by exact λ_ _=>bP) (by obtain ⟨xs,h⟩:=F.row;exact ⟨xs,bI h⟩);have C:∀(az:List AV) (x:AV),(O++[aV.lst az]).set O.length (.lst (az++[x]))=O++[.lst (az++[x])]:=λaz x=>by refine aa (N1 _ _ (bT _) ..) (aa (oR ..) ?_);rfl
 have key:∀(k:Nat) (az:List AV),k<3->cW (iY t gk k) (.int 0) (O++[.lst az])=some (.int k):=λk az _=>rfl;have it:∀(k:Nat) (az:List AV),k<4->cW (.ref (b+16)) (.str (bH k)) (O++[.lst az])=some (iY t gk k):=λk az g=>by have:=(d az).R.item g;rwa [F.wd] at this
 have mg:∀az:List AV,gE GG (.ref (b+13)) 13 (O++[.lst az])=some (.own 1002):=λaz=>(d az).T.meth rfl rfl;have T:∀az:List AV,gE GG (.ref (b+13)) 125 (O++[.lst az])=some (.own 1003):=λaz=>(d az).T.meth (m:=125) rfl rfl;have K:∀(k:Nat) (az:List AV),k<3->aj GG ai (n+3) 1002 [.ref (b+13),.int k] (O++[.lst az])=.ok (made (va k)) (O++[.lst az]):=λk az g=>Jo (n:=n) (d az).H.sgs (d az).T (F.gs k (by exact ao 0x84028cc80111 g)) (F.G.mem k g);have L:∀(p:Nat) (az:List AV),aj GG ai (n+3) 1003 [.ref (b+13),.int 3,.int p] (O++[.lst az])=.ok (made (wa p)) (O++[.lst az]):=λp az=>RF (n:=n) (d az).H.sgs (d az).T (F.gs 3 ag) p;have r:∀(k:Nat) (az:List AV) (loc:aB),k<3->az.length<10->lk 206 loc=some (.ref O.length)->lk 126 loc=some (.ref (b+13))->lk 193 loc=some (.ref (b+16))->lk 177 loc=some (.str (bH k))->
  aH GG (aj GG ai (n+3)) (.seq (.eO (.meth (.v 206) 10 (bw (.meth (.v 126) 13 (bw (.sub (.sub (.v 193) (.v 177)) (.ci 0))))))) .nil) loc (O++[.lst az])=.next loc (O++[.lst (az++[made (va k)])]):=by
  intro k az loc g R y z A E;have B:=m_append (cI O (.lst az));have j:=ck_append (cl:=aj GG ai (n+3)) (v:=made (va k)) (cI O (.lst az)) (show az.length<SZ by unfold SZ;exact ao 0x30d40be4028e880111 R);rw [C] at j;exact goS 0x10201010101010102 λF=>F y B z (mg az) A E (it k az (by exact ao 0x84028cc80111 g)) (K k az g) j
 have M:∀s:AH,dG (.str [97,98,99]) s=4:=λ_=>rfl;have I:=(qV (n:=3) (i:=0) (asn:=gL 177) (it:=.str [97,98,99]) (loc:=[(126,.ref (b+13)),(193,.ref (b+16)),(206,.ref O.length)]) rfl rfl (r 0 [] [(126,.ref (b+13)),(193,.ref (b+16)),(206,.ref O.length),(177,.str [97])] ag ag rfl rfl rfl rfl)).trans ((qV rfl rfl (r 1 _ [(126,.ref (b+13)),(193,.ref (b+16)),(206,.ref O.length),(177,.str [98])] ag (by simp) rfl rfl rfl rfl)).trans ((qV (v:=.str [99]) rfl rfl (r 2 _ [(126,.ref (b+13)),(193,.ref (b+16)),(206,.ref O.length),(177,.str [99])] ag (by simp) rfl rfl rfl rfl)).trans (sG rfl)));have w0:[]++[made (va 0)]++[made (va 1)]++[made (va 2)]=lG va wa 0:=by unfold lG;simp
 rw [w0] at I;have q:(t.br 3).length<=10:=by refine j6 (F.R.nm) λf ll P G=>?_;have:=F.G.m3 f ll P;exact Internal.lh (λe=>uC 0x144020c008a23d089108010991102008e814 this.1 this.2.2.2 G e) (λe=>uC 0xa201060045c23d0891080108823a04c80814 this.2.1 this.2.2.1 G e)
 have D:∀az:List AV,cW (.ref (b+16)) (.str [109]) (O++[.lst az])=some (iY t gk 3):=λaz=>it 3 az ag;have W:∀az:List AV,cW (iY t gk 3) (.int 6) (O++[.lst az])=some (.ref (t.wr 3)):=λaz=>rfl;have S:∀az:List AV,cW (iY t gk 3) (.int 0) (O++[.lst az])=some (.int 3):=λaz=>rfl;have ln:∀az:List AV,fQ 0 [.ref (t.wr 3)] (O++[.lst az])=.ok (.int (t.br 3).length) (O++[.lst az]):=λaz=>by rw [mj (bI (F.R.wl 3 ag)),cf]
 refine qg (pq (it:=.cj 0 (t.br 3).length 1) (asn:=gL 191) (b:=aH GG (aj GG ai (n+3)) (.seq (.eO (.meth (.v 206) 10 (bw (.meth (.v 126) 125 (bf (.sub (.sub (.v 193) (.cs [109])) (.ci 0)) (.v 191)))))) .nil)) (l:=gH 0 1 (t.br 3).length)
  (λi a O'=>O'=O++[.lst (lG va wa i)]/\∀x,x≠191->lk x a=lk x [(126,AV.ref (b+13)),(193,.ref (b+16)),(206,.ref O.length),(177,.str [99])])
  (λi a O' _=>uS (by exact ao 0x30d40be4028e880011 q)) (λi v a O' Q N=>by
   obtain ⟨rfl,o⟩:=N;obtain ⟨rfl,hi⟩:=wO Q;have wl:(lG va wa i).length=3+i:=by unfold lG;simp;exact bV (ao 0x328489120124830) (ao 0x9122402480194830)
   have B:=m_append (cI O (.lst (lG va wa i)));have j:=ck_append (cl:=aj GG ai (n+3)) (v:=made (wa i)) (cI O (.lst (lG va wa i))) (by refine aa wl ?_;unfold SZ;exact ak 0x30d40be40194a3a22004400112 hi q);rw [C] at j;have V:lG va wa i++[made (wa i)]=lG va wa (i+1):=by unfold lG;simp only [abw,kJ,ju];rfl
   rw [V] at j;refine d9 _ (up 191 (.int i) a) _ ⟨rfl,.inl ?_,rfl,λx H=>by refine (cT (bC H)).trans ?_;exact o x H⟩;have y:lk 206 (up 191 (.int i) a)=some (.ref O.length):=by refine bK (ic (by rfl)) (bK (o _ ag) ?_);rfl
   have z:lk 126 (up 191 (.int i) a)=some (.ref (b+13)):=by refine bK (ic (by rfl)) (bK (o _ ag) ?_);rfl
   have A:lk 193 (up 191 (.int i) a)=some (.ref (b+16)):=by refine bK (ic (by rfl)) (bK (o _ ag) ?_);rfl
   have E:lk 191 (up 191 (.int i) a)=some (.int i):=lk_s;exact goS 0x1010101010101010102 λF=>F y B z (T _) A (D _) (S _) lk_s (L _ _) j) (t.br 3).length 0 ((t.br 3).length+1) [(126,.ref (b+13)),(193,.ref (b+16)),(206,.ref O.length),(177,.str [99])] (O++[.lst (lG va wa 0)]) (by refine bK ?_ (gI ..).symm;exact bV (ao 84016) (ao 10487856)) (ao 9665776176) ⟨rfl,λ_ _=>rfl⟩) λa O' e J o=>?_
 subst J;rw [gI] at e;have u:lk 206 a=some (.ref O.length):=by refine (o _ ag).trans ?_;rfl
 exact sJ 3302846759941 λF=>F (jU (M _) I) (D _) (ln _) (ze (show (t.br 3).length<100000 by exact ao 0x30d40be4028e880011 q)) (jU (sI (show (t.br 3).length<100000 by exact ao 0x30d40be4028e880011 q)) e) u
theorem ag5 (F:WF b Z w t gk gi mm c va wa U O):∃O',aj GG ai (n+2) 79 [.ref (b+16)] O=.ok (.ref (O.length+2)) O'/\aA [] O O'/\O'[O.length+2]?=some (.lst ([made (U 0 0),made (U 1 0),made (U 2 0)]++(dQ (t.br 3).length).map λp=>made (U 3 p))):=by
 have D:∀(m:AH) (k:Nat),k<4->cW (.ref (b+16)) (.str (bH k)) (O++m)=some (iY t gk k):=λm k g=>by have K:=F.keep (aA.push [] O m) (by exact λ_ _=>bP) (by refine a8 (F.row) λxs h=>?_;exact ⟨xs,bI h⟩);have:=K.R.item g;rwa [F.wd] at this
 have G:∀(m:AH) (k j r:Nat),k<4->(t.br k)[j]?=some r->aj GG ai (n+1) 70 [.ref r] (O++m)=.ok (made (U k j)) (O++m):=λm k j r g q=>by refine fH (F.R.bt k g j r q) λA H M=>?_;have:=(F.wz k g).2;exact Aq (bI A) (ak 0x1e1791083002086880012 this H) M
 have z:=vI (O:=O) (it:=.str [97,98,99]) (f:=λv O=>bh GG (aj GG ai (n+1)) (.call 70 (bw (.sub (.sub (.sub (.v 193) (.v 177)) (.ci 6)) (.ci 0)))) ((177,v)::[(193,.ref (b+16))]) O) (h:=λv=>aS (made (U 2 0)) v λs=>if s=[97] then made (U 0 0) else if s=[98] then made (U 1 0) else made (U 2 0)) (l:=[.str [97],.str [98],.str [99]]) (λaz=>rfl) (λv x az=>by
  have go:∀k,k<3->bh GG (aj GG ai (n+1)) (.call 70 (bw (.sub (.sub (.sub (.v 193) (.v 177)) (.ci 6)) (.ci 0)))) ((177,.str (bH k))::[(193,.ref (b+16))]) (O++[.lst az])=.ok (made (U k 0)) (O++[.lst az]):=by intro k g;refine a8 (F.R.first (k:=k) (ao 0x84028cc80111 g)) λrb E=>?_;have S:cW (iY t gk k) (.int 6) (O++[.lst az])=some (.ref (t.wr k)):=rfl;have P:cW (.ref (t.wr k)) (.int 0) (O++[.lst az])=some (.ref rb):=jD (bI (F.R.wl k (ao 0x84028cc80111 g))) (by rw [iR,E];rfl);exact kr 66051 λF=>F (D [.lst az] k (ao 0x84028cc80111 g)) P (G [.lst az] k 0 rb (by exact ao 0x84028cc80111 g) E)
  simp only [cF,bP,or_false] at x;rcases x with rfl | rfl | rfl
  . exact go 0 ag
  . exact go 1 ag
  . exact go 2 ag) ag 4 ag
 let a:List AV:=[made (U 0 0),made (U 1 0),made (U 2 0)];have z:iX (.str [97,98,99]) O.length (λv O=>bh GG (aj GG ai (n+1)) (.call 70 (bw (.sub (.sub (.sub (.v 193) (.v 177)) (.ci 6)) (.ci 0)))) ((177,v)::[(193,.ref (b+16))]) O) 4 0 (O++[.lst []])=.ok (.ref O.length) (O++[.lst a]):=z;have J:(t.br 3).length<=10:=by refine j6 (F.R.nm) λf ll N I=>?_;have:=F.G.m3 f ll N;exact Internal.lh (λe=>uC 0x144020c008a23d089108010991102008e814 this.1 this.2.2.2 I e) (λe=>uC 0xa201060045c23d0891080108823a04c80814 this.2.1 this.2.2.1 I e)
 have u:(O++[aV.lst a])[t.wr 3]?=some (.lst ((t.br 3).map .ref)):=bI (F.R.wl 3 ag);let C:AV->AV:=λv=>match v with | .ref r=>made (U 3 ((t.br 3).idxOf r)) | v=>v
 have o:=vI (it:=.ref (t.wr 3)) (f:=λv O=>bh GG (aj GG ai (n+1)) (.call 70 (bw (.v 188))) ((188,v)::[(193,.ref (b+16))]) O) (h:=C) (λaz=>yC (bI u)) (λv x az=>by
  refine aQ (gQ.mp x) λr hr R=>?_;subst R;have q:(t.br 3)[(t.br 3).idxOf r]?=some r:=by have:=List.idxOf_lt_length_of_mem hr;rw [dO this];simp
  have:=G ([.lst a]++[.lst az]) 3 _ r ag q;rw [<-ju] at this;exact kr 2 λF=>F this) (by refine aa (cf ..) ?_;unfold SZ;exact ao 0x30d40be4020e880011 J) ((t.br 3).length+1) (by simp)
 have y:(O++[aV.lst a]).length=O.length+1:=eC;rw [y] at o;have B:(t.br 3).Nodup:=by simp only [List.Nodup,abv];intro i j hi q Q h;exact absurd (F.inj 3 3 i j _ ag ag (dO hi) (by refine iP h ?_;exact dO q)).2 (ak 35191020060945 Q)
 have e2:((t.br 3).map AV.ref).map C=(dQ (t.br 3).length).map λp=>made (U 3 p):=by
  refine fO.trans ?_;apply vd
  . simp
  . intro i A H;have hi:i<(t.br 3).length:=by simpa using A
    simp only [abk,abl,Gw];show made (U 3 ((t.br 3).idxOf (t.br 3)[i]))=_;exact aa (List.Nodup.idxOf_getElem B i hi) rfl
 rw [e2] at o;let d:List AV:=(dQ (t.br 3).length).map λp=>made (U 3 p);have o:=o;have g1:(O++[aV.lst a]++[aV.lst d])[O.length]?=some (.lst a):=bI (cI _ _);have g2:(O++[aV.lst a]++[aV.lst d])[O.length+1]?=some (.lst d):=by have:=cI (O++[aV.lst a]) (aV.lst d);rwa [y] at this
 have add:dg .Add (.ref O.length) (.ref (O.length+1)) (O++[aV.lst a]++[aV.lst d])=.ok (.ref (O.length+2)) (O++[aV.lst a]++[aV.lst d]++[.lst (a++d)]):=by refine aa (show O.length+2=(O++[aV.lst a]++[aV.lst d]).length by rw [eC,y];rfl) ?_;exact Py g1 g2 (by show 3+d.length<=SZ;rw [cf,qm];unfold SZ;exact ao 0xc3502f9006520e880011 J)
 refine ⟨_,?_,((aA.push _ _ _).trans (aA.push _ _ _)).trans (aA.push _ (O++[aV.lst a]++[aV.lst d]) [.lst (a++d)]),?_⟩
 . have i3:=D [.lst a] 3 ag;rw [<-y] at o add;have L:dG (.ref (t.wr 3)) (O++[aV.lst a])=(t.br 3).length+1:=by rw [l0 u,cf]
   exact aM 16908802 λF=>F (yd (rfl:dG (.str [97,98,99]) O=4) z) i3 (yd L o) add
 . have:=cI (O++[aV.lst a]++[aV.lst d]) (.lst (a++d));rwa [show (O++[aV.lst a]++[aV.lst d]).length=O.length+2 by simp] at this
theorem anc (m) (f:List Nat->List Nat) (bs:List (List Nat)):(bs.map made).mapM (fs (m+2) O)=some (bs.map λl=>xf [.int l.length,.int (bN eT l:Nat),.int (bN eJ l:Nat)]):=by
 induction bs with
 |nil=>rfl
 |cons a bs b=>refine aa gc (aa Cv (aa b ?_));rfl
theorem agI {bs:List (List Nat)} (b:O[r1]?=some (.lst (bs.map made))) (f:O[r2]?=some (.lst (bs.map made))):cG .NotEq (.ref r1) (.ref r2) O=some false:=by
 show (ph O (.ref r1) (.ref r2)).map (!·)=_;have hr:∀r,O[r]?=some (.lst (bs.map made))->fs 8 O (.ref r)=some (.list (bs.map λl=>xf [.int l.length,.int (bN eT l:Nat),.int (bN eJ l:Nat)])):=λr h=>BK h (anc 5 id _);have g:fP (.list (bs.map λl=>xf [.int l.length,.int (bN eT l:Nat),.int (bN eJ l:Nat)]))=true:=by
  have c:∀bs:List (List Nat),mC (bs.map λl=>xf [.int l.length,.int (bN eT l:Nat),.int (bN eJ l:Nat)])=true:=by
   intro bs;induction bs with
   |nil=>simp [mC]
   |cons x xs a=>simp [mC,rV,a]
  have d:qt (bs.map λl=>xf [.int l.length,.int (bN eT l:Nat),.int (bN eJ l:Nat)])<=2:=by
   clear b f hr;induction bs with
   |nil=>simp [qt]
   |cons x xs a=>simp [qt,tH];lia
  unfold fP;simp only [rV,c];simp [tH];exact ao 0x7e5e4020c880011 d
 refine aa (Am (hr r1 b) (hr r2 f) g g) ?_;have e:kM (.list (bs.map λl=>xf [.int l.length,.int (bN eT l:Nat),.int (bN eJ l:Nat)])) (.list (bs.map λl=>xf [.int l.length,.int (bN eT l:Nat),.int (bN eJ l:Nat)]))=true:=by
  simp only [kM];clear b f hr g;induction bs with
  |nil=>simp [vi]
  |cons x xs a=>simp [vi,kM,a]
 refine aa e ?_;rfl
end
variable {P:Nat} {w0:Wo}
section
variable {l:Int} {w:Nat}
noncomputable def tc (o:List Nat) (z:Int×Nat):List Nat:=if 0<=z.1 then o.set z.1.toNat z.2 else o
noncomputable def rO (W:Nat):Int->List Nat->List (Int×Nat)
 |_,[]=>[]
 |l,b::bs=>(if 0<=l/\l<W then l else -1,b)::rO W (l+1) bs
theorem apr (l) (o):dN l [] o=o:=by
 apply vd
 . exact (oB ..)
 . intro i a b;have:∀a,(dN l [] o)[i]'a=if l<=i/\(i:Int)<l+([]:List Nat).length then ([]:List Nat).getD ((i:Int)-l).toNat 0 else o[i]:=λa=>NW ..
   rw [this,if_neg (by intro q;have:=q.2;simp at this;exact dw 0x701020007912 this q.1)]
theorem BJ (l) (p o) (i:Nat) (h1) (a:i<o.length):(dN l p o)[i]=if l<=i/\(i:Int)<l+p.length then p.getD ((i:Int)-l).toNat 0 else o[i]:=NW ..
theorem RP (o):∀bs l,(rO o.length l bs).foldr (λz o=>tc o z) o=dN l bs o:=by
 intro l;induction l with
 |nil=>intro l;refine aa (apr ..) ?_;rfl
 |cons b bs g=>
  intro l;show tc ((rO o.length (l+1) bs).foldr (λz o=>tc o z) o) (if 0<=l/\l<(o.length:Int) then l else -1,b)=_;refine aa (g (l+1)) ?_;unfold tc;apply vd
  . (repeat' split)<;>simp [oB]
  . intro i h f;have hi:i<o.length:=by rw [oB] at f;exact f
    refine bK ?_ (BJ l (b::bs) o i f hi).symm;by_cases d:0<=l/\l<(o.length:Int)
    . simp only [if_pos d,if_pos d.1];refine (List.getElem_set ..).trans ?_;by_cases c:l.toNat=i
      . (refine (if_pos c).trans ?_;rw [if_pos ⟨by exact dJ 0x2380c180e0204400212 c (lL _),by simp;exact jm 0x1243a00847d18001e84400312 c (f9 (cJ 60330874897 d.1))⟩,show ((i:Int)-l).toNat=0 by exact bV (jm 0x241060007a10023d21e84400313 c (f9 (dJ 0x11e81c180e0204400212 c (lL _))) (f9 (cJ 60330874897 d.1))) (ao 10288)]);rfl
      . refine bK (if_neg c) (bK (BJ (l+1) bs o i (by rw [oB];exact hi) hi) ?_);by_cases a:l+1<=i/\(i:Int)<l+1+bs.length
        . rw [if_pos a,if_pos ⟨by exact dw 0x380c180e2402811 a.1,by simp;exact dJ 0x244740100fa311c4804807911 a.2⟩,show ((i:Int)-l).toNat=((i:Int)-(l+1)).toNat+1 from ZV (dw 0x240201e81c180e2402811 a.1) (dz (dw 0x24480403d40007b830) (dw 0x7a24480403d5830))];rfl
        . rw [if_neg a,if_neg (λq=>a ⟨by exact (kL c).elim (λe=>dJ 0x8e2402c18800220380812 (lL _) e) (λe=>iu (dJ 0x100044008f420380813 q.1 (f9 (cJ 60330874897 d.1)) e)),by have:=q.2;simp at this;exact dJ 0x238900900fa31223a00807911 this⟩)]
    . simp only [if_neg d,show ¬(0:Int)<=-1 by decide,if_false];rw [BJ (l+1) bs o i (by rw [oB];exact hi) hi];by_cases a:l+1<=i/\(i:Int)<l+1+bs.length
      . rw [if_pos a,if_pos ⟨by exact dw 0x380c180e2402811 a.1,by simp;exact dJ 0x244740100fa311c4804807911 a.2⟩,show ((i:Int)-l).toNat=((i:Int)-(l+1)).toNat+1 from ZV (dw 0x240201e81c180e2402811 a.1) (dz (dw 0x24480403d40007b830) (dw 0x7a24480403d5830))];rfl
      . rw [if_neg a,if_neg (λq=>by have:=q.2;simp at this;exact a ⟨by lia,by exact dJ 0x238900900fa31223a00807911 this⟩)]
theorem Yt {p o:List Nat} (h:l+p.length<=0\/(o.length:Int)<=l):dN l p o=o:=by
 apply vd
 . exact (oB ..)
 . intro i a b;exact (BJ l p o i a b).trans (if_neg (by lia))
theorem aui (W):∀bs l,rO W l bs=((dQ bs.length).map λj=>iO (some l) W j).zip bs:=by
 intro l;induction l with
 |nil=>intro _;exact rfl
 |cons b bs a=>
  intro l;dsimp only [rO];simp only [a (l+1),jv,List.range_succ_eq_map,gc,List.zip_cons_cons,fO];congr 1
  . unfold iO;simp
  . congr 1;apply vf;intro j _;simp only [iO,Gw];exact aa (show l+1+(j:Int)=l+((j+1:Nat):Int) by exact dz (dw 0x2402e0100e24025830) (dw 0x3890090900b805830)) rfl
noncomputable abbrev kc:=Nat×Int×Int
noncomputable def gV (U:Nat->Nat->List Nat) (k j:Nat) (v:List Nat):Nat->Nat->List Nat:=λk' j'=>if k'=k/\j'=j then v else U k' j'
def j4 (z:kc×Nat) (U:Nat->Nat->List Nat):Nat->Nat->List Nat:=if 0<=z.1.2.1/\0<=z.1.2.2 then gV U z.1.1 z.1.2.1.toNat ((U z.1.1 z.1.2.1.toNat).set z.1.2.2.toNat z.2) else U
theorem FZ (U) (k j):gV U k j (U k j)=U:=by
 funext k' j';unfold gV;split
 . rename_i h;rw [h.1,h.2]
 . rfl
theorem as8 (U) (k j) (v v'):gV (gV U k j v) k j v'=gV U k j v':=by funext k' j';unfold gV;split<;>rfl
theorem as7 (U) (k j) (v):gV U k j v k j=v:=by unfold gV;exact (if_pos ⟨rfl,rfl⟩)
theorem aic (k) (sp) (U):∀(b:List (Int×Nat)),(b.map λz=>(((k,sp,z.1):kc),z.2)).foldr j4 U=if 0<=sp then gV U k sp.toNat (b.foldr (λz o=>tc o z) (U k sp.toNat)) else U:=by
 intro l;induction l with
 |nil=>
  simp only [NX,List.foldr_nil];split
  . exact aa (FZ ..) rfl
  . rfl
 |cons z b c=>
  refine aa gc (aa GC (aa c ?_));by_cases h:0<=sp
  . refine aa (if_pos h) (aa (if_pos h) (aa GC ?_));unfold j4 tc;by_cases a:0<=z.1
    . rw [if_pos ⟨h,a⟩,if_pos a,as8,as7]
    . rw [if_neg λq=>a q.2,if_neg a]
  . refine bA (if_neg h) (aa (if_neg h) ?_);unfold j4;exact (if_neg λq=>h q.1)
def j0 (g3:Sg) (am:List Nat):Option Ix->Int
 |none=>0
 |some x=>match eF am x,g3.mem with
  |some i,some (f,l)=>if dU f l i<0\/(l-f).natAbs+1<=dU f l i then -1 else dU f l i
  |_,_=>-1
def Pt.cR (gk:Nat->Sg) (am:List Nat) (p:Pt):List kc:=(dQ p.w.toNat).map λj=>(p.k,j0 (gk 3) am p.wd,iO (p.wh.lo am) (gk p.k).w j)
def PL (gk:Nat->Sg) (am:List Nat):List Pt->List kc
 |[]=>[]
 |p::ps=>PL gk am ps++p.cR gk am
noncomputable def fj:List Pt->Int
 |[]=>0
 |p::ps=>p.w+fj ps
theorem xr {gk:Nat->Sg} {am:List Nat} {ps:List Pt} (h:∀p∈ps,1<=p.w):((PL gk am ps).length:Int)=fj ps/\0<=fj ps:=by
 induction ps with
 |nil=>exact ⟨rfl,xa 0⟩
 |cons p ps d=>refine bB (d λx c=>h x (cu _ c)) λa b=>?_;have:=h p cN;show (((PL gk am ps++p.cR gk am).length:Nat):Int)=p.w+fj ps/\0<=p.w+fj ps;unfold Pt.cR;refine aa (eC ..) (aa (cf ..) (aa (qm ..) ?_));exact ⟨by exact dz (uC 0x210800be0c408f420007a12 a (f9 (cJ 60330907665 this))) (uC 0x10017002160c4711020007b12 a (lL _)),by exact hJ 0x20020383100604009812 this b⟩
theorem anp {am:List Nat} {x:Wh} (a:x.unit) (d):(x.uI d).lo am=(x.lo am).map (· +d):=by
 induction x using Wh.casesOn with
 |«at» l=>rfl
 |kD x b s=>
  unfold Wh.uI Wh.lo;dsimp only;refine bK ?_ (Option.map_map ..).symm;congr 1;funext v;rcases a with rfl | rfl
  . simp;exact dz (oy 0x101002a202280b830) (oy 0x10114052020055830)
  . simp;exact dz (oy 0x40400b91010805d830) (oy 0x4042017101002e5830)
theorem arq (lo) (W d j:Nat):iO (lo.map (· +(d:Int))) W j=iO lo W (d+j):=by
 induction lo using aW with
 |none=>rfl
 |some l=>simp only [rT,iO];exact aa (show l+(d:Int)+(j:Int)=l+((d+j:Nat):Int) by exact dz (dJ 0x100170084701c025830) (dJ 0x11c070090800b805830)) rfl
theorem ape {gk:Nat->Sg} {am:List Nat} {p:Pt} (a:p.wh.unit) (h:(d:Int)+c<=p.w):Pt.cR gk am ⟨c,p.k,p.wd,p.wh.uI d⟩=((p.cR gk am).drop d).take c:=by
 unfold Pt.cR;refine aa (anp a ..) (aa (rR ..) ?_);apply vd
 . exact aa (cf ..) (aa (qm ..) (aa (j7 ..) (aa (nJ ..) (aa (cf ..) (aa (qm ..) (aa (nN (LC 0xc084190e020401844004008e03a813 h Internal.jE (lL _)) ..) rfl))))))
 . intro i b e;simp only [abk,abl,List.getElem_take,List.getElem_drop];exact aa (arq ..) rfl
theorem afI {lo:Nat} (d:f=if (lo:Int)<W then (W:Int) else lo) (a:l=if (P:Int)+W<lo+w then (P:Int)+W else lo+w):
 f-W=(lo-W:Nat)/\(f<l->l-f=(min (P-(lo-W)) (w-(W-lo)):Nat))/\(¬f<l->min (P-(lo-W)) (w-(W-lo))=0):=by
 rcases Oa lo W with h | h
 . refine aa (CB (Cz h) ..) (aa (Of ..) ?_);rw [if_pos (Int.ofNat_lt.mpr h)] at d;subst d;generalize c:W-lo=x;have:W=lo+x:=bV (cz 0x8308820cc0044004400212 c Internal.jE) (cz 0x18104120cc1000884400312 c (tE (ak 35193167544593 h)));subst this;by_cases b:(P:Int)+(lo+x:Nat)<lo+w
   . rw [if_pos b] at a;refine aa (nN (kZ 0x2000832081180131c4744042e03a912 b Internal.jE)) <| ⟨by exact dz (ak 0xf1001710017b830) (ak 0x4005c4005e81f830),λ_=>dz (jm 0x39010b80b832021701d00a11 a) (jm 0x4042e0280f832021701d00b11 a),λq=>bV (jm 0x90418800b90e80588010017d12 q a) (ao 10288)⟩
   . rw [if_neg b] at a;refine aa (abI (by lia)) <| ⟨by exact dz (ak 0xf1001710017b830) (ak 0x4005c4005e81f830),λ_=>by lia,λq=>bV (ao 4406838297105 (CB (jm 0x1041064380e80588010017d12 q a))) (ao 10288)⟩
 . (refine aa (CB h) ?_;rw [Of])
   rw [if_neg (by exact ak 0xe23c8c400011 h)] at d;subst d;generalize c:lo-W=x;have:lo=W+x:=bV (cz 0x8308820cc0044004400212 c Internal.jE) (cz 0x18104120cc1000884400312 c (tE (ak 35193167544337 h)));subst this;by_cases b:(P:Int)+W<(W+x:Nat)+w
   . rw [if_pos b] at a;refine aa (nN (by lia)) <| ⟨by exact dz (ak 4996666169473072) (ak 4996216781862960),λ_=>by lia,λq=>bV (ao 4406838297105 (CB (jm 0x1041060390e80588010017d12 q a))) (ao 10288)⟩
   . rw [if_neg b] at a;refine aa (abI (kZ 0x2030832081000131c8085d08e03ad12 b Internal.jE)) <| ⟨by exact dz (ak 4996666169473072) (ak 4996216781862960),λ_=>dz (jm 0x438800b80b8321c4005d00a11 a) (jm 0x2002e0290f8321c4005d00b11 a),λq=>bV (jm 0x904190e2002e80588010017d12 q a) (ao 10288)⟩
theorem afH {gk:Nat->Sg} {am:List Nat} {lo:Nat} (ps) (h:∀p∈ps,1<=p.w/\p.wh.unit):PL gk am (kg lo w (fj ps) ps)=((PL gk am ps).drop lo).take w:=by
 induction ps with
 |nil=>exact (show ([]:List kc)=(([]:List kc).drop lo).take w by rw [NQ,GP])
 |cons p ps k=>
  have hp:=h p cN;have q:=λx j=>h x (cu _ j);have k:=k q;refine bB (xr (gk:=gk) (am:=am) (ps:=ps) λx j=>(q x j).1) λn _=>?_;have o:((p.cR gk am).length:Int)=p.w:=by unfold Pt.cR;refine bA (cf ..) (bA (qm ..) ?_);exact f9 (aa5 ag hp.1)
  dsimp only [kg];refine aa (show fj (p::ps)=p.w+fj ps from rfl) (aa (show p.w+fj ps-p.w=fj ps by exact dz (hJ 8796630071344) (hJ 8796651919408)) (aa (show PL gk am (p::ps)=PL gk am ps++p.cR gk am from rfl) (aa List.drop_append (aa List.take_append (aa k.symm (aa n.symm (aa o.symm ?_)))))));generalize m:(if (lo:Int)<(PL gk am ps).length then ((PL gk am ps).length:Int) else (lo:Int))=f;generalize g:(if ((p.cR gk am).length:Int)+(PL gk am ps).length<(lo:Int)+w then ((p.cR gk am).length:Int)+(PL gk am ps).length else (lo:Int)+w)=lst;have ar:=afI m.symm g.symm;have hb:lst<=(p.cR gk am).length+(PL gk am ps).length:=by refine aa g.symm ?_;(split;(rename_i r;exact ak 0x8e03a11c075830);(rename_i r;exact cz 0x2380e8c721d60cc721d08e03ad11 r))
  rw [<-n,nJ] at*;by_cases a:f<lst
  . have b:=ar.2.1 a;refine aa (if_pos a) (aa b (aa ar.1 ?_));rw [show ∀c d l,PL gk am (⟨c,p.k,p.wd,d⟩::l)=PL gk am l++Pt.cR gk am ⟨c,p.k,p.wd,d⟩ from λ_ _ _=>rfl,ape hp.2 (by rw [<-ar.1,<-b,<-o];clear ar b m g;exact uC 0x3880144711560c4701d00811 hb)];congr 1;rw [abH,<-List.take_take,N2 (i:=(p.cR gk am).length-_) (by rw [nJ];exact bT _)]
  . have e:((p.cR gk am).drop (lo-(PL gk am ps).length)).take (w-((PL gk am ps).length-lo))=[]:=by rw [<-List.length_eq_zero_iff,j7,nJ,abH,ar.2.2 a]
    rw [if_neg a,e,vc]
theorem afL {lo w:Int}:∀ps a,(kg lo w a ps).length<=ps.length:=by
 intro l;induction l with
 |nil=>intro _;exact bT _
 |cons q ps d=>
  intro a;dsimp only [kg];generalize (if lo<a-q.w then a-q.w else lo)=b;generalize (if a<lo+w then a else lo+w)=lst;have:=d (a-q.w);by_cases c:b<lst
  . refine aa (if_pos c) ?_;simp only [jv];exact ak 0x2442120120c400011 this
  . refine aa (if_neg c) ?_;simp only [jv];exact ak 0x9108020c400011 this
theorem afM {gk:Nat->Sg} {lo w:Int} (ps):∀a,(∀p∈ps,p.ok w0 gk)->∀p∈kg lo w a ps,p.ok w0 gk:=by
 induction ps with
 |nil=>intro _ _ p hp;contradiction
 |cons q ps g=>
  intro a h p hp;dsimp only [kg] at hp;generalize (if lo<a-q.w then a-q.w else lo)=c at hp;generalize (if a<lo+w then a else lo+w)=lst at hp;by_cases f:c<lst
  . rw [if_pos f] at hp;rcases cF.mp hp with rfl | hp
    . have d:=h q cN;refine ⟨?_,d.wd,d.gs⟩;have:=d.wh;cases i:q.wh with
      |«at» l=>trivial
      |kD x b s=>rw [i] at this;exact this
    . exact g _ (λx e=>h x (cu _ e)) p hp
  . rw [if_neg f] at hp;exact g _ (λx e=>h x (cu _ e)) p hp
end
variable {bk:Int}
theorem aaw {d e:Type} (l:List d) (r:List e):l.zip (r.take l.length)=l.zip r:=by
 induction l generalizing r with
 |nil=>rfl
 |cons a l c=>
  induction r using cK with
  |nil=>rfl
  |cons b r=>exact congrArg ((a,b)::·) (c r)
theorem auf {b c:Type} (l a:List b) (r:List c) (h:l.length<=r.length):(l++a).zip r=l.zip r++a.zip ((r.drop l.length).take a.length):=by
 refine iP (aaw ..) ?_
 conv=>lhs;rw [<-GO l.length r]
 rw [abz (by rw [j7];exact bV (ak 283673363217 (nN (ak 35193167544337 h))) (ak 35193167544337 (qr _ _))),aaw]
structure qA (gk:Nat->Sg) (nw:Nat) (p:Pt):Prop where
 w:1<=p.w
 kk:(p.k<3/\p.wd=none)\/(p.k=3/\∃(x:Ix) (f l:Int),p.wd=some x/\(gk 3).mem=some (f,l)/\nw=(l-f).natAbs+1)
structure Ln (gk:Nat->Sg) (nw:Nat) (U:Nat->Nat->List Nat):Prop where
 v:∀k,k<3->(U k 0).length=(gk k).w/\∀b∈U k 0,b<4
 w:∀p,p<nw->(U 3 p).length=(gk 3).w/\∀b∈U 3 p,b<4
theorem apq {l:Int} {p o:List Nat} (h:b∈dN l p o):b∈p\/b∈o:=by
 obtain ⟨i,hi,e⟩:=ve h;have c:i<o.length:=by simp only [oB] at hi;exact hi
 rw [BJ l p o i hi c] at e;split at e
 . rename_i a;left;have:((i:Int)-l).toNat<p.length:=jm 0x820a30003d21e844700807912 a.2 (f9 (dw 0x7a07060380811 a.1));simp only [rS,dO this] at e;refine aa e.symm ?_;exact GF this
 . right;refine aa e.symm ?_;exact GF c
theorem ao3 {gk:Nat->Sg} {am:List Nat} {u:Us} {p:Pt} (hp:qA gk nw p) (R:qB nw u.va u.wa U) (L:Ln gk nw U) (hb:∀b∈bs,b<4) (T:m+p.w.toNat<=bs.length) (ht:bk-p.w=m):
 ∃(v:Us) (y:Nat->Nat->List Nat),(p.rw1 gk am bk).foldl (Us.lz bs) u=v/\((p.cR gk am).zip ((bs.drop m).take (p.cR gk am).length)).foldr j4 U=y/\qB nw v.va v.wa y/\Ln gk nw y/\v.va 4=u.va 4:=by
 refine dE _ _ ⟨rfl,rfl,?_⟩;have pl:(p.cR gk am).length=p.w.toNat:=by unfold Pt.cR;simp
 rw [pl];generalize hB:(bs.drop m).take p.w.toNat=B;have O:B.length=p.w.toNat:=by rw [<-hB,j7,nJ];exact bV (ak 35193167544337 (qr _ _)) (ak 283673363217 (nN (cz 0x18108300611001202002012 T Internal.jE)))
 have M:∀b∈B,b<4:=λb h=>hb b (by rw [<-hB] at h;exact N0 (tB h));have P:∀pl lo,rH bs ⟨p.k,pl,lo,p.w,bk-p.w⟩=B:=λpl lo=>by unfold rH;dsimp only;rw [ht,rR,hB]
 have LH:((p.cR gk am).zip B).foldr j4 U=match p.wh.lo am with
  |none=>U
  |some l=>if 0<=j0 (gk 3) am p.wd then gV U p.k (j0 (gk 3) am p.wd).toNat ((rO (gk p.k).w l B).foldr (λz o=>tc o z) (U p.k (j0 (gk 3) am p.wd).toNat)) else U:=by
  have e:(p.cR gk am).zip B=(((dQ p.w.toNat).map λj=>iO (p.wh.lo am) (gk p.k).w j).zip B).map λz=>(((p.k,j0 (gk 3) am p.wd,z.1):kc),z.2):=by unfold Pt.cR;rw [show ((dQ p.w.toNat).map λj=>((p.k,j0 (gk 3) am p.wd,iO (p.wh.lo am) (gk p.k).w j):kc))=((dQ p.w.toNat).map λj=>iO (p.wh.lo am) (gk p.k).w j).map (λa=>((p.k,j0 (gk 3) am p.wd,a):kc)) from by rw [fO];rfl,List.zip_map_left];rfl
  rw [e,aic];generalize r:p.wh.lo am=G;induction G using aW with
  |some l=>dsimp only;rw [<-O,aui]
  |none=>
   dsimp only;have:∀(H:List (Int×Nat)) (o:List Nat),(∀z∈H,z.1= -1)->H.foldr (λz o=>tc o z) o=o:=by
    intro H o;induction H with
    |nil=>intro _;rfl
    |cons z H Y=>intro h;rw [GC,Y λx W=>h x (cu _ W)];unfold tc;rw [h z cN];rfl
   rw [this _ _ λz X=>by have:=(List.of_mem_zip X).1;refine aQ (gQ.mp this) λj _ e=>?_;rw [<-e];rfl]
   split
   . rw [FZ]
   . rfl
 generalize c:((p.cR gk am).zip B).foldr j4 U=y;rw [LH] at c;have V:=hp.w;generalize n:(p.rw1 gk am bk).foldl (Us.lz bs) u=v;have d:v=u->y=U->qB nw v.va v.wa y/\Ln gk nw y/\v.va 4=u.va 4:=λh S=>by rw [h,S];exact ⟨R,L,rfl⟩
 have Q:∀(l:Int) (o:List Nat) (g:Sg),(o.length=g.w/\∀b∈o,b<4)->((dN l B o).length=g.w/\∀b∈dN l B o,b<4):=λl o g h=>⟨by rw [oB];exact h.1,λb hb=>(apq hb).elim (M b) (h.2 b)⟩;generalize r:p.wh.lo am=G at c;induction G using aW with
 |none=>
  dsimp only at c;have:p.rw1 gk am bk=[]:=by unfold Pt.rw1 Pt.lo;rw [r];cases p.pl (gk 3) am<;>rfl
  exact d (by rw [<-n,this];rfl) c.symm
 |some l=>
  dsimp only at c;rcases hp.kk with ⟨t,A⟩ | ⟨t,x,f,ll,A,N,pL⟩
  . have C:j0 (gk 3) am p.wd=0:=by rw [A];rfl
    rw [C,if_pos (xa 0),show (0:Int).toNat=0 from rfl] at c;have F:=(L.v p.k t).1;rw [show rO (gk p.k).w l B=rO (U p.k 0).length l B by rw [F],RP] at c;have s:p.pl (gk 3) am=some none:=by unfold Pt.pl;rw [A]
    by_cases D:l+p.w<=0\/((gk p.k).w:Int)<=l
    . have:p.rw1 gk am bk=[]:=by
       unfold Pt.rw1 Pt.lo;rw [r,s];dsimp only;rw [if_pos D]
      rw [Yt (by rw [O,F];lia),FZ] at c;exact d (by rw [<-n,this];rfl) c.symm
    . have J:p.rw1 gk am bk=[⟨p.k,none,l,p.w,bk-p.w⟩]:=by
       unfold Pt.rw1 Pt.lo;rw [r,s];dsimp only;rw [if_neg D]
      rw [J] at n;simp only [NT,List.foldl_nil,Us.lz] at n;rw [P] at n;subst n;subst c;dsimp only;refine ⟨⟨λk h=>?_,λq h=>?_⟩,⟨λk h=>?_,λq h=>?_⟩,?_⟩
      . unfold dH gV;by_cases e:k=p.k
        . rw [if_pos e,if_pos ⟨e,rfl⟩,R.v p.k t]
        . rw [if_neg e,if_neg (λz=>e z.1)];exact R.v k h
      . unfold gV;rw [if_neg (λz=>ao 54976722342418 z.1 t)];exact R.w q h
      . unfold gV;by_cases e:k=p.k
        . rw [if_pos ⟨e,rfl⟩,e];exact Q l _ _ (L.v p.k t)
        . rw [if_neg (λz=>e z.1)];exact L.v k h
      . unfold gV;rw [if_neg (λz=>ao 54976722342418 z.1 t)];exact L.w q h
      . unfold dH;rw [if_neg (by exact ao 1138380767505 t)]
  . have s:p.pl (gk 3) am=match eF am x with | some i=>(if dU f ll i<0\/(ll-f).natAbs+1<=dU f ll i then none else some (some (dU f ll i).toNat)) | none=>none:=by
     unfold Pt.pl;rw [A,N];dsimp only;cases eF am x<;>rfl
    generalize E:eF am x=G;induction G using aW with
    |none=>
     have C:j0 (gk 3) am p.wd= -1:=by rw [A];unfold j0;dsimp only;rw [E]
     rw [C,if_neg ag] at c;have:p.rw1 gk am bk=[]:=by unfold Pt.rw1;rw [s,E]
     exact d (by rw [<-n,this];rfl) c.symm
    |some i=>
     rw [E] at s;dsimp only at s;by_cases I:dU f ll i<0\/((ll-f).natAbs:Int)+1<=dU f ll i
     . have C:j0 (gk 3) am p.wd= -1:=by rw [A];unfold j0;dsimp only;rw [E,N];dsimp only;rw [if_pos I]
       rw [C,if_neg ag] at c;rw [if_pos I] at s;have:p.rw1 gk am bk=[]:=by unfold Pt.rw1;rw [s]
       exact d (by rw [<-n,this];rfl) c.symm
     . have C:j0 (gk 3) am p.wd=dU f ll i:=by rw [A];unfold j0;dsimp only;rw [E,N];dsimp only;rw [if_neg I]
       rw [C,if_pos (by lia)] at c;rw [if_neg I] at s;generalize Z:(dU f ll i).toNat=w at*;have K:w<nw:=by lia
       rw [t] at c;have F:=(L.w w K).1;rw [show rO (gk 3).w l B=rO (U 3 w).length l B by rw [F],RP] at c;by_cases D:l+p.w<=0\/((gk p.k).w:Int)<=l
       . have:p.rw1 gk am bk=[]:=by
          unfold Pt.rw1 Pt.lo;rw [r,s];dsimp only;rw [if_pos D]
         rw [t] at D;rw [Yt (by rw [O,F];lia),FZ] at c;exact d (by rw [<-n,this];rfl) c.symm
       . have J:p.rw1 gk am bk=[⟨p.k,some w,l,p.w,bk-p.w⟩]:=by
          unfold Pt.rw1 Pt.lo;rw [r,s];dsimp only;rw [if_neg D]
         rw [J] at n;simp only [NT,List.foldl_nil,Us.lz] at n;rw [P] at n;subst n;subst c;dsimp only;refine ⟨⟨λk h=>?_,λq h=>?_⟩,⟨λk h=>?_,λq h=>?_⟩,rfl⟩
         . unfold gV;rw [if_neg (λz=>ao 54976735347474 z.1 h)];exact R.v k h
         . unfold dH gV;by_cases e:q=w
           . rw [if_pos e,if_pos ⟨rfl,e⟩,R.w w K]
           . rw [if_neg e,if_neg (λz=>e z.2)];exact R.w q h
         . unfold gV;rw [if_neg (λz=>ao 54976735347474 z.1 h)];exact L.v k h
         . unfold gV;by_cases e:q=w
           . rw [if_pos ⟨rfl,e⟩];exact Q l _ _ (L.w w K)
           . rw [if_neg (λz=>e z.2)];exact L.w q h
theorem ap1 {gk:Nat->Sg} {am:List Nat} (hb:∀b∈bs,b<4):∀(ps:List Pt) (u:Us) (U:Nat->Nat->List Nat),(∀p∈ps,qA gk nw p)->qB nw u.va u.wa U->Ln gk nw U->fj ps<=bs.length->
 ∃(d:Us) (f:Nat->Nat->List Nat),(lF gk am (fj ps) ps).foldl (Us.lz bs) u=d/\((PL gk am ps).zip bs).foldr j4 U=f/\qB nw d.va d.wa f/\Ln gk nw f/\d.va 4=u.va 4:=by
 intro l;induction l with
 |nil=>intro u U _ R L _;exact ⟨u,U,rfl,rfl,R,L,rfl⟩
 |cons p ps t=>
  intro u U hp R L a;refine bB (xr (gk:=gk) (am:=am) λx g=>(hp x (cu _ g)).w) λc z=>?_;have e:=(hp p cN).w;have i:fj (p::ps)=p.w+fj ps:=rfl;rw [i] at a;refine uX (ao3 (am:=am) (hp p cN) R L hb (Wa 0x410009062087a111c0085020007a13 c a (f9 (cJ 60330907665 e))) (dz (jl 0xe2000857060007b11 c) (jl 0x80021501f060007a11 c))) λv q e1 e2 n k w=>uX (t v q (λx g=>hp x (cu _ g)) n k (jl 0xe2306038800a04009812 e a)) λj h r s o m y=>dE j h ⟨?_,?_,o,m,y.trans w⟩
  . refine aa i ?_;show (p.rw1 gk am (p.w+fj ps)++lF gk am (p.w+fj ps-p.w) ps).foldl (Us.lz bs) u=j;refine aa List.foldl_append (aa e1 (aa (show p.w+fj ps-p.w=fj ps by exact dz (hJ 8796630071344) (hJ 8796651919408)) ?_));exact r
  . show ((PL gk am ps++p.cR gk am).zip bs).foldr j4 U=h;refine aa (auf _ _ _ (uC 0x20020c471001408801e84009813 e c a)) (aa List.foldr_append (aa e2 ?_));exact s
variable {np rf:Nat}
structure Pr where
 k:Nat
 wd:Option Ix
 bg:Option Se
 cp:Int
 eV:List Int
 fx:Bool
 rs:Nat
def Pr.bG (p:Pr):b0:=gN p.k p.wd p.bg
def Pr.av (gk:Nat->Sg) (p:Pr):AV:=.aw [p.bG.bc,.str (bH p.k),.int p.cp,.ref p.rs,.str (de (gk p.k) p.bg),.bool p.fx]
structure mK (t:Lr) (gk:Nat->Sg) (am:List Nat) (p:Pr):Prop where
 k:p.k<4
 base:MC t gk am p.k p.wd p.cp
 ok:∀s,p.bg=some s->s.ok/\s.eK<=10
 at':de (gk p.k) p.bg=[]->p.eV=tf ((p.bG.wh (gk p.k)).lo am) (gk p.k).w (p.bG.eK (gk p.k)).toNat
noncomputable def iJ (fW:Bool):List Nat:=if fW then [97,99,109,98] else [97,99,109]
theorem aoa (fW) (j:Nat) (h):∃k,k<4/\(iJ fW)[j]?=(bH k).head?/\[(iJ fW)[j]]=bH k:=by
 induction fW using dy with
 |true=>exact pX (λ_=>⟨0,ag,rfl,rfl⟩) (λ_=>⟨2,ag,rfl,rfl⟩) (λ_=>⟨3,ag,rfl,rfl⟩) (λ_=>⟨1,ag,rfl,rfl⟩) j h h
 |false=>exact Bs (λ_=>⟨0,ag,rfl,rfl⟩) (λ_=>⟨2,ag,rfl,rfl⟩) (λ_=>⟨3,ag,rfl,rfl⟩) j h h
section
variable {gk:Nat->Sg}
theorem WF.offρ (F:WF b Z w t gk gi mm c va wa U O):∀r∈ft b w t mm,r≠Z:=by
 intro r hr;have hb:=F.rb;refine aab hr (λh=>(eG.mp h).elim (λh=>?_) λh=>?_) (λh=>(eG.mp h).elim (λh=>?_) λh=>?_) (λh=>?_) (λk e h=>?_) λk e h=>?_
 . simp at h;lia
 . have:=F.hr.1 r h;exact aU 0x40410c0101110225e402012 this hb
 . simp at h;exact h.elim (λd=>aU 0x810f488440c4400112 hb d) (λd=>d.elim (λa=>aU 0x810f888440c4400112 hb a) (λa=>aU 0x810fc7c88440c4400112 hb a))
 . have:=(F.md r (by simpa using h)).1;exact aU 0x40410c0101110225e402012 this hb
 . exact aU 0x40010c41011102f22100312 h hb
 . have:=F.hr.2.1 k e;exact cz 0x1820430060444103110225e402013 this h hb
 . have:=(F.hr.2.2 k e r h).1;exact aU 0x40410c0101110225e402012 this hb
theorem WF.off1 (F:WF b Z w t gk gi mm c va wa U O):CX t [Z]:=by
 refine ⟨?_,λk a=>?_,λk a r hr=>?_⟩
 . refine aa F.wd ?_;simp;have:=F.rb;exact ak 0x102f22110c400111 this
 . simpa using F.offρ _ (Ng a)
 . simpa using F.offρ _ (Nf a hr)
set_option smartUnfolding false in
theorem ao4 {fW:Bool} (F:WF b Z w t gk gi mm c va wa U O) (uq:O[rp]?=some (.lst [])) (b5:∀r∈ft b w t mm,r<rp) (D:Z<rp) (h4:(va 4).length=4) (T:np<=3) (yh:lk 184 loc=some (.ref Z)) (pz:lk 193 loc=some (.ref (b+16))) (kW:lk 159 loc=some (.ref rp)) (C:lk 213 loc=some (.str (iJ fW))):
 ∃(ps:List Pr) (O':AH) (d:aB),d8 (.cj 0 np 1) (gL 186) (aH GG (aj GG ai (n+4)) BI) (np+1) 0 loc O=.next d O'/\ps.length=np/\WF b Z w t gk gi mm c va wa U O'/\O'[rp]?=some (.lst (ps.map (Pr.av gk)))/\(∀p∈ps,mK t gk (va 4) p/\O'[p.rs]?=some (.lst (p.eV.map .int))/\rp<p.rs)/\aA [Z,rp] O O'/\∀x,x≠186->lk x d=lk x loc:=by
 have A:(iJ fW).length=3\/(iJ fW).length=4:=by induction fW using dy<;>simp [iJ]
 refine qg (pq (asn:=gL 186) (b:=aH GG (aj GG ai (n+4)) BI)
  (λi d O'=>WF b Z w t gk gi mm c va wa U O'/\∃ps:List Pr,ps.length=i/\O'[rp]?=some (.lst (ps.map (Pr.av gk)))/\(∀p∈ps,mK t gk (va 4) p/\O'[p.rs]?=some (.lst (p.eV.map .int))/\rp<p.rs)/\aA [Z,rp] O O'/\∀x,x≠186->lk x d=lk x loc)
  (λi d O' _=>uS (by exact ao 0x30d40be4028cc80011 T)) (λi v d ay hv hP=>by
   obtain ⟨y,ps,j,l,I,kk,g⟩:=hP;refine bB (wO hv) λbj hi=>?_;subst bj;refine a8 y.row λxs W=>ct (ja (n:=n+3) W) λo e2 k2 g2=>?_;have f:=y.keep k2 (λr hr=>by simpa using y.offρ r hr) ⟨_,g2⟩;have E:nx xs%(iJ fW).length<(iJ fW).length:=gf _ (A.elim (λa=>ao 45311591185 a) (λa=>ao 45315785489 a));refine ct (aoa fW _ E) λk u _ oi=>aaq (Rz (n:=n) h4 f.G f.R (λk u=>by have:=(f.wz k u).2;exact ao 0x785e4020e880011 this) g2 f.off1 u) λwd bg cp eV mX rs J s S=>?_;simp only [f.wd] at s;refine a8 S.row λm g3=>?_;have Y:=f.keep S.kk (λr hr=>by simpa using f.offρ r hr) ⟨m,g3⟩;have L:=bZ l;have R:=k2.len;have l3:=S.kk.len;have M:rp∉[Z]:=m1 (ak 279378395409 D);have K:=S.kk.get _ _ M (k2.get _ _ M l);have V:=S.fr;let p:Pr:=⟨k,wd,bg,cp,eV,mX,rs⟩;have ka:=ck_append (cl:=aj GG ai (n+4)) (v:=p.av gk) K (by refine aa (cf ..) ?_;unfold SZ;exact aU 0x30d40be4828cc8801004084400113 hi j T);have Q:=aA.set J rp (.lst (ps.map (Pr.av gk)++[p.av gk]));have F4:=Y.keep Q (λr hr=>by have:=b5 r hr;simp;exact ak 35191020060945 this) ⟨m,(du (ak 279378395409 D)).trans g3⟩;refine ⟨_,up 186 (.int i) d,J.set rp (.lst (ps.map (Pr.av gk)++[p.av gk])),rfl,.inl ?_,F4,ps++[p],by simp [j],by refine (dX K).trans (aa kJ ?_);rfl,λq hq=>?_,((kk.trans (k2.mono (eZ [0]))).trans (S.kk.mono (eZ [0]))).trans (Q.mono (eZ [1])),λx P=>by refine (cT (bC P)).trans ?_;exact g x P⟩
   . have q184:=(g 184 ag).trans yh;have q193:=(g 193 ag).trans pz;have q159:=(g 159 ag).trans kW;have N:=(g 213 ag).trans C;have ln:fQ 0 [.str (iJ fW)] o=.ok (.int (iJ fW).length) o:=by
      exact (if_pos (by unfold SZ;exact A.elim (λa=>ao 0x30d40be4020cc80211 a) (λa=>ao 0x30d40be4020d080211 a)))
     have md:=oz (nx xs) (iJ fW).length (ak 4677424906513 E) o;have G:cW (.str (iJ fW)) (.int ((nx xs%(iJ fW).length:Nat):Int)) o=some (.str (bH k)):=by refine ((if_pos (by unfold SZ;exact A.elim (λa=>ao 0x30d40be4020cc80211 a) (λa=>ao 0x30d40be4020d080211 a)))).trans ?_;unfold uw;rw [if_pos (by exact ao 7354416),rR,dO E,rT,oi]
     have s:=s;have H:=m_append l;unfold BI;exact goS 0x1010101010101010101010102 λF=>F (lq rfl q159) H (lq rfl q184) (lq rfl q193) (lq rfl N) (lq rfl q184) e2 (lq rfl N) ln md G s ka
   . rcases eG.mp hq with h | h
     . refine fH (I q h) λa1 a2 B=>⟨a1,?_,B⟩;have:q.rs∉[Z]:=m1 (aU 0x101043004044400112 B D);refine (du (by exact ak 35191020060945 B)).trans <| S.kk.get _ _ this (k2.get _ _ this a2)
     . have:q=p:=by simpa using h
       subst this;exact ⟨⟨u,S.base,S.ok,S.at'⟩,by refine (du (by show rp≠rs;exact cz 0x20c18c81811004004400013 V R L)).trans ?_;exact S.sp,by exact cz 0x20c28c81811004004400013 V R L⟩) np 0 (np+1) loc O (by refine aa (gI ..) ?_;exact bV (ao 84016) (ao 10487856)) (ao 9665776176) ⟨F,[],rfl,uq,by exact λ_ h=>absurd h bP,aA.refl _ _,λ_ _=>rfl⟩) λd O' e X z=>?_
 refine w6 z λps j l I kk g=>?_;simp only [gI] at j;exact d9 ps O' d ⟨e,j,X,l,I,kk,g⟩
def oF (gk:Nat->Sg) (p:Pr):List Nat:=if p.k=1 then (if de (gk p.k) p.bg=[] then [97,115,115,105,103,110,95,116,111,95,110,101,116] else [116,119,111]) else de (gk p.k) p.bg
def jZ (gk:Nat->Sg):List Pr->List (List Nat)
 |[]=>[]
 |p::ps=>if oF gk p=[] then jZ gk ps else oF gk p::jZ gk ps
theorem YC (gk) (p):∀ps,jZ gk (ps++[p])=jZ gk ps++(if oF gk p=[] then [] else [oF gk p]):=by
 intro l;induction l with
 |nil=>rfl
 |cons q ps a=>dsimp only [Cs,jZ];simp only [a];split<;>simp
theorem PU {a b:List Nat} (h:a=b):(!pj a b)=false:=by refine bA (xY h) ?_;rfl
theorem Mb (a:k<4):decide (bH k=[98])=decide (k=1):=by exact pX rfl rfl rfl rfl k a
theorem apT {ps:List Pr} (K:O[rp]?=some (.lst (ps.map (Pr.av gk)))) (s:O[rf]?=some (.lst [])) (C:rp≠rf) (E:∀p∈ps,p.k<4) (G:ps.length<=3) (I:lk 201 loc=some (.ref rf)):
 ∃O' c,d8 (.ref rp) (jN [203,177,191,202,208,199]) (aH GG (aj GG ai n) BL) (ps.length+1) 0 loc O=.next c O'/\O'[rf]?=some (.lst ((jZ gk ps).map .str))/\aA [rf] O O'/\∀x,x∉[203,177,191,202,208,199]->lk x c=lk x loc:=by
 refine fJ (pq (asn:=jN [203,177,191,202,208,199]) (b:=aH GG (aj GG ai n) BL)
  (λi c O'=>O'[rf]?=some (.lst ((jZ gk (ps.take i)).map .str))/\aA [rf] O O'/\∀x,x∉[203,177,191,202,208,199]->lk x c=lk x loc)
  (λi c O' h=>oK (h.2.1.get _ _ (by simpa using C) K)) (λi v c O' z y=>by
   refine fH y λg kk o=>?_;clear y;rw [iR] at z;refine aQ (gJ.mp z) λp hp D=>?_;subst D;have hi:=(ez.mp hp).1;have r:=E p (gW hp);let d:aB:=up 199 (.bool p.fx) (up 208 (.str (de (gk p.k) p.bg)) (up 202 (.ref p.rs) (up 191 (.int p.cp) (up 177 (.str (bH p.k)) (up 203 p.bG.bc c)))));have t:lk 177 d=some (.str (bH p.k)):=by exact lr4 rfl lk_s
   have u:lk 208 d=some (.str (de (gk p.k) p.bg)):=by exact lq rfl lk_s
   have l3:∀x,x∉[203,177,191,202,208,199]->lk x d=lk x loc:=λx a=>by simp only [cF,bP,or_false,not_or] at a;show lk x (up 199 _ (up 208 _ (up 202 _ (up 191 _ (up 177 _ (up 203 _ c))))))=_;simp only [ml];refine bK (if_neg (bC a.2.2.2.2.2)) (bK (if_neg (bC a.2.2.2.2.1)) (bK (if_neg (bC a.2.2.2.1)) (bK (if_neg (bC a.2.2.1)) (bK (if_neg (bC a.2.1)) (bK (if_neg (bC a.1)) ?_)))));exact o x (by simp [a])
   have A:∃f,aH GG (aj GG ai n) (.ite (.aP .Eq (.v 177) (.cs [98])) (.seq (.aK 208 (.dD (.aP .Eq (.v 208) (.cs [])) (.cs [97,115,115,105,103,110,95,116,111,95,110,101,116]) (.cs [116,119,111]))) .nil) .nil) d O'=.next f O'/\lk 208 f=some (.str (oF gk p))/\∀x,x∉[203,177,191,202,208,199]->lk x f=lk x loc:=by
    have hb:=Mb r;by_cases j:p.k=1
    . rw [decide_eq_true j] at hb;by_cases l:de (gk p.k) p.bg=[]
      . refine ⟨up 208 (.str [97,115,115,105,103,110,95,116,111,95,110,101,116]) d,(goS 33751553 λF=>F t (xY (of_decide_eq_true hb)) u (xY l)),by refine lk_s.trans ?_;unfold oF;rw [if_pos j,if_pos l],λx a=>by rw [cT (nB a)];exact l3 x a⟩
      . refine ⟨up 208 (.str [116,119,111]) d,(goS 33751553 λF=>F t (xY (of_decide_eq_true hb)) u (qT l)),by refine lk_s.trans ?_;unfold oF;rw [if_pos j,if_neg l],λx a=>by rw [cT (nB a)];exact l3 x a⟩
    . rw [decide_eq_false j] at hb;refine ⟨d,(goS 513 λF=>F t (qT (of_decide_eq_false hb))),by refine u.trans ?_;unfold oF;exact aa (if_neg j) rfl,l3⟩
   refine ct A λf e2 m w=>?_;clear A;have B:ps.take (i+1)=ps.take i++[p]:=by refine aa GN (aa hp ?_);rfl
   have J:=(w 201 ag).trans I;by_cases hr:oF gk p=[]
   . refine d9 d f O' ⟨rfl,.inl ?_,(by refine aa (B ..) (aa (YC ..) (aa (if_pos hr ..) (aa (vc ..) ?_)));exact g),kk,w⟩;unfold BL;exact goS 131841 λF=>F e2 m (PU hr)
   . have H:((jZ gk (ps.take i)).map AV.str).length<SZ:=by
      have:∀k:List Pr,(jZ gk k).length<=k.length:=by
       intro k;induction k with
       |nil=>exact bT _
       |cons q k L=>dsimp only [jZ];split<;>simp<;>lia
      have:=this (ps.take i);rw [j7] at this;refine aa (cf ..) ?_;unfold SZ;exact cz 0xc3502f900a3202004c9801304044400014 this hi G (qr _ _)
     refine d9 d f (O'.set rf (.lst ((jZ gk (ps.take i)).map .str++[.str (oF gk p)]))) ⟨rfl,.inl ?_,?_,kk.trans (aA.set _ _ _),w⟩
     . unfold BL;exact goS 282578816992001 λF=>F e2 m (Ia hr) J (m_append g) m (ck_append g H)
     . refine aa (dX g ..) (aa (B ..) (aa (YC ..) (aa (if_neg hr ..) (aa (kJ ..) ?_))));rfl) (ps.map (Pr.av gk)).length 0 (ps.length+1) loc O (Oj _) (by simp) ⟨s,aA.refl _ _,λ_ _=>rfl⟩) λc O' e g kk o=>?_
 rw [cf,Cw] at g;exact dE O' c ⟨e,g,kk,o⟩
end
variable {ps:List Pr} {bg:Option Se}
section
variable {p:Pr}
section
variable {gk:Nat->Sg}
theorem mK.key {am:List Nat} (h:mK t gk am p):p.bG.key=p.k:=by
 unfold Pr.bG;by_cases a:p.k<3
 . refine aa ((h.base.1 a).1) ?_;cases p.bg<;>rfl
 . have:p.k=3:=by have:=h.k;exact bV (ao 0x64020d080111 this) (ao 867797828881 a)
   refine Cj (h.base.2 this) λy f l b _=>aa b (aa this ?_);cases p.bg<;>rfl
theorem mK.wd {am:List Nat} (h:mK t gk am p):p.bG.wd=p.wd:=by unfold Pr.bG;cases p.wd<;>cases p.bg<;>rfl
theorem ars {am:List Nat} (h:mK t gk am p) (b:∀k,k<4->(gk k).net=lj k):p.bG.i7 (gk p.bG.key) true=if p.k=1 then some [97,115,115,105,103,110,95,116,111,95,110,101,116] else (match p.bg with | none=>none | some s=>s.fE (gk p.k)):=by
 refine aa h.key ?_;unfold b0.i7;refine aa (b p.k h.k) ?_;have hb:=Mb h.k;unfold lj;refine aa hb ?_;by_cases a:p.k=1
 . refine aa (decide_eq_true a) (aa (if_pos a) ?_);rfl
 . refine aa (decide_eq_false a) (aa (if_neg a) ?_);show (match (none:Option (List Nat)) with | some f=>some f | none=>_)=_;unfold Pr.bG;cases d:p.wd<;>cases c:p.bg<;>(try rfl)<;>(simp only [gN];cases Se.fE (gk p.k) _<;>simp)
theorem RH {s:Se} {f:List Nat} (h:s.fE g=some f):f≠[]:=by
 unfold Se.fE at h;split at h
 . (injection h with h;subst h);decide
 . induction s using Se.casesOn with
   |ix x=>contradiction
   |kB l r=>dsimp only at h;split at h<;>cases h;decide
   |up x c=>dsimp only at h;split at h<;>cases h;decide
   |down x c=>dsimp only at h;split at h<;>cases h;decide
theorem MD {bg:Option Se}:de g bg=[]↔(match bg with | none=>none | some s=>s.fE g)=none:=by
 unfold de;induction bg using aW with
 |none=>simp
 |some s=>
  dsimp only;generalize h:s.fE g=a;induction a using aW with
  |none=>simp
  |some f=>simp [RH h]
theorem apK {am:List Nat} (i:∀k,k<4->(gk k).net=lj k):∀ps,(∀p∈ps,mK t gk am p)->(jz gk true (ps.map Pr.bG)=none/\jZ gk ps=[]/\∀p∈ps,p.k≠1/\de (gk p.k) p.bg=[])\/∃f x r,jz gk true (ps.map Pr.bG)=some f/\jZ gk ps=x::r/\(x=f\/(x=[116,119,111]/\f=[97,115,115,105,103,110,95,116,111,95,110,101,116])):=by
 intro l;induction l with
 |nil=>intro _;exact .inl ⟨rfl,rfl,λ_ h=>nomatch h⟩
 |cons p ps j=>
  intro h;have hp:=h p cN;have g:=ars hp i;refine aa gc ?_;dsimp only [jz,jZ];refine aa g ?_;unfold oF;by_cases c:p.k=1
  . refine aa (if_pos c) (aa (if_pos c) ?_);right;by_cases a:de (gk p.k) p.bg=[]
    . refine aa (if_pos a) (aa (if_neg ag) ?_);exact d9 _ _ _ ⟨rfl,rfl,.inl rfl⟩
    . refine aa (if_neg a) (aa (if_neg ag) ?_);exact d9 _ _ _ ⟨rfl,rfl,.inr ⟨rfl,rfl⟩⟩
  . refine aa (if_neg c) (aa (if_neg c) ?_);by_cases a:de (gk p.k) p.bg=[]
    . refine aa (if_pos a) (aa (MD.mp a) ?_);rcases j λq b=>h q (cu _ b) with ⟨a1,a2,e⟩ | hr
      . exact .inl ⟨a1,a2,λq b=>by
         rcases cF.mp b with rfl | b
         . exact ⟨c,a⟩
         . exact e q b⟩
      . exact .inr hr
    . refine aa (if_neg a) ?_;right;generalize m:p.bg=d at a;induction d using aW with
      |none=>exact absurd rfl a
      |some s=>
       generalize b:s.fE (gk p.k)=d;induction d using aW with
       |none=>exact absurd (MD.mpr (by simpa using b)) a
       |some f=>exact d9 f _ _ ⟨(by dsimp only;exact aa b rfl),rfl,.inl (by unfold de;dsimp only;refine aa b ?_;rfl)⟩
theorem Ls (F:WF b Z w t gk gi mm c va wa U O) (h:∀p∈ps,mK t gk (va 4) p):Kn w gk (ps.map Pr.bG):=by
 refine ⟨λe d=>?_,λe d=>?_,λe d=>?_⟩
 . refine aQ (gQ.mp d) λp hp r=>?_;subst r;refine aa ((h p hp).key) ?_;exact F.gs p.k (h p hp).k
 . refine aQ (gQ.mp d) λp hp z=>?_;subst z;have P:=h p hp;refine aa P.key ?_;by_cases a:p.k<3
   . have q:bH p.k=[97]\/bH p.k=[98]\/bH p.k=[99]:=by
      revert a;generalize p.k=k;intro a;exact Bs (.inl rfl) (.inr (.inl rfl)) (.inr (.inr rfl)) k a
     have g:(gk p.k).mem.isSome=false:=by refine bA (F.G.mem p.k a) ?_;rfl
     unfold Pr.bG;refine aa ((P.base.1 a).1) ?_;generalize i:p.bg=j;induction j using aW with
     |none=>exact ⟨F.en p.k P.k,g,q⟩
     |some s=>exact ⟨(P.ok s i).1,F.en p.k P.k,g,q⟩
   . have o:p.k=3:=by have:=P.k;exact bV (ao 0x64020d080111 this) (ao 867797828881 a)
     refine fv (P.base.2 o) λy f l u m v _=>?_;have g:(gk 3).mem.isSome=true:=by refine bA v ?_;rfl
     have n:=F.en 3 ag;unfold Pr.bG;refine aa u (aa o ?_);generalize i:p.bg=j;induction j using aW with
     |none=>exact ⟨m,n,g⟩
     |some s=>exact ⟨m,(P.ok s i).1,n,g⟩
 . refine aQ (gQ.mp d) λp hp x=>?_;subst x;refine aa ((h p hp).key) ?_;exact (F.wz p.k (h p hp).k).1
def fq (gk:Nat->Sg) (p:Pr):Pt:=p.bG.pt gk
noncomputable def Pr.cR (p:Pr):List kc:=p.eV.map λa=>(p.k,p.cp,a)
theorem L6 {x:Ix} {b s:Int} (d:x.ok) (a:s=1\/s= -1):(rC x b s).Fe/\(rC x b s).unit:=by
 induction x using Ix.casesOn with
 |c v=>exact ⟨trivial,trivial⟩
 |i=>exact ⟨⟨d,a⟩,a⟩
 |p v=>exact ⟨⟨d,a⟩,a⟩
theorem MS (g:Sg):g.f7=1\/g.f7= -1:=by unfold Sg.f7;split<;>simp
theorem Ys (F:WF b Z w t gk gi mm c va wa U O) (P:mK t gk (va 4) p) (A:de (gk p.k) p.bg=[]):qA gk (t.br 3).length (fq gk p)/\(fq gk p).ok w gk/\(fq gk p).wh.unit/\(fq gk p).w<=10/\p.cR=(fq gk p).cR gk (va 4):=by
 have u:=P.key;have C:(fq gk p).w=p.bG.eK (gk p.k):=by unfold fq b0.pt;exact aa u rfl
 have n:(fq gk p).k=p.k:=u;have v:(fq gk p).wd=p.wd:=P.wd;have q:(fq gk p).wh=p.bG.wh (gk p.k):=by unfold fq b0.pt;exact aa u rfl
 have D:=F.wz p.k P.k;have eK:1<=p.bG.eK (gk p.k)/\p.bG.eK (gk p.k)<=10:=by
  unfold Pr.bG;refine aa (Bx ..) ?_;generalize B:p.bg=k at A;induction k using aW with
  |none=>dsimp only;exact ⟨ao 31121534357777 D.1,ao 0xa203e0e880011 D.2⟩
  |some s=>refine ⟨Se.Cf (g:=gk p.k) ?_,(P.ok s B).2⟩;simpa using MD.mp A
 have j:(p.bG.wh (gk p.k)).Fe/\(p.bG.wh (gk p.k)).unit:=by
  unfold Pr.bG;refine aa (rB ..) ?_;generalize B:p.bg=k;induction k using aW with
  |none=>exact ⟨trivial,trivial⟩
  |some s=>
   have so:=(P.ok s B).1;dsimp only;induction s using Se.casesOn with
   |ix x=>exact L6 so (MS _)
   |kB l r=>exact ⟨trivial,trivial⟩
   |up x c=>exact L6 so.1 (MS _)
   |down x c=>exact L6 so.1 (MS _)
 have base:(p.k<3/\p.wd=none/\p.cp=0)\/(p.k=3/\∃(x:Ix) (f l:Int),p.wd=some x/\x.ok/\(gk 3).mem=some (f,l)/\(t.br 3).length=(l-f).natAbs+1/\p.cp=BU f l (t.br 3).length (eF (va 4) x)):=by
  by_cases a:p.k<3
  . exact .inl ⟨a,P.base.1 a⟩
  . have a:p.k=3:=by have:=P.k;exact bV (ao 0x64020d080111 this) (ao 867797828881 a)
    refine fv (P.base.2 a) λy f l K I G o=>j6 (F.R.nm) λL M H J=>?_;rw [G] at H;cases H;exact .inr ⟨a,y,f,l,K,I,G,J,o⟩
 refine ⟨⟨by refine aa C ?_;exact eK.1,?_⟩,⟨by refine aa q ?_;exact j.1,λx h=>?_,by refine aa n ?_;exact F.gs p.k P.k⟩,by refine aa q ?_;exact j.2,by refine aa C ?_;exact eK.2,?_⟩
 . refine aa n (aa v ?_);rcases base with ⟨e,d,_⟩ | ⟨e,x,f,l,d,_,a,m,_⟩
   . exact .inl ⟨e,d⟩
   . exact .inr ⟨e,x,f,l,d,a,m⟩
 . rw [v] at h;refine aa n ?_;rcases base with ⟨e,d,_⟩ | ⟨e,x',f,l,d,z,a,m,_⟩
   . rw [d] at h;contradiction
   . rw [d] at h;(injection h with h;subst h);exact ⟨z,e,by refine bA a ?_;rfl⟩
 . have o:p.cp=j0 (gk 3) (va 4) p.wd:=by
    rcases base with ⟨e,d,a⟩ | ⟨e,x,f,l,d,_,a,m,z⟩
    . refine iP d (a.trans ?_);rfl
    . refine z.trans (iP d ?_);unfold j0 BU;dsimp only;generalize eF (va 4) x=k;induction k using aW with
      |none=>rfl
      |some i=>
       refine aa a ?_;dsimp only;refine aa m ?_;by_cases E:dU f l i<0\/((l-f).natAbs:Int)+1<=dU f l i
       . exact aa (if_pos E) (((if_neg (by lia))).trans rfl)
       . exact aa (if_neg E) ((if_pos (by lia)).trans rfl)
   unfold Pr.cR Pt.cR;refine aa (P.at' A) (aa n (aa v (aa q (aa C (aa o ?_)))));unfold tf;refine fO.trans ?_;rfl
end
def Bc:List AV->AV
 |[a,b]=>mP a b
 |[a,b,c]=>mP (mP a b) c
 |a::_=>a
 |[]=>.none
theorem uE {f:Type} {l:List f} (h:l≠[]) (e:l.length<=3):(∃a,l=[a])\/(∃a b,l=[a,b])\/∃a b c,l=[a,b,c]:=by
 induction l using cK with
 |nil=>exact absurd rfl h
 |cons a l=>
  induction l using cK with
  |nil=>exact .inl ⟨a,rfl⟩
  |cons b l=>
   induction l using cK with
   |nil=>exact .inr (.inl ⟨a,b,rfl⟩)
   |cons c l=>
    induction l using cK with
    |nil=>exact .inr (.inr ⟨a,b,c,rfl⟩)
    |cons d l=>exact absurd e (Nat.not_le_of_lt (N8 4 l.length))
theorem Lj (d:es≠[]) (f:es.length<=3):∃m,m<40/\Fl [Bc (es.map b0.bc)] (es.map b0.bc) m:=by
 have leaf:∀(s out:List AV) (k:Nat) (e:b0),Fl s out k->Fl (s++[e.bc]) (e.bc::out) (k+1):=by intro s out k e h;refine j6 e.Xz λt l g ht=>aa g ?_;exact .leaf ht h
 rcases uE d f with ⟨a,rfl⟩ | ⟨a,b,rfl⟩ | ⟨a,b,c,rfl⟩
 . exact ⟨1,ag,leaf [] [] 0 a .nil⟩
 . exact ⟨3,ag,Fl.C9 (s:=[]) (leaf [b.bc] [b.bc] 1 a (leaf [] [] 0 b .nil))⟩
 . exact ⟨5,ag,Fl.C9 (s:=[]) (Fl.C9 (s:=[c.bc]) (leaf [c.bc,b.bc] [b.bc,c.bc] 2 a (leaf [c.bc] [c.bc] 1 b (leaf [] [] 0 c .nil))))⟩
section
variable {gk:Nat->Sg}
set_option smartUnfolding false in
theorem al7 (l:O[rp]?=some (.lst (ps.map (Pr.av gk)))) (o:ps≠[]) (q:ps.length<=3) (e:lk 159 loc=some (.ref rp)):∃g,lk 131 g=some (Bc ((ps.map Pr.bG).map b0.bc))/\(∀x,x≠131->lk x g=lk x loc)/\∀d,aH GG (aj GG ai n) (.seq pU (.seq pV d)) loc O=aH GG (aj GG ai n) d g O:=by
 have it:∀(j:Nat) (p:Pr),ps[j]?=some p->cW (.ref rp) (.int j) O=some (p.av gk):=λj p h=>jD l (by rw [iR,h];rfl);have ln:fQ 0 [.ref rp] O=.ok (.int ps.length) O:=by rw [mj l,cf]
 have s:∀p:Pr,cW (p.av gk) (.int 0) O=some p.bG.bc:=λ_=>rfl;rcases uE o q with ⟨a,rfl⟩ | ⟨a,b,rfl⟩ | ⟨a,b,c,rfl⟩
 .
  have q0:=it 0 a rfl;have ln:=ln;have k:decide ((1:Int)=2)=false:=by decide
  have m:decide ((1:Int)=3)=false:=by decide
  refine ⟨(up 131 a.bG.bc loc),(by refine lk_s.trans ?_;rfl),λx f=>(cT (bC f)),λd=>?_⟩;rw [sq (show aH GG (aj GG ai n) pU loc O=.next (up 131 a.bG.bc loc) O from by unfold pU;exact goS 257 λF=>F e q0),sq (show aH GG (aj GG ai n) pV (up 131 a.bG.bc loc) O=.next (up 131 a.bG.bc loc) O from by unfold pV;exact goS 17039617 λF=>F (lq rfl e) ln (lq rfl e) ln)]
 .
  have q0:=it 0 a rfl;have i:=it 1 b rfl;have ln:=ln;have k:decide ((2:Int)=2)=true:=by decide
  refine ⟨(up 131 (mP a.bG.bc b.bG.bc) (up 131 a.bG.bc loc)),(by refine lk_s.trans ?_;rfl),λx f=>(cT (bC f)).trans (cT (bC f)),λd=>?_⟩;rw [sq (show aH GG (aj GG ai n) pU loc O=.next (up 131 a.bG.bc loc) O from by unfold pU;exact goS 257 λF=>F e q0),sq (show aH GG (aj GG ai n) pV (up 131 a.bG.bc loc) O=.next (up 131 (mP a.bG.bc b.bG.bc) (up 131 a.bG.bc loc)) O from by unfold pV mP;exact goS 1108118601985 λF=>F (lq rfl e) ln (lq rfl e) q0 (lq rfl e) i)]
 .
  have q0:=it 0 a rfl;have i:=it 1 b rfl;have r:=it 2 c rfl;have ln:=ln;have k:decide ((3:Int)=2)=false:=by decide
  have m:decide ((3:Int)=3)=true:=by decide
  refine ⟨(up 131 (mP (mP a.bG.bc b.bG.bc) c.bG.bc) (up 131 a.bG.bc loc)),(by refine lk_s.trans ?_;rfl),λx f=>(cT (bC f)).trans (cT (bC f)),λd=>?_⟩;rw [sq (show aH GG (aj GG ai n) pU loc O=.next (up 131 a.bG.bc loc) O from by unfold pU;exact goS 257 λF=>F e q0),sq (show aH GG (aj GG ai n) pV (up 131 a.bG.bc loc) O=.next (up 131 (mP (mP a.bG.bc b.bG.bc) c.bG.bc) (up 131 a.bG.bc loc)) O from by unfold pV mP;exact goS 0x1020102010401040101 λF=>F (lq rfl e) ln (lq rfl e) ln (lq rfl e) q0 (lq rfl e) i (lq rfl e) r)]
end
end
variable {br bS:Nat} {PLs:List kc} {Z1:List (kc×Nat)}
section
variable {gk:Nat->Sg}
theorem WF.setU (F:WF b Z w t gk gi mm c va wa U O) (m:k<4) (a:(t.br k)[j]?=some r) (y:bs.length=(gk k).w) (hb:∀x∈bs,x<4):WF b Z w t gk gi mm c va wa (gV U k j bs) (O.set r (.lst (a9 bs))):=by
 have n:=gW a;refine fH (F.hr.2.2 k m r n) λhr z s=>?_;have v:=F.rb;have kk:=aA.set O r (.lst (a9 bs));have nr:∀q,q<b+17->q∉[r]:=λq h=>m1 (aU 0x10006320225e44201112f22100112 h hr);exact {
  row:=by refine a8 F.row λxs h=>?_;exact ⟨xs,kk.get _ _ (nr _ (ak 0x8979108028c400111 v)) h⟩
  rb:=F.rb
  wd:=F.wd
  rf:=F.rf
  H:=F.H.keep kk (by
   refine aa F.refs ?_;intro q f;rcases eG.mp f with h | h
   . simp at h;exact nr q (by lia)
   . simp only [xb];rintro rfl;exact z h)
  Y:=F.Y
  T:=F.T.keep kk (by
   intro q f;simp at f;rcases f with h | h | h | h
   . exact nr q (ak 0x225e44200a3d22100211 h)
   . exact nr q (ak 0x225e44200a3e22100211 h)
   . exact nr q (ak 0x225e44200a3f1f22100211 h)
   . simp only [xb];rintro rfl;exact ((F.md q h).2.2 k m).2 n)
  R:=by
   refine ⟨?_,λk' d=>?_,λk' d j' r' l=>?_,F.R.nb,F.R.nm⟩
   . exact kk.get _ _ (nr _ (by refine aa F.wd ?_;exact ao 0x897900840bc804a30)) F.R.wd
   . exact kk.get _ _ (by simp only [xb];exact λe=>s k' d e.symm) (F.R.wl k' d)
   . refine fH (F.R.bt k' d j' r' l) λa1 a2 u=>?_;unfold gV;by_cases e:r'=r
     . subst e;refine bB (F.inj k' k j' j _ d m l a) λi p=>?_;subst i;subst p;refine aa (if_pos ⟨rfl,rfl⟩) <| ⟨dX a1,y,hb⟩
     . rw [if_neg (λq=>by
        refine bB q λg o=>?_;clear q;subst g;subst o;rw [l] at a;(injection a with a;subst a);exact e rfl)]
       exact ⟨kk.get _ _ (by simpa using e) a1,a2,u⟩
  G:=F.G
  gs:=F.gs
  en:=F.en
  np:=F.np
  net:=F.net
  wz:=F.wz
  sb:=F.sb
  hr:=F.hr
  inj:=F.inj
  md:=F.md
  sc:=by refine a8 F.sc λnum h=>⟨num,kk.get _ _ (nr _ (ao 0x897900ac804a30)) h⟩}
theorem WF.sto (F:WF b Z w t gk gi mm c va wa U O) (kk:aA ((b+14)::(b+15)::mm.toList) O O') (p:cO w (gk 3) (b+13) (b+14) (b+15) cM c' eB j2 O') (o:∀q∈cM,q∈mm\/O.length<=q) (u:eB 4=va 4):WF b Z w t gk gi cM c' eB j2 U O':=by
 have nm:∀q,q≠b+14->q≠b+15->(∀m∈mm,q≠m)->q∉(b+14)::(b+15)::mm.toList:=by
  intro q l n s h;simp at h;rcases h with h | h | h
  . exact l h
  . exact n h
  . exact s q h rfl
 have lo:∀q,q<b+17->q≠b+14->q≠b+15->q∉(b+14)::(b+15)::mm.toList:=λq h l n=>nm q l n λm a=>by have:=(F.md m a).1;exact aU 0x82063112f201101110225e402012 this h
 have i:=F.rb;exact {
  row:=by refine a8 F.row λxs h=>?_;exact ⟨xs,kk.get _ _ (lo _ (ak 0x8979108028c400111 i) (ak 0x71108018c400111 i) (ak 0x78f9108018c400111 i)) h⟩
  rb:=F.rb
  wd:=F.wd
  rf:=F.rf
  H:=F.H.keep kk (by
   refine aa F.refs ?_;intro q o;rcases eG.mp o with h | h
   . simp at h;exact lo q (by lia) (by lia) (by lia)
   . have:=F.hr.1 q h;exact nm q (ak 0x1c402104310225e402011 this) (ak 0x1e3e402104310225e402011 this) λm a e=>(F.md m a).2.1 (e▸h))
  Y:=F.Y
  T:=p
  R:=by
   refine aa u <| F.R.keep kk ⟨?_,λk d=>?_,λk d r hr=>?_⟩
   . refine aa F.wd ?_;exact lo _ (ao 0x897900840bc804a30) (ao 0x7100840bc804430) (ao 0x78f900840bc804430)
   . have:=F.hr.2.1 k d;exact nm _ (ak 0x1c402104310225e402011 this) (ak 0x1e3e402104310225e402011 this) λm a e=>((F.md m a).2.2 k d).1 e.symm
   . have:=(F.hr.2.2 k d r hr).1;exact nm _ (ak 0x1c402104310225e402011 this) (ak 0x1e3e402104310225e402011 this) λm a e=>((F.md m a).2.2 k d).2 (e▸hr)
  G:=F.G
  gs:=F.gs
  en:=F.en
  np:=F.np
  net:=F.net
  wz:=F.wz
  sb:=F.sb
  hr:=F.hr
  inj:=F.inj
  md:=λq a=>by
   rcases o q a with h | h
   . exact F.md q h
   . have f:=F.lt;have g:=f (b+16) (th 7);refine ⟨by exact aU 0x10112f20120c8080110205e402112 g h,λj=>?_,λk d=>⟨λe=>?_,λj=>?_⟩⟩
     . have:=f q (aac (j8 _ j));exact ak 137510256914 this h
     . have:=f _ (Ng d);exact aU 0x80801004084400113 this e h
     . have:=f _ (Nf d j);exact ak 137510256914 this h
  sc:=by refine a8 F.sc λnum h=>⟨num,kk.get _ _ (lo _ (ao 0x897900ac804a30) (ao 0x7100ac804630) (ao 0x78f900ac804630)) h⟩}
def jY (p:kc):AV:=.aw [.str (bH p.1),.int p.2.1,.int p.2.2]
structure OZ (t:Lr) (gk:Nat->Sg) (p:kc):Prop where
 k:p.1<4
 sp:0<=p.2.1->p.2.1.toNat<(t.br p.1).length
 at':0<=p.2.2->p.2.2.toNat<(gk p.1).w
noncomputable def vG (t:Lr):List Nat:=t.br 0++t.br 1++t.br 2++t.br 3
theorem adV (a:k<4) (h:r∈t.br k):r∈vG t:=PZ a h
theorem alG {pr first:Nat} (F:WF b Z w t gk gi mm c va wa U O) (pM:O[pr]?=some (.lst (PLs.map jY))) (jB:O[br]?=some (.lst (a9 bs))) (Me:pr∉vG t) (BB:br∉vG t)
 (hZ:∀s z,Z1[s]?=some z->PLs[first+s]?=some z.1/\bs[s]?=some z.2/\OZ t gk z.1/\z.2<4) (Eh:Z1.length<100000)
 (AJ:lk 211 loc=some (.ref pr)) (sL:lk 103 loc=some (.int first)) (Y:lk 193 loc=some (.ref (b+16))) (X:lk 188 loc=some (.ref br)):
 ∃O' a,d8 (.cj ((Z1.length:Int)-1) (-1) (-1)) (gL 153) (aH GG (aj GG ai n) yu) (Z1.length+1) 0 loc O=.next a O'/\WF b Z w t gk gi mm c va wa (Z1.foldr j4 U) O'/\aA (vG t) O O'/\∀x,x∉[153,177,191,91]->lk x a=lk x loc:=by
 have hN:ij ((Z1.length:Int)-1) (-1) (-1)=Z1.length:=by
  unfold ij qk;simp
  try lia
 have AY:fh ((Z1.length:Int)-1) (-1) (-1)=true:=by unfold fh;simp;exact Internal.lh (λe=>ak 0xc3502f910a31203d11e8461a817c80112 Eh e) (λe=>ak 0x186a05f201462447b807a11 e)
 refine fJ (pq (it:=.cj ((Z1.length:Int)-1) (-1) (-1)) (asn:=gL 153) (b:=aH GG (aj GG ai n) yu)
  (λi a O'=>WF b Z w t gk gi mm c va wa ((Z1.drop (Z1.length-i)).foldr j4 U) O'/\aA (vG t) O O'/\∀x,x∉[153,177,191,91]->lk x a=lk x loc)
  (λi a O' _=>by
    show (if fh _ _ _=true then some (gH _ _ (ij _ _ _)) else none:Option (List AV)).map _=_;rw [if_pos AY,hN];rfl) (λi v a d A W=>by
    refine fH W λq kk u=>?_;clear W;have hi:i<Z1.length:=by have:=(ez.mp A).1;rwa [gI] at this
    rw [Mv _ _ _ _ hi] at A
    (injection A with A;subst A)
    refine a8 (kK hi) λs y=>?_;have y:Z1.length=s+(i+1):=by rw [y,tC i s,Cx]
    have Q:((Z1.length:Int)-1+ -1*(i:Int))=(s:Int):=by lia
    rw [Q];have jf:s<Z1.length:=aU 0x428c49042100311 y;refine j5 (hZ s Z1[s] (dO jf)) λq1 q2 o q4=>?_;have N:Z1.drop (Z1.length-(i+1))=Z1[s]::Z1.drop (Z1.length-i):=by rw [show Z1.length-(i+1)=s from Oc y,show Z1.length-i=s+1 from Oc (y.trans (by rw [tC i 1,Cx])),List.drop_eq_getElem_cons jf]
    generalize P:(Z1.drop (Z1.length-i)).foldr j4 U=g at q;have E:(Z1.drop (Z1.length-(i+1))).foldr j4 U=j4 Z1[s] g:=by rw [N,GC,P]
    generalize Z1[s]=z at q1 q2 o q4 E;obtain ⟨⟨k,sp,at'⟩,p⟩:=z;have auo:lk 153 (up 153 (.int (s:Int)) a)=some (.int (s:Int)):=lk_s;have I:lk 211 (up 153 (.int (s:Int)) a)=some (.ref pr):=by rw [ic (by rfl),u _ ag];exact AJ
    have H:lk 103 (up 153 (.int (s:Int)) a)=some (.int first):=by rw [ic (by rfl),u _ ag];exact sL
    have auq:lk 193 (up 153 (.int (s:Int)) a)=some (.ref (b+16)):=by rw [ic (by rfl),u _ ag];exact Y
    have aup:lk 188 (up 153 (.int (s:Int)) a)=some (.ref br):=by rw [ic (by rfl),u _ ag];exact X
    have ip:cW (.ref pr) (.int ((first:Int)+(s:Int))) d=some (jY (k,sp,at')):=by have:=jD (kk.get _ _ Me pM) (by rw [iR,q1];rfl);rwa [Int.natCast_add] at this
    have ib:=jD (kk.get _ _ BB jB) (by unfold a9;rw [iR,q2];rfl);have pv:jY (k,sp,at')=.aw [.str (bH k),.int sp,.int at']:=rfl;let j:aB:=up 91 (.int at') (up 191 (.int sp) (up 177 (.str (bH k)) (up 153 (.int (s:Int)) a)));have D:∀x,x∉[153,177,191,91]->lk x j=lk x loc:=by intro x f;rw [cT (nB f),cT (nB f),cT (nB f),cT (nB f)];exact u x f
    have T:aH GG (aj GG ai n) (.fC [177,191,91] (.sub (.v 211) (.aN .Add (.v 103) (.v 153)))) (up 153 (.int (s:Int)) a) d=.next j d:=by exact goS 33620225 λF=>F I H lk_s ip
    have B:lk 191 j=some (.int sp):=lq rfl lk_s;have G:lk 91 j=some (.int at'):=lk_s;have K:lk 177 j=some (.str (bH k)):=lr2 rfl lk_s;have M:=(D 193 ag).trans Y;have L:=(D 188 ag).trans X;have J:lk 153 j=some (.int (s:Int)):=lr3 rfl lk_s;by_cases C:0<=sp/\0<=at'
    . refine bB C λl m=>?_;clear C;have hj:=o.sp l;have ha:=o.at' m;obtain ⟨r,hr⟩:∃r,(t.br k)[sp.toNat]?=some r:=⟨_,dO hj⟩;refine fH (q.R.bt k o.k sp.toNat r hr) λb1 V b3=>?_;have R:j4 ((k,sp,at'),p) g=gV g k sp.toNat ((g k sp.toNat).set at'.toNat p):=by
       unfold j4;rw [if_pos ⟨l,m⟩]
      have F2:=q.setU o.k hr (bs:=(g k sp.toNat).set at'.toNat p) (by rw [tx];exact V) (λx f=>by
       rcases List.mem_or_eq_of_mem_set f with h | h
       . exact b3 x h
       . rw [h];exact q4)
      have i1:cW (.ref (b+16)) (.str (bH k)) d=some (iY t gk k):=by have:=q.R.item o.k;rwa [q.wd] at this
      have i6:cW (iY t gk k) (.int 6) d=some (.ref (t.wr k)):=rfl;have i2:cW (.ref (t.wr k)) (.int sp) d=some (.ref r):=by have:=jD (q.R.wl k o.k) (by rw [iR,hr];rfl);rwa [f9 l] at this
      have st:oG (.ref r) (.int at') (.int (p:Nat)) d=some (d.set r (.lst (a9 ((g k sp.toNat).set at'.toNat p)))):=by show wQ r at' (.int (p:Nat)) d=_;delta wQ;refine aa b1 ?_;dsimp only;rw [if_pos ⟨m,by unfold a9;rw [cf,V];exact dJ 0x2380d180e0204400112 ha (lL _)⟩];unfold a9;rw [List.map_set]
      refine ⟨_,j,d.set r (.lst (a9 ((g k sp.toNat).set at'.toNat p))),rfl,.inl ?_,by rw [E,R];exact F2,kk.trans ((aA.set _ _ _).mono (by
       intro x f;simp at f;subst f;exact adV o.k (gW hr))),D⟩
      unfold yu;refine (sq T).trans ?_;exact goS 0x101010201010101010302010202 λF=>F B (decide_eq_true l) G (decide_eq_true m) L J ib M K i1 B i2 G st
    . have R:j4 ((k,sp,at'),p) g=g:=by
       unfold j4;rw [if_neg C]
      refine ⟨_,j,d,rfl,.inl ?_,by rw [E,R];exact q,kk,D⟩;unfold yu;refine (sq T).trans ?_;by_cases l:0<=sp
      . have m:=λm=>C ⟨l,m⟩;exact goS 33620482 λF=>F B (decide_eq_true l) G (decide_eq_false m)
      . exact goS 514 λF=>F B (decide_eq_false l)) Z1.length 0 (Z1.length+1) loc O (by rw [gI];exact bV (ao 84016) (ao 10487856)) (ao 9665776176) ⟨by rw [Of,List.drop_length];exact F,aA.refl _ _,λ_ _=>rfl⟩) λa O' e S kk u=>?_
 rw [gI,oR,GA] at S;exact ⟨O',a,e,S,kk,u⟩
theorem ap3 (F:WF b Z w t gk gi mm c va wa U O) {am:List Nat}:∀ps j,(∀p∈ps,qA gk (t.br 3).length p/\p.ok w gk)->fj ps<=j->j<=bS->∀r∈lF gk am j ps,r.ok w gk bS:=by
 intro l;induction l with
 |nil=>intro _ _ _ _ r hr;contradiction
 |cons p ps C=>
  intro j h n ht r hr;refine bB (h p cN) λhp B=>?_;have A:=λx e=>h x (cu _ e);refine bB (xr (gk:=gk) (am:=am) λx e=>(A x e).1.w) λ_ D=>?_;have z:=hp.w;have n:=n;have hr:=hr;rcases eG.mp hr with hr | hr
  . unfold Pt.rw1 at hr;generalize d:p.pl (gk 3) am=g at hr;induction g using aW with
    |none=>contradiction
    |some pl=>
     generalize a:p.lo gk am=g;induction g using aW with
     |none=>rw [a] at hr;contradiction
     |some lo=>
      simp only [a] at hr;have hr:r=⟨p.k,pl,lo,p.w,j-p.w⟩:=by simpa using hr
      subst hr;have v:0<lo+p.w/\lo<((gk p.k).w:Int):=by
       unfold Pt.lo at a;generalize u:p.wh.lo am=g;induction g using aW with
       |none=>rw [u] at a;contradiction
       |some l=>
        rw [u] at a;dsimp only at a;split at a
        . contradiction
        . (injection a with a;subst a);lia
      refine ⟨by exact oy 0x2140e0c40181202002812 n D,by exact cJ 62478391313 z,by exact jl 0xe20400ab060380811 ht,v.1,v.2,B.gs,λs=>?_,λq y=>?_⟩
      . rcases hp.kk with ⟨m,_⟩ | ⟨m,x,f,l,k,o,_⟩
        . exact F.G.mem p.k m
        . dsimp only at s;subst s;unfold Pt.pl at d;rw [k,o] at d;dsimp only at d;generalize e:eF am x=g;induction g using aW with
          |none=>rw [e] at d;contradiction
          |some i=>rw [e] at d;dsimp only at d;split at d<;>cases d
      . dsimp only at y⊢;subst y;rcases hp.kk with ⟨m,k⟩ | ⟨m,x,f,l,k,o,_⟩
        . unfold Pt.pl at d;simp only [k] at d;(injection d with d;contradiction)
        . refine ⟨m,f,l,o,?_⟩;unfold Pt.pl at d;rw [k,o] at d;dsimp only at d;generalize e:eF am x=g;induction g using aW with
          |none=>rw [e] at d;contradiction
          |some i=>
           rw [e] at d;dsimp only at d;split at d
           . contradiction
           . rename_i s;have:(dU f l i).toNat=q:=by simpa using d
             lia
  . exact C (j-p.w) A (oy 0x851183202002811 n) (jl 0xe0045c180e2204009812 z ht) r hr
theorem apM {am:List Nat}:∀ps a,(lF gk am a ps).length<=ps.length:=by
 intro l;induction l with
 |nil=>intro _;exact bT _
 |cons p ps b=>
  intro a;have b:=b (a-p.w);have:(p.rw1 gk am a).length<=1:=by unfold Pt.rw1;split<;>simp
  show (p.rw1 gk am a++lF gk am (a-p.w) ps).length<=_;simp only [eC,jv];exact aU 0x9208400483202004480012 this b
end
variable {d7:Nat} {pts:List Pt}
section
variable {gk:Nat->Sg}
theorem WF.ln (F:WF b Z w t gk gi mm c va wa U O):Ln gk (t.br 3).length U:=by
 refine ⟨λk e=>?_,λp hp=>?_⟩
 . have f:=F.R.nb k e;refine fH (F.R.bt k (ao 0x84028cc80111 e) 0 _ (dO (ao 45303202577 f))) λ_ a d=>?_;exact ⟨a,d⟩
 . refine fH (F.R.bt 3 ag p _ (dO hp)) λ_ a d=>?_;exact ⟨a,d⟩
theorem apf (F:WF b Z w t gk gi mm c va wa U O) {am:List Nat}:∀ps,(∀p∈ps,qA gk (t.br 3).length p)->∀z∈PL gk am ps,OZ t gk z:=by
 intro l;induction l with
 |nil=>intro _ z d;cases d
 |cons p ps s=>
  intro h z d;have d:=d;rcases eG.mp d with d | d
  . exact s (λx m=>h x (cu _ m)) z d
  . have hp:=h p cN;unfold Pt.cR at d;refine aQ (gQ.mp d) λj v r=>?_;subst r;refine ⟨?_,λa=>?_,λe=>?_⟩
    . rcases hp.kk with ⟨g,_⟩ | ⟨g,_⟩
      . exact abF g
      . show p.k<4;exact ao 0x84028cc80211 g
    . dsimp only at a⊢;rcases hp.kk with ⟨g,n⟩ | ⟨g,x,f,l,n,q,u⟩
      . refine aa n ?_;show (0:Int).toNat<_;refine aa (F.R.nb p.k g) ?_;decide
      . rw [n] at a⊢;unfold j0 at a⊢;dsimp only at a⊢;refine aa g ?_;generalize m:eF am x=o;induction o using aW with
        |none=>rw [m] at a;exact absurd (show (0:Int)<=-1 from a) ag
        |some i=>
         rw [m,q] at a;refine aa q ?_;dsimp only at a⊢;by_cases k:dU f l i<0\/((l-f).natAbs:Int)+1<=dU f l i
         . rw [if_pos k] at a;exact absurd a ag
         . rw [if_neg k] at a⊢;lia
    . dsimp only at e⊢;unfold iO at e⊢;generalize y:p.wh.lo am=o at e;induction o using aW with
      |none=>exact absurd (show (0:Int)<=-1 from e) ag
      |some l=>
       dsimp only at e⊢;split at e
       . rename_i k;refine aa (if_pos k) ?_;exact jm 0x820a301c0221e844701c02912 k.2 (f9 (dw 0xe0101c180e0101811 e))
       . exact absurd e ag
theorem Ic (h:r∈vG t):r∈ft b w t mm:=by unfold ft;unfold vG at h;exact gw _ (j8 _ h)
theorem YH {pr first:Nat} (F:WF b Z w t gk gi mm c va wa U O) (R:qB (t.br 3).length va wa U)
 (hp:∀p∈pts,qA gk (t.br 3).length p/\p.ok w gk) (V:pts.length<=3) (Kg:fj pts=d7) (J:bs.length<=60) (Y:∀x∈bs,x<4) (K:d7<=bs.length) (hc:c<=100)
 (hPL:PL gk (va 4) pts=(PLs.drop first).take d7)
 (pM:O[pr]?=some (.lst (PLs.map jY))) (jB:O[br]?=some (.lst (a9 bs))) (hC:eW O C 84 126 (.ref (b+13)))
 (Me:pr∉ft b w t mm) (BB:br∉ft b w t mm) (nC:C∉ft b w t mm)
 (sL:lk 103 loc=some (.int first)) (JT:lk 209 loc=some (.int d7)) (S9:lk 163 loc=some (jn d7 (pts.map Pt.av))) (AJ:lk 211 loc=some (.ref pr)) (pz:lk 193 loc=some (.ref (b+16))) (og:lk 188 loc=some (.ref br)) (JS:lk 126 loc=some (.ref (b+13))) (aiO:lk 132 loc=some (.ref C)):
 ∃D c' eB j2 k O' au Ib,aH GG (aj GG ai (n+10)) BM loc O=.next au O'/\WF b Z w t gk gi D c' eB j2 k O'/\qB (t.br 3).length eB j2 k/\c'<=c+3/\eB 4=va 4/\aA (ft b w t mm) O O'/\(∀q∈D,q∈mm\/O.length<=q)/\lk 188 au=some (.ref Ib)/\O'[Ib]?=some (.lst (a9 (bs.map λx=>3-x)))/\Ib∉ft b w t D/\∀x,x∉[153,177,191,91,188]->lk x au=lk x loc:=by
 refine bB (xr (gk:=gk) (am:=va 4) (ps:=pts) λx j=>(hp x j).1.w) λT pl2=>?_;have dU:(PL gk (va 4) pts).length=d7:=by exact bV (dJ 0x20020c4701420007a12 T Kg) (dJ 0x420c4701620007b12 T Kg)
 have M:(bs.take d7).length=d7:=by refine (j7).trans ?_;exact bV (ak 35193167544337 (qr _ _)) (ak 283673363217 (nN (ak 35193167544337 K)))
 generalize hZ:(PL gk (va 4) pts).zip (bs.take d7)=Z1;have Eh:Z1.length=d7:=by rw [<-hZ,List.length_zip,dU,M,Nat.min_self]
 refine uX (ap1 (gk:=gk) (am:=va 4) (bs:=bs.take d7) (λx j=>Y x (tB j)) pts ⟨va,wa⟩ U (λp h=>(hp p h).1) R F.ln (by exact jm 0xe03060087b1104084400313 M dU T)) λg k ru rU P L' v4=>?_;rw [hZ] at rU;rw [Kg] at ru;refine fJ (alG (n:=n+10) (first:=first) (Z1:=Z1) F pM jB (λh=>Me (Ic h)) (λh=>BB (Ic h)) (λs z hz=>by
  rw [<-hZ] at hz;refine bB (List.getElem?_zip_eq_some.mp hz) λX q2=>?_;have hs:s<d7:=by have:=(ez.mp X).1;exact aU 0x1000a3202084400112 this dU
  refine ⟨?_,?_,apf F pts (λp h=>(hp p h).1) z.1 (gW X),?_⟩
  . rw [hPL,abj hs,abf] at X;exact X
  . rw [abj hs] at q2;exact q2
  . exact Y _ (tB (gW q2))) (by exact aU 0x30d40be4028cf0bc9001202004400213 Eh K J) AJ sL pz og) λH m e1 E k1 G=>?_
 rw [Eh] at e1;rw [rU] at E;have Lm:aA (ft b w t mm) O H:=k1.mono λr h=>Ic h;have wk:eW H C 84 126 (.ref (b+13)):=by refine aQ (hC) λl a d=>?_;exact ⟨l,Lm.get _ _ nC a,d⟩
 have lC:=hC.elim λl a=>bZ a.1;refine ct (ahA (n:=n+1) (C:=C) (W:=(d7:Int)) E.H E.T E.Y wk (ps:=pts) (λp h=>(hp p h).2) (ao 0x7d07e4028cc80011 V)) λy k2 e2 g2=>?_;have F2:=E.keep k2 (λ_ _=>bP) (by refine a8 (E.row) λxs h=>?_;exact ⟨xs,k2.get _ _ bP h⟩);have PX:y[br]?=some (.lst (a9 bs)):=k2.get _ _ bP (Lm.get _ _ BB jB);let B:AH:=y++[.lst (a9 (bs.take d7))];have k3:aA [] y B:=aA.push _ _ _;have Q:WF b Z w t gk gi mm c va wa k B:=F2.keep k3 (λ_ _=>by exact bP) (by refine a8 (F2.row) λxs h=>?_;exact ⟨xs,bI h⟩);have sl:te (.ref br) .none (.int d7) y=.ok (.ref y.length) B:=by refine (g8 PX).trans ?_;show (if (0:Int)<=(d7:Int) then ig (.lst ((a9 bs).take (d7:Int).toNat)) y else .aq)=_;refine aa (if_pos (by exact ao 7354416) ..) (aa (rR ..) ?_);show ig _ y=_;unfold a9;refine aa NY.symm ?_;rfl
 have e3:=Aq (n:=n+9) (O:=B) (rb:=y.length) (bits:=bs.take d7) (cI _ _) (aU 0x785e4020cf0bc9001202004400213 M K J) (λx j=>Y x (tB j));have wm:eW B C 84 126 (.ref (b+13)):=by refine aQ wk λl a d=>?_;exact ⟨l,bI (k2.get _ _ bP a),d⟩
 have o:∀q,(q=b+13\/q=b+14\/q=b+15\/q∈mm)->q∈ft b w t mm:=by
  intro q h;rcases h with h | h | h | h
  . exact h▸th 4
  . exact h▸th 5
  . exact h▸th 6
  . exact wfM (by simpa using h)
 have rl:=apM (gk:=gk) (am:=va 4) pts (d7:Int);refine fv (ahH (n:=n+4) (u:=⟨va,wa⟩) Q.H Q.T wm (λh=>by
  simp at h;rcases h with h | h | h
  . exact nC (o _ (.inr (.inl h)))
  . exact nC (o _ (.inr (.inr (.inl h))))
  . exact nC (o _ (.inr (.inr (.inr h))))) (bits:=bs.take d7) (by exact aU 0x785e4020cf0bc9001202004400213 M K J) (rr:=H.length) (λr hr=>by
  have:r<H.length:=E.lt r (by
   simp at hr;rcases hr with h | h | h | h
   . exact o _ (.inl h)
   . exact o _ (.inr (.inl h))
   . exact o _ (.inr (.inr (.inl h)))
   . exact o _ (.inr (.inr (.inr h))))
  exact ak 35191020060945 this) (rs:=lF gk (va 4) d7 pts) (bI g2) (λr hr=>by refine aa M ?_;exact ap3 Q pts d7 hp (by exact dJ 0x2380c18001ec4400212 dU T) (xa _) r hr) (by unfold SZ;exact aU 0xc3502f9004128cc8801642f24004400013 rl hc V) (by exact ak 0x410083322004400012 rl V)) λv4' N D e4 T4 k4 TV=>?_
 rw [ru] at T4;have l2:=k2.len;have l3:B.length=y.length+1:=by simp [B]
 have l1':=k1.len;have F4:WF b Z w t gk gi D (c+(lF gk (va 4) d7 pts).length) g.va g.wa k N:=Q.sto k4 T4 TV v4;have Es:aA (ft b w t mm) B N:=k4.mono λr hr=>by
  simp at hr;rcases hr with h | h | h
  . exact o _ (.inr (.inl h))
  . exact o _ (.inr (.inr (.inl h)))
  . exact o _ (.inr (.inr (.inr h)))
 have e5:=ahV (n:=n+6) F4;have S:WF b Z w t gk gi D (c+(lF gk (va 4) d7 pts).length) g.va g.wa k (N++[.lst (lG g.va g.wa (t.br 3).length)]):=F4.keep (aA.push [] _ _) (λ_ _=>by exact bP) (by refine a8 (F4.row) λxs h=>?_;exact ⟨xs,bI h⟩);refine ct (ag5 (n:=n+8) S) λA e6 I g6=>?_;have F6:=S.keep I (λ_ _=>by exact bP) (by refine a8 (S.row) λxs h=>?_;exact ⟨xs,I.get _ _ bP h⟩);let L:List (List Nat):=[g.va 0,g.va 1,g.va 2]++(dQ (t.br 3).length).map g.wa;have hL1:lG g.va g.wa (t.br 3).length=L.map made:=by unfold lG;show _=List.map made ([g.va 0,g.va 1,g.va 2]++_);simp only [kJ,fO];rfl
 have hL2:([made (k 0 0),made (k 1 0),made (k 2 0)]++(dQ (t.br 3).length).map λp=>made (k 3 p))=L.map made:=by refine aa kJ (aa fO (aa (P.v 0 ag) (aa (P.v 1 ag) (aa (P.v 2 ag) ?_))));congr 1;apply vf;intro p hp;rw [Gw,P.w p (by simpa using hp)]
 rw [hL2] at g6;rw [hL1] at e5 I e6 S g6;have g5:=I.get _ _ bP (cI _ _);have eqm:=agI g5 g6;have PY:=I.get _ _ bP (bI (Es.get _ _ BB (bI PX)));let hf:AV->AV:=λv=>aI v v λi=>.int (3-i);have c7:=vI (it:=.ref br) (f:=λv O=>bh GG (aj GG ai (n+10)) (.aN .Sub (.ci 3) (.v 197)) ((197,v)::m) O) (h:=hf) (l:=a9 bs) (λaz=>yC (bI PY)) (λv hv az=>by refine aQ (gQ.mp hv) λx j vR=>?_;subst vR;exact kr 1 λF=>F (EJ _ _ _ _)) (by unfold a9;refine aa (cf ..) ?_;unfold SZ;exact ao 0x30d40be4020cf0bc80011 J) ((a9 bs).length+1) (by exact ao 9665776176)
 have Kw:(a9 bs).map hf=a9 (bs.map λx=>3-x):=by unfold a9;refine (fO).trans (aa fO ?_);apply vf;intro x j;have:=Y x j;show AV.int (3-(x:Int))=AV.int ((3-x:Nat):Int);congr 1;exact dz (ak 0xe2399b83100119011 Internal.jE) (ak 0x8e6680f83322002211 (tE (ao 0x64020d080111 this)))
 rw [Kw] at c7;have F7:WF b Z w t gk gi D (c+(lF gk (va 4) d7 pts).length) g.va g.wa k (A++[.lst (a9 (bs.map λx=>3-x))]):=F6.keep (aA.push [] _ _) (λ_ _=>by exact bP) (by refine a8 (F6.row) λxs h=>?_;exact ⟨xs,bI h⟩);have D2:∀x,x∉[153,177,191,91,188]->lk x m=lk x loc:=λx j=>G x (nD j);have apy:=(G 209 ag).trans JT;have apu:=(G 163 ag).trans S9;have q132:=(G 132 ag).trans aiO;have Fu:=(G 188 ag).trans og;have q126:=(G 126 ag).trans JS;have q193:=(G 193 ag).trans pz;refine A4 D _ g.va g.wa k _ (up 188 (.ref A.length) m) A.length ⟨?_,F7,P,(aU 0x19208010483322004400012 rl V),v4,((((Lm.trans k2.any).trans k3.any).trans Es).trans (aA.push _ _ _)).trans (I.any.trans (aA.push _ _ _)),λq hq=>?_,lk_s,cI _ _,λh=>?_,λx j=>by refine (cT (nB j)).trans ?_;exact D2 x j⟩
 . have s1:aH GG (aj GG ai (n+10)) (.ite (.aP .NotEq (.sub (.v 163) (.ci 1)) (.v 209)) .aq .nil) loc O=.next loc O:=by
    have i1:cW (jn d7 (pts.map Pt.av)) (.int 1) O=some (.int d7):=rfl;have ne:cG .NotEq (.int d7) (.int d7) O=some false:=by show (some (decide ((d7:Int)=d7))).map (!·)=_;simp
    exact goS 66049 λF=>F S9 JT ne
   have s2:aH GG (aj GG ai (n+10)) (.fV 153 (.bi 4 (bM (.aN .Sub (.v 209) (.ci 1)) (.neg (.ci 1)) (.neg (.ci 1)))) yu) loc O=.next m H:=by
    have r4:fQ 4 [.int ((d7:Int)-1),.int (-1),.int (-1)] O=.ok (.cj ((d7:Int)-1) (-1) (-1)) O:=by exact (if_pos (by unfold fh;simp;exact Internal.lh (λe=>aU 0x30d40be4828c480f487a13c2f22004400013 K J e) (λe=>ak 0x186a05f201462447b807a11 e)))
    have fu:dG (.cj ((d7:Int)-1) (-1) (-1)) O=d7+1:=by
     show (match (if fh _ _ _=true then some (gH _ _ _) else none) with | some l=>l.length+1 | none=>0)=_;refine aa (if_pos (by unfold fh;simp;exact Internal.lh (λe=>aU 0x30d40be4828c480f487a13c2f22004400013 K J e) (λe=>ak 0x186a05f201462447b807a11 e))) ?_;dsimp only;refine aa (gI ..) ?_;unfold ij qk;simp
     try lia
    simp only [Mz];have:bh GG (aj GG ai (n+10)) (.bi 4 (bM (.aN .Sub (.v 209) (.ci 1)) (.neg (.ci 1)) (.neg (.ci 1)))) loc O=.ok (.cj ((d7:Int)-1) (-1) (-1)) O:=by exact kr 513 λF=>F JT r4
    refine aa (this ..) (aa (BW ..) ?_);unfold Eu;refine aa fu <| e1
   have s3:aH GG (aj GG ai (n+10)) (.eO (.call 34 (bM (.call 33 (bf (.v 163) (.v 132))) (.call 70 (bw (.my (.v 188) .cn (.v 209)))) (.v 132)))) m H=.next m N:=by exact goS 0x10101010101010101 λF=>F apu q132 e2 Fu apy sl e3 q132 e4
   have s4:aH GG (aj GG ai (n+10)) (.ite (.aP .NotEq (.call 78 (bf (.v 126) (.v 193))) (.call 79 (bw (.v 193)))) .aq .nil) m N=.next m A:=by exact goS 1103823438081 λF=>F q126 q193 e5 q193 e6 eqm
   have s5:aH GG (aj GG ai (n+10)) (.mN 188 (.aN .Sub (.ci 3) (.v 197)) 197 (.v 188)) m A=.next (up 188 (.ref A.length) m) (A++[.lst (a9 (bs.map λx=>3-x))]):=by simp only [aqy,agw,show bh GG (aj GG ai (n+10)) (.v 188) m A=.ok (.ref br) A from (kr 1 λF=>F Fu),aJ.C3];unfold VU;rw [l0 PY,c7,BW,VS]
   unfold BM;exact bK (sq s1 ..) (bK (sq s2 ..) (bK (sq s3 ..) (bK (sq s4 ..) (bK (sq s5 ..) (bK (aqB ..) rfl)))))
 . rcases TV q hq with h | h
   . exact .inl h
   . right;exact kZ 0x20820d0180112810031304004400014 h l1' l3 l2
 . have:=F6.lt _ h;exact ao 273 this
end
structure Ph (b Z rp C:Nat) (w:Wo) (t:Lr) (gk:Nat->Sg) (gi:Sg) (mm:Option Nat) (c:Nat) (va wa:Nat->List Nat) (U:Nat->Nat->List Nat) (ps:List Pr) (O:AH) (loc:aB):Prop where
 F:WF b Z w t gk gi mm c va wa U O
 R:qB (t.br 3).length va wa U
 c:c<=30
 ne:ps≠[]
 l3:ps.length<=3
 hp:O[rp]?=some (.lst (ps.map (Pr.av gk)))
 ok:∀p∈ps,mK t gk (va 4) p/\O[p.rs]?=some (.lst (p.eV.map .int))/\rp<p.rs
 hC:eW O C 84 126 (.ref (b+13))
 lt:∀r∈ft b w t mm,r<C
 Cr:C<rp
 q184:lk 184 loc=some (.ref Z)
 q143:lk 143 loc=some (.ref (b+11))
 q126:lk 126 loc=some (.ref (b+13))
 q193:lk 193 loc=some (.ref (b+16))
 q132:lk 132 loc=some (.ref C)
 q159:lk 159 loc=some (.ref rp)
section
variable {gk:Nat->Sg}
theorem WF.am4 (F:WF b Z w t gk gi mm c va wa U O):(va 4).length=4:=by exact (F.T.ln.1 4 gi F.Y.gs F.Y.nm).trans F.Y.w4
theorem Ph.mv (P:Ph b Z rp C w t gk gi mm c va wa U ps O loc) (k:aA [] O O') (h:∀x,x∈[184,143,126,193,132,159]->lk x au=lk x loc):Ph b Z rp C w t gk gi mm c va wa U ps O' au where
 F:=P.F.keep k (λ_ _=>bP) (by refine a8 P.F.row λxs h=>?_;exact ⟨xs,k.get _ _ bP h⟩)
 R:=P.R
 c:=P.c
 ne:=P.ne
 l3:=P.l3
 hp:=k.get _ _ bP P.hp
 ok:=λp hp=>⟨(P.ok p hp).1,k.get _ _ bP (P.ok p hp).2.1,(P.ok p hp).2.2⟩
 hC:=by refine aQ P.hC λl a d=>?_;exact ⟨l,k.get _ _ bP a,d⟩
 lt:=P.lt
 Cr:=P.Cr
 q184:=(h 184 ag).trans P.q184
 q143:=(h 143 ag).trans P.q143
 q126:=(h 126 ag).trans P.q126
 q193:=(h 193 ag).trans P.q193
 q132:=(h 132 ag).trans P.q132
 q159:=(h 159 ag).trans P.q159
theorem Ph.rw (P:Ph b Z rp C w t gk gi mm c va wa U ps O loc) (k:aA [Z] O O') (hr:∃xs,O'[Z]?=some (.lst (a9 xs))):Ph b Z rp C w t gk gi mm c va wa U ps O' loc:=by
 have e:Z<C:=by have:=P.lt b (th 0);have:=P.F.rb;lia
 have f:=P.Cr;have nr:∀q,q≠Z->q∉[Z]:=λq h=>m1 h;exact {
  F:=P.F.keep k (λr h=>nr r (P.F.offρ r h)) hr
  R:=P.R
  c:=P.c
  ne:=P.ne
  l3:=P.l3
  hp:=k.get _ _ (nr _ (aU 0x101043004044400112 f e)) P.hp
  ok:=λp hp=>⟨(P.ok p hp).1,k.get _ _ (nr _ (by have:=(P.ok p hp).2.2;exact cz 0x60410c81811004044400113 this f e)) (P.ok p hp).2.1,(P.ok p hp).2.2⟩
  hC:=by refine aQ P.hC λl a d=>?_;exact ⟨l,k.get _ _ (nr _ (ak 279378395409 e)) a,d⟩
  lt:=P.lt
  Cr:=P.Cr
  q184:=P.q184
  q143:=P.q143
  q126:=P.q126
  q193:=P.q193
  q132:=P.q132
  q159:=P.q159}
theorem ao7 (f:List Int):∃(b Z rp C:Nat) (w:Wo) (t:Lr) (gk:Nat->Sg) (gi:Sg) (mm:Option Nat) (c:Nat) (va wa:Nat->List Nat) (U:Nat->Nat->List Nat) (ps:List Pr) (O':AH) (au:aB),Ph b Z rp C w t gk gi mm c va wa U ps O' au/\
 ∀g,aH GG (aj GG ai (n+16)) (.seq Bg (.seq Bh (.seq Bm (.seq Bn (.seq EE (.seq EF g)))))) [(183,.gA (f.map .int))] O=aH GG (aj GG ai (n+16)) g au O':=by
 refine fv (ahB (n:=n+15) (O:=O) f) λZ xs R e0 k0 g0 _=>?_;refine aal (ah0 (n:=n+11) g0) λb w t gk gi mm c va wa U e z9=>j5 z9 λe1 D R1 H=>?_;let C:=e.length+1;let k:AH:=(e++[.lst []])++[.ba 84 [(126,.ref (b+13)),(127,.ref e.length),(128,.int 0)]];have e2:ny GG (aj GG ai (n+16)) 84 [.ref (b+13),.ref e.length] (e++[.lst []])=.ok (.ref C) k:=by have:=anU (n:=n+15) (O:=e++[.lst []]) (x:=.ref (b+13)) (y:=.ref e.length);rw [show (e++[aV.lst []]).length=C by simp [C]] at this;exact this
 have V:aA [] e k:=(aA.push [] _ _).trans (aA.push [] _ _);have A:=D.keep V (λ_ _=>bP) (by refine a8 D.row λxs h=>?_;exact ⟨xs,V.get _ _ bP h⟩);have J:eW k C 84 126 (.ref (b+13)):=⟨_,by
  have:=cI (e++[aV.lst []]) (.ba 84 [(126,.ref (b+13)),(127,.ref e.length),(128,.int 0)]);rwa [show (e++[aV.lst []]).length=C by simp [C]] at this,rfl⟩
 have l2:k.length=C+1:=by simp [k,C]
 have E:∀r∈ft b w t mm,r<C:=λr h=>by have:=D.lt r h;lia
 have u:Z<C:=by have:=E b (th 0);have:=A.rb;lia
 have nr:∀q,q≠Z->q∉[Z]:=λq h=>m1 h;refine a8 (A.row) λi r2=>?_;refine ct (ja (n:=n+15) r2) λm T k3 g3=>?_;have X:=A.keep k3 (λr h=>nr r (A.offρ r h)) ⟨_,g3⟩;have wm:eW m C 84 126 (.ref (b+13)):=by refine aQ J λl a d=>?_;exact ⟨l,k3.get _ _ (nr _ (ak 279378395409 u)) a,d⟩
 let fW:Bool:=decide (nx i%4=3);let rp:=m.length;let o:AH:=m++[.lst []];have P:WF b Z w t gk gi mm c va wa U o:=X.keep (aA.push [] _ _) (λ_ _=>bP) ⟨_,bI g3⟩;refine ct (ja (n:=n+15) (O:=o) (bI g3)) λj e5 k5 g5=>?_;have Q:=P.keep k5 (λr h=>nr r (P.offρ r h)) ⟨_,g5⟩;have l3:=k3.len;have v:C<rp:=by show C<m.length;exact aU 0x20828c490400c4400012 l3 l2
 have K:eW j C 84 126 (.ref (b+13)):=by refine aQ wm λl a d=>?_;exact ⟨l,k5.get _ _ (nr _ (ak 279378395409 u)) (bI a),d⟩
 have G:j[rp]?=some (.lst []):=k5.get _ _ (nr _ (aU 0x101043004044400112 v u)) (cI m _);generalize z:1+nx i.dropLast%3=np at*;let p:aB:=[(183,.gA (f.map .int)),(184,.ref Z),(143,.ref (b+11)),(126,.ref (b+13)),(193,.ref (b+16)),(132,.ref C),(213,.str (iJ fW)),(159,.ref rp)];refine Nm (ao4 (n:=n+12) (loc:=p) Q G (λr h=>by have:=E r h;exact aU 0x1000a3202044400112 this v) (aU 0x820a3004044400112 v u) Q.am4 (ak 0x64420cc801110004a312 z (gf _ ag)) rfl rfl rfl rfl) λps S W e6 B Y M N k6 s=>?_;refine ⟨b,Z,rp,C,w,t,gk,gi,mm,c,va,wa,U,ps,S,W,⟨Y,R1,H,λh=>by rw [h] at B;simp at B;exact ak 0x812884001312 B z,by exact aU 0x190083324044410128c4400213 B z (gf _ ag),M,N,?_,E,v,(s 184 ag),(s 143 ag),(s 126 ag),(s 193 ag),(s 132 ag),(s 159 ag)⟩,λg=>?_⟩
 . refine aQ K λl a d=>⟨l,k6.get _ _ (m2 (ak 279378395409 u) (ak 35191020060945 v)) a,d⟩
 . have s0:aH GG (aj GG ai (n+16)) Bg [(183,.gA (f.map .int))] O=.next [(183,.gA (f.map .int)),(184,.ref Z)] R:=by
    unfold Bg;exact goS 2 λF=>F e0
   have s1:aH GG (aj GG ai (n+16)) Bh [(183,.gA (f.map .int)),(184,.ref Z)] R=.next [(183,.gA (f.map .int)),(184,.ref Z),(143,.ref (b+11)),(126,.ref (b+13)),(193,.ref (b+16))] e:=by unfold Bh;exact goS 2 λF=>F e1
   have s2:aH GG (aj GG ai (n+16)) Bm [(183,.gA (f.map .int)),(184,.ref Z),(143,.ref (b+11)),(126,.ref (b+13)),(193,.ref (b+16))] e=.next [(183,.gA (f.map .int)),(184,.ref Z),(143,.ref (b+11)),(126,.ref (b+13)),(193,.ref (b+16)),(132,.ref C)] k:=by unfold Bm;exact goS 3 λF=>F e2
   have s3:aH GG (aj GG ai (n+16)) Bn [(183,.gA (f.map .int)),(184,.ref Z),(143,.ref (b+11)),(126,.ref (b+13)),(193,.ref (b+16)),(132,.ref C)] k=.next [(183,.gA (f.map .int)),(184,.ref Z),(143,.ref (b+11)),(126,.ref (b+13)),(193,.ref (b+16)),(132,.ref C),(213,.str (iJ fW))] m:=by
    unfold Bn;by_cases h:nx i%4=3
    . have q:decide (((nx i%4:Nat):Int)=3)=true:=decide_eq_true (dz (ao 879875804627473 h) (ao 31671303275281 h));have L:iJ fW=[97,99,109,98]:=by show iJ (decide _)=_;refine bA (decide_eq_true h) ?_;rfl
      (refine aa L ?_;exact goS 131331 λF=>F T (wG _ _) q)
    . have q:decide (((nx i%4:Nat):Int)=3)=false:=decide_eq_false ((kL h).elim (λI=>ao 879873657143569 I) (λI=>iu (ao 430654882066 (gf _ ag) I)));have L:iJ fW=[97,99,109]:=by show iJ (decide _)=_;refine bA (decide_eq_false h) ?_;rfl
      (refine aa L ?_;exact goS 131331 λF=>F T (wG _ _) q)
   have s4:aH GG (aj GG ai (n+16)) EE [(183,.gA (f.map .int)),(184,.ref Z),(143,.ref (b+11)),(126,.ref (b+13)),(193,.ref (b+16)),(132,.ref C),(213,.str (iJ fW))] m=.next p o:=by unfold EE;exact goS 0 id
   have s5:aH GG (aj GG ai (n+16)) EF p o=.next W S:=by
    show aH GG (aj GG ai (n+16)) (.fV 186 (.bi 4 (bw (.aN .Add (.ci 1) (.aN .Mod (.call 68 (bw (.v 184))) (.ci 3))))) BI) p o=_;have uH:=oz (nx i.dropLast) 3 ag j;have uH:dg .Mod (.int (nx i.dropLast)) (.int 3) j=.ok (.int ((nx i.dropLast%3:Nat):Int)) j:=uH;have r4:fQ 4 [.int (1+((nx i.dropLast%3:Nat):Int))] j=.ok (.cj 0 np 1) j:=by refine aa z.symm ?_;show (if fh _ _ _=true then _ else _)=_;refine (if_pos (by unfold fh;simp;lia)).trans ?_;rfl
    have yh:lk 184 p=some (.ref Z):=rfl;have:bh GG (aj GG ai (n+16)) (.bi 4 (bw (.aN .Add (.ci 1) (.aN .Mod (.call 68 (bw (.v 184))) (.ci 3))))) p o=.ok (.cj 0 np 1) j:=by exact kr 131330 λF=>F e5 uH r4
    simp only [Mz,this,BW];unfold Eu;refine aa (sI (ak 0x30d40be4428cc801110004a312 z (gf _ ag))) <| e6
   exact bK (sq s0) (bK (sq s1) (bK (sq s2) (bK (sq s3) (bK (sq s4) (bK (sq s5) rfl)))))
end
section
variable {gk:Nat->Sg}
noncomputable def tN:List (List Nat):=[[97,115,115,105,103,110,95,116,111,95,110,101,116],[116,119,111],[98,97,100,95,114,97,110,103,101],[115,101,108,101,99,116,95,111,102,95,115,99,97,108,97,114]]
theorem aqY (g) (bg):de g bg=[]\/de g bg∈tN:=by
 unfold de;induction bg using aW with
 |none=>exact .inl rfl
 |some s=>
  dsimp only;generalize h:s.fE g=a;induction a using aW with
  |none=>exact .inl rfl
  |some f=>
   right;unfold Se.fE at h;split at h
   . (injection h with h;subst h);decide
   . induction s using Se.casesOn with
     |ix x=>contradiction
     |kB l r=>dsimp only at h;split at h<;>cases h;decide
     |up x c=>dsimp only at h;split at h<;>cases h;decide
     |down x c=>dsimp only at h;split at h<;>cases h;decide
theorem apS:∀ps,∀x∈jZ gk ps,x∈tN:=by
 intro l;induction l with
 |nil=>intro x h;contradiction
 |cons p ps b=>
  intro x h;rw [jZ] at h;split at h
  . exact b x h
  . rename_i a;rcases cF.mp h with rfl | h
    . unfold oF at a⊢;split
      . split<;>decide
      . rename_i c;rw [if_neg c] at a;exact (aqY _ _).resolve_left a
    . exact b x h
theorem Wl {x:List Nat} (h:x∈tN):rV (.str ⟨x.toArray⟩)=true:=by simp only [tN,cF,bP,or_false] at h;rcases h with rfl | rfl | rfl | rfl<;>simp [rV,nO.strOk,Str.cps]
theorem asA (m):∀(l:List (List Nat)),(l.map AV.str).mapM (fs (m+1) O)=some (l.map λx=>vj ⟨x.toArray⟩):=by
 intro l;induction l with
 |nil=>exact rfl
 |cons a l b=>refine aa gc (aa Cv (aa b ?_));rfl
theorem Y0:∀{l:List (List Nat)},(∀x∈l,x∈tN)->fP (.list (l.map λx=>vj ⟨x.toArray⟩))=true:=by
 intro l b;have c:∀l:List (List Nat),(∀x∈l,x∈tN)->mC (l.map λx=>vj ⟨x.toArray⟩)=true:=by
  intro l;induction l with
  |nil=>intro _;simp [mC]
  |cons x xs a=>intro h;simp only [gc,mC,Wl (h x cN),a λy e=>h y (cu _ e)];rfl
 have d:∀l:List (List Nat),qt (l.map λx=>vj ⟨x.toArray⟩)<=2:=by
  intro l;induction l with
  |nil=>simp [qt]
  |cons x xs a=>simp [qt,tH];exact ao 74775590862865 a
 unfold fP;simp only [rV,c l b];have:=d l;simp [tH];exact ao 0x7e5e4020c880011 this
theorem anP {l:List (List Nat)} (a:O[r]?=some (.lst (l.map .str))) (b:O[r2]?=some (.lst [])) (c:∀x∈l,x∈tN):cG .NotEq (.ref r) (.ref r2) O=some (!l.isEmpty):=by
 show (ph O (.ref r) (.ref r2)).map (!·)=_;have hr:∀(r:Nat) (l:List (List Nat)),O[r]?=some (.lst (l.map .str))->fs 8 O (.ref r)=some (.list (l.map λx=>vj ⟨x.toArray⟩)):=λr l h=>BK h (asA 6 _);refine aa (Am (hr r l a) (hr r2 [] b) (Y0 c) (Y0 (λ_ h=>absurd h bP))) ?_;induction l using cK with
 |nil=>simp [kM,vi]
 |cons x xs=>simp [kM,vi]
theorem alH (O):cG .In (.str [97,115,115,105,103,110,95,116,111,95,110,101,116]) (.aw [.str [97,115,115,105,103,110,95,116,111,95,110,101,116],.str [98,97,100,95,114,97,110,103,101]]) O=some true:=by
 have a:∀x∈tN,fP (.str ⟨x.toArray⟩)=true:=by intro x b;unfold fP;refine aa (Wl b) ?_;simp [tH]
 have c:fs 8 O (.str [97,115,115,105,103,110,95,116,111,95,110,101,116])=some (vj ⟨([97,115,115,105,103,110,95,116,111,95,110,101,116]:List Nat).toArray⟩):=rfl;have r2:[AV.str [97,115,115,105,103,110,95,116,111,95,110,101,116],.str [98,97,100,95,114,97,110,103,101]].mapM (fs 8 O)=some [vj ⟨([97,115,115,105,103,110,95,116,111,95,110,101,116]:List Nat).toArray⟩,vj ⟨([98,97,100,95,114,97,110,103,101]:List Nat).toArray⟩]:=rfl;show wA O (.str [97,115,115,105,103,110,95,116,111,95,110,101,116]) [.str [97,115,115,105,103,110,95,116,111,95,110,101,116],.str [98,97,100,95,114,97,110,103,101]]=_;unfold wA;refine aa c (aa r2 ?_);show (if fP _&&List.all [_,_] fP then some (List.any [_,_] _) else none)=_;refine aa (a _ ag) (aa NO (aa (a _ ag) (aa NO (aa (a _ ag) ?_))));simp [kM]
theorem ao8 (P:Ph b Z rp C w t gk gi mm c va wa U ps O loc):
 (∃O' au,Ph b Z rp C w t gk gi mm c va wa U ps O' au/\lk 131 au=some (Bc ((ps.map Pr.bG).map b0.bc))/\lk 212 au=some (.str [])/\lk 136 au=some (jn (jI gk (ps.map Pr.bG)) (nz gk (ps.map Pr.bG)))/\(∀p∈ps,p.k≠1/\de (gk p.k) p.bg=[])/\
   ∀a,aH GG (aj GG ai (n+16)) (.seq pU (.seq pV (.seq LG (.seq Bo (.seq Ez (.seq EA a)))))) loc O=aH GG (aj GG ai (n+16)) a au O')\/
 ∃O',∀a,aH GG (aj GG ai (n+16)) (.seq pU (.seq pV (.seq LG (.seq Bo (.seq Ez (.seq EA a)))))) loc O=.ret (.bool true) O':=by
 refine ct (al7 (n:=n+16) P.hp P.ne P.l3 P.q159) λv N I e1=>?_;have s:Ph b Z rp C w t gk gi mm c va wa U ps (O++[.lst []]) (up 201 (.ref O.length) v):=P.mv (aA.push _ _ _) (λx d=>by refine (cT (nA d)).trans <| I x (nA d∘Eq.symm))
 have E:=bZ P.hp;have L:lk 201 (up 201 (.ref O.length) v)=some (.ref O.length):=lk_s;refine fJ (apT (n:=n+16) s.hp (cI O _) (ak 35191020060945 E) (λp hp=>(s.ok p hp).1.k) P.l3 L) λJ l e2 g2 k2 G=>?_;have D:aA [] O J:=by refine ⟨λr o _ h=>?_,xd (aA.push [] O [.lst []]).len k2.len⟩;have:=bZ h;exact k2.get _ _ (m1 (ak 35191020060945 this)) (bI h)
 have Q:∀x,x∉[131,201,203,177,191,202,208,199]->lk x l=lk x loc:=λx d=>by exact bK (G x (nD d)) (bK (cT (nB d)) (bK (I x (nB d∘Eq.symm)) rfl))
 have e:=P.mv D (λx d=>Q x (nC d));have q:lk 131 l=some (Bc ((ps.map Pr.bG).map b0.bc)):=by exact (G 131 ag).trans (lq rfl N)
 have k:lk 201 l=some (.ref O.length):=by refine (G 201 ag).trans ?_;exact L
 refine aQ (Lj (es:=ps.map Pr.bG) (by simpa using P.ne) (by simpa using P.l3)) λm T FL=>aQ (Jt (n:=n) e.F.H e.F.Y (p:=true) (Ls e.F λp hp=>(e.ok p hp).1) (by simpa using P.ne) (by have:=P.l3;simp;exact ao 0x7d07e4028cc80011 this) FL T e.F.H.lt) λg k3 j=>?_;rw [P.F.rf.2.2.1] at j;have g3:=k3.get _ _ bP g2;have H:aH GG (aj GG ai (n+16)) Bo (up 201 (.ref O.length) v) (O++[.lst []])=.next l J:=by
  have S:dG (.ref rp) (O++[.lst []])=ps.length+1:=by rw [l0 s.hp,cf]
  exact goS 257 λF=>F s.q159 (jU S e2)
 have A:∀(x:List Nat) (r:List (List Nat)) (M:AH),jZ gk ps=x::r->cW (.ref O.length) (.int 0) (g++M)=some (.str x):=λx r M h=>jD (bI g3) (by refine aa h ?_;rfl);have i:=anP (bI g3) (cI g _) (apS ps);rcases apK P.F.net ps (λp hp=>(P.ok p hp).1) with ⟨y,u,z⟩ | ⟨f,x,r,y,u,z⟩
 . left;rw [y] at j;rw [u] at i;refine dE (g++[.lst []]) (up 212 (.str []) (up 136 (jn (jI gk (ps.map Pr.bG)) (nz gk (ps.map Pr.bG))) l)) ⟨e.mv (k3.trans (aA.push _ _ _)) (λx d=>(cT (nA d)).trans (cT (nA d))),?_,lk_s,lq rfl lk_s,z,λa=>?_⟩
   . exact lr2 rfl q
   . have i:=i;refine (e1 ..).trans <| goS 565166173389572 λF=>F H e.q143 q j (lr2 rfl k) i rfl
 . right;rw [y] at j;rw [u] at i;have K:=i;refine ⟨g++[.lst []],λa=>?_⟩;have B:=A x r [.lst []] u;refine (e1 ..).trans ?_;rcases z with rfl | ⟨rfl,rfl⟩
   . have R:cG .Eq (.str x) (.str x) (g++[.lst []])=some true:=congrArg some (xY rfl);exact goS 0x1010103020401010304 λF=>F H e.q143 q j (lr2 rfl k) K lk_s (lr2 rfl k) B R
   . have V:cG .In (.str [97,115,115,105,103,110,95,116,111,95,110,101,116]) (.aw [.str [97,115,115,105,103,110,95,116,111,95,110,101,116],.str [98,97,100,95,114,97,110,103,101]]) (g++[.lst []])=some true:=alH _;exact goS 0x1040104010103020401010304 λF=>F H e.q143 q j (lr2 rfl k) K lk_s (lr2 rfl k) B (lr2 rfl k) B lk_s V
end
variable {zb:Nat}
noncomputable def mJ:List Pr->List kc
 |[]=>[]
 |p::ps=>mJ ps++p.cR
theorem acS (q):∀ps,mJ (ps++[q])=q.cR++mJ ps:=by
 intro l;induction l with
 |nil=>exact vc _ |>.symm
 |cons p ps a=>dsimp only [Cs,mJ];rw [a,ju]
theorem acR:∀ps,(∀p∈ps,p.cR.length<=10)->(mJ ps).length<=10*ps.length:=by
 intro l;induction l with
 |nil=>intro _;exact bT _
 |cons p ps b=>intro h;have:=b λq a=>h q (cu _ a);have:=h p cN;dsimp only [mJ];simp only [eC,jv];lia
section
variable {gk:Nat->Sg}
theorem apd (Q:O[rp]?=some (.lst (ps.map (Pr.av gk)))) (A:∀p∈ps,O[p.rs]?=some (.lst (p.eV.map .int))) (hb:∀p∈ps,p.cR.length<=10) (I:ps.length<=3) (H:O[zb]?=some (.lst [])) (L:O.length<=zb+1) (y:lk 211 loc=some (.ref zb)):
 ∃pr O' au,d8 (.ref rp) (jN [203,177,191,202,208,199]) (aH GG (aj GG ai n) Fm) (ps.length+1) 0 loc O=.next au O'/\aA [] O O'/\lk 211 au=some (.ref pr)/\O'[pr]?=some (.lst ((mJ ps).map jY))/\zb<=pr/\∀x,x∉[203,177,191,202,208,199,211]->lk x au=lk x loc:=by
 refine qg (pq (b:=aH GG (aj GG ai n) Fm) (l:=ps.map (Pr.av gk))
  (λi au O'=>aA [] O O'/\∃pr,lk 211 au=some (.ref pr)/\O'[pr]?=some (.lst ((mJ (ps.take i)).map jY))/\zb<=pr/\∀x,x∉[203,177,191,202,208,199,211]->lk x au=lk x loc)
  (λi au O' h=>oK (h.1.get _ _ bP Q)) (λi v au c s J=>by
   obtain ⟨kk,pr,uO,j,t,o⟩:=J;rw [iR] at s;refine aQ (gJ.mp s) λp hp E=>?_;subst E;have hi:=(ez.mp hp).1;have r:=gW hp;have P:ps.take (i+1)=ps.take i++[p]:=by refine aa GN (aa hp ?_);rfl
   have gs:=kk.get _ _ bP (A p r);let d:aB:=up 199 (.bool p.fx) (up 208 (.str (de (gk p.k) p.bg)) (up 202 (.ref p.rs) (up 191 (.int p.cp) (up 177 (.str (bH p.k)) (up 203 p.bG.bc au)))));have a1:jN [203,177,191,202,208,199] (p.av gk) au=some d:=rfl;have C:∀a,lk 177 ((91,a)::d)=some (.str (bH p.k)):=λa=>by exact bK (EJ ..) (bK (if_neg ag ..) (bK (ic (by rfl) ..) (bK (ic (by rfl) ..) (bK (ic (by rfl) ..) (bK (ic (by rfl) ..) (bK (lk_s ..) rfl))))))
   have B:∀a,lk 191 ((91,a)::d)=some (.int p.cp):=λa=>by exact bK (EJ ..) (bK (if_neg ag ..) (bK (ic (by rfl) ..) (bK (ic (by rfl) ..) (bK (ic (by rfl) ..) (bK (lk_s ..) rfl)))))
   have k:lk 202 d=some (.ref p.rs):=by exact lr2 rfl lk_s
   have m:lk 211 d=some (.ref pr):=by exact lr6 rfl uO
   let K:AV->AV:=λv=>.aw [.str (bH p.k),.int p.cp,v];have sl:p.eV.length<=10:=by have:=hb p r;unfold Pr.cR at this;simpa using this
   have u:=vI (f:=λv O=>bh GG (aj GG ai n) (.aw (bM (.v 177) (.v 191) (.v 91))) ((91,v)::d) O) (λaz=>yC (bI gs)) (λv s az=>by exact kr 257 λF=>F (C v) (B v)) (by refine aa (cf ..) ?_;unfold SZ;exact ao 0x30d40be4020e880011 sl) ((p.eV.map AV.int).length+1) (ao 9665776176)
   have e1:(p.eV.map AV.int).map K=p.cR.map jY:=by unfold Pr.cR;refine fO.trans (aa fO ?_);rfl
   rw [e1] at u;have w:=acR (ps.take i) λq M=>hb q (tB M);rw [j7] at w;have D:=hb p r;have add:dg .Add (.ref c.length) (.ref pr) (c++[.lst (p.cR.map jY)])=.ok (.ref (c.length+1)) ((c++[.lst (p.cR.map jY)])++[.lst ((mJ (ps.take (i+1))).map jY)]):=by
    (refine aa P ?_;rw [acS,kJ,show c.length+1=(c++[aV.lst (p.cR.map jY)]).length by rw [eC];rfl])
    exact Py (cI _ _) (bI j) (by rw [cf,cf];unfold SZ;exact kZ 0x61a817c88009066080519401480c0d10a62006880015 D w hi I (qr _ _))
   have k1:aA [] c ((c++[aV.lst (p.cR.map jY)])++[.lst ((mJ (ps.take (i+1))).map jY)]):=(aA.push _ _ _).trans (aA.push _ _ _);refine ⟨d,up 211 (.ref (c.length+1)) d,_,a1,.inl ?_,kk.trans k1,c.length+1,lk_s,?_,?_,λx N=>?_⟩
   . have G:=l0 gs;exact goS 16843010 λF=>F k (yd G u) m add
   . have:=cI (c++[aV.lst (p.cR.map jY)]) (.lst ((mJ (ps.take (i+1))).map jY));rwa [eC] at this
   . have:=kk.len;have:=bZ j;exact aU 0x24422083004004400112 this t
   . have g:=N;rw [cT (nB g),cT (nB g),cT (nB g),cT (nB g),cT (nB g),cT (nB g),cT (nB g)];exact o x g) (ps.map (Pr.av gk)).length 0 (ps.length+1) loc O (Oj _) (by simp) ⟨aA.refl _ _,zb,y,H,bT _,λ_ _=>rfl⟩) λau O' e kk z=>?_
 refine kI z λpr uO j t o=>?_;rw [cf,Cw] at j;exact d9 pr O' au ⟨e,kk,uO,j,t,o⟩
theorem alL (f:Pr->Nat):∀ps:List Pr,yw (ps.map λp=>AV.int (f p:Nat))=some (ps.map λp=>((f p:Nat):Int)):=by
 intro l;induction l with
 |nil=>exact rfl
 |cons p ps a=>show (yw (ps.map λp=>AV.int (f p:Nat))).map _=_;rw [a];rfl
theorem acQ {am:List Nat}:∀ps,(∀p∈ps,p.cR=(fq gk p).cR gk am)->mJ ps=PL gk am (ps.map (fq gk)):=by
 intro l;induction l with
 |nil=>intro _;exact rfl
 |cons p ps b=>intro h;dsimp only [mJ];rw [b λq a=>h q (cu _ a),h p cN];rfl
theorem Zg {am:List Nat}:∀ps,(∀p∈ps,p.cR=(fq gk p).cR gk am/\1<=(fq gk p).w/\(fq gk p).w<=10)->(ps.map λp=>((p.eV.length:Nat):Int)).sum=fj (ps.map (fq gk))/\fj (ps.map (fq gk))<=10*ps.length/\(ps≠[]->1<=fj (ps.map (fq gk)))/\jI gk (ps.map Pr.bG)=fj (ps.map (fq gk))/\0<=fj (ps.map (fq gk))/\∀p∈ps,p.cR.length<=10:=by
 intro l;induction l with
 |nil=>intro _;exact ⟨rfl,xa _,λh=>absurd rfl h,rfl,xa _,λ_ h=>nomatch h⟩
 |cons p ps m=>
  intro h;refine Ci (m λq a=>h q (cu _ a)) λg i n j c k=>fH (h p cN) λa1 a2 b=>?_;have d:(p.eV.length:Int)=(fq gk p).w:=by
   have:p.cR.length=p.eV.length:=by unfold Pr.cR;simp
   refine bA this.symm (aa a1 ?_);unfold Pt.cR;simp;lia
  have e:p.cR.length=p.eV.length:=by unfold Pr.cR;simp
  have f:fj ((p::ps).map (fq gk))=(fq gk p).w+fj (ps.map (fq gk)):=rfl;refine aa f <| ⟨?_,?_,λ_=>hJ 0x20021383100604009812 a2 c,?_,by exact hJ 0x20020383100604009812 a2 c,λq a=>?_⟩
  . exact aa gc (aa List.sum_cons (aa g (aa d rfl)))
  . simp only [jv];exact jl 0x900bd3100160c07a62206880812 b i
  . show p.bG.eK (gk p.bG.key)+jI gk (ps.map Pr.bG)=_;refine bA j ?_;rfl
  . rcases cF.mp a with rfl | a
    . exact dJ 0xa20107440408011e84400213 e d b
    . exact k q a
structure Bt (bS low gT br pr:Nat) (bits:List Nat) (gk:Nat->Sg) (am:List Nat) (C:Nat) (ps:List Pr) (O:AH) (loc:aB):Prop where
 ht:fj (ps.map (fq gk))=bS
 t30:bS<=30
 DT:1<=gT/\low+gT<=bS
 hb:O[br]?=some (.lst (a9 bits))
 bl:bits.length=bS
 b4:∀x∈bits,x<4
 pl:O[pr]?=some (.lst ((PL gk am (ps.map (fq gk))).map jY))
 fr:C<br/\C<pr
 apv:lk 187 loc=some (.int bS)
 Fu:lk 188 loc=some (.ref br)
 Yx:lk 190 loc=some (.int low)
 Yz:lk 210 loc=some (.int gT)
 uO:lk 211 loc=some (.ref pr)
theorem ao9 (P:Ph b Z rp C w t gk gi mm c va wa U ps O loc) (eS:∀p∈ps,p.k≠1/\de (gk p.k) p.bg=[]) (JU:lk 212 loc=some (.str [])) (sM:lk 136 loc=some (jn (jI gk (ps.map Pr.bG)) (nz gk (ps.map Pr.bG)))):
 ∃(bS low gT br pr:Nat) (bits:List Nat) (O':AH) (au:aB),Ph b Z rp C w t gk gi mm c va wa U ps O' au/\Bt bS low gT br pr bits gk (va 4) C ps O' au/\(∀x,x∈[131,136]->lk x au=lk x loc)/\
  ∀e,aH GG (aj GG ai (n+16)) (.seq EB (.seq Bi (.seq Bj (.seq Bk (.seq Bl (.seq EC (.seq LD e))))))) loc O=aH GG (aj GG ai (n+16)) e au O':=by
 have A:=λp hp=>Ys P.F (P.ok p hp).1 (eS p hp).2;refine Ci (Zg ps λp hp=>⟨(A p hp).2.2.2.2,(A p hp).1.w,(A p hp).2.2.2.1⟩) λf1 f2 f3 f4 f5 f6=>?_;have dq:=acQ ps λp hp=>(A p hp).2.2.2.2;have X:=P.l3;obtain ⟨bS,q⟩:∃bS:Nat,(bS:Int)=fj (ps.map (fq gk)):=⟨_,f9 f5⟩;have UA:1<=bS:=by have:=f3 P.ne;exact dw 0x9418001ec4009812 this q
 have z:=bZ P.hp;have AK:=P.Cr;let J:AV->AV:=λv=>((cW v (.int 3) O).map λx=>aR .none x λr=>aL .none O r λl=>.int l.length).getD .none;have c1:=vI (O:=O) (it:=.ref rp) (f:=λv O=>bh GG (aj GG ai (n+16)) (.bi 0 (bw (.sub (.v 107) (.ci 3)))) ((107,v)::loc) O) (h:=J) (λaz=>yC (bI P.hp)) (λv K az=>by
  refine aQ (gQ.mp K) λp hp vU=>?_;subst vU;have i3:∀O,cW (p.av gk) (.int 3) O=some (.ref p.rs):=λ_=>rfl;have gs:=(P.ok p hp).2.1;have ln:=mj (bI (τ:=[.lst az]) gs);have K:J (p.av gk)=.int (p.eV.map AV.int).length:=g8 gs
  (rw [K];exact kr 3 λF=>F ln)) (by rw [cf];unfold SZ;exact ao 0x30d40be4020cc80011 X) ((ps.map (Pr.av gk)).length+1) (ao 9665776176)
 have e1:(ps.map (Pr.av gk)).map J=ps.map λp=>AV.int ((p.eV.length:Nat):Int):=by rw [fO];apply vf;intro p hp;have gs:=(P.ok p hp).2.1;exact (g8 gs).trans (congrArg (λk:Nat=>AV.int k) (cf _))
 rw [e1] at c1;let d:AH:=O++[.lst (ps.map λp=>AV.int ((p.eV.length:Nat):Int))];have sm:fQ 8 [.ref O.length] d=.ok (.int bS) d:=by have hg:d[O.length]?=some (.lst (ps.map λp=>AV.int ((p.eV.length:Nat):Int))):=cI _ _;refine (g8 hg).trans ?_;rw [alL (λp=>p.eV.length)];dsimp only;rw [f1,q]
 have s:Ph b Z rp C w t gk gi mm c va wa U ps d (up 187 (.int bS) loc):=P.mv (aA.push _ _ _) (λx a=>by rw [cT (nA a)]);have N:aH GG (aj GG ai (n+16)) EB loc O=.next (up 187 (.int bS) loc) d:=by have G:=l0 P.hp;exact goS 65793 λF=>F P.q159 (yd G c1) sm
 have Q:aH GG (aj GG ai (n+16)) Bi (up 187 (.int bS) loc) d=.next (up 187 (.int bS) loc) d:=by
  have y:lk 212 (up 187 (.int bS) loc)=some (.str []):=lq rfl JU;have h2:lk 136 (up 187 (.int bS) loc)=some (jn (jI gk (ps.map Pr.bG)) (nz gk (ps.map Pr.bG))):=lq rfl sM;have I:lk 187 (up 187 (.int bS) loc)=some (.int bS):=lk_s;have i1:cW (jn (jI gk (ps.map Pr.bG)) (nz gk (ps.map Pr.bG))) (.int 1) d=some (.int bS):=by show some (AV.int _)=_;rw [f4,q]
  have q1:cG .NotEq (.str []) (.str []) d=some false:=rfl;have q2:cG .NotEq (.int (bS:Int)) (.int bS) d=some false:=by show some (!decide ((bS:Int)=bS))=_;simp
  unfold Bi;exact goS 1103823503617 λF=>F y q1 h2 i1 lk_s q2
 refine a8 s.F.row λx1 r1=>w7 (Ao (n:=n+14) r1 (wide:=bS) (by exact dJ 0xf0bc804188f4c0409910140007a13 q X f2)) λbr bits o O2 e2 k2 r2 gb bl b4 L=>?_;have P2:=s.rw k2 ⟨_,r2⟩;refine ct (ja (n:=n+15) r2) λD e3 k3 r3=>?_;have P3:=P2.rw k3 ⟨_,r3⟩;refine ct (ja (n:=n+15) r3) λg e4 M r4=>?_;have P4:=P3.rw M ⟨_,r4⟩;have B:d.length=O.length+1:=by simp [d]
 have da:Z<rp:=by have:=P.lt b (th 0);have:=P.F.rb;lia
 have H:g[br]?=some (.lst (a9 bits)):=M.get _ _ (m1 (kZ 0x1010cc0811404004498440c4400114 da B L z)) (k3.get _ _ (m1 (kZ 0x1010cc0811404004498440c4400114 da B L z)) gb);let low:=nx o%bS;have TS:low<bS:=gf _ (ao 45298520081 UA);let gT:=1+nx o.dropLast%(bS-low);have Ts:nx o.dropLast%(bS-low)<bS-low:=gf _ (aU 0x400a8c01042004400112 TS Internal.jE);let gB:aB:=up 210 (.int gT) (up 190 (.int low) (up 188 (.ref br) (up 187 (.int bS) loc)));let j:aB:=up 211 (.ref g.length) gB;let i:AH:=g++[.lst []];have u:Ph b Z rp C w t gk gi mm c va wa U ps i j:=P4.mv (aA.push _ _ _) (λx a=>by rw [cT (nA a),cT (nA a),cT (nA a),cT (nA a)])
 refine uY (apd (n:=n+16) (loc:=j) u.hp (λp hp=>(u.ok p hp).2.1) f6 P.l3 (cI _ _) (by simp [i]) lk_s) λpr E Y e6 k6 uO gp pM m=>?_;have P6:Ph b Z rp C w t gk gi mm c va wa U ps E Y:=u.mv k6 (λx a=>m x (nC a));have l5:∀x,x∉[211,210,190,188,187]->lk x j=lk x loc:=λx a=>by rw [cT (nB a),cT (nB a),cT (nB a),cT (nB a),cT (nB a)]
 have wx:=k2.len;have D0:=k3.len;have uf:=M.len;refine A4 bS low gT br pr bits E Y ⟨P6,⟨q.symm,by exact dJ 0x78bc804188f4c0409910140007a13 q X f2,⟨by show 1<=1+_;exact ao 77670448,by show low+(1+_)<=bS;rw [tC 1];exact Nat.add_lt_of_lt_sub' Ts⟩,k6.get _ _ bP (bI H),bl,b4,by rw [gp,dq],⟨by exact kZ 0x40c28c4201140604480001122100314 B L AK z,by exact amL 0x2060a350e045c301112a1183140200481801004004400017 uf D0 wx pM B AK z⟩,?_,?_,?_,?_,uO⟩,λx a=>?_,λe=>?_⟩
 . exact (m 187 ag).trans (lr4 rfl lk_s)
 . exact (m 188 ag).trans (lr3 rfl lk_s)
 . exact (m 190 ag).trans (lr2 rfl lk_s)
 . exact (m 210 ag).trans (lq rfl lk_s)
 . rw [m x (nC a),l5 x (nC a)]
 . have R:aH GG (aj GG ai (n+16)) Bj (up 187 (.int bS) loc) d=.next (up 188 (.ref br) (up 187 (.int bS) loc)) O2:=by
    have I:lk 187 (up 187 (.int bS) loc)=some (.int bS):=lk_s;unfold Bj;exact goS 65793 λF=>F s.q184 lk_s e2
   have S:aH GG (aj GG ai (n+16)) Bk (up 188 (.ref br) (up 187 (.int bS) loc)) O2=.next (up 190 (.int low) (up 188 (.ref br) (up 187 (.int bS) loc))) D:=by have y:lk 184 (up 188 (.ref br) (up 187 (.int bS) loc))=some (.ref Z):=lq rfl s.q184;have I:lk 187 (up 188 (.ref br) (up 187 (.int bS) loc))=some (.int bS):=lq rfl lk_s;have md:=oz (nx o) bS (ao 4402542841873 UA) D;unfold Bk;exact goS 16843009 λF=>F y e3 (lq rfl lk_s) md
   have T:aH GG (aj GG ai (n+16)) Bl (up 190 (.int low) (up 188 (.ref br) (up 187 (.int bS) loc))) D=.next gB g:=by
    have y:lk 184 (up 190 (.int low) (up 188 (.ref br) (up 187 (.int bS) loc)))=some (.ref Z):=lr2 rfl s.q184;have I:lk 187 (up 190 (.int low) (up 188 (.ref br) (up 187 (.int bS) loc)))=some (.int bS):=lr2 rfl lk_s;have h4:lk 190 (up 190 (.int low) (up 188 (.ref br) (up 187 (.int bS) loc)))=some (.int low):=lk_s;have md:=oz (nx o.dropLast) (bS-low) (ak 4677424906513 Ts) g;rw [show ((bS-low:Nat):Int)=(bS:Int)-(low:Int) from Int.ofNat_sub (Cz TS)] at md;have ec:(1:Int)+((nx o.dropLast%(bS-low):Nat):Int)=(gT:Int):=by show _=((1+_:Nat):Int);exact dz (ao 5145430153264) (ao 62208311228464)
    unfold Bl;exact goS 1108118405377 λF=>F y e4 (lr2 rfl lk_s) lk_s md (rI ec)
   have V:aH GG (aj GG ai (n+16)) EC gB g=.next j i:=by unfold EC;exact goS 0 λF=>F
   have W:aH GG (aj GG ai (n+16)) LD j i=.next Y E:=by
    show aH GG (aj GG ai (n+16)) (.lZ [203,177,191,202,208,199] (.v 159) Fm) j i=_;have G:dG (.ref rp) i=ps.length+1:=by rw [l0 u.hp,cf]
    exact goS 257 λF=>F u.q159 (jU G e6)
   rw [sq N,sq Q,sq R,sq S,sq T,sq V,sq W]
end
variable {gT:Nat}
section
variable {gk:Nat->Sg}
theorem afK {lo w:Int}:∀ps a,(∀p∈ps,qA gk nw p)->∀p∈kg lo w a ps,qA gk nw p:=by
 intro l;induction l with
 |nil=>intro _ _ p hp;cases hp
 |cons q ps e=>
  intro a h p hp;dsimp only [kg] at hp;generalize (if lo<a-q.w then a-q.w else lo)=b at hp;generalize (if a<lo+w then a else lo+w)=lst at hp;by_cases c:b<lst
  . rw [if_pos c] at hp;rcases cF.mp hp with rfl | hp
    . exact ⟨by dsimp only;exact hJ 303800422238481 c,(h q cN).kk⟩
    . exact e _ (λx d=>h x (cu _ d)) p hp
  . rw [if_neg c] at hp;exact e _ (λx d=>h x (cu _ d)) p hp
theorem atj (h:∀x∈cM,x∈mm\/N<=x) (d:q<N) (c:q∉ft b w t mm):q∉ft b w t cM:=by
 intro a;unfold ft at a c;rcases eG.mp a with a | a
 . exact c (gw _ a)
 . rcases h q (by simpa using a) with h | h
   . exact c (j8 _ (by simpa using h))
   . exact ak 138583998482 h d
theorem apa {low pr:Nat} (P:Ph b Z rp C w t gk gi mm c va wa U ps O loc) (B:Bt bS low gT br pr bits gk (va 4) C ps O loc) (eS:∀p∈ps,p.k≠1/\de (gk p.k) p.bg=[]) (K:lk 136 loc=some (jn (jI gk (ps.map Pr.bG)) (nz gk (ps.map Pr.bG)))):
 ∃(cM:Option Nat) (c':Nat) (eB j2:Nat->List Nat) (U':Nat->Nat->List Nat) (O':AH) (au:aB),WF b Z w t gk gi cM c' eB j2 U' O'/\eB 4=va 4/\(∀x,x∈[131,143,184,193]->lk x au=lk x loc)/\
  ∀f,aH GG (aj GG ai (n+16)) (.seq LF f) loc O=aH GG (aj GG ai (n+16)) f au O':=by
 have r:=λp hp=>Ys P.F (P.ok p hp).1 (eS p hp).2;refine Ci (Zg (gk:=gk) (am:=va 4) ps λp hp=>⟨(r p hp).2.2.2.2,(r p hp).1.w,(r p hp).2.2.2.1⟩) λ_ _ _ f4 _ _=>?_;have DT:=B.DT;have UB:=B.t30;have sQ:=P.l3;generalize H:ps.map (fq gk)=pts at*;have hpv:nz gk (ps.map Pr.bG)=pts.map Pt.av:=by rw [aps,<-H,fO,fO,fO];rfl
 simp only [f4,hpv] at K;have Bt:=B.ht;have E:=B.pl;rw [H] at Bt E;simp only [Bt] at K;have j:∀p∈pts,qA gk (t.br 3).length p/\p.ok w gk/\p.wh.unit:=by intro p hp;rw [<-H] at hp;refine aQ (gQ.mp hp) λq m Q=>?_;subst Q;exact ⟨(r q m).1,(r q m).2.1,(r q m).2.2.1⟩
 have L:pts.length<=3:=by rw [<-H,cf];exact sQ
 have hL:=(xr (gk:=gk) (am:=va 4) (ps:=pts) λx e=>(j x e).1.w).1;have Tf:(PL gk (va 4) pts).length=bS:=by exact bV (dJ 0x20020c4701420007a12 hL Bt) (dJ 0x420c4701620007b12 hL Bt)
 refine aQ (ahG (n:=n+14) (O:=O) (W:=(bS:Int)) (lo:=(low:Int)) (wd:=(gT:Int)) (ps:=pts) (λp hp=>(j p hp).2.2) (ao 0x7d07e4028cc80011 L)) λk k1 e1=>?_;generalize G:kg (low:Int) (gT:Int) (bS:Int) pts=i at*;have Tr:PL gk (va 4) i=((PL gk (va 4) pts).drop low).take gT:=by have:=afH (gk:=gk) (am:=va 4) (lo:=low) (w:=gT) pts λp hp=>⟨(j p hp).1.w,(j p hp).2.2⟩;rwa [Bt,G] at this
 have wx:∀p∈i,qA gk (t.br 3).length p:=by rw [<-G];exact afK pts _ λp hp=>(j p hp).1
 have ho2:∀p∈i,p.ok w gk:=by rw [<-G];exact afM pts _ λp hp=>(j p hp).2.1
 have mh:i.length<=3:=by have:=afL (lo:=(low:Int)) (w:=(gT:Int)) pts (bS:Int);rw [G] at this;exact ak 0x190083322004400012 this L
 have kY:fj i=gT:=by have h:=(xr (gk:=gk) (am:=va 4) (ps:=i) λx e=>(wx x e).w).1;rw [Tr,j7,nJ,Tf] at h;exact dz (dJ 0x2380c18800020007b12 h (qr _ _)) (dJ 0x47c18800620007a12 h (nN (cz 0x18108300611001202002012 DT.2 Internal.jE)))
 let v:AV:=.aw [.int 0,.int bS,jn bS (pts.map Pt.av)];let z:AV:=.aw [.int low,.int gT,jn gT (i.map Pt.av)];let g:AH:=k++[.lst [v,z]];have k2:aA [] O g:=k1.trans (aA.push _ _ _);have u:Ph b Z rp C w t gk gi mm c va wa U ps g loc:=P.mv k2 (λ_ _=>rfl);have m:g[k.length]?=some (.lst [v,z]):=cI _ _;have I:=k1.len;have b5:=u.lt;have AK:=P.Cr;have lC:=bZ P.hp;have o:=B.fr;have nw:∀q,C<=q->q∉ft b w t mm:=λq h hm=>by have:=b5 q hm;exact ak 137510256914 this h
 let T:aB:=up 163 (jn bS (pts.map Pt.av)) (up 209 (.int bS) (up 103 (.int 0) loc));have a1:jN [103,209,163] v loc=some T:=rfl;have s:∀x,x∉[103,209,163]->lk x T=lk x loc:=λx e=>by rw [cT (nB e),cT (nB e),cT (nB e)]
 refine Ck (YH (n:=n+6) (pr:=pr) (br:=br) (C:=C) (bs:=bits) (pts:=pts) (loc:=T) u.F u.R (λp hp=>⟨(j p hp).1,(j p hp).2.1⟩) L Bt (by rw [B.bl];exact ao 0x785e4020c78bc80011 UB) B.b4 (GS B.bl.symm) (by have:=P.c;exact ao 0xc85e4020c78bc80011 this)
  (by rw [GA,N2 (by exact ak 35193167544849 Tf)]) (k2.get _ _ bP E) (k2.get _ _ bP B.hb) u.hC (nw _ (by exact ak 35193167544593 o.2)) (nw _ (by exact ak 35193167544593 o.1)) (nw _ (bT _))
  (by rw [ic (by rfl),ic (by rfl),lk_s];rfl) (lq rfl lk_s) (lk_s) ((s 211 ag).trans B.uO) ((s 193 ag).trans P.q193) ((s 188 ag).trans B.Fu) ((s 126 ag).trans P.q126) ((s 132 ag).trans P.q132)) λmm3 c3 Z4 Z9 U3 M V br3 D=>Nh D λe3 F3 R3 X rg k3 Y q3 g3 nb3 R=>?_;clear D
 have h3l:=k3.len;have l2:g.length=k.length+1:=by simp [g]
 have yW:∀q,C<=q->q<g.length->q∉ft b w t mm3:=λq h h'=>atj Y h' (nw q h);have J:=bZ E;let gB:aB:=up 163 (jn gT (i.map Pt.av)) (up 209 (.int gT) (up 103 (.int low) V));have a4:jN [103,209,163] z V=some gB:=rfl;have u4:∀x,x∉[103,209,163]->lk x gB=lk x V:=λx e=>by rw [cT (nB e),cT (nB e),cT (nB e)]
 have A:∀x,x∉[103,209,163,153,177,191,91,188]->lk x gB=lk x loc:=λx e=>by rw [u4 x (nD e),R x (nD e),s x (nD e)]
 have Um:M[k.length]?=some (.lst [v,z]):=k3.get _ _ (nw _ (by exact cz 0x60820cc0801004044400113 J o.2 I)) m;have wm:eW M C 84 126 (.ref (b+13)):=by refine aQ (u.hC) λl a d=>?_;exact ⟨l,k3.get _ _ (nw _ (bT _)) a,d⟩
 have S:M[pr]?=some (.lst ((PL gk (va 4) pts).map jY)):=k3.get _ _ (nw _ (by exact ak 35193167544593 o.2)) (k2.get _ _ bP E);have b4:∀x∈bits.map (λx=>3-x),x<4:=λx e=>by refine aQ (gQ.mp e) λy _ sA=>?_;subst sA;exact ao 0x84028cc80011 (Od _ _)
 refine Ck (YH (n:=n+6) F3 R3 (λp hp=>⟨wx p hp,ho2 p hp⟩) mh kY (by rw [cf,B.bl];exact ao 0x785e4020c78bc80011 UB) b4 (by rw [cf,B.bl];exact aU 72348079889588241 DT.2) (by have:=P.c;exact ak 0xc85e4420cc804200478bc80012 this X)
  (by rw [rg];exact Tr) S g3 wm (yW _ (ak 35193167544593 o.2) (cz 0x1000a3302004498440c4400113 J l2 I)) nb3 (yW _ (bT _) (kZ 0x41028cc0801008044498440c4400114 J l2 o.2 I))
  (lr2 rfl lk_s) (lq rfl lk_s) lk_s ((A 211 ag).trans B.uO) ((A 193 ag).trans P.q193) ((u4 188 ag).trans q3) ((A 126 ag).trans P.q126) ((A 132 ag).trans P.q132)) λmm5 c5 va5 wa5 U5 N kA br5 D=>Nh D λe5 F5 R5 hc5 hv5 k5 hm5 q5 g5 nb5 TP=>?_;clear D
 have hq5:N[k.length]?=some (.lst [v,z]):=k5.get _ _ (yW _ (cz 0x60820cc0801004044400113 J o.2 I) (ak 292681117860625 l2)) Um;refine UM mm5 c5 va5 wa5 U5 N kA ⟨F5,hv5.trans rg,λx e=>?_,λf=>?_⟩
 . rw [TP x (nC e),A x (nC e)]
 . have s19:aH GG (aj GG ai (n+16)) LF loc O=.next kA N:=by
    show aH GG (aj GG ai (n+16)) (.lZ [103,209,163] (.lst (bf (.aw (bM (.ci 0) (.v 187) (.v 136))) (.aw (bM (.v 190) (.v 210) (.call 65 (bM (.v 136) (.v 190) (.v 210))))))) BM) loc O=_;have ei:bh GG (aj GG ai (n+16)) (.lst (bf (.aw (bM (.ci 0) (.v 187) (.v 136))) (.aw (bM (.v 190) (.v 210) (.call 65 (bM (.v 136) (.v 190) (.v 210))))))) loc O=.ok (.ref k.length) g:=by exact kr 72340172838076673 λF=>F B.apv K B.Yx B.Yz K B.Yx B.Yz e1
    rw [aqA,ei,BW];unfold VV;rw [l0 m];show d8 (.ref k.length) (jN [103,209,163]) (aH GG (aj GG ai (n+16)) BM) 3 0 loc g=_;rw [sH (by rw [oK m];rfl) a1,e3,x9,sH (by rw [oK Um];rfl) a4,e5,x9,sG (by rw [oK hq5];rfl)]
   rw [sq s19]
end
section
variable {gk:Nat->Sg}
noncomputable def qa:AV:=.aw [.str [112,97,114,97,109],.aw [.int 4,.int 5,.int 0],.bool false]
noncomputable def NA:List Nat:=[110,111,116,95,97,115,115,105,103,110,97,98,108,101]
noncomputable def ATV:List Nat:=[97,115,115,105,103,110,95,116,111,95,118,97,114,105,97,98,108,101]
theorem amV {a b:Type} [DecidableEq a] {x:a} {v:b} {l:List (a×b)} (h:lk x l=none):lk x (l++[(x,v)])=some v:=by
 induction l with
 |nil=>exact (eh x x v []).trans (if_pos rfl)
 |cons p l c=>
  obtain ⟨y,u⟩:=p;replace h:=(eh x y u l).symm.trans h;by_cases q:y=x
  . rw [if_pos q] at h;contradiction
  . rw [if_neg q] at h;exact (eh x y u _).trans ((if_neg q).trans (c h))
theorem agJ (b:O[r]?=some (.lst [.str NA,.str NA])) (c:O[r2]?=some (.lst [.str NA,.str NA])):cG .Eq (.ref r) (.ref r2) O=some true:=by
 show ph O (.ref r) (.ref r2)=_;have hr:∀r:Nat,O[r]?=some (.lst [.str NA,.str NA])->fs 8 O (.ref r)=some (.list [.str ⟨NA.toArray⟩,.str ⟨NA.toArray⟩]):=λr h=>BK h rfl;have a:fP (.list [.str ⟨NA.toArray⟩,.str ⟨NA.toArray⟩])=true:=by
  have l:rV (.str ⟨NA.toArray⟩)=true:=by simp [NA,rV,nO.strOk,Str.cps]
  unfold fP;rw [rV,mC,l,mC,l,mC];simp [tH,qt]
 refine aa (Am (hr r b) (hr r2 c) a a) ?_;simp [kM,vi]
theorem adx (a:g.net=true):(gN 1 none bg).i7 g false=if de g bg=[] then (if ((gN 1 none bg).wh g).pT then some [110,111,116,95,99,111,110,115,116,97,110,116] else none) else some (de g bg):=by
 induction bg using aW with
 |none=>unfold b0.i7;refine aa a ?_;rfl
 |some s=>
  unfold b0.i7;refine aa a ?_;show (match s.fE g with | some f=>some f | none=>if ((s.wh g).pT&&!false)=true then some [110,111,116,95,99,111,110,115,116,97,110,116] else none)=_;refine aa (rB ..) ?_;have b:de g (some s)=match s.fE g with | some f=>f | none=>[]:=by cases h:s.fE g<;>simp [de,h]
  refine aa b ?_;generalize h:s.fE g=c;induction c using aW with
  |none=>simp
  |some f=>simp [RH h]
theorem arY (F:WF b Z w t gk gi mm c va wa U O):Std {w with en:=w.en++[([112],qa)]} (O.set (b+12) (.dS (w.en++[([112],qa)]))):=by
 refine j5 F.rf λj r2 a e=>?_;have k:=aA.set O (b+12) (.dS (w.en++[([112],qa)]));have nr:∀q,q≠b+12->q∉[b+12]:=λq h=>m1 h;exact {
  des:=F.H.des.keep k (nr _ (ak 0x61108018c400211 j))
  sl:=k.get _ _ (nr _ (by exact ak 0x184420063122100211 r2)) F.H.sl
  sg:=λi r g d f=>k.get _ _ (nr _ (by have:=F.hr.1 r (gW d);exact ak 0x18402104310225e402011 this)) (F.H.sg i r g d f)
  sd:=F.H.sd.keep k (nr _ (ak 0x184420063b22100211 a))
  se:=F.H.se.keep k (nr _ (ak 0x184420063b22100211 a))
  lo:=F.H.lo.keep k (nr _ (ak 0x184420063b22100211 a))
  en:=by refine aa e <| dX (by refine bA e.symm ?_;exact F.H.en)
  ln:=F.H.ln}
theorem apb (F:WF b Z w t gk gi mm c va wa U O) (oq:∀p∈ps,mK t gk (va 4) p) (bO:ps≠[]) (h3:ps.length<=3) (eS:∀p∈ps,p.k≠1) (AG:lk 131 loc=some (Bc ((ps.map Pr.bG).map b0.bc))) (DN:lk 143 loc=some (.ref (b+11))) (yh:lk 184 loc=some (.ref Z)) (pz:lk 193 loc=some (.ref (b+16))):
 ∃O',aH GG (aj GG ai (n+16)) (.seq We (.seq Wf (.seq ED (.seq Wg (.seq Wi (.seq Wj .nil)))))) loc O=.ret (.bool true) O':=by
 have hE:=F.rf.2.2.1;refine aQ (Lj (es:=ps.map Pr.bG) (by simpa using bO) (by simpa using h3)) λm hm FL=>aQ (Jt (n:=n) F.H F.Y (p:=false) (Ls F oq) (by simpa using bO) (by (refine aa (cf ..) ?_;exact ao 0x7d07e4028cc80011 h3)) FL hm F.H.lt) λay k1 e1=>?_;have f1:jz gk false (ps.map Pr.bG)=some ATV:=by
  induction ps using cK with
  |nil=>exact absurd rfl bO
  |cons p ps=>
   have P:=oq p cN;have hn:(gk p.k).net=false:=by refine ((F.net p.k P.k)).trans ?_;have:=Mb P.k;unfold lj;refine (this).trans <| decide_eq_false (eS p cN)
   refine bA gc ?_;dsimp only [jz];unfold b0.i7;refine aa P.key (aa hn ?_);rfl
 rw [f1,hE] at e1;have u:=F.keep k1 (λ_ _=>by exact bP) (by obtain ⟨xs,h⟩:=F.row;exact ⟨xs,k1.get _ _ bP h⟩);refine a8 (u.row) λxs r1=>aaq (Rz (n:=n+12) (k:=1) u.am4 u.G u.R (λk hk=>by have:=(u.wz k hk).2;exact ao 0x785e4020e880011 this) r1 u.off1 ag) λwd bg cp eV mX rs K e2 S=>?_;rw [u.wd] at e2;have C:=u.keep S.kk (λr hr=>by simpa using u.offρ r hr) S.row;refine bB (S.base.1 ag) λfL _=>?_;subst fL;let A:Pr:=⟨1,none,bg,cp,eV,mX,rs⟩;have P1:mK t gk (va 4) A:=⟨(by show (1:Nat)<4;decide),S.base,S.ok,S.at'⟩;let x:aB:=up 199 (.bool mX) (up 208 (.str (de (gk 1) bg)) (up 202 (.ref rs) (up 191 (.int cp) (up 177 (.str (bH 1)) (up 203 (gN 1 none bg).bc loc)))));have e2:aj GG ai (n+16) 76 [.ref Z,.ref (b+16),.str [98]] ay=_:=e2;have V:lk 208 x=some (.str (de (gk 1) bg)):=lq rfl lk_s;have J:lk 199 x=some (.bool mX):=lk_s;have apx:lk 203 x=some (gN 1 none bg).bc:=by exact lr5 rfl lk_s
 have q143:lk 143 x=some (.ref (b+11)):=by exact lr6 rfl DN
 let e:List Nat:=if de (gk 1) bg=[] then (if mX then [] else [110,111,116,95,99,111,110,115,116,97,110,116]) else de (gk 1) bg
 have s22:aH GG (aj GG ai (n+16)) ED x K=.next (up 207 (.str e) x) K:=by
  unfold ED;by_cases d:de (gk 1) bg=[]
  . have q:cG .NotEq (.str (de (gk 1) bg)) (.str []) K=some false:=by
     refine aa d ?_;rfl
    generalize G:mX=z9;induction z9 using dy with
    |true=>
     have a:e=[]:=by show (if _ then _ else _)=_;refine (if_pos d).trans (aa G ?_);rfl
     have J:lk 199 x=some (.bool true):=by rw [J,G]
     (refine aa a ?_;exact goS 196866 λF=>F V q J)
    |false=>
     have a:e=[110,111,116,95,99,111,110,115,116,97,110,116]:=by refine ((if_pos d)).trans (aa G ?_);rfl
     have J:lk 199 x=some (.bool false):=by rw [J,G]
     (refine aa a ?_;exact goS 196866 λF=>F V q J)
  . have q:cG .NotEq (.str (de (gk 1) bg)) (.str []) K=some true:=by
     show some (!pj (de (gk 1) bg) [])=_;refine aa (xZ ..) (aa (decide_eq_false d ..) ?_);rfl
    have a:e=de (gk 1) bg:=by show (if _ then _ else _)=_;exact (if_neg d)
    (refine aa a ?_;exact goS 131330 λF=>F V q V)
 have FL2:Fl [(gN 1 none bg).bc] (([A].map Pr.bG).map b0.bc) 1:=by have:=(Lj (es:=[A.bG]) (λh=>nomatch h) (by simp));refine j6 (A.bG.Xz) λtt l he ht=>?_;have h0:Fl ([]++[.aw (.str tt::l)]) (.aw (.str tt::l)::[]) (0+1):=.leaf ht .nil;rw [<-he] at h0;exact h0
 refine aQ (Jt (n:=n) C.H C.Y (p:=false) (Ls (ps:=[A]) C (λp hp=>by
  have:p=A:=by simpa using hp
  subst this;exact P1)) (λh=>nomatch h) (by simp) FL2 ag C.H.lt) λW k3 z=>?_
 rw [hE] at z;have T:=C.keep k3 (λ_ _=>bP) (by obtain ⟨xs,h⟩:=C.row;exact ⟨xs,k3.get _ _ bP h⟩);have hb:=F.net 1 ag;have ah1:jz gk false ([A].map Pr.bG)=if e=[] then none else some e:=by
  show (match (gN 1 none bg).i7 (gk A.bG.key) false with | some f=>some f | none=>none)=_;refine aa P1.key ?_;show (match (gN 1 none bg).i7 (gk 1) false with | some f=>some f | none=>none)=_;refine aa (adx (by rw [hb];rfl)) ?_;by_cases d:de (gk 1) bg=[]
  . have G:=S.fx ag d;have a:e=(if mX then [] else [110,111,116,95,99,111,110,115,116,97,110,116]):=by show (if _ then _ else _)=_;rw [if_pos d]
    rw [if_pos d,a,G];cases ((gN 1 none bg).wh (gk 1)).pT<;>rfl
  . have a:e=de (gk 1) bg:=by show (if _ then _ else _)=_;rw [if_neg d]
    rw [if_neg d,a,if_neg d]
 have e3':∃v,aj GG ai (n+16) 77 [.ref (b+11),(gN 1 none bg).bc,.bool false] K=.ok v W/\cW v (.int 1) W=some (.str e):=by
  rw [ah1] at z;by_cases a:e=[]
  . rw [if_pos a] at z;exact ⟨_,z,(by rw [a];rfl)⟩
  . rw [if_neg a] at z;exact ⟨_,z,rfl⟩
 refine aQ e3' λv3 z i3=>?_;let M:aB:=up 207 (.str e) x;have ao1:lk 203 M=some (gN 1 none bg).bc:=lq rfl apx;have Mr:lk 143 M=some (.ref (b+11)):=lq rfl q143;have au9:lk 207 M=some (.str e):=lk_s;refine a8 (T.sc) λnum hS=>?_;have TA:=T.H.en;rw [F.rf.2.2.2] at TA;have e4:=Jl (n:=n+15) (v:=qa) hS (.inl TA) (by have:=F.np.2;unfold SZ;exact ao 0x30d40be4028e880011 this) F.np.1;have ep:up [112] qa w.en=w.en++[([112],qa)]:=BZ F.np.1;rw [ep] at e4;have m4:gE GG (.ref (b+11)) 195 W=some (.own 1015):=(rz hS).trans rfl;let B:AH:=W.set (b+12) (.dS (w.en++[([112],qa)]));have pv:qa=.aw [.str [112,97,114,97,109],.aw [.int 4,.int 5,.int 0],.bool false]:=rfl;rw [pv] at e4;have H4:Std {w with en:=w.en++[([112],qa)]} B:=arY T;have e5:=ya (n:=n+15) (O:=B) (f:=3);let L:List AV:=[ly (dY 3),dR [112]];let g:AH:=B++[.lst L];have hL:g[B.length]?=some (.lst L):=cI _ _;let f:AV->AH->aJ AV:=λv O=>bh GG (aj GG ai (n+16)) (.sub (.call 77 (bM (.v 143) (.v 157) (.cb true))) (.ci 1)) ((157,v)::M) O;have l5:g.length=B.length+1:=by simp [g]
 have FH:∀(E:AV) (R:AH),aA [] B R->(Fl [E] [E] 1)->(∀O,Std {w with en:=w.en++[([112],qa)]} O->aj GG ai (n+14) 62 [.ref w.S,E,.bool true] O=mY NA O)->∃j,aA [] R j/\f E R=.ok (.str NA) j:=by
  intro E R k FE he;have H:=H4.keep k (λ_ _=>by exact bP);refine aQ (ahL H FE he) λj Y N=>⟨j,Y,?_⟩;have N:aj GG ai (n+16) 77 [.ref (b+11),E,.bool true] R=.ok (.aw [.none,.str NA]) j:=by rw [<-hE];exact N
  have h1:∀v,lk 143 ((157,v)::M)=some (.ref (b+11)):=λv=>by rw [EJ,if_neg ag];exact Mr
  exact kr 513 λF=>F (h1 E) N
 refine fJ (Iu (r:=g.length) (f:=f) (l:=L)
  (λi az O'=>az=gX i (.str NA)/\O'[g.length]?=some (.lst az)/\aA [g.length] (g++[.lst []]) O')
  (λi az O' h=>oK (h.2.2.get _ _ (by exact m1 (by exact ak 288283071349521 l5)) (bI hL))) (λi v az O' D hP=>by
   obtain ⟨I,hg,kk⟩:=hP;have hi:=(ez.mp D).1;have k4:aA [] B O':=⟨λr o _ h=>kk.get r o (by have:=bZ h;simp;exact aU 0x40018c488440c4400112 this l5) (bI (bI h)),by have:=kk.len;simp [g] at this;exact ak 0x80083104402011 this⟩;have hs:∃j,aA [] O' j/\f v O'=.ok (.str NA) j:=by
    match i,hi,D with
    |0,_,D=>
     have:ly (dY 3)=v:=by simpa [L] using D
     subst this;exact FH _ _ k4 (.leaf (s:=[]) ag .nil) λO _=>ahO _
    |1,_,D=>
     have:dR [112]=v:=by simpa [L] using D
     subst this;exact FH _ _ k4 (.leaf ag .nil) λO H=>ahP H (nm:=[112]) (l:=[.aw [.int 4,.int 5,.int 0],.bool false]) (by
      show lk [112] (w.en++[([112],qa)])=_;exact amV T.np.1)
   obtain ⟨j,Y,N⟩:=hs;have g':=Y.get _ _ bP hg;refine dE (.str NA) j ⟨N,g',(by rw [I,Cu];have:i<2:=hi;unfold SZ;exact ao 0x30d40be4028c880111 this),(by rw [I,List.replicate_succ']),dX g',(kk.trans Y.any).trans (aA.set _ _ _)⟩) 2 0 3 [] (g++[.lst []]) rfl ag ⟨rfl,cI _ _,aA.refl _ _⟩) λaz y e6 I g6 k6=>?_
 subst I;have I:gX L.length (AV.str NA)=[.str NA,.str NA]:=rfl;rw [I] at g6;let X:AH:=(y++[.lst [.str NA]])++[.lst [.str NA,.str NA]];have g7:X[g.length]?=some (.lst [.str NA,.str NA]):=bI (bI g6);have l7:(y++[aV.lst [.str NA]]).length=y.length+1:=eC;have g7':X[y.length+1]?=some (.lst [.str NA,.str NA]):=by have:=cI (y++[aV.lst [.str NA]]) (.lst [.str NA,.str NA]);rwa [l7] at this
 have Q:dg .Mult (.ref y.length) (.int 2) (y++[.lst [.str NA]])=.ok (.ref (y.length+1)) X:=by rw [<-l7];exact Xo (cI _ _) ag
 have eq7:=agJ g7 g7';refine ⟨X,?_⟩;have na:NA=[110,111,116,95,97,115,115,105,103,110,97,98,108,101]:=rfl;rw [na] at Q;have fz:=l0 hL;exact goS 0x102020301010302010101010303010106010102 λF=>F DN AG e1 yh pz e2 s22 Mr ao1 z i3 lk_s (PU rfl) Mr m4 e4 e5 (yd fz e6) Q eq7
end
theorem amQ (f:List Int) (n) (O):∃O',aj GG ai (n+17) 80 [.gA (f.map .int)] O=.ok (.bool true) O':=by
 show ∃O',gj (aH GG (aj GG ai (n+16)) Wc [(183,.gA (f.map .int))] O)=_;refine ats (ao7 (n:=n) (O:=O) f) λb Z rp C w t gk gi mm c va wa U ps A E v=>bB v λP e1=>?_;unfold Wc;refine aa (e1 ..) ?_;rcases ao8 P with ⟨g,D,o,j,l,h,e,e2⟩ | ⟨g,e2⟩
 . refine aa (e2 ..) <| Nr (ao9 (n:=n) o e l h) λbS low gT br pr bits x I d B i q=>aa (q ..) <| aar (apa (n:=n) d B e ((i 136 ag).trans h)) λG F H J z y gB k u a r=>aa (r ..) <| a8 (apb (n:=n) k (λp hp=>by refine aa u ?_;exact (P.ok p hp).1) P.ne P.l3 (λp hp=>(e p hp).1) ((a 131 ag).trans ((i 131 ag).trans j)) ((a 143 ag).trans d.q143) ((a 184 ag).trans d.q184) ((a 193 ag).trans d.q193)) λm s=>?_
   refine aa s <| ⟨m,rfl⟩
 . refine aa (e2 ..) <| ⟨g,rfl⟩
end Internal
namespace H.Internal
open PySem PySem.W PySem.Calls PyProof.Rows
section
variable {h h':dv} {a:aC}
theorem Ym (m:PM) (a:Nat):m.lookup a=eU m a:=by
 induction m with
 |nil=>rfl
 |cons p r c=>
  obtain ⟨b,o⟩:=p;rw [wJ,qn,c];by_cases h:b=a
  . subst h;simp
  . have:(a==b)=false:=by simp;exact λe=>h e.symm
    rw [this,if_neg h]
theorem ang:∀(m:PM) (a:Nat) (o:Obj),m.lookup a=some o->(a,o)∈m:=by intro m a o h;rw [Ym] at h;exact Fh h
theorem acO {P:aE} {os:gY} {L:Life} {n:Nat} {d:u7} {t:Nat} {s:ax} (A:At ⟨yL P,n,d,t⟩ (zV P) os L s):∀a o,(KL P).lookup a=some o->s.heap.get? a=some o:=by
 intro a o h;unfold KL at h;rw [abp] at h;generalize e:(yL P).lookup a=b at h;induction b using aW with
 |some x=>
  have:x=o:=by simpa using h
  subst this;rw [Ym] at e;exact A.rep.get _ _ e
 |none=>
  have h:(zV P).lookup a=some o:=by simpa using h
  exact A.az _ (ang _ _ _ h)
theorem yz (e:h.get? a=h'.get? a):h.isNs a=h'.isNs a:=by unfold Heap.isNs;rw [e]
theorem Mh (e:h.get? a=h'.get? a):h.nsKeys a=h'.nsKeys a:=by unfold Heap.nsKeys;rw [e]
theorem E8 (e:h.get? a=h'.get? a):h.nsMap a=h'.nsMap a:=by funext x;unfold Heap.nsMap;rw [e]
theorem aoj (e:h.get? a=h'.get? a):h.nsPairs a=h'.nsPairs a:=by unfold Heap.nsPairs;rw [e]
def hS (P:aE):Heap:={boot_heap P with objs:=([0,1,2,3,4].map λi=>(eU (yL P) i).getD (CI P)).toArray}
theorem ajN (P:aE):[0,2,3,4].map (hS P).get?=[0,2,3,4].map λi=>(KL P).lookup i:=by kernel_rfl
theorem ajO (P:aE):([0,2,3,4].all λi=>((KL P).lookup i).isSome)=true:=by kernel_rfl
abbrev ER:List Str:=importedModules pr.main.body
theorem atW (P:aE):(hS P).accountedOkI ER=true:=by kernel_rfl
theorem aue (P:aE):OJ ER (boot_heap P) (hS P)=true:=by kernel_rfl
theorem aub (P:aE):OG pr (hS P)=true:=by kernel_rfl
theorem at8 (P:aE):laidKept (boot_heap P) (hS P)=true:=by kernel_rfl
theorem atZ (P:aE):(hS P).bltView=bltViewBooted:=by kernel_rfl
theorem auc (P:aE):((hS P).isNs eN&&(hS P).isNs kN)=true:=by kernel_rfl
theorem at5 (P:aE):(hS P).nsMap eN "__builtins__"=some (.ref 4):=by kernel_rfl
theorem atY (P:aE):∃o,(hS P).get? 4=some o/\o.cls=.type "module"/\o.dict=some builtinsNs:=⟨boot_o_4 P,by kernel_rfl,by kernel_rfl,by kernel_rfl⟩
theorem atX (P:aE):(boot_heap P).isNs eN=true/\(boot_heap P).nsMap eN "__annotations__"=some (.ref 6):=⟨by kernel_rfl,by kernel_rfl⟩
theorem at9 (P:aE):(hS P).nsMap eN "law"=some (.ref 1430):=by kernel_rfl
theorem aua (P:aE):(KL P).lookup 1430=some Yi:=by kernel_rfl
theorem at6:pr.theDef "law"=some (fA (st 177),fB (st 177),fS (st 177)):=by kernel_rfl
theorem z_open:opening pr=plainProg pr.main.scope.names:=by kernel_rfl
theorem at7:(fA (st 177)).defaults=[]/\kwWritten? (fA (st 177)).kwonlyargs (fA (st 177)).kw_defaults=some []:=⟨by kernel_rfl,by kernel_rfl⟩
structure Pu (w:bU) (gv s:ax):Prop where
 ran:TopRan pr w gv s
 asleep:s.asleep
 gens:s.gens=#[]
 ns:s.heap.isNs eN=true
 K:Frag.In (KL w.params) s.heap
 LH:isTheDefsW pr s.heap "law"
 g:OC s.heap "law"=some (.ref 1430)
 size:s.heap.objs.size=1431
 one:s.heap.get? 1=some (CI w.params)
theorem aud (P:aE):(boot_heap P).get? 1=some (CI P):=by kernel_rfl
theorem RW (w:bU):(∃s,AfterRun (opening pr) w s)/\∀s,AfterRun (opening pr) w s->∃gv,fenceModules? pr s=some gv/\gv.gens=#[]/\∃c,Pu w gv c:=by
 have B:=boot_open (p:=pr) (N:=600) z_open (by decide) (λs=>rfl) w;refine Internal.aQ (gJ.mp B) λgv F j=>?_;rw [<-table_eq_tree] at F;refine Internal.aQ (GX.mp F) λs P G=>?_;have A:=AfterImport.of_importEnds P;refine ⟨⟨s,A⟩,λs' J=>?_⟩;obtain rfl:s'=s:=AfterImport.unique J A;have z:gv.asleep:=acb (fence_lifeW G) A.life;have g:gv.heap=boot_heap w.params:=congrArg (λx=>x.1) j;have H:gv.gens=oP []:=congrArg (λx=>x.2.1) j;have Q:gv.drawn=boot_drawn:=congrArg (λx=>x.2.2.1) j;have ht:gv.toks=boot_toks:=congrArg (λx=>x.2.2.2) j;refine Internal.j6 (ap5 w gv.os gv g H Q ht rfl) λc M D d=>?_;rw [<-table_eq_tree] at D;refine Internal.j5 (topRun_spec _ _ _ _ z D) λa l os fr=>?_;have KI:=acO d;have y:c.gens=#[]:=d.rep.gens;have h:∀i∈[0,2,3,4],c.heap.get? i=(hS w.params).get? i:=by intro i hi;have e:=ajN w.params;have R:=jt.mp (ajO w.params) i hi;refine Internal.a8 (xe.mp R) λo I=>?_;have e2:(hS w.params).get? i=(KL w.params).lookup i:=abr.mp e i hi;rw [e2,I];exact KI _ _ I
 have e0:c.heap.get? kN=(hS w.params).get? builtinsNs:=h 0 (by decide);have e2:c.heap.get? CJ=(hS w.params).get? cStatics:=h 2 (by decide);have f:c.heap.get? eN=(hS w.params).get? mainGlobals:=h 3 (by decide);have O:c.heap.get? 4=(hS w.params).get? 4:=h 4 (by decide);refine Internal.bB (dP.mp (auc w.params)) λU T=>?_;have k:c.heap.isNs eN=true:=(yz f).trans U;have E:c.heap.isNs kN=true:=(yz e0).trans T;have gl:∀x,OC c.heap x=(hS w.params).nsMap eN x:=λx=>(Oo k x).trans (congrFun (E8 f) x);have az:c.heap.accountedOkI ER=true:=by have:=atW w.params;unfold Heap.accountedOkI at this⊢;rw [yz e2,Mh e2,E8 e2];exact this
 have sta:OJ ER gv.heap c.heap=true:=by have:=aue w.params;unfold OJ at this⊢;rw [g,yz e2,Mh e2,E8 e2];exact this
 have v:OG pr c.heap=true:=by have:=aub w.params;unfold OG at this⊢;rw [yz f,Mh f];exact this
 have u:laidKept gv.heap c.heap=true:=by have:=at8 w.params;unfold laidKept at this⊢;rw [g,yz f,E8 f];exact this
 have r:c.heap.bltView=bltViewBooted:=by have:=atZ w.params;unfold Heap.bltView at this⊢;rw [aoj e0];exact this
 refine Internal.bB (atX w.params) λm n=>?_;have C:OC c.heap "law"=some (.ref 1430):=(gl _).trans (at9 w.params);refine ⟨gv,G,H,c,⟨a,l,Shared.rest_eq os,λb o hb t=>fr b o ?_ (λq=>t (.inl q)) (λq=>t (.inr (.inl q))) (λq=>t (.inr (.inr ?_))) hb,Heap.accountedI_of_ok az,statics_of_ok sta,Pin.keysAreStrs_of k,
  λx S=>(Pin.builtinOf_eq E x).trans (Heap.of_bltView E r x S),?_,gens_of_done ?_,names_of_bound v,laid_of_kept u⟩,acb l z,y,k,KI,?_,C,?_,?_⟩
 . have:=jK hb;rw [g,PW] at this;exact this
 . rw [g,Oo m,n];exact q
 . refine Internal.ct (atY w.params) λo V o2 o3=>?_;exact ⟨4,o,(gl _).trans (at5 w.params),O.trans V,o2,o3⟩
 . unfold gensDone;rw [y];rfl
 . refine Internal.bB (at7) λK L=>?_;exact ⟨1430,Yi,_,_,_,_,C,KI _ _ (aua w.params),rfl,at6,rfl,rfl,rfl,rfl,rfl,rfl,rfl,rfl,.inl ⟨K,rfl⟩,[],L,.inl ⟨rfl,rfl⟩⟩
 . exact d.rep.size
 . exact fr 1 _ (by decide) (by decide) (by decide) (by decide) (by rw [g];exact aud _)
end
end H.Internal
namespace Internal
open H.Internal PySem PySem.W PySem.Calls PyProof.Rows
section
variable {x:Option (Option ah)}
noncomputable def ah8:List (Nat×Nat):=[(1000,36),(16,73),(17,81),(18,95),(19,102),(20,109),(21,116),(22,123),(23,130),(24,137),(25,144),(14,158),(1001,186),(1002,193),(1003,200),(1004,207),(1005,229),(26,264),(27,537),(28,558),(29,565),(30,605),(31,612),(32,619),(33,626),(34,633),(35,640),(36,727),(37,734),(38,741),(39,748),(40,755),(41,762),(42,769),(43,797),(44,811),(45,818),(46,934),(47,941),(48,948),(49,955),(50,962),(51,969),(52,1032),(53,1039),(54,1053),(55,1060),(56,1067),(57,1081),(58,1088),(59,1095),(60,1102),(61,1109),(62,1116),(63,1123),(64,1130),(65,1137),(66,1144),(1006,1158),(1007,1165),(1008,1172),(1009,1179),(1010,1193),(1011,1214),(1012,1221),(1013,1228),(1014,1277),(1015,1291),(1016,1305),(67,1347),(68,1354),(69,1361),(70,1368),(71,1375),(72,1382),(73,1387),(74,1394),(75,1401),(76,1406),(77,1413),(78,1420),(79,1425),(80,1430)]
noncomputable def afz:List (Nat×Nat):=[(83,210),(84,253),(86,1196),(87,1259),(88,1336),(0,52)]
def kl (f:Nat):Addr:=(lk f ah8).getD 0
def o8 (c:Nat):Addr:=(lk c afz).getD 0
def KX (P:aE):Frag:=(1,CI P)::KL P
def II (P:aE):KI:=⟨KX P,o8,kl⟩
noncomputable def A9 (x:Option (Option ah)) (a:Nat):Bool:=match x with
 |some (some (.ref b))=>cA a b
 |_=>false
theorem Em {a:Nat} (h:A9 x a=true):x=some (some (.ref a)):=by
 induction x using aW with
 |none=>exact gF h
 |some y=>
  induction y using aW with
  |none=>exact gF h
  |some v=>
   induction v using xh with
   |ref b=>exact aa (N7 h) rfl
   |_=>exact gF h
noncomputable def El (x:Option (Option ah)):Bool:=match x with
 |some none=>true
 |_=>false
theorem La (h:El x=true):x=some none:=by
 induction x using aW with
 |none=>exact gF h
 |some y=>
  induction y using aW with
  |none=>rfl
  |some v=>exact gF h
theorem tQ {a:Type} {l:List a} {p:a->Bool} (h:l.all p=true):∀x∈l,p x=true:=jt.mp h
theorem Pz {n:Nat} {p:Nat->Bool} (h:(dQ n).all p=true):∀i,i<n->p i=true:=λi hi=>jt.mp h i (GI.mpr hi)
theorem ams (P:aE):zH (KX P) eN=true:=by kernel_rfl
theorem amd (P:aE):zH (KX P) kN=true:=by kernel_rfl
theorem amy (P:aE):((KX P).lookup CP).isSome=true:=by kernel_rfl
theorem amx (P:aE):zH (KX P) CJ=true:=by kernel_rfl
theorem amw (P:aE):El (gR (KX P) CJ "sys.recursionlimit")=true:=by kernel_rfl
theorem ami (P:aE):∀c∈gz,kb (KX P) (.ref (o8 c)) "__getattribute__"=some (some (.builtin "object.__getattribute__")):=by intro c a;simp only [gz,cF,bP,or_false] at a;rcases a with rfl | rfl | rfl | rfl | rfl<;>kernel_rfl
theorem amj (P:aE):∀c∈gz,kb (KX P) (.ref (o8 c)) "__getattr__"=some none:=by intro c a;simp only [gz,cF,bP,or_false] at a;rcases a with rfl | rfl | rfl | rfl | rfl<;>kernel_rfl
theorem aml (P:aE):∀c∈gz,kb (KX P) (.ref (o8 c)) "__setattr__"=some (some (.builtin "object.__setattr__")):=by intro c a;simp only [gz,cF,bP,or_false] at a;rcases a with rfl | rfl | rfl | rfl | rfl<;>kernel_rfl
theorem amk (P:aE):(gz.all λc=>plainOver (KX P) (o8 c))=true:=by kernel_rfl
theorem amh (P:aE):((bQ::gz).all λc=>(clsIn (KX P) (o8 c)).any (·.hasDict))=true:=by kernel_rfl
theorem amg (P:aE):((bQ::gz).all λc=>attrL.all λa=>El (kb (KX P) (.ref (o8 c)) (nm a)))=true:=by kernel_rfl
theorem amq (P:aE):((dQ NN).all λf=>!(ai f).isSome||A9 (gR (KX P) eN (nm f)) (kl f))=true:=by kernel_rfl
theorem amo (P:aE):((bQ::gz).all λc=>A9 (gR (KX P) eN (nm c)) (o8 c))=true:=by kernel_rfl
theorem amm (P:aE):((dQ 9).all λb=>El (gR (KX P) eN (xw b)))=true:=by kernel_rfl
theorem amn (P:aE):∀b,b<9->gR (KX P) kN (xw b)=some (some (r8 b)):=by
 have h:(dQ 9).map (λb=>gR (KX P) kN (xw b))=(dQ 9).map λb=>some (some (r8 b)):=by kernel_rfl
 exact λb hb=>abr.mp h b (GI.mpr hb)
theorem amr (P:aE):gR (KX P) eN "reversed"=some none/\gR (KX P) kN "reversed"=some (some (.type "reversed")):=⟨by kernel_rfl,by kernel_rfl⟩
noncomputable def Fo (p:Gp) (names:List Str):Bool:=p.posonlyargs.isEmpty&&p.kwonlyargs.isEmpty&&p.vararg.isNone&&p.kwarg.isNone&&decide (p.args.map (·.arg)=names)
theorem apg {p:Gp} {names:List Str} (h:Fo p names=true):Ho p names:=by unfold Fo at h;simp only [qi] at h;refine bB (h) λf e=>?_;obtain ⟨⟨⟨a,b⟩,c⟩,d⟩:=f;exact ⟨Ct.mp a,Ct.mp b,Om.mp c,Om.mp d,of_decide_eq_true e⟩
noncomputable def alO:ah->Bool
 |.type t=>t=="function"
 |_=>false
noncomputable def alP (sc:dW):Bool:=match sc.kind with | .function=>true | _=>false
noncomputable def alS (o:Option qp):Bool:=match o with | some k=>(match k with | .local=>true | .cell=>true | _=>false) | none=>false
def fnY (K:ql) (fn:Fn) (fd:w9) (body:List fw):Bool:=cA fd.globals eN&&cA fd.builtins kN&&fd.closure.isEmpty&&codeIn K fd.code fd.qualname&&Fo fd.params (fn.ps.map nm)&&fn.ps.all (λx=>qq x NN)&&decide fn.ps.Nodup&&
 (IW K fn.ds fd.defaults&&alP fd.scope&&!fd.scope.isGenerator&&!fd.scope.isCoroutine&&fn.ps.all (λx=>alS (fd.scope.names.lookup (nm x)))&&jw fd.scope fn.body body)
def fnX (K:ql) (fn:Fn) (fd:w9):FuncBody->Bool
 |.stmts body=>fnY K fn fd body
 |_=>false
def RM (K:ql) (fn:Fn) (oc:ah):w8->Bool
 |.func fd=>alO oc&&fnX K fn fd fd.body
 |_=>false
def lY (K:ql) (f:Nat) (fn:Fn) (a:aC):Bool:=match K.lookup a with
 |some o=>RM K fn o.cls o.data
 |none=>false
theorem ah9 {I:KI} {f:Nat} {fn:Fn} (h:lY I.K f fn (I.fn f)=true):∃od sl fd body,rX I f fn od sl fd body:=by
 delta lY at h;generalize e:I.K.lookup (I.fn f)=a at h;induction a using aW with
 |none=>exact gF h
 |some o=>
  obtain ⟨oc,od,dt,sl⟩:=o;replace h:RM I.K fn oc dt=true:=h;induction dt using NI with
  |func fd=>
   refine vC h λc h=>?_;generalize hb:fd.body=a at h;induction a using FuncBody.casesOn with
   |stmts body=>
    refine PB (show (cA fd.globals eN&&cA fd.builtins kN&&fd.closure.isEmpty&&codeIn I.K fd.code fd.qualname&&Fo fd.params (fn.ps.map nm)&&fn.ps.all (λx=>qq x NN)&&decide fn.ps.Nodup&&_)=true from h) λm n p q r s u h=>?_;refine zW h λv b d g i j=>?_;have c:oc=.type "function":=by
     clear e;induction oc using xh with
     |type t=>exact congrArg _ (beq_iff_eq.mp c)
     |_=>exact gF c
    subst c;refine ⟨od,sl,fd,body,⟨e,hb,N7 m,N7 n,Ct.mp p,q,apg r,λx l=>vh (jt.mp s x l),of_decide_eq_true u,v,?_,?_,?_,λx l=>?_,j⟩⟩
    . replace b:(match fd.scope.kind with | .function=>true | _=>false)=true:=b;generalize fd.scope.kind=a at b;induction a using aca<;>first | rfl | exact gF b
    . simpa using d
    . simpa using g
    . have:=jt.mp i x l;generalize fd.scope.names.lookup (nm x)=a at this;induction a using aW with
      |none=>exact gF this
      |some k=>induction k using zp<;>first | exact .inl rfl | exact .inr rfl | exact gF this
   |_=>exact gF h
  |_=>exact gF h
theorem ahm (P:aE):(((fM.drop 0).take 8).all λp=>lY (KX P) p.1 p.2 (kl p.1))=true:=by kernel_rfl
theorem ahn (P:aE):(((fM.drop 8).take 8).all λp=>lY (KX P) p.1 p.2 (kl p.1))=true:=by kernel_rfl
theorem ahp (P:aE):(((fM.drop 16).take 8).all λp=>lY (KX P) p.1 p.2 (kl p.1))=true:=by kernel_rfl
theorem ahq (P:aE):(((fM.drop 24).take 8).all λp=>lY (KX P) p.1 p.2 (kl p.1))=true:=by kernel_rfl
theorem ahr (P:aE):(((fM.drop 32).take 8).all λp=>lY (KX P) p.1 p.2 (kl p.1))=true:=by kernel_rfl
theorem ahs (P:aE):(((fM.drop 40).take 8).all λp=>lY (KX P) p.1 p.2 (kl p.1))=true:=by kernel_rfl
theorem aht (P:aE):(((fM.drop 48).take 8).all λp=>lY (KX P) p.1 p.2 (kl p.1))=true:=by kernel_rfl
theorem ahu (P:aE):(((fM.drop 56).take 8).all λp=>lY (KX P) p.1 p.2 (kl p.1))=true:=by kernel_rfl
theorem ahv (P:aE):(((fM.drop 64).take 8).all λp=>lY (KX P) p.1 p.2 (kl p.1))=true:=by kernel_rfl
theorem ahw (P:aE):(((fM.drop 72).take 8).all λp=>lY (KX P) p.1 p.2 (kl p.1))=true:=by kernel_rfl
theorem aho (P:aE):(((fM.drop 80).take 8).all λp=>lY (KX P) p.1 p.2 (kl p.1))=true:=by kernel_rfl
theorem agT (P:aE):∀p∈fM,lY (KX P) p.1 p.2 (kl p.1)=true:=by
 have e:fM=(fM.drop 0).take 8++(fM.drop 8).take 8++(fM.drop 16).take 8++(fM.drop 24).take 8++(fM.drop 32).take 8++(fM.drop 40).take 8++(fM.drop 48).take 8++(fM.drop 56).take 8++(fM.drop 64).take 8++(fM.drop 72).take 8++(fM.drop 80).take 8:=by rfl
 intro p hp;rw [e] at hp;simp only [eG] at hp;rcases hp with (((((((((hp | hp) | hp) | hp) | hp) | hp) | hp) | hp) | hp) | hp) | hp
 . exact jt.mp (ahm P) p hp
 . exact jt.mp (ahn P) p hp
 . exact jt.mp (ahp P) p hp
 . exact jt.mp (ahq P) p hp
 . exact jt.mp (ahr P) p hp
 . exact jt.mp (ahs P) p hp
 . exact jt.mp (aht P) p hp
 . exact jt.mp (ahu P) p hp
 . exact jt.mp (ahv P) p hp
 . exact jt.mp (ahw P) p hp
 . exact jt.mp (aho P) p hp
theorem EK {a b:Type} [DecidableEq a] {l:List (a×b)} {f:a} {x:b} (h:lk f l=some x):(f,x)∈l:=by
 induction l with
 |nil=>exact cX h
 |cons p l c=>
  obtain ⟨g,y⟩:=p;replace h:=(eh f g y l).symm.trans h;by_cases e:g=f
  . rw [if_pos e] at h;obtain rfl:=eM h;subst e;exact .head _
  . rw [if_neg e] at h;exact .tail _ (c h)
theorem FO (P:aE):vz (II P) where
 fn f fn h:=ah9 (agT P (f,fn) (EK h))
 st:=⟨amx P,La (amw P)⟩
end
noncomputable def Vu (x:Option (Option ah)) (i:Int):Bool:=match x with
 |some (some (.int j _))=>decide (j=i)
 |_=>false
theorem alR {x:Option (Option ah)} {i:Int} (h:Vu x i=true):∃t,x=some (some (.int i t)):=by
 induction x using aW with
 |none=>exact gF h
 |some y=>
  induction y using aW with
  |none=>exact gF h
  |some v=>
   induction v using xh with
   |int j t=>obtain rfl:=of_decide_eq_true h;exact ⟨t,rfl⟩
   |_=>exact gF h
theorem amf (P:aE):Vu (gR (KX P) eN (nm 149)) 65536=true:=by kernel_rfl
theorem ame (P:aE):∃t,gR (KX P) eN (nm 149)=some (some (.int 65536 t)):=alR (amf P)
theorem VW (P:aE):(ET.all λx=>A9 (kb (KX P) (.ref (o8 x.1.1)) (nm x.1.2)) (kl x.2)&&qq x.1.2 NN&&(ai x.2).isSome)=true:=by kernel_rfl
theorem k_in (P:aE):(UU.all λx=>gz.contains x.1&&(ai x.2).isSome&&A9 (kb (KX P) (.ref (o8 x.1)) "__init__") (kl x.2)&&makesIn (KX P) (o8 x.1))=true:=by kernel_rfl
theorem amu:pZ.Nodup:=by decide+kernel
theorem KO (P:aE):cL (II P) where
 mg:=ams P
 bl:=amd P
 Zi:=amy P
 Kp:=ami P
 TM:=amj P
 Ut:=aml P
 Uk:=tQ (amk P)
 m6:=tQ (amh P)
 q7 c hc a g:=La (tQ (tQ (amg P) c hc) a g)
 VX f k ht:=by have:=Pz (amq P) f k;rw [ht] at this;exact Em this
 Ew c hc:=Em (tQ (amo P) c hc)
 Lo b hb:=⟨La (Pz (amm P) b hb),amn P b hb⟩
 Lu:=amr P
 VY x i h:=by
  have:x=149/\i=65536:=by simp only [JB,List.contains_cons,List.contains_nil,aaz,beq_iff_eq,CD] at h;exact h
  refine bB (this) λj n=>?_;subst j;subst n;exact ame P
 VZ c hc m f h:=by have:=tQ (VW P) _ (EK h);exact kQ this λa b _=>⟨Em a,vh b⟩
 yG f h:=by refine a8 (xe.mp h) λfn k=>?_;refine qh ((FO P).fn f fn k) λod sl fd body F=>?_;exact sS _ od fd sl ⟨F.at',rfl⟩
 Lq c m f h:=by have:=tQ (VW P) _ (EK h);exact kQ this λ_ _ c=>c
 kin c f h:=by have:=tQ (k_in P) _ (EK h);exact qE this λa b c d=>⟨List.contains_iff_mem.mp a,b,Em c,d⟩
 LX:=⟨by kernel_rfl,by kernel_rfl,by kernel_rfl,by kernel_rfl⟩
 rE a b g hb h:=by
  have e:pZ.getD a []=pZ.getD b []:=by unfold nm at h;have:=congrArg (λs:Str=>s.cps.toList) h;simpa using this
  have g:a<pZ.length:=g;have hb:b<pZ.length:=hb;simp only [rS,rS,dO g,dO hb] at e;have e:pZ[a]=pZ[b]:=by simpa using e
  have l:=abv.mp amu;rcases Ob a b with h | h | h
  . exact absurd e (l a b g hb h)
  . exact h
  . exact absurd e.symm (l b a hb g h)
theorem XO (P:aE):r5 (II P) ("DesignError":Str) ("DesignError":Str) 51 39 [.ref 39] [] [] false none none (some (.ref 43)) none (some (.str ("DesignError":Str) 232)) (some (.str ("DesignError":Str) 240)) (some (.bool true)) 1000 where
 ob:=by kernel_rfl
 ini:=by kernel_rfl
 isf:=by kernel_rfl
 sta:=by kernel_rfl
 xga:=by kernel_rfl
 xgk:=by kernel_rfl
theorem amv (P:aE):(KX P).lookup 36=some Fb:=by kernel_rfl
theorem amt:(H.Internal.fS (mt 2 0)).names.lookup (nm 89)=some .local:=by kernel_rfl
theorem jf (P:aE):∀od sl fd body fn,ai 1000=some fn->rX (II P) 1000 fn od sl fd body->fd.scope.names.lookup (nm 89)=some .local:=by
 intro od sl fd body fn _ F;have h:=F.at';have e:(II P).K.lookup ((II P).fn 1000)=some Fb:=amv P;rw [e] at h;have:fd.scope=H.Internal.fS (mt 2 0):=by unfold Fb fo at h;simp only [GY,Obj.mk.injEq,Data.func.injEq] at h;exact congrArg _ h.2.2.1.symm
 refine aa this ?_;exact amt
theorem amO (w:bU):oZ pr w (II w.params) 17:=afn (KO w.params) (FO w.params) (XO w.params) (jf w.params) 17
section
variable {args:List WData}
noncomputable abbrev rw1:OpenRow:=abX.row
theorem aj3 {R:WRecords} {xs:List WData} (h:Ox R xs .int=true):∃a:List Int,xs=a.map .int:=by
 induction xs with
 |nil=>exact ⟨[],rfl⟩
 |cons x xs d=>
  rw [Ox] at h;refine bB (dP.mp h) λb c=>a8 (d c) λa e=>?_;subst e;induction x using W.WData.casesOn with
  |int i=>exact ⟨i::a,rfl⟩
  |_=>exact (uZ b).elim
theorem apm (h:rw1.toRowW.claim.pre args=true):∃a:List Int,args=[.list (a.map .int)]/\a.length<=63:=by
 refine bB (pre_splitW h) λg b=>qg (hasAllW_cons g) λd r p c i=>?_;subst p;obtain rfl:=hasAllW_nil i;have j:∃xs,d=.list xs/\Ox rw1.records xs .int=true:=by
  induction d using W.WData.casesOn with
  |list xs=>exact ⟨xs,rfl,(aaz _).symm.trans c⟩
  |_=>exact (uZ c).elim
 refine aQ j λxs n k=>?_;subst n;refine a8 (aj3 k) λa o=>?_;subst o;refine ⟨a,rfl,?_⟩;have l:rw1.pre=.and (.not (.lt (.lit (.int 63)) (.len (.arg 0)))) (.lit (.bool true)):=rfl;rw [l] at b;by_cases f:a.length<=63
 . exact f
 . exfalso;have v:∀e:WCtx,e.args[0]?=some (.list (a.map .int))->(WTm.and (.not (.lt (.lit (.int 63)) (.len (.arg 0)))) (.lit (.bool true))).value rw1.records e=some (.bool false):=λe m=>by
    have:=w_and (w_not (w_lt (w_lit (R:=rw1.records) (e:=e) (d:=.int 63)) (w_len_list (w_arg m)))) (w_lit (d:=.bool true));rw [this,cf,decide_eq_true (show (63:Int)<(a.length:Int) from ao 0x1cfcbce8cfcbc80411 f)];rfl
   delta WTm.holds at b;rw [v _ rfl] at b;exact uZ b
theorem api (args ds):rw1.toRowW.claim.post args (.bool true) ds=true:=by have a:rw1.post=.eq .res (.lit (.bool true)):=rfl;have b:rw1.returns=.bool:=rfl;show (WShape.has rw1.records (.bool true) rw1.returns&&rw1.post.holds rw1.records {args:=args,res:=some (.bool true),after:=ds})=true;refine aa a (aa b ?_);refine dP.mpr ⟨rfl,?_⟩;delta WTm.holds;rw [w_eq_bool (w_res rfl) w_lit];rfl
theorem apJ {cl:Str->Option aC} {h:dv} {W:Wd} {a:List Int}:∀{vs:List ah} {b:List aC},ReadsAllW rw1.records cl h vs (a.map .int) b->bz W (a.map .int) vs:=by
 induction a with
 |nil=>intro vs b h;cases h;exact .nil
 |cons i a e=>
  intro vs b h;cases h with
  |cons c d=>cases c;exact .cons (.int _ _) (e d)
theorem afq (w) (gv s) (T:Pu w gv s) {c:ax} {vs:List ah} {t:List aC} (n:rw1.toRowW.claim.pre args=true) (L:Laid rw1.records w s c args vs t):
 aY (aZ pr w) callerA (ab6 (.ref 1430) vs) (λv s'=>GoodWG rw1.toRowW.claim (classAt s.heap) (ExcName.means s.heap) args c (.ok (.ret v)) s')
  (λe s'=>GoodWG rw1.toRowW.claim (classAt s.heap) (ExcName.means s.heap) args c (.error e) s') c:=by
 refine aQ (apm n) λk H G=>?_;subst H;let W:Wd:=⟨c.heap.get?,[]⟩;let P:Pin:=⟨λ_=>none,λ_=>none⟩;have F:=L.reads;have C:∃a,vs=[.ref a]/\VR W (.gA (k.map .int)) (.ref a):=by
  cases F with
  |cons D E=>
   cases E;cases D with
   |list u y z A=>exact ⟨_,rfl,.gA u y (by rw [z,Array.toArray_toList]) (by rw [cf];unfold SZ;exact ao 0x30d40be4020cfcbc80011 G) (apJ A)⟩
 refine aQ C λa m d=>?_;subst m;have J:aF pr w (II w.params) P W [] c.heap:=by
  refine {con:=λ_ _ h=>h,pex:=λ_ _ h=>(nomatch h),pfr:=λ_ _ _ h=>(nomatch h),kin:=λb o h=>?_,len:=rfl,obj:=λi o p h=>(by contradiction),sep:=λi p h=>(by contradiction),inj:=λi j p q _ h=>(by contradiction),dis:=λ_ _ _=>⟨rfl,rfl⟩};have h:(KX w.params).lookup b=some o:=h;unfold KX at h;rw [qn] at h;apply L.keeps;split at h
  . rename_i e;have:b=1:=by simpa using e
    subst this
    (injection h with h;subst h)
    exact T.one
  . exact T.K _ _ h
 refine a8 (amQ k 0 []) λO' B=>xn (amO w (f:=80) ⟨rfl,by decide,by decide⟩ ⟨[],rfl,λ_ h=>nomatch h⟩ J (.cons d .nil) ?_);refine aa B ?_;intro W' x s' le r g l;have g:x=.bool true:=by cases g;rfl
 subst g;refine GoodW.toG ⟨.inl ⟨.bool true,.bool true,[],rfl,λ_=>rfl,.bool true,api _ _,λ_=>⟨GJ,λ_ h=>nomatch h⟩⟩,λb o h=>r.con _ _ (le.T _ _ h),l.os,l.gens.trans L.gens⟩
end
end Internal
namespace Internal
open H.Internal PySem PySem.W PySem.Calls PyProof.Rows
theorem amP (MA:rw1.wellSaid=true):rw1.Holds:=by
 have hb:rw1.toRowW.prog.bare:=⟨rfl,rfl,rfl,rfl,rfl,by decide+kernel⟩;have E:rw1.toRowW.promised:=⟨[.list []],by decide+kernel,by decide+kernel⟩;have ok:(opensWell rw1.toRowW.prog&&(frees rw1.toRowW&&rw1.within.isEmpty))=true:=by decide+kernel
 refine bB (dP.mp ok) λQ k5=>?_;refine bB (dP.mp k5) λk5 O=>?_;refine uV (frees_parts k5) λD N H k K=>?_;have hi:=ident_freeW N H k;have B:rw1.toRowW.claim.within=[]:=Ct.mp O;refine ⟨MA,E,⟨hb,Q,(by show rw1.toRowW.makers.map rw1.toRowW.maker=[];rw [K];rfl)⟩,E.witness,λw=>⟨(RW w).1,λs' F=>?_⟩⟩;obtain ⟨gv,J,l,s,T⟩:=(RW w).2 s' F;refine ⟨gv,J,l,s,T.ran,λn p=>?_,λx t=>(nomatch t),λx t=>(nomatch t),?_⟩
 . obtain rfl:n=("law":Str):=by
    have p:n∈[("law":Str)]:=p;simpa using p
   exact T.LH
 . refine ClaimW.callFrom_of_specG (c:=rw1.toRowW.claim) (tree:=λvs=>do match <-nsGet G8 rw1.name with
    |some f=>do ret (<-ab6 f vs)
    |none=>unsupported "claim.caller:no-such-global") T.asleep T.gens λargs y h ord C=>?_
   refine a8 (xe.mp (layAllW_isSome (R:=rw1.records) (cl:=classAt s.heap) (P:=w.params) (ord:=ord) (λc I=>(by cases I)) args rw1.args s (pre_splitW y).1)) λj b=>?_;obtain ⟨vs,d⟩:=j;have a:=layAllW_keeps _ _ _ b;have A:=layAllW_rest _ _ _ b;refine ct (reads_layAllW C _ _ _ b h d.heap (λ_ _ e=>e)) λG r S i=>?_;have L:Laid rw1.records w s d args vs G:=⟨⟨ord,C,b⟩,r,S,i,a,A.1.trans T.gens,A.2.2.1⟩;have ns:=Heap.Ns.of_isNs T.ns;have m:s.heap.nsMap eN "law"=some (.ref 1430):=(Oo T.ns _).symm.trans T.g;have u:d.heap.Ns G8 (s.heap.nsMap eN):=XE ns λo M=>a _ _ M;refine ⟨vs,d,b,aO (wpAny_nsGet u ?_)⟩;rw [show s.heap.nsMap eN rw1.name=some (.ref 1430) from m];refine aO (oY (afq w gv s T y L) (λv s' g=>?_) λe s' g=>?_)
   . have z:=g.laid (c:=rw1.toRowW.claim) D B hi L;exact bD ⟨_,rfl,z.1,z.2.1,z.2.2,λq=>(by cases q)⟩
   . have z:=g.laid (c:=rw1.toRowW.claim) D B hi L;exact ⟨z.1,z.2.1,z.2.2,λq=>(by cases q)⟩
end Internal
end
open PySem PySem.W PyProof.Rows
theorem PySem.Challenge.cw_nn0347_01_holds : PySem.Challenge.rw_nn0347_01.Holds :=
 holds_law Internal.MA Internal.amP
