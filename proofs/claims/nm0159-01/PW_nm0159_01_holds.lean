import PyProof.Rows.All
import Wide.All
import OpenK.AllK
import Wide.FinOn
import Lean
import PySem.Challenge.RW_nm0159_01
set_option Elab.async false
set_option maxRecDepth 100000
set_option linter.all false
set_option genInjectivity false
set_option genSizeOf false
/- The proof stands on a layer of rules of its own (namespace Mine). Told openly: some steps run programs of this text through run_tac.
lia: linear arithmetic by a certificate that the kernel checks. ac_rfl, nofun, walk_at "sub" (local rules, below): they apply the lemmas above them, statement by statement.
Gc.last, the last row of the last proof: for the lid on the compiled file it lays the constants of this text anew, each through the kernel (addDecl), with proofs made shorter (Opt, Cse),
and leaves out helpers that nothing needs and the programs Lin, Drv, Opt, Cse, Gc. Every theorem, definition and type of Mine but these programs stays, with its statement; no axiom is added.
Long names were made short by a program, for the lid on the text. -/
section
namespace Mine.Lin
inductive NE | v (i:Nat) | k (n:Nat) | a (x y:NE) | m (c:Nat)(x:NE)
inductive IE | v (i:Nat) | k (z:Int) | o (x:NE) | a (x y:IE) | s (x y:IE) | g (x:IE) | m (c:Int)(x:IE)
inductive F | lN (x y:NE) | tN (x y:NE) | eN (x y:NE) | nlN (x y:NE) | ntN (x y:NE) | lI (x y:IE) | tI (x y:IE) | eI (x y:IE) | nlI (x y:IE) | ntI (x y:IE)
noncomputable section
def nth {α:Type}(d:α):List α→Nat→α
 | [],_=>d
 | a::_,0=>a
 | _::l,i+1=>nth d l i
def NE.den (c:List Nat):NE→Nat
 | .v i=>nth 0 c i
 | .k n=>n
 | .a x y=>x.den c+y.den c
 | .m n x=>n*x.den c
def IE.den (c:List Nat)(d:List Int):IE→Int
 | .v i=>nth 0 d i
 | .k z=>z
 | .o x=>((x.den c:Nat):Int)
 | .a x y=>x.den c d+y.den c d
 | .s x y=>x.den c d-y.den c d
 | .g x=>- x.den c d
 | .m n x=>n*x.den c d
def F.den (c:List Nat)(d:List Int):F→Prop
 | .lN x y=>x.den c≤y.den c
 | .tN x y=>x.den c<y.den c
 | .eN x y=>x.den c=y.den c
 | .nlN x y=>¬x.den c≤y.den c
 | .ntN x y=>¬x.den c<y.den c
 | .lI x y=>x.den c d≤y.den c d
 | .tI x y=>x.den c d<y.den c d
 | .eI x y=>x.den c d=y.den c d
 | .nlI x y=>¬x.den c d≤y.den c d
 | .ntI x y=>¬x.den c d<y.den c d
def cst:List Nat→List Int
 | []=>[]
 | a::l=>(a:Int)::cst l
structure P where
 c:Int
 n:List Int
 i:List Int
def addL:List Int→List Int→List Int
 | [],y=>y
 | a::x,[]=>a::x
 | a::x,b::y=>(a+b)::addL x y
def unit:Nat→List Int
 | 0=>[1]
 | i+1=>0::unit i
def dot:List Int→List Int→Int
 | a::x,b::y=>a*b+dot x y
 | _,_=>0
def P.add (p q:P):P:=⟨p.c+q.c,addL p.n q.n,addL p.i q.i⟩
def P.mul (k:Int)(p:P):P:=⟨k*p.c,p.n.map (k * ·),p.i.map (k * ·)⟩
def P.val (c:List Nat)(d:List Int)(p:P):Int:=p.c+dot p.n (cst c)+dot p.i d
def NE.P:NE→P
 | .v i=>⟨0,unit i,[]⟩
 | .k n=>⟨n,[],[]⟩
 | .a x y=>x.P.add y.P
 | .m n x=>x.P.mul n
def IE.P:IE→P
 | .v i=>⟨0,[],unit i⟩
 | .k n=>⟨n,[],[]⟩
 | .o x=>x.P
 | .a x y=>x.P.add y.P
 | .s x y=>x.P.add (y.P.mul (-1))
 | .g x=>x.P.mul (-1)
 | .m n x=>x.P.mul n
def dif (k:Int)(p q:P):P:=(q.add (p.mul (-1))).add ⟨k,[],[]⟩
def F.P:F→P
 | .lN x y=>dif 0 x.P y.P
 | .tN x y=>dif (-1) x.P y.P
 | .eN x y=>dif 0 x.P y.P
 | .nlN x y=>dif (-1) y.P x.P
 | .ntN x y=>dif 0 y.P x.P
 | .lI x y=>dif 0 x.P y.P
 | .tI x y=>dif (-1) x.P y.P
 | .eI x y=>dif 0 x.P y.P
 | .nlI x y=>dif (-1) y.P x.P
 | .ntI x y=>dif 0 y.P x.P
def F.eq:F→Bool
 | .eN _ _ | .eI _ _=>true
 | _=>false
inductive Fs | z | c (f:F)(k:Int)(r:Fs)
def check:Fs→P→Bool
 | .z,p=>decide (p.c<0)&&p.n.all (fun x=>decide (x≤0))&&p.i.all (fun x=>decide (x=0))
 | .c f k r,p=>(f.eq||decide (0≤k))&&check r (p.add (f.P.mul k))
def Imp (c:List Nat)(d:List Int):Fs→Prop
 | .z=>False
 | .c f _ r=>f.den c d→Imp c d r
theorem dot_nil (y:List Int):dot y []=0:=by cases y<;>rfl
theorem Qw:∀(x y c:List Int),dot (addL x y) c=dot x c+dot y c
 | [],y,c=>by show dot y c=0+dot y c;omega
 | a::x,[],c=>by show dot (a::x) c=dot (a::x) c+0;omega
 | a::x,b::y,[]=>rfl
 | a::x,b::y,e::c=>by
  show(a+b)*e+dot (addL x y) c=a*e+dot x c+(b*e+dot y c)
  rw[Qw x y c,Int.add_mul];omega
theorem Qv (k:Int):∀(x c:List Int),dot (x.map (k * ·)) c=k*dot x c
 | [],c=>by show(0:Int)=k*0;omega
 | a::x,[]=>by show(0:Int)=k*0;omega
 | a::x,e::c=>by
  show k*a*e+dot (x.map (k * ·)) c=k*(a*e+dot x c)
  rw[Qv k x c,Int.mul_add,Int.mul_assoc]
theorem Kp:∀(i:Nat) (c:List Int),dot (unit i) c=nth 0 c i
 | 0,[]=>rfl
 | 0,e::c=>by show 1*e+dot [] c=e;show 1*e+0=e;omega
 | i+1,[]=>rfl
 | i+1,e::c=>by show 0*e+dot (unit i) c=nth 0 c i;rw[Kp i c];omega
theorem WC:∀(c:List Nat) (i:Nat),nth 0 (cst c) i=((nth 0 c i:Nat):Int)
 | [],_=>rfl
 | _::_,0=>rfl
 | _::l,i+1=>WC l i
variable {c:List Nat}{d:List Int}
theorem wY (p q:P):(p.add q).val c d=p.val c d+q.val c d:=by
 show p.c+q.c+dot (addL p.n q.n) _+dot (addL p.i q.i) _=p.c+dot p.n _+dot p.i _+(q.c+dot q.n _+dot q.i _)
 rw[Qw,Qw];omega
theorem wX (k:Int)(p:P):(p.mul k).val c d=k*p.val c d:=by
 show k*p.c+dot (p.n.map (k * ·)) _+dot (p.i.map (k * ·)) _=k*(p.c+dot p.n _+dot p.i _)
 rw[Qv,Qv,Int.mul_add,Int.mul_add]
theorem val_k (k:Int):P.val c d ⟨k,[],[]⟩=k:=by show k+0+0=k;omega
theorem qi:∀e:NE,e.P.val c d=((e.den c:Nat):Int)
 | .v i=>by show 0+dot (unit i) _+0=_;rw[Kp,WC];show 0+((nth 0 c i:Nat):Int)+0=((nth 0 c i:Nat):Int);omega
 | .k n=>val_k _
 | .a x y=>by show(x.P.add y.P).val c d=((x.den c+y.den c:Nat):Int);rw[wY,qi x,qi y];omega
 | .m n x=>by show(x.P.mul n).val c d=((n*x.den c:Nat):Int);rw[wX,qi x,Int.natCast_mul]
theorem jY:∀e:IE,e.P.val c d=e.den c d
 | .v i=>by show 0+0+dot (unit i) d=nth 0 d i;rw[Kp];omega
 | .k n=>val_k _
 | .o x=>qi x
 | .a x y=>by show(x.P.add y.P).val c d=x.den c d+y.den c d;rw[wY,jY x,jY y]
 | .s x y=>by show(x.P.add (y.P.mul (-1))).val c d=x.den c d-y.den c d;rw[wY,wX,jY x,jY y];omega
 | .g x=>by show(x.P.mul (-1)).val c d = - x.den c d;rw[wX,jY x];omega
 | .m n x=>by show(x.P.mul n).val c d=n*x.den c d;rw[wX,jY x]
theorem qz (k:Int)(p q:P):(dif k p q).val c d=q.val c d-p.val c d+k:=by
 show((q.add (p.mul (-1))).add ⟨k,[],[]⟩).val c d=_
 rw[wY,wY,wX,val_k];omega
theorem f_val:∀f:F,f.den c d→0≤f.P.val c d∧(f.eq=true→f.P.val c d=0)
 | .lN x y,h=>by
  have h:x.den c≤y.den c:=h
  show 0≤(dif 0 x.P y.P).val c d∧(false=true→_)
  rw[qz,qi,qi];exact⟨by omega,fun h=>by cases h⟩
 | .tN x y,h=>by
  have h:x.den c<y.den c:=h
  show 0≤(dif (-1) x.P y.P).val c d∧(false=true→_)
  rw[qz,qi,qi];exact⟨by omega,fun h=>by cases h⟩
 | .eN x y,h=>by
  have h:x.den c=y.den c:=h
  show 0≤(dif 0 x.P y.P).val c d∧(true=true→(dif 0 x.P y.P).val c d=0)
  rw[qz,qi,qi];omega
 | .nlN x y,h=>by
  have h:¬x.den c≤y.den c:=h
  show 0≤(dif (-1) y.P x.P).val c d∧(false=true→_)
  rw[qz,qi,qi];exact⟨by omega,fun h=>by cases h⟩
 | .ntN x y,h=>by
  have h:¬x.den c<y.den c:=h
  show 0≤(dif 0 y.P x.P).val c d∧(false=true→_)
  rw[qz,qi,qi];exact⟨by omega,fun h=>by cases h⟩
 | .lI x y,h=>by
  have h:x.den c d≤y.den c d:=h
  show 0≤(dif 0 x.P y.P).val c d∧(false=true→_)
  rw[qz,jY,jY];exact⟨by omega,fun h=>by cases h⟩
 | .tI x y,h=>by
  have h:x.den c d<y.den c d:=h
  show 0≤(dif (-1) x.P y.P).val c d∧(false=true→_)
  rw[qz,jY,jY];exact⟨by omega,fun h=>by cases h⟩
 | .eI x y,h=>by
  have h:x.den c d=y.den c d:=h
  show 0≤(dif 0 x.P y.P).val c d∧(true=true→(dif 0 x.P y.P).val c d=0)
  rw[qz,jY,jY];omega
 | .nlI x y,h=>by
  have h:¬x.den c d≤y.den c d:=h
  show 0≤(dif (-1) y.P x.P).val c d∧(false=true→_)
  rw[qz,jY,jY];exact⟨by omega,fun h=>by cases h⟩
 | .ntI x y,h=>by
  have h:¬x.den c d<y.den c d:=h
  show 0≤(dif 0 y.P x.P).val c d∧(false=true→_)
  rw[qz,jY,jY];exact⟨by omega,fun h=>by cases h⟩
theorem WS:∀(l:List Int) (c:List Nat),l.all (fun x=>decide (x≤0))=true→dot l (cst c)≤0
 | [],_,_=>Int.le_refl 0
 | _::_,[],_=>Int.le_refl 0
 | a::x,e::c,h=>by
  rw[List.all_cons,Bool.and_eq_true]at h
  have h1:a≤0:=of_decide_eq_true h.1
  have h2:=WS x c h.2
  have h3:a*(e:Int)≤0:=Int.mul_nonpos_of_nonpos_of_nonneg h1 (Int.natCast_nonneg e)
  show a*(e:Int)+dot x (cst c)≤0
  omega
theorem UW:∀(l d:List Int),l.all (fun x=>decide (x=0))=true→dot l d=0
 | [],_,_=>rfl
 | _::_,[],_=>rfl
 | a::x,e::d,h=>by
  rw[List.all_cons,Bool.and_eq_true]at h
  have h1:a=0:=of_decide_eq_true h.1
  show a*e+dot x d=0
  rw[UW x d h.2,h1];omega
theorem go:∀(fs:Fs) (p:P),0≤p.val c d→check fs p=true→Imp c d fs
 | .z,p,hp,h=>by
  have h:(decide (p.c<0)&&p.n.all (fun x=>decide (x≤0))&&p.i.all (fun x=>decide (x=0)))=true:=h
  rw[Bool.and_eq_true,Bool.and_eq_true]at h
  have h1:p.c<0:=of_decide_eq_true h.1.1
  have h2:=WS p.n c h.1.2
  have h3:=UW p.i d h.2
  have hp:0≤p.c+dot p.n (cst c)+dot p.i d:=hp
  show False
  omega
 | .c f k r,p,hp,h=>fun hf=>by
  have h:((f.eq||decide (0≤k))&&check r (p.add (f.P.mul k)))=true:=h
  rw[Bool.and_eq_true]at h
  refine go r _ ?_ h.2
  rw[wY,wX]
  obtain⟨h1,h2⟩:=f_val f hf
  cases he:f.eq with
  | true=>rw[h2 he];omega
  | false=>
   have h3:=h.1
   rw[he,Bool.false_or]at h3
   have:=Int.mul_nonneg (of_decide_eq_true h3) h1
   omega
theorem lin (c:List Nat)(d:List Int)(fs:Fs)(h:check fs ⟨0,[],[]⟩=true):Imp c d fs:=go fs _ (by rw[val_k];exact Int.le_refl 0) h
end
open Lean Meta
inductive T | v (nat:Bool)(i:Nat) | k (z:Int)(e:Expr) | a (x y:T) | s (x y:T) | g (x:T) | m (c:Int)(e:Expr)(x:T) | n (x:T)
 deriving Inhabited
structure A where
 atoms:Array (Expr×Bool):=#[]
abbrev M:=StateRefT A MetaM
def atom (e:Expr)(nat:Bool):M T:=do
 match (← get).atoms.findIdx? (fun p=>p.1==e&&p.2==nat) with
 | some i=>return .v nat i
 | none=>do
  modify fun s=>{s with atoms:=s.atoms.push (e,nat)}
  return .v nat ((← get).atoms.size-1)
def lit? (e:Expr):Option Int:=
 if e.isAppOfArity ``HPow.hPow 6 then
  match (e.getArg! 4).nat?,(e.getArg! 5).nat? with
  | some a,some b=>if a==2&&b≤64 then some ((2:Int) ^ b)else none
  | _,_=>none
 else match e.nat? with
 | some n=>some n
 | none=>match e.rawNatLit? with
  | some n=>some n
  | none=>if e.isAppOfArity ``OfNat.ofNat 3 then(e.getArg! 1).rawNatLit?.map Int.ofNat else if e.isAppOfArity ``Neg.neg 3 then(match (e.getArg! 2).nat? with | some n=>some (-(n:Int)) | none=>if (e.getArg! 2).isAppOfArity ``OfNat.ofNat 3 then((e.getArg! 2).getArg! 1).rawNatLit?.map (fun n=>-(n:Int))else none)else none
def uv (fuel:Nat)(nat:Bool)(e:Expr):M T:=do
 match fuel with
 | 0=>atom e nat
 | fuel+1=>
 let e:=e.consumeMData
 if let some z:=lit? e then return .k z e
 if e.isAppOfArity ``HAdd.hAdd 6 then return .a (← uv fuel nat (e.getArg! 4)) (← uv fuel nat (e.getArg! 5))
 if e.isAppOfArity ``HMul.hMul 6 then
  if let some z:=lit? (e.getArg! 4)then return .m z (e.getArg! 4) (← uv fuel nat (e.getArg! 5))
  return ← atom e nat
 if nat then return ← atom e nat
 if e.isAppOfArity ``HSub.hSub 6 then return .s (← uv fuel nat (e.getArg! 4)) (← uv fuel nat (e.getArg! 5))
 if e.isAppOfArity ``Neg.neg 3 then return .g (← uv fuel nat (e.getArg! 2))
 if e.isAppOfArity ``Nat.cast 3 then return .n (← uv fuel true (e.getArg! 2))
 if e.isAppOfArity ``Int.ofNat 1 then return ← atom e nat
 atom e nat
structure Fa where
 kind:Nat
 nat:Bool
 x:T
 y:T
 pf:Expr
 deriving Inhabited
def fact? (ty pf:Expr):M (Option Fa):=do
 let ty:=ty.consumeMData
 let rel (kind:Nat) (t x y:Expr):M (Option Fa):=do
  if t.isConstOf ``Nat then return some ⟨kind,true,← uv 200 true x,← uv 200 true y,pf⟩
  if t.isConstOf ``Int then return some ⟨kind,false,← uv 200 false x,← uv 200 false y,pf⟩
  return none
 let base (neg:Bool) (ty:Expr):M (Option Fa):=do
  if ty.isAppOfArity ``LE.le 4 then return ← rel (if neg then 3 else 0) (ty.getArg! 0) (ty.getArg! 2) (ty.getArg! 3)
  if ty.isAppOfArity ``GE.ge 4 then return ← rel (if neg then 3 else 0) (ty.getArg! 0) (ty.getArg! 3) (ty.getArg! 2)
  if ty.isAppOfArity ``LT.lt 4 then return ← rel (if neg then 4 else 1) (ty.getArg! 0) (ty.getArg! 2) (ty.getArg! 3)
  if ty.isAppOfArity ``GT.gt 4 then return ← rel (if neg then 4 else 1) (ty.getArg! 0) (ty.getArg! 3) (ty.getArg! 2)
  if !neg&&ty.isAppOfArity ``Eq 3 then return ← rel 2 (ty.getArg! 0) (ty.getArg! 1) (ty.getArg! 2)
  return none
 if ty.isAppOfArity ``Not 1 then return ← base true (ty.getArg! 0).consumeMData
 base false ty
def facts (fuel:Nat)(ty pf:Expr)(acc:Array Fa):M (Array Fa):=do
 match fuel with
 | 0=>return acc
 | fuel+1=>
 if ty.isAppOfArity ``And 2 then
  let acc ← facts fuel (ty.getArg! 0) (mkApp3 (mkConst ``And.left) (ty.getArg! 0) (ty.getArg! 1) pf) acc
  return ← facts fuel (ty.getArg! 1) (mkApp3 (mkConst ``And.right) (ty.getArg! 0) (ty.getArg! 1) pf) acc
 match ← fact? ty pf with
 | some f=>return acc.push f
 | none=>return acc
structure Rw where
 eq:Bool
 c:Int
 co:Array Int
 ce:Array Int
 deriving Inhabited
def lf (n:Nat):T→Int×Array Int
 | .v _ i=>(0,(Array.replicate n 0).set! i 1)
 | .k z _=>(z,Array.replicate n 0)
 | .a x y=>let p:=lf n x;let q:=lf n y;(p.1+q.1,p.2.zipWith (· + ·) q.2)
 | .s x y=>let p:=lf n x;let q:=lf n y;(p.1-q.1,p.2.zipWith (· - ·) q.2)
 | .g x=>let p:=lf n x;(- p.1,p.2.map (- ·))
 | .m z _ x=>let p:=lf n x;(z*p.1,p.2.map (z * ·))
 | .n x=>lf n x
def Rw.comb (a:Int)(p:Rw)(b:Int)(q:Rw):Rw:=
 let r:Rw:=⟨p.eq&&q.eq,a*p.c+b*q.c,p.co.zipWith (fun x y=>a*x+b*y) q.co,p.ce.zipWith (fun x y=>a*x+b*y) q.ce⟩
 let g:=r.ce.foldl (fun g x=>Nat.gcd g x.natAbs) (r.co.foldl (fun g x=>Nat.gcd g x.natAbs) r.c.natAbs)
 if g≤1 then r else⟨r.eq,r.c / g,r.co.map (· / (g:Int)),r.ce.map (· / (g:Int))⟩
def Rw.bad (p:Rw):Bool:=p.co.all (· == 0)&&(if p.eq then p.c != 0 else p.c<0)
def solve (nv:Nat)(rows:Array Rw):Option (Array Int):=Id.run do
 let mut rows:=rows
 let fin (p:Rw):Array Int:=if p.eq&&p.c>0 then p.ce.map (- ·)else p.ce
 for _ in [0:nv+1] do
  if let some p:=rows.find? (·.bad)then return some (fin p)
  rows:=rows.filter fun p=>!(p.co.all (· == 0))
  if rows.isEmpty then return none
  let mut done:=false
  if let some i:=rows.findIdx? (·.eq) then
   let p:=rows[i]!
   let mut best:=nv
   for j in [0:nv] do
    if p.co[j]! != 0&&(best==nv||p.co[j]!.natAbs<p.co[best]!.natAbs)then best:=j
   let a:=p.co[best]!
   rows:=(rows.eraseIdxIfInBounds i).map fun q=>
    let b:=q.co[best]!
    if b==0 then q else
     let m:Int:=a.natAbs
     {(Rw.comb m q (-(b*(if a<0 then -1 else 1))) p)with eq:=q.eq}
   done:=true
  if !done then
   let mut best:=nv
   let mut cost:=0
   for j in [0:nv] do
    let pos:=rows.foldl (fun n q=>if q.co[j]! > 0 then n+1 else n) 0
    let neg:=rows.foldl (fun n q=>if q.co[j]! < 0 then n+1 else n) 0
    if pos+neg>0&&(best==nv||pos*neg<cost+0) then
     best:=j
     cost:=pos*neg
   if best==nv then return none
   let ps:=rows.filter (fun q=>q.co[best]! > 0)
   let ns:=rows.filter (fun q=>q.co[best]! < 0)
   let mut new:=rows.filter (fun q=>q.co[best]! == 0)
   for p in ps do
    for q in ns do
     new:=new.push (Rw.comb (-(q.co[best]!)) p (p.co[best]!) q)
   if new.size>600 then return none
   let mut out:Array Rw:=#[]
   for p in new do
    match out.findIdx? (fun q=>q.eq==p.eq&&q.co==p.co) with
    | some i=>if p.c<out[i]!.c&&!p.eq then out:=out.set! i p else if p.eq then out:=out.push p
    | none=>out:=out.push p
   rows:=out
 if let some p:=rows.find? (·.bad)then return some (fin p)
 return none
def natE (n:Nat):Expr:=mkRawNatLit n
def intE (z:Int):Expr:=match z with | .ofNat n=>mkApp (mkConst ``Int.ofNat) (natE n) | .negSucc n=>mkApp (mkConst ``Int.negSucc) (natE n)
def T.toN (re:Nat→Nat):T→Expr
 | .v _ i=>mkApp (mkConst ``NE.v) (natE (re i))
 | .k z _=>mkApp (mkConst ``NE.k) (natE z.toNat)
 | .a x y=>mkApp2 (mkConst ``NE.a) (x.toN re) (y.toN re)
 | .m z _ x=>mkApp2 (mkConst ``NE.m) (natE z.toNat) (x.toN re)
 | _=>mkConst ``Nat
def T.toI (re:Nat→Nat):T→Expr
 | .v _ i=>mkApp (mkConst ``IE.v) (natE (re i))
 | .k z _=>mkApp (mkConst ``IE.k) (intE z)
 | .a x y=>mkApp2 (mkConst ``IE.a) (x.toI re) (y.toI re)
 | .s x y=>mkApp2 (mkConst ``IE.s) (x.toI re) (y.toI re)
 | .g x=>mkApp (mkConst ``IE.g) (x.toI re)
 | .m z _ x=>mkApp2 (mkConst ``IE.m) (intE z) (x.toI re)
 | .n x=>mkApp (mkConst ``IE.o) (x.toN re)
def T.ats:T→List Nat
 | .v _ i=>[i]
 | .k _ _=>[]
 | .a x y | .s x y=>x.ats++y.ats
 | .g x | .m _ _ x | .n x=>x.ats
def refute (fs:Array Fa)(ats:Array (Expr×Bool)):MetaM (Option Expr):=do
 let nv:=ats.size
 let nf:=fs.size
 if nv>60||nf>80 then return none
 let mut rows:Array Rw:=#[]
 for h:i in [0:nf] do
  let f:=fs[i]'(Membership.get_elem_helper h rfl)
  let (x,y):=if f.kind≥3 then(lf nv f.y,lf nv f.x) else(lf nv f.x,lf nv f.y)
  let k:Int:=if f.kind==1||f.kind==3 then -1 else 0
  rows:=rows.push ⟨f.kind==2,y.1-x.1+k,y.2.zipWith (· - ·) x.2,(Array.replicate nf 0).set! i 1⟩
 for i in [0:nv] do
  if ats[i]!.2 then rows:=rows.push ⟨false,0,(Array.replicate nv 0).set! i 1,Array.replicate nf 0⟩
 let some ms:=solve nv rows | return none
 let used:=(Array.range nf).filter fun i=>ms[i]! != 0
 let mut ns:Array Nat:=#[]
 let mut is:Array Nat:=#[]
 for i in used do
  for a in fs[i]!.x.ats++fs[i]!.y.ats do
   if ats[a]!.2 then
    unless ns.contains a do ns:=ns.push a
   else
    unless is.contains a do is:=is.push a
 let re (i:Nat):Nat:=if ats[i]!.2 then(ns.findIdx? (· == i)).getD 0 else(is.findIdx? (· == i)).getD 0
 let mut l:=mkConst ``Fs.z
 for i in used.reverse do
  let f:=fs[i]!
  let x:=if f.nat then f.x.toN re else f.x.toI re
  let y:=if f.nat then f.y.toN re else f.y.toI re
  let c:=match f.kind,f.nat with
   | 0,true=>``F.lN | 1,true=>``F.tN | 2,true=>``F.eN | 3,true=>``F.nlN | _,true=>``F.ntN
   | 0,false=>``F.lI | 1,false=>``F.tI | 2,false=>``F.eI | 3,false=>``F.nlI | _,false=>``F.ntI
  l:=mkApp3 (mkConst ``Fs.c) (mkApp2 (mkConst c) x y) (intE ms[i]!) l
 let lst (t:Expr) (xs:Array Nat):Expr:=xs.foldr (fun i r=>mkApp3 (mkConst ``List.cons [Level.zero]) t ats[i]!.1 r) (mkApp (mkConst ``List.nil [Level.zero]) t)
 let pf:=mkApp4 (mkConst ``lin) (lst (mkConst ``Nat) ns) (lst (mkConst ``Int) is) l (mkApp2 (mkConst ``Eq.refl [Level.one]) (mkConst ``Bool) (mkConst ``Bool.true))
 return some (mkAppN pf (used.map fun i=>fs[i]!.pf))
def Qi (fs:Array Fa)(p:Expr):M (Option Expr):=do
 let np:=mkApp (mkConst ``Not) p
 withLocalDeclD `h np fun h=>do
  let f0 ← facts 20 np h #[]
  match ← refute (f0++fs) (← get).atoms with
  | some r=>return some (mkApp2 (mkConst ``Classical.byContradiction) p (← mkLambdaFVars #[h] r))
  | none=>return none
def about (fs0:Array Fa):M (Array Fa):=do
 let mut fs:=fs0
 let mut gone:List Nat:=[]
 let add (pf:Expr) (fs:Array Fa):M (Array Fa):=do facts 5 (← instantiateMVars (← inferType pf)) pf fs
 let dec (p:Expr):MetaM Expr:=mkDecideProof p
 for rd in [0:3] do
  let used:=(fs.map fun f=>f.x.ats++f.y.ats).toList.flatten
  let ats:=(← get).atoms
  let n:=ats.size
  for i in [0:n] do
   if !used.contains i||gone.contains i then continue
   let (e,nat):=ats[i]!
   if rd==0&&e.isAppOfArity ``Int.toNat 1 then continue
   gone:=i::gone
   if nat&&e.isAppOfArity ``HSub.hSub 6 then
    fs ← add (← mkAppM ``Nat.sub_le #[e.getArg! 4,e.getArg! 5]) fs
    if let some pf ← Qi fs (← mkAppM ``LE.le #[e.getArg! 5,e.getArg! 4])then fs ← add (← mkAppM ``Nat.sub_add_cancel #[pf]) fs
   else if nat&&e.isAppOfArity ``Min.min 4 then
    fs ← add (← mkAppM ``Nat.min_le_left #[e.getArg! 2,e.getArg! 3]) fs
    fs ← add (← mkAppM ``Nat.min_le_right #[e.getArg! 2,e.getArg! 3]) fs
   else if nat&&e.isAppOfArity ``Max.max 4 then
    fs ← add (← mkAppM ``Nat.le_max_left #[e.getArg! 2,e.getArg! 3]) fs
    fs ← add (← mkAppM ``Nat.le_max_right #[e.getArg! 2,e.getArg! 3]) fs
   else if nat&&e.isAppOfArity ``Int.toNat 1 then
    let x:=e.getArg! 0
    fs ← add (← mkAppM ``Int.self_le_toNat #[x]) fs
    if let some pf ← Qi fs (← mkAppM ``LE.le #[toExpr (0:Int),x])then fs ← add (← mkAppM ``Int.toNat_of_nonneg #[pf]) fs
    else if let some pf ← Qi fs (← mkAppM ``LE.le #[x,toExpr (0:Int)])then fs ← add (← mkAppM ``Iff.mpr #[← mkAppOptM ``Int.toNat_eq_zero #[some x],pf]) fs
   else if e.isAppOfArity ``HMod.hMod 6||e.isAppOfArity ``HDiv.hDiv 6 then
    let x:=e.getArg! 4
    let k:=e.getArg! 5
    if let some z:=lit? k then
     if z>0 then
      if nat then
       fs ← add (← mkAppM ``Nat.div_add_mod #[x,k]) fs
       fs ← add (← mkAppM ``Nat.mod_lt #[x,← dec (← mkAppM ``LT.lt #[toExpr (0:Nat),k])]) fs
      else
       fs ← add (← mkAppM ``Int.mul_ediv_add_emod #[x,k]) fs
       fs ← add (← mkAppM ``Int.emod_lt_of_pos #[x,← dec (← mkAppM ``LT.lt #[toExpr (0:Int),k])]) fs
       fs ← add (← mkAppM ``Int.emod_nonneg #[x,← dec (← mkAppM ``Ne #[k,toExpr (0:Int)])]) fs
   else if e.isAppOfArity ``Int.fdiv 2||e.isAppOfArity ``Int.fmod 2 then
    let x:=e.getArg! 0
    let k:=e.getArg! 1
    if let some z:=lit? k then
     if z>0 then
      fs ← add (← mkAppM (if e.isAppOf ``Int.fdiv then ``Int.fdiv_eq_ediv_of_nonneg else ``Int.fmod_eq_emod_of_nonneg) #[x,← dec (← mkAppM ``LE.le #[toExpr (0:Int),k])]) fs
 return fs
def hyps:M (Array Fa):=do
 let mut fs:Array Fa:=#[]
 for d in (← getLCtx) do
  if d.isImplementationDetail then continue
  let ty ← instantiateMVars d.type
  if ty.hasMVar then continue
  fs ← facts 20 ty d.toExpr fs
 return fs
def deps:M (Array (List Nat)):=do
 let mut out:Array (List Nat):=#[]
 for i in [0:60] do
  let ats:=(← get).atoms
  if i≥ats.size then break
  let (e,nat):=ats[i]!
  let args:List (Bool×Expr):=
   if e.isAppOfArity ``Int.toNat 1 then[(false,e.getArg! 0)]
   else if e.isAppOfArity ``HSub.hSub 6||e.isAppOfArity ``HMod.hMod 6||e.isAppOfArity ``HDiv.hDiv 6 then[(nat,e.getArg! 4),(nat,e.getArg! 5)]
   else if e.isAppOfArity ``Min.min 4||e.isAppOfArity ``Max.max 4 then[(nat,e.getArg! 2),(nat,e.getArg! 3)]
   else if e.isAppOfArity ``Int.fdiv 2||e.isAppOfArity ``Int.fmod 2 then[(false,e.getArg! 0)]
   else[]
  let mut l:List Nat:=[]
  for (b,x) in args do l:=(← uv 200 b x).ats++l
  out:=out.push l
 return out
def near (dep:Array (List Nat))(fs:Array Fa)(n:Nat):Array Fa:=Id.run do
 let at_:=fs.map fun f=>let l:=f.x.ats++f.y.ats;l++(l.map fun i=>dep.getD i []).flatten
 let mut on:=(Array.range fs.size).map fun i=>decide (i<n)
 let mut seen:List Nat:=(at_.toList.take n).flatten
 for _ in [0:fs.size] do
  let mut ch:=false
  for i in [0:fs.size] do
   if !on[i]! && ((at_[i]!).any (seen.contains ·)||(at_[i]!).isEmpty) then
    on:=on.set! i true
    seen:=at_[i]! ++ seen
    ch:=true
  if !ch then break
 return ((Array.range fs.size).filter (on[·]!)).map (fs[·]!)
def disj (fuel:Nat)(ty pf:Expr)(acc:Array (Expr×Expr×Expr)):MetaM (Array (Expr×Expr×Expr)):=do
 match fuel with
 | 0=>return acc
 | fuel+1=>
 let ty:=ty.consumeMData
 if ty.isAppOfArity ``And 2 then
  let acc ← disj fuel (ty.getArg! 0) (mkApp3 (mkConst ``And.left) (ty.getArg! 0) (ty.getArg! 1) pf) acc
  return ← disj fuel (ty.getArg! 1) (mkApp3 (mkConst ``And.right) (ty.getArg! 0) (ty.getArg! 1) pf) acc
 if ty.isAppOfArity ``Or 2 then return acc.push (ty.getArg! 0,ty.getArg! 1,pf)
 let ne (e:Expr):MetaM (Array (Expr×Expr×Expr)):=do
  let t:=e.getArg! 0
  unless t.isConstOf ``Nat||t.isConstOf ``Int do return acc
  let x:=e.getArg! 1
  let y:=e.getArg! 2
  let pf:=if t.isConstOf ``Nat then mkApp3 (mkConst ``Nat.lt_or_gt_of_ne) x y pf else mkApp3 (mkConst ``Int.lt_or_gt_of_ne) x y pf
  return acc.push (← mkAppM ``LT.lt #[x,y],← mkAppM ``LT.lt #[y,x],pf)
 if ty.isAppOfArity ``Ne 3 then return ← ne ty
 if ty.isAppOfArity ``Not 1 then
  let p:=(ty.getArg! 0).consumeMData
  if p.isAppOfArity ``Eq 3 then return ← ne p
  if p.isAppOfArity ``Or 2 then return ← disj fuel (mkApp2 (mkConst ``And) (mkApp (mkConst ``Not) (p.getArg! 0)) (mkApp (mkConst ``Not) (p.getArg! 1))) (mkApp4 (mkConst ``Iff.mp) (mkApp (mkConst ``Not) p) (mkApp2 (mkConst ``And) (mkApp (mkConst ``Not) (p.getArg! 0)) (mkApp (mkConst ``Not) (p.getArg! 1))) (mkApp2 (mkConst ``not_or) (p.getArg! 0) (p.getArg! 1)) pf) acc
  if p.isAppOfArity ``And 2 then
   let a:=mkApp (mkConst ``Not) (p.getArg! 0)
   let b:=mkApp (mkConst ``Not) (p.getArg! 1)
   return acc.push (a,b,mkApp4 (mkConst ``Iff.mp) (mkApp (mkConst ``Not) p) (mkApp2 (mkConst ``Or) a b) (mkApp2 (mkConst ``Classical.not_and_iff_not_or_not) (p.getArg! 0) (p.getArg! 1)) pf)
 return acc
def KY (fuel:Nat)(top:Bool)(ex:List (Expr×Expr))(gone:List Expr):MetaM (Option Expr):=do
 match fuel with
 | 0=>return none
 | fuel+1=>
 let ((fs,ds),s) ← (do
  let mut f0:Array Fa:=#[]
  let mut ds:Array (Expr×Expr×Expr):=#[]
  for (t,p) in ex do
   f0 ← facts 20 t p f0
   ds ← disj 10 t p ds
  let exn:=ds.size
  let hs ← hyps
  let dp ← deps
  let fs:=if top then f0++hs.filter (fun f=>!ex.any (·.2==f.pf))else near dp (f0++hs.filter (fun f=>!ex.any (·.2==f.pf))) f0.size
  let seen:=(fs.map fun f=>f.x.ats++f.y.ats).toList.flatten
  let ats:=(← get).atoms
  for d in (← getLCtx) do
   if d.isImplementationDetail||ex.any (·.2==d.toExpr)then continue
   let ty ← instantiateMVars d.type
   if ty.hasMVar then continue
   for q in ← disj 10 ty d.toExpr #[] do
    let both:=mkApp2 (mkConst ``Or) q.1 q.2.1
    if top||exn>0||!both.hasFVar||seen.any fun i=>(both.find? (· == ats[i]!.1)).isSome then ds:=ds.push q
  return (← about fs,ds):M _).run {}
 if let some e ← refute fs s.atoms then return some e
 if fuel==0 then return none
 for (a,b,pf) in ds do
  if gone.contains pf then continue
  let one (p:Expr):MetaM (Option Expr):=withLocalDeclD `h p fun h=>do
   match ← KY fuel top ((p,h)::ex) (pf::gone) with
   | some e=>return some (← mkLambdaFVars #[h] e)
   | none=>return none
  let some l ← one a | return none
  let some r ← one b | return none
  return some (mkApp6 (mkConst ``Or.elim) a b (mkConst ``False) pf l r)
 return none
def zj (fuel:Nat)(goal:MVarId):MetaM Bool:=goal.withContext do
 match fuel with
 | 0=>return false
 | fuel+1=>
 let ty ← instantiateMVars (← goal.getType)
 let ty:=ty.consumeMData
 if ty.hasMVar then return false
 if ty.isAppOfArity ``And 2 then
  let x ← mkFreshExprSyntheticOpaqueMVar (ty.getArg! 0)
  let y ← mkFreshExprSyntheticOpaqueMVar (ty.getArg! 1)
  unless ← zj fuel x.mvarId! do return false
  unless ← zj fuel y.mvarId! do return false
  goal.assign (mkApp4 (mkConst ``And.intro) (ty.getArg! 0) (ty.getArg! 1) (← instantiateMVars x) (← instantiateMVars y))
  return true
 let num (t:Expr):Bool:=t.isConstOf ``Nat||t.isConstOf ``Int
 if ty.isConstOf ``False then
  match ← KY 5 true [] [] with
  | some e=>goal.assign e;return true
  | none=>return false
 let p? := if ty.isAppOfArity ``Not 1 then some (ty.getArg! 0)else if ty.isAppOfArity ``Ne 3&&num (ty.getArg! 0)then some (mkApp3 (mkConst ``Eq ty.getAppFn.constLevels!) (ty.getArg! 0) (ty.getArg! 1) (ty.getArg! 2))else none
 if let some p:=p? then
  let r ← withLocalDeclD `h p fun h=>do
   match ← KY 5 false [(p,h)] [] with
   | some e=>return some (← mkLambdaFVars #[h] e)
   | none=>return none
  match r with
  | some e=>goal.assign e;return true
  | none=>return false
 if ty.isAppOfArity ``Eq 3&&num (ty.getArg! 0) then
  let t:=ty.getArg! 0
  let x:=ty.getArg! 1
  let y:=ty.getArg! 2
  let a ← mkFreshExprSyntheticOpaqueMVar (← mkAppM ``LE.le #[x,y])
  let b ← mkFreshExprSyntheticOpaqueMVar (← mkAppM ``LE.le #[y,x])
  unless ← zj fuel a.mvarId! do return false
  unless ← zj fuel b.mvarId! do return false
  goal.assign (mkApp4 (mkConst (if t.isConstOf ``Nat then ``Nat.le_antisymm else ``Int.le_antisymm)) x y (← instantiateMVars a) (← instantiateMVars b))
  return true
 let rel:=(ty.isAppOfArity ``LE.le 4||ty.isAppOfArity ``LT.lt 4||ty.isAppOfArity ``GE.ge 4||ty.isAppOfArity ``GT.gt 4)&&num (ty.getArg! 0)
 if rel||ty.isAppOfArity ``Or 2 then
  let np:=mkApp (mkConst ``Not) ty
  let r ← withLocalDeclD `h np fun h=>do
   match ← KY 5 false [(np,h)] [] with
   | some e=>return some (mkApp2 (mkConst ``Classical.byContradiction) ty (← mkLambdaFVars #[h] e))
   | none=>return none
  match r with
  | some e=>goal.assign e;return true
  | none=>return false
 return false
open Lean.Elab.Tactic in
def om:TacticM Unit:=do
 let g ← getMainGoal
 let s ← saveState
 let ok ← try zj 10 g catch _=>pure false
 if ok then replaceMainGoal [] else
  s.restore
  Lean.Elab.Tactic.Omega.omegaTactic {}
end Mine.Lin
end
section
namespace Mine.Cse
open Lean Meta
structure S where
 opened:Std.HashMap Expr (FVarId×Expr):={}
 lctx:LocalContext
 root:FVarId
 bd:Std.HashMap FVarId Nat:={}
 home:Std.HashMap Expr (Option FVarId):={}
 idx:Std.HashMap Expr Nat:={}
 ex:Array Expr:=#[]
 kid:Array (Array (Nat×Option FVarId)):=#[]
 hm:Array (Option FVarId):=#[]
 prf:Std.HashMap Expr Bool:={}
 sel:Std.HashSet Expr:={}
 lets:Std.HashMap FVarId (Array (FVarId×Expr×Expr)):={}
 done:Std.HashMap Expr Expr:={}
abbrev M:=StateRefT S MetaM
def opn (e:Expr)(depth:Nat):M (FVarId×Expr):=do
 if let some r:=(← get).opened.get? e then return r
 let id ← mkFreshFVarId
 let (b,lctx) ← match e with
  | .lam n t b bi=>pure (b,(← get).lctx.mkLocalDecl id n t bi)
  | .forallE n t b bi=>pure (b,(← get).lctx.mkLocalDecl id n t bi)
  | .letE n t v b _=>pure (b,(← get).lctx.mkLetDecl id n t v)
  | _=>throwError "opn"
 let r:=(id,b.instantiate1 (.fvar id))
 modify fun s=>{s with opened:=s.opened.insert e r,lctx:=lctx,bd:=s.bd.insert id depth}
 return r
def later (a b:Option FVarId):M (Option FVarId):=do
 match a,b with
 | none,b=>return b
 | a,none=>return a
 | some x,some y=>
  let t:=(← get).bd
  return if t.getD x 0<t.getD y 0 then some y else some x
def ue (fuel:Nat)(e:Expr):M (Option FVarId):=do
 match fuel with
 | 0=>throwError "fuel"
 | fuel+1=>
 if !e.hasFVar then return none
 if let some r:=(← get).home.get? e then return r
 let r ← match e with
  | .fvar id=>do let s ← get;pure (some (if s.bd.contains id then id else s.root))
  | .app f a=>do later (← ue fuel f) (← ue fuel a)
  | .lam _ t b _ | .forallE _ t b _=>do later (← ue fuel t) (← ue fuel b)
  | .letE _ t v b _=>do later (← ue fuel t) (← later (← ue fuel v) (← ue fuel b))
  | .mdata _ b=>ue fuel b
  | .proj _ _ b=>ue fuel b
  | _=>pure none
 modify fun s=>{s with home:=s.home.insert e r}
 return r
def Jw:Expr→Bool
 | .fvar _ | .bvar _ | .const .. | .sort _ | .lit _ | .mvar _=>true
 | _=>false
def wB (fuel:Nat)(e:Expr)(depth:Nat):M Nat:=do
 match fuel with
 | 0=>throwError "fuel"
 | fuel+1=>
 if let some i:=(← get).idx.get? e then return i
 let mut ks:Array (Nat×Option FVarId):=#[]
 unless Jw e do
  match e with
  | .app f a=>
   ks:=ks.push (← wB fuel f depth,none)
   ks:=ks.push (← wB fuel a depth,none)
  | .lam _ t _ _ | .forallE _ t _ _=>
   let (x,b) ← opn e depth
   ks:=ks.push (← wB fuel t depth,none)
   ks:=ks.push (← wB fuel b (depth+1),some x)
  | .letE _ t v _ _=>
   let (x,b) ← opn e depth
   ks:=ks.push (← wB fuel t depth,none)
   ks:=ks.push (← wB fuel v depth,none)
   ks:=ks.push (← wB fuel b (depth+1),some x)
  | .mdata _ b=>ks:=ks.push (← wB fuel b depth,none)
  | .proj _ _ b=>ks:=ks.push (← wB fuel b depth,none)
  | _=>pure ()
 let h ← ue 100000 e
 modifyGet fun s=>(s.ex.size,{s with idx:=s.idx.insert e s.ex.size,ex:=s.ex.push e,kid:=s.kid.push ks,hm:=s.hm.push h})
def isPf (e:Expr):M Bool:=do
 if let some b:=(← get).prf.get? e then return b
 let b ← withLCtx (← get).lctx {} (do try isProof e catch _=>pure true)
 modify fun s=>{s with prf:=s.prf.insert e b}
 return b
def Qd (own:Array Nat)(thr:Nat)(proofs:Bool):M (Array Bool×Nat):=do
 let s ← get
 let n:=s.ex.size
 let mut keys:Array (List Nat):=Array.replicate n []
 let mut sel:=Array.replicate n false
 let mut sum:=0
 keys:=keys.set! (n-1) [1]
 for j in [0:n] do
  let i:=n-1-j
  let mut K:=keys[i]!
  if K.isEmpty then continue
  let e:=s.ex[i]!
  if Jw e then continue
  let h:=s.hm[i]!
  if K.length≥2&&h.isSome&&(K.length-1)*own[i]! ≥ thr then
   if proofs||!(← isPf e) then
    sel:=sel.set! i true
    K:=[1]
    sum:=sum+2
  sum:=sum+2*K.length
  let hd:=match h with | some x=>s.bd.getD x 0 | none=>0
  for (c,b) in s.kid[i]! do
   if Jw s.ex[c]! then continue
   match s.hm[c]! with
   | none=>if keys[c]!.isEmpty then keys:=keys.set! c [0]
   | some y=>
    if b==some y then
     unless keys[c]!.contains 1 do keys:=keys.modify c (fun l=>1::l)
    else
     let yd:=s.bd.getD y 0
     for k in K do
      let k':=k+hd+(if b.isSome then 1 else 0)-yd
      unless keys[c]!.contains k' do keys:=keys.modify c (fun l=>k'::l)
 return (sel,sum)
def owns (sel:Array Bool):M (Array Nat):=do
 let s ← get
 let n:=s.ex.size
 let mut own:Array Nat:=Array.replicate n 0
 for i in [0:n] do
  if Jw s.ex[i]! || s.hm[i]!.isNone then continue
  let mut w:=1
  for (c,_) in s.kid[i]! do
   unless sel[c]! do w:=w+own[c]!
  own:=own.set! i (min w 50)
 return own
def close (x:FVarId)(b:Expr):M Expr:=do
 let ls:=(← get).lets.getD x #[]
 let mut r:=b
 for (y,t,v) in ls.reverse do
  r:=.letE `y t v (r.abstract #[.fvar y]) false
 return r
def qa (fuel:Nat)(e:Expr):M Expr:=do
 match fuel with
 | 0=>throwError "fuel"
 | fuel+1=>
 if Jw e then return e
 if let some r:=(← get).done.get? e then return r
 let plain:M Expr:=do
  match e with
  | .app f a=>return .app (← qa fuel f) (← qa fuel a)
  | .mdata _ b=>qa fuel b
  | .proj n i b=>return .proj n i (← qa fuel b)
  | .lam n t _ bi=>do
   let (x,b) ← opn e 0
   let t' ← qa fuel t
   let b'' ← close x (← qa fuel b)
   return .lam n t' (b''.abstract #[.fvar x]) bi
  | .forallE n t _ bi=>do
   let (x,b) ← opn e 0
   let t' ← qa fuel t
   let b'' ← close x (← qa fuel b)
   return .forallE n t' (b''.abstract #[.fvar x]) bi
  | .letE n t v _ nd=>do
   let (x,b) ← opn e 0
   let t' ← qa fuel t
   let v' ← qa fuel v
   let b'' ← close x (← qa fuel b)
   return .letE n t' v' (b''.abstract #[.fvar x]) nd
  | e=>return e
 let r ← if (← get).sel.contains e then do
   match ← ue 100000 e with
   | none=>plain
   | some x=>do
    let ty ← withLCtx (← get).lctx {} (inferType e)
    let ty' ← qa fuel ty
    let v ← plain
    let y ← mkFreshFVarId
    modify fun s=>{s with lets:=s.lets.insert x ((s.lets.getD x #[]).push (y,ty',v))}
    pure (.fvar y)
  else plain
 modify fun s=>{s with done:=s.done.insert e r}
 return r
def cse (e:Expr)(proofs:Bool)(thrs:List (Nat×Nat)):MetaM Expr:=do
 let go:M Expr:=do
  let _ ← wB 100000 e 1
  let n:=(← get).ex.size
  let own0 ← owns (Array.replicate n false)
  let mut best:Array Bool:=#[]
  let mut bsum:=0
  for (t1,t2) in thrs do
   let (s1,_) ← Qd own0 t1 proofs
   let own1 ← owns s1
   let (s2,_) ← Qd own1 t2 proofs
   let own2 ← owns s2
   let (s3,m3) ← Qd own2 t2 proofs
   if bsum==0||m3<bsum then
    best:=s3
    bsum:=m3
  let mut sel:Std.HashSet Expr:={}
  for i in [0:n] do
   if best[i]! then sel:=sel.insert (← get).ex[i]!
  modify fun s=>{s with sel:=sel}
  let r ← qa 100000 e
  close (← get).root r
 let root ← mkFreshFVarId
 go.run' {lctx:=← getLCtx,root:=root,bd:=({}:Std.HashMap FVarId Nat).insert root 0}
open Lean.Elab.Tactic in
def a:TacticM Unit:=do
 let g ← getMainGoal
 g.withContext do
  let i ← mkFreshExprSyntheticOpaqueMVar (← g.getType)
  g.setUserName (`outerC++i.mvarId!.name)
  setGoals [i.mvarId!]
open Lean.Elab.Tactic in
def z:TacticM Unit:=do
 unless (← getGoals).isEmpty do throwError "goals are left"
 let mut found:Array (MVarId×MVarId):=#[]
 for (g,d) in (← getMCtx).decls.toList do
  if d.userName.getRoot == `outerC&&!(← g.isAssigned) then
   found:=found.push (g,⟨d.userName.replacePrefix `outerC .anonymous⟩)
 for (g,i) in found do
  g.withContext do
   let e ← instantiateMVars (mkMVar i)
   if e.hasExprMVar then g.assign e else g.assign (← cse e false [(3,2)])
end Mine.Cse
end
section
namespace Mine.Opt
open Lean Meta
theorem rwt.{u}{α:Sort u}{a b:α}(f:α→Prop)(h:a=b)(e:f b):f a:=h▸e
theorem rwp.{u}{α:Sort u}{a b:α}(f:α→Prop)(h:a=b)(e:f a):f b:=h▸e
theorem exI2.{u0,u1}{α0:Sort u0}{α1:Sort u1}{p:α0→α1→Prop}(x0:α0)(x1:α1)(h:p x0 x1):∃x0 x1,p x0 x1:=⟨x0,x1,h⟩
theorem exE2.{u0,u1}{α0:Sort u0}{α1:Sort u1}{p:α0→α1→Prop}{G:Prop}(e:∃x0 x1,p x0 x1)(f:∀x0 x1,p x0 x1→G):G:=let ⟨x0,x1,h⟩:=e;f x0 x1 h
theorem exI3.{u0,u1,u2}{α0:Sort u0}{α1:Sort u1}{α2:Sort u2}{p:α0→α1→α2→Prop}(x0:α0)(x1:α1)(x2:α2)(h:p x0 x1 x2):∃x0 x1 x2,p x0 x1 x2:=⟨x0,x1,x2,h⟩
theorem exE3.{u0,u1,u2}{α0:Sort u0}{α1:Sort u1}{α2:Sort u2}{p:α0→α1→α2→Prop}{G:Prop}(e:∃x0 x1 x2,p x0 x1 x2)(f:∀x0 x1 x2,p x0 x1 x2→G):G:=let ⟨x0,x1,x2,h⟩:=e;f x0 x1 x2 h
theorem exI4.{u0,u1,u2,u3}{α0:Sort u0}{α1:Sort u1}{α2:Sort u2}{α3:Sort u3}{p:α0→α1→α2→α3→Prop}(x0:α0)(x1:α1)(x2:α2)(x3:α3)(h:p x0 x1 x2 x3):∃x0 x1 x2 x3,p x0 x1 x2 x3:=⟨x0,x1,x2,x3,h⟩
theorem exE4.{u0,u1,u2,u3}{α0:Sort u0}{α1:Sort u1}{α2:Sort u2}{α3:Sort u3}{p:α0→α1→α2→α3→Prop}{G:Prop}(e:∃x0 x1 x2 x3,p x0 x1 x2 x3)(f:∀x0 x1 x2 x3,p x0 x1 x2 x3→G):G:=let ⟨x0,x1,x2,x3,h⟩:=e;f x0 x1 x2 x3 h
theorem exI5.{u0,u1,u2,u3,u4}{α0:Sort u0}{α1:Sort u1}{α2:Sort u2}{α3:Sort u3}{α4:Sort u4}{p:α0→α1→α2→α3→α4→Prop}(x0:α0)(x1:α1)(x2:α2)(x3:α3)(x4:α4)(h:p x0 x1 x2 x3 x4):∃x0 x1 x2 x3 x4,p x0 x1 x2 x3 x4:=⟨x0,x1,x2,x3,x4,h⟩
theorem exE5.{u0,u1,u2,u3,u4}{α0:Sort u0}{α1:Sort u1}{α2:Sort u2}{α3:Sort u3}{α4:Sort u4}{p:α0→α1→α2→α3→α4→Prop}{G:Prop}(e:∃x0 x1 x2 x3 x4,p x0 x1 x2 x3 x4)(f:∀x0 x1 x2 x3 x4,p x0 x1 x2 x3 x4→G):G:=let ⟨x0,x1,x2,x3,x4,h⟩:=e;f x0 x1 x2 x3 x4 h
theorem exI6.{u0,u1,u2,u3,u4,u5}{α0:Sort u0}{α1:Sort u1}{α2:Sort u2}{α3:Sort u3}{α4:Sort u4}{α5:Sort u5}{p:α0→α1→α2→α3→α4→α5→Prop}(x0:α0)(x1:α1)(x2:α2)(x3:α3)(x4:α4)(x5:α5)(h:p x0 x1 x2 x3 x4 x5):∃x0 x1 x2 x3 x4 x5,p x0 x1 x2 x3 x4 x5:=⟨x0,x1,x2,x3,x4,x5,h⟩
theorem exE6.{u0,u1,u2,u3,u4,u5}{α0:Sort u0}{α1:Sort u1}{α2:Sort u2}{α3:Sort u3}{α4:Sort u4}{α5:Sort u5}{p:α0→α1→α2→α3→α4→α5→Prop}{G:Prop}(e:∃x0 x1 x2 x3 x4 x5,p x0 x1 x2 x3 x4 x5)(f:∀x0 x1 x2 x3 x4 x5,p x0 x1 x2 x3 x4 x5→G):G:=let ⟨x0,x1,x2,x3,x4,x5,h⟩:=e;f x0 x1 x2 x3 x4 x5 h
theorem exI7.{u0,u1,u2,u3,u4,u5,u6}{α0:Sort u0}{α1:Sort u1}{α2:Sort u2}{α3:Sort u3}{α4:Sort u4}{α5:Sort u5}{α6:Sort u6}{p:α0→α1→α2→α3→α4→α5→α6→Prop}(x0:α0)(x1:α1)(x2:α2)(x3:α3)(x4:α4)(x5:α5)(x6:α6)(h:p x0 x1 x2 x3 x4 x5 x6):∃x0 x1 x2 x3 x4 x5 x6,p x0 x1 x2 x3 x4 x5 x6:=⟨x0,x1,x2,x3,x4,x5,x6,h⟩
theorem exE7.{u0,u1,u2,u3,u4,u5,u6}{α0:Sort u0}{α1:Sort u1}{α2:Sort u2}{α3:Sort u3}{α4:Sort u4}{α5:Sort u5}{α6:Sort u6}{p:α0→α1→α2→α3→α4→α5→α6→Prop}{G:Prop}(e:∃x0 x1 x2 x3 x4 x5 x6,p x0 x1 x2 x3 x4 x5 x6)(f:∀x0 x1 x2 x3 x4 x5 x6,p x0 x1 x2 x3 x4 x5 x6→G):G:=let ⟨x0,x1,x2,x3,x4,x5,x6,h⟩:=e;f x0 x1 x2 x3 x4 x5 x6 h
theorem exI8.{u0,u1,u2,u3,u4,u5,u6,u7}{α0:Sort u0}{α1:Sort u1}{α2:Sort u2}{α3:Sort u3}{α4:Sort u4}{α5:Sort u5}{α6:Sort u6}{α7:Sort u7}{p:α0→α1→α2→α3→α4→α5→α6→α7→Prop}(x0:α0)(x1:α1)(x2:α2)(x3:α3)(x4:α4)(x5:α5)(x6:α6)(x7:α7)(h:p x0 x1 x2 x3 x4 x5 x6 x7):∃x0 x1 x2 x3 x4 x5 x6 x7,p x0 x1 x2 x3 x4 x5 x6 x7:=⟨x0,x1,x2,x3,x4,x5,x6,x7,h⟩
theorem exE8.{u0,u1,u2,u3,u4,u5,u6,u7}{α0:Sort u0}{α1:Sort u1}{α2:Sort u2}{α3:Sort u3}{α4:Sort u4}{α5:Sort u5}{α6:Sort u6}{α7:Sort u7}{p:α0→α1→α2→α3→α4→α5→α6→α7→Prop}{G:Prop}(e:∃x0 x1 x2 x3 x4 x5 x6 x7,p x0 x1 x2 x3 x4 x5 x6 x7)(f:∀x0 x1 x2 x3 x4 x5 x6 x7,p x0 x1 x2 x3 x4 x5 x6 x7→G):G:=let ⟨x0,x1,x2,x3,x4,x5,x6,x7,h⟩:=e;f x0 x1 x2 x3 x4 x5 x6 x7 h
theorem anI3 {p0 p1 p2:Prop}(h0:p0)(h1:p1)(h2:p2):p0∧p1∧p2:=⟨h0,h1,h2⟩
theorem anI4 {p0 p1 p2 p3:Prop}(h0:p0)(h1:p1)(h2:p2)(h3:p3):p0∧p1∧p2∧p3:=⟨h0,h1,h2,h3⟩
theorem anI5 {p0 p1 p2 p3 p4:Prop}(h0:p0)(h1:p1)(h2:p2)(h3:p3)(h4:p4):p0∧p1∧p2∧p3∧p4:=⟨h0,h1,h2,h3,h4⟩
theorem anI6 {p0 p1 p2 p3 p4 p5:Prop}(h0:p0)(h1:p1)(h2:p2)(h3:p3)(h4:p4)(h5:p5):p0∧p1∧p2∧p3∧p4∧p5:=⟨h0,h1,h2,h3,h4,h5⟩
theorem anI7 {p0 p1 p2 p3 p4 p5 p6:Prop}(h0:p0)(h1:p1)(h2:p2)(h3:p3)(h4:p4)(h5:p5)(h6:p6):p0∧p1∧p2∧p3∧p4∧p5∧p6:=⟨h0,h1,h2,h3,h4,h5,h6⟩
theorem anI8 {p0 p1 p2 p3 p4 p5 p6 p7:Prop}(h0:p0)(h1:p1)(h2:p2)(h3:p3)(h4:p4)(h5:p5)(h6:p6)(h7:p7):p0∧p1∧p2∧p3∧p4∧p5∧p6∧p7:=⟨h0,h1,h2,h3,h4,h5,h6,h7⟩
theorem anI9 {p0 p1 p2 p3 p4 p5 p6 p7 p8:Prop}(h0:p0)(h1:p1)(h2:p2)(h3:p3)(h4:p4)(h5:p5)(h6:p6)(h7:p7)(h8:p8):p0∧p1∧p2∧p3∧p4∧p5∧p6∧p7∧p8:=⟨h0,h1,h2,h3,h4,h5,h6,h7,h8⟩
theorem rwt2.{u,v}{α:Sort u}{β:Sort v}{a b:α}{c d:β}(f:α→β→Prop)(h:a=b)(k:c=d)(e:f b d):f a c:=by subst h;subst k;exact e
theorem rwp2.{u,v}{α:Sort u}{β:Sort v}{a b:α}{c d:β}(f:α→β→Prop)(h:a=b)(k:c=d)(e:f a c):f b d:=by subst h;subst k;exact e
structure S where
 done:Std.HashMap Expr Expr:={}
 opened:Std.HashMap Expr (FVarId×Expr):={}
 prf:Std.HashMap Expr Bool:={}
 lctx:LocalContext
abbrev M:=StateRefT S MetaM
def opn (e:Expr):M (FVarId×Expr):=do
 if let some r:=(← get).opened.get? e then return r
 let id ← mkFreshFVarId
 let (b,lctx) ← match e with
  | .lam n t b bi=>pure (b,(← get).lctx.mkLocalDecl id n t bi)
  | .letE n t v b _=>pure (b,(← get).lctx.mkLetDecl id n t v)
  | _=>throwError "opn"
 let r:=(id,b.instantiate1 (.fvar id))
 modify fun s=>{s with opened:=s.opened.insert e r,lctx:=lctx}
 return r
def isPf (e:Expr):M Bool:=do
 if let some b:=(← get).prf.get? e then return b
 let b ← withLCtx (← get).lctx {} (do try isProof e catch _=>pure false)
 modify fun s=>{s with prf:=s.prf.insert e b}
 return b
def typeOf (e:Expr):M Expr:=do
 withLCtx (← get).lctx {} (inferType e)
def small:Expr→Bool
 | .fvar _ | .bvar _ | .const .. | .sort _ | .lit _=>true
 | .proj _ _ b=>small b
 | .mdata _ b=>small b
 | _=>false
def uses (fuel:Nat)(e:Expr)(k:Nat)(acc:Nat):Nat:=
 match fuel with
 | 0=>2
 | fuel+1=>
 if acc≥2 then 2 else if e.looseBVarRange≤k then acc else
 match e with
 | .bvar i=>if i==k then acc+1 else acc
 | .app f a=>uses fuel a k (uses fuel f k acc)
 | .lam _ t b _ | .forallE _ t b _=>uses fuel b (k+1) (uses fuel t k acc)
 | .letE _ t v b _=>uses fuel b (k+1) (uses fuel v k (uses fuel t k acc))
 | .mdata _ b=>uses fuel b k acc
 | .proj _ _ b=>uses fuel b k acc
 | _=>acc
def same (a b:Expr):M Bool:=do
 if a==b then return true
 if a.approxDepth>200||b.approxDepth>200 then return false
 withLCtx (← get).lctx {} do
  tryCatchRuntimeEx
   (withTheReader Core.Context (fun c=>{c with maxHeartbeats:=2000*1000,initHeartbeats:=0}) do
    Core.withCurrHeartbeats (withNewMCtxDepth (isDefEq a b)))
   (fun _=>pure false)
def eqHeads:List Name:=[``congrArg,``congrFun,``congrFun',``congr,``Eq.trans,``Eq.symm,``Eq.mpr,``Eq.mp,``if_pos,``if_neg,``funext,``ite_congr,``of_eq_true,``eq_self,``Eq.ndrec,``Eq.rec,``eq_of_heq]
def peel:Expr→Expr
 | .mdata _ b=>peel b
 | e=>if e.isAppOfArity ``id 2 then match e with | .app _ a=>(match a with | .mdata _ b=>b | a=>if a.isAppOfArity ``id 2 then a.appArg! else a) | e=>e else e
def KA (n:Nat)(e:Expr):Expr:=match n with | 0=>e | n+1=>KA n (peel e)
def one (e:Expr):M (Option Expr):=do
 let f:=e.getAppFn
 let as:=e.getAppArgs
 match f with
 | .mdata _ b=>return some (mkAppN b as)
 | .lam .. =>
  if as.size>0 then
   if let .lam _ _ b _:=f then
    let a:=as[0]!
    if small a||uses 100000 b 0 0≤1 then
     return some (mkAppN (b.instantiate1 a) (as.extract 1 as.size))
  return none
 | .const c us=>
  if c == ``id&&as.size≥2 then return some (mkAppN as[1]! (as.extract 2 as.size))
  if c == ``And.left&&as.size==3 then return some (.proj ``And 0 as[2]!)
  if c == ``And.right&&as.size==3 then return some (.proj ``And 1 as[2]!)
  if (c == ``And.casesOn||c == ``And.rec)&&as.size≥5 then
   let (h,m):=if c == ``And.casesOn then(as[3]!,as[4]!) else(as[4]!,as[3]!)
   let rest:=as.extract 5 as.size
   let mk (z:Expr) (m:Expr):=mkAppN m (#[Expr.proj ``And 0 z,Expr.proj ``And 1 z])
   if small h then return some (mkAppN ((mk h m).headBeta) rest)
   else if rest.isEmpty then
    return some (.letE `z (mkApp2 (.const ``And []) as[0]! as[1]!) h ((mk (.bvar 0) (m.liftLooseBVars 0 1)).headBeta) true)
   else return none
  if (c == ``Exists.casesOn)&&as.size==5 then
   if let .lam _ _ g _:=as[2]! then
    if !g.hasLooseBVars then
     return some (mkAppN (.const ``Exists.elim us) #[as[0]!,as[1]!,g,as[3]!,as[4]!])
   return none
  if c == ``Or.casesOn&&as.size==6 then
   if let .lam _ _ g _:=as[2]! then
    if !g.hasLooseBVars then
     return some (mkAppN (.const ``Or.elim []) #[as[0]!,as[1]!,g,as[3]!,as[4]!,as[5]!])
   return none
  if c == ``Eq.casesOn&&as.size≥6 then
   if let .lam n t (.lam _ _ T _) bi:=as[2]! then
    unless T.hasLooseBVar 0 do
     return some (mkAppN (.const ``Eq.ndrec us) (#[as[0]!,as[1]!,.lam n t (T.lowerLooseBVars 1 1) bi,as[5]!,as[3]!,as[4]!]++as.extract 6 as.size))
   return none
  if c == ``Eq.rec&&as.size≥6 then
   if let .lam n t (.lam _ _ T _) bi:=as[2]! then
    unless T.hasLooseBVar 0 do
     return some (mkAppN (.const ``Eq.ndrec us) (#[as[0]!,as[1]!,.lam n t (T.lowerLooseBVars 1 1) bi,as[3]!,as[4]!,as[5]!]++as.extract 6 as.size))
   return none
  if let some info ← getProjectionFnInfo? c then
   if !info.fromClass&&as.size≥info.numParams+1 then
    let s:=as[info.numParams]!
    return some (mkAppN (.proj info.ctorName.getPrefix info.i s) (as.extract (info.numParams+1) as.size))
  if ← isMatcher c then
   let some ci:=(← getEnv).find? c | return none
   let some v:=ci.value? | return none
   return some ((mkAppN (v.instantiateLevelParams ci.levelParams us) as).headBeta)
  if let .str p "casesOn" := c then
   if p != ``And&&p != ``Exists&&p != ``PSigma&&p != ``Eq&&p != ``HEq then
    if let some (.inductInfo ii):=(← getEnv).find? p then
     if ii.ctors.length==1&&ii.numIndices==0&&!ii.isRec&&!ii.isNested then
      let np:=ii.numParams
      if as.size≥np+3 then
       let some (.ctorInfo ci):=(← getEnv).find? ii.ctors.head! | return none
       let h:=as[np+1]!
       let m:=as[np+2]!
       let rest:=as.extract (np+3) as.size
       let isP ← withLCtx (← get).lctx {} (do isProp (← inferType h))
       if isP then
        let ls:=if us.length==ci.levelParams.length then us else us.tail
        let ok ← withLCtx (← get).lctx {} (do
         let ty ← inferType (mkAppN (.const ci.name ls) (as.extract 0 np))
         forallTelescope ty fun xs _=>xs.allM fun x=>do isProof x)
        unless ok do return none
       let mk (z:Expr) (m:Expr):=mkAppN m ((List.range ci.numFields).map fun i=>Expr.proj p i z).toArray
       if small h then return some (mkAppN ((mk h m).headBeta) rest)
       return none
   return none
  return none
 | _=>return none
def prune (as:Array Expr):M (Option (Array Expr)):=do
 let .lam bn bt T0 bbi:=as[2]! | return none
 let x ← mkFreshFVarId
 let mut T:=T0.instantiate1 (.fvar x)
 let mut m:=as[3]!
 let mut gone:=false
 let mut ts:Array (Name×Expr×FVarId):=#[]
 let mut ms:Array (Name×Expr×FVarId):=#[]
 let mut rest:Array Expr:=#[]
 for a in as.extract 6 as.size do
  let .forallE _ t1 t2 _:=T | return none
  let .lam n m1 m2 _:=m | return none
  if !t2.hasLooseBVar 0&&!m2.hasLooseBVar 0 then
   T:=t2.lowerLooseBVars 1 1
   m:=m2.lowerLooseBVars 1 1
   gone:=true
  else if small a&&!(t1.containsFVar x)&&!(ts.any fun(_,_,y)=>t1.containsFVar y) then
   T:=t2.instantiate1 a
   m:=m2.instantiate1 a
   gone:=true
  else
   let y ← mkFreshFVarId
   let z ← mkFreshFVarId
   ts:=ts.push (n,t1,y)
   ms:=ms.push (n,m1,z)
   T:=t2.instantiate1 (.fvar y)
   m:=m2.instantiate1 (.fvar z)
   rest:=rest.push a
 if !gone then return none
 for (n,t,y) in ts.reverse do T:=.forallE n t (T.abstract #[.fvar y]) .default
 for (n,t,z) in ms.reverse do m:=.lam n t (m.abstract #[.fvar z]) .default
 return some (#[as[0]!,as[1]!,.lam bn bt (T.abstract #[.fvar x]) bbi,m,as[4]!,as[5]!]++rest)
def wC (fuel:Nat)(t1 t2 b c:Expr)(k:Nat):Option Expr:=
 match fuel with
 | 0=>none
 | fuel+1=>
 let f1:=t1.hasLooseBVar k
 let f2:=t2.hasLooseBVar k
 if !f1&&!f2 then
  if t1==t2 then some (t1.liftLooseBVars k 1)else none
 else if t1 == .bvar k then
  if !f2&&t2==b.liftLooseBVars 0 (k+1)then some (.bvar (k+1))else none
 else if t2 == .bvar k then
  if !f1&&t1==c.liftLooseBVars 0 (k+1)then some (.bvar k)else none
 else match t1,t2 with
  | .app f a,.app f' a'=>do return .app (← wC fuel f f' b c k) (← wC fuel a a' b c k)
  | .lam n t v i,.lam _ t' v' _=>do return .lam n (← wC fuel t t' b c k) (← wC fuel v v' b c (k+1)) i
  | .forallE n t v i,.forallE _ t' v' _=>do return .forallE n (← wC fuel t t' b c k) (← wC fuel v v' b c (k+1)) i
  | .mdata _ x,y=>wC fuel x y b c k
  | x,.mdata _ y=>wC fuel x y b c k
  | .proj n i x,.proj _ j y=>if i==j then do return .proj n i (← wC fuel x y b c k)else none
  | _,_=>none
def parts (n:Nat)(e:Expr):List (Expr×Expr)×Expr×Expr:=match n with
 | 0=>([],e,e)
 | n+1=>
  let A:=e.getAppArgs
  let b:=KA 4 A[3]!
  if b.isAppOfArity ``And.intro 4&&n>0 then
   let (l,B,r):=parts n b
   ((A[0]!,A[2]!)::l,B,r)
  else([(A[0]!,A[2]!)],A[1]!,A[3]!)
def famI (n:Nat):Name:=(`Mine.Opt).str s!"exI{n}"
def famE (n:Nat):Name:=(`Mine.Opt).str s!"exE{n}"
def chain (n:Nat)(p:Expr):List (Level×Expr)×Expr:=match n with
 | 0=>([],p)
 | n+1=>match p with
  | .lam _ t b _=>
   match b.getAppFn,b.getAppNumArgs with
   | .const ``Exists [u],2=>
    let α:=b.appFn!.appArg!
    let q:=b.appArg!
    if α.hasLooseBVars||!q.isLambda then([],p) else
    let (l,P):=chain n q
    ((u,α)::l,.lam `x t P .default)
   | _,_=>([],p)
  | _=>([],p)
def wits (n:Nat)(h:Expr):List Expr×Expr:=match n with
 | 0=>([],h)
 | n+1=>
  let h':=KA 4 h
  if h'.isAppOfArity ``Exists.intro 4 then
   let (l,r):=wits n h'.appArg!
   (h'.appFn!.appArg! :: l,r)
  else([],h)
def famOf (c:Name):Nat:=match c with | .str _ s=>if s.startsWith "exE" && s.length==4 then(s.toList.getLast!.toNat-48)else 0 | _=>0
def after (e:Expr):M Expr:=do
 let f:=e.getAppFn
 let .const c us:=f | return e
 let as:=e.getAppArgs
 if c == ``Eq.ndrec&&as.size≥6 then
  let mut as:=as
  for _ in [0:4] do
   match ← prune as with
   | some bs=>as:=bs
   | none=>break
  if let .lam _ _ T _:=as[2]! then
   if !T.hasLooseBVar 0&&as.size==6 then return as[3]!
  return mkAppN f as
 if (c == ``rwt||c == ``rwp)&&as.size==6 then
  let e1:=as[5]!
  if e1.isAppOfArity c 6 then
   let bs:=e1.getAppArgs
   if let .lam _ t1 B1 _:=as[3]! then
    if let .lam _ t2 B2 _:=bs[3]! then
     let near:=if c == ``rwt then(as[2]!,bs[1]!) else(as[1]!,bs[2]!)
     if let some r:=wC 100000 B1 B2 near.1 near.2 0 then
      let us2:=e1.getAppFn.constLevels!
      return mkAppN (.const (if c == ``rwt then ``rwt2 else ``rwp2) [us.head!,us2.head!]) #[as[0]!,bs[0]!,as[1]!,as[2]!,bs[1]!,bs[2]!,.lam `x t1 (.lam `y (t2.liftLooseBVars 0 1) r .default) .default,as[4]!,bs[4]!,bs[5]!]
  return e
 if c == ``Exists.elim&&as.size==5 then
  if let .lam n t (.lam hn ht b bi) bi':=as[4]! then
   let .const c2 _:=b.getAppFn | return e
   let bs:=b.getAppArgs
   let k:=if c2 == ``Exists.elim&&bs.size==5 then 1 else famOf c2
   if k==0||k≥8||bs.size != 2*1+k+2-1+1 then return e
   let G2:=bs[k+1]!
   let h2:=bs[k+2]!
   let f2:=bs[k+3]!
   if h2 != .bvar 0||f2.hasLooseBVar 0||G2.hasLooseBVar 0||G2.hasLooseBVar 1 then return e
   if G2.lowerLooseBVars 2 2 != as[2]! then return e
   let (l,P):=chain k as[1]!
   if l.length != k then return e
   let sorts:=l.map (·.2)
   let _:=(n,t,hn,ht,bi,bi')
   return mkAppN (.const (famE (k+1)) (us++l.map (·.1))) (#[as[0]!]++sorts.toArray ++ #[P,as[2]!,as[3]!,.lam n t (f2.lowerLooseBVars 1 1) bi'])
  return e
 return e
mutual
def opt (fuel:Nat)(e:Expr):M Expr:=do
 match fuel with
 | 0=>return e
 | fuel+1=>
 match e with
 | .fvar _ | .bvar _ | .const .. | .sort _ | .lit _ | .mvar _=>return e
 | _=>
 if let some r:=(← get).done.get? e then return r
 let r ← plain fuel e
 modify fun s=>{s with done:=s.done.insert e r}
 return r
def plain (fuel:Nat)(e:Expr):M Expr:=do
 match fuel with
 | 0=>return e
 | fuel+1=>
 match e with
 | .mdata _ b=>opt fuel b
 | .proj n i b=>return .proj n i (← opt fuel b)
 | .lam n t b bi=>do
  if let .app f (.bvar 0):=b then
   if !f.hasLooseBVar 0 then return ← opt fuel (f.lowerLooseBVars 1 1)
  let (x,b) ← opn e
  let b' ← opt fuel b
  if let .app f (.fvar y):=b' then
   if y==x&&!f.containsFVar x then return f
  return .lam n t (b'.abstract #[.fvar x]) bi
 | .letE n t v b nd=>do
  if small v||uses 100000 b 0 0≤1 then return ← opt fuel (b.instantiate1 v)
  let (x,b) ← opn e
  let v' ← if ← isPf v then opt fuel v else pure v
  let b' ← opt fuel b
  if !b'.containsFVar x then return b'
  return .letE n t v' (b'.abstract #[.fvar x]) nd
 | .app .. => do
  if let some e' ← one e then return ← opt fuel e'
  let f:=e.getAppFn
  let as:=e.getAppArgs
  if let .lam n t b _:=f then
   if as.size==1&&(← isPf as[0]!) then
    return ← opt fuel (.letE n t as[0]! b true)
  if let .const c _:=f then
   if eqHeads.contains c then
    let ty ← typeOf e
    let ty:=ty.consumeMData
    if let some (α,a,b):=ty.eq? then
     if c == ``congrArg||c == ``congrFun||c == ``congr||c == ``Eq.trans||c == ``Eq.symm||true then
      if ← same a b then
       let .const _ us:=ty.getAppFn | return e
       return mkApp2 (.const ``Eq.refl us) α a
    if (c == ``Eq.mpr||c == ``Eq.mp)&&as.size==4 then
     if ← same as[0]! as[1]! then return ← opt fuel as[3]!
     let h:=KA 4 as[2]!
     if h.isAppOfArity ``propext 3 then
      let h:=h.getAppArgs
      if c == ``Eq.mpr then return ← opt fuel (mkAppN (.const ``Iff.mpr []) #[h[0]!,h[1]!,h[2]!,as[3]!])
      else return ← opt fuel (mkAppN (.const ``Iff.mp []) #[h[0]!,h[1]!,h[2]!,as[3]!])
     let (h,turn):=if h.isAppOfArity ``Eq.symm 4 then(KA 4 h.appArg!,true) else(h,false)
     if h.isAppOfArity ``congrArg 6 then
      let .const _ us:=h.getAppFn | return e
      let x:=h.getAppArgs
      let up:=(c == ``Eq.mpr) != turn
      let r:=mkAppN (.const (if up then ``rwt else ``rwp) [us.head!]) #[x[0]!,x[2]!,x[3]!,x[4]!,x[5]!,as[3]!]
      return ← opt fuel r
  if e.isAppOfArity ``And.intro 4 then
   let (l,B,r):=parts 8 e
   if l.length≥2 then
    let mut ps:=#[]
    for (_,x) in l do ps:=ps.push (← opt fuel x)
    ps:=ps.push (← opt fuel r)
    return mkAppN (.const ((`Mine.Opt).str s!"anI{l.length + 1}") []) ((l.map (·.1)).toArray ++ #[B]++ps)
  if e.isAppOfArity ``Exists.intro 4 then
   let .const _ us:=f | return e
   let (l,P):=chain 7 as[1]!
   let (ws,h):=wits l.length as[3]!
   if ws.length>0 then
    let k:=ws.length
    let (l,P):=if k==l.length then(l,P)else chain k as[1]!
    let h' ← opt fuel h
    let ws:=as[2]! :: ws
    return mkAppN (.const (famI (k+1)) (us++l.map (·.1))) (#[as[0]!]++(l.map (·.2)).toArray ++ #[P]++ws.toArray ++ #[h'])
  let mut r:=f
  r ← match f with
   | .const .. | .fvar _=>pure f
   | f=>opt fuel f
  for a in as do
   let a' ← if a.isFVar||a.isConst||a.isSort then pure a else if ← isPf a then opt fuel a else pure a
   r:=.app r a'
  after r
 | e=>return e
end
def run (e:Expr):MetaM Expr:=do
 (opt 100000 e).run' {lctx:=← getLCtx}
end Mine.Opt
end
section
namespace Mine.Gc
open Lean Meta Elab Tactic
def nrm (fuel:Nat)(e:Expr):StateM (Std.HashMap Expr Expr) Expr:=do
 match fuel with
 | 0=>return e
 | fuel+1=>
 match e with
 | .app .. | .lam .. | .forallE .. | .letE .. | .mdata .. | .proj .. =>
  if let some r:=(← get).get? e then return r
  let r ← match e with
   | .app f a=>do pure (Expr.app (← nrm fuel f) (← nrm fuel a))
   | .lam _ t b _=>do pure (Expr.lam `x (← nrm fuel t) (← nrm fuel b) .default)
   | .forallE _ t b _=>do pure (Expr.forallE `x (← nrm fuel t) (← nrm fuel b) .default)
   | .letE _ t v b n=>do pure (Expr.letE `x (← nrm fuel t) (← nrm fuel v) (← nrm fuel b) n)
   | .mdata _ b=>nrm fuel b
   | .proj n i b=>do pure (Expr.proj n i (← nrm fuel b))
   | e=>pure e
  modify (·.insert e r)
  return r
 | e=>return e
def short (v:Expr):MetaM Expr:=do
 let v ← Mine.Opt.run v
 let v ← Mine.Cse.cse v false [(3,2)]
 return ((nrm 1000000 v).run {}).1
def zU (c:ConstantInfo)(v? : Option Expr):NameSet:=
 match v? with
 | some v=>v.getUsedConstantsAsSet.foldl (fun s n=>s.insert n) c.type.getUsedConstantsAsSet
 | none=>c.type.getUsedConstantsAsSet
def isTe (n:Name)(t:Expr):Bool:=(`PySem.W.Fast).isPrefixOf n&&t.isAppOfArity ``Eq 3&&(n.toString.startsWith "PySem.W.Fast.te")
def declared (old:Environment)(n:Name)(c:ConstantInfo):Bool:=
 n.getRoot == `Mine&&!n.isInternalDetail&&!isAuxRecursor old n&&!isNoConfusion old n &&
 !([`Mine.Cse,`Mine.Opt,`Mine.Gc,`Mine.Drv,`Mine.Lin].any fun p=>p.isPrefixOf n) &&
 !(match n with | .str _ s=>["below", "brecOn", "ctorIdx", "ctorElim", "ctorElimType", "noConfusionType", "noConfusion", "recOn", "casesOn", "elim", "splitter", "go", "eq_def"].contains s||s.startsWith "eq_" | _=>true) &&
 !(match n.getPrefix,old.find? n.getPrefix with | _,some (.ctorInfo _)=>true | _,_=>false) &&
 (match c with | .thmInfo _ | .inductInfo _ | .defnInfo _=>true | _=>false)
def wg (old:Environment)(fuel:Nat)(n:Name):MetaM Unit:=do
 match fuel with
 | 0=>throwError "fuel at {n}"
 | fuel+1=>
 if (← getEnv).contains n then return
 let some c:=old.find? n | throwError "no constant {n}"
 match c with
 | .inductInfo i=>do
  let mut used:=zU c none
  for m in i.all do
   let some (.inductInfo j):=old.find? m | throwError "no inductive"
   used:=j.type.getUsedConstantsAsSet.foldl (fun s n=>s.insert n) used
   for k in j.ctors do
    let some (.ctorInfo k):=old.find? k | throwError "no ctor"
    used:=k.type.getUsedConstantsAsSet.foldl (fun s n=>s.insert n) used
  for u in used do
   unless i.all.contains u do wg old fuel u
  let ts ← i.all.mapM fun m=>do
   let some (.inductInfo j):=old.find? m | throwError "no inductive"
   let cs ← j.ctors.mapM fun k=>do
    let some (.ctorInfo k):=old.find? k | throwError "no ctor"
    pure {name:=k.name,type:=k.type:Constructor}
   pure {name:=j.name,type:=j.type,ctors:=cs:InductiveType}
  addDecl (.inductDecl i.levelParams i.numParams ts false)
  for t in ts do
   for k in [1:30] do
    let r:=(t.name ++ `rec).appendIndexAfter k
    let some c:=(← getEnv).toKernelEnv.find? r | break
    let res ← (← getEnv).addConstAsync r .recursor
    res.commitConst res.asyncEnv (info? := c)
    res.commitCheckEnv res.asyncEnv
    setEnv res.mainEnv
 | .ctorInfo k=>wg old fuel k.induct
 | .recInfo r=>for m in r.all do wg old fuel m
 | .defnInfo d=>do
  let v ← if (n.toString.splitOn "._f").length>1 then(do
    let cur ← getEnv
    setEnv old
    let v ← if ← isProp d.type then short d.value else pure d.value
    setEnv cur
    pure v)else pure d.value
  for u in zU c (some v)do wg old fuel u
  let cur ← getEnv
  try addDecl (.defnDecl {d with value:=v})
  catch _=>do
   setEnv cur
   for u in zU c (some d.value)do wg old fuel u
   addDecl (.defnDecl d)
 | .thmInfo d=>do
  let v ← if isTe n d.type then(do
    let some (α,a,_):=d.type.eq? | throwError "eq"
    pure (mkApp2 (.const ``Eq.refl d.type.getAppFn.constLevels!) α a))
   else do
    let cur ← getEnv
    setEnv old
    let v ← if (`Mine.Opt).isPrefixOf n then pure d.value else try short d.value catch _=>pure d.value
    setEnv cur
    pure v
  for u in zU c (some v)do wg old fuel u
  let cur ← getEnv
  try addDecl (.thmDecl {d with value:=v})
  catch _=>do
   setEnv cur
   for u in zU c (some d.value)do wg old fuel u
   addDecl (.thmDecl d)
 | _=>throwError "another constant {n}"
def last:TacticM Unit:=do
 unless (← getGoals).isEmpty do throwError "goals are left"
 let t0 ← IO.monoMsNow
 let mut found:Array (MVarId×MVarId):=#[]
 for (g,d) in (← getMCtx).decls.toList do
  if d.userName.getRoot == `outerC&&!(← g.isAssigned) then
   found:=found.push (g,⟨d.userName.replacePrefix `outerC .anonymous⟩)
 for (g,i) in found do
  g.withContext do
   let e ← instantiateMVars (mkMVar i)
   let e ← short e
   let old ← getEnv
   let some new:=old.importEnv? | throwError "no env"
   setEnv new
   for n in e.getUsedConstants do wg old 3000 n
   for (n,c) in old.constants.map₂.toList do
    if declared old n c then wg old 3000 n
   g.assign e
 logInfo m!"gc {(← IO.monoMsNow) - t0} ms"
end Mine.Gc
end
open PySem PySem.W PyProof.Rows PySem.Calls
namespace Mine
noncomputable section
local macro_rules | `(tactic| lia) => `(tactic| run_tac Mine.Lin.om)
theorem no {p:Prop}(h:false=true):p:=absurd h Bool.false_ne_true
abbrev qA:=@List.mem_append_right
abbrev qB:=@List.mem_append_left
abbrev qC:=@List.length_append
abbrev qD:=@List.length_map
abbrev qE:=@List.length_cons
abbrev qF:=@List.getElem?_eq_some_iff
abbrev qG:=@List.mem_map
abbrev qH:=@List.getElem?_eq_getElem
abbrev qI:=@List.map_append
abbrev qJ:=@List.getElem?_append_left
abbrev qK:=@Heap.get?_push_of_some
abbrev qL:=@List.mem_cons
abbrev qM:=@Bool.and_eq_true
abbrev qN:=@List.mem_filter
abbrev qO:=@List.mem_append
abbrev qP:=@List.getD_eq_getElem?_getD
abbrev qQ:=@List.all_eq_true
abbrev qR:=@List.mem_singleton
abbrev qS:=@List.length_nil
abbrev qT:=@Int.fmod_eq_emod_of_nonneg
abbrev qU:=@Heap.get?_update_other
abbrev qV:=@List.getElem?_map
abbrev qW:=@List.mem_of_getElem?
abbrev qX:=@List.getElem?_append_right
abbrev qY:=@List.nodup_append
abbrev qZ:=@List.mem_iff_getElem
abbrev jA:=@List.map_cons
abbrev jB:=@of_decide_eq_true
abbrev jC:=@wpAny_bind
inductive V where
 | none | bool (b:Bool) | int (i:Int) | str (x:String) | typ (n:String) | bi (n:String) | ref (a:Addr)
 | rng (lo hi:Int)
 | tup (xs:List V) | lst (xs:List V) | obj (C:Addr) (xs:List V)
 deriving Inhabited
structure Cf where
 prog:Program
 w:World
 ft:Addr→List String
abbrev Cf.P (c:Cf):Params:=c.w.params
abbrev Rig:=Addr→Obj→Prop
abbrev jF (vs:List Value)(n:Nat):Obj:={cls:=.type "list",data:=.seq vs.toArray n}
abbrev listX (vs:List Value)(n:Nat)(dd:Option Addr)(sl:Array (Option Value)):Obj:=⟨.type "list",dd,.seq vs.toArray n,sl⟩
abbrev rngO (lo hi:Int)(t u v:Tok):Obj:={cls:=.type "range",dict:=none,data:=.fields #[.int lo t,.int hi u,.int 1 v],slots:=#[]}
abbrev tupO (vs:List Value)(n:Nat):Obj:={cls:=.type "tuple",data:=.seq vs.toArray n}
def entO (P:Cf)(k:String)(t:Tok)(v:Value):DictEntry:=⟨PyData.keyHash P.P (Str.ofString k),.str (Str.ofString k) t,v⟩
def Ents (P:Cf):List String→List Value→List DictEntry→Prop
 | _,[],[]=>True
 | k::ks,v::vs,e::es=>(∃t,e=entO P k t v)∧Ents P ks vs es
 | _,_,_=>False
theorem Ents.nil {P:Cf}:∀(l:List String),Ents P l [] []
 | []=>trivial
 | _::_=>trivial
mutual
def Den (P:Cf)(R:Rig):V→Value→Prop
 | .none,v=>v = .none
 | .bool b,v=>v = .bool b
 | .int i,v=>∃t,v = .int i t
 | .str x,v=>∃t,v = .str (Str.ofString x) t
 | .typ n,v=>v = .type n
 | .bi n,v=>v = .builtin n
 | .ref a,v=>v = .ref a
 | .rng lo hi,v=>∃a t u w,v = .ref a∧R a (rngO lo hi t u w)
 | .tup xs,v=>∃a vs n,v = .ref a∧R a (tupO vs n)∧Dens P R xs vs∧xs.length≤16777217
 | .lst xs,v=>∃a vs n dd sl,v = .ref a∧R a (listX vs n dd sl)∧Dens P R xs vs∧xs.length≤16777217
 | .obj C xs,v=>∃a dx vs es n,v = .ref a∧R a (instObj C dx)∧R dx (dictOf es n)∧Ents P (P.ft C) vs es∧Dens P R xs vs
def Dens (P:Cf)(R:Rig):List V→List Value→Prop
 | [],vs=>vs=[]
 | x::xs,vs=>∃v r,vs=v::r∧Den P R x v∧Dens P R xs r
end
def jN (o:Obj):Bool:=match o.cls with
 | .type n=>n == "list_iterator" || n == "tuple_iterator" || n == "range_iterator" || n == "enumerate" || n == "zip"
 | .ref _=>(match o.data with | .fields _=>true | _=>false)
 | _=>false
def jP (R R':Rig):Prop:=∀a o,jN o=false→R a o→R' a o
mutual
theorem Den.mono {P:Cf}{R R':Rig}(h:jP R R'):∀(x:V) (v:Value),Den P R x v→Den P R' x v
 | .none,_,e | .bool _,_,e | .int _,_,e | .str _,_,e | .typ _,_,e | .bi _,_,e | .ref _,_,e=>e
 | .rng _ _,v,d=>by
  obtain⟨a,t,u,w,e,r⟩:=d
  exact⟨a,t,u,w,e,h _ _ rfl r⟩
 | .tup xs,v,d=>by
  obtain⟨a,vs,n,e,r,d,b⟩:=d
  exact⟨a,vs,n,e,h _ _ rfl r,Dens.mono h xs vs d,b⟩
 | .lst xs,v,d=>by
  obtain⟨a,vs,n,dd,sl,e,r,d,b⟩:=d
  exact⟨a,vs,n,dd,sl,e,h _ _ rfl r,Dens.mono h xs vs d,b⟩
 | .obj C xs,v,d=>by
  obtain⟨a,dx,vs,es,n,e,r,r',q,d⟩:=d
  exact⟨a,dx,vs,es,n,e,h _ _ rfl r,h _ _ rfl r',q,Dens.mono h xs vs d⟩
theorem Dens.mono {P:Cf}{R R':Rig}(h:jP R R'):∀(xs:List V) (vs:List Value),Dens P R xs vs→Dens P R' xs vs
 | [],_,e=>e
 | x::xs,vs,d=>by
  obtain⟨v,r,e,d,ds⟩:=d
  exact⟨v,r,e,Den.mono h x v d,Dens.mono h xs r ds⟩
end
section
variable {P:Cf}{R:Rig}
theorem Dens.length:∀{xs:List V} {vs:List Value},Dens P R xs vs→vs.length=xs.length
 | [],_,e=>by rw[show _=[]from e];rfl
 | x::xs,_,⟨v,r,e,_,ds⟩=>by rw[e,qE,qE,Dens.length ds]
theorem Dens.append:∀{xs ys:List V} {vs ws:List Value},Dens P R xs vs→Dens P R ys ws→Dens P R (xs++ys) (vs++ws)
 | [],_,_,_,e,d=>by rw[show _=[]from e];exact d
 | x::xs,_,_,_,⟨v,r,e,dx,ds⟩,d=>by subst e;exact⟨v,r++_,rfl,dx,Dens.append ds d⟩
theorem Dens.get:∀{xs:List V} {vs:List Value},Dens P R xs vs→∀{i:Nat} {x:V},xs[i]? = some x→∃v,vs[i]? = some v∧Den P R x v
 | x::xs,_,⟨v,r,e,dx,ds⟩,0,y,h=>by cases h;subst e;exact⟨v,rfl,dx⟩
 | x::xs,_,⟨v,r,e,dx,ds⟩,i+1,y,h=>by subst e;exact Dens.get ds h
 | [],_,_,_,_,h=>by cases h
theorem Dens.set:∀{xs:List V} {vs:List Value},Dens P R xs vs→∀(i:Nat) {x:V} {v:Value},Den P R x v→Dens P R (xs.set i x) (vs.set i v)
 | [],_,e,_,_,_,_=>by rw[show _=[]from e];exact rfl
 | y::xs,_,⟨w,r,e,dy,ds⟩,0,x,v,d=>by subst e;exact⟨v,r,rfl,d,ds⟩
 | y::xs,_,⟨w,r,e,dy,ds⟩,i+1,x,v,d=>by subst e;exact⟨w,r.set i v,rfl,dy,Dens.set ds i d⟩
theorem Dens.take:∀{xs:List V} {vs:List Value},Dens P R xs vs→∀(n:Nat),Dens P R (xs.take n) (vs.take n)
 | _,_,_,0=>rfl
 | [],_,e,n+1=>by rw[show _=[]from e];exact rfl
 | y::xs,_,⟨w,r,e,dy,ds⟩,n+1=>by subst e;exact⟨w,r.take n,rfl,dy,Dens.take ds n⟩
theorem Dens.drop:∀{xs:List V} {vs:List Value},Dens P R xs vs→∀(n:Nat),Dens P R (xs.drop n) (vs.drop n)
 | _,_,d,0=>d
 | [],_,e,n+1=>by rw[show _=[]from e];exact rfl
 | y::xs,_,⟨w,r,e,dy,ds⟩,n+1=>by subst e;exact Dens.drop ds n
theorem Dens.reverse:∀{xs:List V} {vs:List Value},Dens P R xs vs→Dens P R xs.reverse vs.reverse
 | [],_,e=>by rw[show _=[]from e];exact rfl
 | y::xs,_,⟨w,r,e,dy,ds⟩=>by
  subst e
  rw[List.reverse_cons,List.reverse_cons]
  exact Dens.append (Dens.reverse ds) ⟨w,[],rfl,dy,rfl⟩
end
inductive DV where
 | i (kvs:List (Int×V)) | s (kvs:List (String×V))
inductive AO where
 | list (xs:List V) | inst (C:Addr) (xs:List V) | dict (d:DV)
 | ns (ps:List (Str×V))
 deriving Inhabited
abbrev Hp:=Addr→Option AO
def Hp.set (H:Hp)(a:Addr)(o:AO):Hp:=fun b=>if b=a then some o else H b
theorem zS (H:Hp)(a:Addr)(o:AO):H.set a o a=some o:=if_pos rfl
theorem zN (H:Hp){a b:Addr}(o:AO)(h:b≠a):H.set a o b=H b:=if_neg h
def FzR (base:Heap)(fz:List (Addr×Obj)):Rig:=fun a o=>base.get? a=some o∨(a,o)∈fz
theorem FzR.le {base:Heap}{fz fz':List (Addr×Obj)}(h:∀p∈fz,p∈fz'):jP (FzR base fz) (FzR base fz'):=fun _ _ _ x=>x.imp id (h _)
def DEnt {K:Type}[DecidableEq K](P:Cf)(knd:KeyKind P.prog P.w K)(R:Rig)(a:Addr)(o:Obj)(kvs:List (K×V)):Prop:=
 (a==sysModules)=false∧∃vs,Dens P R (kvs.map (·.2)) vs∧o.IsDictOf knd ((kvs.map (·.1)).zip vs)∧kvs.length≤16000000
abbrev strK (kvs:List (String×V)):List (Str×V):=kvs.map fun p=>(Str.ofString p.1,p.2)
def wL (P:Cf)(R:Rig)(a:Addr)(o:Obj):DV→Prop
 | .i kvs=>DEnt P (intKind P.prog P.w) R a o kvs
 | .s kvs=>DEnt P (strKind P.prog P.w) R a o (strK kvs)
theorem wL.mono {P:Cf}{R R':Rig}(h:jP R R'){a:Addr}{o:Obj}:∀{d:DV},wL P R a o d→wL P R' a o d
 | .i _,⟨z,vs,a,b,c⟩=>⟨z,vs,Dens.mono h _ _ a,b,c⟩
 | .s _,⟨z,vs,a,b,c⟩=>⟨z,vs,Dens.mono h _ _ a,b,c⟩
def NsO (o:Obj)(m:Str→Option Value):Prop:=∃es ep,o.data = .dict es ep∧StrKeys es∧∀name,nsFind es name=m name
def NsP (P:Cf)(R:Rig)(ps:List (Str×V))(m:Str→Option Value):Prop:=∀x v,ps.lookup x=some v→∃u,m x=some u∧Den P R v u
theorem NsP.mono {P:Cf}{R R':Rig}(h:jP R R'){ps:List (Str×V)}{m:Str→Option Value}(l:NsP P R ps m):NsP P R' ps m:=fun x v e=>by
 obtain⟨u,a,b⟩:=l x v e;exact⟨u,a,Den.mono h _ _ b⟩
structure Led (P:Cf)(base h₀:Heap)(L:Addr)(h:Heap)(H:Hp)(mu fz:List (Addr×Obj))(D:Addr→Addr):Prop where
 news:News h₀ L h (mu++fz)
 nd:((mu++fz).map (·.1)).Nodup
 list:∀a xs,H a=some (.list xs)→∃vs n,(a,jF vs n)∈mu∧Dens P (FzR base fz) xs vs∧xs.length≤16777217
 inst:∀a C xs,H a=some (.inst C xs)→∃vs es n,(a,instObj C (D a))∈mu∧(D a,dictOf es n)∈mu∧Ents P (P.ft C) vs es∧Dens P (FzR base fz) xs vs
 dict:∀a d,H a=some (.dict d)→∃o,(a,o)∈mu∧wL P (FzR base fz) a o d
 ns:∀a ps,H a=some (.ns ps)→∃o m,(a,o)∈mu∧NsO o m∧NsP P (FzR base fz) ps m
 dinj:∀a b C xs C' xs',H a=some (.inst C xs)→H b=some (.inst C' xs')→D a=D b→a=b
 dfree:∀a C xs,H a=some (.inst C xs)→H (D a)=none
theorem upd_of {d:Addr}{o o':Obj}:∀{l:List (Addr×Obj)},(d,o)∈l→(l.map (·.1)).Nodup→Upd d o o' l (l.map fun p=>if p.1=d then(d,o')else p)
 | p::l,hm,nd=>by
  rw[jA,List.nodup_cons]at nd
  rw[jA]
  rcases qL.mp hm with rfl | hm
  ·have e:(l.map fun p=>if p.1=d then(d,o')else p)=l:=by
    conv=>rhs;rw[← List.map_id l]
    refine List.map_congr_left fun q hq=>?_
    rw[if_neg (fun z=>nd.1 (qG.mpr ⟨q,hq,z⟩))];rfl
   rw[e,if_pos rfl]
   exact Upd.head fun q hq z=>nd.1 (qG.mpr ⟨q,hq,z⟩)
  ·have hne:p.1≠d:=fun z=>nd.1 (qG.mpr ⟨(d,o),hm,z.symm⟩)
   rw[if_neg hne]
   exact Upd.tail hne (upd_of hm nd.2)
section
variable {P:Cf}{base h₀ h h':Heap}{L:Addr}{H:Hp}{mu fz:List (Addr×Obj)}{D:Addr→Addr}{a:Addr}
theorem Led.dom (l:Led P base h₀ L h H mu fz D){o:AO}(e:H a=some o):∃ob,(a,ob)∈mu:=by
 cases o with
 | list xs=>obtain⟨vs,n,m,_⟩:=l.list a xs e;exact⟨_,m⟩
 | inst C xs=>obtain⟨vs,es,n,m,_⟩:=l.inst a C xs e;exact⟨_,m⟩
 | dict d=>obtain⟨o,m,_⟩:=l.dict a d e;exact⟨_,m⟩
 | ns ps=>obtain⟨ob,mm,m,_⟩:=l.ns _ _ e;exact⟨_,m⟩
theorem Led.fresh (l:Led P base h₀ L h H mu fz D)(hf:∀p∈mu++fz,p.1<a):H a=none:=by
 cases e:H a with
 | none=>rfl
 | some o=>
  obtain⟨ob,m⟩:=l.dom e
  exact absurd (hf _ (qB _ m)) (Nat.lt_irrefl _)
theorem QI {l l':List (Addr×Obj)}(N:News h₀ L h l)(hs:∀p∈l',p∈l):News h₀ L h l':=fun p hp=>N p (hs p hp)
theorem Qk {α:Type}{x:α}{l r:List α}(h:(l++r).Nodup)(hx:x∉l++r):(l++x::r).Nodup:=by
 rw[qY]at h ⊢
 rw[qO]at hx
 refine⟨h.1,List.nodup_cons.mpr ⟨fun z=>hx (.inr z),h.2.1⟩,fun u hu v hv=>?_⟩
 rcases qL.mp hv with rfl | hv
 ·intro z;subst z;exact hx (.inl hu)
 ·exact h.2.2 u hu v hv
theorem Led.push_list (l:Led P base h₀ L h H mu fz D){vs:List Value}{xs:List V}{n:Nat}(hf:∀p∈mu++fz,p.1<a)(N:News h₀ L h' ((a,jF vs n)::(mu++fz)))(d:Dens P (FzR base fz) xs vs)(hb:xs.length≤16777217) :
  Led P base h₀ L h' (H.set a (.list xs)) ((a,jF vs n)::mu) fz D:=by
 have hne:∀{b ob},(b,ob)∈mu→b≠a:=fun hb=>Nat.ne_of_lt (hf _ (qB _ hb))
 refine⟨N,?_,fun b ys e=>?_,fun b C ys e=>?_,fun b d e=>?_,fun b ps e=>?_,fun b c C ys C' ys' e e' q=>?_,fun b C ys e=>?_⟩
 ·show(a::(mu++fz).map (·.1)).Nodup
  exact List.nodup_cons.mpr ⟨fun z=>by obtain⟨p,hp,e⟩:=qG.mp z;have:=hf p hp;rw[e]at this;exact absurd this (Nat.lt_irrefl _),l.nd⟩
 ·by_cases q:b=a
  ·subst q;rw[zS]at e;cases e;exact⟨vs,n,.head _,d,hb⟩
  ·rw[zN _ _ q]at e;obtain⟨ws,k,m,dd⟩:=l.list b ys e;exact⟨ws,k,.tail _ m,dd⟩
 ·by_cases q:b=a
  ·subst q;rw[zS]at e;cases e
  ·rw[zN _ _ q]at e;obtain⟨ws,es,k,m,m',r,dd⟩:=l.inst b C ys e;exact⟨ws,es,k,.tail _ m,.tail _ m',r,dd⟩
 ·by_cases q:b=a
  ·subst q;rw[zS]at e;cases e
  ·rw[zN _ _ q]at e;obtain⟨ob,m,dd⟩:=l.dict b _ e;exact⟨ob,.tail _ m,dd⟩
 ·by_cases q:b=a
  ·subst q;rw[zS]at e;cases e
  ·rw[zN _ _ q]at e;obtain⟨ob,mm,m,no,dd⟩:=l.ns b ps e;exact⟨ob,mm,.tail _ m,no,dd⟩
 ·by_cases z:b=a
  ·subst z;rw[zS]at e;cases e
  ·by_cases z':c=a
   ·subst z';rw[zS]at e';cases e'
   ·rw[zN _ _ z]at e;rw[zN _ _ z']at e';exact l.dinj _ _ _ _ _ _ e e' q
 ·by_cases z:b=a
  ·subst z;rw[zS]at e;cases e
  ·rw[zN _ _ z]at e
   obtain⟨ws,es,k,m,m',r,dd⟩:=l.inst b C ys e
   rw[zN _ _ (hne m')]
   exact l.dfree _ _ _ e
theorem Led.push_dict (l:Led P base h₀ L h H mu fz D){o:Obj}{dv:DV}(hf:∀p∈mu++fz,p.1<a)(N:News h₀ L h' ((a,o)::(mu++fz)))(d:wL P (FzR base fz) a o dv) :
  Led P base h₀ L h' (H.set a (.dict dv)) ((a,o)::mu) fz D:=by
 have hne:∀{b ob},(b,ob)∈mu→b≠a:=fun hb=>Nat.ne_of_lt (hf _ (qB _ hb))
 refine⟨N,?_,fun b ys e=>?_,fun b C ys e=>?_,fun b d e=>?_,fun b ps e=>?_,fun b c C ys C' ys' e e' q=>?_,fun b C ys e=>?_⟩
 ·show(a::(mu++fz).map (·.1)).Nodup
  exact List.nodup_cons.mpr ⟨fun z=>by obtain⟨p,hp,e⟩:=qG.mp z;have:=hf p hp;rw[e]at this;exact absurd this (Nat.lt_irrefl _),l.nd⟩
 ·by_cases q:b=a
  ·subst q;rw[zS]at e;cases e
  ·rw[zN _ _ q]at e;obtain⟨ws,k,m,dd⟩:=l.list b ys e;exact⟨ws,k,.tail _ m,dd⟩
 ·by_cases q:b=a
  ·subst q;rw[zS]at e;cases e
  ·rw[zN _ _ q]at e;obtain⟨ws,es,k,m,m',r,dd⟩:=l.inst b C ys e;exact⟨ws,es,k,.tail _ m,.tail _ m',r,dd⟩
 ·by_cases q:b=a
  ·subst q;rw[zS]at e;cases e;exact⟨o,.head _,d⟩
  ·rw[zN _ _ q]at e;obtain⟨ob,m,dd⟩:=l.dict b _ e;exact⟨ob,.tail _ m,dd⟩
 ·by_cases q:b=a
  ·subst q;rw[zS]at e;cases e
  ·rw[zN _ _ q]at e;obtain⟨ob,mm,m,no,dd⟩:=l.ns b ps e;exact⟨ob,mm,.tail _ m,no,dd⟩
 ·by_cases z:b=a
  ·subst z;rw[zS]at e;cases e
  ·by_cases z':c=a
   ·subst z';rw[zS]at e';cases e'
   ·rw[zN _ _ z]at e;rw[zN _ _ z']at e';exact l.dinj _ _ _ _ _ _ e e' q
 ·by_cases z:b=a
  ·subst z;rw[zS]at e;cases e
  ·rw[zN _ _ z]at e
   obtain⟨ws,es,k,m,m',r,dd⟩:=l.inst b C ys e
   rw[zN _ _ (hne m')]
   exact l.dfree _ _ _ e
theorem Led.push_fz (l:Led P base h₀ L h H mu fz D){o:Obj}(hf:∀p∈mu++fz,p.1<a)(N:News h₀ L h' ((a,o)::(mu++fz))):Led P base h₀ L h' H mu ((a,o)::fz) D:=by
 have le:jP (FzR base fz) (FzR base ((a,o)::fz)):=FzR.le fun _ h=>.tail _ h
 refine⟨QI N fun p hp=>?_,?_,fun b ys e=>?_,fun b C ys e=>?_,fun b d e=>?_,fun b ps e=>?_,l.dinj,l.dfree⟩
 ·rcases qO.mp hp with hp | hp
  ·exact .tail _ (qB _ hp)
  ·rcases qL.mp hp with rfl | hp
   ·exact .head _
   ·exact .tail _ (qA _ hp)
 ·rw[qI,jA]
  refine Qk (by rw[← qI];exact l.nd) fun z=>?_
  rw[← qI]at z
  obtain⟨p,hp,e⟩:=qG.mp z
  have:=hf p hp;rw[e]at this;exact absurd this (Nat.lt_irrefl _)
 ·obtain⟨ws,k,m,dd,bb⟩:=l.list b ys e;exact⟨ws,k,m,Dens.mono le _ _ dd,bb⟩
 ·obtain⟨ws,es,k,m,m',r,dd⟩:=l.inst b C ys e;exact⟨ws,es,k,m,m',r,Dens.mono le _ _ dd⟩
 ·obtain⟨ob,m,dd⟩:=l.dict b _ e;exact⟨ob,m,dd.mono le⟩
 ·obtain⟨ob,mm,m,no,dd⟩:=l.ns b ps e;exact⟨ob,mm,m,no,dd.mono le⟩
theorem Led.push_inst (l:Led P base h₀ L h H mu fz D){dx C:Addr}(hf:∀p∈mu++fz,p.1<dx)(hx:dx<a)(N:News h₀ L h' ((a,instObj C dx)::(dx,dictOf [] 0)::(mu++fz))) :
  Led P base h₀ L h' (H.set a (.inst C [])) ((a,instObj C dx)::(dx,dictOf [] 0)::mu) fz (fun b=>if b=a then dx else D b):=by
 have hne:∀{b ob},(b,ob)∈mu→b≠a:=fun hb=>Nat.ne_of_lt (Nat.lt_trans (hf _ (qB _ hb)) hx)
 have hne':∀{b ob},(b,ob)∈mu→b≠dx:=fun hb=>Nat.ne_of_lt (hf _ (qB _ hb))
 refine⟨N,?_,fun b ys e=>?_,fun b C' ys e=>?_,fun b d e=>?_,fun b ps e=>?_,fun b c C ys C' ys' e e' q=>?_,fun b C' ys e=>?_⟩
 ·show(a::dx::(mu++fz).map (·.1)).Nodup
  refine List.nodup_cons.mpr ⟨fun z=>?_,List.nodup_cons.mpr ⟨fun z=>?_,l.nd⟩⟩
  ·rcases qL.mp z with z | z
   ·exact absurd hx (by rw[z];exact Nat.lt_irrefl _)
   ·obtain⟨p,hp,e⟩:=qG.mp z;have:=Nat.lt_trans (hf p hp) hx;rw[e]at this;exact absurd this (Nat.lt_irrefl _)
  ·obtain⟨p,hp,e⟩:=qG.mp z;have:=hf p hp;rw[e]at this;exact absurd this (Nat.lt_irrefl _)
 ·by_cases q:b=a
  ·subst q;rw[zS]at e;cases e
  ·rw[zN _ _ q]at e;obtain⟨ws,k,m,dd⟩:=l.list b ys e;exact⟨ws,k,.tail _ (.tail _ m),dd⟩
 ·by_cases q:b=a
  ·subst q;rw[zS]at e;cases e;rw[if_pos rfl];exact⟨[],[],0,.head _,.tail _ (.head _),Ents.nil _,rfl⟩
  ·rw[zN _ _ q]at e;obtain⟨ws,es,k,m,m',r,dd⟩:=l.inst b C' ys e;rw[if_neg q];exact⟨ws,es,k,.tail _ (.tail _ m),.tail _ (.tail _ m'),r,dd⟩
 ·by_cases q:b=a
  ·subst q;rw[zS]at e;cases e
  ·rw[zN _ _ q]at e;obtain⟨ob,m,dd⟩:=l.dict b _ e;exact⟨ob,.tail _ (.tail _ m),dd⟩
 ·by_cases q:b=a
  ·subst q;rw[zS]at e;cases e
  ·rw[zN _ _ q]at e;obtain⟨ob,mm,m,no,dd⟩:=l.ns b ps e;exact⟨ob,mm,.tail _ (.tail _ m),no,dd⟩
 ·by_cases z:b=a
  ·by_cases z':c=a
   ·rw[z,z']
   ·exfalso
    rw[zN _ _ z']at e'
    obtain⟨ws,es,k,m,m',r,dd⟩:=l.inst c _ _ e'
    rw[if_pos z,if_neg z']at q
    exact hne' m' q.symm
  ·by_cases z':c=a
   ·exfalso
    rw[zN _ _ z]at e
    obtain⟨ws,es,k,m,m',r,dd⟩:=l.inst b _ _ e
    rw[if_neg z,if_pos z']at q
    exact hne' m' q
   ·rw[zN _ _ z]at e;rw[zN _ _ z']at e';rw[if_neg z,if_neg z']at q;exact l.dinj _ _ _ _ _ _ e e' q
 ·by_cases z:b=a
  ·rw[if_pos z,zN _ _ (Nat.ne_of_lt hx)]
   exact l.fresh hf
  ·rw[zN _ _ z]at e
   obtain⟨ws,es,k,m,m',r,dd⟩:=l.inst b C' ys e
   rw[if_neg z,zN _ _ (hne m')]
   exact l.dfree _ _ _ e
def jM (d:Addr)(o:Obj)(l:List (Addr×Obj)):List (Addr×Obj):=l.map fun p=>if p.1=d then(d,o)else p
theorem uO (d:Addr)(o:Obj)(l:List (Addr×Obj)):(jM d o l).map (·.1)=l.map (·.1):=by
 rw[jM,List.map_map]
 refine List.map_congr_left fun p _=>?_
 show(if p.1=d then(d,o)else p).1=p.1
 by_cases h:p.1=d
 ·rw[if_pos h];exact h.symm
 ·rw[if_neg h]
theorem jp {d:Addr}{o:Obj}{l:List (Addr×Obj)}{b:Addr}{ob:Obj}(hb:b≠d)(h:(b,ob)∈l):(b,ob)∈jM d o l:=qG.mpr ⟨_,h,if_neg hb⟩
theorem uj {d:Addr}{o ob:Obj}{l:List (Addr×Obj)}(h:(d,ob)∈l):(d,o)∈jM d o l:=qG.mpr ⟨_,h,if_pos rfl⟩
theorem swapO_id {d:Addr}{o:Obj}{l:List (Addr×Obj)}(h:∀p∈l,p.1≠d):jM d o l=l:=by
 conv=>rhs;rw[← List.map_id l]
 exact List.map_congr_left fun p hp=>if_neg (h p hp)
theorem Led.apart (l:Led P base h₀ L h H mu fz D){o:Obj}(hm:(a,o)∈mu):∀p∈fz,p.1≠a:=fun p hp z=>by
 have:=l.nd
 rw[qI,qY]at this
 exact this.2.2 a (qG.mpr ⟨_,hm,rfl⟩) p.1 (qG.mpr ⟨_,hp,rfl⟩) z.symm
theorem Led.upd (l:Led P base h₀ L h H mu fz D){o o':Obj}(hm:(a,o)∈mu):Upd a o o' (mu++fz) (jM a o' mu++fz):=by
 have:=upd_of (o':=o') (qB fz hm) l.nd
 rwa [show((mu++fz).map fun p=>if p.1=a then(a,o')else p)=jM a o' mu++fz from by
  rw[qI];exact congrArg _ (swapO_id (l.apart hm))]at this
theorem Led.set_list (l:Led P base h₀ L h H mu fz D){vs vs':List Value}{xs':List V}{n n':Nat}{xs:List V}(e0:H a=some (.list xs))(hm:(a,jF vs n)∈mu)(N:News h₀ L h' (jM a (jF vs' n') mu++fz))(d:Dens P (FzR base fz) xs' vs')(hb:xs'.length≤16777217) :
  Led P base h₀ L h' (H.set a (.list xs')) (jM a (jF vs' n') mu) fz D:=by
 have hD:∀b C ys,H b=some (.inst C ys)→b≠a∧D b≠a:=fun b C ys e=>by
  refine⟨fun z=>(by subst z;rw[e0]at e;cases e),fun z=>?_⟩
  have:=l.dfree _ _ _ e;rw[z,e0]at this;cases this
 refine⟨N,by rw[qI,uO,← qI];exact l.nd,fun b ys e=>?_,fun b C ys e=>?_,fun b d e=>?_,fun b ps e=>?_,fun b c C ys C' ys' e e' q=>?_,fun b C ys e=>?_⟩
 ·by_cases q:b=a
  ·subst q;rw[zS]at e;cases e;exact⟨vs',n',uj hm,d,hb⟩
  ·rw[zN _ _ q]at e;obtain⟨ws,k,m,dd⟩:=l.list b ys e;exact⟨ws,k,jp q m,dd⟩
 ·by_cases q:b=a
  ·subst q;rw[zS]at e;cases e
  ·rw[zN _ _ q]at e;obtain⟨ws,es,k,m,m',r,dd⟩:=l.inst b C ys e;exact⟨ws,es,k,jp q m,jp (hD _ _ _ e).2 m',r,dd⟩
 ·by_cases q:b=a
  ·subst q;rw[zS]at e;cases e
  ·rw[zN _ _ q]at e;obtain⟨ob,m,dd⟩:=l.dict b _ e;exact⟨ob,jp q m,dd⟩
 ·by_cases q:b=a
  ·subst q;rw[zS]at e;cases e
  ·rw[zN _ _ q]at e;obtain⟨ob,mm,m,no,dd⟩:=l.ns b ps e;exact⟨ob,mm,jp q m,no,dd⟩
 ·by_cases z:b=a
  ·subst z;rw[zS]at e;cases e
  ·by_cases z':c=a
   ·subst z';rw[zS]at e';cases e'
   ·rw[zN _ _ z]at e;rw[zN _ _ z']at e';exact l.dinj _ _ _ _ _ _ e e' q
 ·by_cases z:b=a
  ·subst z;rw[zS]at e;cases e
  ·rw[zN _ _ z]at e;rw[zN _ _ (hD _ _ _ e).2];exact l.dfree _ _ _ e
theorem Led.set_dict (l:Led P base h₀ L h H mu fz D){o o':Obj}{dv dv':DV}(e0:H a=some (.dict dv))(hm:(a,o)∈mu)(N:News h₀ L h' (jM a o' mu++fz))(d:wL P (FzR base fz) a o' dv') :
  Led P base h₀ L h' (H.set a (.dict dv')) (jM a o' mu) fz D:=by
 have hD:∀b C ys,H b=some (.inst C ys)→b≠a∧D b≠a:=fun b C ys e=>by
  refine⟨fun z=>(by subst z;rw[e0]at e;cases e),fun z=>?_⟩
  have:=l.dfree _ _ _ e;rw[z,e0]at this;cases this
 refine⟨N,by rw[qI,uO,← qI];exact l.nd,fun b ys e=>?_,fun b C ys e=>?_,fun b d e=>?_,fun b ps e=>?_,fun b c C ys C' ys' e e' q=>?_,fun b C ys e=>?_⟩
 ·by_cases q:b=a
  ·subst q;rw[zS]at e;cases e
  ·rw[zN _ _ q]at e;obtain⟨ws,k,m,dd⟩:=l.list b ys e;exact⟨ws,k,jp q m,dd⟩
 ·by_cases q:b=a
  ·subst q;rw[zS]at e;cases e
  ·rw[zN _ _ q]at e;obtain⟨ws,es,k,m,m',r,dd⟩:=l.inst b C ys e;exact⟨ws,es,k,jp q m,jp (hD _ _ _ e).2 m',r,dd⟩
 ·by_cases q:b=a
  ·subst q;rw[zS]at e;cases e;exact⟨o',uj hm,d⟩
  ·rw[zN _ _ q]at e;obtain⟨ob,m,dd⟩:=l.dict b _ e;exact⟨ob,jp q m,dd⟩
 ·by_cases q:b=a
  ·subst q;rw[zS]at e;cases e
  ·rw[zN _ _ q]at e;obtain⟨ob,mm,m,no,dd⟩:=l.ns b ps e;exact⟨ob,mm,jp q m,no,dd⟩
 ·by_cases z:b=a
  ·subst z;rw[zS]at e;cases e
  ·by_cases z':c=a
   ·subst z';rw[zS]at e';cases e'
   ·rw[zN _ _ z]at e;rw[zN _ _ z']at e';exact l.dinj _ _ _ _ _ _ e e' q
 ·by_cases z:b=a
  ·subst z;rw[zS]at e;cases e
  ·rw[zN _ _ z]at e;rw[zN _ _ (hD _ _ _ e).2];exact l.dfree _ _ _ e
theorem Led.set_inst (l:Led P base h₀ L h H mu fz D){C:Addr}{es es':List DictEntry}{vs':List Value}{xs':List V}{n n':Nat}{xs:List V}(e0:H a=some (.inst C xs))(hm:(D a,dictOf es n)∈mu)
  (N:News h₀ L h' (jM (D a) (dictOf es' n') mu++fz)) (r':Ents P (P.ft C) vs' es') (d:Dens P (FzR base fz) xs' vs') :
  Led P base h₀ L h' (H.set a (.inst C xs')) (jM (D a) (dictOf es' n') mu) fz D:=by
 have hfr:=l.dfree _ _ _ e0
 have hne:∀{b o},H b=some o→b≠D a:=fun e z=>by rw[z,hfr]at e;cases e
 have hDa:D a≠a:=fun z=>by rw[z,e0]at hfr;cases hfr
 refine⟨N,by rw[qI,uO,← qI];exact l.nd,fun b ys e=>?_,fun b C ys e=>?_,fun b d e=>?_,fun b ps e=>?_,fun b c C ys C' ys' e e' q=>?_,fun b C ys e=>?_⟩
 ·by_cases q:b=a
  ·subst q;rw[zS]at e;cases e
  ·rw[zN _ _ q]at e;obtain⟨ws,k,m,dd⟩:=l.list b ys e;exact⟨ws,k,jp (hne e) m,dd⟩
 ·by_cases q:b=a
  ·subst q;rw[zS]at e;cases e
   obtain⟨ws,es,k,m,m',r,dd⟩:=l.inst b _ _ e0
   exact⟨vs',es',n',jp (hne e0) m,uj hm,r',d⟩
  ·rw[zN _ _ q]at e;obtain⟨ws,es,k,m,m',r,dd⟩:=l.inst b C ys e
   exact⟨ws,es,k,jp (hne e) m,jp (fun z=>q (l.dinj _ _ _ _ _ _ e e0 z)) m',r,dd⟩
 ·by_cases q:b=a
  ·subst q;rw[zS]at e;cases e
  ·rw[zN _ _ q]at e;obtain⟨ob,m,dd⟩:=l.dict b _ e;exact⟨ob,jp (hne e) m,dd⟩
 ·by_cases q:b=a
  ·subst q;rw[zS]at e;cases e
  ·rw[zN _ _ q]at e;obtain⟨ob,mm,m,no,dd⟩:=l.ns b ps e;exact⟨ob,mm,jp (hne e) m,no,dd⟩
 ·by_cases z:b=a
  ·by_cases z':c=a
   ·rw[z,z']
   ·rw[zN _ _ z']at e';subst z;exact l.dinj _ _ _ _ _ _ e0 e' q
  ·by_cases z':c=a
   ·rw[zN _ _ z]at e;subst z';exact l.dinj _ _ _ _ _ _ e e0 q
   ·rw[zN _ _ z]at e;rw[zN _ _ z']at e';exact l.dinj _ _ _ _ _ _ e e' q
 ·by_cases z:b=a
  ·subst z;rw[zN _ _ hDa];exact hfr
  ·rw[zN _ _ z]at e
   have:D b≠a:=fun y=>by have:=l.dfree _ _ _ e;rw[y,e0]at this;cases this
   rw[zN _ _ this];exact l.dfree _ _ _ e
theorem Led.turn_fz (l:Led P base h₀ L h H mu fz D){o o':Obj}(hm:(a,o)∈fz)(hf:jN o=true)(hs:Heap.SameBut a h h')(ho:h'.get? a=some o'):Led P base h₀ L h' H mu (jM a o' fz) D:=by
 have nd:=l.nd
 rw[qI,qY]at nd
 have hmu:∀p∈mu,p.1≠a:=fun p hp z=>nd.2.2 p.1 (qG.mpr ⟨_,hp,rfl⟩) a (qG.mpr ⟨_,hm,rfl⟩) z
 have le:jP (FzR base fz) (FzR base (jM a o' fz)):=fun b ob hb x=>by
  refine x.imp id fun x=>jp (fun z=>?_) x
  subst z
  have h1:=(l.news _ (qA _ hm)).1
  have h2:=(l.news _ (qA _ x)).1
  rw[h1]at h2;cases h2
  rw[hf]at hb;cases hb
 refine⟨fun p hp=>?_,by rw[qI,uO,← qI];exact l.nd,fun b ys e=>?_,fun b C ys e=>?_,fun b d e=>?_,fun b ps e=>?_,l.dinj,l.dfree⟩
 ·rcases qO.mp hp with hp | hp
  ·have:=l.news p (qB _ hp)
   exact⟨(hs.2 _ (hmu p hp)).trans this.1,this.2⟩
  ·obtain⟨q,hq,rfl⟩:=qG.mp hp
   have:=l.news q (qA _ hq)
   by_cases z:q.1=a
   ·rw[if_pos z];exact⟨ho,z▸this.2⟩
   ·rw[if_neg z];exact⟨(hs.2 _ z).trans this.1,this.2⟩
 ·obtain⟨ws,k,m,dd,bb⟩:=l.list b ys e;exact⟨ws,k,m,Dens.mono le _ _ dd,bb⟩
 ·obtain⟨ws,es,k,m,m',r,dd⟩:=l.inst b C ys e;exact⟨ws,es,k,m,m',r,Dens.mono le _ _ dd⟩
 ·obtain⟨ob,m,dd⟩:=l.dict b _ e;exact⟨ob,m,dd.mono le⟩
 ·obtain⟨ob,mm,m,no,dd⟩:=l.ns b ps e;exact⟨ob,mm,m,no,dd.mono le⟩
theorem Led.fz_le (l:Led P base h₀ L h H mu fz D){o o':Obj}(hm:(a,o)∈fz)(hf:jN o=true):jP (FzR base fz) (FzR base (jM a o' fz)):=fun b ob hb x=>by
  refine x.imp id fun x=>jp (fun z=>?_) x
  subst z
  have h1:=(l.news _ (qA _ hm)).1
  have h2:=(l.news _ (qA _ x)).1
  rw[h1]at h2;cases h2
  rw[hf]at hb;cases hb
def Hp.del (H:Hp)(a:Addr):Hp:=fun b=>if b=a then none else H b
end
structure Gx where
 prog:Program
 w:World
 K:Frag
 p:Program
 loose:List Str
 mean:ExcName→Option Value
 mg:Str→Option Value
 mb:Str→Option Value
 base:Heap
 ft:Addr→List String
abbrev Gx.cf (g:Gx):Cf:=⟨g.prog,g.w,g.ft⟩
structure Gx.Ok (g:Gx):Prop where
 X:g.K.In g.base
 T:Top g.p g.loose g.mean g.mg g.mb g.base
structure Bk where
 sc:Scope
 C:Addr
 mL:Str→Option Value
structure Fx where
 hd:Option Value
 dp:Nat
 un:Nat
 gd:Option (List Code)
 name:Str
 scope:Scope
 L:Addr
 a:Addr
 cd:Value
 outer:List Env
 A₀:Around
 h₀:Heap
 bk:Option Bk:=none
 xc:Option (Addr×Addr×V):=none
abbrev Fx.env0 (f:Fx):Env:=envOf f.name f.scope f.L f.a f.cd
def Fx.env (f:Fx):Env:=match f.bk with | none=>f.env0 | some b=>compEnv b.sc b.C f.env0
def Fx.mo (f:Fx)(m:Str→Option Value):Str→Option Value:=match f.bk with | none=>m | some b=>b.mL
theorem Fx.env_none {f:Fx}(h:f.bk=none):f.env=f.env0:=by unfold Fx.env;rw[h]
theorem Fx.mo_none {f:Fx}(h:f.bk=none)(m:Str→Option Value):f.mo m=m:=by unfold Fx.mo;rw[h]
theorem Fx.env_glob (f:Fx):f.env.globals=mainGlobals:=by unfold Fx.env;split<;>rfl
theorem Fx.env_bui (f:Fx):f.env.builtins=builtinsNs:=by unfold Fx.env;split<;>rfl
abbrev Fx.A (f:Fx):Around:={handled:=f.hd,depth:=f.dp,frames:=some (f.env0::f.outer),guards:=f.gd,units:=f.un}
structure Fx.Ok (g:Gx)(f:Fx)(n:Nat):Prop where
 below:Below f.A₀ g.base f.outer f.h₀
 kind0:f.scope.kind = .function
 kind:f.env.scope.kind = .function
 dp:f.dp+2*n<recursionLimit
 un:f.un+8*n<cLine
theorem Fx.Ok.x {g:Gx}{f:Fx}{n:Nat}(G:g.Ok)(ok:f.Ok g n):g.K.In f.h₀:=G.X.keeps ok.below.stays
theorem Fx.Ok.t {g:Gx}{f:Fx}{n:Nat}(G:g.Ok)(ok:f.Ok g n):Top g.p g.loose g.mean g.mg g.mb f.h₀:=G.T.keeps ok.below.stays
structure Ex where
 R:Shared→(Str→Option Value)→List (Addr×Obj)→Value→Shared→Prop
 mono:∀{s:Shared} {m:Str→Option Value} {h:Heap} {tk:Nat} {fz fz':List (Addr×Obj)} {e:Value} {s':Shared},(∀p∈fz,p∈fz')→R {s with heap:=h,toks:=tk} m fz' e s'→R s m fz e s'
def Ex.none:Ex:=⟨fun _ _ _ _ _=>False,fun _ h=>h⟩
abbrev LedG (g:Gx)(f:Fx)(h:Heap)(H:Hp)(mu fz:List (Addr×Obj))(D:Addr→Addr):Prop:=Led g.cf g.base f.h₀ f.L h H mu fz D
abbrev DenG (g:Gx)(fz:List (Addr×Obj))(x:V)(v:Value):Prop:=Den g.cf (FzR g.base fz) x v
abbrev qf (g:Gx)(fz:List (Addr×Obj))(x:List V)(v:List Value):Prop:=Dens g.cf (FzR g.base fz) x v
structure St (g:Gx)(f:Fx)(h:Heap)(m:Str→Option Value)(H:Hp)(mu fz:List (Addr×Obj))(D:Addr→Addr):Prop where
 fr:Fr f.h₀ f.L h (f.mo m)
 led:LedG g f h H mu fz D
def JT (g:Gx)(f:Fx)(X:Ex)(t:Sem Value)(s:Shared)(m:Str→Option Value)(fz:List (Addr×Obj))(Q:V→Hp→Prop):Prop:=
 ∀(Pq E:Value→Shared→Prop),
  (∀v h tk mu' fz' D' H' x,St g f h m H' mu' fz' D'→(∀p∈fz,p∈fz')→DenG g fz' x v→Q x H'→Pq v {s with heap:=h,toks:=tk}) →
  (∀e s',X.R s (f.mo m) fz e s'→E e s')→wpAny (model g.prog g.w) f.A t Pq E s
def JL (g:Gx)(f:Fx)(X:Ex)(t:Sem (List Value))(s:Shared)(m:Str→Option Value)(fz:List (Addr×Obj))(Q:List V→Hp→Prop):Prop:=
 ∀(Pq:List Value→Shared→Prop) (E:Value→Shared→Prop),
  (∀v h tk mu' fz' D' H' x,St g f h m H' mu' fz' D'→(∀p∈fz,p∈fz')→qf g fz' x v→Q x H'→Pq v {s with heap:=h,toks:=tk}) →
  (∀e s',X.R s (f.mo m) fz e s'→E e s')→wpAny (model g.prog g.w) f.A t Pq E s
def JB (g:Gx)(f:Fx)(X:Ex)(t:Sem Bool)(s:Shared)(m:Str→Option Value)(fz:List (Addr×Obj))(Q:Prop→Hp→Prop):Prop:=
 ∀(Pq:Bool→Shared→Prop) (E:Value→Shared→Prop),
  (∀b h tk mu' fz' D' H' (p:Prop),St g f h m H' mu' fz' D'→(∀p∈fz,p∈fz')→(b=true↔p)→Q p H'→Pq b {s with heap:=h,toks:=tk}) →
  (∀e s',X.R s (f.mo m) fz e s'→E e s')→wpAny (model g.prog g.w) f.A t Pq E s
structure XAt (g:Gx)(fz:List (Addr×Obj))(C e dx t:Addr)(x:V)(vs:Array Value)(sl:Array (Option Value)):Prop where
 obj:(e,⟨.ref C,some dx,.fields vs,sl⟩)∈fz
 dict:∃tk u,(dx,dictOf [⟨PyData.keyHash g.w.params (Str.ofString "why"),.str (Str.ofString "why") tk,u⟩] 1)∈fz∧DenG g fz x u
 tup:∃u,(t,{cls:=.type "tuple",data:=.seq [u].toArray})∈fz
def HdOk (f:Fx)(fz:List (Addr×Obj)):Prop:=f.hd=none∨∃e o vs,f.hd=some (.ref e)∧(e,o)∈fz∧o.data = .fields vs∧vs[2]? = some .none
theorem HdOk.mono {f:Fx}{fz fz':List (Addr×Obj)}(a:HdOk f fz)(h:∀p∈fz,p∈fz'):HdOk f fz':=a.imp id fun⟨e,o,vs,b,c,d⟩=>⟨e,o,vs,b,h _ c,d⟩
structure Locs (g:Gx)(f:Fx)(fz:List (Addr×Obj))(ns:List Str)(σ:List (Option V))(m:Str→Option Value):Prop where
 get:∀(i:Nat) (x:Str),ns[i]? = some x→∀v,σ[i]? = some (some v)→∃val,m x=some val∧DenG g fz v val
 exc:∀e C x,f.hd≠none→f.xc=some (e,C,x)→∃dx t vs sl,XAt g fz C e dx t x vs sl
 hdl:HdOk f fz
theorem XAt.mono {g:Gx}{fz fz':List (Addr×Obj)}{C e dx t:Addr}{x:V}{vs:Array Value}{sl:Array (Option Value)}(a:XAt g fz C e dx t x vs sl)(h:∀p∈fz,p∈fz'):XAt g fz' C e dx t x vs sl:=
 ⟨h _ a.obj,a.dict.elim fun tk b=>b.elim fun u c=>⟨tk,u,h _ c.1,Den.mono (FzR.le h) _ _ c.2⟩,a.tup.elim fun u b=>⟨u,h _ b⟩⟩
theorem Locs.mono {g:Gx}{f:Fx}{fz fz':List (Addr×Obj)}{ns:List Str}{σ:List (Option V)}{m:Str→Option Value}(l:Locs g f fz ns σ m)(h:∀p∈fz,p∈fz'):Locs g f fz' ns σ m:=
 ⟨fun i x hx v hv=>by obtain⟨val,a,b⟩:=l.get i x hx v hv;exact⟨val,a,Den.mono (FzR.le h) _ _ b⟩,fun e C x h1 h2=>by obtain⟨dx,t,vs,sl,a⟩:=l.exc e C x h1 h2;exact⟨dx,t,vs,sl,a.mono h⟩,l.hdl.mono h⟩
def JE (g:Gx)(f:Fx)(X:Ex)(ns:List Str)(e:Expr)(σ:List (Option V))(H:Hp)(Q:V→Hp→Prop):Prop:=
 ∀s m mu fz D,St g f s.heap m H mu fz D→Locs g f fz ns σ m→JT g f X (eval e f.env) s m fz Q
def JEs (g:Gx)(f:Fx)(X:Ex)(ns:List Str)(pos:Pos)(es:List Expr)(σ:List (Option V))(H:Hp)(Q:List V→Hp→Prop):Prop:=
 ∀s m mu fz D,St g f s.heap m H mu fz D→Locs g f fz ns σ m→JL g f X (spliced (backTo pos (starEach es f.env))) s m fz Q
def JC (g:Gx)(f:Fx)(X:Ex)(ns:List Str)(e:Expr)(σ:List (Option V))(H:Hp)(Q:Prop→Hp→Prop):Prop:=
 ∀s m mu fz D,St g f s.heap m H mu fz D→Locs g f fz ns σ m→JB g f X (isTrue e f.env (eval e f.env)) s m fz Q
section
variable {g:Gx}{f:Fx}{X:Ex}{ns:List Str}{σ:List (Option V)}{H:Hp}{s:Shared}{m:Str→Option Value}{mu fz:List (Addr×Obj)}{D:Addr→Addr}{n:Nat}
theorem JT.mono {t:Sem Value}{Q Q':V→Hp→Prop}(h:JT g f X t s m fz Q)(q:∀x H,Q x H→Q' x H):JT g f X t s m fz Q':=
 fun Pq E k kE=>h Pq E (fun v h tk mu' fz' D' H' x st le d hq=>k v h tk mu' fz' D' H' x st le d (q _ _ hq)) kE
theorem qq {t:Sem Value}{Q:V→Hp→Prop}{v:Value}{x:V}{tk:Nat}(S:St g f s.heap m H mu fz D)(d:DenG g fz x v)(q:Q x H)
  (h:∀(P:Value→Shared→Prop) E,P v {s with toks:=tk}→wpAny (model g.prog g.w) f.A t P E s):JT g f X t s m fz Q:=
 fun Pq E k _=>h Pq E (k v s.heap tk mu fz D H x S (fun _ h=>h) d q)
theorem Jd {i:Int}{k:Nat}{pos:Pos}{Q:V→Hp→Prop}(q:Q (.int i) H):JE g f X ns (.Constant (.int i) k pos) σ H Q:=
 fun s m mu fz D S lo=>qq (v:=.int i s.toks) (x:=.int i) S ⟨s.toks,rfl⟩ q fun P E h=>wpAny_Constant_int h
theorem Jc {x:String}{k:Nat}{pos:Pos}{Q:V→Hp→Prop}(q:Q (.str x) H)(hx:(Str.ofString x).length≤sizeLine:=by size_fits):JE g f X ns (.Constant (.str (Str.ofString x)) k pos) σ H Q:=
 fun s m mu fz D S lo=>qq (v:=.str (Str.ofString x) s.toks) (x:=.str x) S ⟨s.toks,rfl⟩ q fun P E h=>Constant_str h
theorem Ul {b:Bool}{k:Nat}{pos:Pos}{Q:V→Hp→Prop}(q:Q (.bool b) H):JE g f X ns (.Constant (.bool b) k pos) σ H Q:=
 fun s m mu fz D S lo=>qq (v:=.bool b) (x:=.bool b) (tk:=s.toks) S rfl q fun P E h=>(fun _ _ _=>h)
theorem Uk {k:Nat}{pos:Pos}{Q:V→Hp→Prop}(q:Q .none H):JE g f X ns (.Constant .none k pos) σ H Q:=
 fun s m mu fz D S lo=>qq (v:=.none) (x:=.none) (tk:=s.toks) S rfl q fun P E h=>(fun _ _ _=>h)
theorem St.nsat (S:St g f s.heap m H mu fz D)(hb:f.bk=none):s.heap.Ns f.env.locals m:=by
 have h1:=S.fr.ns;rw[Fx.mo_none hb]at h1;rw[Fx.env_none hb];exact h1
theorem ym {i:Nat}{x:Str}{pos:Pos}{v:V}{Q:V→Hp→Prop}(ok:f.Ok g n)(hb:f.bk=none)(hx:ns[i]? = some x)(hk:f.env.scope.names.lookup x=some .local)(hd:(x==("__debug__" : Str))=false)(hv:σ[i]? = some (some v))(q:Q v H):JE g f X ns (.Name x pos) σ H Q:=by
 intro s m mu fz D S lo
 obtain⟨val,hm,d⟩:=lo.get i x hx v hv
 refine qq (tk:=s.toks) S d q fun P E h=>?_
 refine wpAny_Name (wpAny_loadName_local ok.kind hk (S.nsat hb) hm h) hd
theorem je_glob {x:Str}{pos:Pos}{v:V}{val:Value}{Q:V→Hp→Prop}(G:g.Ok)(ok:f.Ok g n)(hk:f.env.scope.names.lookup x=some .globalImplicit)(hd:(x==("__debug__" : Str))=false)(e:nsIn g.K mainGlobals x=some (some val))(d:∀fz,DenG g fz v val)(q:Q v H) :
  JE g f X ns (.Name x pos) σ H Q:=by
 intro s m mu fz D S lo
 exact qq (tk:=s.toks) S (d fz) q fun P E h=>nameG_K S.fr (ok.x G) (topRead_of (ok.t G)) e h f.env_glob ok.kind hk hd
theorem KI {x:Str}{pos:Pos}{v:V}{val:Value}{Q:V→Hp→Prop}(G:g.Ok)(ok:f.Ok g n)(hk:f.env.scope.names.lookup x=some .globalImplicit)(hd:(x==("__debug__" : Str))=false)(e:nsIn g.K mainGlobals x=some none)(hv:bootBuiltins x=some val)(hn:x ≠ "__name__")(d:∀fz,DenG g fz v val)(q:Q v H) :
  JE g f X ns (.Name x pos) σ H Q:=by
 intro s m mu fz D S lo
 have F:=S.fr
 have T:=topRead_of (ok.t G)
 refine qq (tk:=s.toks) S (d fz) q fun P E h=>?_
 exact Name_function_global ok.kind hk (loadGlobal_builtin (env:=f.env) (by rw[f.env_glob];exact T.g.keeps F.keep) (mg_none_of (ok.x G) T.g e) (by rw[f.env_bui];exact T.b.keeps F.keep) ((T.builtins x hn).trans hv) h) hd
end
section
variable {g:Gx}{f:Fx}{X:Ex}{ns:List Str}{σ:List (Option V)}{H:Hp}{n:Nat}
def Op1 (g:Gx)(f:Fx)(X:Ex)(t:Value→Sem Value)(x:V)(H:Hp)(Q:V→Hp→Prop):Prop:=
 ∀s m mu fz D v,St g f s.heap m H mu fz D→DenG g fz x v→JT g f X (t v) s m fz Q
def Op2 (g:Gx)(f:Fx)(X:Ex)(t:Value→Value→Sem Value)(x y:V)(H:Hp)(Q:V→Hp→Prop):Prop:=
 ∀s m mu fz D v w,St g f s.heap m H mu fz D→DenG g fz x v→DenG g fz y w→JT g f X (t v w) s m fz Q
def OpT (g:Gx)(f:Fx)(X:Ex)(x:V)(H:Hp)(Q:Prop→Hp→Prop):Prop:=
 ∀s m mu fz D v,St g f s.heap m H mu fz D→DenG g fz x v→JB g f X (truthy v) s m fz Q
abbrev Bin (g:Gx)(f:Fx)(X:Ex)(op:Operator)(x y:V)(H:Hp)(Q:V→Hp→Prop):Prop:=Op2 g f X (binaryOp op) x y H Q
abbrev Cmp (g:Gx)(f:Fx)(X:Ex)(op:CmpOp)(x y:V)(H:Hp)(Q:V→Hp→Prop):Prop:=Op2 g f X (compareOp op) x y H Q
theorem ja {l₁ l₂ l₃:List (Addr×Obj)}(a:∀p∈l₁,p∈l₂)(b:∀p∈l₂,p∈l₃):∀p∈l₁,p∈l₃:=fun p h=>b p (a p h)
theorem je_bin {l r:Expr}{op:Operator}{pos:Pos}{Q:V→Hp→Prop}(h:JE g f X ns l σ H (fun x H₁=>JE g f X ns r σ H₁ (fun y H₂=>Bin g f X op x y H₂ Q))):JE g f X ns (.BinOp l op r pos) σ H Q:=by
 intro s m mu fz D S lo P E k kE
 refine wpAny_BinOp (h s m mu fz D S lo _ E (fun v h tk mu₁ fz₁ D₁ H₁ x S₁ le₁ d₁ q₁=>?_) kE)
 refine q₁ {s with heap:=h,toks:=tk} m mu₁ fz₁ D₁ S₁ (lo.mono le₁) _ E (fun w h₂ tk₂ mu₂ fz₂ D₂ H₂ y S₂ le₂ d₂ q₂=>?_) (fun e s' hx=>kE e s' (X.mono le₁ hx))
 exact q₂ {s with heap:=h₂,toks:=tk₂} m mu₂ fz₂ D₂ v w S₂ (Den.mono (FzR.le le₂) _ _ d₁) d₂ P E (fun v h tk mu' fz' D' H' x st le' d q=>k v h tk mu' fz' D' H' x st (ja le₁ (ja le₂ le')) d q)
  (fun e s' hx=>kE e s' (X.mono (ja le₁ le₂) hx))
theorem je_cmp {l r:Expr}{op:CmpOp}{pos:Pos}{Q:V→Hp→Prop}(h:JE g f X ns l σ H (fun x H₁=>JE g f X ns r σ H₁ (fun y H₂=>Cmp g f X op x y H₂ Q)))(hm:behindInMarks op r=false):JE g f X ns (.Compare l [op] [r] pos) σ H Q:=by
 intro s m mu fz D S lo P E k kE
 refine wpAny_Compare1 (h s m mu fz D S lo _ E (fun v h tk mu₁ fz₁ D₁ H₁ x S₁ le₁ d₁ q₁=>?_) kE) hm
 refine q₁ {s with heap:=h,toks:=tk} m mu₁ fz₁ D₁ S₁ (lo.mono le₁) _ E (fun w h₂ tk₂ mu₂ fz₂ D₂ H₂ y S₂ le₂ d₂ q₂=>?_) (fun e s' hx=>kE e s' (X.mono le₁ hx))
 exact q₂ {s with heap:=h₂,toks:=tk₂} m mu₂ fz₂ D₂ v w S₂ (Den.mono (FzR.le le₂) _ _ d₁) d₂ P E (fun v h tk mu' fz' D' H' x st le' d q=>k v h tk mu' fz' D' H' x st (ja le₁ (ja le₂ le')) d q)
  (fun e s' hx=>kE e s' (X.mono (ja le₁ le₂) hx))
theorem je_un {e:Expr}{op:UnaryOp}{pos:Pos}{Q:V→Hp→Prop}(h:JE g f X ns e σ H (fun x H₁=>Op1 g f X (unaryOp op) x H₁ Q)):JE g f X ns (.UnaryOp op e pos) σ H Q:=by
 intro s m mu fz D S lo P E k kE
 refine UnaryOp_ (h s m mu fz D S lo _ E (fun v h tk mu₁ fz₁ D₁ H₁ x S₁ le₁ d₁ q₁=>?_) kE)
 exact q₁ {s with heap:=h,toks:=tk} m mu₁ fz₁ D₁ v S₁ d₁ P E (fun v h tk mu' fz' D' H' x st le' d q=>k v h tk mu' fz' D' H' x st (ja le₁ le') d q) (fun e s' hx=>kE e s' (X.mono le₁ hx))
theorem jc_of {e:Expr}{Q:Prop→Hp→Prop}(h:JE g f X ns e σ H (fun x H₁=>OpT g f X x H₁ Q))(he:∀env whole,isTrue e env whole=(do let v ← whole;standAt e.pos;holding [v] (truthy v))):JC g f X ns e σ H Q:=by
 intro s m mu fz D S lo P E k kE
 refine isTrue_plain (h s m mu fz D S lo _ E (fun v h tk mu₁ fz₁ D₁ H₁ x S₁ le₁ d₁ q₁=>?_) kE) (he _ _)
 exact q₁ {s with heap:=h,toks:=tk} m mu₁ fz₁ D₁ v S₁ d₁ P E (fun v h tk mu' fz' D' H' p st le' d q=>k v h tk mu' fz' D' H' p st (ja le₁ le') d q) (fun e s' hx=>kE e s' (X.mono le₁ hx))
theorem jc_cmp {l r:Expr}{op:CmpOp}{pos:Pos}{Q:Prop→Hp→Prop}(h:JE g f X ns l σ H (fun x H₁=>JE g f X ns r σ H₁ (fun y H₂=>Cmp g f X op x y H₂ (fun z H₃=>OpT g f X z H₃ Q))))(hm:behindInMarks op r=false):JC g f X ns (.Compare l [op] [r] pos) σ H Q:=by
 intro s m mu fz D S lo P E k kE
 refine wpAny_isTrue_Compare1 (h s m mu fz D S lo _ E (fun v h tk mu₁ fz₁ D₁ H₁ x S₁ le₁ d₁ q₁=>?_) kE) hm
 refine q₁ {s with heap:=h,toks:=tk} m mu₁ fz₁ D₁ S₁ (lo.mono le₁) _ E (fun w h₂ tk₂ mu₂ fz₂ D₂ H₂ y S₂ le₂ d₂ q₂=>?_) (fun e s' hx=>kE e s' (X.mono le₁ hx))
 refine q₂ {s with heap:=h₂,toks:=tk₂} m mu₂ fz₂ D₂ v w S₂ (Den.mono (FzR.le le₂) _ _ d₁) d₂ _ E (fun v h₃ tk₃ mu₃ fz₃ D₃ H₃ x S₃ le₃ d₃ q₃=>?_) (fun e s' hx=>kE e s' (X.mono (ja le₁ le₂) hx))
 exact q₃ {s with heap:=h₃,toks:=tk₃} m mu₃ fz₃ D₃ v S₃ d₃ P E (fun v h tk mu' fz' D' H' x st le' d q=>k v h tk mu' fz' D' H' x st (ja (ja le₁ le₂) (ja le₃ le')) d q) (fun e s' hx=>kE e s' (X.mono (ja le₁ (ja le₂ le₃)) hx))
theorem jc_not {e:Expr}{pos:Pos}{Q:Prop→Hp→Prop}(h:JC g f X ns e σ H (fun p H₁=>Q (¬p) H₁)):JC g f X ns (.UnaryOp .Not e pos) σ H Q:=by
 intro s m mu fz D S lo P E k kE
 exact isTrue_not (h s m mu fz D S lo _ E (fun b h tk mu₁ fz₁ D₁ H₁ p S₁ le₁ d₁ q₁=>k (!b) h tk mu₁ fz₁ D₁ H₁ (¬p) S₁ le₁ (by rw[Bool.not_eq_true',← Bool.not_eq_true,d₁]) q₁) kE)
theorem je_if {t b o:Expr}{pos:Pos}{Q:V→Hp→Prop}(h:JC g f X ns t σ H (fun p H₁=>(p→JE g f X ns b σ H₁ Q)∧(¬p→JE g f X ns o σ H₁ Q))):JE g f X ns (.IfExp t b o pos) σ H Q:=by
 intro s m mu fz D S lo P E k kE
 refine IfExp_ (h s m mu fz D S lo _ E (fun c h tk mu₁ fz₁ D₁ H₁ p S₁ le₁ d₁ q₁=>?_) kE)
 have k':∀v h tk mu' fz' D' H' x,St g f h m H' mu' fz' D'→(∀p∈fz₁,p∈fz')→DenG g fz' x v→Q x H'→P v {s with heap:=h,toks:=tk}:=fun v h tk mu' fz' D' H' x st le' d q=>k v h tk mu' fz' D' H' x st (ja le₁ le') d q
 cases c with
 | true=>rw[if_pos rfl];exact q₁.1 (d₁.mp rfl) {s with heap:=h,toks:=tk} m mu₁ fz₁ D₁ S₁ (lo.mono le₁) P E k' (fun e s' hx=>kE e s' (X.mono le₁ hx))
 | false=>rw[if_neg Bool.false_ne_true];exact q₁.2 (fun z=>by simpa using d₁.mpr z) {s with heap:=h,toks:=tk} m mu₁ fz₁ D₁ S₁ (lo.mono le₁) P E k' (fun e s' hx=>kE e s' (X.mono le₁ hx))
theorem jc_if {t b o:Expr}{pos:Pos}{Q:Prop→Hp→Prop}(h:JC g f X ns t σ H (fun p H₁=>(p→JC g f X ns b σ H₁ Q)∧(¬p→JC g f X ns o σ H₁ Q))):JC g f X ns (.IfExp t b o pos) σ H Q:=by
 intro s m mu fz D S lo P E k kE
 refine isTrue_IfExp (h s m mu fz D S lo _ E (fun c h tk mu₁ fz₁ D₁ H₁ p S₁ le₁ d₁ q₁=>?_) kE)
 have k':∀v h tk mu' fz' D' H' (x:Prop),St g f h m H' mu' fz' D'→(∀p∈fz₁,p∈fz')→(v=true↔x)→Q x H'→P v {s with heap:=h,toks:=tk}:=fun v h tk mu' fz' D' H' x st le' d q=>k v h tk mu' fz' D' H' x st (ja le₁ le') d q
 cases c with
 | true=>rw[if_pos rfl];exact q₁.1 (d₁.mp rfl) {s with heap:=h,toks:=tk} m mu₁ fz₁ D₁ S₁ (lo.mono le₁) P E k' (fun e s' hx=>kE e s' (X.mono le₁ hx))
 | false=>rw[if_neg Bool.false_ne_true];exact q₁.2 (fun z=>by simpa using d₁.mpr z) {s with heap:=h,toks:=tk} m mu₁ fz₁ D₁ S₁ (lo.mono le₁) P E k' (fun e s' hx=>kE e s' (X.mono le₁ hx))
theorem Qq {pos:Pos}{Q:List V→Hp→Prop}(q:Q [] H):JEs g f X ns pos [] σ H Q:=
 fun s m mu fz D S lo P E k kE=>spliced_none (k [] s.heap s.toks mu fz D H [] S (fun _ h=>h) rfl q)
theorem zu {pos:Pos}{e:Expr}{es:List Expr}{Q:List V→Hp→Prop}(h:JE g f X ns e σ H (fun x H₁=>JEs g f X ns pos es σ H₁ (fun xs H₂=>Q (x::xs) H₂)))(he:∀env,starEach (e::es) env=(false,eval e env)::starEach es env):JEs g f X ns pos (e::es) σ H Q:=by
 intro s m mu fz D S lo P E k kE
 refine spliced_more (h s m mu fz D S lo _ E (fun v h tk mu₁ fz₁ D₁ H₁ x S₁ le₁ d₁ q₁=>?_) kE) (he _)
 exact q₁ {s with heap:=h,toks:=tk} m mu₁ fz₁ D₁ S₁ (lo.mono le₁) _ E (fun vs h tk mu₂ fz₂ D₂ H₂ xs S₂ le₂ d₂ q₂=>k (v::vs) h tk mu₂ fz₂ D₂ H₂ (x::xs) S₂ (ja le₁ le₂) ⟨v,vs,rfl,Den.mono (FzR.le le₂) _ _ d₁,d₂⟩ q₂) (fun e s' hx=>kE e s' (X.mono le₁ hx))
theorem jr {h₀:Heap}{L:Addr}{s:Shared}{m:Str→Option Value}{news:List (Addr×Obj)}(N:News h₀ L s.heap news):∀p∈news,p.1<s.heap.objs.size:=fun p hp=>Heap.lt_size (N p hp).1
theorem je_tuple {es:List Expr}{c:Nat}{pos:Pos}{Q:V→Hp→Prop}(h:JEs g f X ns pos es σ H (fun xs H₁=>Q (.tup xs) H₁∧xs.length≤1000000)):JE g f X ns (.Tuple es c pos) σ H Q:=by
 intro s m mu fz D S lo P E k kE
 refine Tuple_ (h s m mu fz D S lo _ E (fun vs h tk mu₁ fz₁ D₁ H₁ xs S₁ le₁ d₁ q₁=>?_) kE)
 refine newTuple_N (s:={s with heap:=h,toks:=tk}) S₁.fr S₁.led.news (fun h' F' N'=>?_) (by rw[d₁.length,sizeLine_eq];have:=q₁.2;lia)
 have L':=S₁.led.push_fz (jr (s:={s with heap:=h,toks:=tk}) (m:=m) S₁.led.news) N'
 exact k _ h' tk mu₁ _ D₁ H₁ (.tup xs) ⟨F',L'⟩ (fun p hp=>.tail _ (le₁ p hp)) ⟨_,vs,0,rfl,.inr (.head _),Dens.mono (FzR.le fun _ h=>.tail _ h) _ _ d₁,Nat.le_trans q₁.2 (by decide)⟩ q₁.1
theorem je_list {es:List Expr}{pos:Pos}{Q:V→Hp→Prop}(h:JEs g f X ns pos es σ H (fun xs H₁=>(∀a,H₁ a=none→Q (.ref a) (H₁.set a (.list xs)))∧xs.length≤1000000)):JE g f X ns (.List es pos) σ H Q:=by
 intro s m mu fz D S lo P E k kE
 refine List_ (h s m mu fz D S lo _ E (fun vs h tk mu₁ fz₁ D₁ H₁ xs S₁ le₁ d₁ q₁=>?_) kE)
 refine newList_N (s:={s with heap:=h,toks:=tk}) S₁.fr S₁.led.news (fun h' F' N'=>?_) (by rw[d₁.length,sizeLine_eq];have:=q₁.2;lia)
 have fr:=jr (s:={s with heap:=h,toks:=tk}) (m:=m) S₁.led.news
 have L':=S₁.led.push_list fr N' d₁ (Nat.le_trans q₁.2 (by decide))
 exact k _ h' tk _ fz₁ D₁ _ (.ref _) ⟨F',L'⟩ le₁ rfl (q₁.1 _ (S₁.led.fresh fr))
end
section
variable {g:Gx}{f:Fx}{X:Ex}{H:Hp}{n:Nat}{Q:V→Hp→Prop}{i j:Int}
theorem jK {t:Value→Value→Sem Value}{x y z:V}(q:Q z H)
  (h:∀s fz v w,DenG g fz x v→DenG g fz y w→∃u tk,DenG g fz z u∧∀(P E:Value→Shared→Prop),P u {s with toks:=tk}→wpAny (model g.prog g.w) f.A (t v w) P E s):Op2 g f X t x y H Q:=
 fun s m mu fz D v w S dv dw=>by
  obtain⟨u,tk,d,r⟩:=h s fz v w dv dw
  exact qq S d q r
theorem op1_of {t:Value→Sem Value}{x z:V}(q:Q z H)
  (h:∀s fz v,DenG g fz x v→∃u tk,DenG g fz z u∧∀(P E:Value→Shared→Prop),P u {s with toks:=tk}→wpAny (model g.prog g.w) f.A (t v) P E s):Op1 g f X t x H Q:=
 fun s m mu fz D v S dv=>by
  obtain⟨u,tk,d,r⟩:=h s fz v dv
  exact qq S d q r
theorem bin_add (q:Q (.int (i+j)) H):Bin g f X .Add (.int i) (.int j) H Q:=jK q fun s fz v w ⟨t,e⟩ ⟨u,e'⟩=>⟨_,_,⟨_,rfl⟩,fun P E h=>by subst e e';exact add_int h⟩
theorem bin_sub (q:Q (.int (i-j)) H):Bin g f X .Sub (.int i) (.int j) H Q:=jK q fun s fz v w ⟨t,e⟩ ⟨u,e'⟩=>⟨_,_,⟨_,rfl⟩,fun P E h=>by subst e e';exact sub_int h⟩
theorem bin_mul (hm:IntMulOk i j)(q:Q (.int (i*j)) H):Bin g f X .Mult (.int i) (.int j) H Q:=jK q fun s fz v w ⟨t,e⟩ ⟨u,e'⟩=>⟨_,_,⟨_,rfl⟩,fun P E h=>by subst e e';exact mul_int h hm⟩
theorem bin_mod (hj:j≠0)(q:Q (.int (i.fmod j)) H):Bin g f X .Mod (.int i) (.int j) H Q:=jK q fun s fz v w ⟨t,e⟩ ⟨u,e'⟩=>⟨_,_,⟨_,rfl⟩,fun P E h=>by subst e e';exact mod_int' hj h⟩
theorem nopy {x y:Int}(h:y.natAbs<2 ^ 64):Builtin.divisionGoesByPylong x y=false:=by
 refine PyProof.noPylong_of_log2 ?_
 by_cases h0:y.natAbs=0
 ·rw[h0];decide +kernel
 ·have:y.natAbs.log2<64:=(Nat.log2_lt h0).mpr h
  lia
theorem bin_fdiv (hj:j≠0)(hs:j.natAbs<2 ^ 64)(q:Q (.int (i.fdiv j)) H):Bin g f X .FloorDiv (.int i) (.int j) H Q:=jK q fun s fz v w ⟨t,e⟩ ⟨u,e'⟩=>⟨_,_,⟨_,rfl⟩,fun P E h=>by subst e e';exact floordiv_int hj h (.inl (nopy hs))⟩
theorem bin_shl (hj:0≤j)(hs:(Builtin.Int.intBits i:Int)+j≤2 ^ 27)(q:Q (.int (i*2 ^ j.toNat)) H):Bin g f X .LShift (.int i) (.int j) H Q:=jK q fun s fz v w ⟨t,e⟩ ⟨u,e'⟩=>⟨_,_,⟨_,rfl⟩,fun P E h=>by subst e e';exact lshift_int hj hs h⟩
theorem bin_shr (hj:0≤j)(q:Q (.int (i.fdiv (2 ^ j.toNat))) H):Bin g f X .RShift (.int i) (.int j) H Q:=jK q fun s fz v w ⟨t,e⟩ ⟨u,e'⟩=>⟨_,_,⟨_,rfl⟩,fun P E h=>by subst e e';exact rshift_int hj h⟩
theorem bin_pow (hj:0≤j)(hs:(Builtin.Int.intBits i:Int)*j≤2 ^ 27)(q:Q (.int (i ^ j.toNat)) H):Bin g f X .Pow (.int i) (.int j) H Q:=jK q fun s fz v w ⟨t,e⟩ ⟨u,e'⟩=>⟨_,_,⟨_,rfl⟩,fun P E h=>by subst e e';exact pow_int hj hs h⟩
theorem bin_and (q:Q (.int (Builtin.bitAnd i j)) H):Bin g f X .BitAnd (.int i) (.int j) H Q:=jK q fun s fz v w ⟨t,e⟩ ⟨u,e'⟩=>⟨_,_,⟨_,rfl⟩,fun P E h=>by subst e e';exact and_int h⟩
theorem bin_or (q:Q (.int (Builtin.bitOr i j)) H):Bin g f X .BitOr (.int i) (.int j) H Q:=jK q fun s fz v w ⟨t,e⟩ ⟨u,e'⟩=>⟨_,_,⟨_,rfl⟩,fun P E h=>by subst e e';exact or_int h⟩
theorem bin_xor (q:Q (.int (Builtin.bitXor i j)) H):Bin g f X .BitXor (.int i) (.int j) H Q:=jK q fun s fz v w ⟨t,e⟩ ⟨u,e'⟩=>⟨_,_,⟨_,rfl⟩,fun P E h=>by subst e e';exact xor_int h⟩
theorem un_neg (q:Q (.int (-i)) H):Op1 g f X (unaryOp .USub) (.int i) H Q:=op1_of q fun s fz v ⟨t,e⟩=>⟨_,_,⟨_,rfl⟩,fun P E h=>by subst e;exact neg_int h⟩
theorem cmp_lt (q:Q (.bool (decide (i<j))) H):Cmp g f X .Lt (.int i) (.int j) H Q:=jK q fun s fz v w ⟨t,e⟩ ⟨u,e'⟩=>⟨.bool (decide (i<j)),s.toks,rfl,fun P E h=>by subst e e';exact lt_int h⟩
theorem cmp_le (q:Q (.bool (decide (i≤j))) H):Cmp g f X .LtE (.int i) (.int j) H Q:=jK q fun s fz v w ⟨t,e⟩ ⟨u,e'⟩=>⟨.bool (decide (i≤j)),s.toks,rfl,fun P E h=>by subst e e';exact le_int h⟩
theorem cmp_gt (q:Q (.bool (decide (j<i))) H):Cmp g f X .Gt (.int i) (.int j) H Q:=jK q fun s fz v w ⟨t,e⟩ ⟨u,e'⟩=>⟨.bool (decide (j<i)),s.toks,rfl,fun P E h=>by subst e e';exact gt_int h⟩
theorem cmp_ge (q:Q (.bool (decide (j≤i))) H):Cmp g f X .GtE (.int i) (.int j) H Q:=jK q fun s fz v w ⟨t,e⟩ ⟨u,e'⟩=>⟨.bool (decide (j≤i)),s.toks,rfl,fun P E h=>by subst e e';exact ge_int h⟩
theorem cmp_eq (q:Q (.bool (decide (i=j))) H):Cmp g f X .Eq (.int i) (.int j) H Q:=jK q fun s fz v w ⟨t,e⟩ ⟨u,e'⟩=>⟨.bool (decide (i=j)),s.toks,rfl,fun P E h=>by subst e e';exact eq_int (by rw[show(i==j)=decide (i=j)from rfl];exact h)⟩
theorem cmp_ne (q:Q (.bool (decide (i≠j))) H):Cmp g f X .NotEq (.int i) (.int j) H Q:=jK q fun s fz v w ⟨t,e⟩ ⟨u,e'⟩=>⟨.bool (decide (i≠j)),s.toks,rfl,fun P E h=>by
 subst e e';exact ne_int (by rw[show(i != j)=decide (i≠j)from by simp[bne,decide_not];rfl];exact h)⟩
def V.isNone:V→Bool
 | .none=>true
 | _=>false
theorem zL {P:Cf}{R:Rig}{x:V}{v:Value}(d:Den P R x v)(hx:∀n,x≠.bi n):plainIs v .none=true∧(v==Value.none)=x.isNone:=by
 cases x with
 | none=>rw[show v=_ from d];exact⟨rfl,rfl⟩
 | bool b=>rw[show v=_ from d];exact⟨rfl,rfl⟩
 | int i=>obtain⟨t,rfl⟩:=d;exact⟨rfl,rfl⟩
 | str x=>obtain⟨t,rfl⟩:=d;exact⟨rfl,rfl⟩
 | typ n=>rw[show v=_ from d];exact⟨rfl,rfl⟩
 | bi n=>exact absurd rfl (hx n)
 | ref a=>rw[show v=_ from d];exact⟨rfl,rfl⟩
 | rng _ _=>obtain⟨a,t,u,w,rfl,_⟩:=d;exact⟨rfl,rfl⟩
 | tup xs=>obtain⟨a,vs,n,rfl,_⟩:=d;exact⟨rfl,rfl⟩
 | lst xs=>obtain⟨a,vs,n,_,_,rfl,_⟩:=d;exact⟨rfl,rfl⟩
 | obj C xs=>obtain⟨a,dx,vs,es,n,rfl,_⟩:=d;exact⟨rfl,rfl⟩
theorem Wr {x:V}(hx:∀n,x≠.bi n)(q:Q (.bool x.isNone) H):Cmp g f X .Is x .none H Q:=jK q fun s fz v w d e'=>⟨.bool x.isNone,s.toks,rfl,fun P E h=>by
 rw[show w = .none from e'];exact wpAny_is_plain (zL d hx).1 (by rw[(zL d hx).2];exact h)⟩
theorem Qy {x:V}(hx:∀n,x≠.bi n)(q:Q (.bool (!x.isNone)) H):Cmp g f X .IsNot x .none H Q:=jK q fun s fz v w d e'=>⟨.bool (!x.isNone),s.toks,rfl,fun P E h=>by
 rw[show w = .none from e'];exact wpAny_isNot_plain (zL d hx).1 (by rw[(zL d hx).2];exact h)⟩
theorem qp {a b:String}(h:Str.ofString a=Str.ofString b):a=b:=by
 rw[Str.ofString_eq_byList]at h
 unfold Str.ofStringByList at h
 have h2:(a.toList.map Char.toNat)=(b.toList.map Char.toNat):=by simpa using h
 have h3:a.toList=b.toList:=(List.map_inj_right (f:=Char.toNat) (fun x y e=>Char.toNat_inj.mp e)).mp h2
 exact String.toList_inj.mp h3
theorem yi (a b:String):(Str.ofString a==Str.ofString b)=decide (a=b):=by
 by_cases h:a=b
 ·subst h;simp
 ·rw[decide_eq_false h]
  cases e:(Str.ofString a==Str.ofString b) with
  | false=>rfl
  | true=>exact absurd (qp (eq_of_beq e)) h
theorem Qc {a b:String}(q:Q (.bool (decide (a=b))) H):Cmp g f X .Eq (.str a) (.str b) H Q:=jK q fun s fz v w ⟨t,e⟩ ⟨u,e'⟩=>⟨.bool (decide (a=b)),s.toks,rfl,fun P E h=>by
 subst e e';exact eq_str (by rw[yi];exact h)⟩
theorem Qa {a b:String}(q:Q (.bool (decide (a≠b))) H):Cmp g f X .NotEq (.str a) (.str b) H Q:=jK q fun s fz v w ⟨t,e⟩ ⟨u,e'⟩=>⟨.bool (decide (a≠b)),s.toks,rfl,fun P E h=>by
 subst e e';exact ne_str (by rw[bne,yi,← decide_not];exact h)⟩
variable {QT:Prop→Hp→Prop}
theorem zq {b:Bool}(q:QT (b=true) H):OpT g f X (.bool b) H QT:=fun s m mu fz D v S d P E k kE=>by
 rw[show v = .bool b from d];exact wpAny_truthy_bool (k b s.heap s.toks mu fz D H _ S (fun _ h=>h) Iff.rfl q)
theorem uF {p:Prop}[Decidable p](q:QT p H):OpT g f X (.bool (decide p)) H QT:=fun s m mu fz D v S d P E k kE=>by
 rw[show v = .bool (decide p)from d];exact wpAny_truthy_bool (k (decide p) s.heap s.toks mu fz D H p S (fun _ h=>h) decide_eq_true_iff q)
theorem opt_int (q:QT (i≠0) H):OpT g f X (.int i) H QT:=fun s m mu fz D v S d P E k kE=>by
 obtain⟨t,rfl⟩:=d;exact truthy_int (k (i != 0) s.heap s.toks mu fz D H _ S (fun _ h=>h) (by simp) q)
theorem opt_none (q:QT False H):OpT g f X .none H QT:=fun s m mu fz D v S d P E k kE=>by
 rw[show v = .none from d];exact truthy_none (k false s.heap s.toks mu fz D H _ S (fun _ h=>h) (by simp) q)
end
inductive Fl where
 | next | brk | cont | ret (x:V)
def FlIs (g:Gx)(fz:List (Addr×Obj)):Fl→Flow→Prop
 | .next,v=>v = .next
 | .brk,v=>v = .brk
 | .cont,v=>v = .cont
 | .ret x,v=>∃u,v = .ret u∧DenG g fz x u
abbrev Lo:=List (Option V)
abbrev jD:=Fl→Lo→Hp→Prop
def JF (g:Gx)(f:Fx)(X:Ex)(ns:List Str)(t:Sem Flow)(σ:Lo)(H:Hp)(Q:jD):Prop:=
 ∀s m mu fz D,St g f s.heap m H mu fz D→Locs g f fz ns σ m→∀(Pq:Flow→Shared→Prop) (E:Value→Shared→Prop),
  (∀v h tk mu' fz' D' H' m' x σ',St g f h m' H' mu' fz' D'→(∀p∈fz,p∈fz')→FlIs g fz' x v→Locs g f fz' ns σ' m'→Q x σ' H'→Pq v {s with heap:=h,toks:=tk}) →
  (∀m' e s',X.R s m' fz e s'→E e s')→wpAny (model g.prog g.w) f.A t Pq E s
abbrev JS (g:Gx)(f:Fx)(X:Ex)(ns:List Str)(st:Stmt)(σ:Lo)(H:Hp)(Q:jD):Prop:=JF g f X ns (exec st f.env) σ H Q
abbrev JSs (g:Gx)(f:Fx)(X:Ex)(ns:List Str)(ss:List Stmt)(σ:Lo)(H:Hp)(Q:jD):Prop:=JF g f X ns (execs ss f.env) σ H Q
structure Wi (g:Gx)(f f':Fx):Prop where
 below:Below f'.A₀ g.base f'.outer f'.h₀
 hA:f'.A₀=f.A
 houter:f'.outer=f.env0::f.outer
 bk:f'.bk=none
 kind:f'.scope.kind = .function
structure ExF (g:Gx) where
 R:Fx→Ex
 calm:Prop
 leave:∀{f f':Fx} {m m':Str→Option Value} {s s':Shared} {h:Heap} {tk:Nat} {fz:List (Addr×Obj)} {e:Value},Wi g f f'→f.scope.kind = .function→Fr f.h₀ f.L f'.h₀ m→(R f').R {s with heap:=h,toks:=tk} m' fz e s' →
  wpAny (model g.prog g.w) f'.A (leaving f'.env e) (fun _ s''=>(R f).R s m fz e s'') (fun e' s''=>(R f).R s m fz e' s'') s'
 made:∀f:Fx,(R {f with dp:=f.dp+1,un:=f.un+1}).R=(R f).R
 pass:∀{f:Fx} {m:Str→Option Value} {s s':Shared} {fz:List (Addr×Obj)} {e:Value},(∃n,Fx.Ok g f n)→f.bk=Option.none→(R f).R s m fz e s' →
  notedBy (model g.prog g.w) f.A f.env (fun e s'=>cameBackBy (model g.prog g.w) f.A f.env (fun e s'=>(R f).R s m fz e s') e s') e s'
def ExF.none {g:Gx}:ExF g:=⟨fun _=>Ex.none,True,fun _ _ _ h=>h.elim,fun _=>rfl,fun _ _ h=>h.elim⟩
def ExF.still {g:Gx}:ExF g:=⟨fun _=>Ex.none,False,fun _ _ _ h=>h.elim,fun _=>rfl,fun _ _ h=>h.elim⟩
def jb (g:Gx)(XF:ExF g)(n:Nat)(fv:Value)(args:List V)(H:Hp)(Q:V→Hp→Prop):Prop:=
 ∀f s m mu fz D vals,Fx.Ok g f n→(XF.calm∨f.hd = .none)→HdOk f fz→St g f s.heap m H mu fz D→qf g fz args vals→∀R:Result→Shared→Prop,
  (∀v h tk mu' fz' D' H' x,St g f h m H' mu' fz' D'→(∀p∈fz,p∈fz')→DenG g fz' x v→Q x H'→R (.ok (.ret v)) {s with heap:=h,toks:=tk}) →
  (∀e s',(XF.R f).R s (f.mo m) fz e s'→R (.error e) s')→codeAny (model g.prog g.w) f.A (.call fv ⟨vals,[]⟩) R s
theorem jb.mono {g:Gx}{XF:ExF g}{n:Nat}{fv:Value}{args:List V}{H:Hp}{Q Q':V→Hp→Prop}(h:jb g XF n fv args H Q)(q:∀x H,Q x H→Q' x H):jb g XF n fv args H Q':=
 fun f s m mu fz D vals ok hq hO S d R k kE=>h f s m mu fz D vals ok hq hO S d R (fun v h tk mu' fz' D' H' x st le d hq=>k v h tk mu' fz' D' H' x st le d (q _ _ hq)) kE
theorem Led.rebase {P:Cf}{base h₀ h₁ h h':Heap}{L L':Addr}{H:Hp}{mu fz:List (Addr×Obj)}{D:Addr→Addr}(l:Led P base h₀ L h H mu fz D)(N:News h₁ L' h' (mu++fz)):Led P base h₁ L' h' H mu fz D:=⟨N,l.nd,l.list,l.inst,l.dict,l.ns,l.dinj,l.dfree⟩
def Locs0 (g:Gx)(fz:List (Addr×Obj))(ns:List Str)(σ:Lo)(m:Str→Option Value):Prop:=
 ∀(i:Nat) (x:Str),ns[i]? = some x→∀v,σ[i]? = some (some v)→∃val,m x=some val∧DenG g fz v val
theorem Xz {g:Gx}(G:g.Ok){XF:ExF g}{n:Nat}{fa:Addr}{name qual:Str}{params:Arguments}{body:List Stmt}{scope:Scope}{dV kV doc pm cdv ct oc:Value}{an od:Option Addr}{osl:Array (Option Value)}{args:List V}{H:Hp}{Q:V→Hp→Prop}{ns:List Str}{bs:List Value→List (Str×Value)}{σ:Lo}
  (ho:g.K.lookup fa=some ⟨oc,od,.func (fnOf name qual params body scope dV kV doc pm an cdv ct),osl⟩) (hcd:codeIn g.K cdv qual=true)
  (hb:∀(vals:List Value) (s:Shared),g.K.In s.heap→vals.length=args.length→BindsTo s (fnOf name qual params body scope dV kV doc pm an cdv ct) ⟨vals,[]⟩ (bs vals))
  (hlo:∀vals:List Value,∀y∈bs vals,scope.names.lookup y.1=some .local)
  (hco:scope.isCoroutine=false) (hgen:scope.isGenerator=false) (hk:scope.kind = .function) (hcell:∀x∈scope.names,x.2≠.cell)
  (hσ:∀(fz:List (Addr×Obj)) (vals:List Value),qf g fz args vals→Locs0 g fz ns σ (fun y=>(bs vals).reverse.lookup y))
  (h:∀(L':Addr) f',f'.name=qual→f'.scope=scope→f'.bk = .none→f'.xc = .none→Fx.Ok g f' n→(XF.calm∨f'.hd = .none)→JSs g f' (XF.R f') ns body σ H (fun fl _ H'=>Q (match fl with | .ret x=>x | _=>.none) H')) :
  jb g XF (n+1) (.ref fa) args H Q:=by
 intro f s m mu fz D vals ok hq hO S d R k kE
 have hlen:vals.length=args.length:=d.length
 refine code_def (A:=f.A) (env:=f.env0) (outer:=f.outer) (A₀:=f.A₀) (base:=g.base) ok.below S.fr (ok.x G) S.led.news (ok.t G) rfl rfl ok.kind0 ho hcd (by have:=ok.dp;show f.dp<recursionLimit;lia) (hb vals s ((ok.x G).keeps S.fr.keep) hlen)
  (hlo vals) (fun gh L' h₁ FG F' N' B' X' T'=>?_) hco hgen hk hcell
 let f':Fx:=⟨f.hd,f.dp+1,f.un+3,f.gd,qual,scope,L',fa,cdv,f.env0::f.outer,f.A,gh,.none,.none⟩
 have ok':Fx.Ok g f' n:=⟨B',hk,hk,by have:=ok.dp;show f.dp+1+2*n<_;lia,by have:=ok.un;show f.un+3+8*n<_;lia⟩
 have S':St g f' h₁ (fun y=>(bs vals).reverse.lookup y) H mu fz D:=⟨F',S.led.rebase N'⟩
 refine h L' f' rfl rfl rfl rfl ok' hq {s with heap:=h₁,toks:=s.toks+(bs vals).length} _ mu fz D S' ⟨hσ fz vals d,fun _ _ _ _ h=>(by cases h),hO⟩ _ _ (fun v h tk mu' fz' D' H' m' x σ' st le d' lo q=>?_) (fun m' e s' hx=>?_)
 ·refine leaveK_ st.fr st.led.news fun kF kN=>?_
  refine k _ h tk mu' fz' D' H' _ ⟨kF,st.led.rebase kN⟩ le ?_ q
  cases x with
  | ret y=>obtain⟨u,rfl,du⟩:=d';exact du
  | next=>rw[show v=_ from d'];exact rfl
  | brk=>rw[show v=_ from d'];exact rfl
  | cont=>rw[show v=_ from d'];exact rfl
 ·exact wpAny_mono (XF.leave (f:=f) (f':=f') ⟨B',rfl,rfl,rfl,hk⟩ ok.kind0 FG hx) (fun _ s'' z=>kE e s'' z) (fun e' s'' z=>kE e' s'' z)
def wj (es:List Expr):Prop:=∀env,starEach es env=es.map fun e=>(false,eval e env)
theorem Ju {es:List Expr}{env:Env}{pos:Pos}(h:wj es):backTo pos (starEach es env)=es.map fun e=>(false,eval e env):=by
 rw[h,backTo,List.map_map];rfl
section
variable {g:Gx}{f:Fx}{XF:ExF g}{ns:List Str}{σ:Lo}{H:Hp}{n:Nat}
theorem ql {pos:Pos}{args:List Expr}{fv:Value}{first:List Value}{P:Value→Shared→Prop}{E:Value→Shared→Prop}{s:Shared}{M:Model}{A:Around}{env:Env}{Pk:Heap→Prop}(hp:wj args)
  (hk:∀h,Pk h→∃k,(k=Keeper.frame∨k=Keeper.machine∨k=Keeper.boundFrame)∧Looks M h (keeperOf fv) k)
  (h:wpAny M A (spliced (backTo pos (starEach args env))) (fun vs s₁=>Pk s₁.heap∧wpAny M A (call fv (first++vs) []) P E s₁) E s):wpAny M A (callWith pos fv first (backTo pos (starEach args env)) []) P E s:=by
 rw[Ju hp]at h ⊢
 cases args with
 | nil=>exact callWith_of rfl hk (fun Γ p hΓ=>evalArgs_nil3 (f:=fv) (E:=E) (h Γ p hΓ) Γ p hΓ)
 | cons e es=>exact callWith_of (by simp) hk (evalArgs_plain h)
theorem WE {x:Str}{p pos:Pos}{args:List Expr}{fa:Addr}{Q:V→Hp→Prop}(G:g.Ok)(ok:f.Ok g n)(hq:XF.calm∨f.hd = .none)(hkeep:keepIn g.K (.ref fa)=true)(hpl:wj args)
  (h:JE g f (XF.R f) ns (.Name x p) σ H (fun v H₁=>v = .ref fa∧JEs g f (XF.R f) ns pos args σ H₁ (fun xs H₂=>jb g XF n (.ref fa) xs H₂ Q))):JE g f (XF.R f) ns (.Call (.Name x p) args [] pos) σ H Q:=by
 intro s m mu fz D S lo P E k kE
 refine Call_Name rfl (h s m mu fz D S lo _ E (fun v h tk mu₁ fz₁ D₁ H₁ y S₁ le₁ d₁ q₁=>?_) kE)
 obtain⟨rfl,q₁⟩:=q₁
 rw[show v = .ref fa from d₁]
 refine ql (Pk:=fun h=>g.K.In h) hpl (keeps_K hkeep) ?_
 refine q₁ {s with heap:=h,toks:=tk} m mu₁ fz₁ D₁ S₁ (lo.mono le₁) _ E (fun vs h₂ tk₂ mu₂ fz₂ D₂ H₂ xs S₂ le₂ d₂ q₂=>⟨(ok.x G).keeps S₂.fr.keep,?_⟩) (fun e s' hx=>kE e s' ((XF.R f).mono le₁ hx))
 exact wpAny_call (q₂ f {s with heap:=h₂,toks:=tk₂} m mu₂ fz₂ D₂ vs ok hq (lo.mono (ja le₁ le₂)).hdl S₂ d₂ _ (fun v h tk mu' fz' D' H' x st le' d q=>k v h tk mu' fz' D' H' x st (ja le₁ (ja le₂ le')) d q) (fun e s' hx=>kE e s' ((XF.R f).mono (ja le₁ le₂) hx)))
def jZ (g:Gx)(f:Fx)(X:Ex)(fv:Value)(args:List V)(H:Hp)(Q:V→Hp→Prop):Prop:=
 ∀s m mu fz D vals,St g f s.heap m H mu fz D→qf g fz args vals→JT g f X (call fv vals []) s m fz Q
theorem ur {fv:Value}(hv:∀a,fv≠.ref a){M:Model}(h:Heap)(_:True):∃k,(k=Keeper.frame∨k=Keeper.machine∨k=Keeper.boundFrame)∧Looks M h (keeperOf fv) k:=by
 refine⟨.machine,.inr (.inl rfl),Looks.of_pure ?_⟩
 unfold keeperOf
 split
 ·exact absurd rfl (hv _)
 ·rfl
end
theorem yo {k k':String}{t:Tok}:(Value.str (Str.ofString k') t).isStr (Str.ofString k)=decide (k'=k):=yi k' k
theorem zK {P:Cf}:∀{ns:List String} {vs:List Value} {es:List DictEntry},Ents P ns vs es→∀e∈es,∃k t,k∈ns∧e.key = .str (Str.ofString k) t
 | _::_,_::_,_::_,⟨⟨t,h⟩,r⟩,e,he=>by
  rcases qL.mp he with rfl | he
  ·exact⟨_,t,.head _,by rw[h];rfl⟩
  ·obtain⟨k,t,a,b⟩:=zK r e he;exact⟨k,t,.tail _ a,b⟩
 | _,[],[],_,_,he=>nomatch he
 | [],_::_,_,h,_,_ | _::_,_::_,[],h,_,_=>by cases h
 | [],[],_::_,h,_,_ | _::_,[],_::_,h,_,_=>by cases h
theorem Jh {P:Cf}:∀{ns:List String} {vs:List Value} {es:List DictEntry},Ents P ns vs es→ns.Nodup→∀{i:Nat} {k:String} {v:Value},ns[i]? = some k→vs[i]? = some v→getL (Str.ofString k) es=some (some v)
 | n::ns,w::vs,e::es,⟨⟨t,h⟩,r⟩,nd,0,k,v,hk,hv=>by
  cases hk;cases hv;subst h
  unfold getL
  rw[List.find?_cons_of_pos (by show(Value.str (Str.ofString n) t).isStr (Str.ofString n)=true;rw[yo];simp)]
  rfl
 | n::ns,w::vs,e::es,⟨⟨t,h⟩,r⟩,nd,i+1,k,v,hk,hv=>by
  subst h
  have hne:n≠k:=fun z=>by subst z;exact(List.nodup_cons.mp nd).1 (qW hk)
  have ih:=Jh r (List.nodup_cons.mp nd).2 hk hv
  unfold getL at ih ⊢
  rw[List.find?_cons_of_neg (by show ¬(Value.str (Str.ofString n) t).isStr (Str.ofString k)=true;rw[yo];simp[hne])]
  rw[List.any_cons,show DictEntry.refKey (entO P n t w)=false from rfl,Bool.false_or]
  exact ih
 | _,[],_,_,_,_,_,_,_,hv=>by cases hv
 | [],_::_,_,h,_,_,_,_,_,_ | _::_,_::_,[],h,_,_,_,_,_,_=>by cases h
theorem Qu {P:Cf}{ns:List String}{vs:List Value}{es:List DictEntry}(h:Ents P ns vs es){k:String}(hk:k∉ns):es.find? (·.key.isStr (Str.ofString k))=none∧es.any (·.refKey)=false:=by
 refine⟨List.find?_eq_none.mpr fun e he=>?_,List.any_eq_false.mpr fun e he=>?_⟩
 ·obtain⟨k',t,a,b⟩:=zK h e he
  rw[b,yo]
  have:k'≠k:=fun z=>hk (z▸a)
  simp[this]
 ·obtain⟨k',t,a,b⟩:=zK h e he
  unfold DictEntry.refKey
  rw[b];simp
theorem Qt {P:Cf}{ns:List String}{vs:List Value}{es:List DictEntry}(h:Ents P ns vs es){k:String}(hk:k∉ns):getL (Str.ofString k) es=some none:=by
 obtain⟨a,b⟩:=Qu h hk
 unfold getL
 rw[a,b];rfl
def zk (K:Frag)(C:Addr)(k:String):Bool:=plainGet K C (Str.ofString k)&&hasDictIn K C&&findIn K (.ref C) (Str.ofString k)==some none
def setOk (K:Frag)(C:Addr):Bool:=findIn K (.ref C) "__setattr__" == some (some (.builtin "object.__setattr__"))&&plainOver K C&&hasDictIn K C
def UF (K:Frag)(C:Addr)(k:String)(fa:Addr):Bool:=plainGet K C (Str.ofString k)&&findIn K (.ref C) (Str.ofString k)==some (some (.ref fa))&&isFn K (.ref fa)&&keepIn K (.ref fa)
def V.plain:V→Bool
 | .bi _=>false
 | _=>true
theorem KL {P:Cf}{R:Rig}{x:V}{v:Value}(d:Den P R x v)(hx:x.plain=true):handedIn v=true:=by
 cases x with
 | none=>rw[show v=_ from d];rfl
 | bool b=>rw[show v=_ from d];rfl
 | int i=>obtain⟨t,rfl⟩:=d;rfl
 | str x=>obtain⟨t,rfl⟩:=d;rfl
 | typ n=>rw[show v=_ from d];rfl
 | bi n=>cases hx
 | ref a=>rw[show v=_ from d];rfl
 | rng _ _=>obtain⟨a,t,u,w,rfl,_⟩:=d;rfl
 | tup xs=>obtain⟨a,vs,n,rfl,_⟩:=d;rfl
 | lst xs=>obtain⟨a,vs,n,_,_,rfl,_⟩:=d;rfl
 | obj C xs=>obtain⟨a,dx,vs,es,n,rfl,_⟩:=d;rfl
section
variable {g:Gx}{f:Fx}{X:Ex}{ns:List Str}{σ:Lo}{H:Hp}{n:Nat}{s:Shared}{m:Str→Option Value}{mu fz:List (Addr×Obj)}{D:Addr→Addr}
theorem St.instAt (S:St g f s.heap m H mu fz D){a C:Addr}{xs:List V}(e:H a=some (.inst C xs)):∃vs es n,InstAt s.heap a (instObj C (D a)) C (some (dictOf es n))∧Ents g.cf (g.ft C) vs es∧qf g fz xs vs∧(a,instObj C (D a))∈mu∧(D a,dictOf es n)∈mu:=by
 obtain⟨vs,es,n,m1,m2,r,d⟩:=S.led.inst a C xs e
 exact⟨vs,es,n,⟨(S.led.news _ (qB _ m1)).1,rfl,rfl,(S.led.news _ (qB _ m2)).1⟩,r,d,m1,m2⟩
theorem St.rig (G:g.Ok)(ok:f.Ok g n)(S:St g f s.heap m H mu fz D){a:Addr}{o:Obj}(h:FzR g.base fz a o):s.heap.get? a=some o:=by
 rcases h with h | h
 ·exact S.fr.keep _ _ (ok.below.stays _ _ h)
 ·exact(S.led.news _ (qA _ h)).1
def ObjAt (H:Hp)(x:V)(C:Addr)(xs:List V):Prop:=x = .obj C xs∨∃a,x = .ref a∧H a=some (.inst C xs)
theorem St.objAt (G:g.Ok)(ok:f.Ok g n)(S:St g f s.heap m H mu fz D){x:V}{v:Value}{C:Addr}{xs:List V}(d:DenG g fz x v)(e:ObjAt H x C xs) :
  ∃a ox vs es n,v = .ref a∧InstAt s.heap a ox C (some (dictOf es n))∧Ents g.cf (g.ft C) vs es∧qf g fz xs vs:=by
 rcases e with rfl | ⟨a,rfl,e⟩
 ·obtain⟨a,dx,vs,es,n,rfl,r1,r2,en,ds⟩:=d
  exact⟨a,_,vs,es,n,rfl,⟨S.rig G ok r1,rfl,rfl,S.rig G ok r2⟩,en,ds⟩
 ·obtain⟨vs,es,n,I,en,ds,_⟩:=S.instAt e
  exact⟨a,_,vs,es,n,d,I,en,ds⟩
theorem Yf (G:g.Ok)(ok:f.Ok g n){x y:V}{C:Addr}{i:Nat}{k:String}{xs:List V}{v:Value}{Q:V→Hp→Prop}{expr:Bool}(S:St g f s.heap m H mu fz D)(d:DenG g fz x v)(hat:zk g.K C k=true)(hi:(g.ft C)[i]? = some k)(hnd:(g.ft C).Nodup)
  (e:ObjAt H x C xs) (hx:xs[i]? = some y) (hy:y.plain=true) (q:Q y H):JT g f X (getAttr v (Str.ofString k) expr) s m fz Q:=by
 obtain⟨a,ox,vs,es,c,rfl,I,en,ds⟩:=S.objAt G ok d e
 obtain⟨w,hw,dw⟩:=ds.get hx
 simp only[zk,qM,beq_iff_eq]at hat
 exact qq S dw q fun P E h=>get_own S.fr (ok.x G) I hat.1.1 hat.1.2 hat.2 rfl (Jh en hnd hi hw) (KL dw hy) h
end
section
variable {g:Gx}{f:Fx}{XF:ExF g}{ns:List Str}{σ:Lo}{H:Hp}{n:Nat}
def Fx.made (f:Fx):Fx:={f with dp:=f.dp+1,un:=f.un+1}
theorem Fx.Ok.made {g:Gx}{f:Fx}{n:Nat}(ok:f.Ok g (n+1)):f.made.Ok g n:=⟨ok.below,ok.kind0,ok.kind,by have:=ok.dp;show f.dp+1+2*n<_;lia,by have:=ok.un;show f.un+1+8*n<_;lia⟩
def clsOk (K:Frag)(C fI:Addr):Bool:=makesIn K C&&findIn K (.ref C) "__init__" == some (some (.ref fI))&&isFn K (.ref fI)&&keepIn K (.ref C)
theorem Yq (G:g.Ok){C fI:Addr}{args:List V}{Q:V→Hp→Prop}(hc:clsOk g.K C fI=true)
  (h:∀a,H a=none→jb g XF n (.ref fI) (.ref a::args) (H.set a (.inst C [])) (fun x H'=>x = .none∧Q (.ref a) H')):jb g XF (n+1) (.ref C) args H Q:=by
 intro f s m mu fz D vals ok hq hO S d R k kE
 simp only[clsOk,qM,beq_iff_eq]at hc
 have fr:=jr (s:=s) (m:=m) S.led.news
 refine make_K (prog:=g.prog) (w:=g.w) (A:=f.A) S.fr S.led.news ((ok.x G).keeps S.fr.keep) hc.1.1.1 hc.1.1.2 (beq_iff_eq.mp hc.1.2) (fun x dx h' F' N' l1 l2=>?_)
 have L':=S.led.push_inst l1 l2 N'
 have hx:H x=none:=S.led.fresh fun p hp=>Nat.lt_trans (l1 p hp) l2
 refine h x hx f.made {s with heap:=h'} m _ fz _ (.ref x::vals) ok.made hq hO ⟨F',L'⟩ ⟨_,_,rfl,rfl,d⟩ _ (fun v h tk mu' fz' D' H' y st le d' q=>?_) (fun e s' hx=>?_)
 ·obtain⟨rfl,q⟩:=q
  exact⟨d',k _ h tk mu' fz' D' H' (.ref x) ⟨st.fr,st.led⟩ le rfl q⟩
 ·rw[show(XF.R (Fx.made f)).R=_ from XF.made f]at hx
  exact kE e s' ((XF.R f).mono (s:=s) (h:=h') (tk:=s.toks) (fun _ h=>h) hx)
end
theorem Locs.store {g:Gx}{f:Fx}{fz:List (Addr×Obj)}{ns:List Str}{σ:Lo}{m:Str→Option Value}{i:Nat}{x:Str}{y:V}{v:Value}(lo:Locs g f fz ns σ m)(nd:ns.Nodup)(hx:ns[i]? = some x)(d:DenG g fz y v) :
  Locs g f fz ns (σ.set i (some y)) (fun z=>if z=x then some v else m z):=by
 refine⟨?_,lo.exc,lo.hdl⟩
 intro j z hz u hu
 rw[List.getElem?_set]at hu
 by_cases e:i=j
 ·subst e
  rw[hx]at hz;cases hz
  rw[if_pos rfl]at hu
  split at hu
  ·cases hu;exact⟨v,if_pos rfl,d⟩
  ·cases hu
 ·rw[if_neg e]at hu
  have hne:z≠x:=fun q=>by
   subst q
   exact e ((List.getElem?_inj (qF.mp hx).1 nd).mp (hx.trans hz.symm))
  obtain⟨val,a,b⟩:=lo.get j z hz u hu
  exact⟨val,(if_neg hne).trans a,b⟩
section
variable {g:Gx}{f:Fx}{X:Ex}{ns:List Str}{σ:Lo}{H:Hp}{n:Nat}{Q:jD}
theorem JF.mono {t:Sem Flow}{Q':jD}(h:JF g f X ns t σ H Q)(q:∀x σ H,Q x σ H→Q' x σ H):JF g f X ns t σ H Q':=
 fun s m mu fz D S lo P E k kE=>h s m mu fz D S lo P E (fun v h tk mu' fz' D' H' m' x σ' st le d lo' hq=>k v h tk mu' fz' D' H' m' x σ' st le d lo' (q _ _ _ hq)) kE
theorem jss_nil (q:Q .next σ H):JSs g f X ns [] σ H Q:=
 fun s m mu fz D S lo P E k kE=>wpAny_execs_nil (k .next s.heap s.toks mu fz D H m .next σ S (fun _ h=>h) rfl lo q)
theorem jss_cons {st:Stmt}{rest:List Stmt}(h:JS g f X ns st σ H (fun fl σ' H'=>match fl with | .next=>JSs g f X ns rest σ' H' Q | fl=>Q fl σ' H')):JSs g f X ns (st::rest) σ H Q:=by
 intro s m mu fz D S lo P E k kE
 refine wpAny_execs_cons (h s m mu fz D S lo _ E (fun v h tk mu₁ fz₁ D₁ H₁ m₁ x σ₁ S₁ le₁ d₁ lo₁ q₁=>?_) kE)
 cases x with
 | next=>
  rw[show v = .next from d₁]
  exact q₁ {s with heap:=h,toks:=tk} m₁ mu₁ fz₁ D₁ S₁ lo₁ P E (fun v h tk mu' fz' D' H' m' x σ' st le d lo' hq=>k v h tk mu' fz' D' H' m' x σ' st (ja le₁ le) d lo' hq) (fun m' e s' hx=>kE m' e s' (X.mono le₁ hx))
 | brk=>rw[show v = .brk from d₁];exact k .brk h tk mu₁ fz₁ D₁ H₁ m₁ .brk σ₁ S₁ le₁ rfl lo₁ q₁
 | cont=>rw[show v = .cont from d₁];exact k .cont h tk mu₁ fz₁ D₁ H₁ m₁ .cont σ₁ S₁ le₁ rfl lo₁ q₁
 | ret y=>obtain⟨u,rfl,du⟩:=d₁;exact k (.ret u) h tk mu₁ fz₁ D₁ H₁ m₁ (.ret y) σ₁ S₁ le₁ ⟨u,rfl,du⟩ lo₁ q₁
theorem js_pass {pos:Pos}(q:Q .next σ H):JS g f X ns (.Pass pos) σ H Q:=
 fun s m mu fz D S lo P E k kE=>wpAny_Pass (k .next s.heap s.toks mu fz D H m .next σ S (fun _ h=>h) rfl lo q)
theorem js_expr {e:Expr}{pos:Pos}(ok:f.Ok g n)(h:JE g f X ns e σ H (fun _ H'=>Q .next σ H'))(hs:swapsWith e none pos.line f.env=pure false):JS g f X ns (.Expr e pos) σ H Q:=by
 intro s m mu fz D S lo P E k kE
 refine wpAny_Expr_any (h s m mu fz D S lo _ E (fun v h tk mu₁ fz₁ D₁ H₁ x S₁ le₁ d₁ q₁=>k .next h tk mu₁ fz₁ D₁ H₁ m .next σ S₁ le₁ rfl (lo.mono le₁) q₁) (fun e s' hx=>kE _ e s' hx)) ?_ hs
 unfold interactive;rw[show f.env.scope.kind = .function from ok.kind];rfl
theorem js_ret {e:Expr}{pos:Pos}(h:JE g f X ns e σ H (fun x H'=>Q (.ret x) σ H')):JS g f X ns (.Return (some e) pos) σ H Q:=by
 intro s m mu fz D S lo P E k kE
 exact wpAny_Return_some (h s m mu fz D S lo _ E (fun v h tk mu₁ fz₁ D₁ H₁ x S₁ le₁ d₁ q₁=>k (.ret v) h tk mu₁ fz₁ D₁ H₁ m (.ret x) σ S₁ le₁ ⟨v,rfl,d₁⟩ (lo.mono le₁) q₁) (fun e s' hx=>kE _ e s' hx))
theorem Wo {pos:Pos}(q:Q (.ret .none) σ H):JS g f X ns (.Return none pos) σ H Q:=
 fun s m mu fz D S lo P E k kE=>wpAny_Return_none (k (.ret .none) s.heap s.toks mu fz D H m (.ret .none) σ S (fun _ h=>h) ⟨_,rfl,rfl⟩ lo q)
theorem js_if {t:Expr}{b o:List Stmt}{pos:Pos}(h:JC g f X ns t σ H (fun p H'=>(p→JSs g f X ns b σ H' Q)∧(¬p→JSs g f X ns o σ H' Q))):JS g f X ns (.If t b o pos) σ H Q:=by
 intro s m mu fz D S lo P E k kE
 refine wpAny_If (h s m mu fz D S lo _ E (fun c h tk mu₁ fz₁ D₁ H₁ p S₁ le₁ d₁ q₁=>?_) (fun e s' hx=>kE _ e s' hx))
 have k':∀v h tk mu' fz' D' H' m' x σ',St g f h m' H' mu' fz' D'→(∀p∈fz₁,p∈fz')→FlIs g fz' x v→Locs g f fz' ns σ' m'→Q x σ' H'→P v {s with heap:=h,toks:=tk}:=fun v h tk mu' fz' D' H' m' x σ' st le d lo' hq=>k v h tk mu' fz' D' H' m' x σ' st (ja le₁ le) d lo' hq
 cases c with
 | true=>rw[if_pos rfl];exact q₁.1 (d₁.mp rfl) {s with heap:=h,toks:=tk} m mu₁ fz₁ D₁ S₁ (lo.mono le₁) P E k' (fun m' e s' hx=>kE m' e s' (X.mono le₁ hx))
 | false=>rw[if_neg Bool.false_ne_true];exact q₁.2 (fun z=>by simpa using d₁.mpr z) {s with heap:=h,toks:=tk} m mu₁ fz₁ D₁ S₁ (lo.mono le₁) P E k' (fun m' e s' hx=>kE m' e s' (X.mono le₁ hx))
theorem wu {s:Shared}{m:Str→Option Value}{mu fz:List (Addr×Obj)}{D:Addr→Addr}{i:Nat}{x:Str}{y:V}{v:Value}(ok:f.Ok g n)(hb:f.bk=none)(nd:ns.Nodup)(hx:ns[i]? = some x)(hl:f.env.scope.names.lookup x=some .local)(S:St g f s.heap m H mu fz D)(lo:Locs g f fz ns σ m)(d:DenG g fz y v)
  {P:Unit→Shared→Prop} {E:Value→Shared→Prop} (k:∀h tk m',St g f h m' H mu fz D→Locs g f fz ns (σ.set i (some y)) m'→P () {s with heap:=h,toks:=tk}):wpAny (model g.prog g.w) f.A (storeName f.env x v) P E s:=by
 have F:=S.fr
 rw[Fx.mo_none hb]at F
 rw[Fx.env_none hb]at hl ⊢
 exact stN F S.led.news (fun h' F' N'=>k h' _ _ ⟨by rw[Fx.mo_none hb];exact F',S.led.rebase N'⟩ (lo.store nd hx d)) ok.kind0 hl
theorem XW {i:Nat}{x:Str}{e:Expr}{p pos:Pos}(ok:f.Ok g n)(hb:f.bk=none)(nd:ns.Nodup)(hx:ns[i]? = some x)(hl:f.env.scope.names.lookup x=some .local)(h:JE g f X ns e σ H (fun y H'=>Q .next (σ.set i (some y)) H'))(hs:swapsWith e (some (.Name x p)) pos.line f.env=pure false) :
  JS g f X ns (.Assign [.Name x p] e pos) σ H Q:=by
 intro s m mu fz D S lo P E k kE
 refine wpAny_Assign_Name (h s m mu fz D S lo _ E (fun v h tk mu₁ fz₁ D₁ H₁ y S₁ le₁ d₁ q₁=>?_) (fun e s' hx=>kE _ e s' hx)) hs
 exact wu (s:={s with heap:=h,toks:=tk}) ok hb nd hx hl S₁ (lo.mono le₁) d₁ fun h tk m' S₂ lo₂=>k .next h tk mu₁ fz₁ D₁ H₁ m' .next _ S₂ le₁ rfl lo₂ q₁
theorem js_aug {i:Nat}{x:Str}{e:Expr}{op:Operator}{p pos:Pos}{y:V}(ok:f.Ok g n)(hb:f.bk=none)(nd:ns.Nodup)(hx:ns[i]? = some x)(hl:f.env.scope.names.lookup x=some .local)(hv:σ[i]? = some (some y))(h:JE g f X ns e σ H (fun z H'=>Op2 g f X (inplaceOp op) y z H' (fun r H'=>Q .next (σ.set i (some r)) H'))) :
  JS g f X ns (.AugAssign (.Name x p) op e pos) σ H Q:=by
 intro s m mu fz D S lo P E k kE
 obtain⟨val,hm,dy⟩:=lo.get i x hx y hv
 refine wpAny_AugAssign_Name (wpAny_loadName_local ok.kind hl (S.nsat hb) hm (h s m mu fz D S lo _ E (fun v h tk mu₁ fz₁ D₁ H₁ z S₁ le₁ d₁ q₁=>?_) (fun e s' hx=>kE _ e s' hx)))
 refine q₁ {s with heap:=h,toks:=tk} m mu₁ fz₁ D₁ val v S₁ (Den.mono (FzR.le le₁) _ _ dy) d₁ _ E (fun v h tk mu₂ fz₂ D₂ H₂ r S₂ le₂ d₂ q₂=>?_) (fun e s' hx=>kE _ e s' (X.mono le₁ hx))
 exact wu (s:={s with heap:=h,toks:=tk}) ok hb nd hx hl S₂ (lo.mono (ja le₁ le₂)) d₂ fun h tk m' S₃ lo₃=>k .next h tk mu₂ fz₂ D₂ H₂ m' .next _ S₃ (ja le₁ le₂) rfl lo₃ q₂
def putF (xs:List V)(i:Nat)(y:V):List V:=if i<xs.length then xs.set i y else xs++[y]
theorem UU {P:Cf}{k:String}{t:Tok}{v:Value}:∀{ns:List String} {vs:List Value} {es:List DictEntry} {i:Nat},Ents P ns vs es→ns.Nodup→ns[i]? = some k→i≤vs.length →
  Ents P ns (if i<vs.length then vs.set i v else vs++[v]) (putL (Str.ofString k) (PyData.keyHash P.P (Str.ofString k)) (.str (Str.ofString k) t) v es)
 | n::ns,[],[],0,_,nd,hi,hl=>by cases hi;exact⟨⟨t,rfl⟩,Ents.nil _⟩
 | n::ns,w::vs,e::es,0,⟨⟨t',he⟩,r⟩,nd,hi,hl=>by
  cases hi;subst he
  have e1:putL (Str.ofString k) (PyData.keyHash P.P (Str.ofString k)) (.str (Str.ofString k) t) v (entO P k t' w::es)=entO P k t' v::es:=by
   unfold putL
   rw[if_pos (by show(Value.str (Str.ofString k) t').isStr (Str.ofString k)=true;rw[yo];simp)];rfl
  rw[e1]
  exact⟨⟨t',rfl⟩,r⟩
 | n::ns,w::vs,e::es,i+1,⟨⟨t',he⟩,r⟩,nd,hi,hl=>by
  subst he
  have hne:n≠k:=fun z=>by subst z;exact(List.nodup_cons.mp nd).1 (qW hi)
  have ih:=UU (t:=t) (v:=v) r (List.nodup_cons.mp nd).2 hi (Nat.le_of_succ_le_succ hl)
  have e1:putL (Str.ofString k) (PyData.keyHash P.P (Str.ofString k)) (.str (Str.ofString k) t) v (entO P n t' w::es)=entO P n t' w::putL (Str.ofString k) (PyData.keyHash P.P (Str.ofString k)) (.str (Str.ofString k) t) v es:=by
   conv=>lhs;unfold putL
   rw[if_neg (by show ¬(Value.str (Str.ofString n) t').isStr (Str.ofString k)=true;rw[yo];simp[hne])]
  rw[e1]
  by_cases q:i<vs.length
  ·rw[if_pos q]at ih
   rw[if_pos (by simpa using q)]
   exact⟨⟨t',rfl⟩,ih⟩
  ·rw[if_neg q]at ih
   rw[if_neg (by simpa using q)]
   exact⟨⟨t',rfl⟩,ih⟩
 | n::ns,[],[],i+1,_,_,_,hl=>absurd hl (by simp)
 | [],_,_,_,_,_,hi,_=>by cases hi
 | _::_,[],_::_,_,h,_,_,_=>by cases h
 | _::_,_::_,[],_,h,_,_,_=>by cases h
theorem dens_put {P:Cf}{R:Rig}{xs:List V}{vs:List Value}{y:V}{v:Value}(d:Dens P R xs vs)(dy:Den P R y v)(i:Nat):Dens P R (putF xs i y) (if i<vs.length then vs.set i v else vs++[v]):=by
 unfold putF
 rw[d.length]
 split
 ·exact d.set i dy
 ·exact d.append ⟨v,[],rfl,dy,rfl⟩
theorem UV {P:Cf}:∀{ns:List String} {vs:List Value} {es:List DictEntry},Ents P ns vs es→es.length=vs.length∧vs.length≤ns.length
 | [],[],[],_=>⟨rfl,Nat.le_refl _⟩
 | _::_,[],[],_=>⟨rfl,Nat.zero_le _⟩
 | _::_,_::_,_::_,⟨_,r⟩=>by obtain⟨a,b⟩:=UV r;exact⟨congrArg _ a,Nat.succ_le_succ b⟩
 | [],[],_::_,h | [],_::_,_,h | _::_,[],_::_,h | _::_,_::_,[],h=>by cases h
theorem Uz (name:Str)(h:Int)(key v:Value):∀es:List DictEntry,(putL name h key v es).length≤es.length+1
 | []=>Nat.le_refl _
 | e::r=>by
  unfold putL
  split
  ·exact Nat.le_succ _
  ·exact Nat.succ_le_succ (Uz name h key v r)
theorem XN (G:g.Ok)(ok:f.Ok g n){s:Shared}{m:Str→Option Value}{mu fz:List (Addr×Obj)}{D:Addr→Addr}{a C:Addr}{i:Nat}{k:String}{xs:List V}{y:V}{v:Value}(S:St g f s.heap m H mu fz D)(hat:zk g.K C k=true)(hs:setOk g.K C=true)(hi:(g.ft C)[i]? = some k)(hnd:(g.ft C).Nodup)(hsm:(g.ft C).length≤900)
  (e:H a=some (.inst C xs)) (hx:i≤xs.length) (d:DenG g fz y v) {P:Unit→Shared→Prop} {E:Value→Shared→Prop}
  (kk:∀h tk mu',St g f h m (H.set a (.inst C (putF xs i y))) mu' fz D→P () {s with heap:=h,toks:=tk}):wpAny (model g.prog g.w) f.A (setAttr (.ref a) (Str.ofString k) v) P E s:=by
 obtain⟨vs,es,c,I,en,ds,m1,m2⟩:=S.instAt e
 simp only[zk,qM,beq_iff_eq]at hat
 simp only[setOk,qM,beq_iff_eq]at hs
 have hl:(getL (Str.ofString k) es).isSome=true:=by
  by_cases q:i<vs.length
  ·rw[Jh en hnd hi (qH q)];rfl
  ·unfold getL
   split
   ·rfl
   ·have:es.any (·.refKey)=false:=List.any_eq_false.mpr fun x hx=>by
     obtain⟨k',t,a,b⟩:=zK en x hx
     unfold DictEntry.refKey;rw[b];simp
    rw[this];rfl
 obtain⟨ln1,ln2⟩:=UV en
 refine set_dict (n':=putN (Str.ofString k) es c) (es':=putL (Str.ofString k) (PyData.keyHash g.w.params (Str.ofString k)) (.str (Str.ofString k) (s.toks+1)) v es) S.fr (ok.x G) S.led.news I rfl hs.1.1 hs.1.2 ?_ hs.2 hl rfl (S.led.upd m2) ?_ (fun h' F' N'=>?_)
 ·unfold takerIn;rw[hat.2];rfl
 ·have:=Uz (Str.ofString k) (PyData.keyHash g.w.params (Str.ofString k)) (.str (Str.ofString k) (s.toks+1)) v es
  lia
 ·refine kk h' _ _ ⟨F',S.led.set_inst e m2 N' (UU en hnd hi (by rw[ds.length];exact hx)) (dens_put ds d i)⟩
end
def jx (H:Hp)(x:V)(xs:List V):Prop:=x = .lst xs∨∃a,x = .ref a∧H a=some (.list xs)
def Idx (k:Int)(n j:Nat):Prop:=j<n∧(k=j∨k+n=j∧k<0)
section
variable {g:Gx}{f:Fx}{X:Ex}{ns:List Str}{σ:Lo}{H:Hp}{n:Nat}{s:Shared}{m:Str→Option Value}{mu fz:List (Addr×Obj)}{D:Addr→Addr}{x y:V}{xs:List V}
theorem St.listAt (G:g.Ok)(ok:f.Ok g n)(S:St g f s.heap m H mu fz D){v:Value}(d:DenG g fz x v)(e:jx H x xs):∃a vs c dd sl,v = .ref a∧s.heap.get? a=some (listX vs c dd sl)∧qf g fz xs vs∧xs.length≤16777217:=by
 rcases e with rfl | ⟨a,rfl,e⟩
 ·obtain⟨a,vs,c,dd,sl,rfl,r,ds,b⟩:=d;exact⟨a,vs,c,dd,sl,rfl,S.rig G ok r,ds,b⟩
 ·obtain⟨vs,c,mm,ds,b⟩:=S.led.list a xs e;exact⟨a,vs,c,_,_,d,(S.led.news _ (qB _ mm)).1,ds,b⟩
theorem St.tupAt (G:g.Ok)(ok:f.Ok g n)(S:St g f s.heap m H mu fz D){v:Value}(d:DenG g fz (.tup xs) v):∃a vs c,v = .ref a∧s.heap.get? a=some (tupO vs c)∧qf g fz xs vs∧xs.length≤16777217:=by
 obtain⟨a,vs,c,rfl,r,ds,b⟩:=d;exact⟨a,vs,c,rfl,S.rig G ok r,ds,b⟩
theorem WP {k:Int}{n j:Nat}(h:Idx k n j):seqIndex? k n=some j:=by
 obtain⟨hj,h⟩:=h
 rcases h with rfl | ⟨h,hk⟩
 ·simp[seqIndex?,show ¬((j:Int)<0)from by lia,hj]
 ·simp[seqIndex?,hk,h,hj]
theorem Ye (G:g.Ok)(ok:f.Ok g n){k:Int}{j:Nat}{v w:Value}{Q:V→Hp→Prop}(S:St g f s.heap m H mu fz D)(e:jx H x xs∨x = .tup xs)(d:DenG g fz x v)(dk:DenG g fz (.int k) w)(hi:Idx k xs.length j)(hx:xs[j]? = some y) :
  ∃T id u,s.TypeIs v T∧typeLookup (.type T) "__getitem__" = pure (some (.builtin id))∧(∃a t,v = .ref a∧w = .int k t)∧DenG g fz y u∧∀(P E:Value→Shared→Prop),P u s→wpAny (model g.prog g.w) f.A (getItem v w) P E s:=by
 obtain⟨t,rfl⟩:=dk
 rcases e with e | rfl
 ·obtain⟨a,vs,c,_,_,rfl,ho,ds,b⟩:=S.listAt G ok d e
  obtain⟨u,hu,du⟩:=ds.get hx
  have hl:s.heap.IsList a vs.toArray:=⟨_,ho,rfl,_,rfl⟩
  refine⟨"list",_,u,hl.typeIs,slot_list_getitem.lookup,⟨a,t,rfl,rfl⟩,du,fun P E h=>?_⟩
  have hn:=ds.length
  obtain⟨hj,hk⟩:=hi
  rcases hk with hk | ⟨hk,hk0⟩
  ·exact wpAny_getItem_list hl (by lia) (by lia) (by rw[hk];simpa using hu) h
  ·exact wpAny_getItem_list_neg hl hk0 (by rw[List.size_toArray,hn];lia) (by lia) (by rw[List.size_toArray,hn,hk];simpa using hu) h
 ·obtain⟨a,vs,c,rfl,ho,ds,b⟩:=S.tupAt G ok d
  obtain⟨u,hu,du⟩:=ds.get hx
  have hl:IsTup s.heap a vs.toArray:=⟨_,ho,rfl,_,rfl⟩
  have hn:=ds.length
  refine⟨"tuple",_,u,hl.typeIs,slot_tuple_getitem.lookup,⟨a,t,rfl,rfl⟩,du,fun P E h=>?_⟩
  obtain⟨hj,hk⟩:=id hi
  exact getItem_tuple hl (by lia) (by lia) (by rw[List.size_toArray,hn];exact WP hi) (by simpa using hu) h
def WZ (e:Expr):Prop:=∀o i,subscripted e false o i=operate [o,i] (getItem o i)
def pick (xs:List V)(lo hi:Option Int):List V:=(xs.drop (kms_lo lo xs.length)).take (kms_hi hi xs.length-kms_lo lo xs.length)
theorem St.push {h:Heap}(S:St g f h m H mu fz D)(o:Obj):St g f (h.push o) m H mu fz D:=⟨S.fr.push o,S.led.rebase (S.led.news.grown fun _ _ e=>qK _ e)⟩
def JP (g:Gx)(f:Fx)(X:Ex)(ns:List Str)(e:Option Expr)(σ:Lo)(H:Hp)(Q:Option Int→Hp→Prop):Prop:=
 match e with
 | none=>Q none H
 | some e=>JE g f X ns e σ H (fun x H'=>∃i,x = .int i∧Q (some i) H')
theorem jp_run {e:Option Expr}{Q:Option Int→Hp→Prop}(h:JP g f X ns e σ H Q)(S:St g f s.heap m H mu fz D)(lo:Locs g f fz ns σ m)(P E:Value→Shared→Prop)
  (k:∀v h tk mu' fz' D' H' i,St g f h m H' mu' fz' D'→(∀p∈fz,p∈fz')→IsPart v i→Q i H'→P v {s with heap:=h,toks:=tk}) (kE:∀e s',X.R s (f.mo m) fz e s'→E e s'):wpAny (model g.prog g.w) f.A (evalPart e f.env) P E s:=by
 cases e with
 | none=>rw[evalPart_none];exact wpAny_pure (k .none s.heap s.toks mu fz D H none S (fun _ h=>h) .none h)
 | some e=>
  rw[evalPart_some]
  exact h s m mu fz D S lo P E (fun v h tk mu' fz' D' H' x st le d ⟨i,hi,q⟩=>k v h tk mu' fz' D' H' (some i) st le (by subst hi;obtain⟨t,rfl⟩:=d;exact .int i t) q) kE
theorem Yn {vs:List Value}(d:qf g fz xs vs)(lo hi:Option Int):qf g fz (pick xs lo hi) (kms_pick vs lo hi):=by
 unfold pick kms_pick
 rw[d.length]
 exact(d.drop _).take _
theorem yf (lo hi:Option Int):(pick xs lo hi).length≤xs.length:=by
 unfold pick
 rw[List.length_take,List.length_drop];lia
theorem je_slice (G:g.Ok)(ok:f.Ok g n){eo:Expr}{el eu:Option Expr}{p pos:Pos}{Q:V→Hp→Prop}
  (h:JE g f X ns eo σ H (fun x H₁=>JP g f X ns el σ H₁ (fun lo H₂=>JP g f X ns eu σ H₂ (fun hi H₃=>∃xs,jx H₃ x xs∧xs.length≤16000000∧∀a,H₃ a=none→Q (.ref a) (H₃.set a (.list (pick xs lo hi))))))) :
  JE g f X ns (.Subscript eo (.Slice el eu none p) pos) σ H Q:=by
 intro s m mu fz D S lo P E kk kE
 refine Subscript_ (h s m mu fz D S lo _ E (fun v h tk mu₁ fz₁ D₁ H₁ x S₁ le₁ d₁ q₁=>?_) kE)
 refine wpAny_Slice (jp_run (s:={s with heap:=h,toks:=tk}) q₁ S₁ (lo.mono le₁) _ E (fun vl h₂ tk₂ mu₂ fz₂ D₂ H₂ lo' S₂ le₂ p₂ q₂=>?_) (fun e s' hx=>kE e s' (X.mono le₁ hx)))
 refine jp_run (s:={s with heap:=h₂,toks:=tk₂}) q₂ S₂ (lo.mono (ja le₁ le₂)) _ E (fun vu h₃ tk₃ mu₃ fz₃ D₃ H₃ hi' S₃ le₃ p₃ q₃=>?_) (fun e s' hx=>kE e s' (X.mono (ja le₁ le₂) hx))
 rw[evalPart_none]
 refine wpAny_pure ?_
 obtain⟨xs,e,hb,q⟩:=q₃
 have d₃:DenG g fz₃ x v:=Den.mono (FzR.le (ja le₂ le₃)) _ _ d₁
 have S₄:=S₃.push {cls:=.type "slice",data:=.fields #[vl,vu,.none]}
 obtain⟨a,vs,c,_,_,rfl,ho,ds,_⟩:=S₄.listAt (s:={s with heap:=h₃.push {cls:=.type "slice",data:=.fields #[vl,vu,.none]},toks:=tk₃}) G ok d₃ e
 have hl:(h₃.push {cls:=.type "slice",data:=.fields #[vl,vu,.none]}).IsList a vs.toArray:=⟨_,ho,rfl,_,rfl⟩
 have hn:=ds.length
 refine tail_any (s:={s with heap:=h₃.push {cls:=.type "slice",data:=.fields #[vl,vu,.none]},toks:=tk₃}) hl.typeIs slot_list_getitem.lookup
  (wpAny_getItem_list_slice hl (Heap.IsSliceOf.new ..) p₂ p₃ .none (by simp) ?_ (by rw[List.size_toArray,hn,sizeLine_eq];lia)) rfl
 have fr:=jr (s:={s with heap:=h₃.push {cls:=.type "slice",data:=.fields #[vl,vu,.none]},toks:=tk₃}) (m:=m) S₄.led.news
 have N':=S₄.led.news.push S₄.fr (jF (kms_pick vs lo' hi') 0)
 have L':=S₄.led.push_list fr N' (Yn ds lo' hi') (Nat.le_trans (yf lo' hi') (by lia))
 have e1:slicePick vs.toArray lo' hi' none=(kms_pick vs lo' hi').toArray:=by rw[kms_pick_eq]
 rw[e1]
 exact kk _ _ tk₃ _ fz₃ D₃ _ (.ref _) ⟨S₄.fr.push _,L'⟩ (ja le₁ (ja le₂ le₃)) rfl (q _ (S₄.led.fresh fr))
end
theorem UI (p:List Value)(y:Value):kl_last (p++[y])=some (p,y):=by
 induction p with
 | nil=>rfl
 | cons x p ih=>show kl_last (x::(p++[y]))=_;unfold kl_last;rw[ih]
theorem QV {P:Cf}{R:Rig}:∀{xs:List V} {y:V} {vs:List Value},Dens P R (xs++[y]) vs→∃p v,vs=p++[v]∧Dens P R xs p∧Den P R y v
 | [],y,_,⟨v,r,e,d,ds⟩=>⟨[],v,by rw[e,show r=[]from ds];rfl,rfl,d⟩
 | x::xs,y,_,⟨v,r,e,d,ds⟩=>by
  obtain⟨p,u,rfl,dp,du⟩:=QV (xs:=xs) ds
  exact⟨v::p,u,e,⟨v,p,rfl,d,dp⟩,du⟩
section
variable {g:Gx}{f:Fx}{X:Ex}{ns:List Str}{σ:Lo}{H:Hp}{n:Nat}{x y:V}{xs:List V}{a:Addr}{Q:V→Hp→Prop}
theorem yA (e:H a=some (.list xs))(hb:xs.length≤16000000)(q:Q .none (H.set a (.list (xs++[y])))):jZ g f X (.builtin "list.append") [.ref a,y] H Q:=by
 intro s m mu fz D vals S d P E k kE
 obtain⟨v,r,rfl,dv,w,r',rfl,dw,rfl⟩:=d
 rw[show v = .ref a from dv]
 obtain⟨vs,c,mm,ds,b⟩:=S.led.list a xs e
 refine append_K S.fr S.led.news (S.led.upd mm) (fun h' F' N'=>?_) (by rw[List.size_toArray,ds.length,sizeLine_eq];lia)
 have e1:listOf (vs.toArray.push w) (c+1)=jF (vs++[w]) (c+1):=by simp
 rw[e1]at N'
 exact k .none h' s.toks _ fz D _ .none ⟨F',S.led.set_list e mm N' (ds.append (ys:=[y]) ⟨w,[],rfl,dw,rfl⟩) (by simp;lia)⟩ (fun _ h=>h) rfl q
theorem Yr (e:H a=some (.list (xs++[y])))(hb:xs.length≤16000000)(q:Q y (H.set a (.list xs))):jZ g f X (.builtin "list.pop") [.ref a] H Q:=by
 intro s m mu fz D vals S d P E k kE
 obtain⟨v,r,rfl,dv,rfl⟩:=d
 rw[show v = .ref a from dv]
 obtain⟨vs,c,mm,ds,b⟩:=S.led.list a _ e
 obtain⟨p,w,rfl,dp,dw⟩:=QV ds
 have ln:=dp.length
 refine kl_pop S.fr S.led.news (p:=p) (y:=w) (by rw[show((p++[w]).toArray).toList=p++[w]from by simp];exact UI p w) (S.led.upd mm) (by simp[sizeLine_eq];lia) (fun h' F' N'=>?_)
 exact k w h' s.toks _ fz D _ y ⟨F',S.led.set_list e mm N' dp (by lia)⟩ (fun _ h=>h) dw q
theorem QA (G:g.Ok)(ok:f.Ok g n)(e:jx H x xs)(q:Q (.int xs.length) H):jZ g f X (.builtin "len") [x] H Q:=by
 intro s m mu fz D vals S d
 obtain⟨v,r,rfl,dv,rfl⟩:=d
 obtain⟨a,vs,c,_,_,rfl,ho,ds,b⟩:=S.listAt G ok dv e
 have hl:s.heap.IsList a vs.toArray:=⟨_,ho,rfl,_,rfl⟩
 refine qq (x:=.int xs.length) (v:=.int vs.toArray.size (s.toks+1)) (tk:=s.toks+1+1) S ⟨_,by rw[List.size_toArray,ds.length]⟩ q fun P E h=>call_len_list hl (by rw[List.size_toArray,ds.length];lia) h
theorem Up (G:g.Ok)(ok:f.Ok g n)(q:Q (.int xs.length) H):jZ g f X (.builtin "len") [.tup xs] H Q:=by
 intro s m mu fz D vals S d
 obtain⟨v,r,rfl,dv,rfl⟩:=d
 obtain⟨a,vs,c,rfl,ho,ds,b⟩:=S.tupAt G ok dv
 have hl:IsTup s.heap a vs.toArray:=⟨_,ho,rfl,_,rfl⟩
 refine qq (x:=.int xs.length) (v:=.int vs.toArray.size (s.toks+1)) (tk:=s.toks+1+1) S ⟨_,by rw[List.size_toArray,ds.length]⟩ q fun P E h=>PyProof.Rows.len_tuple hl (by rw[List.size_toArray,ds.length];lia) h
theorem Yu {i:Int}(q:Q (.int (if i<0 then -i else i)) H):jZ g f X (.builtin "abs") [.int i] H Q:=by
 intro s m mu fz D vals S d P E k kE
 obtain⟨v,r,rfl,⟨t,rfl⟩,rfl⟩:=d
 exact call_abs_int fun u tk=>k _ s.heap tk mu fz D H (.int (if i<0 then -i else i)) S (fun _ h=>h) ⟨u,rfl⟩ q
theorem Ys {i j:Int}(hh:f.hd=none)(q:Q (.int (if j>i then j else i)) H):jZ g f X (.builtin "max") [.int i,.int j] H Q:=by
 intro s m mu fz D vals S d P E k kE
 obtain⟨v,r,rfl,⟨t,rfl⟩,w,r',rfl,⟨u,rfl⟩,rfl⟩:=d
 exact max_two_N hh S.fr S.led.news fun h' tk F' N'=>k _ h' tk mu fz D H (.int (if j>i then j else i)) ⟨F',S.led.rebase N'⟩ (fun _ h=>h) ⟨_,rfl⟩ q
theorem zO (G:g.Ok)(ok:f.Ok g n)(e:jx H x xs∨x = .tup xs)(hb:xs.length≤16000000)(q:∀a,H a=none→Q (.ref a) (H.set a (.list xs))):jZ g f X (.type "list") [x] H Q:=by
 intro s m mu fz D vals S d P E k kE
 obtain⟨v,r,rfl,dv,rfl⟩:=d
 have fr:=jr (s:=s) (m:=m) S.led.news
 rcases e with e | rfl
 ·obtain⟨a,vs,c,_,_,rfl,ho,ds,b⟩:=S.listAt G ok dv e
  refine list_copyK S.fr S.led.news (items:=vs.toArray) ⟨_,ho,rfl,_,rfl⟩ (fun D' c h' F' N' l1=>?_) (by rw[List.size_toArray,ds.length,sizeLine_eq];lia)
  exact k _ h' s.toks _ fz D _ (.ref D') ⟨F',S.led.push_list l1 N' ds (by lia)⟩ (fun _ h=>h) rfl (q _ (S.led.fresh l1))
 ·obtain⟨a,vs,c,rfl,ho,ds,b⟩:=S.tupAt G ok dv
  refine list_copyKT S.fr S.led.news (items:=vs.toArray) ⟨_,ho,rfl,_,rfl⟩ (fun D' c h' F' N' l1=>?_) (by rw[List.size_toArray,ds.length,sizeLine_eq];lia)
  exact k _ h' s.toks _ fz D _ (.ref D') ⟨F',S.led.push_list l1 N' ds (by lia)⟩ (fun _ h=>h) rfl (q _ (S.led.fresh l1))
theorem Ws (G:g.Ok)(ok:f.Ok g n)(e:jx H x xs)(hb:xs.length≤16000000)(q:Q (.tup xs) H):jZ g f X (.type "tuple") [x] H Q:=by
 intro s m mu fz D vals S d P E k kE
 obtain⟨v,r,rfl,dv,rfl⟩:=d
 obtain⟨a,vs,c,_,_,rfl,ho,ds,b⟩:=S.listAt G ok dv e
 refine call_tuple_list (items:=vs.toArray) ⟨_,ho,rfl,_,rfl⟩ (fun h' hk=>?_) (by rw[List.size_toArray,ds.length,sizeLine_eq];lia)
 have F':Fr f.h₀ f.L h' (f.mo m):=S.fr.keeps hk
 have N':News f.h₀ f.L h' (mu++fz):=fun p hp=>⟨hk _ _ (S.led.news p hp).1,(S.led.news p hp).2⟩
 have S':St g f h' m H mu fz D:=⟨F',S.led.rebase N'⟩
 have fr:=jr (s:={s with heap:=h'}) (m:=m) N'
 have L':=S'.led.push_fz (o:=tupO vs 0) fr (N'.push F' _)
 exact k _ (h'.push (tupO vs 0)) s.toks mu _ D H (.tup xs) ⟨F'.push _,L'⟩ (fun _ h=>.tail _ h) ⟨_,vs,0,rfl,.inr (.head _),Dens.mono (FzR.le fun _ h=>.tail _ h) _ _ ds,by lia⟩ q
theorem KH:∀{l:List Value} {k:Nat} {v:Value},k<l.length→ki_setL l k v=some (l.set k v)
 | x::r,0,v,_=>rfl
 | x::r,k+1,v,h=>by unfold ki_setL;rw[KH (Nat.lt_of_succ_lt_succ h)];rfl
 | [],_,_,h=>absurd h (Nat.not_lt_zero _)
theorem XL {s:Shared}{m:Str→Option Value}{mu fz:List (Addr×Obj)}{D:Addr→Addr}{j:Nat}{v w:Value}{k:Int}(S:St g f s.heap m H mu fz D)(e:H a=some (.list xs))(hi:Idx k xs.length j)(dk:DenG g fz (.int k) w)(dv:DenG g fz y v){P:Unit→Shared→Prop}{E:Value→Shared→Prop}
  (kk:∀h mu',St g f h m (H.set a (.list (xs.set j y))) mu' fz D→P () {s with heap:=h}):wpAny (model g.prog g.w) f.A (setItem (.ref a) w v) P E s:=by
 obtain⟨t,rfl⟩:=dk
 obtain⟨vs,c,mm,ds,b⟩:=S.led.list a xs e
 have ln:=ds.length
 have hset:ki_setL (vs.toArray).toList j v=some (vs.set j v):=by
  rw[show(vs.toArray).toList=vs from by simp]
  exact KH (by rw[ln];exact hi.1)
 have fin:∀h',Fr f.h₀ f.L h' (f.mo m)→News f.h₀ f.L h' (jM a (jF (vs.set j v) c) mu++fz)→P () {s with heap:=h'}:=fun h' F' N'=>
  kk h' _ ⟨F',S.led.set_list e mm N' (ds.set j dv) (by rw[List.length_set];exact b)⟩
 have hs:=WP hi
 obtain⟨hj,hk⟩:=hi
 rcases hk with hk | ⟨hk,hk0⟩
 ·exact ki_set S.fr S.led.news (by lia) (by lia) (by rw[hk];simpa using hset) (S.led.upd mm) fin
 ·exact ki_setNeg S.fr S.led.news hk0 (by lia) (by rw[List.size_toArray,ln];exact hs) hset (S.led.upd mm) fin
end
section
variable {g:Gx}{f:Fx}{X:Ex}{ns:List Str}{σ:Lo}{H:Hp}{n:Nat}{Q:jD}
end
theorem yk {M:Model}{A:Around}{env:Env}{E E':Value→Shared→Prop}(h:∀e s,E e s→E' e s){e:Value}{s:Shared}(x:notedBy M A env E e s):notedBy M A env E' e s:=wpAny_mono x (fun _ _ z=>h _ _ z) (fun _ _ z=>h _ _ z)
theorem wN {M:Model}{A:Around}{env:Env}{E E':Value→Shared→Prop}(h:∀e s,E e s→E' e s){e:Value}{s:Shared}(x:cameBackBy M A env E e s):cameBackBy M A env E' e s:=wpAny_mono x (fun _ _ z=>h _ _ z) (fun _ _ z=>h _ _ z)
section
variable {g:Gx}{f:Fx}{XF:ExF g}{ns:List Str}{σ:Lo}{H:Hp}{n:Nat}{Q:jD}
theorem js_while {test:Expr}{body:List Stmt}{pos:Pos}(ok:f.Ok g n)(hb:f.bk=none)(I:Nat→Lo→Hp→Prop)
  (turn:∀k σ H,I k σ H→JC g f (XF.R f) ns test σ H (fun p H₁=>(p→JSs g f (XF.R f) ns body σ H₁ (fun fl σ' H'=>match fl with | .next | .cont=>∃k',k'<k∧I k' σ' H' | .brk=>Q .next σ' H' | .ret x=>Q (.ret x) σ' H'))∧(¬p→Q .next σ H₁)))
  (k₀:Nat) (h:I k₀ σ H):JS g f (XF.R f) ns (.While test body [] pos) σ H Q:=by
 intro s m mu fz D S lo P E kk kE
 have KE:∀m' fz' h tk,(∀p∈fz,p∈fz')→∀e s',(XF.R f).R {s with heap:=h,toks:=tk} m' fz' e s'→notedBy (model g.prog g.w) f.A f.env (fun e s'=>cameBackBy (model g.prog g.w) f.A f.env E e s') e s':=fun m' fz' h tk le e s' hx=>
  yk (fun _ _ z=>wN (fun _ _ z=>kE m' _ _ z) z) (XF.pass ⟨n,ok⟩ hb ((XF.R f).mono le hx))
 refine wpAny_While (codeAny_whileLoop (fun k s₁=>∃h tk m₁ mu₁ fz₁ D₁ H₁ σ₁,s₁={s with heap:=h,toks:=tk}∧St g f h m₁ H₁ mu₁ fz₁ D₁∧(∀p∈fz,p∈fz₁)∧Locs g f fz₁ ns σ₁ m₁∧I k σ₁ H₁) (fun k s₁ hI=>?_) k₀ ⟨s.heap,s.toks,m,mu,fz,D,H,σ,rfl,S,fun _ h=>h,lo,h⟩)
 obtain⟨h,tk,m₁,mu₁,fz₁,D₁,H₁,σ₁,rfl,S₁,le₁,lo₁,hi⟩:=hI
 refine turn k σ₁ H₁ hi {s with heap:=h,toks:=tk} m₁ mu₁ fz₁ D₁ S₁ lo₁ _ _ (fun b h tk mu₂ fz₂ D₂ H₂ p S₂ le₂ d₂ q₂=>?_) (fun e s' hx=>KE _ fz₁ _ _ le₁ e s' hx)
 cases b with
 | false=>
  rw[if_neg Bool.false_ne_true]
  exact wpAny_execs_nil (kk .next h tk mu₂ fz₂ D₂ H₂ m₁ .next σ₁ S₂ (ja le₁ le₂) rfl (lo₁.mono le₂) (q₂.2 fun z=>by simpa using d₂.mpr z))
 | true=>
  rw[if_pos rfl]
  refine q₂.1 (d₂.mp rfl) {s with heap:=h,toks:=tk} m₁ mu₂ fz₂ D₂ S₂ (lo₁.mono le₂) _ _ (fun v h tk mu₃ fz₃ D₃ H₃ m₃ x σ₃ S₃ le₃ d₃ lo₃ q₃=>?_) (fun m' e s' hx=>KE m' fz₂ _ _ (ja le₁ le₂) e s' hx)
  cases x with
  | next=>rw[show v = .next from d₃];obtain⟨k',hk,hi'⟩:=q₃;exact⟨k',hk,h,tk,m₃,mu₃,fz₃,D₃,H₃,σ₃,rfl,S₃,ja le₁ (ja le₂ le₃),lo₃,hi'⟩
  | cont=>rw[show v = .cont from d₃];obtain⟨k',hk,hi'⟩:=q₃;exact⟨k',hk,h,tk,m₃,mu₃,fz₃,D₃,H₃,σ₃,rfl,S₃,ja le₁ (ja le₂ le₃),lo₃,hi'⟩
  | brk=>rw[show v = .brk from d₃];exact kk .next h tk mu₃ fz₃ D₃ H₃ m₃ .next σ₃ S₃ (ja le₁ (ja le₂ le₃)) rfl lo₃ q₃
  | ret y=>obtain⟨u,rfl,du⟩:=d₃;exact kk (.ret u) h tk mu₃ fz₃ D₃ H₃ m₃ (.ret y) σ₃ S₃ (ja le₁ (ja le₂ le₃)) ⟨u,rfl,du⟩ lo₃ q₃
end
section
variable {g:Gx}{f:Fx}{m:Str→Option Value}{mu fz:List (Addr×Obj)}{D:Addr→Addr}{H:Hp}{h h':Heap}{a:Addr}{o o':Obj}
theorem St.turn (S:St g f h m H mu fz D)(hm:(a,o)∈fz)(hf:jN o=true)(hs:Heap.SameBut a h h')(ho:h'.get? a=some o'):St g f h' m H mu (jM a o' fz) D:=by
 have z:=S.led.news _ (qA _ hm)
 exact⟨S.fr.change hs z.2.1 z.2.2,S.led.turn_fz hm hf hs ho⟩
theorem St.gone (S:St g f h m H mu fz D)(hm:(a,o)∈fz)(hf:jN o=true)(hs:Heap.ExtBut a h h'):St g f h' m H mu (fz.filter fun p=>decide (p.1≠a)) D∧jP (FzR g.base fz) (FzR g.base (fz.filter fun p=>decide (p.1≠a))):=by
 have z:=S.led.news _ (qA _ hm)
 have nd:=S.led.nd
 rw[qI,qY]at nd
 have hmu:∀p∈mu,p.1≠a:=fun p hp q=>nd.2.2 p.1 (qG.mpr ⟨_,hp,rfl⟩) a (qG.mpr ⟨_,hm,rfl⟩) q
 have le:jP (FzR g.base fz) (FzR g.base (fz.filter fun p=>decide (p.1≠a))):=fun b ob hb x=>by
  refine x.imp id fun x=>qN.mpr ⟨x,decide_eq_true fun q=>?_⟩
  have q:b=a:=q
  subst q
  have h1:=(S.led.news _ (qA _ x)).1
  rw[z.1]at h1;cases h1
  rw[hf]at hb;cases hb
 have F':Fr f.h₀ f.L h' (f.mo m):=by
  obtain⟨oL,es,ep,hL,r⟩:=S.fr.ns
  refine⟨⟨oL,es,ep,hs _ _ (Ne.symm z.2.1) hL,r⟩,fun b ob e=>hs _ _ (fun q=>?_) (S.fr.keep _ _ e),S.fr.above⟩
  subst q;rw[z.2.2]at e;cases e
 refine⟨⟨F',fun p hp=>?_,?_,fun b ys e=>?_,fun b C ys e=>?_,fun b d e=>?_,fun b ps e=>?_,S.led.dinj,S.led.dfree⟩,le⟩
 ·rcases qO.mp hp with hp | hp
  ·have:=S.led.news p (qB _ hp);exact⟨hs _ _ (hmu p hp) this.1,this.2⟩
  ·have:=S.led.news p (qA _ (qN.mp hp).1);exact⟨hs _ _ (jB (qN.mp hp).2) this.1,this.2⟩
 ·rw[qI,qY]
  refine⟨nd.1,nd.2.1.sublist ((List.filter_sublist).map _),fun x hx y hy=>nd.2.2 x hx y ?_⟩
  obtain⟨p,hp,rfl⟩:=qG.mp hy
  exact qG.mpr ⟨p,(qN.mp hp).1,rfl⟩
 ·obtain⟨ws,k,m,dd,bb⟩:=S.led.list b ys e;exact⟨ws,k,m,Dens.mono le _ _ dd,bb⟩
 ·obtain⟨ws,es,k,m,m',r,dd⟩:=S.led.inst b C ys e;exact⟨ws,es,k,m,m',r,Dens.mono le _ _ dd⟩
 ·obtain⟨ob,m,dd⟩:=S.led.dict b _ e;exact⟨ob,m,dd.mono le⟩
 ·obtain⟨ob,mm,m,no,dd⟩:=S.led.ns b ps e;exact⟨ob,mm,m,no,dd.mono le⟩
end
section
variable {g:Gx}{f:Fx}{X:Ex}{ns:List Str}{σ:Lo}{H:Hp}{n:Nat}
theorem Locs.rig {fz fz':List (Addr×Obj)}{m:Str→Option Value}(l:Locs g f fz ns σ m)(hh:f.hd=none)(h:jP (FzR g.base fz) (FzR g.base fz')):Locs g f fz' ns σ m:=
 ⟨fun i x hx v hv=>by obtain⟨val,a,b⟩:=l.get i x hx v hv;exact⟨val,a,Den.mono h _ _ b⟩,fun _ _ _ h1=>absurd hh h1,.inl hh⟩
structure Feed (g:Gx)(f:Fx)(it:Addr)(k:Nat)(val:Nat→V)(HP:Hp→Prop) where
 at_:Nat→List (Addr×Obj)→Obj→Prop
 more:∀{i:Nat} {fz fz':List (Addr×Obj)} {o:Obj},at_ i fz o→jP (FzR g.base fz) (FzR g.base fz')→at_ i fz' o
 iter:∀{i:Nat} {fz:List (Addr×Obj)} {o:Obj},at_ i fz o→jN o=true
 next:∀{i:Nat} {s:Shared} {m:Str→Option Value} {H:Hp} {mu fz:List (Addr×Obj)} {D:Addr→Addr} {o:Obj},i<k→St g f s.heap m H mu fz D→HP H→(it,o)∈fz→at_ i fz o→∀(P:Option Value→Shared→Prop) (E:Value→Shared→Prop),
  (∀v h' tk o',Heap.SameBut it s.heap h'→h'.get? it=some o'→(∀fz',jP (FzR g.base fz) (FzR g.base fz')→at_ (i+1) fz' o')→DenG g fz (val i) v→P (some v) {s with heap:=h',toks:=tk})→wpAny (model g.prog g.w) f.A (pyNext (.ref it)) P E s
 self_:∀{i:Nat} {s:Shared} {m:Str→Option Value} {H:Hp} {mu fz:List (Addr×Obj)} {D:Addr→Addr} {o:Obj},St g f s.heap m H mu fz D→(it,o)∈fz→at_ i fz o→∀(P:Value→Shared→Prop) (E:Value→Shared→Prop),
  P (.ref it) s→wpAny (model g.prog g.w) f.A (pyIter (.ref it)) P E s
 fin:∀{s:Shared} {m:Str→Option Value} {H:Hp} {mu fz:List (Addr×Obj)} {D:Addr→Addr} {o:Obj},St g f s.heap m H mu fz D→HdOk f fz→HP H→(it,o)∈fz→at_ k fz o→∀(P:Option Value→Shared→Prop) (E:Value→Shared→Prop),
  (∀h',Heap.ExtBut it s.heap h'→P none {s with heap:=h'})→wpAny (model g.prog g.w) f.A (pyNext (.ref it)) P E s
def JA (g:Gx)(f:Fx)(X:Ex)(ns:List Str)(t:Expr)(x:V)(σ:Lo)(H:Hp)(Q:Lo→Hp→Prop):Prop:=
 ∀s m mu fz D v,St g f s.heap m H mu fz D→Locs g f fz ns σ m→DenG g fz x v→∀(P:Unit→Shared→Prop) (E:Value→Shared→Prop),
  (∀h tk mu' fz' D' H' m' σ',St g f h m' H' mu' fz' D'→(∀p∈fz,p∈fz')→Locs g f fz' ns σ' m'→Q σ' H'→P () {s with heap:=h,toks:=tk}) →
  (∀m' e s',X.R s m' fz e s'→E e s')→wpAny (model g.prog g.w) f.A (assign t f.env v) P E s
theorem JK {i:Nat}{x:Str}{y:V}{p:Pos}{Q:Lo→Hp→Prop}(ok:f.Ok g n)(hb:f.bk=none)(nd:ns.Nodup)(hx:ns[i]? = some x)(hl:f.env.scope.names.lookup x=some .local)(q:Q (σ.set i (some y)) H):JA g f X ns (.Name x p) y σ H Q:=
 fun s m mu fz D v S lo d P E k kE=>wpAny_assign_Name (wu ok hb nd hx hl S lo d fun h tk m' S₂ lo₂=>k h tk mu fz D H m' _ S₂ (fun _ h=>h) lo₂ q)
end
section
variable {g:Gx}{f:Fx}{XF:ExF g}{ns:List Str}{σ:Lo}{H:Hp}{n:Nat}{Q:jD}
theorem Yg {target:Expr}{body:List Stmt}(ok:f.Ok g n)(hb:f.bk=none)(hh:f.hd=none){it:Addr}{k:Nat}{val:Nat→V}{HP:Hp→Prop}(W:Feed g f it k val HP)(hlg:∀v M A P E s,P () s→wpAny M A (letOwnedTupleGo target (.ref it) v) P E s)(I:Nat→Lo→Hp→Prop)
  (turn:∀i σ H,i<k→I i σ H→HP H→JA g f (XF.R f) ns target (val i) σ H (fun σ' H'=>JSs g f (XF.R f) ns body σ' H' (fun fl σ'' H''=>match fl with | .next | .cont=>I (i+1) σ'' H''∧HP H'' | .brk=>Q .next σ'' H'' | .ret x=>Q (.ret x) σ'' H'')))
  (fin:∀σ H,I k σ H→HP H→Q .next σ H) (h0:I 0 σ H) (hp:HP H)
  {s:Shared} {m:Str→Option Value} {mu fz:List (Addr×Obj)} {D:Addr→Addr} {o:Obj} (S:St g f s.heap m H mu fz D) (lo:Locs g f fz ns σ m) (hit:(it,o)∈fz) (ha:W.at_ 0 fz o) {fz₀:List (Addr×Obj)} (hsub:∀p∈fz₀,p∈fz∧p.1≠it)
  (E:Value→Shared→Prop) {P:Flow→Shared→Prop}
  (kk:∀v h tk mu' fz' D' H' m' x σ',St g f h m' H' mu' fz' D'→(∀p∈fz₀,p∈fz')→FlIs g fz' x v→Locs g f fz' ns σ' m'→Q x σ' H'→P v {s with heap:=h,toks:=tk})
  (kE:∀m' fz' h tk e s',(∀p∈fz₀,p∈fz')→(XF.R f).R {s with heap:=h,toks:=tk} m' fz' e s'→notedBy (model g.prog g.w) f.A f.env (fun e s'=>cameBackBy (model g.prog g.w) f.A f.env E e s') e s') :
  codeAny (model g.prog g.w) f.A (.forLoop target (.ref it) body [] f.env) (fun r s'=>match r with | .ok f=>P f s' | .error e=>cameBackBy (model g.prog g.w) f.A f.env E e s') s:=by
 refine codeAny_forLoop_any (fun j s₁=>∃i h tk m₁ mu₁ fz₁ D₁ H₁ σ₁ o₁,j=k-i∧i≤k∧s₁={s with heap:=h,toks:=tk}∧St g f h m₁ H₁ mu₁ fz₁ D₁∧(∀p∈fz₀,p∈fz₁∧p.1≠it)∧Locs g f fz₁ ns σ₁ m₁∧I i σ₁ H₁∧HP H₁∧(it,o₁)∈fz₁∧W.at_ i fz₁ o₁)
  (fun j s₁ hI=>?_) k ⟨0,s.heap,s.toks,m,mu,fz,D,H,σ,o,rfl,Nat.zero_le _,rfl,S,hsub,lo,h0,hp,hit,ha⟩
 obtain⟨i,h,tk,m₁,mu₁,fz₁,D₁,H₁,σ₁,o₁,rfl,hik,rfl,S₁,sub₁,lo₁,hi,hp₁,hit₁,ha₁⟩:=hI
 rcases Nat.lt_or_eq_of_le hik with hlt | rfl
 ·refine W.next (s:={s with heap:=h,toks:=tk}) hlt S₁ hp₁ hit₁ ha₁ _ _ (fun v h' tk' o' hs ho ha' dv=>?_)
  have S₂:St g f h' m₁ H₁ mu₁ (jM it o' fz₁) D₁:=S₁.turn hit₁ (W.iter ha₁) hs ho
  have le:=S₁.led.fz_le (o':=o') hit₁ (W.iter ha₁)
  have sub₂:∀p∈fz₀,p∈jM it o' fz₁∧p.1≠it:=fun p hp=>⟨jp (sub₁ p hp).2 (sub₁ p hp).1,(sub₁ p hp).2⟩
  refine hlg _ _ _ _ _ _ ?_
  refine turn i σ₁ H₁ hlt hi hp₁ {s with heap:=h',toks:=tk'} m₁ mu₁ _ D₁ v S₂ (lo₁.rig hh le) (Den.mono le _ _ dv) _ _ (fun h₃ tk₃ mu₃ fz₃ D₃ H₃ m₃ σ₃ S₃ le₃ lo₃ q₃=>?_) (fun m' e s' hx=>kE m' _ _ _ e s' (fun p hp=>(sub₂ p hp).1) hx)
  refine q₃ {s with heap:=h₃,toks:=tk₃} m₃ mu₃ fz₃ D₃ S₃ lo₃ _ _ (fun v h₄ tk₄ mu₄ fz₄ D₄ H₄ m₄ x σ₄ S₄ le₄ d₄ lo₄ q₄=>?_) (fun m' e s' hx=>kE m' _ _ _ e s' (fun p hp=>le₃ _ (sub₂ p hp).1) hx)
  have sub₄:∀p∈fz₀,p∈fz₄∧p.1≠it:=fun p hp=>⟨le₄ _ (le₃ _ (sub₂ p hp).1),(sub₂ p hp).2⟩
  have go:I (i+1) σ₄ H₄∧HP H₄→∃j',j'<k-i∧∃i' h tk m₁ mu₁ fz₁ D₁ H₁ σ₁ o₁,j'=k-i'∧i'≤k∧({s with heap:=h₄,toks:=tk₄}:Shared)={s with heap:=h,toks:=tk}∧St g f h m₁ H₁ mu₁ fz₁ D₁∧(∀p∈fz₀,p∈fz₁∧p.1≠it)∧Locs g f fz₁ ns σ₁ m₁∧I i' σ₁ H₁∧HP H₁∧(it,o₁)∈fz₁∧W.at_ i' fz₁ o₁:=fun z=>
   ⟨k-(i+1),by lia,i+1,h₄,tk₄,m₄,mu₄,fz₄,D₄,H₄,σ₄,o',rfl,hlt,rfl,S₄,sub₄,lo₄,z.1,z.2,le₄ _ (le₃ _ (uj hit₁)),ha' _ (fun b ob hb x=>FzR.le (ja le₃ le₄) b ob hb (le b ob hb x))⟩
  cases x with
  | next=>rw[show v = .next from d₄];exact go q₄
  | cont=>rw[show v = .cont from d₄];exact go q₄
  | brk=>rw[show v = .brk from d₄];exact kk .next h₄ tk₄ mu₄ fz₄ D₄ H₄ m₄ .next σ₄ S₄ (fun p hp=>(sub₄ p hp).1) rfl lo₄ q₄
  | ret y=>obtain⟨u,rfl,du⟩:=d₄;exact kk (.ret u) h₄ tk₄ mu₄ fz₄ D₄ H₄ m₄ (.ret y) σ₄ S₄ (fun p hp=>(sub₄ p hp).1) ⟨u,rfl,du⟩ lo₄ q₄
 ·refine W.fin (s:={s with heap:=h,toks:=tk}) S₁ (.inl hh) hp₁ hit₁ ha₁ _ _ (fun h' hs=>?_)
  obtain⟨S₂,le⟩:=S₁.gone hit₁ (W.iter ha₁) hs
  exact wpAny_execs_nil (kk .next h' tk mu₁ _ D₁ H₁ m₁ .next σ₁ S₂ (fun p hp=>qN.mpr ⟨(sub₁ p hp).1,decide_eq_true (sub₁ p hp).2⟩) rfl (lo₁.rig hh le) (fin σ₁ H₁ hi hp₁))
end
theorem Um:entryFor table "proto.unchain" = some Builtin.«proto.unchain» := by first | exact entryFor_of_fast (by kernel_rfl) | exact entryFor_of_tree (by kernel_rfl)
section
variable {prog:Program}{w:World}{A:Around}{E:Value→Shared→Prop}{s:Shared}
theorem zm {α:Type}{eh:Addr}{oh:Obj}{vs:Array Value}{Q:α→Shared→Prop}(hh:A.handled=some (.ref eh))(heh:s.heap.get? eh=some oh)(hd:oh.data = .fields vs)(h2:vs[2]? = some .none)
  (hE:∀h' e,(∀b o,s.heap.get? b=some o→h'.get? b=some o)→(({s with heap:=h'}:Shared).TypeIs (.ref e) "StopIteration")→E (.ref e) {s with heap:=h'}) :
  wpAny (model prog w) A (newExc (.type "StopIteration") [] >>= fun e=>(raiseNew e:Sem α)) Q E s:=by
 refine jC ?_
 simp only[newExc,newTuple]
 refine jC (wpAny_newObj_type ?_ (by size_fits))
 refine jC (m:=firstArgMember _ _) (wpAny_of_eq (a:=Value.none) (by first | rfl | (simp only[firstArgMember];rfl)) ?_)
 refine wpAny_newObj_type ?_ (by size_fits)
 simp only[raiseNew]
 refine jC (wpAny_handled ?_)
 rw[hh]
 dsimp only
 have hne:eh≠(s.heap.push {cls:=.type "tuple",dict:=none,data:=.seq ([]:List Value).toArray}).objs.size:=Nat.ne_of_lt (Nat.lt_of_lt_of_le (Heap.lt_size heh) (by rw[Heap.size_push];exact Nat.le_succ _))
 rw[if_pos (by simpa using hne)]
 have heh₂:=qK (h:=s.heap.push {cls:=.type "tuple",dict:=none,data:=.seq ([]:List Value).toArray}) {cls:=.type "StopIteration",dict:=none,data:=.fields (#[.ref s.heap.objs.size,.none,.none,.none,.bool false,.none]++ownMembersOf (.type "StopIteration") [])} (qK (h:=s.heap) {cls:=.type "tuple",dict:=none,data:=.seq ([]:List Value).toArray} heh)
 refine jC (wpAny_holding (wpAny_runValue (codeAny_builtin Um ?_)))
 unfold Builtin.«proto.unchain»
 refine jC (wpAny_field (s:={s with heap:=(s.heap.push {cls:=.type "tuple",dict:=none,data:=.seq ([]:List Value).toArray}).push {cls:=.type "StopIteration",dict:=none,data:=.fields (#[.ref s.heap.objs.size,.none,.none,.none,.bool false,.none]++ownMembersOf (.type "StopIteration") [])} }) heh₂ hd h2 ?_)
 rw[if_pos (show(Value.none==Value.none)=true from rfl)]
 first
  | refine wpAny_pure ?_
  | refine jC (wpAny_pure (wpAny_pure ?_))
 have hnew:=Heap.get?_push_size (s.heap.push {cls:=.type "tuple",dict:=none,data:=.seq ([]:List Value).toArray}) (o:={cls:=.type "StopIteration",dict:=none,data:=.fields (#[.ref s.heap.objs.size,.none,.none,.none,.bool false,.none]++ownMembersOf (.type "StopIteration") [])}) rfl
 dsimp only
 unfold updateField
 refine jC (jC (wpAny_load hnew ?_))
 dsimp only
 rw[if_pos (by rw[Array.size_append];exact Nat.lt_of_lt_of_le (by decide:2<6) (Nat.le_add_right _ _))]
 refine wpAny_update hnew (wpAny_throw (hE _ _ (fun b o hb=>?_) ⟨_,Heap.get?_update_self _ hnew rfl,rfl⟩))
 have z:=Heap.lt_size hb
 rw[qU _ _ (Nat.ne_of_gt (Nat.lt_of_lt_of_le z (by rw[Heap.size_push];exact Nat.le_succ _)))]
 exact qK _ (qK _ hb)
theorem KC {it l:Addr}{i:Nat}{items:Array Value}{eh:Addr}{oh:Obj}{vs:Array Value}{Q:Option Value→Shared→Prop}(hh:A.handled=some (.ref eh))(heh:s.heap.get? eh=some oh)(hdh:oh.data = .fields vs)(h2:vs[2]? = some .none)(hne:eh≠it)
  (hit:s.heap.IsListIter it l i) (hl:s.heap.IsList l items) (hx:items[i]? = none)
  (hQ:∀h',Heap.ExtBut it s.heap h'→Q none {s with heap:=h'}):wpAny (model prog w) A (pyNext (.ref it)) Q E s:=by
 obtain⟨o,ho,hc,hd⟩:=id hit
 obtain⟨ol,hol,_,nl,hdl⟩:=hl
 unfold pyNext
 refine jC (wpAny_attempt (wpAny_callSpecial?_slot (name:=Str.ofString "__next__") hit.typeIs slot_listiter_next
  (wpAny_call_entry slot_listiter_next hit.typeIs entry_listiter_next ?_ (args_listiter_next _))))
 show wpAny _ _ (field (.ref it) 0 >>= _) _ _ s
 refine jC (wpAny_field ho hd (x:=.ref l) rfl ?_)
 show wpAny _ _ (if (Value.ref l==Value.none)=true then _ else _) _ _ s
 rw[if_neg (show ¬((Value.ref l==Value.none)=true)from Bool.false_ne_true)]
 show wpAny _ _ (field (.ref it) 1 >>= _) _ _ s
 refine jC (wpAny_field ho hd (x:=.int i 0) rfl ?_)
 show wpAny _ _ (seqItems? (.ref l) >>= _) _ _ s
 refine jC (wpAny_seqItems hol hdl ?_)
 simp only[Int.toNat_natCast,hx]
 refine jC (wpAny_rule (jC (wpAny_setField ho hd (by simp) ?_)))
 show wpAny _ _ (newExc (.type "StopIteration") [] >>= _) _ _ _
 refine zm (eh:=eh) hh ((qU _ _ (Ne.symm hne)).trans heh) hdh h2 fun h' e keep hT=>?_
 refine jC (wpAny_isInstance (T := "StopIteration") (b:=true) hT isSubtype_stop ?_)
 exact wpAny_pure (hQ _ fun b o hb e=>keep b o ((qU _ _ (Ne.symm hb)).trans e))
theorem Kd {it l:Addr}{i:Nat}{items:Array Value}{eh:Addr}{oh:Obj}{vs:Array Value}{Q:Option Value→Shared→Prop}(hh:A.handled=some (.ref eh))(heh:s.heap.get? eh=some oh)(hdh:oh.data = .fields vs)(h2:vs[2]? = some .none)(hne:eh≠it)
  (hit:s.heap.IsTupleIter it l i) (hl:s.heap.IsTuple l items) (hx:items[i]? = none)
  (hQ:∀h',Heap.ExtBut it s.heap h'→Q none {s with heap:=h'}):wpAny (model prog w) A (pyNext (.ref it)) Q E s:=by
 obtain⟨o,ho,hc,hd⟩:=id hit
 obtain⟨ol,hol,_,nl,hdl⟩:=hl
 unfold pyNext
 refine jC (wpAny_attempt (wpAny_callSpecial?_slot (name:=Str.ofString "__next__") hit.typeIs PySem.F.slot_tuple_iterator_next
  (wpAny_call_entry PySem.F.slot_tuple_iterator_next hit.typeIs PySem.F.entry_tuple_iterator_next ?_ (PySem.F.args_tuple_iterator_next_1 _))))
 show wpAny _ _ (field (.ref it) 0 >>= _) _ _ s
 refine jC (wpAny_field ho hd (x:=.ref l) rfl ?_)
 show wpAny _ _ (if (Value.ref l==Value.none)=true then _ else _) _ _ s
 rw[if_neg (show ¬((Value.ref l==Value.none)=true)from Bool.false_ne_true)]
 show wpAny _ _ (field (.ref it) 1 >>= _) _ _ s
 refine jC (wpAny_field ho hd (x:=.int i 0) rfl ?_)
 show wpAny _ _ (seqItems? (.ref l) >>= _) _ _ s
 refine jC (wpAny_seqItems hol hdl ?_)
 simp only[Int.toNat_natCast,hx]
 refine jC (wpAny_rule (jC (wpAny_setField ho hd (by simp) ?_)))
 show wpAny _ _ (newExc (.type "StopIteration") [] >>= _) _ _ _
 refine zm (eh:=eh) hh ((qU _ _ (Ne.symm hne)).trans heh) hdh h2 fun h' e keep hT=>?_
 refine jC (wpAny_isInstance (T := "StopIteration") (b:=true) hT isSubtype_stop ?_)
 exact wpAny_pure (hQ _ fun b o hb e=>keep b o ((qU _ _ (Ne.symm hb)).trans e))
theorem Ke {it:Addr}{x left step:Int}{eh:Addr}{oh:Obj}{vs:Array Value}{Q:Option Value→Shared→Prop}(hh:A.handled=some (.ref eh))(heh:s.heap.get? eh=some oh)(hdh:oh.data = .fields vs)(h2:vs[2]? = some .none)
  (hit:IsRangeIter s.heap it x left step) (hleft:left≤0) (hQ:∀h',Heap.ExtBut it s.heap h'→Q none {s with heap:=h'}):wpAny (model prog w) A (pyNext (.ref it)) Q E s:=by
 have hT:s.TypeIs (.ref it) "range_iterator" := ⟨_,hit,rfl⟩
 unfold pyNext
 refine jC (wpAny_attempt (wpAny_callSpecial?_slot (name:=Str.ofString "__next__") hT PySem.F.slot_range_iterator_next
  (wpAny_call_entry PySem.F.slot_range_iterator_next hT PySem.F.entry_range_iterator_next ?_ (PySem.F.args_range_iterator_next_1 _))))
 show wpAny _ _ (field (.ref it) 0 >>= _) _ _ s
 refine jC (wpAny_field hit rfl (x:=rawInt x) rfl ?_)
 show wpAny _ _ (field (.ref it) 1 >>= _) _ _ s
 refine jC (wpAny_field hit rfl (x:=rawInt left) rfl ?_)
 show wpAny _ _ (field (.ref it) 2 >>= _) _ _ s
 refine jC (wpAny_field hit rfl (x:=rawInt step) rfl ?_)
 show wpAny _ _ (if left≤0 then _ else _) _ _ s
 rw[if_pos hleft]
 refine jC (wpAny_rule ?_)
 refine jC ?_
 show wpAny _ _ (newExc (.type "StopIteration") [] >>= _) _ _ _
 refine zm (eh:=eh) hh heh hdh h2 fun h' e keep hT=>?_
 refine jC (wpAny_isInstance (T := "StopIteration") (b:=true) hT isSubtype_stop ?_)
 exact wpAny_pure (hQ _ fun b o hb e=>keep b o e)
end
section
variable {g:Gx}{f:Fx}{n:Nat}
def UT (G:g.Ok)(ok:f.Ok g n)(x:V)(xs:List V)(it:Addr):Feed g f it xs.length (fun i=>xs.getD i .none) (fun H=>jx H x xs) where
 at_ i fz o:=∃l,o.cls = .type "list_iterator" ∧ o.data = .fields #[.ref l,.int i 0]∧DenG g fz x (.ref l)
 more:=fun⟨l,a,b,c⟩ le=>⟨l,a,b,Den.mono le _ _ c⟩
 iter:=fun⟨l,a,b,c⟩=>by unfold jN;rw[a];rfl
 self_:=fun S hm ⟨l,a,b,c⟩ P E k=>by
  exact wpAny_pyIter_listiter ⟨_,(S.led.news _ (qA _ hm)).1,a,b⟩ k
 next:=by
  intro i s m H mu fz D o hi S hp hm ⟨l,a,b,c⟩ P E k
  obtain⟨l',vs,e,_,_,hv,ho,ds,_⟩:=S.listAt G ok c hp
  cases hv
  have hx:xs[i]? = some (xs.getD i .none):=by rw[qP,qH hi];rfl
  obtain⟨u,hu,du⟩:=ds.get hx
  refine wpAny_pyNext_list_item (items:=vs.toArray) ⟨o,(S.led.news _ (qA _ hm)).1,a,b⟩ ⟨_,ho,rfl,_,rfl⟩ (by simpa using hu) fun h' hit hs=>?_
  obtain⟨o',ho',a',b'⟩:=hit
  exact k u h' s.toks o' hs ho' (fun fz' le=>⟨l,a',b',Den.mono le _ _ c⟩) du
 fin:=by
  intro s m H mu fz D o S hO hp hm ⟨l,a,b,c⟩ P E k
  obtain⟨l',vs,e,_,_,hv,ho,ds,_⟩:=S.listAt G ok c hp
  cases hv
  rcases hO with hh | ⟨eh,oh,vh,hh,hmh,hd,h2⟩
  ·exact wpAny_pyNext_list_end (items:=vs.toArray) hh ⟨o,(S.led.news _ (qA _ hm)).1,a,b⟩ ⟨_,ho,rfl,_,rfl⟩ (by rw[← ds.length];simp) k
  ·have zo:=(S.led.news _ (qA _ hm)).1
   have zh:=(S.led.news _ (qA _ hmh)).1
   exact KC (items:=vs.toArray) hh zh hd h2 (fun z=>by subst z;rw[zo]at zh;cases zh;rw[b]at hd;cases hd;cases h2) ⟨o,zo,a,b⟩ ⟨_,ho,rfl,_,rfl⟩ (by rw[← ds.length];simp) k
def WR (G:g.Ok)(ok:f.Ok g n)(xs:List V)(it:Addr):Feed g f it xs.length (fun i=>xs.getD i .none) (fun _=>True) where
 at_ i fz o:=∃l,o.cls = .type "tuple_iterator" ∧ o.data = .fields #[.ref l,.int i 0]∧DenG g fz (.tup xs) (.ref l)
 more:=fun⟨l,a,b,c⟩ le=>⟨l,a,b,Den.mono le _ _ c⟩
 iter:=fun⟨l,a,b,c⟩=>by unfold jN;rw[a];rfl
 self_:=fun S hm ⟨l,a,b,c⟩ P E k=>by
  exact wpAny_pyIter_tupleiter ⟨_,(S.led.news _ (qA _ hm)).1,a,b⟩ k
 next:=by
  intro i s m H mu fz D o hi S hp hm ⟨l,a,b,c⟩ P E k
  obtain⟨l',vs,e,hv,ho,ds,_⟩:=S.tupAt G ok c
  cases hv
  have hx:xs[i]? = some (xs.getD i .none):=by rw[qP,qH hi];rfl
  obtain⟨u,hu,du⟩:=ds.get hx
  refine wpAny_pyNext_tuple_item (items:=vs.toArray) ⟨o,(S.led.news _ (qA _ hm)).1,a,b⟩ ⟨_,ho,rfl,_,rfl⟩ (by simpa using hu) fun h' hit hs=>?_
  obtain⟨o',ho',a',b'⟩:=hit
  exact k u h' s.toks o' hs ho' (fun fz' le=>⟨l,a',b',Den.mono le _ _ c⟩) du
 fin:=by
  intro s m H mu fz D o S hO hp hm ⟨l,a,b,c⟩ P E k
  obtain⟨l',vs,e,hv,ho,ds,_⟩:=S.tupAt G ok c
  cases hv
  rcases hO with hh | ⟨eh,oh,vh,hh,hmh,hd,h2⟩
  ·exact wpAny_pyNext_tuple_end (items:=vs.toArray) hh ⟨o,(S.led.news _ (qA _ hm)).1,a,b⟩ ⟨_,ho,rfl,_,rfl⟩ (by rw[← ds.length];simp) k
  ·have zo:=(S.led.news _ (qA _ hm)).1
   have zh:=(S.led.news _ (qA _ hmh)).1
   exact Kd (items:=vs.toArray) hh zh hd h2 (fun z=>by subst z;rw[zo]at zh;cases zh;rw[b]at hd;cases hd;cases h2) ⟨o,zo,a,b⟩ ⟨_,ho,rfl,_,rfl⟩ (by rw[← ds.length];simp) k
def QU (lo:Int)(k:Nat)(it:Addr):Feed g f it k (fun i=>.int (lo+i)) (fun _=>True) where
 at_ i fz o:=i≤k∧o={cls:=.type "range_iterator",dict:=none,data:=.fields #[rawInt (lo+i),rawInt ((k:Int)-i),rawInt 1],slots:=#[]}
 more:=fun a _=>a
 iter:=fun⟨_,e⟩=>by subst e;rfl
 self_:=fun S hm ⟨_,e⟩ P E k=>by
  subst e
  exact wpAny_pyIter_rangeiter (S.led.news _ (qA _ hm)).1 k
 next:=by
  intro i s m H mu fz D o hi S hp hm ⟨hk,ho⟩ P E kk
  subst ho
  refine wpAny_pyNext_range_item (S.led.news _ (qA _ hm)).1 (by lia) fun h' hit hs=>?_
  exact kk (.int (lo+i) s.toks) h' (s.toks+1) _ hs hit (fun fz' le=>⟨hi,by rw[show lo+(i:Int)+1=lo+((i+1:Nat):Int)from by lia,show(k:Int)-i-1=(k:Int)-((i+1:Nat):Int)from by lia]⟩) ⟨_,rfl⟩
 fin:=by
  intro s m H mu fz D o S hO hp hm ⟨hk,ho⟩ P E kk
  subst ho
  rcases hO with hh | ⟨eh,oh,vh,hh,hmh,hd,h2⟩
  ·exact wpAny_pyNext_range_end hh (S.led.news _ (qA _ hm)).1 (by lia) kk
  ·exact Ke hh (S.led.news _ (qA _ hmh)).1 hd h2 (S.led.news _ (qA _ hm)).1 (by lia) kk
end
section
variable {g:Gx}{f:Fx}{X:Ex}{H:Hp}{n:Nat}{Q:V→Hp→Prop}
theorem Wt {k:Int}(q:Q (.rng 0 k) H):jZ g f X (.type "range") [.int k] H Q:=by
 intro s m mu fz D vals S d P E kk kE
 obtain⟨v,r,rfl,⟨t,rfl⟩,rfl⟩:=d
 refine call_range_1 ?_
 have fr:=jr (s:=s) (m:=m) S.led.news
 have L':=S.led.push_fz (o:=rngO 0 k s.toks t (s.toks+1)) fr (S.led.news.push S.fr _)
 exact kk _ (s.heap.push (rngO 0 k s.toks t (s.toks+1))) _ mu _ D H (.rng 0 k) ⟨S.fr.push _,L'⟩ (fun _ h=>.tail _ h) ⟨_,_,_,_,rfl,.inr (.head _)⟩ q
end
section
variable {g:Gx}{f:Fx}{XF:ExF g}{ns:List Str}{σ:Lo}{H:Hp}{n:Nat}{Q:jD}
inductive Src:V→List V→(Hp→Prop)→Prop
 | list (x:V) (xs:List V):Src x xs (fun H=>jx H x xs)
 | tup (xs:List V):Src (.tup xs) xs (fun _=>True)
 | rng (lo hi:Int) (h1 : -1000000000≤lo∧lo≤1000000000) (h2 : -1000000000≤hi∧hi≤1000000000):Src (.rng lo hi) ((List.range (hi-lo).toNat).map fun i:Nat=>V.int (lo+(i:Int))) (fun _=>True)
theorem Wz {g:Gx}{f:Fx}{s:Shared}{m:Str→Option Value}{H:Hp}{mu fz:List (Addr×Obj)}{D:Addr→Addr}(S:St g f s.heap m H mu fz D)(o:Obj)(ho:o.isFreed=false:=by rfl):St g f (s.heap.push o) m H mu ((s.heap.objs.size,o)::fz) D:=
 ⟨S.fr.push _,S.led.push_fz (jr (s:=s) (m:=m) S.led.news) (S.led.news.push S.fr o ho)⟩
theorem js_for (G:g.Ok)(ok:f.Ok g n)(hb:f.bk=none)(hh:f.hd=none){target iter:Expr}{body:List Stmt}{pos:Pos}(hlg:∀it v M A P E s,P () s→wpAny M A (letOwnedTupleGo target it v) P E s)(hs:∀x,foldedSetIterable iter f.env x=pure x)
  (h:JE g f (XF.R f) ns iter σ H (fun x H₁=>∃xs HP,Src x xs HP∧HP H₁∧∃I:Nat→Lo→Hp→Prop,I 0 σ H₁∧(∀σ H,I xs.length σ H→HP H→Q .next σ H) ∧
   ∀i σ H y,xs[i]? = some y→I i σ H→HP H→JA g f (XF.R f) ns target y σ H (fun σ' H'=>JSs g f (XF.R f) ns body σ' H' (fun fl σ'' H''=>match fl with | .next | .cont=>I (i+1) σ'' H''∧HP H'' | .brk=>Q .next σ'' H'' | .ret x=>Q (.ret x) σ'' H'')))) :
  JS g f (XF.R f) ns (.For target iter body [] pos) σ H Q:=by
 intro s m mu fz D S lo P E kk kE
 refine wpAny_For (h s m mu fz D S lo _ E (fun v h tk mu₁ fz₁ D₁ H₁ x S₁ le₁ d₁ q₁=>?_) (fun e s' hx=>kE _ e s' hx)) hs
 obtain⟨xs,HP,src,hp,I,h0,hfin,turn⟩:=q₁
 have KE:∀m' fz' h tk e s',(∀p∈fz₁,p∈fz')→(XF.R f).R {s with heap:=h,toks:=tk} m' fz' e s'→notedBy (model g.prog g.w) f.A f.env (fun e s'=>cameBackBy (model g.prog g.w) f.A f.env E e s') e s':=fun m' fz' h tk e s' le hx=>
  yk (fun _ _ z=>wN (fun _ _ z=>kE m' _ _ z) z) (XF.pass ⟨n,ok⟩ hb ((XF.R f).mono (ja le₁ le) hx))
 have hxs:∀{i:Nat},i<xs.length→xs[i]? = some (xs.getD i .none):=fun {i} hi=>by rw[qP,qH hi];rfl
 have sub:∀o:Obj,∀p∈fz₁,p∈(h.objs.size,o)::fz₁∧p.1≠h.objs.size:=fun o p hp=>⟨.tail _ hp,Nat.ne_of_lt (jr (s:={s with heap:=h}) (m:=m) S₁.led.news _ (qA _ hp))⟩
 have finish:∀(k:Nat) (val:Nat→V) (o:Obj) (W:Feed g f h.objs.size k val HP),k=xs.length→(∀i,i<k→val i=xs.getD i .none)→o.isFreed=false→W.at_ 0 ((h.objs.size,o)::fz₁) o →
   codeAny (model g.prog g.w) f.A (.forLoop target (.ref h.objs.size) body [] f.env) (fun r s'=>match r with | .ok f=>P f s' | .error e=>cameBackBy (model g.prog g.w) f.A f.env E e s') {s with heap:=h.push o,toks:=tk}:=by
  intro k val o W hk hval hfr hat
  subst hk
  refine Yg ok hb hh W (fun v=>hlg _ v) I (fun i σ H hi hI hP=>?_) hfin h0 hp (Wz (s:={s with heap:=h,toks:=tk}) S₁ o hfr) (lo.mono (ja le₁ fun _ h=>.tail _ h)) (.head _) hat (sub o) E (fun v h tk mu' fz' D' H' m' x σ' st le d lo' hq=>kk v h tk mu' fz' D' H' m' x σ' st (ja le₁ le) d lo' hq) KE
  rw[hval i hi]
  exact turn i σ H _ (hxs hi) hI hP
 cases src with
 | list x xs=>
  obtain⟨a,vs,c,_,_,rfl,ho,ds,_⟩:=S₁.listAt (s:={s with heap:=h,toks:=tk}) G ok d₁ hp
  refine wpAny_pyIter_list (items:=vs.toArray) ⟨_,ho,rfl,_,rfl⟩ ?_
  exact finish _ _ _ (UT G ok x xs _) rfl (fun _ _=>rfl) rfl ⟨a,rfl,rfl,Den.mono (FzR.le fun _ h=>.tail _ h) _ _ d₁⟩
 | tup xs=>
  obtain⟨a,vs,c,rfl,ho,ds,_⟩:=S₁.tupAt (s:={s with heap:=h,toks:=tk}) G ok d₁
  refine wpAny_pyIter_tuple (items:=vs.toArray) ⟨_,ho,rfl,_,rfl⟩ ?_
  exact finish _ _ _ (WR G ok xs _) rfl (fun _ _=>rfl) rfl ⟨a,rfl,rfl,Den.mono (FzR.le fun _ h=>.tail _ h) _ _ d₁⟩
 | rng lo' hi h1 h2=>
  obtain⟨a,t,u,w,rfl,r⟩:=d₁
  have ho:=S₁.rig (s:={s with heap:=h,toks:=tk}) G ok r
  have hsz:Builtin.Range.rangeSize lo' hi 1=((hi-lo').toNat:Int):=by
   unfold Builtin.Range.rangeSize
   rw[if_pos (by decide)]
   split<;>lia
  refine wpAny_pyIter_range ho ?_ ?_
  ·unfold Builtin.Range.small Builtin.Range.rangeFitsLong
   rw[hsz]
   simp only[qM,decide_eq_true_eq,Bool.or_eq_true]
   refine⟨⟨⟨⟨?_,?_⟩,?_⟩,?_⟩,.inr ?_⟩<;>first | (rw[if_pos (by decide)];simp only[qM,decide_eq_true_eq];lia) | lia
  ·rw[hsz]
   exact finish (hi-lo').toNat (fun i=>.int (lo'+i)) _ (QU lo' _ _) (by simp) (fun i hi=>by simp[hi]) rfl ⟨Nat.zero_le _,by simp⟩
end
def Hp.Sub (H' H:Hp):Prop:=∀a o,H' a=some o→H a=some o
theorem Hp.Sub.refl (H:Hp):H.Sub H:=fun _ _ h=>h
theorem Hp.Sub.trans {H H' H'':Hp}(a:H.Sub H')(b:H'.Sub H''):H.Sub H'':=fun x o h=>b x o (a x o h)
theorem Hp.sub_set {H:Hp}{a:Addr}(o:AO)(h:H a=none):H.Sub (H.set a o):=fun b x e=>by
 rw[zN];exact e
 rintro rfl;rw[h]at e;cases e
theorem Hp.Sub.set {H H':Hp}(a:Addr)(o:AO)(s:H.Sub H'):(H.set a o).Sub (H'.set a o):=fun b x e=>by
 by_cases q:b=a
 ·subst q;rw[zS]at e ⊢;exact e
 ·rw[zN _ _ q]at e ⊢;exact s _ _ e
theorem Hp.set_comm {H:Hp}{a b:Addr}(o o':AO)(h:a≠b):(H.set a o).set b o'=(H.set b o').set a o:=by
 funext c
 by_cases q:c=b
 ·subst q;rw[zS,zN _ _ (Ne.symm h),zS]
 ·rw[zN _ _ q]
  by_cases z:c=a
  ·subst z;rw[zS,zS]
  ·rw[zN _ _ z,zN _ _ z,zN _ _ q]
theorem Hp.set_set (H:Hp)(a:Addr)(o o':AO):(H.set a o).set a o'=H.set a o':=by
 funext c
 by_cases q:c=a
 ·subst q;rw[zS,zS]
 ·rw[zN _ _ q,zN _ _ q,zN _ _ q]
theorem Hp.del_set {H:Hp}{a:Addr}(o:AO)(h:H a=none):(H.set a o).del a=H:=by
 funext c
 by_cases q:c=a
 ·subst q;rw[h];exact if_pos rfl
 ·show(if c=a then none else _)=_
  rw[if_neg q,zN _ _ q]
theorem Hp.del_sub (H:Hp)(a:Addr):(H.del a).Sub H:=fun b o e=>by
 by_cases q:b=a
 ·subst q;rw[show H.del b b=none from if_pos rfl]at e;cases e
 ·rw[show H.del a b=H b from if_neg q]at e;exact e
section
variable {P:Cf}{base h₀ h h':Heap}{L a:Addr}{H H':Hp}{mu fz:List (Addr×Obj)}{D:Addr→Addr}
theorem Led.sub (l:Led P base h₀ L h H mu fz D)(s:H'.Sub H):Led P base h₀ L h H' mu fz D:=
 ⟨l.news,l.nd,fun a xs e=>l.list a xs (s _ _ e),fun a C xs e=>l.inst a C xs (s _ _ e),fun a d e=>l.dict a d (s _ _ e),fun a ps e=>l.ns a ps (s _ _ e),
  fun a b C xs C' xs' e e'=>l.dinj a b C xs C' xs' (s _ _ e) (s _ _ e'),fun a C xs e=>by
   have:=l.dfree a C xs (s _ _ e)
   cases q:H' (D a) with
   | none=>rfl
   | some o=>rw[s _ _ q]at this;cases this⟩
theorem Led.push_ns (l:Led P base h₀ L h H mu fz D){o:Obj}{m:Str→Option Value}{ps:List (Str×V)}(hf:∀p∈mu++fz,p.1<a)(N:News h₀ L h' ((a,o)::(mu++fz)))(no:NsO o m)(d:NsP P (FzR base fz) ps m) :
  Led P base h₀ L h' (H.set a (.ns ps)) ((a,o)::mu) fz D:=by
 have hne:∀{b ob},(b,ob)∈mu→b≠a:=fun hb=>Nat.ne_of_lt (hf _ (qB _ hb))
 refine⟨N,?_,fun b ys e=>?_,fun b C ys e=>?_,fun b d e=>?_,fun b ps e=>?_,fun b c C ys C' ys' e e' q=>?_,fun b C ys e=>?_⟩
 ·show(a::(mu++fz).map (·.1)).Nodup
  exact List.nodup_cons.mpr ⟨fun z=>by obtain⟨p,hp,e⟩:=qG.mp z;have:=hf p hp;rw[e]at this;exact absurd this (Nat.lt_irrefl _),l.nd⟩
 ·by_cases q:b=a
  ·subst q;rw[zS]at e;cases e
  ·rw[zN _ _ q]at e;obtain⟨ws,k,m,dd⟩:=l.list b ys e;exact⟨ws,k,.tail _ m,dd⟩
 ·by_cases q:b=a
  ·subst q;rw[zS]at e;cases e
  ·rw[zN _ _ q]at e;obtain⟨ws,es,k,m,m',r,dd⟩:=l.inst b C ys e;exact⟨ws,es,k,.tail _ m,.tail _ m',r,dd⟩
 ·by_cases q:b=a
  ·subst q;rw[zS]at e;cases e
  ·rw[zN _ _ q]at e;obtain⟨ob,m,dd⟩:=l.dict b _ e;exact⟨ob,.tail _ m,dd⟩
 ·by_cases q:b=a
  ·subst q;rw[zS]at e;cases e;exact⟨o,m,.head _,no,d⟩
  ·rw[zN _ _ q]at e;obtain⟨ob,mm,m,no,dd⟩:=l.ns b _ e;exact⟨ob,mm,.tail _ m,no,dd⟩
 ·by_cases z:b=a
  ·subst z;rw[zS]at e;cases e
  ·by_cases z':c=a
   ·subst z';rw[zS]at e';cases e'
   ·rw[zN _ _ z]at e;rw[zN _ _ z']at e';exact l.dinj _ _ _ _ _ _ e e' q
 ·by_cases z:b=a
  ·subst z;rw[zS]at e;cases e
  ·rw[zN _ _ z]at e
   obtain⟨ws,es,k,m,m',r,dd⟩:=l.inst b C ys e
   rw[zN _ _ (hne m')]
   exact l.dfree _ _ _ e
theorem Led.set_ns (l:Led P base h₀ L h H mu fz D){o o':Obj}{m':Str→Option Value}{ps ps':List (Str×V)}(e0:H a=some (.ns ps))(hm:(a,o)∈mu)(N:News h₀ L h' (jM a o' mu++fz))(no:NsO o' m')(d:NsP P (FzR base fz) ps' m') :
  Led P base h₀ L h' (H.set a (.ns ps')) (jM a o' mu) fz D:=by
 have hD:∀b C ys,H b=some (.inst C ys)→b≠a∧D b≠a:=fun b C ys e=>by
  refine⟨fun z=>(by subst z;rw[e0]at e;cases e),fun z=>?_⟩
  have:=l.dfree _ _ _ e;rw[z,e0]at this;cases this
 refine⟨N,by rw[qI,uO,← qI];exact l.nd,fun b ys e=>?_,fun b C ys e=>?_,fun b d e=>?_,fun b ps e=>?_,fun b c C ys C' ys' e e' q=>?_,fun b C ys e=>?_⟩
 ·by_cases q:b=a
  ·subst q;rw[zS]at e;cases e
  ·rw[zN _ _ q]at e;obtain⟨ws,k,m,dd⟩:=l.list b ys e;exact⟨ws,k,jp q m,dd⟩
 ·by_cases q:b=a
  ·subst q;rw[zS]at e;cases e
  ·rw[zN _ _ q]at e;obtain⟨ws,es,k,m,m',r,dd⟩:=l.inst b C ys e;exact⟨ws,es,k,jp q m,jp (hD _ _ _ e).2 m',r,dd⟩
 ·by_cases q:b=a
  ·subst q;rw[zS]at e;cases e
  ·rw[zN _ _ q]at e;obtain⟨ob,m,dd⟩:=l.dict b _ e;exact⟨ob,jp q m,dd⟩
 ·by_cases q:b=a
  ·subst q;rw[zS]at e;cases e;exact⟨o',m',uj hm,no,d⟩
  ·rw[zN _ _ q]at e;obtain⟨ob,mm,m,no,dd⟩:=l.ns b _ e;exact⟨ob,mm,jp q m,no,dd⟩
 ·by_cases z:b=a
  ·subst z;rw[zS]at e;cases e
  ·by_cases z':c=a
   ·subst z';rw[zS]at e';cases e'
   ·rw[zN _ _ z]at e;rw[zN _ _ z']at e';exact l.dinj _ _ _ _ _ _ e e' q
 ·by_cases z:b=a
  ·subst z;rw[zS]at e;cases e
  ·rw[zN _ _ z]at e;rw[zN _ _ (hD _ _ _ e).2];exact l.dfree _ _ _ e
theorem Led.lose (l:Led P base h₀ L h H mu fz D){ps:List (Str×V)}(e0:H a=some (.ns ps))(hs:Heap.SameBut a h h') :
  Led P base h₀ L h' (H.del a) (mu.filter fun p=>decide (p.1≠a)) fz D:=by
 obtain⟨oa,ma,hma,_⟩:=l.ns a ps e0
 have nd:=l.nd
 rw[qI,qY]at nd
 have hfz:∀p∈fz,p.1≠a:=fun p hp q=>nd.2.2 a (qG.mpr ⟨_,hma,rfl⟩) p.1 (qG.mpr ⟨_,hp,rfl⟩) q.symm
 have hd:∀{b o},H.del a b=some o→b≠a∧H b=some o:=fun {b o} e=>by
  by_cases q:b=a
  ·subst q;rw[show H.del b b=none from if_pos rfl]at e;cases e
  ·exact⟨q,by rwa [show H.del a b=H b from if_neg q]at e⟩
 have key:∀{b o},b≠a→(b,o)∈mu→(b,o)∈mu.filter fun p=>decide (p.1≠a):=fun q hm=>qN.mpr ⟨hm,decide_eq_true q⟩
 refine⟨fun p hp=>?_,?_,fun b ys e=>?_,fun b C ys e=>?_,fun b d e=>?_,fun b ps e=>?_,fun b c C ys C' ys' e e' q=>l.dinj _ _ _ _ _ _ (hd e).2 (hd e').2 q,fun b C ys e=>?_⟩
 ·rcases qO.mp hp with hp | hp
  ·obtain⟨hp,q⟩:=qN.mp hp
   have:=l.news p (qB _ hp)
   exact⟨(hs.2 _ (jB q)).trans this.1,this.2⟩
  ·have:=l.news p (qA _ hp)
   exact⟨(hs.2 _ (hfz p hp)).trans this.1,this.2⟩
 ·rw[qI,qY]
  refine⟨nd.1.sublist ((List.filter_sublist).map _),nd.2.1,fun x hx y hy=>nd.2.2 x ?_ y hy⟩
  obtain⟨p,hp,rfl⟩:=qG.mp hx
  exact qG.mpr ⟨p,(qN.mp hp).1,rfl⟩
 ·obtain⟨q,e⟩:=hd e;obtain⟨ws,k,m,dd⟩:=l.list b ys e;exact⟨ws,k,key q m,dd⟩
 ·obtain⟨q,e⟩:=hd e;obtain⟨ws,es,k,m,m',r,dd⟩:=l.inst b C ys e
  exact⟨ws,es,k,key q m,key (fun z=>by have:=l.dfree _ _ _ e;rw[z,e0]at this;cases this) m',r,dd⟩
 ·obtain⟨q,e⟩:=hd e;obtain⟨ob,m,dd⟩:=l.dict b _ e;exact⟨ob,key q m,dd⟩
 ·obtain⟨q,e⟩:=hd e;obtain⟨ob,mm,m,no,dd⟩:=l.ns b _ e;exact⟨ob,mm,key q m,no,dd⟩
 ·obtain⟨q,e⟩:=hd e
  have:=l.dfree _ _ _ e
  exact(if_neg (fun z=>by rw[z,e0]at this;cases this)).trans this
end
section
variable {g:Gx}{f:Fx}{X:Ex}{XF:ExF g}{ns:List Str}{σ:Lo}{H H':Hp}{n:Nat}{h:Heap}{m:Str→Option Value}{mu fz:List (Addr×Obj)}{D:Addr→Addr}
theorem St.sub (S:St g f h m H mu fz D)(s:H'.Sub H):St g f h m H' mu fz D:=⟨S.fr,S.led.sub s⟩
theorem JT.weak {t:Sem Value}{s:Shared}{Q Q':V→Hp→Prop}(h:JT g f X t s m fz Q)(q:∀x H,Q x H→∃H',H'.Sub H∧Q' x H'):JT g f X t s m fz Q':=
 fun Pq E k kE=>h Pq E (fun v h tk mu' fz' D' H' x st le d hq=>by obtain⟨H₂,a,b⟩:=q _ _ hq;exact k v h tk mu' fz' D' H₂ x (st.sub a) le d b) kE
theorem JE.weak {e:Expr}{Q Q':V→Hp→Prop}(h:JE g f X ns e σ H Q)(q:∀x H,Q x H→∃H',H'.Sub H∧Q' x H'):JE g f X ns e σ H Q':=
 fun s m mu fz D S lo=>(h s m mu fz D S lo).weak q
theorem JE.mono {e:Expr}{Q Q':V→Hp→Prop}(h:JE g f X ns e σ H Q)(q:∀x H,Q x H→Q' x H):JE g f X ns e σ H Q':=h.weak fun x H a=>⟨H,.refl H,q x H a⟩
theorem JF.weak {t:Sem Flow}{Q Q':jD}(h:JF g f X ns t σ H Q)(q:∀x σ H,Q x σ H→∃H',H'.Sub H∧Q' x σ H'):JF g f X ns t σ H Q':=
 fun s m mu fz D S lo P E k kE=>h s m mu fz D S lo P E (fun v h tk mu' fz' D' H' m' x σ' st le d lo' hq=>by obtain⟨H₂,a,b⟩:=q _ _ _ hq;exact k v h tk mu' fz' D' H₂ m' x σ' (st.sub a) le d lo' b) kE
theorem jb.weak {fv:Value}{args:List V}{Q Q':V→Hp→Prop}(h:jb g XF n fv args H Q)(q:∀x H,Q x H→∃H',H'.Sub H∧Q' x H'):jb g XF n fv args H Q':=
 fun f s m mu fz D vals ok hq hO S d R k kE=>h f s m mu fz D vals ok hq hO S d R (fun v h tk mu' fz' D' H' x st le d hq=>by obtain⟨H₂,a,b⟩:=q _ _ hq;exact k v h tk mu' fz' D' H₂ x (st.sub a) le d b) kE
theorem Ja {h₀ h h':Heap}{L a:Addr}{m:Str→Option Value}{l:List (Addr×Obj)}{o:Obj}(F:Fr h₀ L h m)(N:News h₀ L h l)(hk:∀b o,h.get? b=some o→h'.get? b=some o)(ho:h'.get? a=some o)(ha:h.objs.size≤a):News h₀ L h' ((a,o)::l):=by
 intro p hp
 rcases qL.mp hp with rfl | hp
 ·refine⟨ho,fun z=>?_,?_⟩
  ·have:=F.ns.lt;have z:a=L:=z;rw[z]at ha;exact absurd this (Nat.not_lt.mpr ha)
  ·cases e:h₀.get? a with
   | none=>rfl
   | some o'=>exact absurd (Heap.lt_size (F.keep _ _ e)) (Nat.not_lt.mpr ha)
 ·exact⟨hk _ _ (N p hp).1,(N p hp).2⟩
end
section
variable {g:Gx}{f:Fx}{X:Ex}{ns:List Str}{σ:Lo}{H:Hp}{n:Nat}
theorem NsO.at_ {h:Heap}{a:Addr}{o:Obj}{m:Str→Option Value}(no:NsO o m)(ho:h.get? a=some o):h.Ns a m:=by
 obtain⟨es,ep,a1,a2,a3⟩:=no;exact⟨o,es,ep,ho,a1,a2,a3⟩
theorem je_blk {x:Str}{pos:Pos}{b:Bk}{ps:List (Str×V)}{v:V}{Q:V→Hp→Prop}(ok:f.Ok g n)(hb:f.bk=some b)(hk:f.env.scope.names.lookup x=some .local)(hd:(x==("__debug__" : Str))=false)(e:H b.C=some (.ns ps))(hv:ps.lookup x=some v)(q:Q v H):JE g f X ns (.Name x pos) σ H Q:=by
 intro s m mu fz D S lo
 obtain⟨o,mm,hm,no,d⟩:=S.led.ns _ _ e
 obtain⟨u,hu,du⟩:=d x v hv
 refine qq (tk:=s.toks) S du q fun P E h=>?_
 have e1:f.env.locals=b.C:=by unfold Fx.env;rw[hb];rfl
 refine wpAny_Name (wpAny_loadName_local ok.kind hk ?_ hu h) hd
 rw[e1];exact no.at_ (S.led.news _ (qB _ hm)).1
def JTgt (g:Gx)(f:Fx)(C:Addr)(t:Expr)(y:V)(ps:List (Str×V)):Prop:=
 ∀s m H mu fz D v ps0,St g f s.heap m H mu fz D→H C=some (.ns ps0)→DenG g fz y v→∀(P:Unit→Shared→Prop) (E:Value→Shared→Prop),
  (∀h tk mu' D',St g f h m (H.set C (.ns ps)) mu' fz D'→(∀a o,(a,o)∈mu→a≠C→(a,o)∈mu')→P () {s with heap:=h,toks:=tk})→wpAny (model g.prog g.w) f.A (assign t f.env v) P E s
theorem zX {s:Shared}{m:Str→Option Value}{mu fz:List (Addr×Obj)}{D:Addr→Addr}{b:Bk}{x:Str}{y:V}{v:Value}{ps0 ps1:List (Str×V)}(ok:f.Ok g n)(hb:f.bk=some b)(hk:f.env.scope.names.lookup x=some .local)(S:St g f s.heap m H mu fz D)(e:H b.C=some (.ns ps0))(h1:∀z w,z≠x→ps1.lookup z=some w→ps0.lookup z=some w)(d:DenG g fz y v)
  {P:Unit→Shared→Prop} {E:Value→Shared→Prop} (k:∀h tk mu',St g f h m (H.set b.C (.ns ((x,y)::ps1))) mu' fz D→(∀a o,(a,o)∈mu→a≠b.C→(a,o)∈mu')→P () {s with heap:=h,toks:=tk}):wpAny (model g.prog g.w) f.A (storeName f.env x v) P E s:=by
 obtain⟨o,mm,hm,no,dd⟩:=S.led.ns _ _ e
 have e1:f.env.locals=b.C:=by unfold Fx.env;rw[hb];rfl
 have z:=S.led.news _ (qB _ hm)
 refine wpAny_storeName_local (m:=mm) hk (by rw[e1];exact no.at_ z.1) (fun h' hn hs=>?_) (by
  have:=ok.kind
  cases hkk:f.env.scope.kind<;>rw[hkk]at this<;>first | rfl | cases this)
 rw[e1]at hn hs
 obtain⟨o',es,ep,ho',n1,n2,n3⟩:=hn
 have N':News f.h₀ f.L h' (jM b.C o' mu++fz):=by
  intro p hp
  have nd:=S.led.nd
  rw[qI,qY]at nd
  rcases qO.mp hp with hp | hp
  ·obtain⟨p0,hp0,rfl⟩:=qG.mp hp
   by_cases q:p0.1=b.C
   ·rw[if_pos q];exact⟨ho',z.2⟩
   ·rw[if_neg q];have:=S.led.news _ (qB _ hp0);exact⟨(hs.2 _ q).trans this.1,this.2⟩
  ·have:=S.led.news _ (qA _ hp)
   refine⟨(hs.2 _ fun q=>nd.2.2 b.C (qG.mpr ⟨_,hm,rfl⟩) p.1 (qG.mpr ⟨_,hp,rfl⟩) q.symm).trans this.1,this.2⟩
 refine k h' _ _ ⟨S.fr.change hs z.2.1 z.2.2,S.led.set_ns e hm N' ⟨es,ep,n1,n2,n3⟩ (fun w u hw=>?_)⟩ (fun a o ha hne=>jp hne ha)
 rw[List.lookup_cons]at hw
 by_cases q:w=x
 ·subst q
  simp only[beq_self_eq_true]at hw
  cases hw
  exact⟨v,if_pos rfl,d⟩
 ·rw[beq_false_of_ne q]at hw
  obtain⟨u',a1,a2⟩:=dd w u (h1 w u q hw)
  exact⟨u',(if_neg q).trans a1,a2⟩
theorem tgt_name {b:Bk}{x:Str}{p:Pos}{y:V}(ok:f.Ok g n)(hb:f.bk=some b)(hk:f.env.scope.names.lookup x=some .local):JTgt g f b.C (.Name x p) y [(x,y)]:=
 fun s m H mu fz D v ps0 S e d P E k=>wpAny_assign_Name (zX (ps1:=[]) ok hb hk S e (fun _ _ _ h=>by cases h) d fun h tk mu' S' hmu=>k h tk mu' D S' hmu)
end
def yR (scope:Scope):Bool:=(scope.names.all fun x=>x.2 != .free&&(x.2 != .cell&&(x.2 != .local||scope.names.lookup x.1==some .local)))&&scope.kind == .function
theorem zP {scope:Scope}(h:yR scope=true):(∀x∈scope.names,x.2≠.free)∧(∀x∈scope.names,x.2≠.cell)∧(∀x∈scope.names,x.2 = .local→scope.names.lookup x.1=some .local)∧scope.kind = .function:=by
 simp only[yR,qM,beq_iff_eq,qQ,bne_iff_ne,ne_eq,Bool.or_eq_true]at h
 exact⟨fun x hx=>(h.1 x hx).1,fun x hx=>(h.1 x hx).2.1,fun x hx e=>(h.1 x hx).2.2.elim (fun z=>absurd e z) id,h.2⟩
theorem Src.mono {x:V}{xs:List V}{HP:Hp→Prop}(s:Src x xs HP){H H':Hp}(le:H.Sub H')(h:HP H):HP H':=by
 cases s with
 | list=>exact h.imp id fun⟨a,e,q⟩=>⟨a,e,le _ _ q⟩
 | tup=>trivial
 | rng=>trivial
section
variable {g:Gx}{f:Fx}{X:Ex}{ns:List Str}{σ:Lo}{H:Hp}{n:Nat}{Q:V→Hp→Prop}
end
def getK {K:Type}[DecidableEq K](kvs:List (K×V))(k:K):Option V:=(kvs.find? fun p=>decide (p.1=k)).map (·.2)
def putK {K:Type}[DecidableEq K](kvs:List (K×V))(k:K)(y:V):List (K×V):=
 if kvs.any (fun p=>decide (p.1=k))then kvs.map (fun p=>if p.1=k then(p.1,y)else p)else kvs++[(k,y)]
section
variable {K:Type}[DecidableEq K]
theorem vat {P:Cf}{R:Rig}:∀{kvs:List (K×V)} {vs:List Value},Dens P R (kvs.map (·.2)) vs→∀k,
  match getK kvs k with
  | some y=>∃u,valueAt ((kvs.map (·.1)).zip vs) k=some u∧Den P R y u
  | none=>valueAt ((kvs.map (·.1)).zip vs) k=none
 | [],vs,d,k=>rfl
 | (k',y)::kvs,vs,d,k=>by
  obtain⟨v,r,rfl,dv,dr⟩:=d
  have ih:=vat dr k
  unfold getK valueAt
  simp only[jA,List.zip_cons_cons,List.find?_cons]
  by_cases q:k'=k
  ·simp only[q,decide_true]
   exact⟨v,rfl,dv⟩
  ·simp only[q,decide_false]
   exact ih
theorem Us {P:Cf}{R:Rig}{kvs:List (K×V)}{vs:List Value}(d:Dens P R (kvs.map (·.2)) vs){k:K}{y:V}(h:getK kvs k=some y):∃u,valueAt ((kvs.map (·.1)).zip vs) k=some u∧Den P R y u:=by
 have:=vat d k;rw[h]at this;exact this
theorem Kw {P:Cf}{R:Rig}{kvs:List (K×V)}{vs:List Value}(d:Dens P R (kvs.map (·.2)) vs)(k:K):(valueAt ((kvs.map (·.1)).zip vs) k).isSome=(getK kvs k).isSome:=by
 have:=vat d k
 cases h:getK kvs k with
 | none=>rw[h]at this;rw[this];rfl
 | some y=>rw[h]at this;obtain⟨u,e,_⟩:=this;rw[e];rfl
theorem Wx {P:Cf}{R:Rig}:∀{kvs:List (K×V)} {vs:List Value},Dens P R (kvs.map (·.2)) vs→∀k,(((kvs.map (·.1)).zip vs).any fun kv=>decide (kv.1=k))=kvs.any fun p=>decide (p.1=k)
 | [],vs,d,k=>rfl
 | (k',y)::kvs,vs,d,k=>by
  obtain⟨v,r,rfl,dv,dr⟩:=d
  simp only[jA,List.zip_cons_cons,List.any_cons]
  rw[Wx dr k]
theorem Ww {P:Cf}{R:Rig}{y:V}{u:Value}(du:Den P R y u)(k:K):∀{kvs:List (K×V)} {vs:List Value},Dens P R (kvs.map (·.2)) vs →
  ∃vs',Dens P R ((kvs.map (fun p=>if p.1=k then(p.1,y)else p)).map (·.2)) vs'∧((kvs.map (·.1)).zip vs).map (fun kv=>if kv.1=k then(kv.1,u)else kv)=((kvs.map (fun p=>if p.1=k then(p.1,y)else p)).map (·.1)).zip vs'
 | [],vs,d=>⟨[],rfl,rfl⟩
 | (k',y')::kvs,vs,d=>by
  obtain⟨v,r,rfl,dv,dr⟩:=d
  obtain⟨vs',a,b⟩:=Ww du k dr
  by_cases q:k'=k
  ·refine⟨u::vs',?_,?_⟩
   ·simp only[jA,q,if_true]
    exact⟨u,vs',rfl,du,by simpa using a⟩
   ·simp only[jA,List.zip_cons_cons,q,if_true]
    rw[b]
  ·refine⟨v::vs',?_,?_⟩
   ·simp only[jA,q,if_false]
    exact⟨v,vs',rfl,dv,by simpa using a⟩
   ·simp only[jA,List.zip_cons_cons,q,if_false]
    rw[b]
theorem sto {P:Cf}{R:Rig}{kvs:List (K×V)}{vs:List Value}(d:Dens P R (kvs.map (·.2)) vs){y:V}{u:Value}(du:Den P R y u)(k:K) :
  ∃vs',Dens P R ((putK kvs k y).map (·.2)) vs'∧stored ((kvs.map (·.1)).zip vs) k u=((putK kvs k y).map (·.1)).zip vs':=by
 unfold stored putK
 rw[Wx d k]
 split
 ·exact Ww du k d
 ·refine⟨vs++[u],?_,?_⟩
  ·rw[qI];exact d.append (ys:=[y]) ⟨u,[],rfl,du,rfl⟩
  ·rw[qI,List.zip_append]
   ·rfl
   ·have:=d.length;simp at this;simp[this]
theorem Kb (kvs:List (K×V))(k:K)(y:V):(putK kvs k y).length≤kvs.length+1:=by
 unfold putK;split<;>simp
theorem Wv {P:Cf}{R:Rig}{kvs:List (K×V)}{vs:List Value}(d:Dens P R (kvs.map (·.2)) vs):((kvs.map (·.1)).zip vs).length=kvs.length:=by
 have:=d.length;simp at this;simp[this]
end
theorem UP (kvs:List (String×V))(k:String):getK (strK kvs) (Str.ofString k)=getK kvs k:=by
 unfold getK strK
 induction kvs with
 | nil=>rfl
 | cons p r ih=>
  simp only[jA,List.find?_cons]
  by_cases q:p.1=k
  ·simp[q]
  ·have:¬Str.ofString p.1=Str.ofString k:=fun z=>q (qp z)
   simp only[q,this,decide_false];exact ih
theorem UA (kvs:List (String×V))(k:String)(y:V):putK (strK kvs) (Str.ofString k) y=strK (putK kvs k y):=by
 have h1:(strK kvs).any (fun p=>decide (p.1=Str.ofString k))=kvs.any fun p=>decide (p.1=k):=by
  induction kvs with
  | nil=>rfl
  | cons p r ih=>
   unfold strK at ih ⊢
   simp only[jA,List.any_cons]
   rw[ih]
   by_cases q:p.1=k
   ·simp[q]
   ·have:¬Str.ofString p.1=Str.ofString k:=fun z=>q (qp z)
    simp[q,this]
 unfold putK
 rw[h1]
 split
 ·unfold strK
  rw[List.map_map,List.map_map]
  refine List.map_congr_left fun p _=>?_
  simp only[Function.comp]
  by_cases q:p.1=k
  ·simp[q]
  ·have:¬Str.ofString p.1=Str.ofString k:=fun z=>q (qp z)
   simp[q,this]
 ·simp[strK]
def jU (g:Gx)(a:Addr):DV→Prop:=fun d=>(∃o,g.K.lookup a=some o∧wL g.cf (FzR g.base []) a o d)
inductive DGet (g:Gx)(H:Hp):V→V→Option V→Prop
 | i {a:Addr} {kvs:List (Int×V)} {k:Int}:(H a=some (.dict (.i kvs))∨jU g a (.i kvs))→DGet g H (.ref a) (.int k) (getK kvs k)
 | s {a:Addr} {kvs:List (String×V)} {k:String}:(H a=some (.dict (.s kvs))∨jU g a (.s kvs))→DGet g H (.ref a) (.str k) (getK kvs k)
section
variable {g:Gx}{f:Fx}{X:Ex}{ns:List Str}{σ:Lo}{H:Hp}{n:Nat}{m:Str→Option Value}{mu fz:List (Addr×Obj)}{D:Addr→Addr}{s:Shared}
theorem St.dictAt (G:g.Ok)(ok:f.Ok g n)(S:St g f s.heap m H mu fz D){a:Addr}{d:DV}(h:H a=some (.dict d)∨jU g a d):∃o,s.heap.get? a=some o∧wL g.cf (FzR g.base fz) a o d:=by
 rcases h with h | ⟨o,h1,h2⟩
 ·obtain⟨o,hm,dd⟩:=S.led.dict a d h
  exact⟨o,(S.led.news _ (qB _ hm)).1,dd⟩
 ·refine⟨o,((ok.x G).keeps S.fr.keep) _ _ h1,h2.mono (FzR.le fun _ h=>by cases h)⟩
theorem UY (G:g.Ok)(ok:f.Ok g n){x z:V}{y:Option V}{v w:Value}(S:St g f s.heap m H mu fz D)(dg:DGet g H x z y)(d:DenG g fz x v)(dw:DenG g fz z w) :
  ∃a u,v = .ref a∧s.TypeIs (.ref a) "dict" ∧ (∀y',y=some y'→DenG g fz y' u∧∀(P E:Value→Shared→Prop),P u {s with toks:=s.toks+1}→wpAny (model g.prog g.w) f.A (getItem v w) P E s) ∧
   (∀(P E:Value→Shared→Prop),P (.bool y.isSome) {s with toks:=s.toks+1}→wpAny (model g.prog g.w) f.A (compareOp .In w v) P E s)∧(∀(P E:Value→Shared→Prop),P (.bool (!y.isSome)) {s with toks:=s.toks+1}→wpAny (model g.prog g.w) f.A (compareOp .NotIn w v) P E s):=by
 cases dg with
 | @i a kvs k hd=>
  obtain⟨t,rfl⟩:=dw
  obtain⟨o,ho,lo,vs,ds,hD,hl⟩:=S.dictAt G ok hd
  have hk:(intKind g.prog g.w).is k (.int k t)=true:=by show Value.isInt k (.int k t)=true;simp[Value.isInt]
  have hm:s.heap.DictOf (intKind g.prog g.w) a _:=Heap.dictOf_iff.mpr ⟨o,ho,hD⟩
  have hin:=Kw ds k
  rw[show v = .ref a from d]
  cases e:getK kvs k with
  | none=>
   rw[e]at hin
   exact⟨a,.none,rfl,hm.typeIs,(fun y' z=>by cases z),(fun P E h=>wpAny_in_of hk lo hm.mapOf (by rw[hin];exact h)),(fun P E h=>wpAny_notIn_of hk lo hm.mapOf (by rw[hin];exact h))⟩
  | some y=>
   obtain⟨u,hu,du⟩:=Us ds e
   rw[e]at hin
   exact⟨a,u,rfl,hm.typeIs,(fun y' z=>by cases z;exact⟨du,fun P E h=>wpAny_getItem_of hk hm.mapOf hu h⟩),(fun P E h=>wpAny_in_of hk lo hm.mapOf (by rw[hin];exact h)),(fun P E h=>wpAny_notIn_of hk lo hm.mapOf (by rw[hin];exact h))⟩
 | @s a kvs k hd=>
  obtain⟨t,rfl⟩:=dw
  obtain⟨o,ho,lo,vs,ds,hD,hl⟩:=S.dictAt G ok hd
  have hk:(strKind g.prog g.w).is (Str.ofString k) (.str (Str.ofString k) t)=true:=by show Value.isStrOf (Str.ofString k) (.str (Str.ofString k) t)=true;simp[Value.isStrOf]
  have hm:s.heap.DictOf (strKind g.prog g.w) a _:=Heap.dictOf_iff.mpr ⟨o,ho,hD⟩
  have hin:=Kw ds (Str.ofString k)
  rw[UP]at hin
  rw[show v = .ref a from d]
  cases e:getK kvs k with
  | none=>
   rw[e]at hin
   exact⟨a,.none,rfl,hm.typeIs,(fun y' z=>by cases z),(fun P E h=>wpAny_in_of hk lo hm.mapOf (by rw[hin];exact h)),(fun P E h=>wpAny_notIn_of hk lo hm.mapOf (by rw[hin];exact h))⟩
  | some y=>
   obtain⟨u,hu,du⟩:=Us ds (k:=Str.ofString k) (by rw[UP];exact e)
   rw[e]at hin
   exact⟨a,u,rfl,hm.typeIs,(fun y' z=>by cases z;exact⟨du,fun P E h=>wpAny_getItem_of hk hm.mapOf hu h⟩),(fun P E h=>wpAny_in_of hk lo hm.mapOf (by rw[hin];exact h)),(fun P E h=>wpAny_notIn_of hk lo hm.mapOf (by rw[hin];exact h))⟩
theorem WV (G:g.Ok)(ok:f.Ok g n){x z:V}{y:Option V}{Q:V→Hp→Prop}(dg:DGet g H x z y)(q:Q (.bool y.isSome) H):Cmp g f X .In z x H Q:=by
 intro s m mu fz D w v S dw d P E k kE
 obtain⟨a,u,rfl,_,_,h,_⟩:=UY G ok S dg d dw
 exact h P E (k (.bool y.isSome) s.heap _ mu fz D H (.bool y.isSome) S (fun _ h=>h) rfl q)
theorem KZ (G:g.Ok)(ok:f.Ok g n){x z:V}{y:Option V}{Q:V→Hp→Prop}(dg:DGet g H x z y)(q:Q (.bool (!y.isSome)) H):Cmp g f X .NotIn z x H Q:=by
 intro s m mu fz D w v S dw d P E k kE
 obtain⟨a,u,rfl,_,_,_,h⟩:=UY G ok S dg d dw
 exact h P E (k (.bool (!y.isSome)) s.heap _ mu fz D H (.bool (!y.isSome)) S (fun _ h=>h) rfl q)
inductive DPut:DV→V→V→DV→Prop
 | i {kvs:List (Int×V)} {k:Int} {y:V}:kvs.length<15000000→DPut (.i kvs) (.int k) y (.i (putK kvs k y))
 | s {kvs:List (String×V)} {k:String} {y:V}:kvs.length<15000000→DPut (.s kvs) (.str k) y (.s (putK kvs k y))
theorem yD {h':Heap}{a:Addr}{o o':Obj}(S:St g f s.heap m H mu fz D)(hm:(a,o)∈mu)(hs:Heap.SameBut a s.heap h')(ho':h'.get? a=some o'):News f.h₀ f.L h' (jM a o' mu++fz):=by
 intro p hp
 have z:=S.led.news _ (qB _ hm)
 have nd:=S.led.nd
 rw[qI,qY]at nd
 rcases qO.mp hp with hp | hp
 ·obtain⟨p0,hp0,rfl⟩:=qG.mp hp
  by_cases q:p0.1=a
  ·rw[if_pos q];exact⟨ho',z.2⟩
  ·rw[if_neg q];have:=S.led.news _ (qB _ hp0);exact⟨(hs.2 _ q).trans this.1,this.2⟩
 ·have:=S.led.news _ (qA _ hp)
  exact⟨(hs.2 _ fun q=>nd.2.2 a (qG.mpr ⟨_,hm,rfl⟩) p.1 (qG.mpr ⟨_,hp,rfl⟩) q.symm).trans this.1,this.2⟩
theorem XM {a:Addr}{z y:V}{d d':DV}{w v:Value}(S:St g f s.heap m H mu fz D)(e:H a=some (.dict d))(dp:DPut d z y d')(dz:DenG g fz z w)(dy:DenG g fz y v){P:Unit→Shared→Prop}{E:Value→Shared→Prop}
  (kk:∀h tk mu',St g f h m (H.set a (.dict d')) mu' fz D→P () {s with heap:=h,toks:=tk}):wpAny (model g.prog g.w) f.A (setItem (.ref a) w v) P E s:=by
 obtain⟨o,hm,dd⟩:=S.led.dict a d e
 have za:=S.led.news _ (qB _ hm)
 cases dp with
 | @i kvs k _ hlen=>
  obtain⟨t,rfl⟩:=dz
  obtain⟨lo,vs,ds,hD,hl⟩:=dd
  have hk:(intKind g.prog g.w).is k (.int k t)=true:=by show Value.isInt k (.int k t)=true;simp[Value.isInt]
  refine wpAny_setItem_pairs hk (Heap.dictOf_iff.mpr ⟨o,za.1,hD⟩) (fun h' hm' hs=>?_) (by rw[Wv ds,sizeLine_eq];lia)
  obtain⟨vs',ds',e'⟩:=sto ds dy k
  obtain⟨o',ho',hD'⟩:=Heap.dictOf_iff.mp hm'
  rw[e']at hD'
  refine kk h' _ _ ⟨S.fr.change hs za.2.1 za.2.2,S.led.set_dict (dv':=.i (putK kvs k y)) e hm (yD S hm hs ho') ⟨lo,vs',ds',hD',?_⟩⟩
  have:=Kb kvs k y;lia
 | @s kvs k _ hlen=>
  obtain⟨t,rfl⟩:=dz
  obtain⟨lo,vs,ds,hD,hl⟩:=dd
  have hk:(strKind g.prog g.w).is (Str.ofString k) (.str (Str.ofString k) t)=true:=by show Value.isStrOf (Str.ofString k) (.str (Str.ofString k) t)=true;simp[Value.isStrOf]
  have hl2:(strK kvs).length=kvs.length:=by simp[strK]
  refine wpAny_setItem_pairs hk (Heap.dictOf_iff.mpr ⟨o,za.1,hD⟩) (fun h' hm' hs=>?_) (by rw[Wv ds,sizeLine_eq];lia)
  obtain⟨vs',ds',e'⟩:=sto ds dy (Str.ofString k)
  obtain⟨o',ho',hD'⟩:=Heap.dictOf_iff.mp hm'
  rw[e',UA]at hD'
  rw[UA]at ds'
  refine kk h' _ _ ⟨S.fr.change hs za.2.1 za.2.2,S.led.set_dict (dv':=.s (putK kvs k y)) e hm (yD S hm hs ho') ⟨lo,vs',ds',hD',?_⟩⟩
  have:=Kb kvs k y;simp[strK];lia
end
section
variable {g:Gx}{f:Fx}{X:Ex}{ns:List Str}{σ:Lo}{H:Hp}{n:Nat}{Q:jD}
end
section
variable {g:Gx}{f:Fx}{X:Ex}{ns:List Str}{σ:Lo}{H:Hp}{n:Nat}{m:Str→Option Value}{mu fz:List (Addr×Obj)}{D:Addr→Addr}
theorem St.grown {h h':Heap}(S:St g f h m H mu fz D)(hk:∀b o,h.get? b=some o→h'.get? b=some o):St g f h' m H mu fz D:=⟨S.fr.keeps hk,S.led.rebase (S.led.news.grown hk)⟩
theorem Kn {s:Shared}{h':Heap}(x:Heap.ExtBut s.heap.objs.size s.heap h'):∀b o,s.heap.get? b=some o→h'.get? b=some o:=fun b o e=>x b o (Nat.ne_of_lt (Heap.lt_size e)) e
def JAs (g:Gx)(f:Fx)(X:Ex)(ns:List Str):List Expr→List V→Lo→Hp→(Lo→Hp→Prop)→Prop
 | [],[],σ,H,Q=>Q σ H
 | t::ts,x::xs,σ,H,Q=>JA g f X ns t x σ H (fun σ' H'=>JAs g f X ns ts xs σ' H' Q)
 | _,_,_,_,_=>False
theorem WH:∀{ts:List Expr} {xs:List V} {σ:Lo} {H:Hp} {Q:Lo→Hp→Prop},JAs g f X ns ts xs σ H Q→∀s m mu fz D vs,St g f s.heap m H mu fz D→Locs g f fz ns σ m→qf g fz xs vs→∀(P:Unit→Shared→Prop) (E:Value→Shared→Prop),
  (∀h tk mu' fz' D' H' m' σ',St g f h m' H' mu' fz' D'→(∀p∈fz,p∈fz')→Locs g f fz' ns σ' m'→Q σ' H'→P () {s with heap:=h,toks:=tk}) →
  (∀m' e s',X.R s m' fz e s'→E e s')→wpAny (model g.prog g.w) f.A (assignInOrder (ts.map fun t=>assign t f.env) vs) P E s
 | [],[],σ,H,Q,h,s,m,mu,fz,D,vs,S,lo,d,P,E,k,kE=>by
  rw[show vs=[]from d]
  exact wpAny_assignInOrder_none (k s.heap s.toks mu fz D H m σ S (fun _ h=>h) lo h)
 | t::ts,x::xs,σ,H,Q,h,s,m,mu,fz,D,vs,S,lo,d,P,E,k,kE=>by
  obtain⟨v,r,rfl,dv,dr⟩:=d
  refine wpAny_assignInOrder_more (h s m mu fz D v S lo dv _ E (fun h₁ tk₁ mu₁ fz₁ D₁ H₁ m₁ σ₁ S₁ le₁ lo₁ q₁=>?_) kE)
  exact WH q₁ {s with heap:=h₁,toks:=tk₁} m₁ mu₁ fz₁ D₁ r S₁ lo₁ (Dens.mono (FzR.le le₁) _ _ dr) P E (fun h tk mu' fz' D' H' m' σ' st le lo' q=>k h tk mu' fz' D' H' m' σ' st (ja le₁ le) lo' q) (fun m' e s' hx=>kE m' e s' (X.mono le₁ hx))
 | [],_::_,_,_,_,h,_,_,_,_,_,_,_,_,_,_,_,_,_ | _::_,[],_,_,_,h,_,_,_,_,_,_,_,_,_,_,_,_,_=>h.elim
def NoStar (ts:List Expr):Prop:=∀env,assignEach ts env=ts.map fun t=>(false,assign t env)
theorem UJ (G:g.Ok)(ok:f.Ok g n)(hh:f.hd=none){ts:List Expr}{k:Nat}{pos:Pos}{xs:List V}{Q:Lo→Hp→Prop}(hns:NoStar ts)(hl:ts.length=xs.length)(h:JAs g f X ns ts xs σ H Q):JA g f X ns (.Tuple ts k pos) (.tup xs) σ H Q:=by
 intro s m mu fz D v S lo d P E kk kE
 obtain⟨a,vs,c,rfl,ho,ds,b⟩:=S.tupAt G ok d
 have ln:=ds.length
 refine wpAny_assign_Tuple (items:=vs.toArray) hh ⟨_,ho,rfl,_,rfl⟩ (by rw[hns];simp[hl,ln]) (by
  rw[hns]
  have:∀l:List Expr,(l.map fun t=>(false,assign t f.env)).findIdx? (fun x=>x.1)=none:=fun l=>by
   induction l with
   | nil=>rfl
   | cons t r ih=>rw[jA,List.findIdx?_cons];simp[ih]
  exact this ts) (fun h' hs=>?_)
 have S':=S.grown (Kn hs)
 rw[hns]
 have e1:(ts.map fun t=>(false,assign t f.env)).map (·.2)=ts.map fun t=>assign t f.env:=by rw[List.map_map];rfl
 rw[e1]
 exact WH h {s with heap:=h'} m mu fz D vs S' lo ds P E (fun h tk mu' fz' D' H' m' σ' st le lo' q=>kk h tk mu' fz' D' H' m' σ' st le lo' q) (fun m' e s' hx=>kE m' e s' (X.mono (s:=s) (h:=h') (tk:=s.toks) (fun _ h=>h) hx))
end
section
variable {g:Gx}{f:Fx}{X:Ex}{ns:List Str}{σ:Lo}{H:Hp}{n:Nat}{Q:jD}
theorem Xp {ts:List Expr}{k:Nat}{p pos:Pos}{e:Expr}(h:JE g f X ns e σ H (fun y H'=>JA g f X ns (.Tuple ts k p) y σ H' (fun σ' H''=>Q .next σ' H'')))
  (hs:swapsWithSole [.Tuple ts k p] e pos.line f.env=pure false) (hw:swappedStores [.Tuple ts k p] e f.env=pure none):JS g f X ns (.Assign [.Tuple ts k p] e pos) σ H Q:=by
 intro s m mu fz D S lo P E kk kE
 refine Assign_Tuple (h s m mu fz D S lo _ E (fun v h tk mu₁ fz₁ D₁ H₁ y S₁ le₁ d₁ q₁=>?_) (fun e s' hx=>kE _ e s' hx)) hs hw
 exact q₁ {s with heap:=h,toks:=tk} m mu₁ fz₁ D₁ v S₁ (lo.mono le₁) d₁ _ E (fun h tk mu' fz' D' H' m' σ' st le lo' q=>kk .next h tk mu' fz' D' H' m' .next σ' st (ja le₁ le) rfl lo' q) (fun m' e s' hx=>kE m' e s' (X.mono le₁ hx))
def JBs (g:Gx)(f:Fx)(ns:List Str):List Str→List V→Lo→Hp→(Lo→Hp→Prop)→Prop
 | [],[],σ,H,Q=>Q σ H
 | x::xs,y::ys,σ,H,Q=>∃i,ns[i]? = some x∧f.env.scope.names.lookup x=some .local∧JBs g f ns xs ys (σ.set i (some y)) H Q
 | _,_,_,_,_=>False
theorem WG (ok:f.Ok g n)(hb:f.bk=none)(nd:ns.Nodup):∀{xs:List Str} {ys:List V} {σ:Lo} {Q:Lo→Hp→Prop},JBs g f ns xs ys σ H Q→∀s m mu fz D vs,St g f s.heap m H mu fz D→Locs g f fz ns σ m→qf g fz ys vs→∀(P:Unit→Shared→Prop) (E:Value→Shared→Prop),
  (∀h tk m' σ',St g f h m' H mu fz D→Locs g f fz ns σ' m'→Q σ' H→P () {s with heap:=h,toks:=tk})→wpAny (model g.prog g.w) f.A (assignInOrder (xs.map fun n=>bindName f.env n) vs) P E s
 | [],[],σ,Q,h,s,m,mu,fz,D,vs,S,lo,d,P,E,k=>by
  rw[show vs=[]from d]
  exact wpAny_assignInOrder_none (k s.heap s.toks m σ S lo h)
 | x::xs,y::ys,σ,Q,⟨i,hx,hl,h⟩,s,m,mu,fz,D,vs,S,lo,d,P,E,k=>by
  obtain⟨v,r,rfl,dv,dr⟩:=d
  refine wpAny_assignInOrder_more (wpAny_bindName (wu ok hb nd hx hl S lo dv fun h₁ tk₁ m₁ S₁ lo₁=>?_))
  exact WG ok hb nd h {s with heap:=h₁,toks:=tk₁} m₁ mu fz D r S₁ lo₁ dr P E (fun h tk m' σ' st lo' q=>k h tk m' σ' st lo' q)
 | [],_::_,_,_,h,_,_,_,_,_,_,_,_,_,_,_,_ | _::_,[],_,_,h,_,_,_,_,_,_,_,_,_,_,_,_=>h.elim
theorem js_swap (G:g.Ok)(ok:f.Ok g n)(hb:f.bk=none)(hh:f.hd=none)(nd:ns.Nodup){ts:List Expr}{k:Nat}{p pos:Pos}{e:Expr}{names:List Str}
  (h:JE g f X ns e σ H (fun y H'=>∃xs,y = .tup xs∧names.length=xs.length∧JBs g f ns names.reverse xs.reverse σ H' (fun σ' H''=>Q .next σ' H'')))
  (hs:swapsWithSole [.Tuple ts k p] e pos.line f.env=pure false) (hw:swappedStores [.Tuple ts k p] e f.env=pure (some names)):JS g f X ns (.Assign [.Tuple ts k p] e pos) σ H Q:=by
 intro s m mu fz D S lo P E kk kE
 refine Assign_Tuple_swapped (names:=names) (h s m mu fz D S lo _ E (fun v h tk mu₁ fz₁ D₁ H₁ y S₁ le₁ d₁ q₁=>?_) (fun e s' hx=>kE _ e s' hx)) hs hw
 obtain⟨xs,rfl,hl,q₁⟩:=q₁
 obtain⟨a,vs,c,rfl,ho,ds,b⟩:=S₁.tupAt (s:={s with heap:=h,toks:=tk}) G ok d₁
 have ln:=ds.length
 have e1:names.length=vs.toArray.size:=by simp[hl,ln]
 rw[e1]
 refine wpAny_unpackItems_tuple (s:={s with heap:=h,toks:=tk}) hh ⟨_,ho,rfl,_,rfl⟩ (fun h' hx=>?_)
 have S':=S₁.grown (Kn (s:={s with heap:=h,toks:=tk}) hx)
 rw[show vs.toArray.toList=vs from by simp]
 exact WG ok hb nd q₁ {s with heap:=h',toks:=tk} m mu₁ fz₁ D₁ _ S' (lo.mono le₁) ds.reverse _ E (fun h tk m' σ' st lo' q=>kk .next h tk mu₁ fz₁ D₁ H₁ m' .next σ' st le₁ rfl lo' q)
end
section
variable {g:Gx}{f:Fx}{X:Ex}{ns:List Str}{σ:Lo}{H:Hp}{n:Nat}
structure KeyV (g:Gx)(K:Type)[DecidableEq K] where
 knd:KeyKind g.prog g.w K
 key:V→K→Prop
 is:∀{x:V} {k:K} {fz:List (Addr×Obj)} {v:Value},key x k→DenG g fz x v→knd.is k v=true
def JPs (g:Gx)(f:Fx)(X:Ex)(ns:List Str):List (Option Expr)→List Expr→Lo→Hp→(List (V×V)→Hp→Prop)→Prop
 | [],[],_,H,Q=>Q [] H
 | some k::ks,v::vs,σ,H,Q=>JE g f X ns k σ H (fun x H₁=>JE g f X ns v σ H₁ (fun y H₂=>JPs g f X ns ks vs σ H₂ (fun r H₃=>Q ((x,y)::r) H₃)))
 | _,_,_,_,_=>False
def Den2 (g:Gx)(fz:List (Addr×Obj)):List (V×V)→List (Value×Value)→Prop
 | [],[]=>True
 | (x,y)::r,(v,w)::r'=>DenG g fz x v∧DenG g fz y w∧Den2 g fz r r'
 | _,_=>False
theorem Qp {pos:Pos}:∀{ks:List (Option Expr)} {vs:List Expr} {H:Hp} {Q:List (V×V)→Hp→Prop},JPs g f X ns ks vs σ H Q→∀s m mu fz D,St g f s.heap m H mu fz D→Locs g f fz ns σ m→∀(P:List (Value×Value)→Shared→Prop) (E:Value→Shared→Prop),
  (∀l h tk mu' fz' D' H' r,St g f h m H' mu' fz' D'→(∀p∈fz,p∈fz')→Den2 g fz' r l→Q r H'→P l {s with heap:=h,toks:=tk}) →
  (∀e s',X.R s (f.mo m) fz e s'→E e s')→wpAny (model g.prog g.w) f.A (evalPairs (pairTrees ks vs f.env pos)) P E s
 | [],[],H,Q,h,s,m,mu,fz,D,S,lo,P,E,k,kE=>wpAny_pure (k [] s.heap s.toks mu fz D H [] S (fun _ h=>h) trivial h)
 | some ke::ks,ve::vs,H,Q,h,s,m,mu,fz,D,S,lo,P,E,k,kE=>by
  show wpAny _ _ (eval ke f.env >>= fun kv=>holding [kv] (do let x ← eval ve f.env;standAt pos;pure x) >>= fun vv=>holding [kv,vv] (evalPairs (pairTrees ks vs f.env pos)) >>= fun r=>pure ((kv,vv)::r)) P E s
  refine jC (h s m mu fz D S lo _ E (fun v h₁ tk₁ mu₁ fz₁ D₁ H₁ x S₁ le₁ d₁ q₁=>?_) kE)
  refine jC (wpAny_holding (jC (q₁ {s with heap:=h₁,toks:=tk₁} m mu₁ fz₁ D₁ S₁ (lo.mono le₁) _ E (fun w h₂ tk₂ mu₂ fz₂ D₂ H₂ y S₂ le₂ d₂ q₂=>?_) (fun e s' hx=>kE e s' (X.mono le₁ hx)))))
  refine jC (wpAny_standAt (wpAny_pure (jC (wpAny_holding ?_))))
  refine Qp q₂ {s with heap:=h₂,toks:=tk₂} m mu₂ fz₂ D₂ S₂ (lo.mono (ja le₁ le₂)) _ E (fun l h₃ tk₃ mu₃ fz₃ D₃ H₃ r S₃ le₃ d₃ q₃=>?_) (fun e s' hx=>kE e s' (X.mono (ja le₁ le₂) hx))
  exact wpAny_pure (k _ h₃ tk₃ mu₃ fz₃ D₃ H₃ ((x,y)::r) S₃ (ja le₁ (ja le₂ le₃)) ⟨Den.mono (FzR.le (ja le₂ le₃)) _ _ d₁,Den.mono (FzR.le le₃) _ _ d₂,d₃⟩ q₃)
 | [],_::_,_,_,h,_,_,_,_,_,_,_,_,_,_,_ | some _::_,[],_,_,h,_,_,_,_,_,_,_,_,_,_,_ | none::_,[],_,_,h,_,_,_,_,_,_,_,_,_,_,_ | none::_,_::_,_,_,h,_,_,_,_,_,_,_,_,_,_,_=>h.elim
theorem keyI {g:Gx}{fz:List (Addr×Obj)}{k:Int}{v:Value}(d:DenG g fz (.int k) v):(intKind g.prog g.w).is k v=true:=by
 obtain⟨t,rfl⟩:=d;show Value.isInt k (.int k t)=true;simp[Value.isInt]
theorem keyS {g:Gx}{fz:List (Addr×Obj)}{k:String}{v:Value}(d:DenG g fz (.str k) v):(strKind g.prog g.w).is (Str.ofString k) v=true:=by
 obtain⟨t,rfl⟩:=d;show Value.isStrOf (Str.ofString k) (.str (Str.ofString k) t)=true;simp[Value.isStrOf]
theorem den2I {g:Gx}{fz:List (Addr×Obj)}:∀{kvs:List (Int×V)} {l:List (Value×Value)},Den2 g fz (kvs.map fun p=>(.int p.1,p.2)) l→∃vs,qf g fz (kvs.map (·.2)) vs∧Carries (intKind g.prog g.w) l ((kvs.map (·.1)).zip vs)
 | [],[],_=>⟨[],rfl,trivial⟩
 | (k,y)::r,(v,w)::l,⟨a,b,c⟩=>by
  obtain⟨vs,d,e⟩:=den2I c
  exact⟨w::vs,⟨w,vs,rfl,b,d⟩,keyI a,rfl,e⟩
 | [],_::_,h | _::_,[],h=>h.elim
theorem den2S {g:Gx}{fz:List (Addr×Obj)}:∀{kvs:List (String×V)} {l:List (Value×Value)},Den2 g fz (kvs.map fun p=>(.str p.1,p.2)) l→∃vs,qf g fz ((strK kvs).map (·.2)) vs∧Carries (strKind g.prog g.w) l (((strK kvs).map (·.1)).zip vs)
 | [],[],_=>⟨[],rfl,trivial⟩
 | (k,y)::r,(v,w)::l,⟨a,b,c⟩=>by
  obtain⟨vs,d,e⟩:=den2S c
  exact⟨w::vs,⟨w,vs,rfl,b,d⟩,keyS a,rfl,e⟩
 | [],_::_,h | _::_,[],h=>h.elim
theorem XY (G:g.Ok)(ok:f.Ok g n){pos:Pos}{Q:V→Hp→Prop}(q:∀a,H a=none→Q (.ref a) (H.set a (.dict (.i [])))):JE g f X ns (.Dict [] [] pos) σ H Q:=by
 intro s m mu fz D S lo P E k kE
 refine newDict_K S.fr S.led.news (ok.t G).nolimit (fun d h' o F' N' hf lo hS _ hI _=>?_)
 exact k (.ref d) h' s.toks _ fz D _ (.ref d) ⟨F',S.led.push_dict (dv:=.i []) hf N' ⟨lo,[],rfl,hI,by simp⟩⟩ (fun _ h=>h) rfl (q d (S.led.fresh hf))
theorem XX (G:g.Ok)(ok:f.Ok g n){pos:Pos}{Q:V→Hp→Prop}(q:∀a,H a=none→Q (.ref a) (H.set a (.dict (.s [])))):JE g f X ns (.Dict [] [] pos) σ H Q:=by
 intro s m mu fz D S lo P E k kE
 refine newDict_K S.fr S.led.news (ok.t G).nolimit (fun d h' o F' N' hf lo hS _ hI _=>?_)
 exact k (.ref d) h' s.toks _ fz D _ (.ref d) ⟨F',S.led.push_dict (dv:=.s []) hf N' ⟨lo,[],rfl,hS,by simp⟩⟩ (fun _ h=>h) rfl (q d (S.led.fresh hf))
theorem je_dictI (G:g.Ok)(ok:f.Ok g n){ks:List (Option Expr)}{vs:List Expr}{pos:Pos}{Q:V→Hp→Prop}(hall:ks.all (·.isSome)=true)(hl:ks.length=vs.length)(h0:ks≠[])(hlen:ks.length≤15)
  (h:∀a,H a=none→JPs g f X ns ks vs σ (H.set a (.dict (.i []))) (fun r H'=>∃kvs:List (Int×V),r=kvs.map (fun p=>(.int p.1,p.2))∧(kvs.map (·.1)).Nodup∧kvs.length≤15∧H' a=some (.dict (.i []))∧Q (.ref a) (H'.set a (.dict (.i kvs))))):JE g f X ns (.Dict ks vs pos) σ H Q:=by
 intro s m mu fz D S lo P E k kE
 refine kdn_eval (knd:=intKind g.prog g.w) S.fr S.led.news (ok.t G).nolimit hall hl h0 hlen (fun d h' o F' N' hf lo' hI=>?_)
 have S':St g f h' m (H.set d (.dict (.i []))) _ fz D:=⟨F',S.led.push_dict (dv:=.i []) hf N' ⟨lo',[],rfl,hI,by simp⟩⟩
 refine Qp (h d (S.led.fresh hf)) {s with heap:=h'} m _ fz D S' lo _ E (fun l h₁ tk₁ mu₁ fz₁ D₁ H₁ r S₁ le₁ d₁ q₁=>?_) (fun e s' hx=>kE e s' (X.mono (s:=s) (h:=h') (tk:=s.toks) (fun _ h=>h) hx))
 obtain⟨kvs,rfl,nd,hk,e,q⟩:=q₁
 obtain⟨ws,dw,ca⟩:=den2I d₁
 obtain⟨o₁,hm,lo₁,vs₁,dn,hD,_⟩:=S₁.led.dict d _ e
 have za:=S₁.led.news _ (qB _ hm)
 have hz:vs₁=[]:=dn
 subst hz
 refine⟨_,ca,Heap.dictOf_iff.mpr ⟨o₁,za.1,hD⟩,fun h₂ hd₂ hs₂=>?_⟩
 rw[merged_nil_of_nodup _ (by
  have e1:((kvs.map (·.1)).zip ws).map (·.1)=kvs.map (·.1):=List.map_fst_zip (by have:=dw.length;simp at this;simp[this])
  rw[e1];exact nd)]at hd₂
 obtain⟨o₂,ho₂,hD₂⟩:=Heap.dictOf_iff.mp hd₂
 exact k (.ref d) h₂ _ _ fz₁ D₁ _ (.ref d) ⟨S₁.fr.change hs₂ za.2.1 za.2.2,S₁.led.set_dict (dv':=.i kvs) e hm (yD (s:={s with heap:=h₁,toks:=tk₁}) S₁ hm hs₂ ho₂) ⟨lo₁,ws,dw,hD₂,by lia⟩⟩ le₁ rfl q
theorem strK_fst (kvs:List (String×V)):(strK kvs).map (·.1)=kvs.map fun p=>Str.ofString p.1:=by unfold strK;rw[List.map_map];rfl
theorem je_dictS (G:g.Ok)(ok:f.Ok g n){ks:List (Option Expr)}{vs:List Expr}{pos:Pos}{Q:V→Hp→Prop}(hall:ks.all (·.isSome)=true)(hl:ks.length=vs.length)(h0:ks≠[])(hlen:ks.length≤15)
  (h:∀a,H a=none→JPs g f X ns ks vs σ (H.set a (.dict (.s []))) (fun r H'=>∃kvs:List (String×V),r=kvs.map (fun p=>(.str p.1,p.2))∧(kvs.map (·.1)).Nodup∧kvs.length≤15∧H' a=some (.dict (.s []))∧Q (.ref a) (H'.set a (.dict (.s kvs))))):JE g f X ns (.Dict ks vs pos) σ H Q:=by
 intro s m mu fz D S lo P E k kE
 refine kdn_eval (knd:=strKind g.prog g.w) S.fr S.led.news (ok.t G).nolimit hall hl h0 hlen (fun d h' o F' N' hf lo' hI=>?_)
 have S':St g f h' m (H.set d (.dict (.s []))) _ fz D:=⟨F',S.led.push_dict (dv:=.s []) hf N' ⟨lo',[],rfl,hI,by simp⟩⟩
 refine Qp (h d (S.led.fresh hf)) {s with heap:=h'} m _ fz D S' lo _ E (fun l h₁ tk₁ mu₁ fz₁ D₁ H₁ r S₁ le₁ d₁ q₁=>?_) (fun e s' hx=>kE e s' (X.mono (s:=s) (h:=h') (tk:=s.toks) (fun _ h=>h) hx))
 obtain⟨kvs,rfl,nd,hk,e,q⟩:=q₁
 obtain⟨ws,dw,ca⟩:=den2S d₁
 obtain⟨o₁,hm,lo₁,vs₁,dn,hD,_⟩:=S₁.led.dict d _ e
 have za:=S₁.led.news _ (qB _ hm)
 have hz:vs₁=[]:=dn
 subst hz
 refine⟨_,ca,Heap.dictOf_iff.mpr ⟨o₁,za.1,hD⟩,fun h₂ hd₂ hs₂=>?_⟩
 rw[merged_nil_of_nodup _ (by
  have e1:(((strK kvs).map (·.1)).zip ws).map (·.1)=(strK kvs).map (·.1):=List.map_fst_zip (by have:=dw.length;simp at this;simp[this])
  rw[e1,strK_fst]
  have:(kvs.map fun p=>Str.ofString p.1)=(kvs.map (·.1)).map Str.ofString:=by rw[List.map_map];rfl
  rw[this]
  exact List.Pairwise.map _ (fun a b z q=>z (qp q)) nd)]at hd₂
 obtain⟨o₂,ho₂,hD₂⟩:=Heap.dictOf_iff.mp hd₂
 exact k (.ref d) h₂ _ _ fz₁ D₁ _ (.ref d) ⟨S₁.fr.change hs₂ za.2.1 za.2.2,S₁.led.set_dict (dv':=.s kvs) e hm (yD (s:={s with heap:=h₁,toks:=tk₁}) S₁ hm hs₂ ho₂) ⟨lo₁,ws,dw,hD₂,by simp[strK];lia⟩⟩ le₁ rfl q
end
section
variable {M:Model}{A:Around}{E:Value→Shared→Prop}{h:Heap}{g:Array GenState}{d:Drawn}{t:Nat}{os:OsState}
variable {nm q:Str}{C N:Addr}{bs bm:List Value}{hdct:Bool}{sn:List Str}{sub:List Value}{ab:Bool}{col:Option Bool}{dd:Option Addr}{k0 k1 k2 k3 k5:Option Value}{B Bn newId initId inN:String}{bmN:List Value}
theorem xck_new (Fn:ExcBaseFacts Bn newId inN bmN)(hBn:bm.contains (.type Bn)=true){rest:List Value}{Q:Unit→Shared→Prop}(hC:h.get? C=some (excClassObj nm q C N bs bm hdct sn sub ab col dd k0 k1 k2 k3 k5 newId))
  (hq:Q () ⟨h,g,d,t,os⟩):wpAny M A (checkBuiltinCall newId ⟨.ref C::rest,[]⟩) Q E ⟨h,g,d,t,os⟩:=by
 have hcont:(Value.ref C::bm).contains (.type Bn)=true:=by rw[List.contains_cons,hBn,Bool.or_true]
 have hstar:=Fn.noStar
 simp only[checkBuiltinCall,Fn.newKind,Fn.newSplit,Fn.newRow]
 repeat (first | refine wpAny_loadPart_at hC ?_ | (refine wpAny_isSubtype_exc hC ?_;rw[hcont]) | refine wpAny_staticBase_exc hC ?_ | refine wpAny_madeBy_exc hC ?_ | simp only[bne_self_eq_false,Bool.false_eq_true,if_false] | wp_step)
 exact hq
end
section
variable {prog:Program}{w:World}{A:Around}{R:Result→Shared→Prop}{E:Value→Shared→Prop}{h:Heap}{g:Array GenState}{d:Drawn}{t:Nat}{os:OsState}
variable {nm q:Str}{C N:Addr}{bs bm:List Value}{hdct:Bool}{sn:List Str}{sub:List Value}{ab:Bool}{col:Option Bool}{dd:Option Addr}{k0 k1 k2 k3 k5:Option Value}{B Bn newId initId inN:String}{bmN:List Value}
theorem xnew (Fn:ExcBaseFacts Bn newId inN bmN)(hBn:bm.contains (.type Bn)=true)(hA:bm.contains (.type "AttributeError")=false)(hN:bm.contains (.type "NameError")=false){rest:List Value}
  (hC:h.get? C=some (excClassObj nm q C N bs bm hdct sn sub ab col dd k0 k1 k2 k3 k5 newId))
  (hq:R (.ok (.ret (.ref (h.objs.size+1)))) ⟨(h.push {cls:=.type "tuple",data:=.seq rest.toArray}).push
   {cls:=.ref C,data:=.fields #[.ref h.objs.size,.none,.none,.none,.bool false,.none]},g,d,t,os⟩) (hrest:rest.length≤sizeLine:=by size_fits) :
  codeAny (model prog w) A (.builtin newId ⟨.ref C::rest,[]⟩) R ⟨h,g,d,t,os⟩:=by
 have hends:=Fn.ends
 have hcB:(Value.ref C::bm).contains (.type Bn)=true:=by rw[List.contains_cons,hBn,Bool.or_true]
 have hcA:(Value.ref C::bm).contains (.type "AttributeError")=false:=by rw[List.contains_cons,hA];rfl
 have hcN:(Value.ref C::bm).contains (.type "NameError")=false:=by rw[List.contains_cons,hN];rfl
 refine codeAny_builtinAt Fn.entry ?_
 unfold Builtin.«BaseException.__new__»
 refine PySem.wpAt_bind ?_
 show PySem.wpAt _ _ _ (stack >>= _) _ _ _
 refine PySem.wpAt_bind (PySem.wpAt_stack fun p below=>PySem.wpAt_of_wpAny ?_)
 wp_walk
 refine PySem.wpAt_of_wpAny ?_
 rw[Fn.owner]
 repeat (first | with_reducible refine wpAny_madeHere_exc Fn.canon hC ?_ | with_reducible refine wpAny_loadPart_at hC ?_ | (with_reducible refine wpAny_isSubtype_exc hC ?_;first | rw[hcB] | rw[hcA] | rw[hcN]) | wp_step)
 show R _ _
 rw[Heap.size_push]
 exact hq
theorem Xc (Fn:ExcBaseFacts Bn newId inN bmN)(hBn:bm.contains (.type Bn)=true)(hA:bm.contains (.type "AttributeError")=false)(hN:bm.contains (.type "NameError")=false){rest:List Value}{fI:Addr}{oI:Obj}{Q:Fin→Shared→Prop}
  (hC:h.get? C=some (excClassObj nm q C N bs bm hdct sn sub ab col dd k0 k1 k2 k3 k5 newId))
  (hlook:∀h',(∀b o,h.get? b=some o→h'.get? b=some o)→Looks (model prog w) h' (typeLookup (.ref C) "__init__") (some (.ref fI)))
  (hfI:h.get? fI=some oI) (hfc:oI.cls = .type "function")
  (hq:∀h' e,Heap.MadeExcOf h h' e (.ref C) rest →
   wpAny (model prog w) A (call (.ref fI) (.ref e::rest)) (fun r s'=>r = .none∧Q (.done (.ret (.ref e))) s') E ⟨h',g,d,t,os⟩) (hrest:rest.length≤sizeLine:=by size_fits) :
  wpAny (model prog w) A (Builtin.«type.__call__» ⟨.ref C::rest,[]⟩) Q E ⟨h,g,d,t,os⟩:=by
 repeat (first | with_reducible refine wpAny_loadPart_at hC ?_ | with_reducible refine wpAny_madeBy_exc hC ?_ | wp_step)
 refine codeAny_call_builtin_code (Code.quiet_builtin _ Fn.quiet) (xck_new Fn hBn hC ?_)
 refine xnew Fn hBn hA hN hC ?_ hrest
 show wpAny _ _ _ _ _ _
 have keep:∀b o,h.get? b=some o→((h.push {cls:=.type "tuple",data:=.seq rest.toArray}).push
   {cls:=.ref C,data:=.fields #[.ref h.objs.size,.none,.none,.none,.bool false,.none]}).get? b=some o:=fun b o e=>qK _ (qK _ e)
 have hC₁:=keep _ _ hC
 have hfI₁:=keep _ _ hfI
 have hget:((h.push {cls:=.type "tuple",data:=.seq rest.toArray}).push
   {cls:=.ref C,data:=.fields #[.ref h.objs.size,.none,.none,.none,.bool false,.none]}).get? (h.objs.size+1)=some
   {cls:=.ref C,data:=.fields #[.ref h.objs.size,.none,.none,.none,.bool false,.none]}:=by heap_get
 have hcC:(Value.ref C::bm).contains (.ref C)=true:=by simp
 unfold isInstance
 repeat (first | with_reducible refine wpAny_loadPart_at hget ?_ | (with_reducible refine wpAny_isSubtype_exc hC₁ ?_;rw[hcC]) | wp_step)
 show wpAny _ _ (typeLookup (.ref C) _) _ _ _
 refine(hlook _ keep).here ?_
 refine wpAny_holding (jC ?_)
 unfold bindSpecial
 refine jC (wpAny_typeOf (T := "function") ⟨_,hfI₁,hfc⟩ ?_)
 rw[if_pos (by decide)]
 refine wpAny_pure (jC (wpAny_mono (hq _ (h.objs.size+1) ⟨fun b o hb=>keep b o hb,Heap.get?_none_of_le (Nat.le_succ _),h.objs.size,hget,Heap.get?_none_of_le (Nat.le_refl _),?_⟩) (fun r s' hr=>?_) fun _ _ x=>x))
 ·exact qK _ (Heap.get?_push_at rfl rfl)
 ·obtain⟨rfl,hQ⟩:=hr
  wp_walk
  exact hQ
theorem xcall (Fn:ExcBaseFacts Bn newId inN bmN)(hBn:bm.contains (.type Bn)=true)(hA:bm.contains (.type "AttributeError")=false)(hN:bm.contains (.type "NameError")=false){rest:List Value}{fI:Addr}{oI:Obj}{Q:Value→Shared→Prop}
  (hC:h.get? C=some (excClassObj nm q C N bs bm hdct sn sub ab col dd k0 k1 k2 k3 k5 newId))
  (hlook:∀h',(∀b o,h.get? b=some o→h'.get? b=some o)→Looks (model prog w) h' (typeLookup (.ref C) "__init__") (some (.ref fI)))
  (hfI:h.get? fI=some oI) (hfc:oI.cls = .type "function")
  (hq:∀h' e,Heap.MadeExcOf h h' e (.ref C) rest →
   wpAny (model prog w) (A.under (.builtin "type.__call__" ⟨.ref C::rest,[]⟩)) (call (.ref fI) (.ref e::rest)) (fun r s'=>r = .none∧Q (.ref e) s') E ⟨h',g,d,t,os⟩) (hrest:rest.length≤sizeLine:=by size_fits) :
  wpAny (model prog w) A (call (.ref C) rest) Q E ⟨h,g,d,t,os⟩:=by
 have f1:=tc_lookup
 have f2:=tc_bind (.ref C)
 have hT:(⟨h,g,d,t,os⟩:Shared).TypeIs (.ref C) "type" := ⟨_,hC,rfl⟩
 refine wpAny_call (codeAny_of_tree ?_)
 show wpAny _ _ (callAny (.ref C) _) _ _ _
 repeat (any_goals (first | assumption | with_reducible refine wpAny_loadPart_at hC ?_ | wp_step))
 refine⟨rfl,?_⟩
 refine codeAny_call_builtin_at (Code.quiet_builtin _ (by decide +kernel)) entry_typeCall (wpAny_check_type_call_sub hC (Xc (hrest:=hrest) Fn hBn hA hN hC hlook hfI hfc fun h' e hm=>?_))
 exact hq h' e hm
end
def zJ (K:Frag)(C fI:Addr)(newId:String):Bool:=match K.lookup C with
 | some ⟨.type "type",_,.cls cd,sl⟩=>(match cd.mro,sl.toList with
  | .ref C'::bm,[_,_,_,_,some (.builtin n),_]=>C'==C&&n==newId&&!cd.hasDel&&bm.contains (.type "Exception")&&bm.contains (.type "BaseException")&&!bm.contains (.type "AttributeError")&&!bm.contains (.type "NameError") &&
   findIn K (.ref C) "__init__" == some (some (.ref fI))&&typeIn K (.ref fI)==some (.type "function")
  | _,_=>false)
 | _=>false
theorem Ko {K:Frag}{C fI:Addr}{newId:String}(q:zJ K C fI newId=true):findIn K (.ref C) "__init__" = some (some (.ref fI))∧typeIn K (.ref fI)=some (.type "function") ∧
  ∃nm qn N bs bm hd sn sub ab col dd k0 k1 k2 k3 k5,K.lookup C=some (excClassObj nm qn C N bs bm hd sn sub ab col dd k0 k1 k2 k3 k5 newId)∧bm.contains (.type "Exception")=true∧bm.contains (.type "BaseException")=true∧bm.contains (.type "AttributeError")=false∧bm.contains (.type "NameError")=false:=by
 unfold zJ at q
 split at q
 ·rename_i dd cd sl ho
  split at q
  ·rename_i C' bm k0 k1 k2 k3 n k5 hm hs
   simp only[qM,beq_iff_eq,Bool.not_eq_true']at q
   obtain⟨⟨⟨⟨⟨⟨⟨⟨rfl,rfl⟩,hdel⟩,b1⟩,b2⟩,b3⟩,b4⟩,b5⟩,b6⟩:=q
   obtain⟨nm,bs,mro,ns,qn,hd,sn,sub,ab,col,del⟩:=cd
   dsimp only at hm hdel
   subst hm hdel
   have hsl:sl = #[k0,k1,k2,k3,some (.builtin n),k5]:=by
    obtain⟨l⟩:=sl
    simp only at hs
    rw[hs]
   subst hsl
   exact⟨b5,b6,nm,qn,ns,bs,bm,hd,sn,sub,ab,col,dd,k0,k1,k2,k3,k5,ho,b1,b2,b3,b4⟩
  ·cases q
 ·cases q
section
variable {prog:Program}{w:World}{A:Around}{R:Result→Shared→Prop}{E:Value→Shared→Prop}{h:Heap}{g:Array GenState}{d:Drawn}{t:Nat}{os:OsState}
variable {nm q:Str}{C N e:Addr}{bs bm:List Value}{hdct:Bool}{sn:List Str}{sub:List Value}{ab:Bool}{col:Option Bool}{dd:Option Addr}{k0 k1 k2 k3 k5:Option Value}{B nid newId initId:String}{bmB:List Value}
theorem xck_init (F:ExcBaseFacts B nid initId bmB)(hB:bm.contains (.type B)=true){M:Model}{oe:Obj}{rest:List Value}{Q:Unit→Shared→Prop}
  (hC:h.get? C=some (excClassObj nm q C N bs bm hdct sn sub ab col dd k0 k1 k2 k3 k5 newId)) (he:h.get? e=some oe) (hcls:oe.cls = .ref C) (hq:Q () ⟨h,g,d,t,os⟩) :
  wpAny M A (checkBuiltinCall initId ⟨.ref e::rest,[]⟩) Q E ⟨h,g,d,t,os⟩:=by
 have hcB:(Value.ref C::bm).contains (.type B)=true:=by rw[List.contains_cons,hB,Bool.or_true]
 have hshort:=F.noStar
 simp only[checkBuiltinCall,F.initKind,F.initSplit,F.initRow]
 repeat (first | (with_reducible refine wpAny_loadPart_at he ?_;rw[hcls]) | with_reducible refine wpAny_loadPart_at hC ?_ | (with_reducible refine wpAny_isSubtype_exc hC ?_;rw[hcB]) | wp_step)
 refine wpAny_onRaise ?_
 rw[show ∀(a b:String) (n:Nat),Bind.check ⟨.positional, "*",B,.self,[⟨"args",.varPos,false⟩]⟩ a b n (List.map (fun x=>x.fst) ({pos:=Value.ref e::rest}:Args).kw)=pure () from
  fun a b n=>check_star_args _ _ _ _ _ _]
 exact wpAny_pure hq
theorem xinit (F:ExcBaseFacts B nid initId bmB)(hB:bm.contains (.type B)=true){dct:Option Addr}{vs:Array Value}{sl:Array (Option Value)}{t0:Addr}{rest:List Value}{Q:Value→Shared→Prop}
  (hC:h.get? C=some (excClassObj nm q C N bs bm hdct sn sub ab col dd k0 k1 k2 k3 k5 newId)) (he:h.get? e=some ⟨.ref C,dct,.fields vs,sl⟩) (h0:vs[0]? = some (.ref t0))
  (hq:∀h' t',t'≠e→h.get? t'=none→(∀b o,b≠e→h.get? b=some o→h'.get? b=some o)→h'.get? t'=some {cls:=.type "tuple",data:=.seq rest.toArray}→h'.get? e=some ⟨.ref C,dct,.fields (vs.setIfInBounds 0 (.ref t')),sl⟩→h'.objs.size=h.objs.size+1→Q .none ⟨h',g,d,t,os⟩) (hrest:rest.length≤sizeLine:=by size_fits) :
  wpAny (model prog w) A (call (.builtin initId) (.ref e::rest)) Q E ⟨h,g,d,t,os⟩:=by
 refine wpAny_call (codeAny_call_builtin F.init.plain F.initEntry (xck_init F hB hC he rfl ?_))
 have hne:h.objs.size≠e:=Nat.ne_of_gt (Heap.lt_size he)
 have hz:0<vs.size:=(Array.getElem?_eq_some_iff.mp h0).1
 have he₁:=qK (h:=h) {cls:=.type "tuple",dict:=none,data:=.seq rest.toArray} he
 have e2:=Heap.get?_update_self (Obj.mapFields (·.setIfInBounds 0 (Value.ref h.objs.size))) he₁ rfl
 have key:Q .none ⟨(h.push {cls:=.type "tuple",dict:=none,data:=.seq rest.toArray}).update e (Obj.mapFields (·.setIfInBounds 0 (Value.ref h.objs.size))),g,d,t,os⟩:=by
  refine hq _ h.objs.size hne (Heap.get?_none_of_le (Nat.le_refl _)) (fun b o hb hbo=>?_) ?_ e2 ?_
  ·rw[qU _ _ (Ne.symm hb)];exact qK _ hbo
  ·rw[qU _ _ (Ne.symm hne)];exact Heap.get?_push_size _ rfl
  ·rw[Heap.size_update,Heap.size_push]
 repeat (first | with_reducible refine wpAny_field he₁ rfl h0 ?_ | wp_step)
 exact key
end
section
open PySem PySem.W PyProof.Rows PySem.Calls PySem.Builtin PySem.Builtin.ObjectAttr
section
def yc:List Value:=[.type "Exception",.type "BaseException",.type "object"]
theorem Xd (self:Value):refuseLoop self "__setattr__" yc=pure ():=by kernel_rfl
def JG:List Value→Bool
 | .ref _::r=>JG r
 | l=>l==yc
theorem Ky (self:Value):∀{l:List Value},JG l=true→refuseLoop self "__setattr__" l=pure ()
 | .ref c::r,e=>by rw[refuseLoop_ref];exact Ky self e
 | [],e=>by cases e
 | .type n::r,e=>by rw[show Value.type n::r=yc from beq_iff_eq.mp e];exact Xd self
 | .none::r,e | .bool _::r,e | .int _ _::r,e | .str _ _::r,e | .float _ _::r,e | .bytes _ _::r,e | .builtin _::r,e | .notImplemented::r,e | .ellipsis::r,e=>by
  have:=beq_iff_eq.mp (show(_==yc)=true from e);cases this
theorem UD:∀{l:List Value},JG l=true→l.contains (.type "object")=true
 | .ref c::r,e=>by rw[List.contains_cons,UD (l:=r) e,Bool.or_true]
 | [],e=>by cases e
 | .type n::r,e=>by rw[show Value.type n::r=yc from beq_iff_eq.mp e];decide
 | .none::r,e | .bool _::r,e | .int _ _::r,e | .str _ _::r,e | .float _ _::r,e | .bytes _ _::r,e | .builtin _::r,e | .notImplemented::r,e | .ellipsis::r,e=>by
  have:=beq_iff_eq.mp (show(_==yc)=true from e);cases this
def uN (K:Frag)(C:Addr)(k:String):Bool:=
 findIn K (.ref C) "__setattr__" == some (some (.builtin "object.__setattr__"))&&(clsIn K C).any (fun cd=>JG cd.mro&&cd.hasDict)&&takerIn K C (Str.ofString k)==some none
section
variable {prog:Program}{w:World}{A:Around}{R:Result→Shared→Prop}{E:Value→Shared→Prop}{s:Shared}{K:Frag}{C e:Addr}
theorem osa_exc {k:String}{vs:Array Value}{sl:Array (Option Value)}{v:Value}{tk:Tok}(X:K.In s.heap)(ok:uN K C k=true)(he:s.heap.get? e=some ⟨.ref C,none,.fields vs,sl⟩)
  (hq:∀h' dx t,dx≠e→s.heap.get? dx=none→(∀b o,b≠e→s.heap.get? b=some o→h'.get? b=some o)→h'.get? e=some ⟨.ref C,some dx,.fields vs,sl⟩ →
   h'.get? dx=some (dictOf [⟨PyData.keyHash w.params (Str.ofString k),.str (Str.ofString k) t,v⟩] 1)→h'.objs.size=s.heap.objs.size+1→R (.ok (.ret .none)) {s with heap:=h',toks:=s.toks+1}) :
  codeAny (model prog w) A (.call (.builtin "object.__setattr__") ⟨[.ref e,.str (Str.ofString k) tk,v],[]⟩) R s:=by
 simp only[uN,qM,beq_iff_eq]at ok
 obtain⟨⟨hs,hcd⟩,ht⟩:=ok
 obtain⟨cd,hc,ho⟩:=any_some hcd
 obtain⟨ho,hdct⟩:=Bool.and_eq_true_iff.mp ho
 have I:InstAt s.heap e ⟨.ref C,none,.fields vs,sl⟩ C none:=⟨he,rfl,rfl,trivial⟩
 have SF:=PySem.F.store_object
 have ne:cd.mro.isEmpty=false:=by cases q:cd.mro with | nil=>rw[q]at ho;cases ho | cons _ _=>rfl
 have sub:Looks (model prog w) s.heap (isInstance (.ref e) (.type "object")) true:=I.type.andThen (looks_mroIn X (by unfold mroIn;rw[hc,Option.bind_some,if_neg (by rw[ne];decide),UD ho]))
 refine codeAny_call_builtin SF.slot.plain SF.entry (@check_slot (model prog w) _ _ s "object.__setattr__" "object" "__setattr__" (.ref e) [.str (Str.ofString k) tk,v] [] _ SF.kind SF.split sub (SF.args (.ref e) (.str (Str.ofString k) tk) v) ?_)
 obtain⟨attr,ha,hr⟩:=Option.bind_eq_some_iff.mp ht
 have hm:Looks (model prog w) s.heap (mroOf (.ref C)) cd.mro:=(looks_clsIn X hc).andThen .now
 have L3:Looks (model prog w) s.heap (storeTaker? attr) none:=by
  cases attr with
  | none=>exact .now
  | some a=>
   obtain⟨b,hb,e1⟩:=Option.map_eq_some_iff.mp hr
   refine(looks_takesIn X hb).andThen ?_
   cases b with
   | true=>cases e1
   | false=>exact .now
 rw[osa_eq,refuse_eq]
 refine jC (jC (I.type.here (jC (hm.here ?_))))
 rw[Ky _ ho]
 refine wpAny_pure (jC (I.type.here (jC ((looks_findIn X ha).here (jC (L3.here ?_))))))
 dsimp only
 have hne:s.heap.objs.size≠e:=Nat.ne_of_gt (Heap.lt_size he)
 have he₁:(s.heap.push {cls:=.type "dict",data:=.dict #[]}).get? e=some ⟨.ref C,none,.fields vs,sl⟩:=qK _ he
 refine jC (wpAny_pure (jC (jC (wpAny_loadPart he (jC ((looks_clsIn X hc).here ?_))))))
 rw[hdct]
 show wpAny _ _ (alloc {cls:=.type "dict",data:=.dict #[]} >>= fun d=>update e (fun o=>{o with dict:=some d}) >>= fun _=>dictMade (.ref C) e d) _ _ _
 refine jC (wpAny_alloc (jC (wpAny_update he₁ ?_)))
 show wpAny _ _ (pure (some s.heap.objs.size)) _ _ _
 refine wpAny_pure ?_
 dsimp only
 have D:((s.heap.push {cls:=.type "dict",data:=.dict #[]}).update e fun o=>{o with dict:=some s.heap.objs.size}).get? s.heap.objs.size=some (dictOf [] 0):=
  (qU _ _ (Ne.symm hne)).trans (Heap.get?_push_size _ rfl)
 have D':(((s.heap.push {cls:=.type "dict",data:=.dict #[]}).update e fun o=>{o with dict:=some s.heap.objs.size}).update s.heap.objs.size (Obj.putName (Str.ofString k) (PyData.keyHash w.params (Str.ofString k)) (.str (Str.ofString k) s.toks) v)).get? s.heap.objs.size =
   some (dictOf [⟨PyData.keyHash w.params (Str.ofString k),.str (Str.ofString k) s.toks,v⟩] 1):=by
  rw[Heap.get?_update_self _ D (by rw[putName_dict];rfl),putName_dict];rfl
 have E':(((s.heap.push {cls:=.type "dict",data:=.dict #[]}).update e fun o=>{o with dict:=some s.heap.objs.size}).update s.heap.objs.size (Obj.putName (Str.ofString k) (PyData.keyHash w.params (Str.ofString k)) (.str (Str.ofString k) s.toks) v)).get? e =
   some ⟨.ref C,some s.heap.objs.size,.fields vs,sl⟩:=by
  rw[qU _ _ hne]
  exact Heap.get?_update_self _ he₁ rfl
 have O':∀b o,b≠e→s.heap.get? b=some o→(((s.heap.push {cls:=.type "dict",data:=.dict #[]}).update e fun o=>{o with dict:=some s.heap.objs.size}).update s.heap.objs.size (Obj.putName (Str.ofString k) (PyData.keyHash w.params (Str.ofString k)) (.str (Str.ofString k) s.toks) v)).get? b=some o:=fun b o hb hbo=>by
  rw[qU _ _ (Nat.ne_of_gt (Heap.lt_size hbo)),qU _ _ (Ne.symm hb)]
  exact qK _ hbo
 refine jC (wpAny_pure (jC ?_))
 unfold nsSet
 refine jC (jC (wpAny_askSetting (wpAny_pure (jC (wpAny_mkText (jC (wpAny_loadPart D ?_)))))))
 dsimp only
 have c:aRefKeyMayBeTheName (Str.ofString k) ([]:List DictEntry).toArray=false:=by rw[aRefKeyMayBeTheName_at];simp
 rw[c]
 refine wpAny_updatePart D ?_
 refine jC (wpAny_lookBehind D' (pastItsLine_dict (by rw[List.size_toArray,sizeLine_eq];simp)) ?_)
 exact wpAny_pure (hq _ _ _ hne (Heap.get?_none_of_le (Nat.le_refl _)) O' E' D' (by rw[Heap.size_update,Heap.size_update,Heap.size_push]))
theorem xset {k:String}{vs:Array Value}{sl:Array (Option Value)}{v:Value}{Q:Unit→Shared→Prop}(X:K.In s.heap)(ok:uN K C k=true)(he:s.heap.get? e=some ⟨.ref C,none,.fields vs,sl⟩)
  (hq:∀h' dx tk t,dx≠e→s.heap.get? dx=none→(∀b o,b≠e→s.heap.get? b=some o→h'.get? b=some o)→h'.get? e=some ⟨.ref C,some dx,.fields vs,sl⟩ →
   h'.get? dx=some (dictOf [⟨PyData.keyHash w.params (Str.ofString k),.str (Str.ofString k) t,v⟩] 1)→h'.objs.size=s.heap.objs.size+1→Q () {s with heap:=h',toks:=tk}):wpAny (model prog w) A (setAttr (.ref e) (Str.ofString k) v) Q E s:=by
 have hs:=ok
 simp only[uN,qM,beq_iff_eq]at hs
 have I:InstAt s.heap e ⟨.ref C,none,.fields vs,sl⟩ C none:=⟨he,rfl,rfl,trivial⟩
 exact set_plain X I hs.1.1 (osa_exc (s:={s with toks:=s.toks+1}) X ok he fun h' dx t a b c d e f=>hq h' dx _ t a b c d e f)
end
end
end
section
variable {g:Gx}{f:Fx}{h h':Heap}{m:Str→Option Value}{H:Hp}{mu fz:List (Addr×Obj)}{D:Addr→Addr}{a:Addr}{o o':Obj}
theorem Led.add {P:Cf}{base h₀:Heap}{L:Addr}(l:Led P base h₀ L h H mu fz D)(ho:h.get? a=some o)(hne:∀p∈mu++fz,p.1≠a)(hL:a≠L)(h0:h₀.get? a=none):Led P base h₀ L h H mu ((a,o)::fz) D:=by
 have le:jP (FzR base fz) (FzR base ((a,o)::fz)):=FzR.le fun _ h=>.tail _ h
 refine⟨fun p hp=>?_,?_,fun b ys e=>?_,fun b C ys e=>?_,fun b d e=>?_,fun b ps e=>?_,l.dinj,l.dfree⟩
 ·rcases qO.mp hp with hp | hp
  ·exact l.news p (qB _ hp)
  ·rcases qL.mp hp with rfl | hp
   ·exact⟨ho,hL,h0⟩
   ·exact l.news p (qA _ hp)
 ·have nd:=l.nd
  rw[qI,qY]at nd ⊢
  refine⟨nd.1,List.nodup_cons.mpr ⟨fun z=>?_,nd.2.1⟩,fun x hx y hy=>?_⟩
  ·obtain⟨p,hp,e⟩:=qG.mp z;exact hne p (qA _ hp) e
  ·rcases qL.mp hy with rfl | hy
   ·obtain⟨p,hp,rfl⟩:=qG.mp hx;exact hne p (qB _ hp)
   ·exact nd.2.2 x hx y hy
 ·obtain⟨ws,k,m,dd,bb⟩:=l.list b ys e;exact⟨ws,k,m,Dens.mono le _ _ dd,bb⟩
 ·obtain⟨ws,es,k,m,m',r,dd⟩:=l.inst b C ys e;exact⟨ws,es,k,m,m',r,Dens.mono le _ _ dd⟩
 ·obtain⟨ob,m,dd⟩:=l.dict b d e;exact⟨ob,m,dd.mono le⟩
 ·obtain⟨ob,mm,m,no,dd⟩:=l.ns b ps e;exact⟨ob,mm,m,no,dd.mono le⟩
theorem St.fresh_of (S:St g f h m H mu fz D)(hn:h.get? a=none):(∀p∈mu++fz,p.1≠a)∧a≠f.L∧f.h₀.get? a=none:=by
 refine⟨fun p hp z=>?_,fun z=>?_,?_⟩
 ·have:=(S.led.news p hp).1;rw[z,hn]at this;cases this
 ·obtain⟨o,_,_,ho,_⟩:=S.fr.ns;rw[z]at hn;rw[hn]at ho;cases ho
 ·cases e:f.h₀.get? a with
  | none=>rfl
  | some o=>have:=S.fr.keep _ _ e;rw[hn]at this;cases this
theorem St.add (S:St g f h m H mu fz D)(k:∀b o,h.get? b=some o→h'.get? b=some o)(hn:h.get? a=none)(ho:h'.get? a=some o):St g f h' m H mu ((a,o)::fz) D:=by
 obtain⟨h1,h2,h3⟩:=S.fresh_of hn
 have S':=S.grown k
 exact⟨S'.fr,S'.led.add ho h1 h2 h3⟩
theorem St.turnX (S:St g f h m H mu fz D)(hm:(a,o)∈fz)(hf:jN o=true)(hs:Heap.ExtBut a h h')(ho:h'.get? a=some o'):∃fz',St g f h' m H mu fz' D∧(a,o')∈fz'∧(∀p∈fz,p.1≠a→p∈fz')∧(∀p∈fz',p=(a,o')∨p∈fz)∧jP (FzR g.base fz) (FzR g.base fz'):=by
 obtain⟨S',le⟩:=S.gone hm hf hs
 have z:=S.led.news _ (qA _ hm)
 have nd:=S.led.nd
 rw[qI,qY]at nd
 refine⟨(a,o')::fz.filter fun p=>decide (p.1≠a),⟨S'.fr,S'.led.add ho (fun p hp q=>?_) z.2.1 z.2.2⟩,.head _,fun p hp q=>.tail _ (qN.mpr ⟨hp,decide_eq_true q⟩),fun p hp=>?_,fun b ob hb x=>FzR.le (fun _ h=>.tail _ h) b ob hb (le b ob hb x)⟩
 ·rcases qO.mp hp with hp | hp
  ·exact nd.2.2 p.1 (qG.mpr ⟨_,hp,rfl⟩) a (qG.mpr ⟨_,hm,rfl⟩) q
  ·exact jB (qN.mp hp).2 q
 ·rcases qL.mp hp with rfl | hp
  ·exact .inl rfl
  ·exact .inr (qN.mp hp).1
theorem St.addAt (S:St g f h m H mu fz D)(ho:h.get? a=some o)(hne:∀p∈mu++fz,p.1≠a)(hL:a≠f.L)(h0:f.h₀.get? a=none):St g f h m H mu ((a,o)::fz) D:=⟨S.fr,S.led.add ho hne hL h0⟩
end
section
variable {g:Gx}{f:Fx}{m:Str→Option Value}{H:Hp}{mu fz:List (Addr×Obj)}{D:Addr→Addr}{n:Nat}{s:Shared}
theorem XH {C e t0:Addr}{vs:Array Value}{sl:Array (Option Value)}{p1 p2 p3 p4 p5 p6 p7 p8 p9 p10:Pos}{x:V}{v:Value}
  {nm qn:Str} {N:Addr} {bs bm:List Value} {hd:Bool} {sn:List Str} {sub:List Value} {ab:Bool} {col:Option Bool} {dd:Option Addr} {k0 k1 k2 k3 k5:Option Value} {newId:String}
  {pl:Sem Bool} (hcall:eval (.Call (.Attribute (.Name "Exception" p1) "__init__" p2) [.Name "self" p3,.Name "why" p4] [] p5) f.env=(do
   let ov ← eval (.Name "Exception" p1) f.env
   standAt p2.atName
   let (f',first) ← holding [ov] (getMethod ov "__init__" pl)
   callWith p5 f' first (backTo p5 (starEach [.Name "self" p3,.Name "why" p4] f.env)) (backToKw p5 (keywordEach [] f.env))))
  (G:g.Ok) (ok:f.Ok g n) (hb:f.bk=none) (hxc:f.xc=none) (hhd:f.hd=none) (hC:g.K.lookup C=some (excClassObj nm qn C N bs bm hd sn sub ab col dd k0 k1 k2 k3 k5 newId)) (b1:bm.contains (.type "Exception")=true) (hset:uN g.K C "why" = true)
  (hcl:findCls g.K (.type "Exception") (.type "type") "__init__" = some (.val (.builtin "Exception.__init__"))) (hE:f.env.scope.names.lookup ("Exception" : Str)=some .globalImplicit) (hEn:nsIn g.K mainGlobals "Exception" = some none)
  (hs1:f.env.scope.names.lookup ("self" : Str)=some .local) (hs2:f.env.scope.names.lookup ("why" : Str)=some .local)
  (S:St g f s.heap m H mu fz D) (he:(e,⟨.ref C,none,.fields vs,sl⟩)∈fz) (h0:vs[0]? = some (.ref t0)) (hm1:m "self" = some (.ref e)) (hm2:m "why" = some v) (d:DenG g fz x v) {P:Flow→Shared→Prop} {E:Value→Shared→Prop}
  (kk:∀h' tk mu' fz' D' dx t tk' u u',St g f h' m H mu' fz' D'→(∀p∈fz,p.1≠e→p∈fz')→(e,⟨.ref C,some dx,.fields (vs.setIfInBounds 0 (.ref t)),sl⟩)∈fz'→(dx,dictOf [⟨PyData.keyHash g.w.params (Str.ofString "why"),.str (Str.ofString "why") tk',u⟩] 1)∈fz' →
   (t,{cls:=.type "tuple",data:=.seq [u'].toArray})∈fz'→DenG g fz' x u→P .next {s with heap:=h',toks:=tk}) :
  wpAny (model g.prog g.w) f.A (execs [.Expr (.Call (.Attribute (.Name "Exception" p1) "__init__" p2) [.Name "self" p3,.Name "why" p4] [] p5) p6,.Assign [.Attribute (.Name "self" p7) "why" p8] (.Name "why" p9) p10] f.env) P E s:=by
 have lo:∀{fz'},jP (FzR g.base fz) (FzR g.base fz')→Locs g f fz' ["self", "why"] [some (.ref e),some x] m:=fun {fz'} le=>⟨fun i y hy u hu=>by
  rcases i with _ | _ | i
  ·cases hy;cases hu;exact⟨_,hm1,rfl⟩
  ·cases hy;cases hu;exact⟨_,hm2,Den.mono le _ _ d⟩
  ·simp at hy,fun _ _ _ _ h=>(by rw[hxc]at h;cases h),.inl hhd⟩
 refine wpAny_execs_cons ?_
 refine wpAny_Expr_any ?_ ?_ ?_
 rotate_left
 ·unfold interactive;rw[ok.kind];rfl
 ·rfl
 refine methodCall_KW (pl:=pl) ?_ hcall
 refine KI (f:=f) (X:=Ex.none) (ns:=[]) (σ:=[]) (v:=.typ "Exception") (Q:=fun y H'=>y = .typ "Exception" ∧ H'=H) G ok hE (by decide) hEn (val:=.type "Exception") (by decide +kernel) (by decide) (fun _=>rfl) ⟨rfl,rfl⟩ s m mu fz D S ⟨fun i y hy=>by simp at hy,fun _ _ _ _ h=>(by rw[hxc]at h;cases h),.inl hhd⟩ _ _ (fun u h₁ tk₁ mu₁ fz₁ D₁ H₁ y S₁ le₁ d₁ q₁=>?_) (fun e s' hx=>hx.elim)
 obtain⟨rfl,rfl⟩:=q₁
 rw[show u = .type "Exception" from d₁]
 refine method_type (s:={s with heap:=h₁,toks:=tk₁}) S₁.fr (ok.x G) rfl (by decide +kernel) hcl rfl ?_
 refine ql (first:=[]) (Pk:=fun _=>True) (fun _=>rfl) (ur (by intro a z;cases z)) ?_
 refine zu (g:=g) (f:=f) (X:=Ex.none) (ns:=["self", "why"]) (σ:=[some (.ref e),some x]) (H:=H₁) (Q:=fun xs H'=>xs=[.ref e,x]∧H'=H₁) (ym (i:=0) ok hb rfl hs1 (by decide) rfl (zu (ym (i:=1) ok hb rfl hs2 (by decide) rfl (Qq ⟨rfl,rfl⟩)) (fun _=>rfl))) (fun _=>rfl)
  {s with heap:=h₁,toks:=tk₁+1} m mu₁ fz₁ D₁ S₁ (lo (FzR.le le₁)) _ _ (fun us h₂ tk₂ mu₂ fz₂ D₂ H₂ xs S₂ le₂ d₂ q₂=>⟨trivial,?_⟩) (fun e s' hx=>hx.elim)
 obtain⟨rfl,rfl⟩:=q₂
 obtain⟨u1,r1,rfl,du1,u2,r2,rfl,du2,rfl⟩:=d₂
 rw[show u1 = .ref e from du1]
 have he₂:=(S₂.led.news _ (qA _ (le₂ _ (le₁ _ he)))).1
 have X₂:g.K.In h₂:=(ok.x G).keeps S₂.fr.keep
 refine xinit (h:=h₂) PySem.F.excBase_Exception b1 (rest:=[u2]) (X₂ _ _ hC) he₂ h0 (fun h₃ t' hne hfr hold ht he₃ hsz=>?_)
 obtain⟨fz₃,S₃,hm₃,hk₃,hi₃,le₃⟩:=S₂.turnX (le₂ _ (le₁ _ he)) rfl (fun b o q e=>hold b o q e) he₃
 obtain⟨f1,f2,f3⟩:=S₂.fresh_of hfr
 have S₄:=S₃.addAt ht (fun p hp=>by
  rcases qO.mp hp with hp | hp
  ·exact f1 p (qB _ hp)
  ·rcases hi₃ p hp with rfl | hp
   ·exact Ne.symm hne
   ·exact f1 p (qA _ hp)) f2 f3
 have le₄:jP (FzR g.base fz) (FzR g.base ((t',{cls:=.type "tuple",data:=.seq [u2].toArray})::fz₃)):=fun b ob hb z=>FzR.le (fun _ h=>.tail _ h) b ob hb (le₃ b ob hb (FzR.le (ja le₁ le₂) b ob hb z))
 show wpAny _ _ (execs [_] f.env) P E _
 refine wpAny_execs_cons ?_
 refine plainObj_wpAny_Assign_Attribute ?_ rfl
 refine ym (g:=g) (f:=f) (X:=Ex.none) (ns:=["self", "why"]) (σ:=[some (.ref e),some x]) (H:=H₂) (i:=1) (v:=x) (Q:=fun y H'=>y=x∧H'=H₂) ok hb rfl hs2 (by decide) rfl ⟨rfl,rfl⟩
  {s with heap:=h₃,toks:=tk₂} m mu₂ _ D₂ S₄ (lo le₄) _ _ (fun u₅ h₅ tk₅ mu₅ fz₅ D₅ H₅ y₅ S₅ le₅ d₅ q₅=>?_) (fun e s' hx=>hx.elim)
 obtain⟨rfl,rfl⟩:=q₅
 refine ym (g:=g) (f:=f) (X:=Ex.none) (ns:=["self", "why"]) (σ:=[some (.ref e),some y₅]) (H:=H₅) (i:=0) (v:=.ref e) (Q:=fun y H'=>y = .ref e∧H'=H₅) ok hb rfl hs1 (by decide) rfl ⟨rfl,rfl⟩
  {s with heap:=h₅,toks:=tk₅} m mu₅ fz₅ D₅ S₅ (lo (fun b ob hb z=>FzR.le le₅ b ob hb (le₄ b ob hb z))) _ _ (fun u₆ h₆ tk₆ mu₆ fz₆ D₆ H₆ y₆ S₆ le₆ d₆ q₆=>?_) (fun e s' hx=>hx.elim)
 obtain⟨rfl,rfl⟩:=q₆
 rw[show u₆ = .ref e from d₆]
 have hm₆:=le₆ _ (le₅ _ (.tail _ hm₃))
 have X₆:g.K.In h₆:=(ok.x G).keeps S₆.fr.keep
 refine xset (s:={s with heap:=h₆,toks:=tk₆}) X₆ hset (S₆.led.news _ (qA _ hm₆)).1 (fun h₇ dx tk₇ t₇ hne₇ hfr₇ hold₇ he₇ hdx hsz₇=>?_)
 obtain⟨fz₇,S₇,hm₇,hk₇,hi₇,le₇⟩:=S₆.turnX hm₆ rfl (fun b o q e=>hold₇ b o q e) he₇
 obtain⟨g1,g2,g3⟩:=S₆.fresh_of hfr₇
 have S₈:=S₇.addAt hdx (fun p hp=>by
  rcases qO.mp hp with hp | hp
  ·exact g1 p (qB _ hp)
  ·rcases hi₇ p hp with rfl | hp
   ·exact Ne.symm hne₇
   ·exact g1 p (qA _ hp)) g2 g3
 have le₈:jP (FzR g.base fz₅) (FzR g.base ((dx,dictOf [⟨PyData.keyHash g.w.params (Str.ofString "why"),.str (Str.ofString "why") t₇,u₅⟩] 1)::fz₇)):=fun b ob hb z=>FzR.le (fun _ h=>.tail _ h) b ob hb (le₇ b ob hb (FzR.le le₆ b ob hb z))
 have hne₂:t'≠e:=hne
 show wpAny _ _ (execs [] f.env) P E _
 refine wpAny_execs_nil (kk h₇ tk₇ mu₆ _ D₆ dx t' t₇ u₅ u2 S₈ (fun p hp q=>.tail _ (hk₇ p (le₆ _ (le₅ _ (.tail _ (hk₃ p (le₂ _ (le₁ _ hp)) q)))) q)) (.tail _ hm₇) (.head _) (.tail _ (hk₇ _ (le₆ _ (le₅ _ (.head _))) hne₂)) (Den.mono le₈ _ _ d₅))
end
structure wW (g:Gx) where
 fI:Addr
 name:Str
 qual:Str
 params:Arguments
 scope:Scope
 dV:Value
 kV:Value
 doc:Value
 pm:Value
 an:Option Addr
 cdv:Value
 ct:Value
 oc:Value
 od:Option Addr
 osl:Array (Option Value)
 p1:Pos
 p2:Pos
 p3:Pos
 p4:Pos
 p5:Pos
 p6:Pos
 p7:Pos
 p8:Pos
 p9:Pos
 p10:Pos
def wW.body {g:Gx}(r:wW g):List Stmt:=[.Expr (.Call (.Attribute (.Name "Exception" r.p1) "__init__" r.p2) [.Name "self" r.p3,.Name "why" r.p4] [] r.p5) r.p6,.Assign [.Attribute (.Name "self" r.p7) "why" r.p8] (.Name "why" r.p9) r.p10]
structure wW.Ok {g:Gx}(r:wW g):Prop where
 ho:g.K.lookup r.fI=some ⟨r.oc,r.od,.func (fnOf r.name r.qual r.params r.body r.scope r.dV r.kV r.doc r.pm r.an r.cdv r.ct),r.osl⟩
 oc:r.oc = .type "function"
 hcd:codeIn g.K r.cdv r.qual=true
 hb:∀(a b:Value) (s:Shared),BindsTo s (fnOf r.name r.qual r.params r.body r.scope r.dV r.kV r.doc r.pm r.an r.cdv r.ct) ⟨[a,b],[]⟩ [("self",a),("why",b)]
 hs1:r.scope.names.lookup ("self" : Str)=some .local
 hs2:r.scope.names.lookup ("why" : Str)=some .local
 hE:r.scope.names.lookup ("Exception" : Str)=some .globalImplicit
 hEn:nsIn g.K mainGlobals "Exception" = some none
 hco:r.scope.isCoroutine=false
 hgen:r.scope.isGenerator=false
 hk:r.scope.kind = .function
 hcell:∀x∈r.scope.names,x.2≠.cell
 hcl:findCls g.K (.type "Exception") (.type "type") "__init__" = some (.val (.builtin "Exception.__init__"))
 hcall:∀env,∃pl,eval (.Call (.Attribute (.Name "Exception" r.p1) "__init__" r.p2) [.Name "self" r.p3,.Name "why" r.p4] [] r.p5) env=(do
   let ov ← eval (.Name "Exception" r.p1) env
   standAt r.p2.atName
   let (f',first) ← holding [ov] (getMethod ov "__init__" pl)
   callWith r.p5 f' first (backTo r.p5 (starEach [.Name "self" r.p3,.Name "why" r.p4] env)) (backToKw r.p5 (keywordEach [] env)))
section
variable {g:Gx}{f:Fx}{m:Str→Option Value}{H:Hp}{mu fz:List (Addr×Obj)}{D:Addr→Addr}{n:Nat}{s:Shared}
theorem exc_make (G:g.Ok)(r:wW g)(R:r.Ok)(ok:f.Ok g (n+3))(hhd:f.hd=none){C:Addr}{x:V}{v:Value}(hx:zJ g.K C r.fI "Exception.__new__" = true)(hset:uN g.K C "why" = true)
  (S:St g f s.heap m H mu fz D) (d:DenG g fz x v) {Q:Value→Shared→Prop} {E:Value→Shared→Prop}
  (kk:∀e dx t h' tk mu' fz' D',St g f h' m H mu' fz' D'→(∀p∈fz,p∈fz')→(∀p∈fz,p.1≠e)→XAt g fz' C e dx t x #[.ref t,.none,.none,.none,.bool false,.none] #[]→Q (.ref e) {s with heap:=h',toks:=tk}) :
  wpAny (model g.prog g.w) f.A (call (.ref C) [v]) Q E s:=by
 obtain⟨hfind,hty,nm,qn,N,bs,bm,hd,sn,sub,ab,col,dd,k0,k1,k2,k3,k5,hCK,b1,b2,b3,b4⟩:=Ko hx
 have Xs:g.K.In s.heap:=(ok.x G).keeps S.fr.keep
 refine xcall (h:=s.heap) PySem.F.excBase_Exception b1 b3 b4 (rest:=[v]) (Xs _ _ hCK) (fun h' hk=>looks_findIn (fun b o q=>hk _ _ (Xs _ _ q)) hfind) (Xs _ _ R.ho) R.oc (fun h' e hm=>?_)
 obtain⟨t0,he,ht0n,ht0⟩:=hm.there
 obtain⟨f1,f2,f3⟩:=S.fresh_of hm.new
 obtain⟨e1,e2,e3⟩:=S.fresh_of ht0n
 have hte:t0≠e:=fun z=>by subst z;rw[he]at ht0;cases ht0
 have S₁:St g f h' m H mu fz D:=S.grown hm.keeps
 have S₂:=S₁.addAt ht0 e1 e2 e3
 have S₃:=S₂.addAt he (fun p hp=>by
  rcases qO.mp hp with hp | hp
  ·exact f1 p (qB _ hp)
  ·rcases qL.mp hp with rfl | hp
   ·exact hte
   ·exact f1 p (qA _ hp)) f2 f3
 have dpos:=ok.dp
 have upos:=ok.un
 refine wpAny_call (code_def (A:=f.made.A) (env:=f.env0) (outer:=f.outer) (A₀:=f.A₀) (base:=g.base) ok.below S₃.fr (ok.x G) S₃.led.news (ok.t G) rfl rfl ok.kind0 R.ho R.hcd (by show f.dp+1<recursionLimit;lia) (R.hb (.ref e) v _)
  (fun y hy=>?_) (fun gh L' h₁ FG F' N' B' X' T'=>?_) R.hco R.hgen R.hk R.hcell)
 ·rcases qL.mp hy with rfl | hy
  ·exact R.hs1
  ·rcases qL.mp hy with rfl | hy
   ·exact R.hs2
   ·cases hy
 let f':Fx:=⟨f.hd,f.dp+1+1,f.un+1+3,f.gd,r.qual,r.scope,L',r.fI,r.cdv,f.env0::f.outer,f.made.A,gh,.none,.none⟩
 have ok':Fx.Ok g f' n:=⟨B',R.hk,R.hk,by show f.dp+1+1+2*n<_;lia,by show f.un+1+3+8*n<_;lia⟩
 have S':St g f' h₁ (fun y=>([((("self" : Str)),Value.ref e),((("why" : Str)),v)]).reverse.lookup y) H mu _ D:=⟨F',S₃.led.rebase N'⟩
 obtain⟨pl,hcall⟩:=R.hcall f'.env
 refine XH (f:=f') (s:={heap:=h₁,gens:=s.gens,drawn:=s.drawn,toks:=s.toks+2,os:=s.os}) (x:=x) (v:=v) hcall G ok' rfl rfl hhd hCK b1 hset R.hcl R.hE R.hEn R.hs1 R.hs2 S' (.head _) rfl rfl rfl (Den.mono (FzR.le fun _ h=>.tail _ (.tail _ h)) _ _ d) (fun h₂ tk mu' fz' D' dx t tk' u u' st le a1 a2 a3 a4=>?_)
 refine leaveK_ st.fr st.led.news fun kF kN=>⟨rfl,?_⟩
 refine kk e dx t h₂ tk mu' fz' D' ⟨kF,st.led.rebase kN⟩ (fun p hp=>le p (.tail _ (.tail _ hp)) (fun q=>f1 p (qA _ hp) q)) (fun p hp=>f1 p (qA _ hp)) ⟨a1,⟨tk',u,a2,a4⟩,⟨u',a3⟩⟩
end
structure Air (B:Heap)(l:List Env)(e C dx:Addr)(a0:Value)(h:Heap)(traced:Bool):Prop where
 stays:B.StaysIn h
 new:B.get? e=none
 frames:h.FunFrames B l
 obj:∃vs sl,h.get? e=some ⟨.ref C,some dx,.fields vs,sl⟩∧vs[0]? = some a0∧(1<vs.size∧vs[2]? = some .none) ∧
  ((vs[1]? = some .none∧traced=false)∨∃T oT ts v3,vs[1]? = some (.ref T)∧B.get? T=none∧T≠e∧h.get? T=some oT∧oT.data = .fields ts∧ts[3]? = some v3)
section
variable {M:Model}{A:Around}{E:Value→Shared→Prop}{s:Shared}{B:Heap}{env:Env}{outer:List Env}{l:List Env}{L e C dx:Addr}{a0:Value}{tr:Bool}
theorem Ud {head:Value}{hadNext:Bool}{vs:Array Value}{sl:Array (Option Value)}{Q:Unit→Shared→Prop}(hfr:A.frames=some (env::outer))(hf:env.frame=some L)(hl:s.heap.FunFrames B (env::outer))(hkb:B.StaysIn s.heap)(hen:B.get? e=none)
  (he:s.heap.get? e=some ⟨.ref C,some dx,.fields vs,sl⟩) (h0:vs[0]? = some a0) (hsz2:1<vs.size∧vs[2]? = some .none)
  (hQ:∀h',Air B (env::outer) e C dx a0 h' true→s.heap.UpToSlots h'→Q () {s with heap:=h'}) :
  wpAny M A (do setField (.ref e) 1 (← EntryCells.newEntry head (← frameOf env) .none (rawInt L) .none (← entryPlaceOf L hadNext))) Q E s:=by
 have hsz:=hsz2.1
 have hene:e∉(env::outer).filterMap (·.frame):=fun hm=>by
  obtain⟨_,o,ho,hnf⟩:=hl.mem hm
  rw[he]at ho;injection ho with ho;subst ho;exact hnf vs rfl
 refine jC (wpAny_frameOf_fun hfr hl hf fun h₁ hs₁=>?_)
 refine jC (wpAny_entryPlaceOf fun pl hpl=>?_)
 unfold EntryCells.newEntry newFields
 refine jC (wpAny_newObj_type ?_ (hpl.sizeOk5 _ _ _ _ _))
 have he₁:h₁.get? e=some _:=(hs₁.2.1 e hene).trans he
 have kb₁:B.StaysIn h₁:=fun b o hbo=>(hs₁.2.1 b fun hm=>by rw[(hl.mem hm).1]at hbo;cases hbo).trans (hkb b o hbo)
 have he₂:=qK (h:=h₁) {cls:=.type "traceback",dict:=none,data:=.fields ([head,.ref L,.none,rawInt L,.none]++(if pl.isEmpty then List.replicate 6 Value.none else pl)).toArray} he₁
 refine wpAny_setField he₂ rfl hsz (hQ _ ?_ ?_)
 ·have hTe:h₁.objs.size≠e:=Nat.ne_of_gt (Heap.lt_size he₁)
  have he₃:=Heap.get?_update_self (Obj.mapFields (·.setIfInBounds 1 (Value.ref h₁.objs.size))) he₂ rfl
  have hT₃:=(qU (h₁.push {cls:=.type "traceback",dict:=none,data:=.fields ([head,.ref L,.none,rawInt L,.none]++(if pl.isEmpty then List.replicate 6 Value.none else pl)).toArray})
   (Obj.mapFields (·.setIfInBounds 1 (Value.ref h₁.objs.size))) (Ne.symm hTe)).trans (Heap.get?_push_size h₁ rfl)
  have keep:∀b o,b≠e→h₁.get? b=some o→((h₁.push {cls:=.type "traceback",dict:=none,data:=.fields ([head,.ref L,.none,rawInt L,.none]++(if pl.isEmpty then List.replicate 6 Value.none else pl)).toArray}).update e (Obj.mapFields (·.setIfInBounds 1 (Value.ref h₁.objs.size)))).get? b=some o:=fun b o hbe hb=>by
   rw[qU _ _ (Ne.symm hbe)]
   exact qK _ hb
  refine⟨fun b o hbo=>keep b o (fun q=>by rw[q,hen]at hbo;cases hbo) (kb₁ b o hbo),hen,hl.of_keeps fun b o hb hnf=>?_,?_⟩
  ·obtain⟨sl',hs⟩:=hs₁.2.2 b o hb
   exact⟨_,keep b _ (fun q=>by rw[q,he]at hb;injection hb with hb;subst hb;exact hnf vs rfl) hs,rfl⟩
  ·refine⟨_,sl,he₃,by rw[Array.getElem?_setIfInBounds_ne (by decide)];exact h0,⟨by simpa using hsz,by rw[Array.getElem?_setIfInBounds_ne (by decide)];exact hsz2.2⟩,.inr ⟨h₁.objs.size,_,_,rawInt L,by simp[hsz],kb₁.fresh,hTe,hT₃,rfl,by simp⟩⟩
 ·intro b o hb hnf
  have hbe:b≠e:=fun q=>by rw[q,he]at hb;injection hb with hb;subst hb;exact hnf vs rfl
  obtain⟨sl',hs⟩:=hs₁.2.2 b o hb
  refine⟨sl',?_⟩
  rw[qU _ _ (Ne.symm hbe)]
  exact qK _ hs
theorem Air.up (a:Air B l e C dx a0 s.heap tr):Air B l e C dx a0 s.heap false:=a.obj.elim fun vs h=>h.elim fun sl h=>⟨a.stays,a.new,a.frames,vs,sl,h.1,h.2.1,h.2.2.1,h.2.2.2.elim (fun z=>.inl ⟨z.1,rfl⟩) .inr⟩
theorem WY {vs:Array Value}{sl:Array (Option Value)}{T:Addr}{oT:Obj}{ts:Array Value}{v3 v:Value}{Q:Unit→Shared→Prop}(hl:s.heap.FunFrames B l)(hkb:B.StaysIn s.heap)(hen:B.get? e=none)
  (he:s.heap.get? e=some ⟨.ref C,some dx,.fields vs,sl⟩) (h0:vs[0]? = some a0) (hsz:1<vs.size∧vs[2]? = some .none) (h1:vs[1]? = some (.ref T)) (hnT:B.get? T=none) (hTe:T≠e) (hT:s.heap.get? T=some oT) (hd:oT.data = .fields ts) (h3:ts[3]? = some v3)
  (hQ:∀h',h'.get? e=some ⟨.ref C,some dx,.fields vs,sl⟩→Air B l e C dx a0 h' true→s.heap.UpToSlots h'→Q () {s with heap:=h'}):wpAny M A (setField (.ref T) 3 v) Q E s:=by
 have hz:=(Array.getElem?_eq_some_iff.mp h3).1
 refine wpAny_setField hT hd hz (hQ _ ?_ ?_ ?_)
 ·rw[qU _ _ hTe];exact he
 ·have other:∀b,b≠T→(s.heap.update T (Obj.mapFields (·.setIfInBounds 3 v))).get? b=s.heap.get? b:=fun b hb=>qU _ _ (Ne.symm hb)
  have nT:∀b o,s.heap.get? b=some o→(∀vs,o.data≠.fields vs)→b≠T:=fun b o hb hnf q=>by rw[q,hT]at hb;injection hb with hb;subst hb;exact hnf ts hd
  refine⟨fun b o hbo=>(other b fun q=>by rw[q,hnT]at hbo;cases hbo).trans (hkb b o hbo),hen,hl.of_keeps fun b o hb hnf=>⟨o,(other b (nT b o hb hnf)).trans hb,rfl⟩,vs,sl,(other e (Ne.symm hTe)).trans he,h0,hsz,.inr ⟨T,_,_,v,h1,hnT,hTe,Heap.get?_update_self _ hT (Obj.isFreed_of_fields (Obj.data_mapFields hd _)),Obj.data_mapFields hd _,by simp[hz]⟩⟩
 ·intro b o hb hnf
  have hbT:b≠T:=fun q=>by rw[q,hT]at hb;injection hb with hb;subst hb;exact hnf ts hd
  exact⟨o.slots,(qU _ _ (Ne.symm hbT)).trans hb⟩
theorem Kt {Q:Unit→Shared→Prop}(hfr:A.frames=some (env::outer))(hf:env.frame=some L)(a:Air B (env::outer) e C dx a0 s.heap tr)
  (hQ:∀h',Air B (env::outer) e C dx a0 h' true→s.heap.UpToSlots h'→Q () {s with heap:=h'}):wpAny M A (noteFrame (.ref e) env) Q E s:=by
 obtain⟨hkb,hen,hl,vs,sl,he,h0,hsz,hcase⟩:=a
 unfold noteFrame
 simp only[hf]
 rcases hcase with⟨h1,_⟩ | ⟨T,oT,ts,v3,h1,hnT,hTe,hT,hd,h3⟩
 ·refine jC (wpAny_field he rfl h1 ?_)
  rw[if_neg (by decide)]
  exact Ud hfr hf hl hkb hen he h0 hsz hQ
 ·refine jC (wpAny_field he rfl h1 ?_)
  rw[if_pos (show(Value.ref T != Value.none)=true from by simp)]
  refine jC (wpAny_field hT hd h3 ?_)
  by_cases q:(v3==rawInt L)=true
  ·rw[if_pos q]
   exact wpAny_pure (hQ s.heap ⟨hkb,hen,hl,vs,sl,he,h0,hsz,.inr ⟨T,oT,ts,v3,h1,hnT,hTe,hT,hd,h3⟩⟩ (.refl _))
  ·rw[if_neg q]
   refine jC (WY hl hkb hen he h0 hsz h1 hnT hTe hT hd h3 fun h' he' a' up=>?_)
   exact Ud (s:={s with heap:=h'}) hfr hf a'.frames a'.stays hen he' h0 hsz fun h'' a'' up'=>hQ h'' a'' (up.trans up')
theorem wf {fr:Option Addr}{Q:Unit→Shared→Prop}(a:Air B l e C dx a0 s.heap tr)(hQ:∀h',Air B l e C dx a0 h' tr→s.heap.UpToSlots h'→Q () {s with heap:=h'}):wpAny M A (setFlight (.ref e) fr) Q E s:=by
 obtain⟨hkb,hen,hl,vs,sl,he,h0,hsz,hcase⟩:=id a
 unfold setFlight
 rcases hcase with⟨h1,_⟩ | ⟨T,oT,ts,v3,h1,hnT,hTe,hT,hd,h3⟩
 ·refine jC (wpAny_field he rfl h1 ?_)
  rw[if_neg (by decide)]
  exact wpAny_pure (hQ s.heap a (.refl _))
 ·refine jC (wpAny_field he rfl h1 ?_)
  rw[if_pos (show(Value.ref T != Value.none)=true from by simp)]
  refine WY hl hkb hen he h0 hsz h1 hnT hTe hT hd h3 fun h' he' a' up=>hQ h' ?_ up
  cases tr with
  | true=>exact a'
  | false=>exact a'.up (s:={s with heap:=h'})
theorem Yw {Q:Unit→Shared→Prop}(hfr:A.frames=some (env::outer))(hf:env.frame=some L)(a:Air B (env::outer) e C dx a0 s.heap tr)
  (hQ:∀h',Air B (env::outer) e C dx a0 h' true→s.heap.UpToSlots h'→Q () {s with heap:=h'}):wpAny M A (leaving env (.ref e)) Q E s:=by
 unfold leaving
 exact jC (Kt hfr hf a fun h' a' up=>wf (s:={s with heap:=h'}) a' fun h'' a'' up'=>hQ h'' a'' (up.trans up'))
theorem air_pass {X:Value→Shared→Prop}(hfr:A.frames=some (env::outer))(hf:env.frame=some L)(a:Air B (env::outer) e C dx a0 s.heap tr)
  (hQ:∀h',Air B (env::outer) e C dx a0 h' true→s.heap.UpToSlots h'→X (.ref e) {s with heap:=h'}):notedBy M A env (fun e s'=>cameBackBy M A env X e s') (.ref e) s:=by
 unfold notedBy
 refine Kt hfr hf a fun h' a' up=>?_
 unfold cameBackBy
 obtain⟨vs,sl,he,h0,hsz,hcase⟩:=a'.obj
 rcases hcase with⟨_,h⟩ | ⟨T,oT,ts,v3,h1,hnT,hTe,hT,hd,h3⟩
 ·cases h
 refine jC (wpAny_field (s:={s with heap:=h'}) he rfl h1 ?_)
 rw[if_neg (show ¬((Value.ref T==Value.none)=true)from Bool.false_ne_true)]
 first
  | exact wf (s:={s with heap:=h'}) a' fun h'' a'' up'=>hQ h'' a'' (up.trans up')
  | exact jC (wpAny_pure (wf (s:={s with heap:=h'}) a' fun h'' a'' up'=>hQ h'' a'' (up.trans up')))
end
structure uz (g:Gx)(f:Fx)(C:Addr)(x:V)(QX:Hp→Prop)(m:Str→Option Value)(fz:List (Addr×Obj))(e:Addr)(h:Heap)(tr:Bool)(B:Heap)(dx t:Addr)(mu' fz':List (Addr×Obj))(D':Addr→Addr)(H':Hp):Prop where
 air:Air B (f.env0::f.outer) e C dx (.ref t) h tr
 names:h.Ns f.L m
 up:f.h₀.UpToSlots h
 above:f.h₀.objs.size≤f.L
 ground:∀b o,f.h₀.get? b=some o→b∉(f.env0::f.outer).filterMap (·.frame)→B.get? b=some o
 led:Led g.cf g.base f.h₀ f.L h H' mu' fz' D'
 inB:∀q∈mu'++fz',B.get? q.1=some q.2
 sub:∀p∈fz,p∈fz'
 why:∃tk u,(dx,dictOf [⟨PyData.keyHash g.w.params (Str.ofString "why"),.str (Str.ofString "why") tk,u⟩] 1)∈fz'∧DenG g fz' x u
 args:∃u,(t,{cls:=.type "tuple",data:=.seq [u].toArray})∈fz'
 post:QX H'
section
variable {g:Gx}{f:Fx}{C:Addr}{x:V}{QX:Hp→Prop}{m:Str→Option Value}{fz:List (Addr×Obj)}{e:Addr}{h h':Heap}{tr tr':Bool}{B:Heap}{dx t:Addr}{mu' fz':List (Addr×Obj)}{D':Addr→Addr}{H':Hp}
theorem Led.move {P:Cf}{base h₀:Heap}{L:Addr}{mu:List (Addr×Obj)}(l:Led P base h₀ L h H' mu fz D')(k:∀q∈mu++fz,h'.get? q.1=some q.2):Led P base h₀ L h' H' mu fz D':=
 ⟨fun q hq=>⟨k q hq,(l.news q hq).2⟩,l.nd,l.list,l.inst,l.dict,l.ns,l.dinj,l.dfree⟩
theorem uz.move (F:uz g f C x QX m fz e h tr B dx t mu' fz' D' H')(a:Air B (f.env0::f.outer) e C dx (.ref t) h' tr')(up:h.UpToSlots h'):uz g f C x QX m fz e h' tr' B dx t mu' fz' D' H':=
 ⟨a,up.ns F.names,F.up.trans up,F.above,F.ground,F.led.move fun q hq=>a.stays _ _ (F.inB q hq),F.inB,F.sub,F.why,F.args,F.post⟩
theorem uz.out {f':Fx}(c:Wi g f f'){m':Str→Option Value}{fz₀:List (Addr×Obj)}(F:uz g f' C x QX m' fz e h tr B dx t mu' fz' D' H')(FG:Fr f.h₀ f.L f'.h₀ m)(ab:f.h₀.objs.size≤f.L)(le:∀p∈fz₀,p∈fz):uz g f C x QX m fz₀ e h tr B dx t mu' fz' D' H':=by
 have hfr:(f'.env0::f'.outer)=f'.env0::f.env0::f.outer:=by rw[c.houter]
 obtain⟨a1,a2,a3,a4⟩:=F.air
 rw[hfr]at a3
 obtain⟨o,es,ep,ho,hd,hr⟩:=FG.ns
 have nL:∀q∈mu'++fz',q.1≠f.L∧f.h₀.get? q.1=none:=fun q hq=>by
  have:=(F.led.news q hq).2.2
  refine⟨fun z=>(by rw[z,ho]at this;cases this),?_⟩
  cases k:f.h₀.get? q.1 with
  | none=>rfl
  | some o'=>rw[FG.keep _ _ k]at this;cases this
 refine⟨⟨a1,a2,a3.2.2,a4⟩,F.up.ns FG.ns,(Heap.UpToSlots.of_keeps FG.keep).trans F.up,ab,fun b ob hb hn=>F.ground b ob (FG.keep _ _ hb) fun hm=>?_,
  ⟨fun q hq=>⟨(F.led.news q hq).1,nL q hq⟩,F.led.nd,F.led.list,F.led.inst,F.led.dict,F.led.ns,F.led.dinj,F.led.dfree⟩,F.inB,fun p hp=>F.sub p (le p hp),F.why,F.args,F.post⟩
 rw[hfr]at hm
 rcases qL.mp (show b∈f'.L::(f.env0::f.outer).filterMap (·.frame)from hm)with z | z
 ·have h1:=Heap.lt_size (FG.keep _ _ hb)
  have h2:=F.above
  rw[z]at h1
  exact absurd h1 (Nat.not_lt.mpr h2)
 ·exact hn z
end
inductive Fly1 (g:Gx)(f:Fx)(C:Addr)(x:V)(QX:Hp→Prop)(s:Shared)(m:Str→Option Value)(fz:List (Addr×Obj)):Value→Shared→Prop
 | mk (ea:Addr) (h:Heap) (tk:Nat) (tr:Bool) (B:Heap) (dx t:Addr) (mu' fz':List (Addr×Obj)) (D':Addr→Addr) (H':Hp) (F:uz g f C x QX m fz ea h tr B dx t mu' fz' D' H'):Fly1 g f C x QX s m fz (.ref ea) {s with heap:=h,toks:=tk}
section
variable {g:Gx}{f f':Fx}{C:Addr}{x:V}{QX:Hp→Prop}{s s':Shared}{m m':Str→Option Value}{fz fz':List (Addr×Obj)}{e:Value}
theorem Fly1.mono {h:Heap}{tk:Nat}(le:∀p∈fz,p∈fz')(a:Fly1 g f C x QX {s with heap:=h,toks:=tk} m fz' e s'):Fly1 g f C x QX s m fz e s':=by
 cases a with
 | mk ea h tk tr B dx t mu' fz' D' H' F=>exact .mk (s:=s) ea h tk tr B dx t mu' fz' D' H' {F with sub:=fun p hp=>F.sub p (le p hp)}
theorem Fly1.leave {h:Heap}{tk:Nat}(c:Wi g f f')(FG:Fr f.h₀ f.L f'.h₀ m)(a:Fly1 g f' C x QX {s with heap:=h,toks:=tk} m' fz e s'){P:Unit→Shared→Prop}{E:Value→Shared→Prop}(kP:∀s'',Fly1 g f C x QX s m fz e s''→P () s'') :
  wpAny (model g.prog g.w) f'.A (leaving f'.env e) P E s':=by
 cases a with
 | mk ea h tk tr B dx t mu' fz' D' H' F=>
  rw[Fx.env_none c.bk]
  refine Yw (A:=f'.A) (outer:=f'.outer) (L:=f'.L) rfl rfl F.air fun h₂ a up=>?_
  exact kP _ (.mk (s:=s) ea h₂ tk _ B dx t mu' fz' D' H' ((F.move a up).out c FG FG.above (fun _ h=>h)))
theorem Fly1.pass {n:Nat}(ok:Fx.Ok g f n)(hb:f.bk=none)(a:Fly1 g f C x QX s m fz e s'){Q:Value→Shared→Prop}(k:∀s'',Fly1 g f C x QX s m fz e s''→Q e s'') :
  notedBy (model g.prog g.w) f.A f.env (fun e s'=>cameBackBy (model g.prog g.w) f.A f.env Q e s') e s':=by
 cases a with
 | mk ea h tk tr B dx t mu' fz' D' H' F=>
  rw[Fx.env_none hb]
  refine air_pass (s:={s with heap:=h,toks:=tk}) (A:=f.A) (outer:=f.outer) (L:=f.L) rfl rfl F.air fun h₂ a up=>?_
  exact k _ (.mk (s:=s) ea h₂ tk _ B dx t mu' fz' D' H' (F.move a up))
theorem uz.made {ea:Addr}{h:Heap}{tr:Bool}{B:Heap}{dx t:Addr}{mu':List (Addr×Obj)}{D':Addr→Addr}{H':Hp}{d u:Nat}(F:uz g f C x QX m fz ea h tr B dx t mu' fz' D' H'):uz g {f with dp:=d,un:=u} C x QX m fz ea h tr B dx t mu' fz' D' H':=
 ⟨F.air,F.names,F.up,F.above,F.ground,F.led,F.inB,F.sub,F.why,F.args,F.post⟩
theorem Fly1.made {d u:Nat}:Fly1 g {f with dp:=d,un:=u} C x QX s m fz e s'↔Fly1 g f C x QX s m fz e s':=by
 constructor
 ·intro a
  cases a with
  | mk ea h tk tr B dx t mu' fz' D' H' F=>exact .mk (s:=s) ea h tk tr B dx t mu' fz' D' H' (F.made (d:=f.dp) (u:=f.un))
 ·intro a
  cases a with
  | mk ea h tk tr B dx t mu' fz' D' H' F=>exact .mk (s:=s) ea h tk tr B dx t mu' fz' D' H' F.made
end
def jR (g:Gx)(QX:Addr→V→Hp→Prop):ExF g where
 R:=fun f=>⟨fun s m fz e s'=>∃C x,Fly1 g f C x (QX C x) s m fz e s',fun le ⟨C,x,a⟩=>⟨C,x,a.mono le⟩⟩
 calm:=False
 leave:=fun c _ FG ⟨C,x,a⟩=>a.leave c FG fun _ b=>⟨C,x,b⟩
 made:=fun f=>by
  funext s m fz e s'
  exact propext ⟨fun⟨C,x,a⟩=>⟨C,x,Fly1.made.mp a⟩,fun⟨C,x,a⟩=>⟨C,x,Fly1.made.mpr a⟩⟩
 pass:=fun⟨n,ok⟩ hb ⟨C,x,a⟩=>a.pass ok hb fun _ b=>⟨C,x,b⟩
section
variable {M:Model}{A:Around}{E:Value→Shared→Prop}{s:Shared}{env:Env}
theorem Ui {C:Addr}{nm q:Str}{N:Addr}{bs bm:List Value}{hdct:Bool}{sn:List Str}{sub:List Value}{ab:Bool}{col:Option Bool}{dd:Option Addr}{k0 k1 k2 k3 k5:Option Value}{newId:String}{x:Sem Value}{Q:Flow→Shared→Prop}
  (hbase:bm.contains (.type "BaseException")=true) (hh:A.handled=none)
  (h:wpAny M A x (fun v s₁=>∃e dct vs sl,v = .ref e∧s₁.heap.get? C=some (excClassObj nm q C N bs bm hdct sn sub ab col dd k0 k1 k2 k3 k5 newId)∧s₁.heap.get? e=some ⟨.ref C,dct,.fields vs,sl⟩∧vs[1]? = some .none∧E (.ref e) s₁) E s) :
  wpAny M A (raiseStmt env (some x) none) Q E s:=by
 unfold raiseStmt
 refine jC (wpAny_mono h (fun v s₁ h₁=>?_) fun _ _ x=>x)
 obtain⟨e,dct,vs,sl,rfl,hC,he,h1,hE⟩:=h₁
 obtain⟨hp,g,d,tk,os⟩:=s₁
 have hcB:(Value.ref C::bm).contains (.type "BaseException")=true:=by rw[List.contains_cons,hbase,Bool.or_true]
 repeat (first | with_reducible refine wpAny_loadPart_at he ?_ | with_reducible refine wpAny_loadPart_at hC ?_ | (with_reducible refine wpAny_isSubtype_exc hC ?_;rw[hcB]) | (with_reducible refine wpAny_field he rfl h1 ?_) | wp_step)
 unfold raiseNew
 refine jC (wpAny_handled ?_)
 rw[hh]
 first
  | exact wpAny_throw hE
  | exact jC (wpAny_pure (wpAny_throw hE))
end
section
variable {g:Gx}{f:Fx}{ns:List Str}{σ:Lo}{H:Hp}{n:Nat}{m:Str→Option Value}{mu fz:List (Addr×Obj)}{D:Addr→Addr}
theorem fly_made (ok:f.Ok g n)(hb:f.bk=none){h:Heap}{C e dx t:Addr}{x:V}{vs:Array Value}{sl:Array (Option Value)}{fz₀:List (Addr×Obj)}{QX:Hp→Prop}(S:St g f h m H mu fz D)(X:XAt g fz C e dx t x vs sl)(le:∀p∈fz₀,p∈fz)(hn:∀p∈fz₀,p.1≠e)(h0:vs[0]? = some (.ref t))(h1:vs[1]? = some .none)(h2:vs[2]? = some .none)(q:QX H) :
  ∃B fz',uz g f C x QX m fz₀ e h false B dx t mu fz' D H:=by
 obtain⟨S',rl⟩:=S.gone X.obj rfl (fun b o _ e=>e)
 have K':=ok.below.push (name:=f.name) (a:=f.a) (cd:=f.cd) (scope:=f.scope) S.fr ok.kind0
 have ze:=S.led.news _ (qA _ X.obj)
 have hin:∀env∈(f.env0::f.outer),∀b,env.frame=some b→b∈e::(f.env0::f.outer).filterMap (·.frame):=fun env he b hb=>.tail _ (List.mem_filterMap.mpr ⟨env,he,hb⟩)
 have nd:=S.led.nd
 rw[qI,qY]at nd
 have hne:∀p∈mu,p.1≠e:=fun p hp z=>nd.2.2 p.1 (qG.mpr ⟨_,hp,rfl⟩) e (qG.mpr ⟨_,X.obj,rfl⟩) z
 have dxe:dx≠e:=fun z=>by
  obtain⟨tk,u,hd,_⟩:=X.dict
  have:=(S.led.news _ (qA _ hd)).1
  rw[z,ze.1]at this;cases this
 have te:t≠e:=fun z=>by
  obtain⟨u,hd⟩:=X.tup
  have:=(S.led.news _ (qA _ hd)).1
  rw[z,ze.1]at this;cases this
 refine⟨hideAll h (e::(f.env0::f.outer).filterMap (·.frame)),_,⟨⟨fun b o q=>of_hideAll _ q,hideAll_none _ (.head _),funFrames_hide K'.frames hin,vs,sl,ze.1,h0,⟨(Array.getElem?_eq_some_iff.mp h1).1,h2⟩,.inl ⟨h1,rfl⟩⟩,?_,Heap.UpToSlots.of_keeps S.fr.keep,S.fr.above,fun b o hb hn=>?_,S'.led,fun q hq=>?_,?_,?_,?_,q⟩⟩
 ·have:=S.fr.ns;rw[Fx.mo_none hb]at this;exact this
 ·refine hideAll_get _ (S.fr.keep _ _ hb) fun hm=>?_
  rcases qL.mp hm with rfl | hm
  ·rw[ze.2.2]at hb;cases hb
  ·exact hn hm
 ·have hq':q∈mu++fz∧q.1≠e:=by
   rcases qO.mp hq with hq | hq
   ·exact⟨qB _ hq,hne q hq⟩
   ·exact⟨qA _ (qN.mp hq).1,jB (qN.mp hq).2⟩
  have z:=S.led.news q hq'.1
  refine hideAll_get _ z.1 fun hm=>?_
  rcases qL.mp hm with hm | hm
  ·exact hq'.2 hm
  ·obtain⟨env,he,hf⟩:=List.mem_filterMap.mp hm
   rcases qL.mp he with rfl | he
   ·exact z.2.1 (Option.some.inj hf).symm
   ·obtain⟨o,ho,_⟩:=(ok.below.frames.mem (List.mem_filterMap.mpr ⟨env,he,hf⟩)).2
    rw[z.2.2]at ho;cases ho
 ·exact fun p hp=>qN.mpr ⟨le p hp,decide_eq_true (hn p hp)⟩
 ·obtain⟨tk,u,hd,du⟩:=X.dict
  exact⟨tk,u,qN.mpr ⟨hd,decide_eq_true dxe⟩,Den.mono rl _ _ du⟩
 ·obtain⟨u,hd⟩:=X.tup
  exact⟨u,qN.mpr ⟨hd,decide_eq_true te⟩⟩
theorem js_raise (G:g.Ok)(r:wW g)(R:r.Ok)(ok:f.Ok g (n+3))(hb:f.bk=none)(hh:f.hd=none){C:Addr}{QX:Addr→V→Hp→Prop}{Q:jD}(hx:zJ g.K C r.fI "Exception.__new__" = true)(hset:uN g.K C "why" = true){xn:Str}{np cpos pos:Pos}{args:List Expr}(hpl:wj args)(hkeep:keepIn g.K (.ref C)=true)
  (h:JE g f ((jR g QX).R f) ns (.Name xn np) σ H (fun v H₁=>v = .ref C∧JEs g f ((jR g QX).R f) ns cpos args σ H₁ (fun xs H₂=>∃x,xs=[x]∧QX C x H₂))):JS g f ((jR g QX).R f) ns (.Raise (some (.Call (.Name xn np) args [] cpos)) none pos) σ H Q:=by
 intro s m mu fz D S lo P E k kE
 obtain⟨hfind,hty,nm,qn,N,bs,bm,hd,sn,sub,ab,col,dd,k0,k1,k2,k3,k5,hCK,b1,b2,b3,b4⟩:=Ko hx
 rw[arm_exec_Raise]
 show wpAny _ _ (do standAt pos;raiseStmt f.env (some (do let v ← eval (.Call (.Name xn np) args [] cpos) f.env;standAt pos;pure v)) none) P E s
 refine jC (wpAny_standAt (Ui (C:=C) (nm:=nm) (q:=qn) (N:=N) (bs:=bs) (bm:=bm) (hdct:=hd) (sn:=sn) (sub:=sub) (ab:=ab) (col:=col) (dd:=dd) (k0:=k0) (k1:=k1) (k2:=k2) (k3:=k3) (k5:=k5) (newId := "Exception.__new__") b2 hh ?_))
 have kE':∀e s',((jR g QX).R f).R s (f.mo m) fz e s'→E e s':=fun e s' hx=>kE _ e s' hx
 refine jC (Call_Name rfl (h s m mu fz D S lo _ E (fun v h tk mu₁ fz₁ D₁ H₁ y S₁ le₁ d₁ q₁=>?_) kE'))
 obtain⟨rfl,q₁⟩:=q₁
 rw[show v = .ref C from d₁]
 refine ql (Pk:=fun h=>g.K.In h) hpl (keeps_K hkeep) ?_
 refine q₁ {s with heap:=h,toks:=tk} m mu₁ fz₁ D₁ S₁ (lo.mono le₁) _ E (fun ws h₂ tk₂ mu₂ fz₂ D₂ H₂ xs S₂ le₂ d₂ q₂=>⟨(ok.x G).keeps S₂.fr.keep,?_⟩) (fun e s' hx=>kE' e s' (((jR g QX).R f).mono le₁ hx))
 obtain⟨x,rfl,q₂⟩:=q₂
 obtain⟨u,r',rfl,du,rfl⟩:=d₂
 refine exc_make (s:={s with heap:=h₂,toks:=tk₂}) G r R ok hh hx hset S₂ du (fun e dx t h₃ tk₃ mu₃ fz₃ D₃ S₃ le₃ hne₃ X₃=>?_)
 have ze:=S₃.led.news _ (qA _ X₃.obj)
 refine jC (wpAny_standAt (wpAny_pure ?_))
 refine⟨e,some dx,_,_,rfl,(ok.x G).keeps S₃.fr.keep _ _ hCK,ze.1,rfl,?_⟩
 obtain⟨B,fz₄,F⟩:=fly_made (fz₀:=fz) ok hb S₃ X₃ (ja le₁ (ja le₂ le₃)) (fun p hp=>hne₃ p (le₂ _ (le₁ _ hp))) rfl rfl rfl q₂
 exact kE m _ _ ⟨C,x,.mk (s:=s) e h₃ tk₃ _ B dx t mu₃ fz₄ D₃ H₂ F⟩
end
def JFm (g:Gx)(f:Fx)(X:Ex)(ns:List Str)(t:Sem Flow)(σ:Lo)(H:Hp)(Q:jD):Prop:=
 ∀s m mu fz D,St g f s.heap m H mu fz D→Locs g f fz ns σ m→∀(Pq:Flow→Shared→Prop) (E:Value→Shared→Prop),
  (∀v h tk mu' fz' D' H' m' x σ',St g f h m' H' mu' fz' D'→(∀p∈fz,p∈fz')→FlIs g fz' x v→Locs g f fz' ns σ' m'→Q x σ' H'→Pq v {s with heap:=h,toks:=tk}) →
  (∀e s',X.R s (f.mo m) fz e s'→E e s')→wpAny (model g.prog g.w) f.A t Pq E s
section
variable {g:Gx}{f:Fx}{X:Ex}{ns:List Str}{σ:Lo}{H:Hp}{n:Nat}{Q:jD}
theorem jfm_nil (q:Q .next σ H):JFm g f X ns (execs [] f.env) σ H Q:=
 fun s m mu fz D S lo P E k kE=>wpAny_execs_nil (k .next s.heap s.toks mu fz D H m .next σ S (fun _ h=>h) rfl lo q)
theorem jfm_one {st:Stmt}(h:JFm g f X ns (exec st f.env) σ H Q):JFm g f X ns (execs [st] f.env) σ H Q:=by
 intro s m mu fz D S lo P E k kE
 refine wpAny_execs_cons (h s m mu fz D S lo _ E (fun v h tk mu₁ fz₁ D₁ H₁ m₁ x σ₁ S₁ le₁ d₁ lo₁ q₁=>?_) kE)
 cases x with
 | next=>rw[show v = .next from d₁];exact wpAny_execs_nil (k .next h tk mu₁ fz₁ D₁ H₁ m₁ .next σ₁ S₁ le₁ rfl lo₁ q₁)
 | brk=>rw[show v = .brk from d₁];exact k .brk h tk mu₁ fz₁ D₁ H₁ m₁ .brk σ₁ S₁ le₁ rfl lo₁ q₁
 | cont=>rw[show v = .cont from d₁];exact k .cont h tk mu₁ fz₁ D₁ H₁ m₁ .cont σ₁ S₁ le₁ rfl lo₁ q₁
 | ret y=>obtain⟨u,rfl,du⟩:=d₁;exact k (.ret u) h tk mu₁ fz₁ D₁ H₁ m₁ (.ret y) σ₁ S₁ le₁ ⟨u,rfl,du⟩ lo₁ q₁
theorem jfm_ret {e:Expr}{pos:Pos}(h:JE g f X ns e σ H (fun x H'=>Q (.ret x) σ H')):JFm g f X ns (exec (.Return (some e) pos) f.env) σ H Q:=by
 intro s m mu fz D S lo P E k kE
 exact wpAny_Return_some (h s m mu fz D S lo _ E (fun v h tk mu₁ fz₁ D₁ H₁ x S₁ le₁ d₁ q₁=>k (.ret v) h tk mu₁ fz₁ D₁ H₁ m (.ret x) σ S₁ le₁ ⟨v,rfl,d₁⟩ (lo.mono le₁) q₁) kE)
theorem jfm_if {t:Expr}{b o:List Stmt}{pos:Pos}(h:JC g f X ns t σ H (fun p H'=>(p→JFm g f X ns (execs b f.env) σ H' Q)∧(¬p→JFm g f X ns (execs o f.env) σ H' Q))):JFm g f X ns (exec (.If t b o pos) f.env) σ H Q:=by
 intro s m mu fz D S lo P E k kE
 refine wpAny_If (h s m mu fz D S lo _ E (fun c h tk mu₁ fz₁ D₁ H₁ p S₁ le₁ d₁ q₁=>?_) kE)
 have k':∀v h tk mu' fz' D' H' m' x σ',St g f h m' H' mu' fz' D'→(∀p∈fz₁,p∈fz')→FlIs g fz' x v→Locs g f fz' ns σ' m'→Q x σ' H'→P v {s with heap:=h,toks:=tk}:=fun v h tk mu' fz' D' H' m' x σ' st le d lo' hq=>k v h tk mu' fz' D' H' m' x σ' st (ja le₁ le) d lo' hq
 cases c with
 | true=>rw[if_pos rfl];exact q₁.1 (d₁.mp rfl) {s with heap:=h,toks:=tk} m mu₁ fz₁ D₁ S₁ (lo.mono le₁) P E k' (fun e s' hx=>kE e s' (X.mono le₁ hx))
 | false=>rw[if_neg Bool.false_ne_true];exact q₁.2 (fun z=>by simpa using d₁.mpr z) {s with heap:=h,toks:=tk} m mu₁ fz₁ D₁ S₁ (lo.mono le₁) P E k' (fun e s' hx=>kE e s' (X.mono le₁ hx))
theorem unbind_j {s:Shared}{m:Str→Option Value}{mu fz:List (Addr×Obj)}{D:Addr→Addr}{i:Nat}{x:Str}{pos:Pos}(ok:f.Ok g n)(hb:f.bk=none)(nd:ns.Nodup)(hx:ns[i]? = some x)(hl:f.env.scope.names.lookup x=some .local)(S:St g f s.heap m H mu fz D)(lo:Locs g f fz ns σ m)(hm:(m x).isSome=true)
  {P:Unit→Shared→Prop} {E:Value→Shared→Prop} (k:∀h m',St g f h m' H mu fz D→Locs g f fz ns (σ.set i none) m'→P () {s with heap:=h}):wpAny (model g.prog g.w) f.A (unbindBehindTheSuite f.env x pos) P E s:=by
 have F:=S.fr
 rw[Fx.mo_none hb]at F
 have hk:=ok.kind
 have hn:=S.nsat hb
 unfold unbindBehindTheSuite
 refine wpAny_onRaise ?_
 obtain⟨v,hv⟩:=Option.isSome_iff_exists.mp hm
 refine wpAny_unbindName_local hl hn hv (by rw[hk];rfl) (fun h' u0 hn' hs'=>?_)
 ·rw[Fx.env_none hb]at hn' hs'
  refine k h' _ ⟨by rw[Fx.mo_none hb];exact F.set hn' hs',⟨fun p hp=>?_,S.led.nd,S.led.list,S.led.inst,S.led.dict,S.led.ns,S.led.dinj,S.led.dfree⟩⟩ ⟨fun j z hz u hu=>?_,lo.exc,lo.hdl⟩
  ·have z:=S.led.news p hp
   exact⟨(hs'.2 _ z.2.1).trans z.1,z.2⟩
  ·rw[List.getElem?_set]at hu
   by_cases e:i=j
   ·subst e
    rw[if_pos rfl]at hu
    split at hu<;>cases hu
   ·rw[if_neg e]at hu
    have hne:z≠x:=fun q=>by
     subst q
     exact e ((List.getElem?_inj (qF.mp hx).1 nd).mp (hx.trans hz.symm))
    obtain⟨val,a,b⟩:=lo.get j z hz u hu
    exact⟨val,(if_neg hne).trans a,b⟩
theorem js_try (G:g.Ok)(ok:f.Ok g n)(hb:f.bk=none)(hbot:f.outer=[])(nd:ns.Nodup){C fI:Addr}{QX:Addr→V→Hp→Prop}{body:List Stmt}{b₀:Stmt}{suite:List Stmt}{cn nme:Str}{np hpos pos:Pos}{i:Nat}{rest:List ExceptHandler}
  (hbody:JFm g f ((jR g QX).R f) ns (execs body f.env) σ H Q)
  (hx:zJ g.K C fI "Exception.__new__" = true) (hcn:f.env.scope.names.lookup cn=some .globalImplicit) (hcd:(cn==("__debug__" : Str))=false) (hce:nsIn g.K mainGlobals cn=some (some (.ref C)))
  (hn:ns[i]? = some nme) (hnl:f.env.scope.names.lookup nme=some .local) (hi:i<σ.length)
  (hC:∀C' x H',QX C' x H'→C'=C)
  (hh:∀e x H',QX C x H'→JSs g {f with hd:=some (.ref e),xc:=some (e,C,x)} Ex.none ns (b₀::suite) (σ.set i (some (.ref e))) H' (fun fl σ' H''=>(∃y,σ'[i]? = some (some y))∧Q fl (σ'.set i none) H'')) :
  JS g f X ns (.Try body (.ExceptHandler (some (.Name cn np)) (some nme) (b₀::suite) hpos::rest) [] [] pos) σ H Q:=by
 intro s m mu fz D S lo P E k kE
 obtain⟨hfind,hty,nm,qn,N,bs,bm,hd,sn,sub,ab,col,dd,k0,k1,k2,k3,k5,hCK,b1,b2,b3,b4⟩:=Ko hx
 refine wpAny_Try_except (hbody s m mu fz D S lo _ _ (fun v h tk mu₁ fz₁ D₁ H₁ m₁ y σ₁ S₁ le₁ d₁ lo₁ q₁=>?_) (fun e s' hx=>?_))
 ·cases y with
  | next=>rw[show v = .next from d₁];exact wpAny_execs_nil (k .next h tk mu₁ fz₁ D₁ H₁ m₁ .next σ₁ S₁ le₁ rfl lo₁ q₁)
  | brk=>rw[show v = .brk from d₁];exact k .brk h tk mu₁ fz₁ D₁ H₁ m₁ .brk σ₁ S₁ le₁ rfl lo₁ q₁
  | cont=>rw[show v = .cont from d₁];exact k .cont h tk mu₁ fz₁ D₁ H₁ m₁ .cont σ₁ S₁ le₁ rfl lo₁ q₁
  | ret z=>obtain⟨u,rfl,du⟩:=d₁;exact k (.ret u) h tk mu₁ fz₁ D₁ H₁ m₁ (.ret z) σ₁ S₁ le₁ ⟨u,rfl,du⟩ lo₁ q₁
 obtain⟨C',x,hx⟩:=hx
 obtain⟨ea,h,tk,tr,B,dx,t,mu₁,fz₁,D₁,H₁,F⟩:=hx
 have hCC:=(hC _ _ _ F.post).symm
 subst hCC
 have F0:=S.fr
 rw[Fx.mo_none hb]at F0 F
 have hA:f.A.frames=some (f.env0::f.outer):=rfl
 rw[Fx.env_none hb]
 refine Kt (s:={s with heap:=h,toks:=tk}) (A:=f.A) (outer:=f.outer) (L:=f.L) rfl rfl F.air fun h₁ a₁ up₁=>?_
 refine wf (s:={s with heap:=h₁,toks:=tk}) a₁ fun h₂ a₂ up₂=>?_
 have F₂:=(F.move a₁ up₁).move a₂ up₂
 have stand:∀{h₃:Heap} {tr₃:Bool},uz g f C x (QX C x) m fz ea h₃ tr₃ B dx t mu₁ fz₁ D₁ H₁→∃vs sl,vs[2]? = some .none∧h₃.get? ea=some ⟨.ref C,some dx,.fields vs,sl⟩∧St g f h₃ m H₁ mu₁ ((ea,⟨.ref C,some dx,.fields vs,sl⟩)::fz₁) D₁:=by
  intro h₃ tr₃ F₃
  obtain⟨vs,sl,he,_,⟨_,h0⟩,_⟩:=F₃.air.obj
  have keep:∀b o,f.h₀.get? b=some o→h₃.get? b=some o:=fun b o e=>F₃.air.stays _ _ (F₃.ground b o e fun hm=>by
   rw[hbot]at hm
   have hm:b=f.L:=by simpa [Fx.env0,envOf] using hm
   have:=Heap.lt_size e
   rw[hm]at this
   exact absurd this (Nat.not_lt.mpr F0.above))
  have hfr:Fr f.h₀ f.L h₃ m:=⟨F₃.names,keep,F0.above⟩
  have eL:ea≠f.L:=fun z=>by
   obtain⟨o,es,ep,ho,hd',_⟩:=F₃.names
   rw[← z,he]at ho;cases ho;cases hd'
  have e0:f.h₀.get? ea=none:=by
   cases q:f.h₀.get? ea with
   | none=>rfl
   | some o=>
    have:=F₃.ground ea o q fun hm=>by
     rw[hbot]at hm
     exact eL (by simpa [Fx.env0,envOf] using hm)
    rw[F₃.air.new]at this;cases this
  refine⟨vs,sl,h0,he,⟨by rw[Fx.mo_none hb];exact hfr,F₃.led.add he (fun p hp z=>?_) eL e0⟩⟩
  have:=F₃.inB p hp
  rw[z,F₃.air.new]at this;cases this
 obtain⟨vs₂,sl₂,h0₂,he₂,S₂⟩:=stand F₂
 have hCh:h₂.get? C=some _:=(ok.x G).keeps (by have:=S₂.fr.keep;exact this) _ _ hCK
 refine wpAny_handleBy_cons (codeAny_handlers_test ?_) (by intro q;cases q)
 have okx:=ok.t G
 refine nameG_K (s:={s with heap:=h₂,toks:=tk}) (env:=f.env0) S₂.fr (ok.x G) (topRead_of okx) hce ?_ rfl ok.kind0 (by rw[Fx.env_none hb]at hcn;exact hcn) hcd
 refine wpAny_excMatches_sub_self hCh he₂ rfl b2 ?_
 rw[if_pos rfl]
 refine codeAny_handlers_suite_as ?_
 refine wf (s:={s with heap:=h₂,toks:=tk}) F₂.air fun h₃ a₃ up₃=>?_
 obtain⟨vs₃,sl₃,h0₃,he₃,S₃⟩:=stand (F₂.move a₃ up₃)
 let fh:Fx:={f with hd:=some (.ref ea),xc:=some (ea,C,x)}
 have okh:fh.Ok g n:=⟨ok.below,ok.kind0,ok.kind,ok.dp,ok.un⟩
 have S₃':St g fh h₃ m H₁ mu₁ ((ea,⟨.ref C,some dx,.fields vs₃,sl₃⟩)::fz₁) D₁:=⟨S₃.fr,S₃.led⟩
 have lo₃:Locs g fh ((ea,⟨.ref C,some dx,.fields vs₃,sl₃⟩)::fz₁) ns σ m:=by
  have sub:∀p∈fz,p∈(ea,(⟨.ref C,some dx,.fields vs₃,sl₃⟩:Obj))::fz₁:=fun p hp=>.tail _ (F.sub p hp)
  refine⟨(lo.mono sub).get,fun e' C' x' _ h2=>?_,?_⟩
  ·cases h2
   obtain⟨tk',u,hd',du⟩:=F.why
   obtain⟨u',ht⟩:=F.args
   exact⟨dx,t,vs₃,sl₃,.head _,⟨tk',u,.tail _ hd',Den.mono (FzR.le fun _ h=>.tail _ h) _ _ du⟩,⟨u',.tail _ ht⟩⟩
  ·exact .inr ⟨ea,_,vs₃,rfl,.head _,rfl,h0₃⟩
 have henv:f.env0=fh.env:=by rw[show fh.env=f.env from rfl,Fx.env_none hb]
 rw[henv]
 refine wu (f:=fh) (s:={s with heap:=h₃,toks:=tk}) (y:=.ref ea) okh hb nd hn hnl S₃' lo₃ rfl fun h₄ tk₄ m₄ S₄ lo₄=>?_
 refine hh ea x H₁ F.post {s with heap:=h₄,toks:=tk₄} m₄ mu₁ _ D₁ S₄ lo₄ _ _ (fun v h₅ tk₅ mu₅ fz₅ D₅ H₅ m₅ y σ₅ S₅ le₅ d₅ lo₅ q₅=>?_) (fun m' e s' hx=>hx.elim)
 obtain⟨⟨w,hw⟩,q₅⟩:=q₅
 have S₅':St g f h₅ m₅ H₅ mu₅ fz₅ D₅:=⟨S₅.fr,S₅.led⟩
 have lo₅':Locs g f fz₅ ns σ₅ m₅:=⟨lo₅.get,fun e' C' x' h1 h2=>by
  obtain⟨dx',t',vs',sl',a⟩:=lo.exc e' C' x' h1 h2
  exact⟨dx',t',vs',sl',a.mono (ja (fun p hp=>.tail _ (F.sub p hp)) le₅)⟩,lo.hdl.mono (ja (fun p hp=>.tail _ (F.sub p hp)) le₅)⟩
 rw[← henv,← Fx.env_none hb]
 dsimp only
 refine jC (wpAny_bindName (wu (s:={s with heap:=h₅,toks:=tk₅}) (y:=.none) ok hb nd hn hnl S₅' lo₅' rfl fun h₆ tk₆ m₆ S₆ lo₆=>?_))
 have hil:i<σ₅.length:=(qF.mp hw).1
 obtain⟨val,hval,_⟩:=lo₆.get i nme hn .none (by rw[List.getElem?_set_self hil])
 refine unbind_j (s:={s with heap:=h₆,toks:=tk₆}) ok hb nd hn hnl S₆ lo₆ (by rw[hval];rfl) fun h₇ m₇ S₇ lo₇=>?_
 rw[List.set_set]at lo₇
 exact k v h₇ tk₆ mu₅ fz₅ D₅ H₅ m₇ y _ S₇ (ja (fun p hp=>.tail _ (F.sub p hp)) le₅) d₅ lo₇ q₅
end
section
open PySem PySem.W PyProof.Rows PySem.Calls PySem.Builtin PySem.Builtin.ObjectAttr
section
section
variable {prog:Program}{w:World}{A:Around}{E:Value→Shared→Prop}{s:Shared}{K:Frag}{x C:Addr}{ox:Obj}{od:Option Obj}{name:Str}{expr:Bool}{Q:Value→Shared→Prop}
theorem xget {v:Value}(X:K.In s.heap)(I:InstAt s.heap x ox C od)(hga:findIn K (.ref C) "__getattribute__" = some (some (.builtin "BaseException.__getattribute__")))(hgn:findIn K (.ref C) "__getattr__" = some none)(hsub:subIn K (.ref C) (.type "BaseException")=some true)
  (hf:findObj K C od name=some (.value v)) (hh:handedIn v=true) (h:Q v {s with toks:=s.toks+1}):wpAny (model prog w) A (getAttr (.ref x) name expr) Q E s:=by
 obtain⟨hp,g,d,t,os⟩:=s
 have L0:=I.type (M:=model prog w)
 have L1:=looks_findIn (M:=model prog w) X hga
 have L2:=looks_findIn (M:=model prog w) X hgn
 have L3:=looks_find (M:=model prog w) X I hf
 unfold getAttr getAttrBy
 refine jC (wpAny_mkText (wpAny_holding (jC (L0.at (jC (L1.at ?_))))))
 have hx1:(onTheHeap (Value.ref C)&&Value.builtin "BaseException.__getattribute__" == Value.builtin "object.__getattribute__")=false:=by rw[show(Value.builtin "BaseException.__getattribute__" == Value.builtin "object.__getattribute__")=false from by decide +kernel,Bool.and_false]
 dsimp only
 rw[hx1,if_neg Bool.false_ne_true]
 unfold getAttrByItsOwn hookBefore
 rw[if_pos (show onTheHeap (Value.ref C)=true from rfl)]
 refine jC (L2.at ?_)
 have hx0:(expr&&onTheHeap (Value.builtin "BaseException.__getattribute__"))=false:=by cases expr<;>rfl
 unfold callGetattribute
 rw[hx0,if_neg Bool.false_ne_true]
 have FB:=PySem.F.attrBase_Exception
 have hk:builtinKind "BaseException.__getattribute__" = some .slot:=by decide +kernel
 have hsplit:splitId "BaseException.__getattribute__" = some ("BaseException", "__getattribute__"):=by decide +kernel
 have sub:Looks (model prog w) hp (isInstance (.ref x) (.type "BaseException")) true:=L0.andThen (looks_subIn X hsub)
 refine jC (wpAny_attempt (wpAny_holding ?_))
 unfold boundAndCalled
 rw[FB.ga.bind]
 refine jC (wpAny_pure (wpAny_call (codeAny_call_builtin FB.ga.plain PySem.F.entry_bexc_ga (@check_slot (model prog w) _ _ ⟨hp,g,d,t+1,os⟩ "BaseException.__getattribute__" "BaseException" "__getattribute__" (.ref x) [.str name t] [] _ hk hsplit sub (PySem.F.args_bexc_ga (.ref x) (.str name t)) ?_))))
 show wpAny _ _ (Builtin.«object.__getattribute__» ⟨[.ref x,.str name t],[]⟩) _ _ _
 refine jC (wpAny_pure ?_)
 dsimp only
 refine jC (wpAny_pure (jC (L0.at (jC (L3.at ?_)))))
 refine wpAny_pure ?_
 show wpAny _ _ (handedOut v) _ _ _
 rw[handedOut_of hh];exact wpAny_pure h
end
def qx (K:Frag)(C:Addr)(k:String):Bool:=
 findIn K (.ref C) "__getattribute__" == some (some (.builtin "BaseException.__getattribute__"))&&findIn K (.ref C) "__getattr__" == some none&&subIn K (.ref C) (.type "BaseException")==some true &&
  hasDictIn K C&&findIn K (.ref C) (Str.ofString k)==some none
section
variable {g:Gx}{f:Fx}{X:Ex}{ns:List Str}{σ:Lo}{H:Hp}{n:Nat}
theorem je_why (G:g.Ok)(ok:f.Ok g n){eo:Expr}{C e:Addr}{x:V}{pos:Pos}{Q:V→Hp→Prop}(hxc:f.xc=some (e,C,x))(hhd:f.hd≠none)(hg:qx g.K C "why" = true)
  (he:eval (.Attribute eo (Str.ofString "why") pos) f.env=(do
   let o ← eval eo f.env
   standAt pos.atName
   let r ← holding [o] (getAttr o (Str.ofString "why") true)
   letTemporaryGo eo o r
   pure r))
  (hy:x.plain=true) (h:JE g f X ns eo σ H (fun y H₁=>y = .ref e∧Q x H₁)):JE g f X ns (.Attribute eo (Str.ofString "why") pos) σ H Q:=by
 intro s m mu fz D S lo P E k' kE
 refine Attribute_any_ (h s m mu fz D S lo _ E (fun v h tk mu₁ fz₁ D₁ H₁ y S₁ le₁ d₁ q₁=>?_) kE) he
 obtain⟨rfl,q⟩:=q₁
 rw[show v = .ref e from d₁]
 obtain⟨dx,t,vs,sl,XA⟩:=lo.exc e C x hhd hxc
 have XA₁:=XA.mono le₁
 simp only[qx,qM,beq_iff_eq]at hg
 obtain⟨tk',u,hd,du⟩:=XA₁.dict
 have X₁:g.K.In h:=(ok.x G).keeps S₁.fr.keep
 have ze:=(S₁.led.news _ (qA _ XA₁.obj)).1
 have zd:=(S₁.led.news _ (qA _ hd)).1
 refine xget (s:={s with heap:=h,toks:=tk}) (od:=some (dictOf [⟨PyData.keyHash g.w.params (Str.ofString "why"),.str (Str.ofString "why") tk',u⟩] 1)) X₁ ⟨ze,rfl,rfl,zd⟩ hg.1.1.1.1 hg.1.1.1.2 hg.1.1.2 (findObj_own hg.1.2 hg.2 rfl ?_) ?_ (k' u h _ mu₁ fz₁ D₁ H₁ x S₁ le₁ du q)
 ·rfl
 ·exact KL du hy
end
end
end
mutual
def vd:V→PyData
 | .none=>.none
 | .bool b=>.bool b
 | .int i=>.int i
 | .str x=>.str (Str.ofString x)
 | .tup xs=>.tuple (vds xs)
 | .lst xs=>.list (vds xs)
 | _=>.none
def vds:List V→List PyData
 | []=>[]
 | x::xs=>vd x::vds xs
end
def VOk:Nat→V→Prop
 | _,.none | _,.bool _ | _,.int _=>True
 | _,.str x=>PyData.strOk (Str.ofString x)=true
 | n+1,.tup xs=>∀x∈xs,VOk n x
 | n+1,.lst xs=>∀x∈xs,VOk n x
 | _,_=>False
section
variable {P:Cf}{R:Rig}{h:Heap}
theorem wU (hR:∀a o,R a o→h.get? a=some o){n:Nat}(ih:∀(x:V) (v:Value),VOk n x→Den P R x v→∃as,Reads h v (vd x) as):∀(xs:List V) (vs:List Value),(∀x∈xs,VOk n x)→Dens P R xs vs→∃as,ReadsAll h vs (vds xs) as
 | [],vs,_,d=>by rw[show vs=[]from d];exact⟨[],.nil⟩
 | x::xs,vs,hx,d=>by
  obtain⟨v,r,rfl,dv,dr⟩:=d
  obtain⟨as,a⟩:=ih x v (hx x (.head _)) dv
  obtain⟨bs,b⟩:=wU hR ih xs r (fun y hy=>hx y (.tail _ hy)) dr
  exact⟨as++bs,.cons a b⟩
theorem yH (hR:∀a o,R a o→h.get? a=some o):∀(n:Nat) (x:V) (v:Value),VOk n x→Den P R x v→∃as,Reads h v (vd x) as
 | _,.none,v,_,d=>by rw[show v = .none from d];exact⟨_,.none⟩
 | _,.bool b,v,_,d=>by rw[show v = .bool b from d];exact⟨_,.bool b⟩
 | _,.int i,v,_,d=>by obtain⟨t,rfl⟩:=d;exact⟨_,.int i t⟩
 | _,.str x,v,_,d=>by obtain⟨t,rfl⟩:=d;exact⟨_,.str _ t⟩
 | n+1,.tup xs,v,hx,d=>by
  obtain⟨a,vs,c,rfl,r,ds,_⟩:=d
  obtain⟨as,b⟩:=wU hR (yH hR n) xs vs hx ds
  exact⟨as,.tuple (hR _ _ r) rfl rfl (by simpa using b)⟩
 | n+1,.lst xs,v,hx,d=>by
  obtain⟨a,vs,c,_,_,rfl,r,ds,_⟩:=d
  obtain⟨as,b⟩:=wU hR (yH hR n) xs vs hx ds
  exact⟨_,.list (hR _ _ r) rfl rfl (by simpa using b)⟩
 | 0,.tup _,_,h,_ | 0,.lst _,_,h,_=>h.elim
 | 0,.typ _,_,h,_ | 0,.bi _,_,h,_ | 0,.ref _,_,h,_ | 0,.rng _ _,_,h,_ | 0,.obj _ _,_,h,_=>h.elim
 | _+1,.typ _,_,h,_ | _+1,.bi _,_,h,_ | _+1,.ref _,_,h,_ | _+1,.rng _ _,_,h,_ | _+1,.obj _ _,_,h,_=>h.elim
end
theorem Qg {n:Nat}(ih:∀x,VOk n x→(vd x).canLay0=true∧(vd x).depth≤n):∀xs:List V,(∀x∈xs,VOk n x)→PyData.canLayAll0 (vds xs)=true∧PyData.depthAll (vds xs)≤n
 | [],_=>⟨rfl,Nat.zero_le _⟩
 | x::xs,h=>by
  have a:=ih x (h x (.head _))
  have b:=Qg ih xs fun y hy=>h y (.tail _ hy)
  refine⟨by show(PyData.canLay0 _&&PyData.canLayAll0 _)=true;rw[a.1,b.1];rfl,?_⟩
  show max _ _≤n
  exact Nat.max_le.mpr ⟨a.2,b.2⟩
theorem Kv:∀(n:Nat) (x:V),VOk n x→(vd x).canLay0=true∧(vd x).depth≤n
 | _,.none,_ | _,.bool _,_ | _,.int _,_=>⟨rfl,Nat.zero_le _⟩
 | 0,.str x,h | _+1,.str x,h=>⟨h,Nat.zero_le _⟩
 | n+1,.tup xs,h=>by
  obtain⟨a,b⟩:=Qg (Kv n) xs h
  refine⟨a,?_⟩
  show _+_≤_
  lia
 | n+1,.lst xs,h=>by
  obtain⟨a,b⟩:=Qg (Kv n) xs h
  refine⟨a,?_⟩
  show _+_≤_
  lia
 | 0,.tup _,h | 0,.lst _,h=>h.elim
 | 0,.typ _,h | 0,.bi _,h | 0,.ref _,h | 0,.rng _ _,h | 0,.obj _ _,h=>h.elim
 | _+1,.typ _,h | _+1,.bi _,h | _+1,.ref _,h | _+1,.rng _ _,h | _+1,.obj _ _,h=>h.elim
inductive RD (H:Hp):V→PyData→Prop
 | val {x:V}:VOk 8 x→RD H x (vd x)
 | list {a:Addr} {xs:List V}:H a=some (.list xs)→(∀x∈xs,VOk 7 x)→RD H (.ref a) (.list (vds xs))
theorem RD.lay {H:Hp}{x:V}{p:PyData}(r:RD H x p):p.canLay0=true∧p.depth≤8:=by
 cases r with
 | val h=>exact Kv 8 _ h
 | list e h=>exact Kv 8 (.lst _) h
theorem RD.shaped {H:Hp}{x:V}{p:PyData}(r:RD H x p):SeqAt.shaped p=true:=by
 unfold SeqAt.shaped;rw[r.lay.1,Bool.true_and];exact decide_eq_true (Nat.le_trans r.lay.2 (by decide))
theorem RD.refl {H:Hp}{x:V}{p:PyData}(r:RD H x p):PyData.eqv p p=true:=SeqAt.eqv_refl p r.lay.1
section
variable {g:Gx}{f:Fx}{X:Ex}{H:Hp}{n:Nat}{m:Str→Option Value}{mu fz:List (Addr×Obj)}{D:Addr→Addr}{s:Shared}
theorem St.reads (G:g.Ok)(ok:f.Ok g n)(S:St g f s.heap m H mu fz D){x:V}{v:Value}{p:PyData}(r:RD H x p)(d:DenG g fz x v):∃as,Reads s.heap v p as:=by
 have hR:∀a o,FzR g.base fz a o→s.heap.get? a=some o:=fun a o q=>S.rig G ok q
 cases r with
 | val h=>exact yH hR 8 _ _ h d
 | @list a xs e h=>
  obtain⟨vs,c,mm,ds,b⟩:=S.led.list a xs e
  obtain⟨as,q⟩:=wU hR (yH hR 7) xs vs h ds
  rw[show v = .ref a from d]
  exact⟨_,.list (S.led.news _ (qB _ mm)).1 rfl rfl (by simpa using q)⟩
theorem JW (G:g.Ok)(ok:f.Ok g (n+9)){x y:V}{p q:PyData}{Q:V→Hp→Prop}(rx:RD H x p)(ry:RD H y q)(k:Q (.bool (PyData.eqv p q)) H):Cmp g f X .Eq x y H Q:=by
 intro s m mu fz D v w S d e P E kk kE
 obtain⟨as,a⟩:=S.reads G ok rx d
 obtain⟨bs,b⟩:=S.reads G ok ry e
 have:=ok.un
 exact eq_dataH a b rx.shaped ry.shaped (by show f.un+64<cLine;lia) (kk (.bool (PyData.eqv p q)) s.heap s.toks mu fz D H (.bool (PyData.eqv p q)) S (fun _ h=>h) rfl k)
theorem JV (G:g.Ok)(ok:f.Ok g (n+9)){x y:V}{p q:PyData}{Q:V→Hp→Prop}(rx:RD H x p)(ry:RD H y q)(k:Q (.bool (!PyData.eqv p q)) H):Cmp g f X .NotEq x y H Q:=by
 intro s m mu fz D v w S d e P E kk kE
 obtain⟨as,a⟩:=S.reads G ok rx d
 obtain⟨bs,b⟩:=S.reads G ok ry e
 have:=ok.un
 exact ne_dataH a b rx.shaped ry.shaped (by show f.un+64<cLine;lia) (kk (.bool (!PyData.eqv p q)) s.heap s.toks mu fz D H (.bool (!PyData.eqv p q)) S (fun _ h=>h) rfl k)
end
section
variable {g:Gx}{f:Fx}{X:Ex}{ns:List Str}{σ:Lo}{H:Hp}{n:Nat}
theorem bin_addL (G:g.Ok)(ok:f.Ok g n){x y:V}{xs ys:List V}{Q:V→Hp→Prop}(ex:jx H x xs)(ey:jx H y ys)(hb:xs.length+ys.length≤16000000)(q:∀a,H a=none→Q (.ref a) (H.set a (.list (xs++ys)))):Bin g f X .Add x y H Q:=by
 intro s m mu fz D v w S d e P E k kE
 obtain⟨a,vs,c,_,_,rfl,ho,ds,_⟩:=S.listAt G ok d ex
 obtain⟨b,ws,c',_,_,rfl,ho',ds',_⟩:=S.listAt G ok e ey
 refine add_lists S.fr S.led.news (vs:=vs) (ws:=ws) ⟨_,ho,rfl,_,rfl⟩ ⟨_,ho',rfl,_,rfl⟩ (fun h' F' N'=>?_) (by rw[ds.length,ds'.length,sizeLine_eq];lia)
 have fr:=jr (s:=s) (m:=m) S.led.news
 exact k _ h' s.toks _ fz D _ (.ref s.heap.objs.size) ⟨F',S.led.push_list (xs:=xs++ys) fr N' (ds.append ds') (by simp;lia)⟩ (fun _ h=>h) rfl (q _ (S.led.fresh fr))
theorem Xx (G:g.Ok)(ok:f.Ok g (n+9)){x y:V}{p:PyData}{qs:List PyData}{Q:V→Hp→Prop}(rx:RD H x p)(ry:RD H y (.tuple qs))(k:Q (.bool (qs.any fun z=>PyData.eqv z p)) H):Cmp g f X .In x y H Q:=by
 intro s m mu fz D v w S d e P E kk kE
 obtain⟨as,a⟩:=S.reads G ok rx d
 obtain⟨bs,b⟩:=S.reads G ok ry e
 have:=ok.un
 have lx:=rx.lay
 have ly:=ry.lay
 refine SeqAt.in_tuple_reads b a ly.1 lx.1 ?_ (kk (.bool (qs.any fun z=>PyData.eqv z p)) s.heap s.toks mu fz D H (.bool (qs.any fun z=>PyData.eqv z p)) S (fun _ h=>h) rfl k)
 have:min (PyData.depthAll qs) p.depth≤8:=Nat.le_trans (Nat.min_le_right _ _) lx.2
 show f.un+1+_<cLine
 lia
end
section
variable {g:Gx}{f:Fx}{XF:ExF g}{ns:List Str}{σ:Lo}{H:Hp}{n:Nat}
theorem je_callX {fe:Expr}{pos:Pos}{args:List Expr}{Q:V→Hp→Prop}(G:g.Ok)(ok:f.Ok g n)(hq:XF.calm∨f.hd = .none)(hpl:wj args)
  (he:eval (.Call fe args [] pos) f.env=(do callWith pos (← eval fe f.env) [] (backTo pos (starEach args f.env)) (backToKw pos (keywordEach [] f.env))))
  (h:JE g f (XF.R f) ns fe σ H (fun v H₁=>∃fa,v = .ref fa∧keepIn g.K (.ref fa)=true∧JEs g f (XF.R f) ns pos args σ H₁ (fun xs H₂=>jb g XF n (.ref fa) xs H₂ Q))):JE g f (XF.R f) ns (.Call fe args [] pos) σ H Q:=by
 intro s m mu fz D S lo P E k kE
 rw[he]
 refine jC (h s m mu fz D S lo _ E (fun v h tk mu₁ fz₁ D₁ H₁ y S₁ le₁ d₁ q₁=>?_) kE)
 obtain⟨fa,rfl,hkeep,q₁⟩:=q₁
 rw[show v = .ref fa from d₁]
 refine ql (Pk:=fun h=>g.K.In h) hpl (keeps_K hkeep) ?_
 refine q₁ {s with heap:=h,toks:=tk} m mu₁ fz₁ D₁ S₁ (lo.mono le₁) _ E (fun vs h₂ tk₂ mu₂ fz₂ D₂ H₂ xs S₂ le₂ d₂ q₂=>⟨(ok.x G).keeps S₂.fr.keep,?_⟩) (fun e s' hx=>kE e s' ((XF.R f).mono le₁ hx))
 exact wpAny_call (q₂ f {s with heap:=h₂,toks:=tk₂} m mu₂ fz₂ D₂ vs ok hq (lo.mono (ja le₁ le₂)).hdl S₂ d₂ _ (fun v h tk mu' fz' D' H' x st le' d q=>k v h tk mu' fz' D' H' x st (ja le₁ (ja le₂ le')) d q) (fun e s' hx=>kE e s' ((XF.R f).mono (ja le₁ le₂) hx)))
end
section
variable {g:Gx}{f:Fx}{X:Ex}{H:Hp}{n:Nat}{Q:V→Hp→Prop}
theorem Wu {i:Int}(q:Q (.bool true) H):jZ g f X (.builtin "isinstance") [.int i,.typ "int"] H Q:=by
 intro s m mu fz D vals S d P E k kE
 obtain⟨v,r,rfl,⟨t,rfl⟩,u,r',rfl,hu,rfl⟩:=d
 rw[show u = .type "int" from hu]
 exact call_isinstance_yes (Tx := "int") rfl rfl (by first | rfl | (rw[isSubtype_type];kernel_rfl)) (k (.bool true) s.heap s.toks mu fz D H (.bool true) S (fun _ h=>h) rfl q)
end
section
variable {g:Gx}{f:Fx}{X:Ex}{ns:List Str}{σ:Lo}{H:Hp}{n:Nat}
theorem XZ {l r r':Expr}{op op':CmpOp}{pos:Pos}{Q:Prop→Hp→Prop}
  (h:JE g f X ns l σ H (fun x H₁=>JE g f X ns r σ H₁ (fun y H₂=>Cmp g f X op x y H₂ (fun z H₃=>OpT g f X z H₃ (fun p H₄=>
   (p→JE g f X ns r' σ H₄ (fun w H₅=>Cmp g f X op' y w H₅ (fun z' H₆=>OpT g f X z' H₆ Q)))∧(¬p→Q False H₄))))))
  (hm:lastMarks [op,op'] [r,r']=false):JC g f X ns (.Compare l [op,op'] [r,r'] pos) σ H Q:=by
 intro s m mu fz D S lo P E k kE
 refine isTrue_chain (h s m mu fz D S lo _ E (fun v h₁ tk₁ mu₁ fz₁ D₁ H₁ x S₁ le₁ d₁ q₁=>?_) kE) hm
 refine test_link (q₁ {s with heap:=h₁,toks:=tk₁} m mu₁ fz₁ D₁ S₁ (lo.mono le₁) _ E (fun w h₂ tk₂ mu₂ fz₂ D₂ H₂ y S₂ le₂ d₂ q₂=>?_) (fun e s' hx=>kE e s' (X.mono le₁ hx)))
 refine q₂ {s with heap:=h₂,toks:=tk₂} m mu₂ fz₂ D₂ v w S₂ (Den.mono (FzR.le le₂) _ _ d₁) d₂ _ E (fun c h₃ tk₃ mu₃ fz₃ D₃ H₃ z S₃ le₃ d₃ q₃=>?_) (fun e s' hx=>kE e s' (X.mono (ja le₁ le₂) hx))
 refine q₃ {s with heap:=h₃,toks:=tk₃} m mu₃ fz₃ D₃ c S₃ d₃ _ E (fun b h₄ tk₄ mu₄ fz₄ D₄ H₄ p S₄ le₄ d₄ q₄=>?_) (fun e s' hx=>kE e s' (X.mono (ja le₁ (ja le₂ le₃)) hx))
 have le14:=ja le₁ (ja le₂ (ja le₃ le₄))
 cases b with
 | false=>
  rw[if_neg Bool.false_ne_true]
  exact k false h₄ tk₄ mu₄ fz₄ D₄ H₄ False S₄ le14 ⟨fun z=>(by cases z),False.elim⟩ (q₄.2 fun z=>by simpa using d₄.mpr z)
 | true=>
  rw[if_pos rfl]
  refine test_last (q₄.1 (d₄.mp rfl) {s with heap:=h₄,toks:=tk₄} m mu₄ fz₄ D₄ S₄ (lo.mono le14) _ E (fun u h₅ tk₅ mu₅ fz₅ D₅ H₅ w' S₅ le₅ d₅ q₅=>?_) (fun e s' hx=>kE e s' (X.mono le14 hx)))
  refine q₅ {s with heap:=h₅,toks:=tk₅} m mu₅ fz₅ D₅ w u S₅ (Den.mono (FzR.le (ja le₃ (ja le₄ le₅))) _ _ d₂) d₅ _ E (fun c' h₆ tk₆ mu₆ fz₆ D₆ H₆ z' S₆ le₆ d₆ q₆=>?_) (fun e s' hx=>kE e s' (X.mono (ja le14 le₅) hx))
  exact q₆ {s with heap:=h₆,toks:=tk₆} m mu₆ fz₆ D₆ c' S₆ d₆ P E (fun b h tk mu' fz' D' H' p st le' d q=>k b h tk mu' fz' D' H' p st (ja le14 (ja le₅ (ja le₆ le'))) d q) (fun e s' hx=>kE e s' (X.mono (ja le14 (ja le₅ le₆)) hx))
end
section
variable {g:Gx}{f:Fx}{X:Ex}{H:Hp}{n:Nat}{Q:V→Hp→Prop}
theorem Wc {a b:Int}(hb:b≠0)(hp:Builtin.divisionGoesByPylong a b=false)(q:Q (.tup [.int (a.fdiv b),.int (a.fmod b)]) H):jZ g f X (.builtin "divmod") [.int a,.int b] H Q:=by
 intro s m mu fz D vals S d P E k kE
 obtain⟨v,r,rfl,⟨t,rfl⟩,u,r',rfl,⟨t',rfl⟩,rfl⟩:=d
 have fr:=jr (s:=s) (m:=m) S.led.news
 refine divmod_N S.fr S.led.news hb (fun h' F' N'=>?_) (.inl hp)
 refine k _ h' _ mu _ D H (.tup [.int (a.fdiv b),.int (a.fmod b)]) ⟨F',S.led.push_fz fr N'⟩ (fun _ h=>.tail _ h) ⟨_,[.int (a.fdiv b) s.toks,.int (a.fmod b) (s.toks+1)],0,rfl,.inr (.head _),⟨_,_,rfl,⟨_,rfl⟩,_,_,rfl,⟨_,rfl⟩,rfl⟩,by simp⟩ q
end
section
variable {g:Gx}{f:Fx}{m:Str→Option Value}{mu fz:List (Addr×Obj)}{D:Addr→Addr}{H:Hp}{h h':Heap}{a b:Addr}{o o':Obj}
theorem St.gone2 (S:St g f h m H mu fz D)(hm:(a,o)∈fz)(hf:jN o=true)(hm':(b,o')∈fz)(hf':jN o'=true)(hs:∀c ob,c≠a→c≠b→h.get? c=some ob→h'.get? c=some ob) :
  St g f h' m H mu (fz.filter fun p=>decide (p.1≠a)&&decide (p.1≠b)) D∧jP (FzR g.base fz) (FzR g.base (fz.filter fun p=>decide (p.1≠a)&&decide (p.1≠b))):=by
 have z:=S.led.news _ (qA _ hm)
 have z':=S.led.news _ (qA _ hm')
 have nd:=S.led.nd
 rw[qI,qY]at nd
 have hmu:∀p∈mu,p.1≠a∧p.1≠b:=fun p hp=>⟨fun q=>nd.2.2 p.1 (qG.mpr ⟨_,hp,rfl⟩) a (qG.mpr ⟨_,hm,rfl⟩) q,fun q=>nd.2.2 p.1 (qG.mpr ⟨_,hp,rfl⟩) b (qG.mpr ⟨_,hm',rfl⟩) q⟩
 have le:jP (FzR g.base fz) (FzR g.base (fz.filter fun p=>decide (p.1≠a)&&decide (p.1≠b))):=fun c ob hb x=>by
  refine x.imp id fun x=>qN.mpr ⟨x,?_⟩
  have h1:=(S.led.news _ (qA _ x)).1
  rw[qM]
  refine⟨decide_eq_true fun q=>?_,decide_eq_true fun q=>?_⟩
  ·have q:c=a:=q
   subst q
   rw[z.1]at h1;cases h1
   rw[hf]at hb;cases hb
  ·have q:c=b:=q
   subst q
   rw[z'.1]at h1;cases h1
   rw[hf']at hb;cases hb
 have F':Fr f.h₀ f.L h' (f.mo m):=by
  obtain⟨oL,es,ep,hL,r⟩:=S.fr.ns
  refine⟨⟨oL,es,ep,hs _ _ (Ne.symm z.2.1) (Ne.symm z'.2.1) hL,r⟩,fun c ob e=>hs _ _ (fun q=>?_) (fun q=>?_) (S.fr.keep _ _ e),S.fr.above⟩
  ·subst q;rw[z.2.2]at e;cases e
  ·subst q;rw[z'.2.2]at e;cases e
 refine⟨⟨F',fun p hp=>?_,?_,fun c ys e=>?_,fun c C ys e=>?_,fun c d e=>?_,fun c ps e=>?_,S.led.dinj,S.led.dfree⟩,le⟩
 ·rcases qO.mp hp with hp | hp
  ·have:=S.led.news p (qB _ hp);exact⟨hs _ _ (hmu p hp).1 (hmu p hp).2 this.1,this.2⟩
  ·obtain⟨hp,q⟩:=qN.mp hp
   rw[qM]at q
   have:=S.led.news p (qA _ hp);exact⟨hs _ _ (jB q.1) (jB q.2) this.1,this.2⟩
 ·rw[qI,qY]
  refine⟨nd.1,nd.2.1.sublist ((List.filter_sublist).map _),fun x hx y hy=>nd.2.2 x hx y ?_⟩
  obtain⟨p,hp,rfl⟩:=qG.mp hy
  exact qG.mpr ⟨p,(qN.mp hp).1,rfl⟩
 ·obtain⟨ws,k,m,dd,bb⟩:=S.led.list c ys e;exact⟨ws,k,m,Dens.mono le _ _ dd,bb⟩
 ·obtain⟨ws,es,k,m,m',r,dd⟩:=S.led.inst c C ys e;exact⟨ws,es,k,m,m',r,Dens.mono le _ _ dd⟩
 ·obtain⟨ob,m,dd⟩:=S.led.dict c _ e;exact⟨ob,m,dd.mono le⟩
 ·obtain⟨ob,mm,m,no,dd⟩:=S.led.ns c ps e;exact⟨ob,mm,m,no,dd.mono le⟩
end
section
variable {g:Gx}{f:Fx}{XF:ExF g}{ns:List Str}{σ:Lo}{H:Hp}{n:Nat}{Q:jD}
theorem Xo (G:g.Ok)(ok:f.Ok g n)(hb:f.bk=none)(hh:f.hd=none){en:Str}{ep ip:Pos}{eo:Expr}{elts:List Expr}{kx:Nat}{tp:Pos}{body:List Stmt}{pos:Pos}
  (hen:JE g f (XF.R f) ns (.Name en ep) σ H (fun v H₁=>v = .typ "enumerate" ∧ H₁=H)) (hpl:wj [eo]) (hse:∀env,starEach (eo::[]) env=(false,eval eo env)::starEach [] env)
  (hs:∀x,foldedSetIterable (.Call (.Name en ep) [eo] [] ip) f.env x=pure x)
  (h:JE g f (XF.R f) ns eo σ H (fun x H₁=>∃xs,jx H₁ x xs∧∃I:Nat→Lo→Hp→Prop,I 0 σ H₁∧(∀σ H,I xs.length σ H→jx H x xs→Q .next σ H) ∧
   ∀i σ H y,xs[i]? = some y→I i σ H→jx H x xs→JA g f (XF.R f) ns (.Tuple elts kx tp) (.tup [.int i,y]) σ H (fun σ' H'=>JSs g f (XF.R f) ns body σ' H' (fun fl σ'' H''=>match fl with | .next | .cont=>I (i+1) σ'' H''∧jx H'' x xs | .brk=>Q .next σ'' H'' | .ret x=>Q (.ret x) σ'' H'')))) :
  JS g f (XF.R f) ns (.For (.Tuple elts kx tp) (.Call (.Name en ep) [eo] [] ip) body [] pos) σ H Q:=by
 intro s m mu fz D S lo P E kk kE
 have kE0:∀e s',(XF.R f).R s (f.mo m) fz e s'→E e s':=fun e s' hx=>kE _ e s' hx
 refine wpAny_For (Call_Name rfl (hen s m mu fz D S lo _ E (fun v h₀ tk₀ mu₀ fz₀ D₀ H₀ x₀ S₀ le₀ d₀ q₀=>?_) kE0)) hs
 obtain⟨rfl,rfl⟩:=q₀
 rw[show v = .type "enumerate" from d₀]
 refine ql (Pk:=fun _=>True) hpl (ur (by intro a z;cases z)) ?_
 refine zu (Q:=fun xs H₁=>∃x,xs=[x]∧∃xs,jx H₁ x xs∧∃I:Nat→Lo→Hp→Prop,I 0 σ H₁∧(∀σ H,I xs.length σ H→jx H x xs→Q .next σ H) ∧
   ∀i σ H y,xs[i]? = some y→I i σ H→jx H x xs→JA g f (XF.R f) ns (.Tuple elts kx tp) (.tup [.int i,y]) σ H (fun σ' H'=>JSs g f (XF.R f) ns body σ' H' (fun fl σ'' H''=>match fl with | .next | .cont=>I (i+1) σ'' H''∧jx H'' x xs | .brk=>Q .next σ'' H'' | .ret x=>Q (.ret x) σ'' H'')))
  (h.mono fun x H₁ q=>Qq ⟨x,rfl,q⟩) hse {s with heap:=h₀,toks:=tk₀} m mu₀ fz₀ D₀ S₀ (lo.mono le₀) _ E (fun vs h₁ tk₁ mu₁ fz₁ D₁ H₁ xs₁ S₁ le₁ d₁ q₁=>⟨trivial,?_⟩) (fun e s' hx=>kE0 e s' ((XF.R f).mono le₀ hx))
 obtain⟨x,rfl,xs,hx,I,h0,hfin,turn⟩:=q₁
 obtain⟨u,r,rfl,du,rfl⟩:=d₁
 obtain⟨a,vs,c,_,_,rfl,ho,ds,_⟩:=S₁.listAt (s:={s with heap:=h₁,toks:=tk₁}) G ok du hx
 have le01:=ja le₀ le₁
 refine call_enumerate_list (s:={s with heap:=h₁,toks:=tk₁}) (l:=a) (items:=vs.toArray) ⟨_,ho,rfl,_,rfl⟩ (fun h₂ hE₂ hI₂ hz₂ keep₂=>?_)
 refine wpAny_pyIter_enum hE₂ ?_
 have nei:h₁.objs.size+1≠h₁.objs.size:=Nat.succ_ne_self _
 have it0:h₁.get? h₁.objs.size=none:=Heap.get?_none_of_le (Nat.le_refl _)
 have e0:h₁.get? (h₁.objs.size+1)=none:=Heap.get?_none_of_le (Nat.le_succ _)
 obtain⟨oi₀,hoi₀,ci₀,di₀⟩:=hI₂
 have S₂:St g f h₂ m H₁ mu₁ ((h₁.objs.size,oi₀)::fz₁) D₁:=S₁.add keep₂ it0 hoi₀
 obtain⟨u1,u2,u3⟩:=S₁.fresh_of e0
 obtain⟨w1,w2,w3⟩:=S₁.fresh_of it0
 have S₃:=S₂.addAt hE₂ (fun p hp=>by
  rcases qO.mp hp with hp | hp
  ·exact u1 p (qB _ hp)
  ·rcases qL.mp hp with rfl | hp
   ·exact Ne.symm nei
   ·exact u1 p (qA _ hp)) u2 u3
 have KE:∀m' fz' h tk e s',(∀p∈fz₁,p∈fz')→(XF.R f).R {s with heap:=h,toks:=tk} m' fz' e s'→notedBy (model g.prog g.w) f.A f.env (fun e s'=>cameBackBy (model g.prog g.w) f.A f.env E e s') e s':=fun m' fz' h tk e s' le hx=>
  yk (fun _ _ z=>wN (fun _ _ z=>kE m' _ _ z) z) (XF.pass ⟨n,ok⟩ hb ((XF.R f).mono (ja le01 le) hx))
 refine codeAny_forLoop_any (fun j s₁=>∃i h tk m₂ mu₂ fz₂ D₂ H₂ σ₂ oi old,j=xs.length-i∧i≤xs.length∧s₁={s with heap:=h,toks:=tk}∧St g f h m₂ H₂ mu₂ fz₂ D₂∧(∀p∈fz₁,p∈fz₂∧p.1≠h₁.objs.size∧p.1≠h₁.objs.size+1)∧Locs g f fz₂ ns σ₂ m₂∧I i σ₂ H₂∧jx H₂ x xs ∧
   (h₁.objs.size+1,({cls:=.type "enumerate",data:=.fields #[.none,.bool false,.ref h₁.objs.size,rawInt (i:Int),.none,old]}:Obj))∈fz₂∧(h₁.objs.size,oi)∈fz₂∧oi.cls = .type "list_iterator" ∧ oi.data = .fields #[.ref a,.int i 0]∧DenG g fz₂ x (.ref a))
  (fun j s₁ hI=>?_) xs.length ⟨0,h₂,tk₁,m,mu₁,_,D₁,H₁,σ,oi₀,.none,rfl,Nat.zero_le _,rfl,S₃,fun p hp=>⟨.tail _ (.tail _ hp),w1 p (qA _ hp),u1 p (qA _ hp)⟩,lo.mono (ja le01 fun _ h=>.tail _ (.tail _ h)),h0,hx,.head _,.tail _ (.head _),ci₀,di₀,Den.mono (FzR.le fun _ h=>.tail _ (.tail _ h)) _ _ du⟩
 obtain⟨i,h,tk,m₂,mu₂,fz₂,D₂,H₂,σ₂,oi,old,rfl,hik,rfl,S₄,sub₄,lo₄,hi,hx₄,hme,hmi,ci,di,dx⟩:=hI
 have zE:=(S₄.led.news _ (qA _ hme)).1
 have zI:=(S₄.led.news _ (qA _ hmi)).1
 obtain⟨a',vs',c',_,_,ha',ho',ds',_⟩:=S₄.listAt (s:={s with heap:=h,toks:=tk}) G ok dx hx₄
 cases ha'
 rcases Nat.lt_or_eq_of_le hik with hlt | rfl
 ·have hy:xs[i]? = some xs[i]:=qH hlt
  obtain⟨w,hw,dw⟩:=ds'.get hy
  refine wpAny_pyNext_enum_item (s:={s with heap:=h,toks:=tk}) (items:=vs'.toArray) (i:=i) zE ⟨oi,zI,ci,di⟩ ⟨_,ho',rfl,_,rfl⟩ (by simpa using hw) nei (fun h₅ hOut hIt₅ htup hsz₅ keep₅=>?_)
  refine wpAny_letOwnedTupleGo_enum hOut (fun h₆ hE₆ hs₆=>?_)
  obtain⟨oi₆,hoi₅,ci₆,di₆⟩:=hIt₅
  have keep₆:∀b ob,b≠h₁.objs.size+1→b≠h₁.objs.size→h.get? b=some ob→h₆.get? b=some ob:=fun b ob hb1 hb2 e=>(hs₆.2 b hb1).trans (keep₅ b ob hb1 hb2 e)
  obtain⟨S₆,le₆⟩:=S₄.gone2 hme rfl hmi (by unfold jN;rw[ci];rfl) keep₆
  have pe:=S₄.led.news _ (qA _ hme)
  have pi:=S₄.led.news _ (qA _ hmi)
  have nd:=S₄.led.nd
  rw[qI,qY]at nd
  have nte:h.objs.size≠h₁.objs.size+1:=Nat.ne_of_gt (Heap.lt_size zE)
  have nti:h.objs.size≠h₁.objs.size:=Nat.ne_of_gt (Heap.lt_size zI)
  obtain⟨t1,t2,t3⟩:=S₄.fresh_of (Heap.get?_none_of_le (Nat.le_refl h.objs.size))
  have hi₆:h₆.get? h₁.objs.size=some oi₆:=(hs₆.2 _ (Ne.symm nei)).trans hoi₅
  have ht₆:h₆.get? h.objs.size=some (tupO [.int i tk,w] 0):=(hs₆.2 _ nte).trans htup
  have S₇:=S₆.addAt hi₆ (fun p hp z=>by
   rcases qO.mp hp with hp | hp
   ·exact nd.2.2 p.1 (qG.mpr ⟨_,hp,rfl⟩) _ (qG.mpr ⟨_,hmi,rfl⟩) z
   ·have:=(qN.mp hp).2
    rw[qM]at this
    exact jB this.2 z) pi.2.1 pi.2.2
  have S₈:=S₇.addAt hE₆ (fun p hp z=>by
   rcases qO.mp hp with hp | hp
   ·exact nd.2.2 p.1 (qG.mpr ⟨_,hp,rfl⟩) _ (qG.mpr ⟨_,hme,rfl⟩) z
   ·rcases qL.mp hp with rfl | hp
    ·exact nei z.symm
    ·have:=(qN.mp hp).2
     rw[qM]at this
     exact jB this.1 z) pe.2.1 pe.2.2
  have S₉:=S₈.addAt ht₆ (fun p hp z=>by
   rcases qO.mp hp with hp | hp
   ·exact t1 p (qB _ hp) z
   ·rcases qL.mp hp with rfl | hp
    ·exact nte z.symm
    ·rcases qL.mp hp with rfl | hp
     ·exact nti z.symm
     ·exact t1 p (qA _ (qN.mp hp).1) z) t2 t3
  have le₉:jP (FzR g.base fz₂) (FzR g.base ((h.objs.size,tupO [.int i tk,w] 0)::(h₁.objs.size+1,({cls:=.type "enumerate",data:=.fields #[.none,.bool false,.ref h₁.objs.size,rawInt ((i:Int)+1),.none,w]}:Obj))::(h₁.objs.size,oi₆)::fz₂.filter (fun p=>decide (p.1≠h₁.objs.size+1)&&decide (p.1≠h₁.objs.size)))):=fun b ob hb' x=>FzR.le (fun _ h=>.tail _ (.tail _ (.tail _ h))) b ob hb' (le₆ b ob hb' x)
  have sub₉:∀p∈fz₁,p∈(h.objs.size,tupO [.int i tk,w] 0)::(h₁.objs.size+1,({cls:=.type "enumerate",data:=.fields #[.none,.bool false,.ref h₁.objs.size,rawInt ((i:Int)+1),.none,w]}:Obj))::(h₁.objs.size,oi₆)::fz₂.filter (fun p=>decide (p.1≠h₁.objs.size+1)&&decide (p.1≠h₁.objs.size)):=fun p hp=>.tail _ (.tail _ (.tail _ (qN.mpr ⟨(sub₄ p hp).1,by rw[qM];exact⟨decide_eq_true (sub₄ p hp).2.2,decide_eq_true (sub₄ p hp).2.1⟩⟩)))
  refine turn i σ₂ H₂ xs[i] hy hi hx₄ {s with heap:=h₆,toks:=tk+1} m₂ mu₂ _ D₂ (.ref h.objs.size) S₉ (lo₄.rig hh le₉) ⟨_,[.int i tk,w],0,rfl,.inr (.head _),⟨_,_,rfl,⟨_,rfl⟩,_,_,rfl,Den.mono le₉ _ _ dw,rfl⟩,by simp⟩ _ _ (fun h₇ tk₇ mu₇ fz₇ D₇ H₇ m₇ σ₇ S₁₀ le₁₀ lo₁₀ q₁₀=>?_) (fun m' e s' hx=>KE m' _ _ _ e s' sub₉ hx)
  refine q₁₀ {s with heap:=h₇,toks:=tk₇} m₇ mu₇ fz₇ D₇ S₁₀ lo₁₀ _ _ (fun v h₈ tk₈ mu₈ fz₈ D₈ H₈ m₈ fl σ₈ S₁₁ le₁₁ d₁₁ lo₁₁ q₁₁=>?_) (fun m' e s' hx=>KE m' _ _ _ e s' (fun p hp=>le₁₀ _ (sub₉ p hp)) hx)
  have sub₈:∀p∈fz₁,p∈fz₈∧p.1≠h₁.objs.size∧p.1≠h₁.objs.size+1:=fun p hp=>⟨le₁₁ _ (le₁₀ _ (sub₉ p hp)),(sub₄ p hp).2⟩
  have dx₈:DenG g fz₈ x (.ref a):=Den.mono (fun b ob hb' z=>FzR.le (ja le₁₀ le₁₁) b ob hb' (le₉ b ob hb' z)) _ _ dx
  have go:I (i+1) σ₈ H₈∧jx H₈ x xs→∃j,j<xs.length-i∧∃i h tk m₂ mu₂ fz₂ D₂ H₂ σ₂ oi old,j=xs.length-i∧i≤xs.length∧({s with heap:=h₈,toks:=tk₈}:Shared)={s with heap:=h,toks:=tk}∧St g f h m₂ H₂ mu₂ fz₂ D₂∧(∀p∈fz₁,p∈fz₂∧p.1≠h₁.objs.size∧p.1≠h₁.objs.size+1)∧Locs g f fz₂ ns σ₂ m₂∧I i σ₂ H₂∧jx H₂ x xs ∧
   (h₁.objs.size+1,({cls:=.type "enumerate",data:=.fields #[.none,.bool false,.ref h₁.objs.size,rawInt (i:Int),.none,old]}:Obj))∈fz₂∧(h₁.objs.size,oi)∈fz₂∧oi.cls = .type "list_iterator" ∧ oi.data = .fields #[.ref a,.int i 0]∧DenG g fz₂ x (.ref a):=fun z=>
   ⟨xs.length-(i+1),by lia,i+1,h₈,tk₈,m₈,mu₈,fz₈,D₈,H₈,σ₈,oi₆,w,rfl,hlt,rfl,S₁₁,sub₈,lo₁₁,z.1,z.2,le₁₁ _ (le₁₀ _ (.tail _ (.head _))),le₁₁ _ (le₁₀ _ (.tail _ (.tail _ (.head _)))),ci₆,di₆,dx₈⟩
  cases fl with
  | next=>rw[show v = .next from d₁₁];exact go q₁₁
  | cont=>rw[show v = .cont from d₁₁];exact go q₁₁
  | brk=>rw[show v = .brk from d₁₁];exact kk .next h₈ tk₈ mu₈ fz₈ D₈ H₈ m₈ .next σ₈ S₁₁ (fun p hp=>(sub₈ p (le01 p hp)).1) rfl lo₁₁ q₁₁
  | ret y=>obtain⟨u,rfl,du⟩:=d₁₁;exact kk (.ret u) h₈ tk₈ mu₈ fz₈ D₈ H₈ m₈ (.ret y) σ₈ S₁₁ (fun p hp=>(sub₈ p (le01 p hp)).1) ⟨u,rfl,du⟩ lo₁₁ q₁₁
 ·refine wpAny_pyNext_enum_end (s:={s with heap:=h,toks:=tk}) (items:=vs'.toArray) (i:=xs.length) hh zE ⟨oi,zI,ci,di⟩ ⟨_,ho',rfl,_,rfl⟩ (by rw[← ds'.length];simp) (fun h₅ hs₅=>?_)
  obtain⟨S₅,le₅⟩:=S₄.gone2 hme rfl hmi (by unfold jN;rw[ci];rfl) (fun b ob _ hb e=>hs₅ b ob hb e)
  exact wpAny_execs_nil (kk .next h₅ tk mu₂ _ D₂ H₂ m₂ .next σ₂ S₅ (fun p hp=>by
   have z:=sub₄ p (le01 p hp)
   exact qN.mpr ⟨z.1,by rw[qM];exact⟨decide_eq_true z.2.2,decide_eq_true z.2.1⟩⟩) rfl (lo₄.rig hh le₅) (hfin σ₂ H₂ hi hx₄))
end
theorem yl:fillsNumberSlot (.type "tuple") "mul" = pure false:=
 PySem.fillsNumberSlot_seq (id := "tuple.__mul__") (r:=some (.builtin "tuple.__rmul__")) PySem.F.slot_tuple_mul.lookup (by decide +kernel) PySem.F.slot_tuple_rmul.lookup (by decide +kernel)
theorem zY:seqRepeat? (.type "tuple")=pure (some (.builtin "tuple.__mul__")):=by
 unfold seqRepeat?
 rw[PySem.seqSlot_of (T := "tuple") (name := "__mul__") (id := "tuple.__mul__") PySem.F.slot_tuple_mul.lookup (by decide +kernel),PySem.seqSlot_of (T := "tuple") (name := "__rmul__") (id := "tuple.__rmul__") PySem.F.slot_tuple_rmul.lookup (by decide +kernel)]
 rfl
theorem zb (a:Int)(t:Tok)(l:Addr)(items:Array Value)(n:Nat) :
  Meets (Builtin.«int.__rmul__» ⟨[.int a t,.ref l],[]⟩) (fun _ R s=>s.heap.get? l=some {cls:=.type "tuple",dict:=none,data:=.seq items n,slots:=#[]}∧R (.ok (.ret Value.notImplemented)) s):=
 .of_wp fun prog w A R s h=>by obtain⟨hp,g,d,tk,os⟩:=s;obtain⟨hl,h⟩:=h;wp_walk;exact⟨_,rfl,h⟩
theorem JZ (items:Array Value):∀(k:Nat) (acc:Array Value),((List.replicate k items).foldl (· ++ ·) acc)=(acc.toList++(List.replicate k items.toList).flatten).toArray
 | 0,acc=>by simp
 | k+1,acc=>by
  rw[List.replicate_succ,List.foldl_cons,JZ items k,List.replicate_succ,List.flatten_cons,Array.toList_append,List.append_assoc]
theorem rep_size (items:Array Value)(k:Nat):((List.replicate k items).foldl (· ++ ·) #[]).size=k*items.size:=by
 rw[JZ];simp
theorem Uf (l:Addr)(items:Array Value)(n:Nat)(x:Int)(u:Tok)(h1:2≤x)(hi:items.isEmpty=false)(h2:items.size*x.toNat≤256) :
  Meets (Builtin.«tuple.__mul__» ⟨[.ref l,.int x u],[]⟩) (fun _ R s=>s.heap.get? l=some {cls:=.type "tuple",dict:=none,data:=.seq items n,slots:=#[]}∧R (.ok (.ret (.ref s.heap.objs.size))) {s with heap:=s.heap.push {cls:=.type "tuple",data:=.seq ((List.replicate x.toNat items).foldl (· ++ ·) #[])} }):=
 .of_wp fun prog w A R s h=>by
  obtain⟨hp,g,d,tk,os⟩:=s;obtain⟨hl,h⟩:=h
  have z:items.size*x.toNat≤256:=h2
  have zx:x.toNat≤256:=by
   have:1≤items.size:=by
    cases q:items.size with
    | zero=>rw[Array.isEmpty,q]at hi;simp at hi
    | succ m=>lia
   exact Nat.le_trans (by calc x.toNat=1*x.toNat:=(Nat.one_mul _).symm
    _≤items.size*x.toNat:=Nat.mul_le_mul_right _ this) z
  wp_walk
  rw[if_neg (by simp;lia)]
  wp_walk
  rw[hi,show(x==1)=false from by simp;lia]
  rw[if_neg (by decide)]
  dsimp only
  rw[Bool.or_false,if_neg (by simp;lia)]
  have y:(items.size:Int)*x≤256:=by
   have e:x=(x.toNat:Int):=by lia
   rw[e];exact_mod_cast h2
  rw[if_neg (by lia)]
  rw[if_neg (by unfold Builtin.Tuple.tupleTooMany;simp[sizeLine_eq];lia)]
  wp_walk
  rw[if_neg (by rw[rep_size,sizeLine_eq,Nat.mul_comm];lia)]
  wp_walk
  exact⟨_,rfl,h⟩
theorem Ug (l:Addr)(items:Array Value)(n:Nat)(u:Tok) :
  Meets (Builtin.«tuple.__mul__» ⟨[.ref l,.int 1 u],[]⟩) (fun _ R s=>s.heap.get? l=some {cls:=.type "tuple",dict:=none,data:=.seq items n,slots:=#[]}∧R (.ok (.ret (.ref l))) s):=
 .of_wp fun prog w A R s h=>by
  obtain⟨hp,g,d,tk,os⟩:=s;obtain⟨hl,h⟩:=h
  wp_walk
  exact⟨_,rfl,h⟩
theorem Uh (l:Addr)(items:Array Value)(n:Nat)(x:Int)(u:Tok)(h1:x≤0)(h0 : -1000≤x)(hi:items.isEmpty=false) :
  Meets (Builtin.«tuple.__mul__» ⟨[.ref l,.int x u],[]⟩) (fun _ R s=>s.heap.get? l=some {cls:=.type "tuple",dict:=none,data:=.seq items n,slots:=#[]}∧R (.ok (.ret (.ref s.heap.objs.size))) {s with heap:=s.heap.push {cls:=.type "tuple",data:=.seq #[]} }):=
 .of_wp fun prog w A R s h=>by
  obtain⟨hp,g,d,tk,os⟩:=s;obtain⟨hl,h⟩:=h
  wp_walk
  rw[if_neg (by simp;lia)]
  wp_walk
  rw[hi,show(x==1)=false from by simp;lia]
  rw[if_neg (by decide)]
  dsimp only
  rw[Bool.or_false,if_pos (by simpa using h1)]
  wp_walk
  exact⟨_,rfl,h⟩
theorem tup_mul {prog:Program}{w:World}{A:Around}{E:Value→Shared→Prop}{s:Shared}{l:Addr}{vs:List Value}{c:Nat}{x:Int}{u:Tok}{Q:Value→Shared→Prop}(ho:s.heap.get? l=some (tupO vs c))(h1:2≤x)(hi:vs≠[])(h2:vs.length*x.toNat≤256)
  (h:Q (.ref s.heap.objs.size) {s with heap:=s.heap.push (tupO (List.replicate x.toNat vs).flatten 0)}):wpAny (model prog w) A (binaryOp .Mult (.ref l) (.int x u)) Q E s:=by
 refine wpAny_binaryOp_repeat_ref (T := "tuple") (U := "int") (by decide) ⟨_,ho,rfl⟩ (fun s'=>typeIs_int s' x u) yl PySem.F.fills_int_mul PySem.F.slot_int_rmul zY PySem.F.slot_int_index.lookup
  (call_meets PySem.F.slot_int_rmul (typeIs_int s x u) PySem.F.entry_int_rmul (PySem.F.args_int_rmul_2 _ _) (zb x u l vs.toArray c)
   ⟨ho,rfl,⟨_,ho,rfl⟩,call_meets PySem.F.slot_tuple_mul ⟨_,ho,rfl⟩ PySem.F.entry_tuple_mul (PySem.F.args_tuple_mul_2 _ _)
    (Uf l vs.toArray c x u h1 (by cases vs with | nil=>exact absurd rfl hi | cons _ _=>rfl) (by simpa using h2)) ⟨ho,?_⟩⟩)
 rw[JZ]
 simpa using h
theorem zV {prog:Program}{w:World}{A:Around}{E:Value→Shared→Prop}{s:Shared}{l:Addr}{vs:List Value}{c:Nat}{x:Int}{u:Tok}{Q:Value→Shared→Prop}{P:(Result→Shared→Prop)→Shared→Prop}(ho:s.heap.get? l=some (tupO vs c))
  (M:Meets (Builtin.«tuple.__mul__» ⟨[.ref l,.int x u],[]⟩) (fun _ R s=>s.heap.get? l=some {cls:=.type "tuple",dict:=none,data:=.seq vs.toArray c,slots:=#[]}∧P R s))
  (h:∀R:Result→Shared→Prop,(∀v s',Q v s'→R (.ok (.ret v)) s')→P R s):wpAny (model prog w) A (binaryOp .Mult (.ref l) (.int x u)) Q E s:=by
 refine wpAny_binaryOp_repeat_ref (T := "tuple") (U := "int") (by decide) ⟨_,ho,rfl⟩ (fun s'=>typeIs_int s' x u) yl PySem.F.fills_int_mul PySem.F.slot_int_rmul zY PySem.F.slot_int_index.lookup
  (call_meets PySem.F.slot_int_rmul (typeIs_int s x u) PySem.F.entry_int_rmul (PySem.F.args_int_rmul_2 _ _) (zb x u l vs.toArray c)
   ⟨ho,rfl,⟨_,ho,rfl⟩,call_meets PySem.F.slot_tuple_mul ⟨_,ho,rfl⟩ PySem.F.entry_tuple_mul (PySem.F.args_tuple_mul_2 _ _) M ⟨ho,h _ fun v s' q=>q⟩⟩)
section
variable {g:Gx}{f:Fx}{X:Ex}{H:Hp}{n:Nat}
theorem bin_mulT (G:g.Ok)(ok:f.Ok g n){xs:List V}{k:Int}{Q:V→Hp→Prop}(hk : -1000≤k)(hi:xs≠[])(h2:xs.length*k.toNat≤256)(q:Q (.tup (List.replicate k.toNat xs).flatten) H):Bin g f X .Mult (.tup xs) (.int k) H Q:=by
 intro s m mu fz D v w S d e P E kk kE
 obtain⟨a,vs,c,rfl,ho,ds,hc⟩:=S.tupAt G ok d
 obtain⟨u,rfl⟩:=e
 have hne:vs≠[]:=fun z=>by have:=ds.length;rw[z]at this;cases xs with | nil=>exact hi rfl | cons _ _=>simp at this
 have hem:vs.toArray.isEmpty=false:=by cases vs with | nil=>exact absurd rfl hne | cons _ _=>rfl
 have fr:=jr (s:=s) (m:=m) S.led.news
 rcases Int.lt_or_le k 1 with h | h
 ·refine zV ho (Uh a vs.toArray c k u (by lia) hk hem) fun R hR=>?_
  have L':=S.led.push_fz (o:=tupO [] 0) fr (S.led.news.push S.fr _)
  rw[show k.toNat=0 from by lia]at q
  exact hR _ _ (kk _ (s.heap.push (tupO [] 0)) s.toks mu _ D H (.tup []) ⟨S.fr.push _,L'⟩ (fun _ h=>.tail _ h) ⟨_,[],0,rfl,.inr (.head _),rfl,by simp⟩ q)
 ·rcases Int.lt_or_le k 2 with h' | h'
  ·have:k=1:=by lia
   subst this
   refine zV ho (Ug a vs.toArray c u) fun R hR=>hR _ _ (kk (.ref a) s.heap s.toks mu fz D H (.tup xs) S (fun _ h=>h) d (by simpa using q))
  ·refine tup_mul ho h' hne (by rw[ds.length];exact h2) ?_
   have L':=S.led.push_fz (o:=tupO (List.replicate k.toNat vs).flatten 0) fr (S.led.news.push S.fr _)
   have dd:∀j:Nat,qf g fz (List.replicate j xs).flatten (List.replicate j vs).flatten:=fun j=>by
    induction j with
    | zero=>exact rfl
    | succ j ih=>rw[List.replicate_succ,List.flatten_cons,List.replicate_succ,List.flatten_cons];exact ds.append ih
   refine kk _ (s.heap.push (tupO (List.replicate k.toNat vs).flatten 0)) s.toks mu _ D H (.tup (List.replicate k.toNat xs).flatten) ⟨S.fr.push _,L'⟩ (fun _ h=>.tail _ h) ⟨_,(List.replicate k.toNat vs).flatten,0,rfl,.inr (.head _),Dens.mono (FzR.le fun _ h=>.tail _ h) _ _ (dd _),?_⟩ q
   have:=(dd k.toNat).length
   simp at this ⊢
   rw[Nat.mul_comm]at h2;lia
end
def Ue (o:Obj):Prop:=(o.cls = .type "list_iterator" ∨ o.cls = .type "tuple_iterator" ∨ o.cls = .type "range_iterator")∧∃vs,o.data = .fields vs
section
variable {prog:Program}{w:World}{A:Around}{E:Value→Shared→Prop}
theorem Wm {target:Expr}{it:Addr}{o:Obj}{v:Value}{Q:Unit→Shared→Prop}{s:Shared}(ho:s.heap.get? it=some o)(hp:Ue o)(h:Q () s):wpAny (model prog w) A (letOwnedTupleGo target (.ref it) v) Q E s:=by
 obtain⟨hc,vs,hd⟩:=hp
 unfold letOwnedTupleGo
 cases target<;>first
  | exact wpAny_pure h
  | (cases v<;>first
    | exact wpAny_pure h
    | (refine jC (wpAny_load ho ?_);rcases hc with hc | hc | hc<;>rw[hc,hd]<;>exact wpAny_pure h))
theorem uZ {elt target iter:Expr}{scope:Scope}{pos:Pos}{it acc:Value}{env:Env}{s:Shared}{R:Result→Shared→Prop}(I:Nat→Shared→Prop)
  (turn:∀n s,I n s→wpAny (model prog w) A (pyNext it) (fun r s₁=>match r with
   | none=>R (.ok .next) s₁
   | some v=>wpAny (model prog w) A (letOwnedTupleGo target it v) (fun _ s₁'=>wpAny (model prog w) A (assign target env v) (fun _ s₂=>wpAny (model prog w) A (eval elt env) (fun x s₃=>
     wpAny (model prog w) A (call (.builtin "list.append") [acc,x]) (fun _ s₄=>∃m,m<n∧I m s₄) (notedBy (model prog w) A env fun e s'=>R (.error e) s') s₃)
     (notedBy (model prog w) A env fun e s'=>R (.error e) s') s₂) (notedBy (model prog w) A env fun e s'=>R (.error e) s') s₁') (notedBy (model prog w) A env fun e s'=>R (.error e) s') s₁) (notedBy (model prog w) A env fun e s'=>R (.error e) s') s)
  (n:Nat) (h:I n s) :
  codeAny (model prog w) A (.compLoop (.ListComp elt [⟨target,iter,[],0⟩] scope pos) 0 it acc env) R s:=by
 refine codeAny_loop rfl I (fun n s hI=>?_) n h
 show wpAny _ _ ((compTurn (.ListComp elt [⟨target,iter,[],0⟩] scope pos) 0 it acc env).onRaise (fun x=>do noteFrame x env;theTreesLotGoes x)) _ _ s
 refine wpAny_noted ?_
 rw[compTurn_list1]
 refine jC (wpAny_standAt (jC (wpAny_mono (turn n s hI) (fun r s₁ h₁=>?_) fun _ _ h'=>h')))
 cases r with
 | none=>exact wpAny_pure h₁
 | some v=>
  refine jC (wpAny_mono h₁ (fun _ s₁' h₁=>?_) fun _ _ h'=>h')
  exact jC (wpAny_mono h₁ (fun _ s₂ h₂=>jC (jC (wpAny_mono h₂ (fun x s₃ h₃=>jC (wpAny_mono h₃
   (fun _ s₄ h₄=>wpAny_pure (wpAny_pure ⟨rfl,h₄⟩)) fun _ _ h'=>h')) fun _ _ h'=>h'))) fun _ _ h'=>h')
end
section
variable {g:Gx}{f:Fx}{n:Nat}
theorem tgt_pair (G:g.Ok){b:Bk}{x x':Str}{p p' tp:Pos}{k:Nat}{y y':V}(ok:f.Ok g n)(hb:f.bk=some b)(hh:f.hd=none)(hk:f.env.scope.names.lookup x=some .local)(hk':f.env.scope.names.lookup x'=some .local) :
  JTgt g f b.C (.Tuple [.Name x p,.Name x' p'] k tp) (.tup [y,y']) [(x',y'),(x,y)]:=by
 intro s m H mu fz D v ps0 S e d P E kk
 obtain⟨a,vs,c,rfl,ho,ds,_⟩:=S.tupAt G ok d
 obtain⟨u,r,rfl,du,u',r',rfl,du',rfl⟩:=ds
 refine wpAny_assign_Tuple (items:=#[u,u']) hh ⟨_,ho,rfl,_,rfl⟩ rfl rfl (fun h' hs=>?_)
 have S':=S.grown (Kn hs)
 refine wpAny_assignInOrder_more (wpAny_assign_Name (zX (s:={s with heap:=h'}) (ps1:=[]) ok hb hk S' e (fun _ _ _ h=>by cases h) du fun h₁ tk₁ mu₁ S₁ hm₁=>?_))
 refine wpAny_assignInOrder_more (wpAny_assign_Name (zX (s:={s with heap:=h₁,toks:=tk₁}) (ps0:=[(x,y)]) (ps1:=[(x,y)]) ok hb hk' S₁ (zS ..) (fun _ _ _ h=>h) du' fun h₂ tk₂ mu₂ S₂ hm₂=>?_))
 rw[Hp.set_set]at S₂
 exact wpAny_assignInOrder_none (kk h₂ tk₂ mu₂ D S₂ fun a o ha hne=>hm₂ a o (hm₁ a o ha hne) hne)
end
section
variable {g:Gx}{f:Fx}{X:Ex}{ns:List Str}{σ:Lo}{H:Hp}{n:Nat}
theorem Uc {target iter elt:Expr}{scope:Scope}{pos:Pos}{E:Value→Shared→Prop}{RR:Value→Env→Result→Shared→Prop}(G:g.Ok)(ok:f.Ok g n)(hb:f.bk=none)(hsc:yR scope=true)
  {s:Shared} {m:Str→Option Value} {h:Heap} {tk:Nat} {mu₁ fz₁:List (Addr×Obj)} {D₁:Addr→Addr} {H₁:Hp} {x:V} {v:Value} {xs:List V} {HP:Hp→Prop} {I:Nat→List V→Hp→Prop}
  (S₁:St g f h m H₁ mu₁ fz₁ D₁) (lo₁:Locs g f fz₁ ns σ m) (d₁:DenG g fz₁ x v) (src:Src x xs HP) (hp:HP H₁) (hlen:xs.length≤1000000) (h0:I 0 [] H₁)
  (turn:∀f' a b i y ys H,Fx.Ok g f' n→f'.bk=some b→f'.env.scope=scope→f'.hd=f.hd→xs[i]? = some y→I i ys H→HP H→H a=none→H b.C=none→a≠b.C →
    ∃ps,JTgt g f' b.C target y ps∧JE g f' Ex.none [] elt [] ((H.set a (.list ys)).set b.C (.ns ps)) (fun r H'=>∃H₂,H'=(H₂.set a (.list ys)).set b.C (.ns ps)∧H₂ a=none∧H₂ b.C=none∧I (i+1) (ys++[r]) H₂∧HP H₂))
  (hRR:∀(acc:Addr) (cenv:Env) (f':Fx) (h₃:Heap) (tk₂:Nat) (mu₂ fz₂:List (Addr×Obj)) (D₂:Addr→Addr) (ys:List V) (ps:List (Str×V)) (H₂:Hp),f'.A=f.A→f'.bk=some ⟨scope,cenv.locals,m⟩→f'.h₀=f.h₀→f'.L=f.L →
   St g f' h₃ m ((H₂.set acc (.list ys)).set cenv.locals (.ns ps)) mu₂ fz₂ D₂→(∀p∈fz₁,p∈fz₂)→I xs.length ys H₂→H₂ acc=none→H₂ cenv.locals=none→acc≠cenv.locals→RR (.ref acc) cenv (.ok .next) {s with heap:=h₃,toks:=tk₂}) :
  wpAny (model g.prog g.w) f.A (pyIter v) (fun it s₂=>wpAny (model g.prog g.w) f.A (newList []) (fun acc s₃=>wpAny (model g.prog g.w) f.A (newFunctionEnv scope f.env.globals [] [] f.env.qual none .none (some f.env)) (fun cenv s₄=>
    codeAny (model g.prog g.w) f.A (.compStart (.ListComp elt (⟨target,iter,[],0⟩::[]) scope pos) 0 it acc {cenv with scope:=scope}) (RR acc cenv) s₄) E s₃) E s₂) E {s with heap:=h,toks:=tk}:=by
 obtain⟨hfree,hcell,hnames,hkind⟩:=zP hsc
 have hxs:∀{i:Nat},i<xs.length→xs[i]? = some (xs.getD i .none):=fun {i} hi=>by rw[qP,qH hi];rfl
 have n12:h.objs.size+1≠h.objs.size+2:=Nat.ne_of_lt (Nat.lt_succ_self _)
 have n21:h.objs.size+2≠h.objs.size+1:=n12.symm
 have finish:∀(k:Nat) (val:Nat→V) (o:Obj) (f':Fx),f'={f with bk:=some ⟨scope,h.objs.size+2,m⟩}→∀(W:Feed g f' h.objs.size k val HP),k=xs.length→(∀i,i<k→val i=xs.getD i .none)→o.isFreed=false→W.at_ 0 ((h.objs.size,o)::fz₁) o→(∀i fz ob,W.at_ i fz ob→Ue ob) →
   wpAny (model g.prog g.w) f.A (newList []) (fun acc s₃=>wpAny (model g.prog g.w) f.A (newFunctionEnv scope f.env.globals [] [] f.env.qual none .none (some f.env)) (fun cenv s₄=>
    codeAny (model g.prog g.w) f.A (.compStart (.ListComp elt (⟨target,iter,[],0⟩::[]) scope pos) 0 (.ref h.objs.size) acc {cenv with scope:=scope}) (RR acc cenv) s₄) E s₃) E {s with heap:=h.push o,toks:=tk}:=by
  intro k' val o f' hf' W hk hval hfr hat hgo
  subst hk
  have S₂:=Wz (s:={s with heap:=h,toks:=tk}) S₁ o hfr
  simp only[newList]
  refine wpAny_newObj_type (wpAny_newFunctionEnv hcell (by intro y hy;simp at hy) (fun h₁ hns₁ hsb₁=>?_) hkind)
  dsimp only at hns₁ hsb₁ ⊢
  have z1:(h.push o).objs.size=h.objs.size+1:=Heap.size_push ..
  have hacc:H₁ (h.objs.size+1)=none:=by
   rw[← z1];exact S₂.led.fresh (jr (s:={s with heap:=h.push o}) (m:=m) S₂.led.news)
  have S₃:St g f ((h.push o).push (jF [] 0)) m (H₁.set (h.objs.size+1) (.list [])) ((h.objs.size+1,jF [] 0)::mu₁) ((h.objs.size,o)::fz₁) D₁:=by
   rw[← z1]
   exact⟨S₂.fr.push _,S₂.led.push_list (xs:=[]) (jr (s:={s with heap:=h.push o}) (m:=m) S₂.led.news) (S₂.led.news.push S₂.fr _) rfl (by simp)⟩
  have z2:((h.push o).push (jF [] 0)).objs.size=h.objs.size+2:=by rw[Heap.size_push,z1]
  have hsb₂:Heap.SameBut (h.objs.size+2) (((h.push o).push (jF [] 0)).push {cls:=.type "dict",data:=.dict #[]}) h₁:=by rw[← z2];exact hsb₁
  have hns₂:h₁.Ns (h.objs.size+2) (fun x=>([]:List (Str×Value)).reverse.lookup x):=by rw[← z2];exact hns₁
  have old:∀b ob,((h.push o).push (jF [] 0)).get? b=some ob→h₁.get? b=some ob:=fun b ob e=>by
   rw[hsb₂.2 b (by have:=Heap.lt_size e;rw[z2]at this;exact Nat.ne_of_lt this)]
   exact qK _ e
  obtain⟨oC,esC,epC,hoC,n1,n2,n3⟩:=hns₂
  have hC:H₁ (h.objs.size+2)=none:=by
   have:=S₃.led.fresh (jr (s:={s with heap:=(h.push o).push (jF [] 0)}) (m:=m) S₃.led.news)
   rw[z2,zN _ _ n21]at this;exact this
  have hf'A:f'.A=f.A:=by rw[hf']
  have hf'C:f'.bk=some ⟨scope,h.objs.size+2,m⟩:=by rw[hf']
  have hmo:∀m',f'.mo m'=m:=fun m'=>by unfold Fx.mo;rw[hf'C]
  have hmo0:f.mo m=m:=Fx.mo_none hb m
  have hh':f'.h₀=f.h₀:=by rw[hf']
  have hL':f'.L=f.L:=by rw[hf']
  have S₄:St g f' h₁ m ((H₁.set (h.objs.size+1) (.list [])).set (h.objs.size+2) (.ns [])) ((h.objs.size+2,oC)::(h.objs.size+1,jF [] 0)::mu₁) ((h.objs.size,o)::fz₁) D₁:=by
   have F4:Fr f.h₀ f.L h₁ m:=by rw[← hmo0];exact S₃.fr.keeps old
   have N4:News f.h₀ f.L h₁ ((h.objs.size+2,oC)::(((h.objs.size+1,jF [] 0)::mu₁)++((h.objs.size,o)::fz₁))):=Ja S₃.fr S₃.led.news old hoC (by rw[z2];exact Nat.le_refl _)
   refine⟨by rw[hmo,hh',hL'];exact F4,?_⟩
   have l4:=S₃.led.push_ns (a:=h.objs.size+2) (ps:=[]) (by rw[← z2];exact jr (s:={s with heap:=(h.push o).push (jF [] 0)}) (m:=m) S₃.led.news) N4 ⟨esC,epC,n1,n2,n3⟩ (fun x v e=>by cases e)
   show Led _ _ f'.h₀ f'.L _ _ _ _ _
   rw[hh',hL'];exact l4
  have ok':f'.Ok g n:=by
   rw[hf'];exact⟨ok.below,ok.kind0,hkind,ok.dp,ok.un⟩
  have hsc':f'.env.scope=scope:=by unfold Fx.env;rw[hf'C];rfl
  have hhd':f'.hd=f.hd:=by rw[hf']
  have lo':∀fz',(∀p∈fz₁,p∈fz')→Locs g f' fz' [] [] m:=fun fz' le=>by
   have l:=lo₁.mono le
   rw[hf']
   exact⟨fun i x hx=>by simp at hx,l.exc,l.hdl⟩
  have henv:f'.env={newEnv scope (h.objs.size+2) f.env.globals [] f.env.qual none .none (some f.env) builtinsNs with scope:=scope}:=by
   unfold Fx.env;rw[hf'C,hb,hf'];rfl
  have loop:∀s₃:Shared,s₃={s with heap:=h₁,toks:=tk+([]:List (Str×Value)).length} →
    codeAny (model g.prog g.w) f.A (.compLoop (.ListComp elt [⟨target,iter,[],0⟩] scope pos) 0 (.ref h.objs.size) (.ref (h.objs.size+1)) f'.env)
     (RR (.ref (h.objs.size+1)) (newEnv scope (h.objs.size+2) f.env.globals [] f.env.qual none .none (some f.env) builtinsNs)) s₃:=by
   rintro s₃ rfl
   refine uZ (fun j s₁=>∃i h₂ tk₂ mu₂ fz₂ D₂ H₂ ys ps o₂,j=xs.length-i∧i≤xs.length∧s₁={s with heap:=h₂,toks:=tk₂}∧St g f' h₂ m ((H₂.set (h.objs.size+1) (.list ys)).set (h.objs.size+2) (.ns ps)) mu₂ fz₂ D₂ ∧
    (∀p∈fz₁,p∈fz₂∧p.1≠h.objs.size)∧I i ys H₂∧ys.length=i∧HP H₂∧H₂ (h.objs.size+1)=none∧H₂ (h.objs.size+2)=none∧(h.objs.size,o₂)∈fz₂∧W.at_ i fz₂ o₂) (fun j s₁ hI=>?_) xs.length ?_
   rotate_left
   ·exact⟨0,h₁,_,_,_,_,H₁,[],[],o,rfl,Nat.zero_le _,rfl,S₄,fun p hp=>⟨.tail _ hp,Nat.ne_of_lt (jr (s:={s with heap:=h}) (m:=m) S₁.led.news _ (qA _ hp))⟩,h0,rfl,hp,hacc,hC,.head _,hat⟩
   obtain⟨i,h₂,tk₂,mu₂,fz₂,D₂,H₂,ys,ps,o₂,rfl,hik,rfl,S₅,sub₂,hi,hyl,hp₂,ha₂,hc₂,hit₂,hat₂⟩:=hI
   have big:H₂.Sub ((H₂.set (h.objs.size+1) (.list ys)).set (h.objs.size+2) (.ns ps)):=(Hp.sub_set _ ha₂).trans (Hp.sub_set _ (by rw[zN _ _ n21];exact hc₂))
   rw[← hf'A]
   rcases Nat.lt_or_eq_of_le hik with hlt | rfl
   ·refine W.next (s:={s with heap:=h₂,toks:=tk₂}) hlt S₅ (src.mono big hp₂) hit₂ hat₂ _ _ (fun v h₃ tk₃ o₃ hs₃ ho₃ hat₃ dv=>?_)
    refine Wm (s:={s with heap:=h₃,toks:=tk₃}) ho₃ (hgo _ _ _ (hat₃ fz₂ fun _ _ _ x=>x)) ?_
    have S₆:=S₅.turn hit₂ (W.iter hat₂) hs₃ ho₃
    have le:=S₅.led.fz_le (o':=o₃) hit₂ (W.iter hat₂)
    have sub₃:∀p∈fz₁,p∈jM h.objs.size o₃ fz₂∧p.1≠h.objs.size:=fun p hp=>⟨jp (sub₂ p hp).2 (sub₂ p hp).1,(sub₂ p hp).2⟩
    obtain⟨ps',tgt,je⟩:=turn f' (h.objs.size+1) ⟨scope,h.objs.size+2,m⟩ i (xs.getD i .none) ys H₂ ok' hf'C hsc' hhd' (hxs hlt) hi hp₂ ha₂ hc₂ (by show h.objs.size+1≠h.objs.size+2;lia)
    rw[hval i hlt]at dv
    refine tgt {s with heap:=h₃,toks:=tk₃} m _ mu₂ _ D₂ v ps S₆ (zS ..) (Den.mono le _ _ dv) _ _ (fun h₄ tk₄ mu₄ D₄ S₇ hmu=>?_)
    rw[Hp.set_set]at S₇
    refine je {s with heap:=h₄,toks:=tk₄} m mu₄ _ D₄ S₇ (lo' _ fun p hp=>(sub₃ p hp).1) _ _ (fun r h₅ tk₅ mu₅ fz₅ D₅ H₅ xr S₈ le₅ d₅ q₅=>?_) (fun e s' hx=>hx.elim)
    obtain⟨H₃,rfl,ha₃,hc₃,hi₃,hp₃⟩:=q₅
    refine yA (g:=g) (f:=f') (X:=Ex.none) (xs:=ys) (y:=xr) (a:=h.objs.size+1) (Q:=fun _ H'=>H'=(H₃.set (h.objs.size+1) (.list (ys++[xr]))).set (h.objs.size+2) (.ns ps')) (by rw[zN _ _ n12,zS]) (by lia) (by rw[Hp.set_comm _ _ n21,Hp.set_set])
     {s with heap:=h₅,toks:=tk₅} m mu₅ fz₅ D₅ [.ref (h.objs.size+1),r] S₈ ⟨_,_,rfl,rfl,_,_,rfl,d₅,rfl⟩ _ _ (fun v₆ h₆ tk₆ mu₆ fz₆ D₆ H₆ x₆ S₉ le₆ d₆ q₆=>?_) (fun e s' hx=>hx.elim)
    subst q₆
    refine⟨xs.length-(i+1),by lia,i+1,h₆,tk₆,mu₆,fz₆,D₆,H₃,ys++[xr],ps',o₃,rfl,hlt,rfl,S₉,fun p hp=>⟨le₆ _ (le₅ _ (sub₃ p hp).1),(sub₃ p hp).2⟩,hi₃,by simp[hyl],hp₃,ha₃,hc₃,le₆ _ (le₅ _ (uj hit₂)),hat₃ _ fun b ob hb x=>FzR.le (ja le₅ le₆) b ob hb (le b ob hb x)⟩
   ·refine W.fin (s:={s with heap:=h₂,toks:=tk₂}) S₅ (lo' _ fun p hp=>(sub₂ p hp).1).hdl (src.mono big hp₂) hit₂ hat₂ _ _ (fun h₃ hs₃=>?_)
    obtain⟨S₆,le⟩:=S₅.gone hit₂ (W.iter hat₂) hs₃
    exact hRR (h.objs.size+1) (newEnv scope (h.objs.size+2) f.env.globals [] f.env.qual none .none (some f.env) builtinsNs) f' h₃ tk₂ mu₂ _ D₂ ys ps H₂ hf'A hf'C hh' hL' S₆ (fun p hp=>qN.mpr ⟨(sub₂ p hp).1,decide_eq_true (sub₂ p hp).2⟩) hi ha₂ hc₂ n12
  have e1:(h.push o).objs.size=h.objs.size+1:=z1
  have start:codeAny (model g.prog g.w) f.A (.compStart (.ListComp elt (⟨target,iter,[],0⟩::[]) scope pos) 0 (.ref h.objs.size) (.ref (h.objs.size+1)) f'.env)
     (RR (.ref (h.objs.size+1)) (newEnv scope (h.objs.size+2) f.env.globals [] f.env.qual none .none (some f.env) builtinsNs)) {s with heap:=h₁,toks:=tk+([]:List (Str×Value)).length}:=by
   refine codeAny_compStart_list (loop _ rfl) ?_
   rw[← hf'A]
   exact W.self_ (s:={s with heap:=h₁,toks:=tk+([]:List (Str×Value)).length}) S₄ (.head _) hat _ _ (by rw[hf'A];exact loop _ rfl)
  rw[henv]at start
  have z2':((h.push o).push {cls:=.type "list",dict:=none,data:=.seq ([]:List Value).toArray}).objs.size=h.objs.size+2:=z2
  simp only[e1,z2']
  exact start
 have okA:∀m,({f with bk:=some ⟨scope,h.objs.size+2,m⟩}:Fx).Ok g n:=fun m=>⟨ok.below,ok.kind0,hkind,ok.dp,ok.un⟩
 cases src with
 | list x xs=>
  obtain⟨a,vs,c,_,_,rfl,ho,ds,_⟩:=S₁.listAt (s:={s with heap:=h,toks:=tk}) G ok d₁ hp
  refine wpAny_pyIter_list (items:=vs.toArray) ⟨_,ho,rfl,_,rfl⟩ ?_
  exact finish _ _ _ _ rfl (UT G (okA m) x xs _) rfl (fun _ _=>rfl) rfl ⟨a,rfl,rfl,Den.mono (FzR.le fun _ h=>.tail _ h) _ _ d₁⟩ (fun _ _ _ ⟨_,c1,c2,_⟩=>⟨by simp[c1],_,c2⟩)
 | tup xs=>
  obtain⟨a,vs,c,rfl,ho,ds,_⟩:=S₁.tupAt (s:={s with heap:=h,toks:=tk}) G ok d₁
  refine wpAny_pyIter_tuple (items:=vs.toArray) ⟨_,ho,rfl,_,rfl⟩ ?_
  exact finish _ _ _ _ rfl (WR G (okA m) xs _) rfl (fun _ _=>rfl) rfl ⟨a,rfl,rfl,Den.mono (FzR.le fun _ h=>.tail _ h) _ _ d₁⟩ (fun _ _ _ ⟨_,c1,c2,_⟩=>⟨by simp[c1],_,c2⟩)
 | rng lo' hi h1 h2=>
  obtain⟨a,t,u,w,rfl,r⟩:=d₁
  have ho:=S₁.rig (s:={s with heap:=h,toks:=tk}) G ok r
  have hsz:Builtin.Range.rangeSize lo' hi 1=((hi-lo').toNat:Int):=by
   unfold Builtin.Range.rangeSize
   rw[if_pos (by decide)]
   split<;>lia
  refine wpAny_pyIter_range ho ?_ ?_
  ·unfold Builtin.Range.small Builtin.Range.rangeFitsLong
   rw[hsz]
   simp only[qM,decide_eq_true_eq,Bool.or_eq_true]
   refine⟨⟨⟨⟨?_,?_⟩,?_⟩,?_⟩,.inr ?_⟩<;>first | (rw[if_pos (by decide)];simp only[qM,decide_eq_true_eq];lia) | lia
  ·rw[hsz]
   exact finish (hi-lo').toNat (fun i=>.int (lo'+i)) _ _ rfl (QU (f:={f with bk:=some ⟨scope,h.objs.size+2,m⟩}) lo' _ _) (by simp) (fun i hi=>by simp[hi]) rfl ⟨Nat.zero_le _,by simp⟩ (fun _ _ _ ⟨_,c⟩=>by rw[c];exact⟨by simp,_,rfl⟩)
theorem je_compT {Q:V→Hp→Prop}{target iter elt:Expr}{scope:Scope}{pos:Pos}(G:g.Ok)(ok:f.Ok g n)(hb:f.bk=none)(hsc:yR scope=true)
  (hs:∀x,foldedSetIterable iter f.env x=pure x)
  (h:JE g f X ns iter σ H (fun x H₁=>∃xs HP,Src x xs HP∧HP H₁∧xs.length≤1000000∧∃I:Nat→List V→Hp→Prop,I 0 [] H₁ ∧
   (∀ys H a,I xs.length ys H→H a=none→Q (.ref a) (H.set a (.list ys))) ∧
   ∀f' a b i y ys H,Fx.Ok g f' n→f'.bk=some b→f'.env.scope=scope→f'.hd=f.hd→xs[i]? = some y→I i ys H→HP H→H a=none→H b.C=none→a≠b.C →
    ∃ps,JTgt g f' b.C target y ps∧JE g f' Ex.none [] elt [] ((H.set a (.list ys)).set b.C (.ns ps)) (fun r H'=>∃H₂,H'=(H₂.set a (.list ys)).set b.C (.ns ps)∧H₂ a=none∧H₂ b.C=none∧I (i+1) (ys++[r]) H₂∧HP H₂))) :
  JE g f X ns (.ListComp elt [⟨target,iter,[],0⟩] scope pos) σ H Q:=by
 obtain⟨hfree,hcell,hnames,hkind⟩:=zP hsc
 intro s m mu fz D S lo Pq E k kE
 refine wpAny_ListComp hfree hkind hnames (h s m mu fz D S lo _ _ (fun v h tk mu₁ fz₁ D₁ H₁ x S₁ le₁ d₁ q₁=>?_) kE) hs
 obtain⟨xs,HP,src,hp,hlen,I,h0,hfin,turn⟩:=q₁
 refine Uc (RR:=fun acc cenv r s'=>∃m,s'.heap.Ns cenv.locals m∧∀h',Heap.SameBut cenv.locals s'.heap h' →
     match r with | .ok _=>Pq acc {s' with heap:=h'} | .error x=>wpAny (model g.prog g.w) f.A (passOn "comprehension.variables-let-go" x {cenv with scope:=scope}) Pq E {s' with heap:=h'})
  G ok hb hsc S₁ (lo.mono le₁) d₁ src hp hlen h0 turn (fun acc cenv f' h₃ tk₂ mu₂ fz₂ D₂ ys ps H₂ hA hC hh hL S₂ le₂ hi ha hc hne=>?_)
 have hmo:f'.mo m=m:=by unfold Fx.mo;rw[hC]
 have F₂:=S₂.fr
 rw[hmo,hh,hL]at F₂
 have l₂:=S₂.led
 have l₂:Led g.cf g.base f'.h₀ f'.L h₃ ((H₂.set acc (.list ys)).set cenv.locals (.ns ps)) mu₂ fz₂ D₂:=l₂
 rw[hh,hL]at l₂
 obtain⟨oc,mm,hmc,no,_⟩:=l₂.ns _ _ (zS ..)
 have zc:=l₂.news _ (qB _ hmc)
 refine⟨mm,no.at_ zc.1,fun h₅ hs₅=>?_⟩
 have l5:=l₂.lose (zS ..) hs₅
 rw[Hp.del_set _ (by rw[zN _ _ hne.symm];exact hc)]at l5
 have F3:Fr f.h₀ f.L h₃ (f.mo m):=by rw[Fx.mo_none hb];exact F₂
 exact k (.ref acc) h₅ tk₂ _ fz₂ D₂ _ (.ref acc) ⟨F3.change hs₅ zc.2.1 zc.2.2,l5⟩ (ja le₁ le₂) rfl (hfin ys H₂ acc hi ha)
end
section
variable {g:Gx}{f:Fx}{X:Ex}{ns:List Str}{σ:Lo}{H:Hp}{n:Nat}{Q:jD}
theorem Uj {target iter elt:Expr}{scope:Scope}{pos spos py:Pos}{y:Str}{i:Nat}(G:g.Ok)(ok:f.Ok g n)(hb:f.bk=none)(hsc:yR scope=true)(nd:ns.Nodup)(hy:ns[i]? = some y)(hyl:f.env.scope.names.lookup y=some .local)
  (hs:∀x,foldedSetIterable iter f.env x=pure x) (hsw:swapsWith (.ListComp elt [⟨target,iter,[],0⟩] scope pos) (some (.Name y py)) spos.line f.env=pure true)
  (h:JE g f X ns iter σ H (fun x H₁=>∃xs HP,Src x xs HP∧HP H₁∧xs.length≤1000000∧∃I:Nat→List V→Hp→Prop,I 0 [] H₁ ∧
   (∀ys H a,I xs.length ys H→H a=none→Q .next (σ.set i (some (.ref a))) (H.set a (.list ys))) ∧
   ∀f' a b i y ys H,Fx.Ok g f' n→f'.bk=some b→f'.env.scope=scope→f'.hd=f.hd→xs[i]? = some y→I i ys H→HP H→H a=none→H b.C=none→a≠b.C →
    ∃ps,JTgt g f' b.C target y ps∧JE g f' Ex.none [] elt [] ((H.set a (.list ys)).set b.C (.ns ps)) (fun r H'=>∃H₂,H'=(H₂.set a (.list ys)).set b.C (.ns ps)∧H₂ a=none∧H₂ b.C=none∧I (i+1) (ys++[r]) H₂∧HP H₂))) :
  JS g f X ns (.Assign [.Name y py] (.ListComp elt [⟨target,iter,[],0⟩] scope pos) spos) σ H Q:=by
 obtain⟨hfree,hcell,hnames,hkind⟩:=zP hsc
 intro s m mu fz D S lo P E k kE
 rw[exec_Assign_Name_used _ _ _ _ hsw]
 refine jC (wpAny_standAt (jC ?_))
 show wpAny _ _ (do let _ ← comprehension (.ListComp elt [⟨target,iter,[],0⟩] scope pos) scope f.env _ (newList []) false (eval iter f.env) (some (assign (.Name y py) f.env))) _ _ s
 refine jC (wpAny_mono (wpAny_comprehension_use (Q:=fun _ s'=>P .next s') rfl hs hfree hkind hnames (h s m mu fz D S lo _ _ (fun v h tk mu₁ fz₁ D₁ H₁ x S₁ le₁ d₁ q₁=>?_) (fun e s' hx=>kE _ e s' hx)))
  (fun _ s' hq=>wpAny_pure (wpAny_pure hq)) fun _ _ e=>e)
 obtain⟨xs,HP,src,hp,hlen,I,h0,hfin,turn⟩:=q₁
 refine Uc (RR:=fun acc cenv r s'=>match r with
   | .ok _=>wpAny (model g.prog g.w) f.A (assign (.Name y py) f.env acc) (fun _ s''=>∃m,s''.heap.Ns cenv.locals m∧∀h',Heap.SameBut cenv.locals s''.heap h'→P .next {s'' with heap:=h'}) E s'
   | .error x=>∃m,s'.heap.Ns cenv.locals m∧∀h',Heap.SameBut cenv.locals s'.heap h'→wpAny (model g.prog g.w) f.A (passOn "comprehension.variables-let-go" x {cenv with scope:=scope}) (fun _ s'=>P .next s') E {s' with heap:=h'})
  G ok hb hsc S₁ (lo.mono le₁) d₁ src hp hlen h0 turn (fun acc cenv f' h₃ tk₂ mu₂ fz₂ D₂ ys ps H₂ hA hC hh hL S₂ le₂ hi ha hc hne=>?_)
 have hmo:f'.mo m=m:=by unfold Fx.mo;rw[hC]
 have F₂:=S₂.fr
 rw[hmo,hh,hL]at F₂
 have l₂:=S₂.led
 have l₂:Led g.cf g.base f'.h₀ f'.L h₃ ((H₂.set acc (.list ys)).set cenv.locals (.ns ps)) mu₂ fz₂ D₂:=l₂
 rw[hh,hL]at l₂
 have S₃:St g f h₃ m ((H₂.set acc (.list ys)).set cenv.locals (.ns ps)) mu₂ fz₂ D₂:=⟨by rw[Fx.mo_none hb];exact F₂,l₂⟩
 refine wpAny_assign_Name (wu (s:={s with heap:=h₃,toks:=tk₂}) (y:=.ref acc) ok hb nd hy hyl S₃ ((lo.mono le₁).mono le₂) rfl fun h₄ tk₄ m₄ S₄ lo₄=>?_)
 obtain⟨oc,mm,hmc,no,_⟩:=S₄.led.ns _ _ (zS ..)
 have zc:=S₄.led.news _ (qB _ hmc)
 refine⟨mm,no.at_ zc.1,fun h₅ hs₅=>?_⟩
 have l5:=S₄.led.lose (zS ..) hs₅
 rw[Hp.del_set _ (by rw[zN _ _ hne.symm];exact hc)]at l5
 exact k .next h₅ tk₄ _ fz₂ D₂ _ m₄ .next _ ⟨S₄.fr.change hs₅ zc.2.1 zc.2.2,l5⟩ (ja le₁ le₂) rfl lo₄ (hfin ys H₂ acc hi ha)
end
theorem WT {P:Cf}{R:Rig}:∀{xs:List V} {vs:List Value},vs.length=xs.length→(∀(i:Nat) x v,xs[i]? = some x→vs[i]? = some v→Den P R x v)→Dens P R xs vs
 | [],[],_,_=>rfl
 | [],_::_,h,_=>by simp at h
 | _::_,[],h,_=>by simp at h
 | x::xs,v::vs,h,q=>⟨v,vs,rfl,q 0 x v rfl rfl,WT (by simpa using h) fun i x' v' hx hv=>q (i+1) x' v' (by simpa using hx) (by simpa using hv)⟩
section
variable {g:Gx}{f:Fx}{X:Ex}{H:Hp}{n:Nat}{Q:V→Hp→Prop}
theorem Wb {i:Int}(q:Q (.bool false) H):jZ g f X (.builtin "isinstance") [.int i,.typ "bool"] H Q:=by
 intro s m mu fz D vals S d P E k kE
 obtain⟨v,r,rfl,⟨t,rfl⟩,u,r',rfl,hu,rfl⟩:=d
 rw[show u = .type "bool" from hu]
 exact call_isinstance (isinstance_false_int (T := "bool") (by decide) rfl (by rw[isSubtype_type];kernel_rfl)) (k (.bool false) s.heap (s.toks+1) mu fz D H (.bool false) S (fun _ h=>h) rfl q)
theorem Qe (G:g.Ok)(ok:f.Ok g n)(hh:f.hd=none){lo hi:Int}(h1 : -1000000000≤lo∧lo≤1000000000)(h2 : -1000000000≤hi∧hi≤1000000000)(hb:(hi-lo).toNat≤16000000)
  (q:∀a,H a=none→Q (.ref a) (H.set a (.list ((List.range (hi-lo).toNat).map fun i:Nat=>V.int (lo+(i:Int)))))):jZ g f X (.type "list") [.rng lo hi] H Q:=by
 intro s m mu fz D vals S d P E k kE
 obtain⟨v,r,rfl,⟨a,t,u,w,rfl,rr⟩,rfl⟩:=d
 have ho:=S.rig (s:=s) G ok rr
 have hsz:Builtin.Range.rangeSize lo hi 1=((hi-lo).toNat:Int):=by
  unfold Builtin.Range.rangeSize
  rw[if_pos (by decide)]
  split<;>lia
 refine call_list_range hh ho ?_ hsz (by lia) (fun h' tk acc' c' keep hS hacc=>?_)
 ·unfold Builtin.Range.small Builtin.Range.rangeFitsLong
  rw[hsz]
  simp only[qM,decide_eq_true_eq,Bool.or_eq_true]
  refine⟨⟨⟨⟨?_,?_⟩,?_⟩,?_⟩,.inr ?_⟩<;>first | (rw[if_pos (by decide)];simp only[qM,decide_eq_true_eq];lia) | lia
 ·have fr:=jr (s:=s) (m:=m) S.led.news
  have S':=S.grown keep
  have N':News f.h₀ f.L h' ((s.heap.objs.size,jF acc'.toList c')::(mu++fz)):=Ja S.fr S.led.news keep (by rw[hS]) (Nat.le_refl _)
  refine k _ h' tk _ fz D _ (.ref _) ⟨S'.fr,S.led.push_list fr N' ?_ (by simp;lia)⟩ (fun _ h=>h) rfl (q _ (S.led.fresh fr))
  obtain⟨hs,hi'⟩:=hacc
  refine WT (by simp[hs]) fun i x v hx hv=>?_
  rw[qV,Option.map_eq_some_iff]at hx
  obtain⟨k',hk',rfl⟩:=hx
  obtain⟨t,rfl⟩:=hi' i v (by simpa using hv)
  have hik:=List.getElem?_range (n:=(hi-lo).toNat) (i:=i) (by have:=(qF.mp hk').1;simpa using this)
  rw[hik]at hk'
  cases hk'
  exact⟨t,by rw[Int.mul_one]⟩
theorem Yt (G:g.Ok)(ok:f.Ok g n)(hh:f.hd=none){x:V}{bs:List Bool}(e:jx H x (bs.map V.bool))(q:Q (.bool (bs.all id)) H):jZ g f X (.builtin "all") [x] H Q:=by
 intro s m mu fz D vals S d P E k kE
 obtain⟨v,r,rfl,dv,rfl⟩:=d
 obtain⟨a,vs,c,_,_,rfl,ho,ds,b⟩:=S.listAt G ok dv e
 have hl:s.heap.IsList a vs.toArray:=⟨_,ho,rfl,_,rfl⟩
 refine call_all_walk (wpAny_pyIter_list hl ?_)
 have hlt:a<s.heap.objs.size:=Heap.lt_size ho
 have hv:∀(i:Nat) (v:Value),vs[i]? = some v→∃b':Bool,bs[i]? = some b'∧v=Value.bool b':=fun i v hi=>by
  have hlen:=ds.length
  have hib:=(qF.mp hi).1
  have hib':i<bs.length:=by rw[qD]at hlen;lia
  have hx:(bs.map V.bool)[i]? = some (.bool bs[i]):=by rw[qV,qH hib'];rfl
  obtain⟨u,hu,du⟩:=ds.get hx
  rw[hi]at hu;cases hu
  exact⟨bs[i],qH hib',du⟩
 refine⟨s.heap.objs.size,_,_,_,_,_,fun i=>(bs.getD i false),rfl,Walks.list (A:=f.A.in1) hh s.heap.objs.size a (Nat.ne_of_lt hlt) vs.toArray,⟨⟨_,Heap.get?_push_size _ rfl,rfl,rfl⟩,hl.push _⟩,?_,fun h' tk keep=>?_⟩
 ·intro i v s' Q' E' hP hQ
  obtain⟨b',h1,rfl⟩:=hv i v (by simpa using hP)
  have e:bs.getD i false=b':=by rw[qP,h1];rfl
  dsimp only at hQ
  rw[e]at hQ
  exact wpAny_truthy_bool hQ
 ·have hlen:vs.toArray.size=bs.length:=by rw[List.size_toArray,ds.length,qD]
  have e1:((List.range vs.toArray.size).all fun i=>bs.getD i false)=bs.all id:=by
   rw[hlen,Bool.eq_iff_iff,qQ,qQ]
   refine⟨fun h b' hb=>?_,fun h i hi=>?_⟩
   ·obtain⟨i,hi,rfl⟩:=qZ.mp hb
    have:=h i (List.mem_range.mpr hi)
    rwa [qP,qH hi]at this
   ·have hi:=List.mem_range.mp hi
    have:=h _ (List.getElem_mem hi)
    rw[qP,qH hi];exact this
  rw[e1]
  exact k (.bool _) h' tk mu fz D H (.bool _) (S.grown fun b o e=>keep b o (by simp;exact Nat.ne_of_lt (Heap.lt_size e)) (qK _ e)) (fun _ h=>h) rfl q
end
section
variable {prog:Program}{w:World}{A:Around}{E:Value→Shared→Prop}{s:Shared}
theorem Xg {it t:Addr}{i:Nat}{items:Array Value}{x:Value}{Q:Value→Shared→Prop}(hit:s.heap.IsTupleIter it t i)(ht:s.heap.IsTuple t items)(hx:items[i]? = some x)
  (hQ:∀h',h'.IsTupleIter it t (i+1)→Heap.SameBut it s.heap h'→Q x {s with heap:=h'}):wpAny (model prog w) A (Builtin.SmallTypes.nextOf (.ref it)) Q E s:=by
 obtain⟨o,ho,hc,hd⟩:=id hit
 obtain⟨ol,hol,_,nl,hdl⟩:=ht
 unfold Builtin.SmallTypes.nextOf
 refine jC (wpAny_callSpecial?_slot (name:=Str.ofString "__next__") hit.typeIs F.slot_tuple_iterator_next (wpAny_call_entry F.slot_tuple_iterator_next hit.typeIs F.entry_tuple_iterator_next ?_ (F.args_tuple_iterator_next_1 _)))
 show wpAny _ _ (field (.ref it) 0 >>= _) _ _ s
 refine jC (wpAny_field ho hd (x:=.ref t) rfl ?_)
 show wpAny _ _ (if (Value.ref t==Value.none)=true then _ else _) _ _ s
 rw[if_neg (show ¬((Value.ref t==Value.none)=true)from Bool.false_ne_true)]
 show wpAny _ _ (field (.ref it) 1 >>= _) _ _ s
 refine jC (wpAny_field ho hd (x:=.int i 0) rfl ?_)
 show wpAny _ _ (seqItems? (.ref t) >>= _) _ _ s
 refine jC (wpAny_seqItems hol hdl ?_)
 simp only[Int.toNat_natCast,hx]
 refine jC (wpAny_setField ho hd (by simp) (wpAny_pure ⟨x,rfl,wpAny_pure (hQ _ ?_ (Heap.SameBut.update ..))⟩))
 exact⟨_,Heap.get?_update_self _ ho (Obj.isFreed_of_fields (Obj.data_mapFields hd _)),(Obj.cls_mapFields ..).trans hc,by
  rw[Obj.data_mapFields hd];simp[rawInt]⟩
theorem Ql {it t:Addr}{i:Nat}{items:Array Value}{Q:Value→Shared→Prop}(hh:A.handled=none)(hit:s.heap.IsTupleIter it t i)(ht:s.heap.IsTuple t items)(hx:items[i]? = none)
  (hE:∀h' e,Heap.ExtBut it s.heap h'→(∃o,h'.get? e=some o∧o.cls = .type "StopIteration")→E (.ref e) {s with heap:=h'}):wpAny (model prog w) A (Builtin.SmallTypes.nextOf (.ref it)) Q E s:=by
 obtain⟨o,ho,hc,hd⟩:=id hit
 obtain⟨ol,hol,_,nl,hdl⟩:=ht
 unfold Builtin.SmallTypes.nextOf
 refine jC (wpAny_callSpecial?_slot (name:=Str.ofString "__next__") hit.typeIs F.slot_tuple_iterator_next (wpAny_call_entry F.slot_tuple_iterator_next hit.typeIs F.entry_tuple_iterator_next ?_ (F.args_tuple_iterator_next_1 _)))
 show wpAny _ _ (field (.ref it) 0 >>= _) _ _ s
 refine jC (wpAny_field ho hd (x:=.ref t) rfl ?_)
 show wpAny _ _ (if (Value.ref t==Value.none)=true then _ else _) _ _ s
 rw[if_neg (show ¬((Value.ref t==Value.none)=true)from Bool.false_ne_true)]
 show wpAny _ _ (field (.ref it) 1 >>= _) _ _ s
 refine jC (wpAny_field ho hd (x:=.int i 0) rfl ?_)
 show wpAny _ _ (seqItems? (.ref t) >>= _) _ _ s
 refine jC (wpAny_seqItems hol hdl ?_)
 simp only[Int.toNat_natCast,hx]
 refine jC (wpAny_rule (jC (wpAny_setField ho hd (by simp) ?_)))
 show wpAny _ _ (newExc (.type "StopIteration") [] >>= _) _ _ _
 refine jC ?_
 simp only[newExc,newTuple]
 refine jC (wpAny_newObj_type ?_ (by size_fits))
 refine jC (m:=firstArgMember _ _) (wpAny_of_eq (a:=Value.none) (by first | rfl | (simp only[firstArgMember];rfl)) ?_)
 refine wpAny_newObj_type ?_ (by size_fits)
 simp only[raiseNew]
 refine jC (wpAny_handled ?_)
 first | rw[show A.in1.handled=none from hh] | rw[hh]
 refine jC (wpAny_pure (wpAny_throw ?_))
 exact hE _ _ (((Heap.SameBut.update ..).extBut.push _).push _) ⟨_,Heap.get?_push_size _ rfl,rfl⟩
theorem Xb {z TI TO i1 i2 l1 l2:Addr}{k1 k2:Nat}{xs ys:Array Value}{x y a b:Value}{Q:Value→Shared→Prop}(D:ZipApart z TI TO i1 i2 l1 l2)
  (hz:IsZip s.heap z TI TO .none) (hTI:IsPair s.heap TI (.ref i1) (.ref i2)) (hTO:IsPair s.heap TO a b)
  (h1:s.heap.IsTupleIter i1 l1 k1) (h2:s.heap.IsListIter i2 l2 k2) (hl1:s.heap.IsTuple l1 xs) (hl2:s.heap.IsList l2 ys) (hx:xs[k1]? = some x) (hy:ys[k2]? = some y)
  (hQ:∀h',IsZip h' z TI TO (rawInt s.heap.objs.size)→IsPair h' TO x y→h'.IsTupleIter i1 l1 (k1+1)→h'.IsListIter i2 l2 (k2+1)→IsPair h' s.heap.objs.size x y→h'.objs.size=s.heap.objs.size+1 →
   (∀c o,c≠z→c≠TO→c≠i1→c≠i2→s.heap.get? c=some o→h'.get? c=some o)→Q (.ref s.heap.objs.size) {s with heap:=h'}) :
  wpAny (model prog w) A (Builtin.«zip.__next__» ⟨[.ref z],[]⟩) (fun fin s'=>∃v,fin = .done (.ret v)∧Q v s') E s:=by
 show wpAny _ _ (field (.ref z) 2 >>= _) _ _ _
 refine jC (wpAny_field hz rfl (x:=.bool false) rfl ?_)
 show wpAny _ _ (field (.ref z) 3 >>= _) _ _ _
 refine jC (wpAny_field hz rfl (x:=.ref TI) rfl ?_)
 refine jC (wpAny_seqItems hTI rfl ?_)
 show wpAny _ _ (Builtin.SmallTypes.ownedTupleIsFree (.ref z) >>= _) _ _ _
 refine jC ?_
 unfold Builtin.SmallTypes.ownedTupleIsFree
 refine jC (wpAny_field hz rfl (x:=.none) rfl (wpAny_pure ?_))
 simp only[if_true]
 refine jC (wpAny_rule ?_)
 refine jC (wpAny_field hz rfl (x:=.ref TO) rfl ?_)
 refine jC (wpAny_setField_rec hz (by simp) fun h₁ hz₁ hs₁=>?_)
 replace hz₁:IsZip h₁ z TI TO .ellipsis:=hz₁
 refine jC ?_
 simp only[List.zipIdx_cons,List.zipIdx_nil,List.forIn_cons,List.forIn_nil]
 refine jC (jC (wpAny_onRaise ?_))
 show wpAny _ _ (Builtin.SmallTypes.nextOf (.ref i1) >>= _) _ _ _
 refine jC (Xg (s:={s with heap:=h₁}) (h1.extBut hs₁.extBut D.i1z) (hl1.extBut hs₁.extBut D.l1z) hx fun h₂ h1₂ hs₂=>wpAny_pure ?_)
 have hTO₂:IsPair h₂ TO a b:=hs₂.extBut _ _ D.TOi1 (hs₁.extBut _ _ D.TOz hTO)
 refine jC (wpAny_seqItems hTO₂ rfl ?_)
 refine jC (wpAny_updateSeq_pair hTO₂ fun h₃ hTO₃ hs₃=>?_)
 replace hTO₃:IsPair h₃ TO x b:=hTO₃
 refine jC (wpAny_letGo (wpAny_pure ?_))
 refine jC (jC (wpAny_onRaise ?_))
 show wpAny _ _ (Builtin.SmallTypes.nextOf (.ref i2) >>= _) _ _ _
 refine jC (wpAny_nextOf_list_item (((h2.extBut hs₁.extBut D.i2z).extBut hs₂.extBut D.i12.symm).extBut hs₃.extBut D.TOi2.symm)
  (((hl2.extBut hs₁.extBut D.l2z).extBut hs₂.extBut D.l2i1).extBut hs₃.extBut D.l2TO) hy fun h₄ h2₄ hs₄=>wpAny_pure ?_)
 have hTO₄:IsPair h₄ TO x b:=hs₄.extBut _ _ D.TOi2 hTO₃
 refine jC (wpAny_seqItems hTO₄ rfl ?_)
 refine jC (wpAny_updateSeq_pair hTO₄ fun h₅ hTO₅ hs₅=>?_)
 replace hTO₅:IsPair h₅ TO x y:=hTO₅
 refine jC (wpAny_letGo (wpAny_pure (wpAny_pure ?_)))
 refine jC (wpAny_seqItems hTO₅ rfl ?_)
 refine jC (wpAny_newTuple ?_)
 have hsz:h₅.objs.size=s.heap.objs.size:=by rw[hs₅.1,hs₄.1,hs₃.1,hs₂.1,hs₁.1]
 have hz₅:IsZip h₅ z TI TO .ellipsis:=hs₅.extBut _ _ D.TOz.symm (hs₄.extBut _ _ D.i2z.symm (hs₃.extBut _ _ D.TOz.symm (hs₂.extBut _ _ D.i1z.symm hz₁)))
 have hk₅:∀c o,c≠z→c≠TO→c≠i1→c≠i2→s.heap.get? c=some o→h₅.get? c=some o:=fun c o c1 c2 c3 c4 e=>
  hs₅.extBut _ _ c2 (hs₄.extBut _ _ c4 (hs₃.extBut _ _ c2 (hs₂.extBut _ _ c3 (hs₁.extBut _ _ c1 e))))
 have h1₅:h₅.IsTupleIter i1 l1 (k1+1):=((h1₂.extBut hs₃.extBut D.TOi1.symm).extBut hs₄.extBut D.i12).extBut hs₅.extBut D.TOi1.symm
 have h2₅:h₅.IsListIter i2 l2 (k2+1):=h2₄.extBut hs₅.extBut D.TOi2.symm
 have hzlt:z<h₅.objs.size:=Heap.lt_size hz₅
 have hTOlt:TO<h₅.objs.size:=Heap.lt_size hTO₅
 show wpAny _ _ (Builtin.SmallTypes.ownedTupleHandOut (.ref z) (.ref h₅.objs.size) >>= _) _ _ _
 refine jC ?_
 unfold Builtin.SmallTypes.ownedTupleHandOut
 have hz₆:IsZip (h₅.push {cls:=.type "tuple",data:=.seq #[x,y]}) z TI TO .ellipsis:=qK _ hz₅
 refine jC (wpAny_setField_rec hz₆ (by simp) fun h₇ hz₇ hs₇=>?_)
 replace hz₇:IsZip h₇ z TI TO (rawInt h₅.objs.size):=hz₇
 refine wpAny_setField_rec hz₇ (by simp) fun h₈ hz₈ hs₈=>?_
 replace hz₈:IsZip h₈ z TI TO (rawInt h₅.objs.size):=hz₈
 have up:∀c o,c≠z→h₅.get? c=some o→h₈.get? c=some o:=fun c o c1 e=>hs₈.extBut _ _ c1 (hs₇.extBut _ _ c1 (qK _ e))
 have hT₈:IsPair h₈ h₅.objs.size x y:=hs₈.extBut _ _ (Nat.ne_of_gt hzlt) (hs₇.extBut _ _ (Nat.ne_of_gt hzlt) (Heap.get?_push_size _ rfl))
 have hz8:h₈.objs.size=h₅.objs.size+1:=by rw[hs₈.1,hs₇.1,Heap.size_push]
 rw[hsz]at hz₈ hT₈ hz8
 refine wpAny_pure ⟨_,rfl,?_⟩
 show Q (.ref h₅.objs.size) _
 rw[hsz]
 exact hQ h₈ hz₈ (up _ _ D.TOz hTO₅) (h1₅.at fun o e=>up _ o D.i1z e) (h2₅.at fun o e=>up _ o D.i2z e) hT₈ hz8 fun c o c1 c2 c3 c4 e=>up c o c1 (hk₅ c o c1 c2 c3 c4 e)
theorem XG {z TI TO i1 i2 l1:Addr}{k1:Nat}{xs:Array Value}{Q:Fin→Shared→Prop}(hh:A.handled=none)(i1z:i1≠z)(l1z:l1≠z)
  (hz:IsZip s.heap z TI TO .none) (hTI:IsPair s.heap TI (.ref i1) (.ref i2)) (h1:s.heap.IsTupleIter i1 l1 k1) (hl1:s.heap.IsTuple l1 xs) (hx:xs[k1]? = none)
  (hE:∀h' e,(∀c o,c≠z→c≠i1→s.heap.get? c=some o→h'.get? c=some o)→(∃o,h'.get? e=some o∧o.cls = .type "StopIteration")→E (.ref e) {s with heap:=h'}) :
  wpAny (model prog w) A (Builtin.«zip.__next__» ⟨[.ref z],[]⟩) Q E s:=by
 show wpAny _ _ (field (.ref z) 2 >>= _) _ _ _
 refine jC (wpAny_field hz rfl (x:=.bool false) rfl ?_)
 show wpAny _ _ (field (.ref z) 3 >>= _) _ _ _
 refine jC (wpAny_field hz rfl (x:=.ref TI) rfl ?_)
 refine jC (wpAny_seqItems hTI rfl ?_)
 show wpAny _ _ (Builtin.SmallTypes.ownedTupleIsFree (.ref z) >>= _) _ _ _
 refine jC ?_
 unfold Builtin.SmallTypes.ownedTupleIsFree
 refine jC (wpAny_field hz rfl (x:=.none) rfl (wpAny_pure ?_))
 simp only[if_true]
 refine jC (wpAny_rule ?_)
 refine jC (wpAny_field hz rfl (x:=.ref TO) rfl ?_)
 refine jC (wpAny_setField_rec hz (by simp) fun h₁ hz₁ hs₁=>?_)
 replace hz₁:IsZip h₁ z TI TO .ellipsis:=hz₁
 refine jC ?_
 simp only[List.zipIdx_cons,List.zipIdx_nil,List.forIn_cons,List.forIn_nil]
 refine jC (jC (wpAny_onRaise ?_))
 show wpAny _ _ (Builtin.SmallTypes.nextOf (.ref i1) >>= _) _ _ _
 refine jC (Ql (s:={s with heap:=h₁}) hh (h1.extBut hs₁.extBut i1z) (hl1.extBut hs₁.extBut l1z) hx fun h₂ e hs₂ he=>?_)
 obtain⟨oe,hoe,hce⟩:=he
 have hz₂:IsZip h₂ z TI TO .ellipsis:=hs₂ _ _ (Ne.symm i1z) hz₁
 have hez:e≠z:=fun x=>by subst x;rw[hz₂]at hoe;cases hoe;simp at hce
 exact wpAny_setField_rec hz₂ (by simp) fun h₃ _ hs₃=>hE h₃ e (fun c o c1 c3 x=>hs₃.extBut _ _ c1 (hs₂ _ _ c3 (hs₁.extBut _ _ c1 x))) ⟨oe,hs₃.extBut _ _ hez hoe,hce⟩
theorem Uy {z TI TO i1 i2 l1 l2:Addr}{k1 k2:Nat}{xs ys:Array Value}{x y a b:Value}{Q:Option Value→Shared→Prop}(D:ZipApart z TI TO i1 i2 l1 l2)
  (hz:IsZip s.heap z TI TO .none) (hTI:IsPair s.heap TI (.ref i1) (.ref i2)) (hTO:IsPair s.heap TO a b)
  (h1:s.heap.IsTupleIter i1 l1 k1) (h2:s.heap.IsListIter i2 l2 k2) (hl1:s.heap.IsTuple l1 xs) (hl2:s.heap.IsList l2 ys) (hx:xs[k1]? = some x) (hy:ys[k2]? = some y)
  (hQ:∀h',IsZip h' z TI TO (rawInt s.heap.objs.size)→IsPair h' TO x y→h'.IsTupleIter i1 l1 (k1+1)→h'.IsListIter i2 l2 (k2+1)→IsPair h' s.heap.objs.size x y→h'.objs.size=s.heap.objs.size+1 →
   (∀c o,c≠z→c≠TO→c≠i1→c≠i2→s.heap.get? c=some o→h'.get? c=some o)→Q (some (.ref s.heap.objs.size)) {s with heap:=h'}) :
  wpAny (model prog w) A (pyNext (.ref z)) Q E s:=by
 have hT:s.TypeIs (.ref z) "zip" := ⟨_,hz,rfl⟩
 unfold pyNext
 exact jC (wpAny_attempt (wpAny_callSpecial?_slot (name:=Str.ofString "__next__") hT F.slot_zip_next (wpAny_call_entry F.slot_zip_next hT F.entry_zip_next
   (Xb D hz hTI hTO h1 h2 hl1 hl2 hx hy fun h' a1 a2 a3 a4 a5 a6 a7=>wpAny_pure (hQ h' a1 a2 a3 a4 a5 a6 a7)) (F.args_zip_next_1 _))))
theorem Ka {z TI TO i1 i2 l1:Addr}{k1:Nat}{xs:Array Value}{Q:Option Value→Shared→Prop}(hh:A.handled=none)(i1z:i1≠z)(l1z:l1≠z)
  (hz:IsZip s.heap z TI TO .none) (hTI:IsPair s.heap TI (.ref i1) (.ref i2)) (h1:s.heap.IsTupleIter i1 l1 k1) (hl1:s.heap.IsTuple l1 xs) (hx:xs[k1]? = none)
  (hQ:∀h',(∀c o,c≠z→c≠i1→s.heap.get? c=some o→h'.get? c=some o)→Q none {s with heap:=h'}):wpAny (model prog w) A (pyNext (.ref z)) Q E s:=by
 have hT:s.TypeIs (.ref z) "zip" := ⟨_,hz,rfl⟩
 unfold pyNext
 refine jC (wpAny_attempt (wpAny_callSpecial?_slot (name:=Str.ofString "__next__") hT F.slot_zip_next (wpAny_call_entry F.slot_zip_next hT F.entry_zip_next
  (XG hh i1z l1z hz hTI h1 hl1 hx fun h' e hk he=>?_) (F.args_zip_next_1 _))))
 obtain⟨o,ho,hc⟩:=he
 exact jC (wpAny_isInstance (T := "StopIteration") (b:=true) ⟨o,ho,hc⟩ isSubtype_stop (wpAny_pure (hQ _ hk)))
end
abbrev zH1 (h:Heap)(l1:Addr):Heap:=h.push {cls:=.type "tuple_iterator",data:=.fields #[.ref l1,.int 0 0]}
abbrev zH2 (h:Heap)(l1 l2:Addr):Heap:=(zH1 h l1).push {cls:=.type "list_iterator",data:=.fields #[.ref l2,.int 0 0]}
abbrev zH3 (h:Heap)(l1 l2:Addr):Heap:=(zH2 h l1 l2).push {cls:=.type "tuple",data:=.seq #[.ref h.objs.size,.ref (zH1 h l1).objs.size]}
abbrev zH4 (h:Heap)(l1 l2:Addr):Heap:=(zH3 h l1 l2).push {cls:=.type "tuple",data:=.seq #[.none,.none]}
abbrev zH5 (h:Heap)(l1 l2:Addr):Heap:=(zH4 h l1 l2).push {cls:=.type "zip",data:=.fields #[.none,.bool false,.bool false,.ref (zH2 h l1 l2).objs.size,.ref (zH3 h l1 l2).objs.size]}
theorem Wj (l1 l2:Addr)(xs ys:Array Value) :
  Meets (Builtin.«zip.__new__» ⟨[.type "zip",.ref l1,.ref l2],[]⟩) (fun _ R s=>s.heap.IsTuple l1 xs∧s.heap.IsList l2 ys∧R (.ok (.ret (.ref (zH4 s.heap l1 l2).objs.size))) {s with heap:=zH5 s.heap l1 l2}):=
 .of_wp fun prog w A R s h=>by
  obtain⟨hp,g,d,tk,os⟩:=s;obtain⟨hl1,hl2,h⟩:=h
  have hsub:=sub_zip
  have hL1:Heap.IsTuple (Shared.heap ⟨hp,g,d,tk,os⟩) l1 xs:=hl1
  have hL2:Heap.IsList (Shared.heap ⟨hp.push {cls:=.type "tuple_iterator",data:=.fields #[.ref l1,.int 0 0]},g,d,tk,os⟩) l2 ys:=Heap.IsList.push hl2 _
  wp_walk using wpAny_pyIter_tuple hL1,wpAny_pyIter_list hL2
  exact⟨_,rfl,h⟩
section
variable {prog:Program}{w:World}{A:Around}{E:Value→Shared→Prop}{s:Shared}
theorem Xy {l1 l2:Addr}{xs ys:Array Value}{Q:Value→Shared→Prop}(hl1:s.heap.IsTuple l1 xs)(hl2:s.heap.IsList l2 ys)
  (h:∀h',IsZip h' (s.heap.objs.size+4) (s.heap.objs.size+2) (s.heap.objs.size+3) .none→IsPair h' (s.heap.objs.size+2) (.ref s.heap.objs.size) (.ref (s.heap.objs.size+1)) →
   IsPair h' (s.heap.objs.size+3) .none .none→h'.IsTupleIter s.heap.objs.size l1 0→h'.IsListIter (s.heap.objs.size+1) l2 0→h'.objs.size=s.heap.objs.size+5 →
   (∀c o,s.heap.get? c=some o→h'.get? c=some o)→Q (.ref (s.heap.objs.size+4)) {s with heap:=h'}) :
  wpAny (model prog w) A (call (.type "zip") [.ref l1,.ref l2]) Q E s:=by
 refine callType_new F.called_zip (by decide) (F.typeCall_zip_2 _ _) (F.newCall_zip_2 _ _) (fun obj=>F.args_object_init_3 obj _ _) F.entry_zip_new (Wj l1 l2 xs ys) ⟨hl1,hl2,?_⟩
 have z1:(zH1 s.heap l1).objs.size=s.heap.objs.size+1:=Heap.size_push ..
 have z2:(zH2 s.heap l1 l2).objs.size=s.heap.objs.size+2:=by rw[Heap.size_push,z1]
 have z3:(zH3 s.heap l1 l2).objs.size=s.heap.objs.size+3:=by rw[Heap.size_push,z2]
 have z4:(zH4 s.heap l1 l2).objs.size=s.heap.objs.size+4:=by rw[Heap.size_push,z3]
 have z5:(zH5 s.heap l1 l2).objs.size=s.heap.objs.size+5:=by rw[Heap.size_push,z4]
 have g5:(zH5 s.heap l1 l2).get? (zH4 s.heap l1 l2).objs.size=some _:=Heap.get?_push_size _ rfl
 have g4:(zH5 s.heap l1 l2).get? (zH3 s.heap l1 l2).objs.size=some _:=qK _ (Heap.get?_push_size _ rfl)
 have g3:(zH5 s.heap l1 l2).get? (zH2 s.heap l1 l2).objs.size=some _:=qK _ (qK _ (Heap.get?_push_size _ rfl))
 have g2:(zH5 s.heap l1 l2).get? (zH1 s.heap l1).objs.size=some _:=qK _ (qK _ (qK _ (Heap.get?_push_size _ rfl)))
 have g1:(zH5 s.heap l1 l2).get? s.heap.objs.size=some _:=qK _ (qK _ (qK _ (qK _ (Heap.get?_push_size _ rfl))))
 show _∧_
 rw[z2,z3,z4]at g5
 rw[z1,z2]at g3
 rw[z3]at g4
 rw[z1]at g2
 rw[z4]
 exact⟨⟨_,g5,rfl⟩,h _ g5 g3 g4 ⟨_,g1,rfl,rfl⟩ ⟨_,g2,rfl,rfl⟩ z5 fun c o x=>
  qK _ (qK _ (qK _ (qK _ (qK _ x))))⟩
end
section
variable {g:Gx}{f:Fx}{m:Str→Option Value}{mu fz:List (Addr×Obj)}{D:Addr→Addr}{H:Hp}{h h':Heap}
theorem St.goneP {p:Addr→Bool}(S:St g f h m H mu fz D)(hp:∀q∈fz,p q.1=true→jN q.2=true)(hmu:∀q∈mu,p q.1=false)(hL:p f.L=false)(h0:∀a o,f.h₀.get? a=some o→p a=false)
  (hs:∀c ob,p c=false→h.get? c=some ob→h'.get? c=some ob) :
  St g f h' m H mu (fz.filter fun q=>!p q.1) D∧jP (FzR g.base fz) (FzR g.base (fz.filter fun q=>!p q.1)):=by
 have nd:=S.led.nd
 rw[qI,qY]at nd
 have le:jP (FzR g.base fz) (FzR g.base (fz.filter fun q=>!p q.1)):=fun c ob hb x=>by
  refine x.imp id fun x=>qN.mpr ⟨x,?_⟩
  cases e:p c with
  | false=>simp[e]
  | true=>rw[hp _ x e]at hb;cases hb
 have F':Fr f.h₀ f.L h' (f.mo m):=by
  obtain⟨oL,es,ep,hoL,r⟩:=S.fr.ns
  exact⟨⟨oL,es,ep,hs _ _ hL hoL,r⟩,fun c ob e=>hs _ _ (h0 _ _ e) (S.fr.keep _ _ e),S.fr.above⟩
 refine⟨⟨F',fun q hq=>?_,?_,fun c ys e=>?_,fun c C ys e=>?_,fun c d e=>?_,fun c ps e=>?_,S.led.dinj,S.led.dfree⟩,le⟩
 ·rcases qO.mp hq with hq | hq
  ·have:=S.led.news q (qB _ hq);exact⟨hs _ _ (hmu q hq) this.1,this.2⟩
  ·obtain⟨hq,e⟩:=qN.mp hq
   have:=S.led.news q (qA _ hq);exact⟨hs _ _ (by simpa using e) this.1,this.2⟩
 ·rw[qI,qY]
  refine⟨nd.1,nd.2.1.sublist ((List.filter_sublist).map _),fun x hx y hy=>nd.2.2 x hx y ?_⟩
  obtain⟨q,hq,rfl⟩:=qG.mp hy
  exact qG.mpr ⟨q,(qN.mp hq).1,rfl⟩
 ·obtain⟨ws,k,m,dd,bb⟩:=S.led.list c ys e;exact⟨ws,k,m,Dens.mono le _ _ dd,bb⟩
 ·obtain⟨ws,es,k,m,m',r,dd⟩:=S.led.inst c C ys e;exact⟨ws,es,k,m,m',r,Dens.mono le _ _ dd⟩
 ·obtain⟨ob,m,dd⟩:=S.led.dict c _ e;exact⟨ob,m,dd.mono le⟩
 ·obtain⟨ob,mm,m,no,dd⟩:=S.led.ns c ps e;exact⟨ob,mm,m,no,dd.mono le⟩
theorem St.addL:∀(L:List (Addr×Obj)) {fz:List (Addr×Obj)},St g f h m H mu fz D→(∀p∈L,h.get? p.1=some p.2∧p.1≠f.L∧f.h₀.get? p.1=none∧∀q∈mu++fz,q.1≠p.1)→(L.map (·.1)).Nodup→St g f h m H mu (L++fz) D
 | [],_,S,_,_=>S
 | p::L,fz,S,hp,nd=>by
  rw[jA,List.nodup_cons]at nd
  obtain⟨h1,h2,h3,h4⟩:=hp p (.head _)
  refine(St.addL L S (fun q hq=>hp q (.tail _ hq)) nd.2).addAt h1 (fun q hq=>?_) h2 h3
  rcases qO.mp hq with hq | hq
  ·exact h4 q (qB _ hq)
  ·rcases qO.mp hq with hq | hq
   ·exact fun z=>nd.1 (qG.mpr ⟨q,hq,z⟩)
   ·exact h4 q (qA _ hq)
end
section
variable {g:Gx}{f:Fx}{X:Ex}{ns:List Str}{σ:Lo}{H:Hp}{n:Nat}
theorem je_compZ {Q:V→Hp→Prop}{elts:List Expr}{kx:Nat}{tp:Pos}{elt:Expr}{scope:Scope}{pos:Pos}(G:g.Ok)(ok:f.Ok g n)(hb:f.bk=none)(hh:f.hd=none)(hsc:yR scope=true){zn:Str}{zp ip:Pos}{ea eb:Expr}
  (hzn:JE g f X ns (.Name zn zp) σ H (fun v H₁=>v = .typ "zip" ∧ H₁=H)) (hpl:wj [ea,eb]) (hs:∀x,foldedSetIterable (.Call (.Name zn zp) [ea,eb] [] ip) f.env x=pure x)
  (h:JEs g f X ns ip [ea,eb] σ H (fun xs H₁=>∃u v l,xs=[.tup [u],.ref l]∧H₁ l=some (.list [v]) ∧
   ∀f' a b,Fx.Ok g f' n→f'.bk=some b→f'.env.scope=scope→f'.hd=f.hd→H₁ a=none→H₁ b.C=none→a≠b.C →
    ∃ps,JTgt g f' b.C (.Tuple elts kx tp) (.tup [u,v]) ps∧JE g f' Ex.none [] elt [] ((H₁.set a (.list [])).set b.C (.ns ps)) (fun r H'=>∃H₂:Hp,H'=(H₂.set a (.list [])).set b.C (.ns ps)∧H₂ a=none∧H₂ b.C=none∧Q (.ref a) (H₂.set a (.list [r]))))) :
  JE g f X ns (.ListComp elt [⟨.Tuple elts kx tp,.Call (.Name zn zp) [ea,eb] [] ip,[],0⟩] scope pos) σ H Q:=by
 obtain⟨hfree,hcell,hnames,hkind⟩:=zP hsc
 intro s m mu fz D S lo Pq E k kE
 refine wpAny_ListComp hfree hkind hnames (Call_Name rfl (hzn s m mu fz D S lo _ E (fun v h₀ tk₀ mu₀ fz₀ D₀ H₀ x₀ S₀ le₀ d₀ q₀=>?_) kE)) hs
 obtain⟨rfl,rfl⟩:=q₀
 rw[show v = .type "zip" from d₀]
 refine ql (Pk:=fun _=>True) hpl (ur (by intro a z;cases z)) ?_
 refine h {s with heap:=h₀,toks:=tk₀} m mu₀ fz₀ D₀ S₀ (lo.mono le₀) _ E (fun vs h₁ tk₁ mu₁ fz₁ D₁ H₁ xs₁ S₁ le₁ d₁ q₁=>⟨trivial,?_⟩) (fun e s' hx=>kE e s' (X.mono le₀ hx))
 obtain⟨u,v,l,rfl,hl,turn⟩:=q₁
 obtain⟨va,r,rfl,dva,vb,r',rfl,dvb,rfl⟩:=d₁
 obtain⟨a1,vs1,c1,rfl,ho1,ds1,_⟩:=S₁.tupAt (s:={s with heap:=h₁,toks:=tk₁}) G ok dva
 obtain⟨a2,vs2,c2,_,_,rfl,ho2,ds2,_⟩:=S₁.listAt (s:={s with heap:=h₁,toks:=tk₁}) G ok dvb (.inr ⟨l,rfl,hl⟩)
 obtain⟨u',ru,rfl,du,rfl⟩:=ds1
 obtain⟨v',rv,rfl,dv,rfl⟩:=ds2
 refine Xy (s:={s with heap:=h₁,toks:=tk₁}) ⟨_,ho1,rfl,_,rfl⟩ ⟨_,ho2,rfl,_,rfl⟩ (fun h₂ hz hTI hTO hi1 hi2 hsz keep=>?_)
 dsimp only at ho1 ho2 hz hTI hTO hi1 hi2 hsz keep
 have hN:∀x,h₁.objs.size≤x→h₁.get? x=none:=fun x hx=>Heap.get?_none_of_le hx
 have frs:∀x,h₁.objs.size≤x→(∀p∈mu₁++fz₁,p.1≠x)∧x≠f.L∧f.h₀.get? x=none:=fun x hx=>S₁.fresh_of (hN x hx)
 have l1:a1<h₁.objs.size:=Heap.lt_size ho1
 have l2:a2<h₁.objs.size:=Heap.lt_size ho2
 generalize h₁.objs.size=N at *
 obtain⟨o1,g1,k1,d1⟩:=id hi1
 obtain⟨o2,g2,k2,d2⟩:=id hi2
 have DA:ZipApart (N+4) (N+2) (N+3) N (N+1) a1 a2:=zipApart_new l1 l2
 have S₂:St g f h₂ m H₁ mu₁ ([(N,o1),(N+1,o2),(N+4,_),(N+2,_)]++fz₁) D₁:=(S₁.grown keep).addL [(N,o1),(N+1,o2),(N+4,_),(N+2,_)] (fun p hp=>by
  have key:∀x ob,N≤x→h₂.get? x=some ob→(h₂.get? x=some ob∧x≠f.L∧f.h₀.get? x=none∧∀q∈mu₁++fz₁,q.1≠x):=fun x ob hx e=>⟨e,(frs x hx).2.1,(frs x hx).2.2,(frs x hx).1⟩
  rcases qL.mp hp with rfl | hp
  ·exact key _ _ (Nat.le_refl _) g1
  rcases qL.mp hp with rfl | hp
  ·exact key _ _ (Nat.le_add_right _ _) g2
  rcases qL.mp hp with rfl | hp
  ·exact key _ _ (Nat.le_add_right _ _) hz
  rw[qR.mp hp]
  exact key _ _ (Nat.le_add_right _ _) hTI) (by
   simp only[jA,List.map_nil,List.nodup_cons,qL,List.not_mem_nil,or_false,not_or,not_false_eq_true,List.nodup_nil,and_true]
   refine⟨⟨?_,?_,?_⟩,⟨?_,?_⟩,?_⟩<;>(intro z;have:(_:Nat)=_:=z;lia))
 have hi_1:jN o1=true:=by unfold jN;rw[k1];rfl
 have hi_2:jN o2=true:=by unfold jN;rw[k2];rfl
 have hF:∀q∈[(N,o1),(N+1,o2),(N+4,{cls:=.type "zip",dict:=none,data:=.fields #[.none,.bool false,.bool false,.ref (N+2),.ref (N+3)],slots:=#[]}),(N+2,{cls:=.type "tuple",data:=.seq #[.ref N,.ref (N+1)]})]++fz₁,q.1=N∨q.1=N+1∨q.1=N+3∨q.1=N+4→jN q.2=true:=fun q hq hp=>by
  rcases qO.mp hq with hq | hq
  ·rcases qL.mp hq with rfl | hq
   ·exact hi_1
   rcases qL.mp hq with rfl | hq
   ·exact hi_2
   rcases qL.mp hq with rfl | hq
   ·rfl
   rw[qR.mp hq]at hp
   rcases hp with z | z | z | z<;>(exfalso;have z:N+2=_:=z;lia)
  ·have:=fun x hx=>(frs x hx).1 q (qA _ hq)
   rcases hp with z | z | z | z<;>exact absurd z (this _ (by lia))
 generalize hFZ:[(N,o1),(N+1,o2),(N+4,{cls:=.type "zip",dict:=none,data:=.fields #[.none,.bool false,.bool false,.ref (N+2),.ref (N+3)],slots:=#[]}),(N+2,{cls:=.type "tuple",data:=.seq #[.ref N,.ref (N+1)]})]++fz₁=F2 at S₂ hF
 have hm1:(N,o1)∈F2:=by rw[← hFZ];exact .head _
 have hmz:(N+4,({cls:=.type "zip",dict:=none,data:=.fields #[.none,.bool false,.bool false,.ref (N+2),.ref (N+3)],slots:=#[]}:Obj))∈F2:=by rw[← hFZ];exact .tail _ (.tail _ (.head _))
 have hmT:(N+2,({cls:=.type "tuple",data:=.seq #[.ref N,.ref (N+1)]}:Obj))∈F2:=by rw[← hFZ];exact .tail _ (.tail _ (.tail _ (.head _)))
 have sub2:∀p∈fz₁,p∈F2:=fun p hp=>by rw[← hFZ];exact qA _ hp
 have hTOn:∀q∈F2,q.1≠N+3:=fun q hq=>by
  rw[← hFZ]at hq
  rcases qO.mp hq with hq | hq
  ·rcases qL.mp hq with rfl | hq
   ·intro z;have z:N=_:=z;lia
   rcases qL.mp hq with rfl | hq
   ·intro z;have z:N+1=_:=z;lia
   rcases qL.mp hq with rfl | hq
   ·intro z;have z:N+4=_:=z;lia
   rw[qR.mp hq]
   intro z;have z:N+2=_:=z;lia
  ·exact(frs (N+3) (by lia)).1 q (qA _ hq)
 refine wpAny_pyIter_zip hz ?_
 simp only[newList]
 refine wpAny_newObj_type (wpAny_newFunctionEnv hcell (by intro y hy;simp at hy) (fun h₃ hns₃ hsb₃=>?_) hkind)
 dsimp only at hns₃ hsb₃ ⊢
 have n12:N+5≠N+6:=Nat.ne_of_lt (Nat.lt_succ_self _)
 have n21:N+6≠N+5:=n12.symm
 have hacc:H₁ (N+5)=none:=by rw[← hsz];exact S₂.led.fresh (jr (s:={s with heap:=h₂}) (m:=m) S₂.led.news)
 have S₃:St g f (h₂.push (jF [] 0)) m (H₁.set (N+5) (.list [])) ((N+5,jF [] 0)::mu₁) F2 D₁:=by
  rw[← hsz]
  exact⟨S₂.fr.push _,S₂.led.push_list (xs:=[]) (jr (s:={s with heap:=h₂}) (m:=m) S₂.led.news) (S₂.led.news.push S₂.fr _) rfl (by simp)⟩
 have z2:(h₂.push (jF [] 0)).objs.size=N+6:=by rw[Heap.size_push,hsz]
 have hsb₂:Heap.SameBut (N+6) ((h₂.push (jF [] 0)).push {cls:=.type "dict",data:=.dict #[]}) h₃:=by rw[← z2];exact hsb₃
 have hns₂:h₃.Ns (N+6) (fun x=>([]:List (Str×Value)).reverse.lookup x):=by rw[← z2];exact hns₃
 have old:∀b ob,(h₂.push (jF [] 0)).get? b=some ob→h₃.get? b=some ob:=fun b ob e=>by
  rw[hsb₂.2 b (by have:=Heap.lt_size e;rw[z2]at this;exact Nat.ne_of_lt this)]
  exact qK _ e
 obtain⟨oC,esC,epC,hoC,n1,n2,n3⟩:=hns₂
 have hC:H₁ (N+6)=none:=by
  have:=S₃.led.fresh (jr (s:={s with heap:=h₂.push (jF [] 0)}) (m:=m) S₃.led.news)
  rw[z2,zN _ _ n21]at this;exact this
 have S₄:St g {f with bk:=some ⟨scope,N+6,m⟩} h₃ m ((H₁.set (N+5) (.list [])).set (N+6) (.ns [])) ((N+6,oC)::(N+5,jF [] 0)::mu₁) F2 D₁:=by
  have F4:Fr f.h₀ f.L h₃ m:=by rw[← Fx.mo_none hb m];exact S₃.fr.keeps old
  have N4:News f.h₀ f.L h₃ ((N+6,oC)::(((N+5,jF [] 0)::mu₁)++F2)):=Ja S₃.fr S₃.led.news old hoC (by rw[z2];exact Nat.le_refl _)
  exact⟨F4,S₃.led.push_ns (a:=N+6) (ps:=[]) (by rw[← z2];exact jr (s:={s with heap:=h₂.push (jF [] 0)}) (m:=m) S₃.led.news) N4 ⟨esC,epC,n1,n2,n3⟩ (fun x v e=>by cases e)⟩
 have olds:∀b ob,h₂.get? b=some ob→h₃.get? b=some ob:=fun b ob e=>old b ob (qK _ e)
 have ok':({f with bk:=some ⟨scope,N+6,m⟩}:Fx).Ok g n:=⟨ok.below,ok.kind0,hkind,ok.dp,ok.un⟩
 have e1:(h₂.push {cls:=.type "list",dict:=none,data:=.seq ([]:List Value).toArray}).objs.size=N+6:=z2
 have henv:({f with bk:=some ⟨scope,N+6,m⟩}:Fx).env={newEnv scope (N+6) f.env.globals [] f.env.qual none .none (some f.env) builtinsNs with scope:=scope}:=by
  unfold Fx.env;rw[hb];rfl
 generalize hf':({f with bk:=some ⟨scope,N+6,m⟩}:Fx)=f' at *
 have hf'A:f'.A=f.A:=by rw[← hf']
 have hf'C:f'.bk=some ⟨scope,N+6,m⟩:=by rw[← hf']
 have hsc':f'.env.scope=scope:=by unfold Fx.env;rw[hf'C];rfl
 have hhd':f'.hd=f.hd:=by rw[← hf']
 have hL':f'.L=f.L:=by rw[← hf']
 have hh':f'.h₀=f.h₀:=by rw[← hf']
 obtain⟨ps,tgt,je⟩:=turn f' (N+5) ⟨scope,N+6,m⟩ ok' hf'C hsc' hhd' hacc hC n12
 simp only[hsz,e1]
 rw[← henv]
 refine(fun loop=>codeAny_compStart_list loop (wpAny_pyIter_zip (olds _ _ hz) loop)) ?_
 have lo':∀fz',(∀p∈fz₁,p∈fz')→Locs g f' fz' [] [] m:=fun fz' le=>by
  have l:=(lo.mono (ja le₀ le₁)).mono le
  rw[← hf']
  exact⟨fun i x hx=>by simp at hx,l.exc,l.hdl⟩
 have frs':∀x,N≤x→f'.h₀.get? x=none∧x≠f'.L:=fun x hx=>by rw[hL',hh'];exact⟨(frs x hx).2.2,(frs x hx).2.1⟩
 refine uZ (fun j s₁=>(j=1∧s₁={s with heap:=h₃,toks:=tk₁+([]:List (Str×Value)).length})∨(j=0∧∃(h:Heap) (tk:Nat) (mu₂ fz₂:List (Addr×Obj)) (D₂:Addr→Addr) (H₂:Hp) (xr:V) (o1':Obj),s₁={s with heap:=h,toks:=tk}∧St g f' h m ((H₂.set (N+5) (.list [xr])).set (N+6) (.ns ps)) mu₂ fz₂ D₂∧(∀p∈fz₁,p∈fz₂) ∧
  (N+4,({cls:=.type "zip",dict:=none,data:=.fields #[.none,.bool false,.bool false,.ref (N+2),.ref (N+3)],slots:=#[]}:Obj))∈fz₂∧(N+2,({cls:=.type "tuple",data:=.seq #[.ref N,.ref (N+1)]}:Obj))∈fz₂∧(N,o1')∈fz₂∧o1'.cls = .type "tuple_iterator" ∧ o1'.data = .fields #[.ref a1,.int (1:Nat) 0] ∧
  Q (.ref (N+5)) (H₂.set (N+5) (.list [xr]))∧(H₂.set (N+5) (.list [xr])) (N+6)=none)) (fun j s₁ hI=>?_) 1 (.inl ⟨rfl,rfl⟩)
 rw[← hf'A]
 rcases hI with⟨rfl,rfl⟩ | ⟨rfl,h₄,tk₄,mu₄,fz₄,D₄,H₄,xr,o1',rfl,S₅,sub₅,mz,mT,m1,c1',d1',q,hc⟩
 ·refine Uy (s:={s with heap:=h₃,toks:=_}) DA (olds _ _ hz) (olds _ _ hTI) (olds _ _ hTO) (hi1.at fun o e=>olds _ _ e) (hi2.at fun o e=>olds _ _ e) ⟨_,olds _ _ (keep _ _ ho1),rfl,_,rfl⟩ ⟨_,olds _ _ (keep _ _ ho2),rfl,_,rfl⟩ (x:=u') (y:=v') rfl rfl (fun h₄ hz₄ hTO₄ i1₄ i2₄ hT₄ hsz₄ keep₄=>?_)
  refine wpAny_letOwnedTupleGo_zip hz₄ fun h₅ hz₅ hs₅=>?_
  dsimp only at hz₄ hT₄ hsz₄ keep₄ hs₅
  have hTn:h₃.get? h₃.objs.size=none:=Heap.get?_none_of_le (Nat.le_refl _)
  obtain⟨t1,t2,t3⟩:=S₄.fresh_of hTn
  obtain⟨o1',g1',k1',d1'⟩:=i1₄.extBut hs₅.extBut DA.i1z
  let p:Addr→Bool:=fun x=>decide (x=N∨x=N+1∨x=N+3∨x=N+4)
  have pN:∀x,p x=true↔(x=N∨x=N+1∨x=N+3∨x=N+4):=fun x=>decide_eq_true_iff
  have pF:∀x,¬(x=N∨x=N+1∨x=N+3∨x=N+4)→p x=false:=fun x hx=>decide_eq_false hx
  have pge:∀x,p x=true→N≤x:=fun x hx=>by
   rcases(pN x).mp hx with rfl | rfl | rfl | rfl
   ·exact Nat.le_refl _
   ·exact Nat.le_add_right _ _
   ·exact Nat.le_add_right _ _
   ·exact Nat.le_add_right _ _
  have pnew:∀x,(N≤x→False)→p x=false:=fun x hx=>by
   cases e:p x with
   | false=>rfl
   | true=>exact(hx (pge x e)).elim
  have hmu4:∀q∈(N+6,oC)::(N+5,jF [] 0)::mu₁,p q.1=false:=fun q hq=>by
   rcases qL.mp hq with rfl | hq
   ·exact pF _ (by rintro(z | z | z | z)<;>(have z:N+6=_:=z;lia))
   rcases qL.mp hq with rfl | hq
   ·exact pF _ (by rintro(z | z | z | z)<;>(have z:N+5=_:=z;lia))
   ·exact pnew _ fun w=>(frs q.1 w).1 q (qB _ hq) rfl
  obtain⟨S₅,le₅⟩:=S₄.goneP (h':=h₅) (p:=p) (fun q hq e=>hF q hq ((pN _).mp e)) hmu4 (pnew _ fun w=>(frs' _ w).2 rfl)
   (fun a o e=>pnew _ fun w=>by rw[(frs' _ w).1]at e;cases e)
   (fun c ob e g=>by
    have hne:∀x,p x=true→c≠x:=fun x hx z=>by rw[z,hx]at e;cases e
    exact hs₅.extBut _ _ (hne _ ((pN _).mpr (.inr (.inr (.inr rfl))))) (keep₄ _ _ (hne _ ((pN _).mpr (.inr (.inr (.inr rfl))))) (hne _ ((pN _).mpr (.inr (.inr (.inl rfl))))) (hne _ ((pN _).mpr (.inl rfl))) (hne _ ((pN _).mpr (.inr (.inl rfl)))) g))
  have hTN:N+6<h₃.objs.size:=Heap.lt_size hoC
  generalize hT:h₃.objs.size=T at *
  have hT4:T≠N+4:=fun z=>by
   have w:(N+6:Nat)<N+4:=by rw[← z];exact hTN
   exact absurd w (by lia)
  have hT₅:h₅.get? T=some (tupO [u',v'] 0):=hs₅.extBut _ _ hT4 hT₄
  have S₆:=S₅.addL [(T,tupO [u',v'] 0),(N+4,({cls:=.type "zip",dict:=none,data:=.fields #[.none,.bool false,.bool false,.ref (N+2),.ref (N+3)],slots:=#[]}:Obj)),(N,o1')] (fun q hq=>by
   rcases qL.mp hq with rfl | hq
   ·exact⟨hT₅,t2,t3,fun q hq=>by
     rcases qO.mp hq with hq | hq
     ·exact t1 q (qB _ hq)
     ·exact t1 q (qA _ (qN.mp hq).1)⟩
   have off:∀x,p x=true→∀q∈((N+6,oC)::(N+5,jF [] 0)::mu₁)++F2.filter (fun q=>!p q.1),q.1≠x:=fun x hx q hq z=>by
    rcases qO.mp hq with hq | hq
    ·have:=hmu4 q hq;rw[z,hx]at this;cases this
    ·have:=(qN.mp hq).2;rw[z,hx]at this;cases this
   rcases qL.mp hq with rfl | hq
   ·exact⟨hz₅,(frs' _ (by lia)).2,(frs' _ (by lia)).1,off _ ((pN _).mpr (.inr (.inr (.inr rfl))))⟩
   rw[qR.mp hq]
   exact⟨g1',(frs' _ (Nat.le_refl _)).2,(frs' _ (Nat.le_refl _)).1,off _ ((pN _).mpr (.inl rfl))⟩) (by
   simp only[jA,List.map_nil,List.nodup_cons,qL,List.not_mem_nil,or_false,not_or,not_false_eq_true,List.nodup_nil,and_true]
   refine⟨⟨?_,?_⟩,?_⟩<;>(intro z;have z:(_:Nat)=_:=z;lia))
  have sub₆:∀q∈fz₁,q∈[(T,tupO [u',v'] 0),(N+4,({cls:=.type "zip",dict:=none,data:=.fields #[.none,.bool false,.bool false,.ref (N+2),.ref (N+3)],slots:=#[]}:Obj)),(N,o1')]++F2.filter (fun q=>!p q.1):=fun q hq=>qA _ (qN.mpr ⟨sub2 q hq,by
   rw[pnew _ fun w=>(frs q.1 w).1 q (qA _ hq) rfl];rfl⟩)
  have mz₆:(N+4,({cls:=.type "zip",dict:=none,data:=.fields #[.none,.bool false,.bool false,.ref (N+2),.ref (N+3)],slots:=#[]}:Obj))∈[(T,tupO [u',v'] 0),(N+4,({cls:=.type "zip",dict:=none,data:=.fields #[.none,.bool false,.bool false,.ref (N+2),.ref (N+3)],slots:=#[]}:Obj)),(N,o1')]++F2.filter (fun q=>!p q.1):=qB _ (.tail _ (.head _))
  have m1₆:(N,o1')∈[(T,tupO [u',v'] 0),(N+4,({cls:=.type "zip",dict:=none,data:=.fields #[.none,.bool false,.bool false,.ref (N+2),.ref (N+3)],slots:=#[]}:Obj)),(N,o1')]++F2.filter (fun q=>!p q.1):=qB _ (.tail _ (.tail _ (.head _)))
  have mT₆:(N+2,({cls:=.type "tuple",data:=.seq #[.ref N,.ref (N+1)]}:Obj))∈[(T,tupO [u',v'] 0),(N+4,({cls:=.type "zip",dict:=none,data:=.fields #[.none,.bool false,.bool false,.ref (N+2),.ref (N+3)],slots:=#[]}:Obj)),(N,o1')]++F2.filter (fun q=>!p q.1):=
   qA _ (qN.mpr ⟨hmT,by rw[pF (N+2) (by rintro(z | z | z | z)<;>(have z:N+2=_:=z;lia))];rfl⟩)
  have dT:DenG g ([(T,tupO [u',v'] 0),(N+4,({cls:=.type "zip",dict:=none,data:=.fields #[.none,.bool false,.bool false,.ref (N+2),.ref (N+3)],slots:=#[]}:Obj)),(N,o1')]++F2.filter (fun q=>!p q.1)) (.tup [u,v]) (.ref T):=
   ⟨_,[u',v'],0,rfl,.inr (.head _),⟨_,_,rfl,Den.mono (FzR.le sub₆) _ _ du,_,_,rfl,Den.mono (FzR.le sub₆) _ _ dv,rfl⟩,by simp⟩
  generalize hF6:[(T,tupO [u',v'] 0),(N+4,({cls:=.type "zip",dict:=none,data:=.fields #[.none,.bool false,.bool false,.ref (N+2),.ref (N+3)],slots:=#[]}:Obj)),(N,o1')]++F2.filter (fun q=>!p q.1)=F6 at *
  refine tgt {s with heap:=h₅,toks:=_} m _ _ F6 D₁ (.ref T) [] S₆ (zS ..) dT _ _ (fun h₆ tk₆ mu₆ D₆ S₇ hmu=>?_)
  rw[Hp.set_set]at S₇
  refine je {s with heap:=h₆,toks:=tk₆} m mu₆ F6 D₆ S₇ (lo' _ sub₆) _ _ (fun r h₇ tk₇ mu₇ fz₇ D₇ H₇ xr S₈ le₇ d₇ q₇=>?_) (fun e s' hx=>hx.elim)
  obtain⟨H₂,rfl,ha₂,hc₂,q⟩:=q₇
  refine yA (g:=g) (f:=f') (X:=Ex.none) (xs:=[]) (y:=xr) (a:=N+5) (Q:=fun _ H'=>H'=(H₂.set (N+5) (.list [xr])).set (N+6) (.ns ps)) (by rw[zN _ _ n12,zS]) (by simp) (by rw[Hp.set_comm _ _ n21,Hp.set_set];rfl)
   {s with heap:=h₇,toks:=tk₇} m mu₇ fz₇ D₇ [.ref (N+5),r] S₈ ⟨_,_,rfl,rfl,_,_,rfl,d₇,rfl⟩ _ _ (fun v₈ h₈ tk₈ mu₈ fz₈ D₈ H₈ x₈ S₉ le₈ d₈ q₈=>?_) (fun e s' hx=>hx.elim)
  subst q₈
  exact⟨0,by lia,.inr ⟨rfl,h₈,tk₈,mu₈,fz₈,D₈,H₂,xr,o1',rfl,S₉,fun q hq=>le₈ _ (le₇ _ (sub₆ q hq)),le₈ _ (le₇ _ mz₆),le₈ _ (le₇ _ mT₆),le₈ _ (le₇ _ m1₆),k1',d1',q,by rw[zN _ _ n21];exact hc₂⟩⟩
 ·obtain⟨a1',vs1',c1'',e1',ho1',ds1',_⟩:=S₅.tupAt (s:={s with heap:=h₄,toks:=tk₄}) G ok' (Den.mono (FzR.le sub₅) _ _ dva)
  cases e1'
  obtain⟨u'',ru'',rfl,_,rfl⟩:=ds1'
  refine Ka (s:={s with heap:=h₄,toks:=tk₄}) (i1:=N) (l1:=a1) (TI:=N+2) (TO:=N+3) (i2:=N+1) (k1:=1) (xs:=#[u'']) (by rw[hf'A];exact hh) DA.i1z DA.l1z (S₅.led.news _ (qA _ mz)).1 (S₅.led.news _ (qA _ mT)).1 ⟨o1',(S₅.led.news _ (qA _ m1)).1,c1',d1'⟩ ⟨_,ho1',rfl,_,rfl⟩ rfl (fun h₅ keep₅=>?_)
  have nz:=S₅.led.news _ (qA _ mz)
  have nn:=S₅.led.news _ (qA _ m1)
  obtain⟨S₆,le₆⟩:=S₅.gone2 mz rfl m1 (by unfold jN;rw[c1'];rfl) (h':=h₅) keep₅
  have hmo:f'.mo m=m:=by unfold Fx.mo;rw[hf'C]
  have F₆:=S₆.fr
  rw[hmo,hh',hL']at F₆
  have l₆:Led g.cf g.base f'.h₀ f'.L h₅ ((H₄.set (N+5) (.list [xr])).set (N+6) (.ns ps)) mu₄ _ D₄:=S₆.led
  rw[hh',hL']at l₆
  obtain⟨oc,mm,hmc,no,_⟩:=l₆.ns _ _ (zS ..)
  have zc:=l₆.news _ (qB _ hmc)
  refine⟨mm,no.at_ zc.1,fun h₆ hs₆=>?_⟩
  have l7:=l₆.lose (zS ..) hs₆
  rw[Hp.del_set _ hc]at l7
  have F3:Fr f.h₀ f.L h₅ (f.mo m):=by rw[Fx.mo_none hb];exact F₆
  exact k (.ref (N+5)) h₆ tk₄ _ _ D₄ _ (.ref (N+5)) ⟨F3.change hs₆ zc.2.1 zc.2.2,l7⟩ (ja (ja le₀ le₁) fun q hq=>qN.mpr ⟨sub₅ q hq,by
   rw[qM]
   exact⟨decide_eq_true ((frs _ (by lia)).1 q (qA _ hq)),decide_eq_true ((frs _ (Nat.le_refl _)).1 q (qA _ hq))⟩⟩) rfl q
end
mutual
inductive V.Fr (a:Addr)(w:V):V→V→Prop
 | refl (x:V):V.Fr a w x x
 | put:V.Fr a w (.ref a) w
 | tup {xs ys:List V}:V.Frs a w xs ys→V.Fr a w (.tup xs) (.tup ys)
 | lst {xs ys:List V}:V.Frs a w xs ys→V.Fr a w (.lst xs) (.lst ys)
 | obj {C:Addr} {xs ys:List V}:V.Frs a w xs ys→V.Fr a w (.obj C xs) (.obj C ys)
inductive V.Frs (a:Addr)(w:V):List V→List V→Prop
 | nil:V.Frs a w [] []
 | cons {x y:V} {xs ys:List V}:V.Fr a w x y→V.Frs a w xs ys→V.Frs a w (x::xs) (y::ys)
end
section
variable {P:Cf}{R:Rig}{a:Addr}{w:V}
theorem V.Frs.refl:∀xs:List V,V.Frs a w xs xs
 | []=>.nil
 | x::xs=>.cons (.refl x) (V.Frs.refl xs)
theorem V.Frs.append {xs ys:List V}:∀{us vs:List V},V.Frs a w us vs→V.Frs a w xs ys→V.Frs a w (us++xs) (vs++ys)
 | [],_,.nil,h=>h
 | _::_,_,.cons h hs,h'=>.cons h (V.Frs.append hs h')
theorem V.Frs.length:∀{xs ys:List V},V.Frs a w xs ys→ys.length=xs.length
 | [],_,.nil=>rfl
 | _::_,_,.cons _ h=>by rw[qE,qE,V.Frs.length h]
mutual
theorem V.Fr.den (hw:Den P R w (.ref a)):∀{x y:V} (v:Value),V.Fr a w x y→Den P R x v→Den P R y v
 | _,_,v,.refl _,d=>d
 | _,_,v,.put,d=>by rw[show v = .ref a from d];exact hw
 | _,_,v,.tup h,d=>by
  obtain⟨b,vs,n,e,r,d,l⟩:=d
  exact⟨b,vs,n,e,r,V.Frs.dens hw h d,by rw[h.length];exact l⟩
 | _,_,v,.lst h,d=>by
  obtain⟨b,vs,n,dd,sl,e,r,d,l⟩:=d
  exact⟨b,vs,n,dd,sl,e,r,V.Frs.dens hw h d,by rw[h.length];exact l⟩
 | _,_,v,.obj h,d=>by
  obtain⟨b,dx,vs,es,n,e,r,r',q,d⟩:=d
  exact⟨b,dx,vs,es,n,e,r,r',q,V.Frs.dens hw h d⟩
theorem V.Frs.dens (hw:Den P R w (.ref a)):∀{xs ys:List V} {vs:List Value},V.Frs a w xs ys→Dens P R xs vs→Dens P R ys vs
 | _,_,_,.nil,d=>d
 | _,_,_,.cons h hs,d=>by
  obtain⟨v,r,e,d,ds⟩:=d
  exact⟨v,r,e,V.Fr.den hw v h d,V.Frs.dens hw hs ds⟩
end
end
inductive AO.Fr (a:Addr)(w:V):AO→AO→Prop
 | refl (o:AO):AO.Fr a w o o
 | list {xs ys:List V}:V.Frs a w xs ys→AO.Fr a w (.list xs) (.list ys)
 | inst {C:Addr} {xs ys:List V}:V.Frs a w xs ys→AO.Fr a w (.inst C xs) (.inst C ys)
 | dictS {xs ys:List (String×V)}:xs.map (·.1)=ys.map (·.1)→V.Frs a w (xs.map (·.2)) (ys.map (·.2))→AO.Fr a w (.dict (.s xs)) (.dict (.s ys))
 | dictI {xs ys:List (Int×V)}:xs.map (·.1)=ys.map (·.1)→V.Frs a w (xs.map (·.2)) (ys.map (·.2))→AO.Fr a w (.dict (.i xs)) (.dict (.i ys))
section
variable {P:Cf}{base h₀ h:Heap}{L a:Addr}{H H':Hp}{mu fz:List (Addr×Obj)}{D:Addr→Addr}
theorem yT {α:Type}(p:α→Bool):∀l:List α,(l.filter (fun x=>!p x)++l.filter p).Perm l
 | []=>.refl _
 | x::l=>by
  cases h:p x with
  | true=>rw[List.filter_cons_of_neg (by simp[h]),List.filter_cons_of_pos h];exact List.perm_middle.trans (.cons _ (yT p l))
  | false=>rw[List.filter_cons_of_pos (by simp[h]),List.filter_cons_of_neg (by simp[h])];exact .cons _ (yT p l)
theorem Led.frz (l:Led P base h₀ L h H mu fz D)(p:Addr→Bool)(hs:H'.Sub H)(hp:∀b o,H' b=some o→p b=false∧∀C xs,o = .inst C xs→p (D b)=false) :
  Led P base h₀ L h H' (mu.filter fun q=>!p q.1) (mu.filter (fun q=>p q.1)++fz) D:=by
 have le:jP (FzR base fz) (FzR base (mu.filter (fun q=>p q.1)++fz)):=FzR.le fun _ h=>qA _ h
 have key:∀{b ob},p b=false→(b,ob)∈mu→(b,ob)∈mu.filter fun q=>!p q.1:=fun {b ob} hb h=>qN.mpr ⟨h,by simp[hb]⟩
 refine⟨QI l.news fun q hq=>?_,?_,fun b ys e=>?_,fun b C ys e=>?_,fun b d e=>?_,fun b ps e=>?_,fun b c C ys C' ys' e e' q=>?_,fun b C ys e=>?_⟩
 ·simp only[qO,qN]at hq ⊢
  rcases hq with h | h | h
  ·exact .inl h.1
  ·exact .inl h.1
  ·exact .inr h
 ·have:((mu.filter fun q=>!p q.1)++(mu.filter (fun q=>p q.1)++fz)).Perm (mu++fz):=by rw[← List.append_assoc];exact(yT (fun q:Addr×Obj=>p q.1) mu).append_right fz
  exact(this.map (·.1)).nodup_iff.mpr l.nd
 ·obtain⟨ws,k,m,d',bb⟩:=l.list b ys (hs _ _ e);exact⟨ws,k,key (hp _ _ e).1 m,Dens.mono le _ _ d',bb⟩
 ·obtain⟨ws,es,k,m,m',r,d'⟩:=l.inst b C ys (hs _ _ e)
  exact⟨ws,es,k,key (hp _ _ e).1 m,key ((hp _ _ e).2 _ _ rfl) m',r,Dens.mono le _ _ d'⟩
 ·obtain⟨ob,m,d'⟩:=l.dict b _ (hs _ _ e);exact⟨ob,key (hp _ _ e).1 m,d'.mono le⟩
 ·obtain⟨ob,mm,m,no,d'⟩:=l.ns b ps (hs _ _ e);exact⟨ob,mm,key (hp _ _ e).1 m,no,d'.mono le⟩
 ·exact l.dinj _ _ _ _ _ _ (hs _ _ e) (hs _ _ e') q
 ·have:=l.dfree _ _ _ (hs _ _ e)
  cases z:H' (D b) with
  | none=>rfl
  | some o=>rw[hs _ _ z]at this;cases this
theorem Led.told {w:V}(l:Led P base h₀ L h H mu fz D)(hw:Den P (FzR base fz) w (.ref a))(ht:∀b o',H' b=some o'→∃o,H b=some o∧AO.Fr a w o o'):Led P base h₀ L h H' mu fz D:=by
 refine⟨l.news,l.nd,fun b ys e=>?_,fun b C ys e=>?_,fun b d e=>?_,fun b ps e=>?_,fun b c C ys C' ys' e e' q=>?_,fun b C ys e=>?_⟩
 ·obtain⟨o,e',r⟩:=ht _ _ e
  cases r with
  | refl _=>exact l.list b ys e'
  | list hf=>obtain⟨ws,k,m,d',bb⟩:=l.list b _ e';exact⟨ws,k,m,hf.dens hw d',by rw[hf.length];exact bb⟩
 ·obtain⟨o,e',r⟩:=ht _ _ e
  cases r with
  | refl _=>exact l.inst b C ys e'
  | inst hf=>obtain⟨ws,es,k,m,m',r,d'⟩:=l.inst b C _ e';exact⟨ws,es,k,m,m',r,hf.dens hw d'⟩
 ·obtain⟨o,e',r⟩:=ht _ _ e
  cases r with
  | refl _=>exact l.dict b d e'
  | dictS hk hf=>
   obtain⟨ob,m,z,vs,dd,i,n⟩:=l.dict b _ e'
   refine⟨ob,m,z,vs,?_,?_,?_⟩
   ·have h1:∀l:List (String×V),(strK l).map (·.2)=l.map (·.2):=fun l=>by unfold strK;rw[List.map_map];rfl
    rw[h1]at dd ⊢;exact hf.dens hw dd
   ·have h1:∀l:List (String×V),(strK l).map (·.1)=(l.map (·.1)).map Str.ofString:=fun l=>by unfold strK;rw[List.map_map,List.map_map];rfl
    rw[h1,hk]at i;rw[h1];exact i
   ·have:=congrArg List.length hk
    simp only[qD]at this
    simp only[strK,qD]at n ⊢
    lia
  | dictI hk hf=>
   obtain⟨ob,m,z,vs,dd,i,n⟩:=l.dict b _ e'
   refine⟨ob,m,z,vs,hf.dens hw dd,by rw[← hk];exact i,?_⟩
   have:=congrArg List.length hk
   simp only[qD]at this
   lia
 ·obtain⟨o,e',r⟩:=ht _ _ e
  cases r with
  | refl _=>exact l.ns b ps e'
 ·have get:∀{b C ys},H' b=some (.inst C ys)→∃C xs,H b=some (.inst C xs):=fun {b C ys} e=>by
   obtain⟨o,e',r⟩:=ht _ _ e
   cases r with
   | refl _=>exact⟨_,_,e'⟩
   | inst _=>exact⟨_,_,e'⟩
  obtain⟨_,_,h1⟩:=get e
  obtain⟨_,_,h2⟩:=get e'
  exact l.dinj _ _ _ _ _ _ h1 h2 q
 ·have:∃C xs,H b=some (.inst C xs):=by
   obtain⟨o,e',r⟩:=ht _ _ e
   cases r with
   | refl _=>exact⟨_,_,e'⟩
   | inst _=>exact⟨_,_,e'⟩
  obtain⟨C',xs,e'⟩:=this
  have:=l.dfree _ _ _ e'
  cases z:H' (D b) with
  | none=>rfl
  | some o=>obtain⟨o',e',_⟩:=ht _ _ z;rw[this]at e';cases e'
theorem Led.frzL (l:Led P base h₀ L h H mu fz D){xs:List V}(e0:H a=some (.list xs))(ht:∀b o',H' b=some o'→b≠a∧∃o,H b=some o∧AO.Fr a (.lst xs) o o'):∃mu' fz',(∀p∈fz,p∈fz')∧Led P base h₀ L h H' mu' fz' D:=by
 obtain⟨vs,n,hm,dd,bb⟩:=l.list a xs e0
 have l1:=l.frz (H':=H.del a) (fun b=>decide (b=a)) (Hp.del_sub H a) (fun b o e=>by
  unfold Hp.del at e
  split at e
  ·cases e
  ·rename_i q
   refine⟨by simpa using q,fun C ys z=>?_⟩
   subst z
   have:=l.dfree _ _ _ e
   simp only[decide_eq_false_iff_not]
   intro z;rw[z,e0]at this;cases this)
 refine⟨_,_,fun p h=>qA _ h,l1.told (a:=a) (w:=.lst xs) ⟨a,vs,n,_,_,rfl,.inr (qB _ (qN.mpr ⟨hm,by simp⟩)),Dens.mono (FzR.le fun _ h=>qA _ h) _ _ dd,bb⟩ fun b o' e=>?_⟩
 obtain⟨q,o,e',r⟩:=ht b o' e
 exact⟨o,by unfold Hp.del;rw[if_neg q];exact e',r⟩
theorem Led.frzO (l:Led P base h₀ L h H mu fz D){C:Addr}{xs:List V}(e0:H a=some (.inst C xs))(ht:∀b o',H' b=some o'→b≠a∧∃o,H b=some o∧AO.Fr a (.obj C xs) o o'):∃mu' fz',(∀p∈fz,p∈fz')∧Led P base h₀ L h H' mu' fz' D:=by
 obtain⟨vs,es,n,hm,hm',en,dd⟩:=l.inst a C xs e0
 have hDa:=l.dfree _ _ _ e0
 have l1:=l.frz (H':=H.del a) (fun b=>decide (b=a)||decide (b=D a)) (Hp.del_sub H a) (fun b o e=>by
  unfold Hp.del at e
  split at e
  ·cases e
  ·rename_i q
   refine⟨?_,fun C ys z=>?_⟩
   ·simp only[Bool.or_eq_false_iff,decide_eq_false_iff_not]
    exact⟨q,fun z=>by rw[z,hDa]at e;cases e⟩
   subst z
   have h1:=l.dfree _ _ _ e
   simp only[Bool.or_eq_false_iff,decide_eq_false_iff_not]
   exact⟨(fun z=>by rw[z,e0]at h1;cases h1),fun z=>q (l.dinj _ _ _ _ _ _ e e0 z)⟩)
 refine⟨_,_,fun p h=>qA _ h,l1.told (a:=a) (w:=.obj C xs) ⟨a,D a,vs,es,n,rfl,.inr (qB _ (qN.mpr ⟨hm,by simp⟩)),.inr (qB _ (qN.mpr ⟨hm',by simp⟩)),en,Dens.mono (FzR.le fun _ h=>qA _ h) _ _ dd⟩ fun b o' e=>?_⟩
 obtain⟨q,o,e',r⟩:=ht b o' e
 exact⟨o,by unfold Hp.del;rw[if_neg q];exact e',r⟩
end
inductive Frz:Hp→Hp→Prop
 | sub {H H':Hp}:H'.Sub H→Frz H H'
 | list {H H':Hp} (a:Addr) (xs:List V):H a=some (.list xs)→(∀b o',H' b=some o'→b≠a∧∃o,H b=some o∧AO.Fr a (.lst xs) o o')→Frz H H'
 | inst {H H':Hp} (a C:Addr) (xs:List V):H a=some (.inst C xs)→(∀b o',H' b=some o'→b≠a∧∃o,H b=some o∧AO.Fr a (.obj C xs) o o')→Frz H H'
 | trans {H H' H'':Hp}:Frz H H'→Frz H' H''→Frz H H''
section
variable {g:Gx}{f:Fx}{h:Heap}{m:Str→Option Value}{D:Addr→Addr}
theorem St.frz {H H':Hp}(z:Frz H H'):∀{mu fz:List (Addr×Obj)},St g f h m H mu fz D→∃mu' fz',(∀p∈fz,p∈fz')∧St g f h m H' mu' fz' D:=by
 induction z with
 | sub s=>intro mu fz S;exact⟨mu,fz,fun _ h=>h,S.fr,S.led.sub s⟩
 | list a xs e0 ht=>intro mu fz S;obtain⟨mu',fz',le,l⟩:=S.led.frzL e0 ht;exact⟨mu',fz',le,S.fr,l⟩
 | inst a C xs e0 ht=>intro mu fz S;obtain⟨mu',fz',le,l⟩:=S.led.frzO e0 ht;exact⟨mu',fz',le,S.fr,l⟩
 | trans _ _ ih ih'=>
  intro mu fz S
  obtain⟨mu',fz',le,S'⟩:=ih S
  obtain⟨mu'',fz'',le',S''⟩:=ih' S'
  exact⟨mu'',fz'',ja le le',S''⟩
theorem JF.frz {X:Ex}{ns:List Str}{t:Sem Flow}{σ:Lo}{H H':Hp}{Q:jD}(z:Frz H H')(j:JF g f X ns t σ H' Q):JF g f X ns t σ H Q:=by
 intro s m mu fz D S lo P E k kE
 obtain⟨mu',fz',le,S'⟩:=S.frz z
 exact j s m mu' fz' D S' (lo.mono le) P E (fun v h tk mu'' fz'' D' H'' m' x σ' st le' d lo' q=>k v h tk mu'' fz'' D' H'' m' x σ' st (ja le le') d lo' q) (fun m' e s' hx=>kE m' e s' (X.mono (s:=s) (h:=s.heap) (tk:=s.toks) le hx))
theorem jb.frz {XF:ExF g}{n:Nat}{fv:Value}{args:List V}{H H':Hp}{Q:V→Hp→Prop}(z:Frz H H')(j:jb g XF n fv args H' Q):jb g XF n fv args H Q:=by
 intro f s m mu fz D vals ok hq hO S d R k kE
 obtain⟨mu',fz',le,S'⟩:=S.frz z
 exact j f s m mu' fz' D vals ok hq (hO.mono le) S' (Dens.mono (FzR.le le) _ _ d) R (fun v h tk mu'' fz'' D' H'' x st le' d q=>k v h tk mu'' fz'' D' H'' x st (ja le le') d q) (fun e s' hx=>kE e s' ((XF.R f).mono (s:=s) (h:=s.heap) (tk:=s.toks) le hx))
end
section
variable {g:Gx}{f:Fx}{X:Ex}{ns:List Str}{σ:Lo}{H:Hp}{n:Nat}
def JAl (g:Gx)(f:Fx)(X:Ex)(ns:List Str)(op:BoolOp)(es:List Expr)(σ:Lo)(H:Hp)(Q:Prop→Hp→Prop):Prop:=
 ∀s m mu fz D,St g f s.heap m H mu fz D→Locs g f fz ns σ m→JB g f X (allTrue op es f.env) s m fz Q
theorem jal_one {op:BoolOp}{e:Expr}{Q:Prop→Hp→Prop}(h:JC g f X ns e σ H Q):JAl g f X ns op [e] σ H Q:=by
 intro s m mu fz D S lo P E k kE
 unfold allTrue
 refine jC (h s m mu fz D S lo _ E (fun b h tk mu₁ fz₁ D₁ H₁ p S₁ le₁ d₁ q₁=>?_) kE)
 cases op<;>cases b<;>exact wpAny_pure (k _ h tk mu₁ fz₁ D₁ H₁ p S₁ le₁ d₁ q₁)
theorem jal_and {e e':Expr}{es:List Expr}{Q:Prop→Hp→Prop}(h:JC g f X ns e σ H (fun p H₁=>(p→JAl g f X ns .And (e'::es) σ H₁ Q)∧(¬p→Q False H₁))):JAl g f X ns .And (e::e'::es) σ H Q:=by
 intro s m mu fz D S lo P E k kE
 unfold allTrue
 refine jC (h s m mu fz D S lo _ E (fun b h tk mu₁ fz₁ D₁ H₁ p S₁ le₁ d₁ q₁=>?_) kE)
 cases b with
 | false=>exact wpAny_pure (k false h tk mu₁ fz₁ D₁ H₁ False S₁ le₁ (by simp) (q₁.2 fun z=>by simpa using d₁.mpr z))
 | true=>exact q₁.1 (d₁.mp rfl) {s with heap:=h,toks:=tk} m mu₁ fz₁ D₁ S₁ (lo.mono le₁) P E (fun b h tk mu₂ fz₂ D₂ H₂ p S₂ le₂ d₂ q₂=>k b h tk mu₂ fz₂ D₂ H₂ p S₂ (ja le₁ le₂) d₂ q₂) (fun e s' hx=>kE e s' (X.mono le₁ hx))
theorem jal_or {e e':Expr}{es:List Expr}{Q:Prop→Hp→Prop}(h:JC g f X ns e σ H (fun p H₁=>(p→Q True H₁)∧(¬p→JAl g f X ns .Or (e'::es) σ H₁ Q))):JAl g f X ns .Or (e::e'::es) σ H Q:=by
 intro s m mu fz D S lo P E k kE
 unfold allTrue
 refine jC (h s m mu fz D S lo _ E (fun b h tk mu₁ fz₁ D₁ H₁ p S₁ le₁ d₁ q₁=>?_) kE)
 cases b with
 | true=>exact wpAny_pure (k true h tk mu₁ fz₁ D₁ H₁ True S₁ le₁ (by simp) (q₁.1 (d₁.mp rfl)))
 | false=>exact q₁.2 (fun z=>by simpa using d₁.mpr z) {s with heap:=h,toks:=tk} m mu₁ fz₁ D₁ S₁ (lo.mono le₁) P E (fun b h tk mu₂ fz₂ D₂ H₂ p S₂ le₂ d₂ q₂=>k b h tk mu₂ fz₂ D₂ H₂ p S₂ (ja le₁ le₂) d₂ q₂) (fun e s' hx=>kE e s' (X.mono le₁ hx))
theorem jc_all {op:BoolOp}{es:List Expr}{pos:Pos}{Q:Prop→Hp→Prop}(h:JAl g f X ns op es σ H Q):JC g f X ns (.BoolOp op es pos) σ H Q:=fun s m mu fz D S lo=>h s m mu fz D S lo
def JBo (g:Gx)(f:Fx)(X:Ex)(ns:List Str)(pos:Pos)(op:BoolOp)(es:List Expr)(σ:Lo)(H:Hp)(Q:V→Hp→Prop):Prop:=
 ∀s m mu fz D,St g f s.heap m H mu fz D→Locs g f fz ns σ m→JT g f X (boolOp pos op (evalEach es f.env)) s m fz Q
theorem jbo_one {pos:Pos}{op:BoolOp}{e:Expr}{Q:V→Hp→Prop}(h:JE g f X ns e σ H Q):JBo g f X ns pos op [e] σ H Q:=by
 intro s m mu fz D S lo P E k kE
 show wpAny _ _ (boolOp pos op [eval e f.env]) P E s
 unfold boolOp
 exact h s m mu fz D S lo P E k kE
theorem jbo_and {pos:Pos}{e e':Expr}{es:List Expr}{Q:V→Hp→Prop}(h:JE g f X ns e σ H (fun x H₁=>OpT g f X x H₁ (fun p H₂=>(p→JBo g f X ns pos .And (e'::es) σ H₂ Q)∧(¬p→Q x H₂)))):JBo g f X ns pos .And (e::e'::es) σ H Q:=by
 intro s m mu fz D S lo P E k kE
 show wpAny _ _ (boolOp pos .And (eval e f.env::eval e' f.env::evalEach es f.env)) P E s
 unfold boolOp
 refine jC (h s m mu fz D S lo _ E (fun v h tk mu₁ fz₁ D₁ H₁ x S₁ le₁ d₁ q₁=>?_) kE)
 refine jC (wpAny_standAt (jC (wpAny_holding (q₁ {s with heap:=h,toks:=tk} m mu₁ fz₁ D₁ v S₁ d₁ _ E (fun b h tk mu₂ fz₂ D₂ H₂ p S₂ le₂ d₂ q₂=>?_) (fun e s' hx=>kE e s' (X.mono le₁ hx))))))
 cases b with
 | false=>exact wpAny_pure (k v h tk mu₂ fz₂ D₂ H₂ x S₂ (ja le₁ le₂) (Den.mono (FzR.le le₂) _ _ d₁) (q₂.2 fun z=>by simpa using d₂.mpr z))
 | true=>exact q₂.1 (d₂.mp rfl) {s with heap:=h,toks:=tk} m mu₂ fz₂ D₂ S₂ (lo.mono (ja le₁ le₂)) P E (fun v h tk mu' fz' D' H' x st le' d q=>k v h tk mu' fz' D' H' x st (ja (ja le₁ le₂) le') d q) (fun e s' hx=>kE e s' (X.mono (ja le₁ le₂) hx))
theorem jbo_or {pos:Pos}{e e':Expr}{es:List Expr}{Q:V→Hp→Prop}(h:JE g f X ns e σ H (fun x H₁=>OpT g f X x H₁ (fun p H₂=>(p→Q x H₂)∧(¬p→JBo g f X ns pos .Or (e'::es) σ H₂ Q)))):JBo g f X ns pos .Or (e::e'::es) σ H Q:=by
 intro s m mu fz D S lo P E k kE
 show wpAny _ _ (boolOp pos .Or (eval e f.env::eval e' f.env::evalEach es f.env)) P E s
 unfold boolOp
 refine jC (h s m mu fz D S lo _ E (fun v h tk mu₁ fz₁ D₁ H₁ x S₁ le₁ d₁ q₁=>?_) kE)
 refine jC (wpAny_standAt (jC (wpAny_holding (q₁ {s with heap:=h,toks:=tk} m mu₁ fz₁ D₁ v S₁ d₁ _ E (fun b h tk mu₂ fz₂ D₂ H₂ p S₂ le₂ d₂ q₂=>?_) (fun e s' hx=>kE e s' (X.mono le₁ hx))))))
 cases b with
 | true=>exact wpAny_pure (k v h tk mu₂ fz₂ D₂ H₂ x S₂ (ja le₁ le₂) (Den.mono (FzR.le le₂) _ _ d₁) (q₂.1 (d₂.mp rfl)))
 | false=>exact q₂.2 (fun z=>by simpa using d₂.mpr z) {s with heap:=h,toks:=tk} m mu₂ fz₂ D₂ S₂ (lo.mono (ja le₁ le₂)) P E (fun v h tk mu' fz' D' H' x st le' d q=>k v h tk mu' fz' D' H' x st (ja (ja le₁ le₂) le') d q) (fun e s' hx=>kE e s' (X.mono (ja le₁ le₂) hx))
theorem WF {op:BoolOp}{es:List Expr}{pos:Pos}{Q:V→Hp→Prop}(h:JBo g f X ns pos op es σ H Q):JE g f X ns (.BoolOp op es pos) σ H Q:=fun s m mu fz D S lo=>h s m mu fz D S lo
theorem jb.none {XF:ExF g}{fv:Value}{args:List V}{Q:V→Hp→Prop}(h:jb g ExF.none n fv args H Q):jb g XF n fv args H Q:=
 fun f s m mu fz D vals ok _ hO S d R k _=>h f s m mu fz D vals ok (.inl trivial) hO S d R k fun _ _ z=>z.elim
theorem jb.still {XF:ExF g}{fv:Value}{args:List V}{Q:V→Hp→Prop}(hc:¬XF.calm)(h:jb g ExF.still n fv args H Q):jb g XF n fv args H Q:=
 fun f s m mu fz D vals ok hq hO S d R k _=>h f s m mu fz D vals ok (.inr (hq.resolve_left hc)) hO S d R k fun _ _ z=>z.elim
end
section
set_option backward.match.sparseCases false
inductive PE where
 | nil | cons (e r:PE)
 | loc (i:Nat) | glb (i:Nat) | int (i:Int) | str (s:String) | bool (b:Bool) | none_
 | bin (op:Operator) (l r:PE) | neg (e:PE) | not_ (e:PE)
 | cmp (op:CmpOp) (l r:PE) | chain (op op':CmpOp) (l r r':PE)
 | and_ (es:PE) | or_ (es:PE) | ifx (t b o:PE)
 | sub (o i:PE) | slice (o lo hi:PE) | att (o:PE) (k:Nat)
 | call (fn args:PE) | meth (o:PE) (k:Nat) (args:PE)
 | tup (es:PE) | lst (es:PE)
 | di0 | ds0 | dis (ks:List String) (vs:PE) | dii (ks:List Int) (vs:PE)
 | comp (bns:List Str) (elt tgt iter:PE) | xwhy (o:PE)
inductive Bi where
 | len | abs | max | min | tuple | list | range | isinstance | divmod | enumerate | zip | all | sum | int_ | bool_ | exc
 deriving DecidableEq
def Bi.v:Bi→V
 | .len=>.bi "len" | .abs=>.bi "abs" | .max=>.bi "max" | .min=>.bi "min" | .tuple=>.typ "tuple" | .list=>.typ "list" | .range=>.typ "range" | .isinstance=>.bi "isinstance"
 | .divmod=>.bi "divmod" | .enumerate=>.typ "enumerate" | .zip=>.typ "zip" | .all=>.bi "all" | .sum=>.bi "sum" | .int_=>.typ "int" | .bool_=>.typ "bool" | .exc=>.typ "Exception"
inductive GK where
 | fn (j:Nat) | cls (j:Nat) | val (v:V) | bs (j:Nat) | bi (b:Bi)
structure Rt where
 cls:Nat→Addr
 fn:Nat→Addr
 bs:Nat→V
 gT:List (String×GK)
 an:Nat→String
 fi:Nat→Nat→Option Nat
 mt:Nat→Nat→Option Nat
 xs:Nat→Bool
 ini:Nat→Option Nat
 nc:Nat
def GK.v (R:Rt):GK→V
 | .fn j=>.ref (R.fn j) | .cls j=>.ref (R.cls j) | .val v=>v | .bs j=>R.bs j | .bi b=>b.v
def bootOf (x:String)(v:V):Prop:=∃val,bootBuiltins (Str.ofString x)=some val∧x ≠ "__name__" ∧ ∀(P:Cf) (R:Rig),Den P R v val
def GFact (g:Gx)(x:String)(v:V):Prop:=
 (∃val,nsIn g.K mainGlobals (Str.ofString x)=some (some val)∧∀fz,DenG g fz v val)∨(nsIn g.K mainGlobals (Str.ofString x)=some none∧bootOf x v)
structure Nm where
 ns:List Str
 gs:List Nat
 R:Rt
 top:Bool:=true
def ju:PE→List Nat
 | .glb i=>[i]
 | .cons e r=>ju e++ju r
 | .bin _ l r=>ju l++ju r | .neg e=>ju e | .not_ e=>ju e
 | .cmp _ l r=>ju l++ju r | .chain _ _ l r r'=>ju l++ju r++ju r'
 | .and_ es=>ju es | .or_ es=>ju es | .ifx t b o=>ju t++ju b++ju o
 | .sub o i=>ju o++ju i | .slice o lo hi=>ju o++ju lo++ju hi | .att o _=>ju o
 | .call fn args=>ju fn++ju args | .meth o _ args=>ju o++ju args
 | .tup es=>ju es | .lst es=>ju es | .dis _ vs=>ju vs | .dii _ vs=>ju vs
 | .comp _ elt _ iter=>ju elt++ju iter | .xwhy o=>ju o
 | _=>[]
def PE.nc:PE→Bool
 | .call _ _=>false | .meth _ _ _=>false | _=>true
def PE.fnk:PE→Bool
 | .glb _=>true | .sub _ _=>true | _=>false
def gOk (gT:List (String×GK))(sc:Scope)(i:Nat):Bool:=match gT[i]? with
 | some (x,_)=>sc.names.lookup (Str.ofString x)==some .globalImplicit&&!(Str.ofString x==("__debug__" : Str))
 | none=>false
def lOk (sc:Scope)(x:Str):Bool:=sc.names.lookup x==some .local&&!(x==("__debug__" : Str))
def tgtOk (ns:List Str):PE→Expr→Bool
 | .loc i=>fun e=>match e with | .Name x _=>ns[i]? == some x | _=>false
 | .tup (.cons (.loc i) (.cons (.loc j) .nil))=>fun e=>match e with | .Tuple [.Name x _,.Name x' _] _ _=>ns[i]? == some x&&ns[j]? == some x' | _=>false
 | _=>fun _=>false
def strKey (k:String):Option Expr→Bool
 | some (.Constant (.str x) _ _)=>x==Str.ofString k&&decide ((Str.ofString k).length≤sizeLine)
 | _=>false
def intKey (k:Int):Option Expr→Bool
 | some (.Constant (.int x) _ _)=>x==k
 | _=>false
def uE:List String→List (Option Expr)→Bool
 | []=>fun l=>l.isEmpty
 | k::ks=>fun l=>match l with | o::l=>strKey k o&&uE ks l | []=>false
def uJ:List Int→List (Option Expr)→Bool
 | []=>fun l=>l.isEmpty
 | k::ks=>fun l=>match l with | o::l=>intKey k o&&uJ ks l | []=>false
structure IS where
 E:Nm→Expr→Bool:=fun _ _=>false
 L:Nm→List Expr→Bool:=fun _ _=>false
 O:Nm→Option Expr→Bool:=fun _ _=>false
def is_:PE→IS
 | .nil=>{L:=fun _ l=>l.isEmpty,O:=fun _ o=>o.isNone}
 | .cons p r=>{L:=fun c l=>match l with | e::l=>(is_ p).E c e&&(is_ r).L c l | []=>false,O:=fun c o=>match o with | some e=>(is_ p).E c e | none=>false}
 | .loc i=>{E:=fun c e=>match e with | .Name x _=>c.ns[i]? == some x | _=>false}
 | .glb i=>{E:=fun c e=>match e with | .Name x _=>c.gs.contains i&&(match c.R.gT[i]? with | some (y,_)=>x==Str.ofString y | none=>false) | _=>false}
 | .int i=>{E:=fun _ e=>match e with | .Constant (.int j) _ _=>j==i | _=>false}
 | .str s=>{E:=fun _ e=>match e with | .Constant (.str x) _ _=>x==Str.ofString s&&decide ((Str.ofString s).length≤sizeLine) | _=>false}
 | .bool b=>{E:=fun _ e=>match e with | .Constant (.bool b') _ _=>b'==b | _=>false}
 | .none_=>{E:=fun _ e=>match e with | .Constant .none _ _=>true | _=>false}
 | .bin op l r=>{E:=fun c e=>match e with | .BinOp a op' b _=>decide (op'=op)&&(is_ l).E c a&&(is_ r).E c b | _=>false}
 | .neg p=>{E:=fun c e=>match e with | .UnaryOp op a _=>decide (op = .USub)&&(is_ p).E c a | _=>false}
 | .not_ p=>{E:=fun c e=>match e with | .UnaryOp op a _=>decide (op = .Not)&&(is_ p).E c a | _=>false}
 | .cmp op l r=>{E:=fun c e=>match e with | .Compare a [op'] [b] _=>decide (op'=op)&&(is_ l).E c a&&(is_ r).E c b | _=>false}
 | .chain o1 o2 l r r'=>{E:=fun c e=>match e with | .Compare a [o1',o2'] [b,b'] _=>decide (o1'=o1)&&decide (o2'=o2)&&(is_ l).E c a&&(is_ r).E c b&&(is_ r').E c b' | _=>false}
 | .and_ es=>{E:=fun c e=>match e with | .BoolOp op l _=>decide (op = .And)&&(is_ es).L c l&&!l.isEmpty | _=>false}
 | .or_ es=>{E:=fun c e=>match e with | .BoolOp op l _=>decide (op = .Or)&&(is_ es).L c l&&!l.isEmpty | _=>false}
 | .ifx t b o=>{E:=fun c e=>match e with | .IfExp t' b' o' _=>(is_ t).E c t'&&(is_ b).E c b'&&(is_ o).E c o' | _=>false}
 | .sub o i=>{E:=fun c e=>match e with | .Subscript a b _=>(is_ o).E c a&&(is_ i).E c b | _=>false}
 | .slice o lo hi=>{E:=fun c e=>match e with | .Subscript a (.Slice l u none _) _=>(is_ o).E c a&&(is_ lo).O c l&&(is_ hi).O c u | _=>false}
 | .att o k=>{E:=fun c e=>match e with | .Attribute a x _=>x==Str.ofString (c.R.an k)&&(is_ o).E c a&&o.nc | _=>false}
 | .call fn args=>{E:=fun c e=>match e with | .Call f as [] _=>(is_ fn).E c f&&(is_ args).L c as&&fn.fnk | _=>false}
 | .meth o k args=>{E:=fun c e=>match e with | .Call (.Attribute a x apos) as [] pos=>x==Str.ofString (c.R.an k)&&(is_ o).E c a&&(is_ args).L c as&&o.nc&&decide (apos.endLine=pos.line)&&decide (as.length<20) | _=>false}
 | .tup es=>{E:=fun c e=>match e with | .Tuple l _ _=>(is_ es).L c l&&decide (l.length≤1000) | _=>false}
 | .lst es=>{E:=fun c e=>match e with | .List l _=>(is_ es).L c l&&decide (l.length≤1000) | _=>false}
 | .di0=>{E:=fun _ e=>match e with | .Dict [] [] _=>true | _=>false}
 | .ds0=>{E:=fun _ e=>match e with | .Dict [] [] _=>true | _=>false}
 | .dis ks vs=>{E:=fun c e=>match e with | .Dict kl vl _=>uE ks kl&&(is_ vs).L c vl&&decide (kl.length=vl.length)&&decide (kl.length≤15)&&!kl.isEmpty&&decide ks.Nodup | _=>false}
 | .dii ks vs=>{E:=fun c e=>match e with | .Dict kl vl _=>uJ ks kl&&(is_ vs).L c vl&&decide (kl.length=vl.length)&&decide (kl.length≤15)&&!kl.isEmpty&&decide ks.Nodup | _=>false}
 | .xwhy o=>{E:=fun c e=>match e with | .Attribute a x _=>x==Str.ofString "why" && (is_ o).E c a&&o.nc | _=>false}
 | .comp bns elt tgt iter=>{E:=fun c e=>match e with | .ListComp elt' [⟨tgt',iter',[],asy⟩] sc _=>decide (asy=0)&&c.top&&(is_ elt).E {c with ns:=bns,gs:=ju elt,top:=false} elt'&&tgtOk bns tgt tgt'&&(is_ iter).E c iter'&&yR sc&&bns.all (lOk sc)&&decide bns.Nodup&&(ju elt).all (gOk c.R.gT sc) | _=>false}
noncomputable abbrev isE (p:PE):Nm→Expr→Bool:=(is_ p).E
noncomputable abbrev isL (p:PE):Nm→List Expr→Bool:=(is_ p).L
noncomputable abbrev isO (p:PE):Nm→Option Expr→Bool:=(is_ p).O
structure Cx where
 g:Gx
 f:Fx
 XF:ExF g
 XB:ExF g
 n:Nat
 R:Rt
 ns:List Str
 rd:Nat→Lo→Hp→(V→Prop)→Prop
abbrev Cx.X (c:Cx):Ex:=c.XF.R c.f
def nthL:Lo→Nat→Option V
 | [],_=>none
 | x::_,0=>x
 | _::l,i+1=>nthL l i
def locV (o:Option V)(k:V→Prop):Prop:=match o with | some v=>k v | none=>False
def rdF (i:Nat)(σ:Lo)(_:Hp)(k:V→Prop):Prop:=locV (nthL σ i) k
def nthP:List (Nat×V)→Nat→Option V
 | [],_=>none
 | (j,v)::l,i=>if j=i then some v else nthP l i
def rdB (C:Addr)(bns:List Str)(pvs:List (Nat×V))(i:Nat)(_:Lo)(H:Hp)(k:V→Prop):Prop:=H C=some (.ns (pvs.map fun p=>(bns.getD p.1 default,p.2)))∧locV (nthP pvs i) k
def refL (H:Hp)(a:Addr)(k:List V→Prop):Prop:=∃xs,H a=some (.list xs)∧k xs
def refO (H:Hp)(a:Addr)(k:Addr→List V→Prop):Prop:=∃C xs,H a=some (.inst C xs)∧k C xs
def listOf (x:V)(H:Hp)(k:List V→Prop):Prop:=match x with | .lst xs=>k xs | .ref a=>refL H a k | _=>False
def seqOf (x:V)(H:Hp)(k:List V→Prop):Prop:=match x with | .tup xs=>k xs | .lst xs=>k xs | .ref a=>refL H a k | _=>False
def KB (x:V)(H:Hp)(k:Addr→List V→Prop):Prop:=match x with | .obj C xs=>k C xs | .ref a=>refO H a k | _=>False
def wE (xs:List V)(z:V)(k:V→Prop):Prop:=∃i j y,z = .int i∧Idx i xs.length j∧xs[j]? = some y∧k y
def refS (g:Gx)(H:Hp)(a:Addr)(z:V)(k:V→Prop):Prop:=(∃xs,H a=some (.list xs)∧wE xs z k)∨∃y,DGet g H (.ref a) z (some y)∧k y
def subV (g:Gx)(x z:V)(H:Hp)(k:V→Prop):Prop:=match x with | .tup xs=>wE xs z k | .lst xs=>wE xs z k | .ref a=>refS g H a z k | _=>False
def attO (R:Rt)(C:Addr)(xs:List V)(a:Nat)(k:V→Prop):Prop:=∃cid i y,C=R.cls cid∧R.fi cid a=some i∧xs[i]? = some y∧y.plain=true∧k y
inductive MK where
 | fn (j:Nat) | append | pop
def lmT (R:Rt)(k:Nat):Option MK:=if R.an k = "append" then some .append else if R.an k = "pop" then some .pop else none
def refM (R:Rt)(H:Hp)(a:Addr)(k:Nat)(P:MK→Prop):Prop:=(∃cid xs j,H a=some (.inst (R.cls cid) xs)∧R.mt cid k=some j∧P (.fn j))∨(∃xs m,H a=some (.list xs)∧lmT R k=some m∧P m)
def yF (R:Rt)(x:V)(k:Nat)(H:Hp)(P:MK→Prop):Prop:=match x with | .obj C xs=>∃cid j,C=R.cls cid∧R.mt cid k=some j∧P (.fn j) | .ref a=>refM R H a k P | _=>False
def Ux (H:Hp)(a:Addr)(k:List V→V→Prop):Prop:=∃xs y,H a=some (.list (xs++[y]))∧k xs y
def JH (c:Cx)(m:MK)(x:V)(ys:List V)(H:Hp)(Q:V→Hp→Prop):Prop:=match m,x,ys with
 | .fn j,x,ys=>jb c.g c.XF c.n (.ref (c.R.fn j)) (x::ys) H Q
 | .append,.ref a,[y]=>refL H a fun xs=>xs.length≤16000000∧Q .none (H.set a (.list (xs++[y])))
 | .pop,.ref a,[]=>Ux H a fun xs y=>xs.length≤16000000∧Q y (H.set a (.list xs))
 | _,_,_=>False
def addV (c:Cx)(x y:V)(H:Hp)(Q:V→Hp→Prop):Prop:=match x,y with
 | .int i,.int j=>Q (.int (i+j)) H
 | .ref a,.ref b=>refL H a fun xs=>refL H b fun ys=>xs.length+ys.length≤16000000∧∀d,H d=none→Q (.ref d) (H.set d (.list (xs++ys)))
 | x,y=>Bin c.g c.f c.X .Add x y H Q
def mulV (c:Cx)(x y:V)(H:Hp)(Q:V→Hp→Prop):Prop:=match x,y with
 | .int i,.int j=>IntMulOk i j∧Q (.int (i*j)) H
 | .tup xs,.int k=>-1000≤k∧xs≠[]∧xs.length*k.toNat≤256∧Q (.tup (List.replicate k.toNat xs).flatten) H
 | x,y=>Bin c.g c.f c.X .Mult x y H Q
def binV (c:Cx)(op:Operator)(x y:V)(H:Hp)(Q:V→Hp→Prop):Prop:=match op with
 | .Add=>addV c x y H Q
 | .Mult=>mulV c x y H Q
 | op=>match x,y with
  | .int i,.int j=>(match op with
   | .Sub=>Q (.int (i-j)) H
   | .Mod=>j≠0∧Q (.int (i.fmod j)) H
   | .FloorDiv=>j≠0∧j.natAbs<2 ^ 64∧Q (.int (i.fdiv j)) H
   | .LShift=>0≤j∧(Builtin.Int.intBits i:Int)+j≤2 ^ 27∧Q (.int (i*2 ^ j.toNat)) H
   | .RShift=>0≤j∧Q (.int (i.fdiv (2 ^ j.toNat))) H
   | .Pow=>0≤j∧(Builtin.Int.intBits i:Int)*j≤2 ^ 27∧Q (.int (i ^ j.toNat)) H
   | .BitAnd=>Q (.int (Builtin.bitAnd i j)) H
   | .BitOr=>Q (.int (Builtin.bitOr i j)) H
   | .BitXor=>Q (.int (Builtin.bitXor i j)) H
   | op=>Bin c.g c.f c.X op x y H Q)
  | x,y=>Bin c.g c.f c.X op x y H Q
def negV (c:Cx)(x:V)(H:Hp)(Q:V→Hp→Prop):Prop:=match x with
 | .int i=>Q (.int (-i)) H
 | x=>Op1 c.g c.f c.X (unaryOp .USub) x H Q
def truV (c:Cx)(x:V)(H:Hp)(Q:Prop→Hp→Prop):Prop:=match x with
 | .bool b=>Q (b=true) H
 | .int i=>Q (i≠0) H
 | .none=>Q False H
 | x=>OpT c.g c.f c.X x H Q
def zz:List V→Option (List Int)
 | []=>some []
 | .int i::r=>(match zz r with | some js=>some (i::js) | none=>none)
 | _=>none
def memI:List Int→Int→Prop
 | [],_=>False
 | j::r,i=>i=j∨memI r i
def memP (pos:Bool)(js:List Int)(i:Int):Prop:=match pos with | true=>memI js i | false=>¬memI js i
def posB (pos b:Bool):Bool:=match pos with | true=>b | false=>!b
def JD (g:Gx)(H:Hp)(a:Addr)(z:V)(k:Bool→Prop):Prop:=∃y,DGet g H (.ref a) z y∧k y.isSome
def inV (c:Cx)(pos:Bool)(x y:V)(H:Hp)(Q:V→Hp→Prop):Prop:=match x,y with
 | .int i,.tup ys=>(match zz ys with
  | some js=>9≤c.n∧Q (.bool (posB pos (js.any fun j=>decide (i=j)))) H
  | none=>Cmp c.g c.f c.X (if pos then .In else .NotIn) x y H Q)
 | x,.ref a=>JD c.g H a x fun b=>Q (.bool (posB pos b)) H
 | x,y=>Cmp c.g c.f c.X (if pos then .In else .NotIn) x y H Q
def inC (c:Cx)(pos:Bool)(x y:V)(H:Hp)(Q:Prop→Hp→Prop):Prop:=match x,y with
 | .int i,.tup ys=>(match zz ys with
  | some js=>9≤c.n∧Q (memP pos js i) H
  | none=>Cmp c.g c.f c.X (if pos then .In else .NotIn) x y H fun z H=>truV c z H Q)
 | x,.ref a=>JD c.g H a x fun b=>Q (posB pos b=true) H
 | x,y=>Cmp c.g c.f c.X (if pos then .In else .NotIn) x y H fun z H=>truV c z H Q
def cmpV (c:Cx)(op:CmpOp)(x y:V)(H:Hp)(Q:V→Hp→Prop):Prop:=match op with
 | .In=>inV c true x y H Q
 | .NotIn=>inV c false x y H Q
 | op=>match x,y with
 | .int i,.int j=>(match op with
  | .Lt=>Q (.bool (decide (i<j))) H
  | .LtE=>Q (.bool (decide (i≤j))) H
  | .Gt=>Q (.bool (decide (j<i))) H
  | .GtE=>Q (.bool (decide (j≤i))) H
  | .Eq=>Q (.bool (decide (i=j))) H
  | .NotEq=>Q (.bool (decide (i≠j))) H
  | op=>Cmp c.g c.f c.X op x y H Q)
 | .str a,.str b=>(match op with
  | .Eq=>Q (.bool (decide (a=b))) H
  | .NotEq=>Q (.bool (decide (a≠b))) H
  | op=>Cmp c.g c.f c.X op x y H Q)
 | x,.none=>(match op with
  | .Is=>x.plain=true∧Q (.bool x.isNone) H
  | .IsNot=>x.plain=true∧Q (.bool (!x.isNone)) H
  | op=>Cmp c.g c.f c.X op x .none H Q)
 | x,y=>Cmp c.g c.f c.X op x y H Q
def cmpC (c:Cx)(op:CmpOp)(x y:V)(H:Hp)(Q:Prop→Hp→Prop):Prop:=match op with
 | .In=>inC c true x y H Q
 | .NotIn=>inC c false x y H Q
 | op=>match x,y with
 | .int i,.int j=>(match op with
  | .Lt=>Q (i<j) H
  | .LtE=>Q (i≤j) H
  | .Gt=>Q (j<i) H
  | .GtE=>Q (j≤i) H
  | .Eq=>Q (i=j) H
  | .NotEq=>Q (i≠j) H
  | op=>Cmp c.g c.f c.X op x y H fun z H=>truV c z H Q)
 | .str a,.str b=>(match op with
  | .Eq=>Q (a=b) H
  | .NotEq=>Q (a≠b) H
  | op=>Cmp c.g c.f c.X op x y H fun z H=>truV c z H Q)
 | x,y=>cmpV c op x y H fun z H=>truV c z H Q
def biO (c:Cx)(b:Bi)(xs:List V)(H:Hp)(Q:V→Hp→Prop):Prop:=∃fv,(∀a,fv≠.ref a)∧(∀fz v,DenG c.g fz b.v v→v=fv)∧jZ c.g c.f c.X fv xs H Q
def biV (c:Cx)(b:Bi)(xs:List V)(H:Hp)(Q:V→Hp→Prop):Prop:=match b with
 | .len=>(match xs with
  | [x]=>seqOf x H fun xs=>Q (.int xs.length) H
  | xs=>biO c .len xs H Q)
 | .abs=>(match xs with
  | [.int i]=>Q (.int (if i<0 then -i else i)) H
  | xs=>biO c .abs xs H Q)
 | .max=>(match xs with
  | [.int i,.int j]=>c.f.hd=none∧Q (.int (if j>i then j else i)) H
  | xs=>biO c .max xs H Q)
 | .tuple=>(match xs with
  | [x]=>listOf x H fun xs=>xs.length≤16000000∧Q (.tup xs) H
  | xs=>biO c .tuple xs H Q)
 | .list=>(match xs with
  | [.tup xs]=>xs.length≤16000000∧∀d,H d=none→Q (.ref d) (H.set d (.list xs))
  | [.lst xs]=>xs.length≤16000000∧∀d,H d=none→Q (.ref d) (H.set d (.list xs))
  | [.ref a]=>refL H a fun xs=>xs.length≤16000000∧∀d,H d=none→Q (.ref d) (H.set d (.list xs))
  | [.rng lo hi]=>c.f.hd=none∧(-1000000000≤lo∧lo≤1000000000)∧(-1000000000≤hi∧hi≤1000000000)∧hi-lo≤16000000∧∀d,H d=none→Q (.ref d) (H.set d (.list ((List.range (hi-lo).toNat).map fun i:Nat=>V.int (lo+(i:Int)))))
  | xs=>biO c .list xs H Q)
 | .range=>(match xs with
  | [.int k]=>Q (.rng 0 k) H
  | xs=>biO c .range xs H Q)
 | .divmod=>(match xs with
  | [.int a,.int b]=>b≠0∧b.natAbs<2 ^ 64∧Q (.tup [.int (a.fdiv b),.int (a.fmod b)]) H
  | xs=>biO c .divmod xs H Q)
 | .isinstance=>(match xs with
  | [.int _,.typ "int"]=>Q (.bool true) H
  | [.int _,.typ "bool"]=>Q (.bool false) H
  | xs=>biO c .isinstance xs H Q)
 | .all=>(match xs with
  | [.ref a]=>refL H a fun xs=>c.f.hd=none∧∃bs:List Bool,xs=bs.map V.bool∧Q (.bool (bs.all id)) H
  | xs=>biO c .all xs H Q)
 | b=>biO c b xs H Q
def UC (x:V)(k:Option Int→Prop):Prop:=match x with | .int i=>k (some i) | _=>False
def tgtB (hd:Option Value)(t:PE)(y:V)(k:List (Nat×V)→Prop):Prop:=match t,y with
 | .loc i,y=>k [(i,y)]
 | .tup (.cons (.loc i) (.cons (.loc j) .nil)),.tup [y,z]=>hd=none∧k [(j,z),(i,y)]
 | _,_=>False
abbrev Cx.blk (c:Cx)(f':Fx)(bns:List Str)(C:Addr)(pvs:List (Nat×V)):Cx:={c with f:=f',XF:=c.XB,ns:=[],rd:=rdB C bns pvs}
abbrev psOf (bns:List Str)(pvs:List (Nat×V)):List (Str×V):=pvs.map fun p=>(bns.getD p.1 default,p.2)
structure VS where
 E:Cx→Lo→Hp→(V→Hp→Prop)→Prop:=fun _ _ _ _=>False
 L:Cx→Lo→Hp→(List V→Hp→Prop)→Prop:=fun _ _ _ _=>False
 O:Cx→Lo→Hp→(Option Int→Hp→Prop)→Prop:=fun _ _ _ _=>False
 C:Cx→Lo→Hp→(Prop→Hp→Prop)→Prop:=fun _ _ _ _=>False
 T:Cx→BoolOp→Lo→Hp→(Prop→Hp→Prop)→Prop:=fun _ _ _ _ _=>False
 B:Cx→BoolOp→Lo→Hp→(V→Hp→Prop)→Prop:=fun _ _ _ _ _=>False
abbrev VS.val (E:Cx→Lo→Hp→(V→Hp→Prop)→Prop):VS:={E:=E,C:=fun c σ H Q=>E c σ H fun x H=>truV c x H Q}
def PE.two:PE→Bool
 | .cons _ (.cons _ .nil)=>true
 | _=>false
def PE.pair:PE→Bool
 | .tup _=>true
 | _=>false
def compG (Ei Ee:Cx→Lo→Hp→(V→Hp→Prop)→Prop)(bns:List Str)(tgt:PE)(c:Cx)(σ:Lo)(H:Hp)(Q:V→Hp→Prop):Prop:=Ei c σ H fun x H₁=>
    ∃xs HP,Src x xs HP∧HP H₁∧xs.length≤1000000∧∃I:Nat→List V→Hp→Prop,I 0 [] H₁ ∧
     (∀ys H a,I xs.length ys H→H a=none→Q (.ref a) (H.set a (.list ys))) ∧
     ∀f' a C i y ys H,xs[i]? = some y→I i ys H→HP H→H a=none→H C=none→a≠C→f'.hd=c.f.hd →
      tgtB c.f.hd tgt y fun pvs=>Ee (c.blk f' bns C pvs) [] ((H.set a (.list ys)).set C (.ns (psOf bns pvs)))
       fun r H'=>∃H₂ H₃,H'=(H₂.set a (.list ys)).set C (.ns (psOf bns pvs))∧H₃.Sub H₂∧H₂ a=none∧H₂ C=none∧I (i+1) (ys++[r]) H₃∧HP H₃
def vs:PE→VS
 | .nil=>{L:=fun _ _ H Q=>Q [] H,O:=fun _ _ H Q=>Q none H}
 | .cons e r=>{
   L:=fun c σ H Q=>(vs e).E c σ H fun x H=>(vs r).L c σ H fun xs H=>Q (x::xs) H
   O:=fun c σ H Q=>(vs e).E c σ H fun x H=>UC x fun i=>Q i H
   T:=fun c op σ H Q=>match r with
    | .nil=>(vs e).C c σ H Q
    | _=>(match op with
     | .And=>(vs e).C c σ H fun p H=>(p→(vs r).T c .And σ H Q)∧(¬p→Q False H)
     | .Or=>(vs e).C c σ H fun p H=>(p→Q True H)∧(¬p→(vs r).T c .Or σ H Q))
   B:=fun c op σ H Q=>match r with
    | .nil=>(vs e).E c σ H Q
    | _=>(match op with
     | .And=>(vs e).E c σ H fun x H=>truV c x H fun p H=>(p→(vs r).B c .And σ H Q)∧(¬p→Q x H)
     | .Or=>(vs e).E c σ H fun x H=>truV c x H fun p H=>(p→Q x H)∧(¬p→(vs r).B c .Or σ H Q))}
 | .loc i=>.val fun c σ H Q=>c.rd i σ H fun v=>Q v H
 | .glb i=>.val fun c _ H Q=>match c.R.gT[i]? with | some (_,k)=>Q (k.v c.R) H | none=>False
 | .int i=>.val fun _ _ H Q=>Q (.int i) H
 | .str s=>.val fun _ _ H Q=>Q (.str s) H
 | .bool b=>.val fun _ _ H Q=>Q (.bool b) H
 | .none_=>.val fun _ _ H Q=>Q .none H
 | .bin op l r=>.val fun c σ H Q=>(vs l).E c σ H fun x H=>(vs r).E c σ H fun y H=>binV c op x y H Q
 | .neg e=>.val fun c σ H Q=>(vs e).E c σ H fun x H=>negV c x H Q
 | .not_ e=>{C:=fun c σ H Q=>(vs e).C c σ H fun p H=>Q (¬p) H}
 | .cmp op l r=>{
   E:=fun c σ H Q=>(vs l).E c σ H fun x H=>(vs r).E c σ H fun y H=>cmpV c op x y H Q
   C:=fun c σ H Q=>(vs l).E c σ H fun x H=>(vs r).E c σ H fun y H=>cmpC c op x y H Q}
 | .chain o1 o2 l r r'=>{C:=fun c σ H Q=>(vs l).E c σ H fun x H=>(vs r).E c σ H fun y H=>cmpC c o1 x y H fun p H=>(p→(vs r').E c σ H fun z H=>cmpC c o2 y z H Q)∧(¬p→Q False H)}
 | .and_ es=>{E:=fun c σ H Q=>(vs es).B c .And σ H Q,C:=fun c σ H Q=>(vs es).T c .And σ H Q}
 | .or_ es=>{E:=fun c σ H Q=>(vs es).B c .Or σ H Q,C:=fun c σ H Q=>(vs es).T c .Or σ H Q}
 | .ifx t b o=>{
   E:=fun c σ H Q=>(vs t).C c σ H fun p H=>(p→(vs b).E c σ H Q)∧(¬p→(vs o).E c σ H Q)
   C:=fun c σ H Q=>(vs t).C c σ H fun p H=>(p→(vs b).C c σ H Q)∧(¬p→(vs o).C c σ H Q)}
 | .sub o i=>.val fun c σ H Q=>(vs o).E c σ H fun x H=>(vs i).E c σ H fun z H=>subV c.g x z H fun y=>Q y H
 | .slice o lo hi=>.val fun c σ H Q=>(vs o).E c σ H fun x H=>(vs lo).O c σ H fun l H=>(vs hi).O c σ H fun u H=>listOf x H fun xs=>xs.length≤16000000∧∀d,H d=none→Q (.ref d) (H.set d (.list (pick xs l u)))
 | .att o k=>.val fun c σ H Q=>(vs o).E c σ H fun x H=>KB x H fun C xs=>attO c.R C xs k fun y=>Q y H
 | .call fn args=>.val fun c σ H Q=>match fn with
  | .glb i=>(match c.R.gT[i]? with
   | some (_,.fn j)=>(vs args).L c σ H fun xs H=>jb c.g c.XF c.n (.ref (c.R.fn j)) xs H Q
   | some (_,.cls j)=>(vs args).L c σ H fun xs H=>jb c.g c.XF c.n (.ref (c.R.cls j)) xs H Q
   | some (_,.bi b)=>(vs args).L c σ H fun xs H=>biV c b xs H Q
   | _=>False)
  | _=>(vs fn).E c σ H fun v H=>∃j,v = .ref (c.R.fn j)∧(vs args).L c σ H fun xs H=>jb c.g c.XF c.n (.ref (c.R.fn j)) xs H Q
 | .meth o k args=>.val fun c σ H Q=>(vs o).E c σ H fun x H=>yF c.R x k H fun m=>(vs args).L c σ H fun ys H=>JH c m x ys H Q
 | .tup es=>.val fun c σ H Q=>(vs es).L c σ H fun xs H=>Q (.tup xs) H
 | .lst es=>.val fun c σ H Q=>(vs es).L c σ H fun xs H=>∀d,H d=none→Q (.ref d) (H.set d (.list xs))
 | .di0=>.val fun _ _ H Q=>∀d,H d=none→Q (.ref d) (H.set d (.dict (.i [])))
 | .ds0=>.val fun _ _ H Q=>∀d,H d=none→Q (.ref d) (H.set d (.dict (.s [])))
 | .dis ks es=>.val fun c σ H Q=>∀d,H d=none→(vs es).L c σ (H.set d (.dict (.s []))) fun ys H'=>H' d=some (.dict (.s []))∧Q (.ref d) (H'.set d (.dict (.s (ks.zip ys))))
 | .dii ks es=>.val fun c σ H Q=>∀d,H d=none→(vs es).L c σ (H.set d (.dict (.i []))) fun ys H'=>H' d=some (.dict (.i []))∧Q (.ref d) (H'.set d (.dict (.i (ks.zip ys))))
 | .xwhy o=>.val fun c σ H Q=>(vs o).E c σ H fun y H=>match c.f.xc with | some (e,C,x)=>y = .ref e∧c.f.hd≠none∧qx c.g.K C "why" = true∧x.plain=true∧Q x H | none=>False
 | .comp bns elt tgt iter=>.val fun c σ H Q=>
   let gen:=compG (vs iter).E (vs elt).E bns tgt c σ H Q
   match iter with
   | .call (.glb zi) args=>(match c.R.gT[zi]? with
    | some (_,.bi .zip)=>c.f.hd=none∧args.two=true∧tgt.pair=true∧(vs args).L c σ H fun xs H₁=>∃u v l,xs=[.tup [u],.ref l]∧H₁ l=some (.list [v]) ∧
      ∀f' a C,H₁ a=none→H₁ C=none→a≠C→f'.hd=c.f.hd→tgtB c.f.hd tgt (.tup [u,v]) fun pvs=>(vs elt).E (c.blk f' bns C pvs) [] ((H₁.set a (.list [])).set C (.ns (psOf bns pvs)))
       fun r H'=>∃H₂ H₃:Hp,H'=(H₂.set a (.list [])).set C (.ns (psOf bns pvs))∧H₃.Sub H₂∧H₂ a=none∧H₂ C=none∧Q (.ref a) (H₃.set a (.list [r]))
    | _=>gen)
   | _=>gen
noncomputable abbrev vcE (p:PE):=(vs p).E
noncomputable abbrev vcL (p:PE):=(vs p).L
noncomputable abbrev vcO (p:PE):=(vs p).O
noncomputable abbrev vcC (p:PE):=(vs p).C
noncomputable abbrev vcT (p:PE):=(vs p).T
noncomputable abbrev vcB (p:PE):=(vs p).B
end
structure RtOk (g:Gx)(R:Rt):Prop where
 glob:∀(i:Nat) (x:String) (k:GK),R.gT[i]? = some (x,k)→GFact g x (k.v R)
 clsG:∀(i:Nat) (x:String) (cid:Nat),R.gT[i]? = some (x,.cls cid)→nsIn g.K mainGlobals (Str.ofString x)=some (some (.ref (R.cls cid)))
 keepF:∀j,keepIn g.K (.ref (R.fn j))=true
 keepC:∀j,keepIn g.K (.ref (R.cls j))=true
 fld:∀cid k i,R.fi cid k=some i→zk g.K (R.cls cid) (R.an k)=true∧setOk g.K (R.cls cid)=true∧(g.ft (R.cls cid))[i]? = some (R.an k)∧(g.ft (R.cls cid)).Nodup∧(g.ft (R.cls cid)).length≤900
 exc:∃r:wW g,r.Ok∧∀cid,R.xs cid=true→zJ g.K (R.cls cid) r.fI "Exception.__new__" = true∧uN g.K (R.cls cid) "why" = true∧qx g.K (R.cls cid) "why" = true
 ini:∀cid j,R.ini cid=some j→clsOk g.K (R.cls cid) (R.fn j)=true
 cinj:∀i j,i<R.nc→j<R.nc→R.cls i=R.cls j→i=j
 mth:∀cid k j,R.mt cid k=some j→UF g.K (R.cls cid) (R.an k) (R.fn j)=true∧R.an k∉g.ft (R.cls cid)
structure Cx.Ok (c:Cx)(nm:Nm):Prop where
 G:c.g.Ok
 Rk:RtOk c.g c.R
 hR:nm.R=c.R
 ok:Fx.Ok c.g c.f c.n
 hq:c.XF.calm∨c.f.hd=none
 hXB:∀f,c.XB.R f=Ex.none
 hqB:c.XB.calm∨c.f.hd=none
 loc:∀i x,nm.ns[i]? = some x→∀pos σ H Q,c.rd i σ H (fun v=>Q v H)→JE c.g c.f c.X c.ns (.Name x pos) σ H Q
 glb:∀i∈nm.gs,gOk c.R.gT c.f.env.scope i=true
 top:nm.top=true→c.f.bk=none
section
variable {c:Cx}{nm:Nm}{H:Hp}
theorem wz {g:Gx}{f:Fx}{X:Ex}{op:CmpOp}{x y:V}{Q Q':V→Hp→Prop}(h:Cmp g f X op x y H Q)(q:∀x H,Q x H→Q' x H):Cmp g f X op x y H Q':=
 fun s m mu fz D v w S d d'=>JT.mono (h s m mu fz D v w S d d') q
theorem opT_iff {g:Gx}{f:Fx}{X:Ex}{b:Bool}{p:Prop}{Q:Prop→Hp→Prop}(h:b=true↔p)(q:Q p H):OpT g f X (.bool b) H Q:=by
 rw[← propext h]at q;exact zq q
theorem Uo {g:Gx}{f:Fx}{X:Ex}{n:Nat}(G:g.Ok)(ok:f.Ok g (n+9)){x y:V}{p:PyData}{qs:List PyData}{Q:V→Hp→Prop}(rx:RD H x p)(ry:RD H y (.tuple qs))(k:Q (.bool (!qs.any fun z=>PyData.eqv z p)) H):Cmp g f X .NotIn x y H Q:=by
 intro s m mu fz D v w S d e P E kk kE
 obtain⟨as,a⟩:=S.reads G ok rx d
 obtain⟨bs,b⟩:=S.reads G ok ry e
 have:=ok.un
 have lx:=rx.lay
 have ly:=ry.lay
 refine SeqAt.notIn_tuple_reads b a ly.1 lx.1 ?_ (kk (.bool (!qs.any fun z=>PyData.eqv z p)) s.heap s.toks mu fz D H (.bool (!qs.any fun z=>PyData.eqv z p)) S (fun _ h=>h) rfl k)
 have:min (PyData.depthAll qs) p.depth≤8:=Nat.le_trans (Nat.min_le_right _ _) lx.2
 show f.un+1+_<cLine
 lia
theorem wD (ok:c.Ok nm){x:V}{Q:Prop→Hp→Prop}(h:truV c x H Q):OpT c.g c.f c.X x H Q:=by
 unfold truV at h
 split at h
 ·exact zq h
 ·exact opt_int h
 ·exact opt_none h
 ·exact h
theorem add_ok (ok:c.Ok nm){x y:V}{Q:V→Hp→Prop}(h:addV c x y H Q):Bin c.g c.f c.X .Add x y H Q:=by
 unfold addV at h
 split at h
 ·exact bin_add h
 ·obtain⟨xs,e,ys,e',hb,q⟩:=h
  exact bin_addL ok.G ok.ok (.inr ⟨_,rfl,e⟩) (.inr ⟨_,rfl,e'⟩) hb q
 ·exact h
theorem mul_ok (ok:c.Ok nm){x y:V}{Q:V→Hp→Prop}(h:mulV c x y H Q):Bin c.g c.f c.X .Mult x y H Q:=by
 unfold mulV at h
 split at h
 ·exact bin_mul h.1 h.2
 ·obtain⟨a,b,d,q⟩:=h
  exact bin_mulT ok.G ok.ok a b d q
 ·exact h
theorem bin_ok (ok:c.Ok nm){op:Operator}{x y:V}{Q:V→Hp→Prop}(h:binV c op x y H Q):Bin c.g c.f c.X op x y H Q:=by
 unfold binV at h
 split at h
 ·exact add_ok ok h
 ·exact mul_ok ok h
 ·split at h
  ·split at h
   ·exact bin_sub h
   ·exact bin_mod h.1 h.2
   ·exact bin_fdiv h.1 h.2.1 h.2.2
   ·exact bin_shl h.1 h.2.1 h.2.2
   ·exact bin_shr h.1 h.2
   ·exact bin_pow h.1 h.2.1 h.2.2
   ·exact bin_and h
   ·exact bin_or h
   ·exact bin_xor h
   ·exact h
  ·exact h
theorem neg_ok {x:V}{Q:V→Hp→Prop}(h:negV c x H Q):Op1 c.g c.f c.X (unaryOp .USub) x H Q:=by
 unfold negV at h
 split at h
 ·exact un_neg h
 ·exact h
theorem UB {x:V}(h:x.plain=true):∀n,x≠.bi n:=fun n e=>by subst e;cases h
theorem Jf:∀{xs:List V} {js:List Int},zz xs=some js→xs=js.map V.int
 | [],js,h=>by cases h;rfl
 | .int i::r,js,h=>by
  unfold zz at h
  cases hr:zz r with
  | none=>rw[hr]at h;cases h
  | some js'=>rw[hr]at h;cases h;rw[Jf hr];rfl
 | .none::_,_,h | .bool _::_,_,h | .str _::_,_,h | .typ _::_,_,h | .bi _::_,_,h | .ref _::_,_,h | .rng _ _::_,_,h | .tup _::_,_,h | .lst _::_,_,h | .obj _ _::_,_,h=>by cases h
theorem Ur:∀js:List Int,vds (js.map V.int)=js.map PyData.int
 | []=>rfl
 | j::r=>by show _::vds (r.map V.int)=_;rw[Ur r];rfl
theorem Wf (js:List Int)(i:Int):((js.map PyData.int).any fun z=>PyData.eqv z (.int i))=js.any fun j=>decide (i=j):=by
 rw[List.any_map]
 refine congrArg (fun f=>js.any f) (funext fun j=>?_)
 show(j==i)=decide (i=j)
 rw[show(j==i)=decide (j=i)from rfl]
 exact decide_eq_decide.mpr ⟨Eq.symm,Eq.symm⟩
theorem Kg:∀(js:List Int) (i:Int),(js.any fun j=>decide (i=j))=true↔memI js i
 | [],i=>by simp[memI]
 | j::r,i=>by rw[List.any_cons,Bool.or_eq_true,decide_eq_true_eq,Kg r i];rfl
theorem WO (ok:c.Ok nm){i:Int}{js:List Int}{pos:Bool}{Q:V→Hp→Prop}(hn:9≤c.n)(q:Q (.bool (posB pos (js.any fun j=>decide (i=j)))) H):Cmp c.g c.f c.X (if pos then .In else .NotIn) (.int i) (.tup (js.map V.int)) H Q:=by
 have hk:Fx.Ok c.g c.f (c.n-9+9):=by rw[Nat.sub_add_cancel hn];exact ok.ok
 have rx:RD H (.int i) (.int i):=.val (show VOk 8 (.int i)from trivial)
 have ry:RD H (.tup (js.map V.int)) (.tuple (js.map PyData.int)):=by
  have:RD H (.tup (js.map V.int)) (vd (.tup (js.map V.int))):=.val (show VOk 8 (.tup (js.map V.int))from fun x hx=>by obtain⟨j,_,rfl⟩:=qG.mp hx;exact trivial)
  rwa [show vd (.tup (js.map V.int)) = .tuple (js.map PyData.int)from congrArg _ (Ur js)]at this
 cases pos with
 | true=>exact Xx ok.G hk rx ry (by rw[Wf];exact q)
 | false=>exact Uo ok.G hk rx ry (by rw[Wf];exact q)
theorem inV_ok (ok:c.Ok nm){pos:Bool}{x y:V}{Q:V→Hp→Prop}(h:inV c pos x y H Q):Cmp c.g c.f c.X (if pos then .In else .NotIn) x y H Q:=by
 unfold inV at h
 split at h
 ·split at h
  ·rename_i js e;rw[Jf e];exact WO ok h.1 h.2
  ·exact h
 ·obtain⟨y,dg,q⟩:=h
  cases pos with
  | true=>exact WV ok.G ok.ok dg q
  | false=>exact KZ ok.G ok.ok dg q
 ·exact h
theorem inC_ok (ok:c.Ok nm){pos:Bool}{x y:V}{Q:Prop→Hp→Prop}(h:inC c pos x y H Q):Cmp c.g c.f c.X (if pos then .In else .NotIn) x y H (fun z H=>OpT c.g c.f c.X z H Q):=by
 unfold inC at h
 split at h
 ·split at h
  ·rename_i js e;rw[Jf e]
   refine WO ok h.1 (opT_iff (p:=memP pos js _) ?_ h.2)
   cases pos with
   | true=>exact Kg js _
   | false=>
    show(!js.any _)=true↔¬memI js _
    rw[Bool.not_eq_true',← Bool.not_eq_true,Kg]
  ·exact wz h fun _ _=>wD ok
 ·obtain⟨y,dg,q⟩:=h
  cases pos with
  | true=>exact WV ok.G ok.ok dg (zq q)
  | false=>exact KZ ok.G ok.ok dg (zq q)
 ·exact wz h fun _ _=>wD ok
theorem WW (ok:c.Ok nm){op:CmpOp}{x y:V}{Q:V→Hp→Prop}(h:cmpV c op x y H Q):Cmp c.g c.f c.X op x y H Q:=by
 unfold cmpV at h
 split at h
 ·exact inV_ok (pos:=true) ok h
 ·exact inV_ok (pos:=false) ok h
 ·split at h
  ·split at h
   ·exact cmp_lt h
   ·exact cmp_le h
   ·exact cmp_gt h
   ·exact cmp_ge h
   ·exact cmp_eq h
   ·exact cmp_ne h
   ·exact h
  ·split at h
   ·exact Qc h
   ·exact Qa h
   ·exact h
  ·split at h
   ·exact Wr (UB h.1) h.2
   ·exact Qy (UB h.1) h.2
   ·exact h
  ·exact h
theorem Qz (ok:c.Ok nm){op:CmpOp}{x y:V}{Q:Prop→Hp→Prop}(h:cmpC c op x y H Q):Cmp c.g c.f c.X op x y H (fun z H=>OpT c.g c.f c.X z H Q):=by
 unfold cmpC at h
 split at h
 ·exact inC_ok (pos:=true) ok h
 ·exact inC_ok (pos:=false) ok h
 ·split at h
  ·split at h
   ·exact cmp_lt (uF h)
   ·exact cmp_le (uF h)
   ·exact cmp_gt (uF h)
   ·exact cmp_ge (uF h)
   ·exact cmp_eq (uF h)
   ·exact cmp_ne (uF h)
   ·exact wz h fun _ _=>wD ok
  ·split at h
   ·exact Qc (uF h)
   ·exact Qa (uF h)
   ·exact wz h fun _ _=>wD ok
  ·exact wz (WW ok h) fun _ _=>wD ok
theorem QL {x:V}{k:List V→Prop}(h:listOf x H k):∃xs,jx H x xs∧k xs:=by
 unfold listOf at h
 split at h
 ·exact⟨_,.inl rfl,h⟩
 ·obtain⟨xs,e,q⟩:=h;exact⟨xs,.inr ⟨_,rfl,e⟩,q⟩
 ·exact h.elim
theorem seqOf_at {x:V}{k:List V→Prop}(h:seqOf x H k):∃xs,(jx H x xs∨x = .tup xs)∧k xs:=by
 unfold seqOf at h
 split at h
 ·exact⟨_,.inr rfl,h⟩
 ·exact⟨_,.inl (.inl rfl),h⟩
 ·obtain⟨xs,e,q⟩:=h;exact⟨xs,.inl (.inr ⟨_,rfl,e⟩),q⟩
 ·exact h.elim
theorem objOf_at {x:V}{k:Addr→List V→Prop}(h:KB x H k):∃C xs,ObjAt H x C xs∧k C xs:=by
 unfold KB at h
 split at h
 ·exact⟨_,_,.inl rfl,h⟩
 ·obtain⟨C,xs,e,q⟩:=h;exact⟨C,xs,.inr ⟨_,rfl,e⟩,q⟩
 ·exact h.elim
theorem nopy64 {a b:Int}(h:b.natAbs<2 ^ 64):Builtin.divisionGoesByPylong a b=false:=nopy h
theorem bi_ok (ok:c.Ok nm){b:Bi}{xs:List V}{Q:V→Hp→Prop}(h:biV c b xs H Q):∃fv,(∀a,fv≠.ref a)∧(∀fz v,DenG c.g fz b.v v→v=fv)∧jZ c.g c.f c.X fv xs H Q:=by
 have key:∀{fv:Value},(∀a,fv≠.ref a)→(∀fz v,DenG c.g fz b.v v→v=fv)→jZ c.g c.f c.X fv xs H Q→∃fv,(∀a,fv≠.ref a)∧(∀fz v,DenG c.g fz b.v v→v=fv)∧jZ c.g c.f c.X fv xs H Q:=fun a b d=>⟨_,a,b,d⟩
 cases b with
 | len=>
  dsimp only[biV]at h
  split at h
  ·obtain⟨xs,e,q⟩:=seqOf_at h
   rcases e with e | rfl
   ·exact key (fv:=.builtin "len") (by intro a z;cases z) (fun _ _ d=>d) (QA ok.G ok.ok e q)
   ·exact key (fv:=.builtin "len") (by intro a z;cases z) (fun _ _ d=>d) (Up ok.G ok.ok q)
  ·exact h
 | abs=>
  dsimp only[biV]at h
  split at h
  ·exact key (fv:=.builtin "abs") (by intro a z;cases z) (fun _ _ d=>d) (Yu h)
  ·exact h
 | max=>
  dsimp only[biV]at h
  split at h
  ·exact key (fv:=.builtin "max") (by intro a z;cases z) (fun _ _ d=>d) (Ys h.1 h.2)
  ·exact h
 | tuple=>
  dsimp only[biV]at h
  split at h
  ·obtain⟨xs,e,hb,q⟩:=QL h
   exact key (fv:=.type "tuple") (by intro a z;cases z) (fun _ _ d=>d) (Ws ok.G ok.ok e hb q)
  ·exact h
 | list=>
  dsimp only[biV]at h
  split at h
  ·exact key (fv:=.type "list") (by intro a z;cases z) (fun _ _ d=>d) (zO ok.G ok.ok (.inr rfl) h.1 h.2)
  ·exact key (fv:=.type "list") (by intro a z;cases z) (fun _ _ d=>d) (zO ok.G ok.ok (.inl (.inl rfl)) h.1 h.2)
  ·obtain⟨xs,e,hb,q⟩:=h
   exact key (fv:=.type "list") (by intro a z;cases z) (fun _ _ d=>d) (zO ok.G ok.ok (.inl (.inr ⟨_,rfl,e⟩)) hb q)
  ·exact key (fv:=.type "list") (by intro a z;cases z) (fun _ _ d=>d) (Qe ok.G ok.ok h.1 h.2.1 h.2.2.1 (by have:=h.2.2.2.1;lia) h.2.2.2.2)
  ·exact h
 | range=>
  dsimp only[biV]at h
  split at h
  ·exact key (fv:=.type "range") (by intro a z;cases z) (fun _ _ d=>d) (Wt h)
  ·exact h
 | divmod=>
  dsimp only[biV]at h
  split at h
  ·exact key (fv:=.builtin "divmod") (by intro a z;cases z) (fun _ _ d=>d) (Wc h.1 (nopy64 h.2.1) h.2.2)
  ·exact h
 | isinstance=>
  dsimp only[biV]at h
  split at h
  ·exact key (fv:=.builtin "isinstance") (by intro a z;cases z) (fun _ _ d=>d) (Wu h)
  ·exact key (fv:=.builtin "isinstance") (by intro a z;cases z) (fun _ _ d=>d) (Wb h)
  ·exact h
 | all=>
  dsimp only[biV]at h
  split at h
  ·obtain⟨xs,e,hh,bs,rfl,q⟩:=h
   exact key (fv:=.builtin "all") (by intro a z;cases z) (fun _ _ d=>d) (Yt ok.G ok.ok hh (.inr ⟨_,rfl,e⟩) q)
  ·exact h
 | _=>exact h
end
section
variable {g:Gx}{f:Fx}{X:Ex}{ns:List Str}{σ:Lo}{H:Hp}{n:Nat}
theorem je_subV (G:g.Ok)(ok:f.Ok g n){eo ei:Expr}{pos:Pos}{Q:V→Hp→Prop}(hs:WZ ei)
  (h:JE g f X ns eo σ H (fun x H₁=>JE g f X ns ei σ H₁ (fun z H₂=>subV g x z H₂ (fun y=>Q y H₂)))):JE g f X ns (.Subscript eo ei pos) σ H Q:=by
 intro s m mu fz D S lo P E kk kE
 refine Subscript_ (h s m mu fz D S lo _ E (fun v h tk mu₁ fz₁ D₁ H₁ x S₁ le₁ d₁ q₁=>?_) kE)
 refine q₁ {s with heap:=h,toks:=tk} m mu₁ fz₁ D₁ S₁ (lo.mono le₁) _ E (fun w h₂ tk₂ mu₂ fz₂ D₂ H₂ z S₂ le₂ d₂ q₂=>?_) (fun e s' hx=>kE e s' (X.mono le₁ hx))
 have seq:∀xs,(jx H₂ x xs∨x = .tup xs)→wE xs z (fun y=>Q y H₂)→wpAny (model g.prog g.w) f.A (subscriptTail eo ei v w) P E {s with heap:=h₂,toks:=tk₂}:=by
  rintro xs e ⟨k,j,y,rfl,hi,hx,q⟩
  obtain⟨T,id',u,hT,hl,⟨a,t,rfl,rfl⟩,du,r⟩:=Ye (Q:=Q) (s:={s with heap:=h₂,toks:=tk₂}) G ok S₂ e (Den.mono (FzR.le le₂) _ _ d₁) d₂ hi hx
  exact tail_any hT hl (r P E (kk u h₂ tk₂ mu₂ fz₂ D₂ H₂ y S₂ (ja le₁ le₂) du q)) (hs _ _)
 unfold subV at q₂
 split at q₂
 ·exact seq _ (.inr rfl) q₂
 ·exact seq _ (.inl (.inl rfl)) q₂
 ·rcases q₂ with⟨xs,e,q₂⟩ | ⟨y,dg,q⟩
  ·exact seq xs (.inl (.inr ⟨_,rfl,e⟩)) q₂
  ·obtain⟨a,u,rfl,hT,hg,_⟩:=UY (s:={s with heap:=h₂,toks:=tk₂}) G ok S₂ dg (Den.mono (FzR.le le₂) _ _ d₁) d₂
   obtain⟨du,r⟩:=hg y rfl
   exact tail_any hT slot_dict_getitem.lookup (r P E (kk u h₂ (tk₂+1) mu₂ fz₂ D₂ H₂ y S₂ (ja le₁ le₂) du q)) (hs _ _)
 ·exact q₂.elim
theorem je_attV (G:g.Ok)(ok:f.Ok g n){R:Rt}(Rk:RtOk g R){e:Expr}{k:Nat}{pos:Pos}{Q:V→Hp→Prop}
  (he:eval (.Attribute e (Str.ofString (R.an k)) pos) f.env=(do
   let o ← eval e f.env
   standAt pos.atName
   let r ← holding [o] (getAttr o (Str.ofString (R.an k)) true)
   letTemporaryGo e o r
   pure r))
  (h:JE g f X ns e σ H (fun x H₁=>KB x H₁ fun C xs=>attO R C xs k fun y=>Q y H₁)):JE g f X ns (.Attribute e (Str.ofString (R.an k)) pos) σ H Q:=by
 intro s m mu fz D S lo P E k' kE
 refine Attribute_any_ (h s m mu fz D S lo _ E (fun v h tk mu₁ fz₁ D₁ H₁ x S₁ le₁ d₁ q₁=>?_) kE) he
 obtain⟨C,xs,o,cid,i,y,rfl,hi,hx,hy,q⟩:=objOf_at q₁
 obtain⟨hat,_,hi',hnd,_⟩:=Rk.fld _ _ _ hi
 exact Yf (s:={s with heap:=h,toks:=tk}) (X:=X) G ok S₁ d₁ hat hi' hnd o hx hy q P E (fun v h tk mu' fz' D' H' x st le' d q=>k' v h tk mu' fz' D' H' x st (ja le₁ le') d q) (fun e s' hx=>kE e s' (X.mono le₁ hx))
end
section
variable {c:Cx}{nm:Nm}{H:Hp}
theorem Xh {R:Rt}{x:V}{k:Nat}{P P':MK→Prop}(h:yF R x k H P)(q:∀m,P m→P' m):yF R x k H P':=by
 unfold yF at h ⊢
 split at h
 ·obtain⟨cid,j,a,b,p⟩:=h;exact⟨cid,j,a,b,q _ p⟩
 ·rcases h with⟨cid,xs,j,a,b,p⟩ | ⟨xs,m,a,b,p⟩
  ·exact .inl ⟨cid,xs,j,a,b,q _ p⟩
  ·exact .inr ⟨xs,m,a,b,q _ p⟩
 ·exact h
def MK.id:MK→String
 | .append => "list.append" | .pop => "list.pop" | .fn _ => ""
theorem lmT_of {R:Rt}{k:Nat}{m:MK}(h:lmT R k=some m):Slot "list" (Str.ofString (R.an k)) m.id∧typeOf (.builtin m.id)=pure (.type "method_descriptor")∧∀j,m≠.fn j:=by
 unfold lmT at h
 split at h
 ·rename_i e;cases h;rw[e];exact⟨PySem.F.slot_list_append,rfl,fun _ z=>by cases z⟩
 ·split at h
  ·rename_i e;cases h;rw[e];exact⟨PySem.F.slot_list_pop,rfl,fun _ z=>by cases z⟩
  ·cases h
theorem mcall_B {m:MK}{x:V}{ys:List V}{Q:V→Hp→Prop}(hm:∀j,m≠.fn j)(h:JH c m x ys H Q):jZ c.g c.f c.X (.builtin m.id) (x::ys) H Q:=by
 unfold JH at h
 split at h
 ·exact absurd rfl (hm _)
 ·obtain⟨xs,e,hb,q⟩:=h;exact yA e hb q
 ·obtain⟨xs,y,e,hb,q⟩:=h;exact Yr e hb q
 ·exact h.elim
theorem je_methV (ok:c.Ok nm){e:Expr}{k:Nat}{apos pos:Pos}{args:List Expr}{pl:Sem Bool}{σ:Lo}{Q:V→Hp→Prop}(hpl:wj args)
  (he:eval (.Call (.Attribute e (Str.ofString (c.R.an k)) apos) args [] pos) c.f.env=(do
   let ov ← eval e c.f.env
   standAt apos.atName
   let (f',first) ← holding [ov] (getMethod ov (Str.ofString (c.R.an k)) pl)
   callWith pos f' first (backTo pos (starEach args c.f.env)) (backToKw pos (keywordEach [] c.f.env))))
  (h:JE c.g c.f c.X c.ns e σ H (fun x H₁=>yF c.R x k H₁ fun m=>JEs c.g c.f c.X c.ns pos args σ H₁ (fun ys H₂=>JH c m x ys H₂ Q))) :
  JE c.g c.f c.X c.ns (.Call (.Attribute e (Str.ofString (c.R.an k)) apos) args [] pos) σ H Q:=by
 intro s m mu fz D S lo P E k' kE
 refine methodCall_KW (pl:=pl) (h s m mu fz D S lo _ E (fun v h tk mu₁ fz₁ D₁ H₁ x S₁ le₁ d₁ q₁=>?_) kE) he
 have own:∀{cid xs j},ObjAt H₁ x (c.R.cls cid) xs→c.R.mt cid k=some j→JEs c.g c.f c.X c.ns pos args σ H₁ (fun ys H₂=>JH c (.fn j) x ys H₂ Q) →
   wpAny (model c.g.prog c.g.w) c.f.A (getMethod v (Str.ofString (c.R.an k)) pl) (fun p s₁=>wpAny (model c.g.prog c.g.w) c.f.A (callWith pos p.1 p.2 (backTo pos (starEach args c.f.env)) []) P E s₁) E {s with heap:=h,toks:=tk}:=by
  intro cid xs j o hmt q₁
  obtain⟨hm,hft⟩:=ok.Rk.mth _ _ _ hmt
  obtain⟨a,ox,vs,es,n,rfl,I,en,ds⟩:=S₁.objAt (s:={s with heap:=h,toks:=tk}) ok.G ok.ok d₁ o
  simp only[UF,qM,beq_iff_eq]at hm
  refine method_inst (s:={s with heap:=h,toks:=tk}) S₁.fr (ok.ok.x ok.G) I hm.1.1.1 hm.1.1.2 hm.1.2 (Qt en hft) ?_
  refine ql (Pk:=fun h=>c.g.K.In h) hpl (keeps_K hm.2) ?_
  refine q₁ {s with heap:=h,toks:=tk} m mu₁ fz₁ D₁ S₁ (lo.mono le₁) _ E (fun ws h₂ tk₂ mu₂ fz₂ D₂ H₂ ys S₂ le₂ d₂ q₂=>⟨(ok.ok.x ok.G).keeps S₂.fr.keep,?_⟩) (fun e s' hx=>kE e s' (c.X.mono le₁ hx))
  exact wpAny_call (q₂ c.f {s with heap:=h₂,toks:=tk₂} m mu₂ fz₂ D₂ (.ref a::ws) ok.ok ok.hq (lo.mono (ja le₁ le₂)).hdl S₂ ⟨_,_,rfl,Den.mono (FzR.le le₂) _ _ d₁,d₂⟩ _ (fun v h tk mu' fz' D' H' x st le' d q=>k' v h tk mu' fz' D' H' x st (ja le₁ (ja le₂ le')) d q) (fun e s' hx=>kE e s' (c.X.mono (ja le₁ le₂) hx)))
 change yF c.R x k H₁ _ at q₁
 unfold yF at q₁
 split at q₁
 ·obtain⟨cid,j,rfl,hmt,q₁⟩:=q₁
  exact own (.inl rfl) hmt q₁
 ·rename_i a
  rcases q₁ with⟨cid,xs,j,e,hmt,q₁⟩ | ⟨xs,mk,e,hm,q₁⟩
  ·exact own (.inr ⟨a,rfl,e⟩) hmt q₁
  ·obtain⟨slot,hty,hnf⟩:=lmT_of hm
   rw[show v = .ref a from d₁]
   obtain⟨vs,n,mm,ds,b⟩:=S₁.led.list a xs e
   refine kl_method (s:={s with heap:=h,toks:=tk}) S₁.led.news (qB _ mm) slot hty ?_
   refine ql (Pk:=fun _=>True) hpl (ur (by intro _ e;cases e)) ?_
   refine q₁ {s with heap:=h,toks:=tk} m mu₁ fz₁ D₁ S₁ (lo.mono le₁) _ E (fun ws h₂ tk₂ mu₂ fz₂ D₂ H₂ ys S₂ le₂ d₂ q₂=>⟨trivial,?_⟩) (fun e s' hx=>kE e s' (c.X.mono le₁ hx))
   exact mcall_B hnf q₂ {s with heap:=h₂,toks:=tk₂} m mu₂ fz₂ D₂ (.ref a::ws) S₂ ⟨_,_,rfl,rfl,d₂⟩ P E (fun v h tk mu' fz' D' H' x st le' d q=>k' v h tk mu' fz' D' H' x st (ja le₁ (ja le₂ le')) d q) (fun e s' hx=>kE e s' (c.X.mono (ja le₁ le₂) hx))
 ·exact q₁.elim
end
section
set_option backward.match.sparseCases false
def okX:Expr→Bool
 | .Starred _ _=>false
 | .Slice _ _ _ _=>false
 | .Set _ _ _=>false
 | _=>true
def wG:Expr→Bool
 | .Call _ _ _ _=>false
 | _=>true
theorem Jx {e:Expr}(h:okX e=true)(es:List Expr)(env:Env):starEach (e::es) env=(false,eval e env)::starEach es env:=by
 cases e<;>first | rfl | cases h
theorem slice_ok {e:Expr}(h:okX e=true):WZ e:=fun o i=>by
 cases e<;>first | rfl | cases h
theorem Kh {e:Expr}(h:okX e=true)(op:CmpOp):behindInMarks op e=false:=by
 cases e<;>first | rfl | cases h
theorem JM {e:Expr}(h:okX e=true)(env:Env)(x:Value):foldedSetIterable e env x=pure x:=by
 cases e<;>first | rfl | cases h
theorem qg {p:PE}{nm:Nm}{e:Expr}(h:isE p nm e=true):okX e=true:=by
 cases e<;>first | rfl | (cases p<;>exact no h)
theorem zw {p:PE}{nm:Nm}{e:Expr}(h:isE p nm e=true)(hp:p.nc=true):wG e=true:=by
 cases e<;>first | rfl | (cases p<;>first | exact no h | cases hp)
theorem isL_cns {p:PE}{nm:Nm}{e:Expr}{l:List Expr}(h:isL p nm (e::l)=true):∃q r,p = .cons q r:=by
 cases p with
 | cons q r=>exact⟨q,r,rfl⟩
 | _=>exact no h
theorem qu {p:PE}{nm:Nm}{es:List Expr}(h:isL p nm es=true):wj es:=by
 induction es generalizing p with
 | nil=>intro env;rfl
 | cons e l ih=>
  intro env
  obtain⟨q,r,rfl⟩:=isL_cns h
  have h':(isE q nm e&&isL r nm l)=true:=h
  rw[qM]at h'
  rw[Jx (qg h'.1),ih h'.2 env];rfl
theorem WX {e:Expr}(h:wG e=true)(a:Str)(env:Env)(w:Sem Value):attributeBase e a env w=w:=by
 cases e<;>first | rfl | cases h
theorem We {e:Expr}(h:wG e=true)(k:Str)(pos:Pos)(env:Env):eval (.Attribute e k pos) env=(do
   let o ← eval e env
   standAt pos.atName
   let r ← holding [o] (getAttr o k true)
   letTemporaryGo e o r
   pure r):=by
 show(do
   let o ← attributeBase e k env (eval e env)
   standAt pos.atName
   let r ← holding [o] (getAttr o k true)
   letTemporaryGo e o r
   pure r)=_
 rw[WX h]
theorem form_ok {args:List Expr}(h:wj args)(hl:args.length<20)(pos:Pos)(env:Env):methodCallForm (args.length+([]:List Keyword).length) (backTo pos (starEach args env)) (backToKw pos (keywordEach [] env))=true:=by
 rw[Ju h]
 unfold methodCallForm
 simp only[List.all_map,qM,decide_eq_true_eq]
 refine⟨⟨?_,rfl⟩,?_⟩
 ·rw[qQ];intro x _;rfl
 ·show args.length+0+0<30;lia
theorem meth_ev {e:Expr}(h:wG e=true){args:List Expr}(hp:wj args)(hl:args.length<20)(k:Str){apos pos:Pos}(hpos:apos.endLine=pos.line)(env:Env):∃pl,eval (.Call (.Attribute e k apos) args [] pos) env=(do
   let ov ← eval e env
   standAt apos.atName
   let (f',first) ← holding [ov] (getMethod ov k pl)
   callWith pos f' first (backTo pos (starEach args env)) (backToKw pos (keywordEach [] env))):=by
 refine⟨do return (← importBound e env).getD true,?_⟩
 show(do
  let ov ← attributeBase e k env (eval e env)
  standAt apos.atName
  methodCall e k apos pos env ov (args.length+([]:List Keyword).length) (backTo pos (starEach args env)) (backToKw pos (keywordEach [] env)))=_
 rw[WX h]
 unfold methodCall
 rw[form_ok hp hl]
 unfold calleeOf methodCallPos
 simp only[hpos,Bool.not_true,Bool.false_or,beq_self_eq_true,if_true]
 rfl
theorem call_ev {f:Expr}(h:(match f with | .Attribute _ _ _=>false | _=>true)=true)(args:List Expr)(pos:Pos)(env:Env):eval (.Call f args [] pos) env=(do callWith pos (← eval f env) [] (backTo pos (starEach args env)) (backToKw pos (keywordEach [] env))):=by
 cases f<;>first | rfl | cases h
def byVal:Expr→Bool
 | .UnaryOp .Not _ _=>false
 | .BoolOp _ _ _=>false
 | .IfExp _ _ _ _=>false
 | .Compare _ _ _ _=>false
 | _=>true
theorem true_ev {e:Expr}(h:byVal e=true)(env:Env)(whole:Sem Value):isTrue e env whole=(do let v ← whole;standAt e.pos;holding [v] (truthy v)):=by
 cases e with
 | UnaryOp op x pos=>cases op<;>first | rfl | cases h
 | BoolOp op x pos=>cases h
 | IfExp a b c pos=>cases h
 | Compare a b c pos=>cases h
 | _=>rfl
end
section
variable {c:Cx}{nm:Nm}
theorem yn (ok:c.Ok nm){i:Nat}{x:String}{k:GK}(hi:nm.gs.contains i=true)(hx:c.R.gT[i]? = some (x,k)){pos:Pos}{σ:Lo}{H:Hp}{Q:V→Hp→Prop}(q:Q (k.v c.R) H):JE c.g c.f c.X c.ns (.Name (Str.ofString x) pos) σ H Q:=by
 have hg:=ok.glb i (List.contains_iff_mem.mp hi)
 unfold gOk at hg
 rw[hx]at hg
 simp only[qM,beq_iff_eq,Bool.not_eq_true']at hg
 rcases ok.Rk.glob i x k hx with⟨val,e,d⟩ | ⟨e,val,hv,hn,d⟩
 ·exact Mine.je_glob ok.G ok.ok hg.1 hg.2 e d q
 ·exact Mine.KI ok.G ok.ok hg.1 hg.2 e hv (fun z=>hn (qp z)) (fun fz=>d _ _) q
theorem isE_loc {i:Nat}{e:Expr}(h:isE (.loc i) nm e=true):∃x pos,e = .Name x pos∧nm.ns[i]? = some x:=by
 cases e<;>first | exact no h | exact⟨_,_,rfl,beq_iff_eq.mp h⟩
theorem wZ {i:Nat}{e:Expr}(h:isE (.glb i) nm e=true):∃x k pos,e = .Name (Str.ofString x) pos∧nm.gs.contains i=true∧nm.R.gT[i]? = some (x,k):=by
 cases e<;>try exact no h
 rename_i y pos
 have h':(nm.gs.contains i&&(match nm.R.gT[i]? with | some (z,_)=>y==Str.ofString z | none=>false))=true:=h
 rw[qM]at h'
 obtain⟨h1,h2⟩:=h'
 cases hx:nm.R.gT[i]? with
 | none=>rw[hx]at h2;cases h2
 | some p=>
  obtain⟨x,k⟩:=p
  rw[hx]at h2
  exact⟨x,k,pos,by rw[beq_iff_eq.mp h2],h1,rfl⟩
theorem andT {a b:Bool}(h:(a&&b)=true):a=true∧b=true:=by rw[qM]at h;exact h
theorem isE_bin {op:Operator}{l r:PE}{e:Expr}(h:isE (.bin op l r) nm e=true):∃a b pos,e = .BinOp a op b pos∧isE l nm a=true∧isE r nm b=true:=by
 cases e<;>try exact no h
 obtain⟨h,h3⟩:=andT h
 obtain⟨h1,h2⟩:=andT h
 exact⟨_,_,_,by rw[jB h1],h2,h3⟩
theorem WJ {p:PE}{e:Expr}(h:isE (.neg p) nm e=true):∃a pos,e = .UnaryOp .USub a pos∧isE p nm a=true:=by
 cases e<;>try exact no h
 obtain⟨h1,h2⟩:=andT h
 exact⟨_,_,by rw[jB h1],h2⟩
theorem isE_not {p:PE}{e:Expr}(h:isE (.not_ p) nm e=true):∃a pos,e = .UnaryOp .Not a pos∧isE p nm a=true:=by
 cases e<;>try exact no h
 obtain⟨h1,h2⟩:=andT h
 exact⟨_,_,by rw[jB h1],h2⟩
theorem WL {op:CmpOp}{l r:PE}{e:Expr}(h:isE (.cmp op l r) nm e=true):∃a b pos,e = .Compare a [op] [b] pos∧isE l nm a=true∧isE r nm b=true:=by
 cases e<;>try exact no h
 rename_i a ops bs pos
 rcases ops with _ | ⟨o,_ | ⟨o2,_⟩⟩<;>rcases bs with _ | ⟨b,_ | ⟨b2,_⟩⟩<;>try exact no h
 obtain⟨h,h3⟩:=andT h
 obtain⟨h1,h2⟩:=andT h
 exact⟨_,_,_,by rw[jB h1],h2,h3⟩
theorem Yb {o1 o2:CmpOp}{l r r':PE}{e:Expr}(h:isE (.chain o1 o2 l r r') nm e=true):∃a b b' pos,e = .Compare a [o1,o2] [b,b'] pos∧isE l nm a=true∧isE r nm b=true∧isE r' nm b'=true:=by
 cases e<;>try exact no h
 rename_i a ops bs pos
 rcases ops with _ | ⟨o,_ | ⟨p,_ | ⟨q,_⟩⟩⟩<;>rcases bs with _ | ⟨b,_ | ⟨b2,_ | ⟨b3,_⟩⟩⟩<;>try exact no h
 obtain⟨h,h5⟩:=andT h
 obtain⟨h,h4⟩:=andT h
 obtain⟨h,h3⟩:=andT h
 obtain⟨h1,h2⟩:=andT h
 exact⟨_,_,_,_,by rw[jB h1,jB h2],h3,h4,h5⟩
theorem WM {es:PE}{e:Expr}(h:isE (.and_ es) nm e=true):∃l pos,e = .BoolOp .And l pos∧isL es nm l=true∧l≠[]:=by
 cases e<;>try exact no h
 obtain⟨h,h3⟩:=andT h
 obtain⟨h1,h2⟩:=andT h
 exact⟨_,_,by rw[jB h1],h2,fun z=>by rw[z]at h3;cases h3⟩
theorem isE_or {es:PE}{e:Expr}(h:isE (.or_ es) nm e=true):∃l pos,e = .BoolOp .Or l pos∧isL es nm l=true∧l≠[]:=by
 cases e<;>try exact no h
 obtain⟨h,h3⟩:=andT h
 obtain⟨h1,h2⟩:=andT h
 exact⟨_,_,by rw[jB h1],h2,fun z=>by rw[z]at h3;cases h3⟩
theorem WK {t b o:PE}{e:Expr}(h:isE (.ifx t b o) nm e=true):∃x y z pos,e = .IfExp x y z pos∧isE t nm x=true∧isE b nm y=true∧isE o nm z=true:=by
 cases e<;>try exact no h
 obtain⟨h,h3⟩:=andT h
 obtain⟨h1,h2⟩:=andT h
 exact⟨_,_,_,_,rfl,h1,h2,h3⟩
theorem WI {o i:PE}{e:Expr}(h:isE (.sub o i) nm e=true):∃a b pos,e = .Subscript a b pos∧isE o nm a=true∧isE i nm b=true:=by
 cases e<;>try exact no h
 obtain⟨h1,h2⟩:=andT h
 exact⟨_,_,_,rfl,h1,h2⟩
theorem Ya {o lo hi:PE}{e:Expr}(h:isE (.slice o lo hi) nm e=true):∃a l u p pos,e = .Subscript a (.Slice l u none p) pos∧isE o nm a=true∧isO lo nm l=true∧isO hi nm u=true:=by
 cases e<;>try exact no h
 rename_i a b pos
 cases b<;>try exact no h
 rename_i l u st p
 cases st<;>try exact no h
 obtain⟨h,h3⟩:=andT h
 obtain⟨h1,h2⟩:=andT h
 exact⟨_,_,_,_,_,rfl,h1,h2,h3⟩
theorem isE_att {o:PE}{k:Nat}{e:Expr}(h:isE (.att o k) nm e=true):∃a pos,e = .Attribute a (Str.ofString (nm.R.an k)) pos∧isE o nm a=true∧wG a=true:=by
 cases e<;>try exact no h
 obtain⟨h,h3⟩:=andT h
 obtain⟨h1,h2⟩:=andT h
 refine⟨_,_,by rw[beq_iff_eq.mp h1],h2,zw h2 h3⟩
theorem isE_xwhy {o:PE}{e:Expr}(h:isE (.xwhy o) nm e=true):∃a pos,e = .Attribute a (Str.ofString "why") pos∧isE o nm a=true∧wG a=true:=by
 cases e<;>try exact no h
 obtain⟨h,h3⟩:=andT h
 obtain⟨h1,h2⟩:=andT h
 exact⟨_,_,by rw[beq_iff_eq.mp h1],h2,zw h2 h3⟩
theorem isE_meth {o args:PE}{k:Nat}{e:Expr}(h:isE (.meth o k args) nm e=true):∃a apos as pos,e = .Call (.Attribute a (Str.ofString (nm.R.an k)) apos) as [] pos∧isE o nm a=true∧wG a=true∧isL args nm as=true∧apos.endLine=pos.line∧as.length<20:=by
 cases e<;>try exact no h
 rename_i fn as kw pos
 cases fn<;>cases kw<;>try exact no h
 obtain⟨h,h6⟩:=andT h
 obtain⟨h,h5⟩:=andT h
 obtain⟨h,h4⟩:=andT h
 obtain⟨h,h3⟩:=andT h
 obtain⟨h1,h2⟩:=andT h
 refine⟨_,_,_,_,by rw[beq_iff_eq.mp h1],h2,zw h2 h4,h3,jB h5,jB h6⟩
theorem zy {fn args:PE}{e:Expr}(h:isE (.call fn args) nm e=true):∃f as pos,e = .Call f as [] pos∧isE fn nm f=true∧isL args nm as=true∧fn.fnk=true:=by
 cases e<;>try exact no h
 rename_i f as kw pos
 have key:∀{f:Expr} {as:List Expr},(isE fn nm f&&isL args nm as&&fn.fnk)=true→∃f' as' pos',Expr.Call f as [] pos = .Call f' as' [] pos'∧isE fn nm f'=true∧isL args nm as'=true∧fn.fnk=true:=by
  intro f as h
  obtain⟨h,h3⟩:=andT h
  obtain⟨h1,h2⟩:=andT h
  exact⟨_,_,_,rfl,h1,h2,h3⟩
 cases kw<;>first | (cases f<;>exact no h) | skip
 exact key (by cases f<;>exact h)
theorem isE_tup {es:PE}{e:Expr}(h:isE (.tup es) nm e=true):∃l k pos,e = .Tuple l k pos∧isL es nm l=true∧l.length≤1000:=by
 cases e<;>try exact no h
 obtain⟨h1,h2⟩:=andT h
 exact⟨_,_,_,rfl,h1,jB h2⟩
theorem isE_lst {es:PE}{e:Expr}(h:isE (.lst es) nm e=true):∃l pos,e = .List l pos∧isL es nm l=true∧l.length≤1000:=by
 cases e<;>try exact no h
 obtain⟨h1,h2⟩:=andT h
 exact⟨_,_,rfl,h1,jB h2⟩
theorem isE_di0 {e:Expr}(h:isE .di0 nm e=true):∃pos,e = .Dict [] [] pos:=by
 cases e<;>try exact no h
 rename_i ks vs pos
 cases ks<;>cases vs<;>first | exact no h | exact⟨_,rfl⟩
theorem isE_ds0 {e:Expr}(h:isE .ds0 nm e=true):∃pos,e = .Dict [] [] pos:=by
 cases e<;>try exact no h
 rename_i ks vs pos
 cases ks<;>cases vs<;>first | exact no h | exact⟨_,rfl⟩
theorem isE_dis {ks:List String}{vs:PE}{e:Expr}(h:isE (.dis ks vs) nm e=true):∃kl vl pos,e = .Dict kl vl pos∧uE ks kl=true∧isL vs nm vl=true∧kl.length=vl.length∧kl.length≤15∧kl≠[]∧ks.Nodup:=by
 cases e<;>try exact no h
 rename_i kl vl pos
 obtain⟨h,h6⟩:=andT (show(uE ks kl&&isL vs nm vl&&decide (kl.length=vl.length)&&decide (kl.length≤15)&&!kl.isEmpty&&decide ks.Nodup)=true from by cases kl<;>cases vl<;>exact h)
 obtain⟨h,h5⟩:=andT h
 obtain⟨h,h4⟩:=andT h
 obtain⟨h,h3⟩:=andT h
 obtain⟨h1,h2⟩:=andT h
 exact⟨_,_,_,rfl,h1,h2,jB h3,jB h4,(fun z=>by rw[z]at h5;cases h5),jB h6⟩
theorem isE_dii {ks:List Int}{vs:PE}{e:Expr}(h:isE (.dii ks vs) nm e=true):∃kl vl pos,e = .Dict kl vl pos∧uJ ks kl=true∧isL vs nm vl=true∧kl.length=vl.length∧kl.length≤15∧kl≠[]∧ks.Nodup:=by
 cases e<;>try exact no h
 rename_i kl vl pos
 obtain⟨h,h6⟩:=andT (show(uJ ks kl&&isL vs nm vl&&decide (kl.length=vl.length)&&decide (kl.length≤15)&&!kl.isEmpty&&decide ks.Nodup)=true from by cases kl<;>cases vl<;>exact h)
 obtain⟨h,h5⟩:=andT h
 obtain⟨h,h4⟩:=andT h
 obtain⟨h,h3⟩:=andT h
 obtain⟨h1,h2⟩:=andT h
 exact⟨_,_,_,rfl,h1,h2,jB h3,jB h4,(fun z=>by rw[z]at h5;cases h5),jB h6⟩
theorem UL {bns:List Str}{elt tgt iter:PE}{e:Expr}(h:isE (.comp bns elt tgt iter) nm e=true):∃elt' tgt' iter' sc pos,e = .ListComp elt' [⟨tgt',iter',[],0⟩] sc pos∧nm.top=true∧isE elt {nm with ns:=bns,gs:=ju elt,top:=false} elt'=true∧tgtOk bns tgt tgt'=true∧isE iter nm iter'=true∧yR sc=true∧bns.all (lOk sc)=true∧bns.Nodup∧(ju elt).all (gOk nm.R.gT sc)=true:=by
 cases e<;>try exact no h
 rename_i elt' gens sc pos
 rcases gens with _ | ⟨⟨tgt',iter',_ | ⟨_,_⟩,asy⟩,_ | ⟨_,_⟩⟩<;>try exact no h
 obtain⟨h,g9⟩:=andT h
 obtain⟨h,g8⟩:=andT h
 obtain⟨h,g7⟩:=andT h
 obtain⟨h,g6⟩:=andT h
 obtain⟨h,g5⟩:=andT h
 obtain⟨h,g4⟩:=andT h
 obtain⟨h,g3⟩:=andT h
 obtain⟨g1,g2⟩:=andT h
 exact⟨_,_,_,_,_,by rw[jB g1],g2,g3,g4,g5,g6,g7,jB g8,g9⟩
end
section
set_option backward.match.sparseCases false
theorem isL_nil {nm:Nm}{p:PE}(h:isL p nm []=true):p = .nil:=by
 cases p<;>first | rfl | exact no h
theorem isL_cons {nm:Nm}{p:PE}{e:Expr}{es:List Expr}(h:isL p nm (e::es)=true):∃p' r,p = .cons p' r∧isE p' nm e=true∧isL r nm es=true:=by
 cases p<;>try exact no h
 obtain⟨a,b⟩:=andT h
 exact⟨_,_,rfl,a,b⟩
theorem ww {nm:Nm}{es:List Expr}(h:isL .nil nm es=true):es=[]:=by
 cases es<;>first | rfl | exact no h
theorem qj {nm:Nm}{p r:PE}{es:List Expr}(h:isL (.cons p r) nm es=true):∃e l,es=e::l∧isE p nm e=true∧isL r nm l=true:=by
 cases es<;>try exact no h
 obtain⟨a,b⟩:=andT h
 exact⟨_,_,rfl,a,b⟩
theorem isO_nil {nm:Nm}{o:Option Expr}(h:isO .nil nm o=true):o=none:=by
 cases o<;>first | rfl | exact no h
theorem isO_cons {nm:Nm}{p r:PE}{o:Option Expr}(h:isO (.cons p r) nm o=true):∃e,o=some e∧isE p nm e=true:=by
 cases o<;>first | exact no h | exact⟨_,rfl,h⟩
def PE.isLst:PE→Bool
 | .nil=>true | .cons _ _=>true | _=>false
theorem Qs {nm:Nm}{p:PE}{es:List Expr}(h:isL p nm es=true):p = .nil∨∃a r,p = .cons a r:=by
 cases es with
 | nil=>exact .inl (isL_nil h)
 | cons e es=>obtain⟨a,r,h,_⟩:=isL_cons h;exact .inr ⟨a,r,h⟩
section
variable {g:Gx}{f:Fx}{X:Ex}{ns:List Str}{σ:Lo}
theorem JEs.mono {pos:Pos}{es:List Expr}{H:Hp}{Q Q':List V→Hp→Prop}(h:JEs g f X ns pos es σ H Q)(q:∀x H,Q x H→Q' x H):JEs g f X ns pos es σ H Q':=
 fun s m mu fz D S lo P E k kE=>h s m mu fz D S lo P E (fun v h tk mu' fz' D' H' x st le d hq=>k v h tk mu' fz' D' H' x st le d (q _ _ hq)) kE
theorem JC.mono {e:Expr}{H:Hp}{Q Q':Prop→Hp→Prop}(h:JC g f X ns e σ H Q)(q:∀x H,Q x H→Q' x H):JC g f X ns e σ H Q':=
 fun s m mu fz D S lo P E k kE=>h s m mu fz D S lo P E (fun v h tk mu' fz' D' H' x st le d hq=>k v h tk mu' fz' D' H' x st le d (q _ _ hq)) kE
theorem JP.mono {e:Option Expr}{H:Hp}{Q Q':Option Int→Hp→Prop}(h:JP g f X ns e σ H Q)(q:∀x H,Q x H→Q' x H):JP g f X ns e σ H Q':=by
 cases e with
 | none=>exact q _ _ h
 | some e=>exact JE.mono h fun x H ⟨i,a,b⟩=>⟨i,a,q _ _ b⟩
theorem JPs.mono:∀{ks:List (Option Expr)} {vs:List Expr} {H:Hp} {Q Q':List (V×V)→Hp→Prop},JPs g f X ns ks vs σ H Q→(∀x H,Q x H→Q' x H)→JPs g f X ns ks vs σ H Q'
 | [],[],_,_,_,h,q=>q _ _ h
 | some _::_,_::_,_,_,_,h,q=>JE.mono h fun _ _ h=>JE.mono h fun _ _ h=>JPs.mono h fun _ _=>q _ _
 | [],_::_,_,_,_,h,_ | some _::_,[],_,_,_,h,_ | none::_,[],_,_,_,h,_ | none::_,_::_,_,_,_,h,_=>h.elim
end
theorem QE {k:String}{o:Option Expr}(h:strKey k o=true):∃p q,o=some (.Constant (.str (Str.ofString k)) p q)∧(Str.ofString k).length≤sizeLine:=by
 cases o with
 | none=>exact no h
 | some e=>
  cases e<;>try exact no h
  rename_i k _ _
  cases k<;>try exact no h
  obtain⟨h1,h2⟩:=andT h
  exact⟨_,_,by rw[beq_iff_eq.mp h1],jB h2⟩
theorem QO {k:Int}{o:Option Expr}(h:intKey k o=true):∃p q,o=some (.Constant (.int k) p q):=by
 cases o with
 | none=>exact no h
 | some e=>
  cases e<;>try exact no h
  rename_i k _ _
  cases k<;>try exact no h
  exact⟨_,_,by rw[beq_iff_eq.mp (show(_==_)=true from h)]⟩
theorem zW:∀{ks:List String} {kl:List (Option Expr)},uE ks kl=true→kl.all (·.isSome)=true∧ks.length=kl.length:=by
 intro ks
 induction ks with
 | nil=>intro kl h;cases kl<;>first | exact⟨rfl,rfl⟩ | exact no h
 | cons k ks ih=>
  intro kl h
  cases kl with
  | nil=>exact no h
  | cons o l=>
   obtain⟨h1,h2⟩:=andT h
   obtain⟨p,q,rfl,_⟩:=QE h1
   obtain⟨a,b⟩:=ih h2
   exact⟨by rw[List.all_cons,a];rfl,by rw[qE,qE,b]⟩
theorem Jg:∀{ks:List Int} {kl:List (Option Expr)},uJ ks kl=true→kl.all (·.isSome)=true∧ks.length=kl.length:=by
 intro ks
 induction ks with
 | nil=>intro kl h;cases kl<;>first | exact⟨rfl,rfl⟩ | exact no h
 | cons k ks ih=>
  intro kl h
  cases kl with
  | nil=>exact no h
  | cons o l=>
   obtain⟨h1,h2⟩:=andT h
   obtain⟨p,q,rfl⟩:=QO h1
   obtain⟨a,b⟩:=ih h2
   exact⟨by rw[List.all_cons,a];rfl,by rw[qE,qE,b]⟩
theorem Uv {ks:List String}{kl:List (Option Expr)}{e:Expr}{l:List Expr}(h:uE ks kl=true)(hl:kl.length=(e::l).length):∃k ks' p q kl',ks=k::ks'∧kl=some (.Constant (.str (Str.ofString k)) p q)::kl'∧(Str.ofString k).length≤sizeLine∧uE ks' kl'=true:=by
 cases kl with
 | nil=>cases hl
 | cons o kl=>
  cases ks with
  | nil=>exact no h
  | cons k ks=>
   obtain⟨h1,h2⟩:=andT h
   obtain⟨p,q,rfl,a⟩:=QE h1
   exact⟨k,ks,p,q,kl,rfl,rfl,a,h2⟩
theorem UN {ks:List Int}{kl:List (Option Expr)}{e:Expr}{l:List Expr}(h:uJ ks kl=true)(hl:kl.length=(e::l).length):∃k ks' p q kl',ks=k::ks'∧kl=some (.Constant (.int k) p q)::kl'∧True∧uJ ks' kl'=true:=by
 cases kl with
 | nil=>cases hl
 | cons o kl=>
  cases ks with
  | nil=>exact no h
  | cons k ks=>
   obtain⟨h1,h2⟩:=andT h
   obtain⟨p,q,rfl⟩:=QO h1
   exact⟨k,ks,p,q,kl,rfl,rfl,trivial,h2⟩
theorem Kc {g:Gx}{f:Fx}{X:Ex}{x:V}{H:Hp}{Q Q':Prop→Hp→Prop}(h:OpT g f X x H Q)(q:∀x H,Q x H→Q' x H):OpT g f X x H Q':=
 fun s m mu fz D v S d P E k kE=>h s m mu fz D v S d P E (fun b h tk mu' fz' D' H' p st le e hq=>k b h tk mu' fz' D' H' p st le e (q _ _ hq)) kE
def PE.byVal:PE→Bool
 | .not_ _=>false | .and_ _=>false | .or_ _=>false | .ifx _ _ _=>false | .cmp _ _ _=>false | .chain _ _ _ _ _=>false | .nil=>false | .cons _ _=>false | _=>true
theorem Yc {p:PE}{nm:Nm}{e:Expr}(h:isE p nm e=true)(hp:p.byVal=true):byVal e=true:=by
 cases e with
 | UnaryOp op a pos=>cases p<;>first | exact no h | (cases hp;done) | (obtain⟨_,_,e,_⟩:=WJ h;cases e;rfl)
 | BoolOp op a pos=>cases p<;>first | exact no h | cases hp
 | IfExp a b d pos=>cases p<;>first | exact no h | cases hp
 | Compare a b d pos=>cases p<;>first | exact no h | cases hp
 | _=>rfl
theorem Ut {bns:List Str}{t:PE}{e:Expr}(h:tgtOk bns t e=true):(∃i x pos,t = .loc i∧e = .Name x pos∧bns[i]? = some x) ∨
  ∃i j x x' p p' k pos,t = .tup (.cons (.loc i) (.cons (.loc j) .nil))∧e = .Tuple [.Name x p,.Name x' p'] k pos∧bns[i]? = some x∧bns[j]? = some x':=by
 have no:∀{Pq:Prop},false=true→Pq:=fun h=>absurd h Bool.false_ne_true
 cases t with
 | loc i=>cases e with
  | Name x p=>exact .inl ⟨_,_,_,rfl,rfl,beq_iff_eq.mp h⟩
  | _=>exact no h
 | tup l=>cases l with
  | cons a r=>cases a with
   | loc i=>cases r with
    | cons b r=>cases b with
     | loc j=>cases r with
      | nil=>cases e with
       | Tuple l k pos=>cases l with
        | nil=>exact no h
        | cons x l=>cases x with
         | Name x p=>cases l with
          | nil=>exact no h
          | cons y l=>cases y with
           | Name y p'=>cases l with
            | nil=>
             have h':(bns[i]? == some x&&bns[j]? == some y)=true:=h
             rw[qM,beq_iff_eq,beq_iff_eq]at h'
             exact .inr ⟨_,_,_,_,_,_,_,_,rfl,rfl,h'⟩
            | cons=>exact no h
           | _=>exact no h
         | _=>exact no h
       | _=>exact no h
      | _=>exact no h
     | _=>exact no h
    | _=>exact no h
   | _=>exact no h
  | _=>exact no h
 | _=>exact no h
theorem yj:∀{σ:Lo} {i:Nat} {v:V},nthL σ i=some v→σ[i]? = some (some v)
 | x::_,0,v,h=>by rw[show x=some v from h];rfl
 | _::l,i+1,v,h=>by rw[List.getElem?_cons_succ];exact yj (σ:=l) h
theorem QJ {bns:List Str}(nd:bns.Nodup):∀{pvs:List (Nat×V)},(∀p∈pvs,p.1<bns.length)→∀{j:Nat} {v:V},nthP pvs j=some v→∀{z:Str},bns[j]? = some z→(psOf bns pvs).lookup z=some v
 | [],_,j,v,h,_,_=>by cases h
 | p::r,hl,j,v,h,z,hz=>by
  have hp:=hl p (.head _)
  have e:bns.getD p.1 default=bns[p.1]:=by rw[qP,qH hp];rfl
  show List.lookup z ((bns.getD p.1 default,p.2)::psOf bns r)=some v
  rw[e,List.lookup_cons]
  unfold nthP at h
  by_cases q:p.1=j
  ·have hz':=hz
   rw[← q,qH hp]at hz'
   cases hz'
   rw[beq_self_eq_true]
   obtain⟨a,b⟩:=p
   simp only at q h
   rw[if_pos (by first | exact q | exact q.symm)]at h
   exact h
  ·have hj:=(qF.mp hz).1
   have ne:z≠bns[p.1]:=fun w=>q (by
    have h1:bns[j]=bns[p.1]:=by rw[← w];exact(qF.mp hz).2
    exact((List.getElem_inj nd).mp h1).symm)
   rw[beq_false_of_ne ne]
   obtain⟨a,b⟩:=p
   simp only at q h
   rw[if_neg (by first | exact q | exact fun w=>q w.symm)]at h
   exact QJ nd (fun p hp=>hl p (.tail _ hp)) h hz
theorem blk_loc {c:Cx}(ok:Fx.Ok c.g c.f c.n){b:Bk}(hb:c.f.bk=some b){bns:List Str}{pvs:List (Nat×V)}(hrd:c.rd=rdB b.C bns pvs)(hl:bns.all (lOk c.f.env.scope)=true)
  (hp:∀(i:Nat) (x:Str),bns[i]? = some x→∀v,nthP pvs i=some v→(psOf bns pvs).lookup x=some v) {i:Nat} {x:Str} (hx:bns[i]? = some x) {pos:Pos} {σ:Lo} {H:Hp} {Q:V→Hp→Prop} (q:c.rd i σ H (fun v=>Q v H)):JE c.g c.f c.X c.ns (.Name x pos) σ H Q:=by
 rw[hrd]at q
 obtain⟨e,q⟩:=q
 have hx':=qQ.mp hl x (qW hx)
 unfold lOk at hx'
 rw[qM,beq_iff_eq,Bool.not_eq_true']at hx'
 cases hv:nthP pvs i with
 | none=>rw[hv]at q;exact q.elim
 | some v=>
  rw[hv]at q
  exact je_blk ok hb hx'.1 hx'.2 e (hp i x hx v hv) q
def SE (p:PE):Prop:=∀{c:Cx} {nm:Nm} (ok:c.Ok nm) {e:Expr} {σ:Lo} {H:Hp} {Q:V→Hp→Prop},isE p nm e=true→vcE p c σ H Q→JE c.g c.f c.X c.ns e σ H Q
def SC (p:PE):Prop:=∀{c:Cx} {nm:Nm} (ok:c.Ok nm) {e:Expr} {σ:Lo} {H:Hp} {Q:Prop→Hp→Prop},isE p nm e=true→vcC p c σ H Q→JC c.g c.f c.X c.ns e σ H Q
structure Snd (p:PE):Prop where
 E:SE p
 C:SC p
 L:∀{c:Cx} {nm:Nm} (ok:c.Ok nm) {pos:Pos} {es:List Expr} {σ:Lo} {H:Hp} {Q:List V→Hp→Prop},isL p nm es=true→vcL p c σ H Q→JEs c.g c.f c.X c.ns pos es σ H (fun xs H=>xs.length=es.length∧Q xs H)
 O:∀{c:Cx} {nm:Nm} (ok:c.Ok nm) {o:Option Expr} {σ:Lo} {H:Hp} {Q:Option Int→Hp→Prop},isO p nm o=true→vcO p c σ H Q→JP c.g c.f c.X c.ns o σ H Q
 Ps:∀{c:Cx} {nm:Nm} (ok:c.Ok nm) {ks:List String} {kl:List (Option Expr)} {vl:List Expr} {σ:Lo} {H:Hp} {Q:List V→Hp→Prop},uE ks kl=true→kl.length=vl.length→isL p nm vl=true→vcL p c σ H Q→JPs c.g c.f c.X c.ns kl vl σ H (fun r H=>∃ys,r=(ks.zip ys).map (fun p=>(V.str p.1,p.2))∧ys.length=vl.length∧Q ys H)
 Pi:∀{c:Cx} {nm:Nm} (ok:c.Ok nm) {ks:List Int} {kl:List (Option Expr)} {vl:List Expr} {σ:Lo} {H:Hp} {Q:List V→Hp→Prop},uJ ks kl=true→kl.length=vl.length→isL p nm vl=true→vcL p c σ H Q→JPs c.g c.f c.X c.ns kl vl σ H (fun r H=>∃ys,r=(ks.zip ys).map (fun p=>(V.int p.1,p.2))∧ys.length=vl.length∧Q ys H)
 B:∀{c:Cx} {nm:Nm} (ok:c.Ok nm) {pos:Pos} {op:BoolOp} {es:List Expr} {σ:Lo} {H:Hp} {Q:V→Hp→Prop},isL p nm es=true→vcB p c op σ H Q→JBo c.g c.f c.X c.ns pos op es σ H Q
 T:∀{c:Cx} {nm:Nm} (ok:c.Ok nm) {op:BoolOp} {es:List Expr} {σ:Lo} {H:Hp} {Q:Prop→Hp→Prop},isL p nm es=true→vcT p c op σ H Q→JAl c.g c.f c.X c.ns op es σ H Q
theorem noL {p:PE}(hp:p.isLst=false){nm:Nm}{es:List Expr}(h:isL p nm es=true):False:=by
 rcases Qs h with rfl | ⟨a,r,rfl⟩<;>cases hp
theorem noO {p:PE}(hp:p.isLst=false){nm:Nm}{o:Option Expr}(h:isO p nm o=true):False:=by
 cases p<;>first | exact no h | cases hp
theorem Snd.of {p:PE}(hp:p.isLst=false)(E:SE p)(C:SC p):Snd p:=
 ⟨E,C,by intro c nm ok pos es σ H Q h _;exact(noL hp h).elim,by intro c nm ok o σ H Q h _;exact(noO hp h).elim,by intro c nm ok ks kl vl σ H Q _ _ h _;exact(noL hp h).elim,by intro c nm ok ks kl vl σ H Q _ _ h _;exact(noL hp h).elim,by intro c nm ok pos op es σ H Q h _;exact(noL hp h).elim,by intro c nm ok op es σ H Q h _;exact(noL hp h).elim⟩
theorem Snd.val {p:PE}(hp:p.isLst=false)(hb:p.byVal=true)(hv:∀c σ H Q,vcC p c σ H Q=vcE p c σ H fun x H=>truV c x H Q)(E:SE p):Snd p:=
 .of hp E (by intro c nm ok e σ H Q h q;rw[hv]at q;exact jc_of (JE.mono (E ok h q) fun _ _ q=>wD ok q) fun env w=>true_ev (Yc h hb) env w)
theorem snd_nil:Snd .nil where
 E:=by intro c nm ok e σ H Q h q;exact q.elim
 C:=by intro c nm ok e σ H Q h q;exact q.elim
 L:=by
  intro c nm ok pos es σ H Q h q
  rw[ww h];exact Qq ⟨rfl,q⟩
 O:=by
  intro c nm ok o σ H Q h q
  rw[isO_nil h];exact q
 Ps:=by
  intro c nm ok ks kl es σ H Q hk hl h q
  have:=ww h;subst this
  cases kl with
  | cons _ _=>cases hl
  | nil=>exact⟨[],by simp,rfl,q⟩
 Pi:=by
  intro c nm ok ks kl es σ H Q hk hl h q
  have:=ww h;subst this
  cases kl with
  | cons _ _=>cases hl
  | nil=>exact⟨[],by simp,rfl,q⟩
 B:=by intro c nm ok pos op es σ H Q h q;exact q.elim
 T:=by intro c nm ok op es σ H Q h q;exact q.elim
theorem snd_cons {p r:PE}(ih_p:Snd p)(ih_r:Snd r):Snd (.cons p r) where
 E:=by intro c nm ok e σ H Q h q;exact q.elim
 C:=by intro c nm ok e σ H Q h q;exact q.elim
 L:=by
  intro c nm ok pos es σ H Q h q
  obtain⟨e,l,rfl,h1,h2⟩:=qj h
  exact zu (JE.mono (ih_p.E ok h1 q) fun x H q=>JEs.mono (ih_r.L ok h2 q) fun xs H q=>⟨by rw[qE,qE,q.1],q.2⟩) (Jx (qg h1) l)
 O:=by
  intro c nm ok o σ H Q h q
  obtain⟨e,rfl,h1⟩:=isO_cons h
  refine JE.mono (ih_p.E ok h1 q) fun x H q=>?_
  unfold UC at q
  split at q
  ·exact⟨_,rfl,q⟩
  ·exact q.elim
 Ps:=by
  intro c nm ok ks kl es σ H Q hk hl h q
  obtain⟨e,l,rfl,h1,h2⟩:=qj h
  obtain⟨k,ks',kp,kq,kl',rfl,rfl,hc,hk'⟩:=Uv hk hl
  have hl':kl'.length=l.length:=by simpa using hl
  refine Jc (JE.mono (ih_p.E ok h1 q) fun x H q=>JPs.mono (ih_r.Ps ok hk' hl' h2 q) ?_) hc
  rintro r' H ⟨ys,rfl,hy,q⟩
  exact⟨x::ys,rfl,by rw[qE,qE,hy],q⟩
 Pi:=by
  intro c nm ok ks kl es σ H Q hk hl h q
  obtain⟨e,l,rfl,h1,h2⟩:=qj h
  obtain⟨k,ks',kp,kq,kl',rfl,rfl,hc,hk'⟩:=UN hk hl
  have hl':kl'.length=l.length:=by simpa using hl
  refine Jd (JE.mono (ih_p.E ok h1 q) fun x H q=>JPs.mono (ih_r.Pi ok hk' hl' h2 q) ?_)
  rintro r' H ⟨ys,rfl,hy,q⟩
  exact⟨x::ys,rfl,by rw[qE,qE,hy],q⟩
 B:=by
  intro c nm ok pos op es σ H Q h q
  obtain⟨e,l,rfl,h1,h2⟩:=qj h
  rcases Qs h2 with rfl | ⟨p',r',rfl⟩
  ·rw[ww h2];exact jbo_one (ih_p.E ok h1 q)
  ·obtain⟨e',l',rfl,_,_⟩:=qj h2
   cases op with
   | And=>exact jbo_and (JE.mono (ih_p.E ok h1 q) fun x H q=>Kc (wD ok q) fun z H q=>⟨fun hz=>ih_r.B ok h2 (q.1 hz),q.2⟩)
   | Or=>exact jbo_or (JE.mono (ih_p.E ok h1 q) fun x H q=>Kc (wD ok q) fun z H q=>⟨q.1,fun hz=>ih_r.B ok h2 (q.2 hz)⟩)
 T:=by
  intro c nm ok op es σ H Q h q
  obtain⟨e,l,rfl,h1,h2⟩:=qj h
  rcases Qs h2 with rfl | ⟨p',r',rfl⟩
  ·rw[ww h2];exact jal_one (ih_p.C ok h1 q)
  ·obtain⟨e',l',rfl,_,_⟩:=qj h2
   cases op with
   | And=>exact jal_and (JC.mono (ih_p.C ok h1 q) fun z H q=>⟨fun hz=>ih_r.T ok h2 (q.1 hz),q.2⟩)
   | Or=>exact jal_or (JC.mono (ih_p.C ok h1 q) fun z H q=>⟨q.1,fun hz=>ih_r.T ok h2 (q.2 hz)⟩)
theorem se_loc {i:Nat}  : SE (.loc i):=by
 intro c nm ok e σ H Q h q
 obtain⟨x,pos,rfl,hx⟩:=isE_loc h
 exact ok.loc i x hx pos σ H Q q
theorem se_glb {i:Nat}  : SE (.glb i):=by
 intro c nm ok e σ H Q h q
 obtain⟨x,k,pos,rfl,hi,hx⟩:=wZ h
 rw[ok.hR]at hx
 simp only[vcE,vs,VS.val,hx]at q
 exact Mine.yn ok hi hx q
theorem se_int {i:Int}  : SE (.int i):=by
 intro c nm ok e σ H Q h q
 cases e<;>try exact no h
 rename_i k _ _
 cases k<;>try exact no h
 rw[beq_iff_eq.mp (show(_==_)=true from h)]
 exact Jd q
theorem se_str {x:String}  : SE (.str x):=by
 intro c nm ok e σ H Q h q
 cases e<;>try exact no h
 rename_i k _ _
 cases k<;>try exact no h
 obtain⟨h1,h2⟩:=andT h
 rw[beq_iff_eq.mp h1]
 exact Jc q (jB h2)
theorem se_bool {b:Bool}  : SE (.bool b):=by
 intro c nm ok e σ H Q h q
 cases e<;>try exact no h
 rename_i k _ _
 cases k<;>try exact no h
 rw[beq_iff_eq.mp (show(_==_)=true from h)]
 exact Ul q
theorem se_none_   : SE (.none_):=by
 intro c nm ok e σ H Q h q
 cases e<;>try exact no h
 rename_i k _ _
 cases k<;>try exact no h
 exact Uk q
theorem se_bin {op:Operator}{l:PE}{r:PE}(ih_l:Snd l)(ih_r:Snd r):SE (.bin op l r):=by
 intro c nm ok e σ H Q h q
 obtain⟨a,b,pos,rfl,h1,h2⟩:=isE_bin h
 exact je_bin (JE.mono (ih_l.E ok h1 q) fun x H q=>JE.mono (ih_r.E ok h2 q) fun y H q=>bin_ok ok q)
theorem se_neg {p:PE}(ih_p:Snd p):SE (.neg p):=by
 intro c nm ok e σ H Q h q
 obtain⟨a,pos,rfl,h1⟩:=WJ h
 exact je_un (JE.mono (ih_p.E ok h1 q) fun x H q=>neg_ok q)
theorem se_cmp {op:CmpOp}{l:PE}{r:PE}(ih_l:Snd l)(ih_r:Snd r):SE (.cmp op l r):=by
 intro c nm ok e σ H Q h q
 obtain⟨a,b,pos,rfl,h1,h2⟩:=WL h
 exact je_cmp (JE.mono (ih_l.E ok h1 q) fun x H q=>JE.mono (ih_r.E ok h2 q) fun y H q=>WW ok q) (Kh (qg h2) _)
theorem se_and_ {es:PE}(ih_es:Snd es):SE (.and_ es):=by
 intro c nm ok e σ H Q h q
 obtain⟨l,pos,rfl,h1,h2⟩:=WM h
 exact WF (ih_es.B ok h1 q)
theorem se_or_ {es:PE}(ih_es:Snd es):SE (.or_ es):=by
 intro c nm ok e σ H Q h q
 obtain⟨l,pos,rfl,h1,h2⟩:=isE_or h
 exact WF (ih_es.B ok h1 q)
theorem se_ifx {t:PE}{b:PE}{o:PE}(ih_t:Snd t)(ih_b:Snd b)(ih_o:Snd o):SE (.ifx t b o):=by
 intro c nm ok e σ H Q h q
 obtain⟨x,y,z,pos,rfl,h1,h2,h3⟩:=WK h
 exact je_if (JC.mono (ih_t.C ok h1 q) fun p H q=>⟨fun hp=>ih_b.E ok h2 (q.1 hp),fun hp=>ih_o.E ok h3 (q.2 hp)⟩)
theorem se_sub {o:PE}{i:PE}(ih_o:Snd o)(ih_i:Snd i):SE (.sub o i):=by
 intro c nm ok e σ H Q h q
 obtain⟨a,b,pos,rfl,h1,h2⟩:=WI h
 exact je_subV ok.G ok.ok (slice_ok (qg h2)) (JE.mono (ih_o.E ok h1 q) fun x H q=>ih_i.E ok h2 q)
theorem se_slice {o:PE}{lo:PE}{hi:PE}(ih_o:Snd o)(ih_lo:Snd lo)(ih_hi:Snd hi):SE (.slice o lo hi):=by
 intro c nm ok e σ H Q h q
 obtain⟨a,l,u,p,pos,rfl,h1,h2,h3⟩:=Ya h
 exact je_slice ok.G ok.ok (JE.mono (ih_o.E ok h1 q) fun x H q=>JP.mono (ih_lo.O ok h2 q) fun l' H q=>JP.mono (ih_hi.O ok h3 q) fun u' H q=>QL q)
theorem se_att {o:PE}{k:Nat}(ih_o:Snd o):SE (.att o k):=by
 intro c nm ok e σ H Q h q
 obtain⟨a,pos,rfl,h1,h2⟩:=isE_att h
 rw[ok.hR]
 exact je_attV ok.G ok.ok ok.Rk (We h2 _ _ _) (ih_o.E ok h1 q)
theorem se_meth {o:PE}{k:Nat}{args:PE}(ih_o:Snd o)(ih_args:Snd args):SE (.meth o k args):=by
 intro c nm ok e σ H Q h q
 obtain⟨a,apos,as,pos,rfl,h1,h2,h3,h4,h5⟩:=isE_meth h
 rw[ok.hR]
 obtain⟨pl,he⟩:=meth_ev h2 (qu h3) h5 (Str.ofString (c.R.an k)) h4 c.f.env
 exact je_methV ok (qu h3) he (JE.mono (ih_o.E ok h1 q) fun x H q=>Xh q fun m q=>JEs.mono (ih_args.L ok h3 q) fun _ _ q=>q.2)
theorem se_tup {es:PE}(ih_es:Snd es):SE (.tup es):=by
 intro c nm ok e σ H Q h q
 obtain⟨l,k,pos,rfl,h1,h2⟩:=isE_tup h
 exact je_tuple (JEs.mono (ih_es.L ok h1 q) fun xs H q=>⟨q.2,by rw[q.1];lia⟩)
theorem se_lst {es:PE}(ih_es:Snd es):SE (.lst es):=by
 intro c nm ok e σ H Q h q
 obtain⟨l,pos,rfl,h1,h2⟩:=isE_lst h
 exact je_list (JEs.mono (ih_es.L ok h1 q) fun xs H q=>⟨q.2,by rw[q.1];lia⟩)
theorem se_di0   : SE (.di0):=by
 intro c nm ok e σ H Q h q
 obtain⟨pos,rfl⟩:=isE_di0 h
 exact XY ok.G ok.ok q
theorem se_ds0   : SE (.ds0):=by
 intro c nm ok e σ H Q h q
 obtain⟨pos,rfl⟩:=isE_ds0 h
 exact XX ok.G ok.ok q
theorem se_dis {ks:List String}{vs:PE}(ih_vs:Snd vs):SE (.dis ks vs):=by
 intro c nm ok e σ H Q h q
 obtain⟨kl,vl,pos,rfl,h1,h2,h3,h4,h5,h6⟩:=isE_dis h
 refine je_dictS ok.G ok.ok (zW h1).1 h3 h5 h4 fun a ha=>JPs.mono (ih_vs.Ps ok h1 h3 h2 (q a ha)) ?_
 rintro r H ⟨ys,rfl,hl,q⟩
 have hs:=(zW h1).2
 have hk:(ks.zip ys).map (·.1)=ks:=List.map_fst_zip (by lia)
 exact⟨ks.zip ys,rfl,by rw[hk];exact h6,by rw[List.length_zip,hl];lia,q.1,q.2⟩
theorem se_dii {ks:List Int}{vs:PE}(ih_vs:Snd vs):SE (.dii ks vs):=by
 intro c nm ok e σ H Q h q
 obtain⟨kl,vl,pos,rfl,h1,h2,h3,h4,h5,h6⟩:=isE_dii h
 refine je_dictI ok.G ok.ok (Jg h1).1 h3 h5 h4 fun a ha=>JPs.mono (ih_vs.Pi ok h1 h3 h2 (q a ha)) ?_
 rintro r H ⟨ys,rfl,hl,q⟩
 have hs:=(Jg h1).2
 have hk:(ks.zip ys).map (·.1)=ks:=List.map_fst_zip (by lia)
 exact⟨ks.zip ys,rfl,by rw[hk];exact h6,by rw[List.length_zip,hl];lia,q.1,q.2⟩
theorem Js {elt:PE}(ih_elt:SE elt){c:Cx}{nm:Nm}(ok:c.Ok nm){bns:List Str}{elt':Expr}{sc:Scope}{tgt:PE}{tgt':Expr}(h2:isE elt {nm with ns:=bns,gs:=ju elt,R:=c.R,top:=false} elt'=true)(h6:bns.all (lOk sc)=true)
  (h8:(ju elt).all (gOk c.R.gT sc)=true) (nd:bns.Nodup) (h3:tgtOk bns tgt tgt'=true) {f':Fx} {b:Bk} (hok:Fx.Ok c.g f' c.n) (hb:f'.bk=some b) (hsc:f'.env.scope=sc) (hhd:f'.hd=c.f.hd) {y:V} {H:Hp} {Q:List (Nat×V)→V→Hp→Prop}
  (tq:tgtB c.f.hd tgt y fun pvs=>vcE elt (c.blk f' bns b.C pvs) [] (H.set b.C (.ns (psOf bns pvs))) (Q pvs)) :
  ∃ps,JTgt c.g f' b.C tgt' y ps∧∃pvs,ps=psOf bns pvs∧JE c.g f' Ex.none [] elt' [] (H.set b.C (.ns ps)) (Q pvs):=by
 have hl':bns.all (lOk f'.env.scope)=true:=by rw[hsc];exact h6
 have loc:∀{i:Nat} {x:Str},bns[i]? = some x→f'.env.scope.names.lookup x=some .local:=fun {i x} hx=>by
  have hlx:=qQ.mp hl' x (qW hx)
  unfold lOk at hlx
  rw[qM,beq_iff_eq]at hlx
  exact hlx.1
 have gd:∀{i:Nat} {x:Str},bns[i]? = some x→bns.getD i default=x:=fun {i x} hx=>by rw[qP,hx];rfl
 have go:∀pvs:List (Nat×V),(∀p∈pvs,p.1<bns.length)→vcE elt (c.blk f' bns b.C pvs) [] (H.set b.C (.ns (psOf bns pvs))) (Q pvs)→JE c.g f' Ex.none [] elt' [] (H.set b.C (.ns (psOf bns pvs))) (Q pvs):=fun pvs hp tq=>by
  have okb:(c.blk f' bns b.C pvs).Ok {nm with ns:=bns,gs:=ju elt,R:=c.R,top:=false}:=
   ⟨ok.G,ok.Rk,rfl,hok,by rw[show(c.blk f' bns b.C pvs).f.hd=c.f.hd from hhd];exact ok.hqB,ok.hXB,by rw[show(c.blk f' bns b.C pvs).f.hd=c.f.hd from hhd];exact ok.hqB,
    fun j z hz pos σ H Q q=>blk_loc (c:=c.blk f' bns b.C pvs) hok hb rfl hl' (fun j z hz v hv=>QJ nd hp hv hz) hz q,
    fun j hj=>by show gOk c.R.gT f'.env.scope j=true;rw[hsc];exact qQ.mp h8 j hj,fun z=>by cases z⟩
  have:=ih_elt okb h2 tq
  rwa [show(c.blk f' bns b.C pvs).X=Ex.none from ok.hXB f']at this
 rcases Ut h3 with⟨i,x,tp,rfl,rfl,hx⟩ | ⟨i,j,x,x',p,p',k,pos,rfl,rfl,hx,hx'⟩
 ·refine⟨psOf bns [(i,y)],?_,[(i,y)],rfl,go _ (fun p hp=>by rw[qR.mp hp];exact(qF.mp hx).1) tq⟩
  show JTgt c.g f' b.C (.Name x tp) y [(bns.getD i default,y)]
  rw[gd hx];exact tgt_name hok hb (loc hx)
 ·obtain⟨y1,y2,rfl,hh,tq⟩:∃y1 y2,y = .tup [y1,y2]∧c.f.hd=none∧vcE elt (c.blk f' bns b.C [(j,y2),(i,y1)]) [] (H.set b.C (.ns (psOf bns [(j,y2),(i,y1)]))) (Q [(j,y2),(i,y1)]):=by
   cases y with
   | tup l=>
    rcases l with _ | ⟨y1,_ | ⟨y2,_ | ⟨_,_⟩⟩⟩
    ·exact tq.elim
    ·exact tq.elim
    ·exact⟨y1,y2,rfl,tq⟩
    ·exact tq.elim
   | _=>exact tq.elim
  refine⟨psOf bns [(j,y2),(i,y1)],?_,_,rfl,go _ (fun p hp=>?_) tq⟩
  ·show JTgt c.g f' b.C _ _ [(bns.getD j default,y2),(bns.getD i default,y1)]
   rw[gd hx,gd hx']
   exact tgt_pair ok.G hok hb (hhd.trans hh) (loc hx) (loc hx')
  ·rcases qL.mp hp with rfl | hp
   ·exact(qF.mp hx').1
   ·rw[qR.mp hp];exact(qF.mp hx).1
theorem Ub {g:Gx}{f:Fx}{X:Ex}{e:Expr}{σ:Lo}{H:Hp}{a C:Addr}{o p:AO}{P P':V→Hp→Prop}(h:JE g f X [] e σ H (fun r H'=>∃H₂ H₃,H'=(H₂.set a o).set C p∧H₃.Sub H₂∧H₂ a=none∧H₂ C=none∧P r H₃∧P' r H₃)) :
  JE g f X [] e σ H (fun r H'=>∃H₂,H'=(H₂.set a o).set C p∧H₂ a=none∧H₂ C=none∧P r H₂∧P' r H₂):=by
 refine h.weak ?_
 rintro r H' ⟨H₂,H₃,rfl,s,ha,hC,q⟩
 have none_of:∀{b},H₂ b=none→H₃ b=none:=fun {b} hb=>by
  cases z:H₃ b with
  | none=>rfl
  | some o=>rw[s _ _ z]at hb;cases hb
 exact⟨_,(s.set a o).set C p,H₃,rfl,none_of ha,none_of hC,q⟩
theorem Xw {g:Gx}{f:Fx}{X:Ex}{e:Expr}{σ:Lo}{H:Hp}{a C:Addr}{o p:AO}{P:V→Hp→Prop}{o':V→AO}(h:JE g f X [] e σ H (fun r H'=>∃H₂ H₃:Hp,H'=(H₂.set a o).set C p∧H₃.Sub H₂∧H₂ a=none∧H₂ C=none∧P r (H₃.set a (o' r)))) :
  JE g f X [] e σ H (fun r H'=>∃H₂:Hp,H'=(H₂.set a o).set C p∧H₂ a=none∧H₂ C=none∧P r (H₂.set a (o' r))):=by
 refine h.weak ?_
 rintro r H' ⟨H₂,H₃,rfl,s,ha,hC,q⟩
 have none_of:∀{b},H₂ b=none→H₃ b=none:=fun {b} hb=>by
  cases z:H₃ b with
  | none=>rfl
  | some o=>rw[s _ _ z]at hb;cases hb
 exact⟨_,(s.set a o).set C p,H₃,rfl,none_of ha,none_of hC,q⟩
theorem se_comp {bns:List Str}{elt:PE}{tgt:PE}{iter:PE}(ih_elt:Snd elt)(ih_tgt:Snd tgt)(ih_iter:Snd iter)(ih_arg:∀fn args,iter = .call fn args→Snd args):SE (.comp bns elt tgt iter):=by
 intro c nm ok e σ H Q h q
 obtain⟨elt',tgt',iter',sc,pos,rfl,h1,h2,h3,h4,h5,h6,h7,h8⟩:=UL h
 rw[ok.hR]at h2 h8
 have gen:compG (vs iter).E (vs elt).E bns tgt c σ H Q→JE c.g c.f c.X c.ns (.ListComp elt' [⟨tgt',iter',[],0⟩] sc pos) σ H Q:=fun q=>by
  refine je_compT ok.G ok.ok (ok.top h1) h5 (JM (qg h4) _) (JE.mono (ih_iter.E ok h4 q) ?_)
  rintro v H₁ ⟨xs,HP,src,hp,hl,I,h0,hfin,turn⟩
  refine⟨xs,HP,src,hp,hl,I,h0,hfin,fun f' a b j y ys H hok hb hsc hhd hy hI hP ha hC hne=>?_⟩
  obtain⟨ps,a1,pvs,rfl,a2⟩:=Js ih_elt.E ok h2 h6 h8 h7 h3 hok hb hsc hhd (turn f' a b.C j y ys H hy hI hP ha hC hne hhd)
  exact⟨_,a1,Ub a2⟩
 cases iter with
 | call fn args=>
  cases fn with
  | glb zi=>
   obtain⟨fe,as,cpos,rfl,g1,g2,g3⟩:=zy h4
   obtain⟨x,k,npos,rfl,hi,hx⟩:=wZ g1
   rw[ok.hR]at hx
   by_cases hk:k = .bi .zip
   ·subst hk
    have q:c.f.hd=none∧args.two=true∧tgt.pair=true∧(vs args).L c σ H fun xs H₁=>∃u v l,xs=[.tup [u],.ref l]∧H₁ l=some (.list [v]) ∧
      ∀f' a C,H₁ a=none→H₁ C=none→a≠C→f'.hd=c.f.hd→tgtB c.f.hd tgt (.tup [u,v]) fun pvs=>(vs elt).E (c.blk f' bns C pvs) [] ((H₁.set a (.list [])).set C (.ns (psOf bns pvs)))
       fun r H'=>∃H₂ H₃:Hp,H'=(H₂.set a (.list [])).set C (.ns (psOf bns pvs))∧H₃.Sub H₂∧H₂ a=none∧H₂ C=none∧Q (.ref a) (H₃.set a (.list [r])):=by
     simp only[vcE,vs,VS.val,hx]at q
     exact q
    obtain⟨hh,q2,q3,q⟩:=q
    obtain⟨pa,pb,rfl⟩:∃pa pb,args = .cons pa (.cons pb .nil):=by
     unfold PE.two at q2
     split at q2
     ·exact⟨_,_,rfl⟩
     ·cases q2
    obtain⟨ea,l1,rfl,e1,g2'⟩:=qj g2
    obtain⟨eb,l2,rfl,e2,g2''⟩:=qj g2'
    cases ww g2''
    rcases Ut h3 with⟨i,x',tp,rfl,rfl,hx'⟩ | ⟨i,j,x1,x2,p1,p2,kx,tp,rfl,rfl,hx1,hx2⟩
    ·cases q3
    ·refine je_compZ ok.G ok.ok (ok.top h1) hh h5 (Mine.yn ok hi hx ⟨rfl,rfl⟩) (qu g2) (JM (qg h4) _) (JEs.mono ((ih_arg _ _ rfl).L ok g2 q) ?_)
     rintro xs H₁ ⟨hl,u,v,l,rfl,hl1,turn⟩
     refine⟨u,v,l,rfl,hl1,fun f' a b hok hb hsc hhd ha hC hne=>?_⟩
     obtain⟨ps,a1,pvs,rfl,a2⟩:=Js ih_elt.E ok h2 h6 h8 h7 h3 hok hb hsc hhd (turn f' a b.C ha hC hne hhd)
     exact⟨_,a1,Xw (P:=fun r H=>Q (.ref a) H) (o':=fun r=>.list [r]) a2⟩
   ·refine gen ?_
    simp only[vcE,vs,VS.val,hx]at q ⊢
    cases k with
    | bi b=>cases b<;>first | exact absurd rfl hk | exact q
    | _=>exact q
  | _=>exact gen q
 | _=>exact gen q
theorem se_call {fn args:PE}(ih_fn:Snd fn)(ih_args:Snd args):SE (.call fn args):=by
 intro c nm ok e σ H Q h q
 obtain⟨_,_,_,_,_,_,hk⟩:=zy h
 cases fn<;>first | cases hk | skip
 ·rename_i i
  obtain⟨fe,as,pos,rfl,h1,h2,h3⟩:=zy h
  obtain⟨x,k,npos,rfl,hi,hx⟩:=wZ h1
  rw[ok.hR]at hx
  simp only[vcE,vs,VS.val,hx]at q
  cases k with
  | fn j=>exact WE ok.G ok.ok ok.hq (ok.Rk.keepF j) (qu h2) (Mine.yn ok hi hx ⟨rfl,JEs.mono (ih_args.L ok h2 q) fun _ _ q=>q.2⟩)
  | cls j=>exact WE ok.G ok.ok ok.hq (ok.Rk.keepC j) (qu h2) (Mine.yn ok hi hx ⟨rfl,JEs.mono (ih_args.L ok h2 q) fun _ _ q=>q.2⟩)
  | bi b=>
   intro s m mu fz D S lo P E k kE
   refine Call_Name rfl (Mine.yn ok hi hx (Q:=fun v H₁=>v=b.v∧JEs c.g c.f c.X c.ns pos as σ H₁ (fun xs H=>xs.length=as.length∧biV c b xs H Q)) ⟨rfl,ih_args.L ok h2 q⟩ s m mu fz D S lo _ E (fun v h tk mu₁ fz₁ D₁ H₁ y S₁ le₁ d₁ q₁=>?_) kE)
   obtain⟨rfl,q₁⟩:=q₁
   have hnr:∀a,v≠.ref a:=by
    intro a z;subst z
    cases b<;>first | (have:=show Value.ref a = .builtin _ from d₁;cases this) | (have:=show Value.ref a = .type _ from d₁;cases this)
   refine ql (Pk:=fun _=>True) (qu h2) (ur hnr) ?_
   refine q₁ {s with heap:=h,toks:=tk} m mu₁ fz₁ D₁ S₁ (lo.mono le₁) _ E (fun vs h₂ tk₂ mu₂ fz₂ D₂ H₂ xs S₂ le₂ d₂ q₂=>⟨trivial,?_⟩) (fun e s' hx=>kE e s' (c.X.mono le₁ hx))
   obtain⟨fv,_,hd,hc⟩:=bi_ok ok q₂.2
   rw[hd _ _ d₁]
   exact hc {s with heap:=h₂,toks:=tk₂} m mu₂ fz₂ D₂ vs S₂ d₂ P E (fun v h tk mu' fz' D' H' x st le' d q=>k v h tk mu' fz' D' H' x st (ja le₁ (ja le₂ le')) d q) (fun e s' hx=>kE e s' (c.X.mono (ja le₁ le₂) hx))
  | _=>exact q.elim
 ·rename_i o i
  have hE:=@ih_fn.E
  obtain⟨fe,as,pos,rfl,h1,h2,h3⟩:=zy h
  obtain⟨a,b,pos',rfl,_,_⟩:=WI h1
  refine je_callX ok.G ok.ok ok.hq (qu h2) (call_ev rfl _ _ _) (JE.mono (ih_fn.E ok h1 q) fun v H q=>?_)
  obtain⟨j,hv,q⟩:=q
  exact⟨c.R.fn j,hv,ok.Rk.keepF j,JEs.mono (ih_args.L ok h2 q) fun _ _ q=>q.2⟩
theorem QN {g:Gx}{f:Fx}{X:Ex}{ns:List Str}{σ:Lo}{H:Hp}{e:Expr}{k:Str}{pos:Pos}{Q Q':V→Hp→Prop}(hq:∀y H,¬Q' y H)(he:wG e=true)(h:JE g f X ns e σ H Q'):JE g f X ns (.Attribute e k pos) σ H Q:=by
 intro s m mu fz D S lo P E k' kE
 exact Attribute_any_ (h s m mu fz D S lo _ E (fun v h tk mu₁ fz₁ D₁ H₁ x S₁ le₁ d₁ q₁=>(hq _ _ q₁).elim) kE) (We he _ _ _)
theorem se_xwhy {o:PE}(ih_o:Snd o):SE (.xwhy o):=by
 intro c nm ok e σ H Q h q
 obtain⟨a,pos,rfl,h1,h2⟩:=isE_xwhy h
 have q':=ih_o.E ok h1 q
 cases hx:c.f.xc with
 | none=>simp only[hx]at q';exact QN (fun _ _ z=>z) h2 q'
 | some p=>
  obtain⟨ea,C,x⟩:=p
  simp only[hx]at q'
  by_cases hg:c.f.hd≠none∧qx c.g.K C "why" = true∧x.plain=true
  ·exact je_why ok.G ok.ok hx hg.1 hg.2.1 (We h2 _ _ _) hg.2.2 (JE.mono q' fun y H q=>⟨q.1,q.2.2.2.2⟩)
  ·exact QN (fun y H z=>hg ⟨z.2.1,z.2.2.1,z.2.2.2.1⟩) h2 q'
theorem sndP:∀p:PE,Snd p∧∀fn args,p = .call fn args→Snd args:=by
 intro p
 induction p with
 | nil=>exact⟨snd_nil,fun _ _ z=>by cases z⟩
 | cons p r ih_p ih_r=>exact⟨snd_cons ih_p.1 ih_r.1,fun _ _ z=>by cases z⟩
 | not_ p ih=>exact⟨.of rfl (by intro c nm ok e σ H Q h q;exact q.elim) (by
   intro c nm ok e σ H Q h q
   obtain⟨a,pos,rfl,h1⟩:=isE_not h
   exact jc_not (ih.1.C ok h1 q)),fun _ _ z=>by cases z⟩
 | chain o1 o2 l r r' ih_l ih_r ih_r'=>exact⟨.of rfl (by intro c nm ok e σ H Q h q;exact q.elim) (by
   intro c nm ok e σ H Q h q
   obtain⟨a,b,b',pos,rfl,h1,h2,h3⟩:=Yb h
   exact XZ (JE.mono (ih_l.1.E ok h1 q) fun x H q=>JE.mono (ih_r.1.E ok h2 q) fun y H q=>wz (Qz ok q) fun z H q=>Kc q fun p H q=>⟨fun hp=>JE.mono (ih_r'.1.E ok h3 (q.1 hp)) fun w H q=>Qz ok q,q.2⟩) (Kh (qg h3) _)),fun _ _ z=>by cases z⟩
 | and_ es ih=>exact⟨.of rfl (se_and_ ih.1) (by
   intro c nm ok e σ H Q h q
   obtain⟨l,pos,rfl,h1,h2⟩:=WM h
   exact jc_all (ih.1.T ok h1 q)),fun _ _ z=>by cases z⟩
 | or_ es ih=>exact⟨.of rfl (se_or_ ih.1) (by
   intro c nm ok e σ H Q h q
   obtain⟨l,pos,rfl,h1,h2⟩:=isE_or h
   exact jc_all (ih.1.T ok h1 q)),fun _ _ z=>by cases z⟩
 | ifx t b o ih_t ih_b ih_o=>exact⟨.of rfl (se_ifx ih_t.1 ih_b.1 ih_o.1) (by
   intro c nm ok e σ H Q h q
   obtain⟨x,y,z,pos,rfl,h1,h2,h3⟩:=WK h
   exact jc_if (JC.mono (ih_t.1.C ok h1 q) fun p H q=>⟨fun hp=>ih_b.1.C ok h2 (q.1 hp),fun hp=>ih_o.1.C ok h3 (q.2 hp)⟩)),fun _ _ z=>by cases z⟩
 | cmp op l r ih_l ih_r=>exact⟨.of rfl (se_cmp ih_l.1 ih_r.1) (by
   intro c nm ok e σ H Q h q
   obtain⟨a,b,pos,rfl,h1,h2⟩:=WL h
   exact jc_cmp (JE.mono (ih_l.1.E ok h1 q) fun x H q=>JE.mono (ih_r.1.E ok h2 q) fun y H q=>Qz ok q) (Kh (qg h2) _)),fun _ _ z=>by cases z⟩
 | loc i=>exact⟨.val rfl rfl (fun _ _ _ _=>rfl) se_loc,fun _ _ z=>by cases z⟩
 | glb i=>exact⟨.val rfl rfl (fun _ _ _ _=>rfl) se_glb,fun _ _ z=>by cases z⟩
 | int i=>exact⟨.val rfl rfl (fun _ _ _ _=>rfl) se_int,fun _ _ z=>by cases z⟩
 | bool b=>exact⟨.val rfl rfl (fun _ _ _ _=>rfl) se_bool,fun _ _ z=>by cases z⟩
 | str s=>exact⟨.val rfl rfl (fun _ _ _ _=>rfl) se_str,fun _ _ z=>by cases z⟩
 | none_=>exact⟨.val rfl rfl (fun _ _ _ _=>rfl) se_none_,fun _ _ z=>by cases z⟩
 | bin op l r ih_l ih_r=>exact⟨.val rfl rfl (fun _ _ _ _=>rfl) (se_bin ih_l.1 ih_r.1),fun _ _ z=>by cases z⟩
 | neg p ih=>exact⟨.val rfl rfl (fun _ _ _ _=>rfl) (se_neg ih.1),fun _ _ z=>by cases z⟩
 | sub o i ih_o ih_i=>exact⟨.val rfl rfl (fun _ _ _ _=>rfl) (se_sub ih_o.1 ih_i.1),fun _ _ z=>by cases z⟩
 | slice o lo hi ih_o ih_lo ih_hi=>exact⟨.val rfl rfl (fun _ _ _ _=>rfl) (se_slice ih_o.1 ih_lo.1 ih_hi.1),fun _ _ z=>by cases z⟩
 | att o k ih=>exact⟨.val rfl rfl (fun _ _ _ _=>rfl) (se_att ih.1),fun _ _ z=>by cases z⟩
 | call fn args ih_fn ih_args=>exact⟨.val rfl rfl (fun _ _ _ _=>rfl) (se_call ih_fn.1 ih_args.1),fun _ _ z=>by cases z;exact ih_args.1⟩
 | meth o k args ih_o ih_args=>exact⟨.val rfl rfl (fun _ _ _ _=>rfl) (se_meth ih_o.1 ih_args.1),fun _ _ z=>by cases z⟩
 | tup es ih=>exact⟨.val rfl rfl (fun _ _ _ _=>rfl) (se_tup ih.1),fun _ _ z=>by cases z⟩
 | lst es ih=>exact⟨.val rfl rfl (fun _ _ _ _=>rfl) (se_lst ih.1),fun _ _ z=>by cases z⟩
 | di0=>exact⟨.val rfl rfl (fun _ _ _ _=>rfl) se_di0,fun _ _ z=>by cases z⟩
 | ds0=>exact⟨.val rfl rfl (fun _ _ _ _=>rfl) se_ds0,fun _ _ z=>by cases z⟩
 | dis ks vs ih=>exact⟨.val rfl rfl (fun _ _ _ _=>rfl) (se_dis ih.1),fun _ _ z=>by cases z⟩
 | dii ks vs ih=>exact⟨.val rfl rfl (fun _ _ _ _=>rfl) (se_dii ih.1),fun _ _ z=>by cases z⟩
 | xwhy o ih=>exact⟨.val rfl rfl (fun _ _ _ _=>rfl) (se_xwhy ih.1),fun _ _ z=>by cases z⟩
 | comp bns elt tgt iter ih_elt ih_tgt ih_iter=>exact⟨.val rfl rfl (fun _ _ _ _=>by simp only[vcC,vcE,vs,VS.val]) (se_comp ih_elt.1 ih_tgt.1 ih_iter.1 ih_iter.2),fun _ _ z=>by cases z⟩
theorem snd (p:PE):Snd p:=(sndP p).1
end
section
variable {g:Gx}{f:Fx}{X:Ex}{ns:List Str}{σ:Lo}{H:Hp}{n:Nat}
def refP (H:Hp)(a:Addr)(z y:V)(k:Hp→Prop):Prop:=(∃d d',H a=some (.dict d)∧DPut d z y d'∧k (H.set a (.dict d')))∨∃xs i j,H a=some (.list xs)∧z = .int i∧Idx i xs.length j∧k (H.set a (.list (xs.set j y)))
def putV (x z y:V)(H:Hp)(k:Hp→Prop):Prop:=match x with | .ref a=>refP H a z y k | _=>False
theorem QF {s:Shared}{m:Str→Option Value}{mu fz:List (Addr×Obj)}{D:Addr→Addr}{x z y:V}{w u v:Value}{k:Hp→Prop}(S:St g f s.heap m H mu fz D)(dx:DenG g fz x w)(dz:DenG g fz z u)(dy:DenG g fz y v)(q:putV x z y H k){P:Unit→Shared→Prop}{E:Value→Shared→Prop}
  (kk:∀h tk mu' H',St g f h m H' mu' fz D→k H'→P () {s with heap:=h,toks:=tk}):wpAny (model g.prog g.w) f.A (setItem w u v) P E s:=by
 unfold putV at q
 split at q
 ·rename_i a
  rw[show w = .ref a from dx]
  rcases q with⟨d,d',e,dp,q⟩ | ⟨xs,i,j,e,rfl,hi,q⟩
  ·exact XM S e dp dz dy fun h tk mu' S'=>kk h tk mu' _ S' q
  ·exact XL S e hi dz dy fun h mu' S'=>kk h s.toks mu' _ S' q
 ·exact q.elim
theorem Xn {Q:jD}{eo ei e:Expr}{p pos:Pos}
  (h:JE g f X ns e σ H (fun y H₁=>JE g f X ns eo σ H₁ (fun x H₂=>JE g f X ns ei σ H₂ (fun z H₃=>putV x z y H₃ fun H'=>Q .next σ H'))))
  (hw:swapsWith e (some (.Subscript eo ei p)) pos.line f.env=pure false):JS g f X ns (.Assign [.Subscript eo ei p] e pos) σ H Q:=by
 intro s m mu fz D S lo P E kk kE
 refine wpAny_Assign_Subscript (h s m mu fz D S lo _ E (fun v h tk mu₁ fz₁ D₁ H₁ y S₁ le₁ d₁ q₁=>?_) (fun e s' hx=>kE _ e s' hx)) hw
 refine q₁ {s with heap:=h,toks:=tk} m mu₁ fz₁ D₁ S₁ (lo.mono le₁) _ E (fun w h₂ tk₂ mu₂ fz₂ D₂ H₂ x S₂ le₂ d₂ q₂=>?_) (fun e s' hx=>kE _ e s' (X.mono le₁ hx))
 refine q₂ {s with heap:=h₂,toks:=tk₂} m mu₂ fz₂ D₂ S₂ (lo.mono (ja le₁ le₂)) _ E (fun u h₃ tk₃ mu₃ fz₃ D₃ H₃ z S₃ le₃ d₃ q₃=>?_) (fun e s' hx=>kE _ e s' (X.mono (ja le₁ le₂) hx))
 exact QF (s:={s with heap:=h₃,toks:=tk₃}) S₃ (Den.mono (FzR.le le₃) _ _ d₂) d₃ (Den.mono (FzR.le (ja le₂ le₃)) _ _ d₁) q₃ fun h tk mu' H' S₄ q=>kk .next h tk mu' fz₃ D₃ _ m .next σ S₄ (ja le₁ (ja le₂ le₃)) rfl (lo.mono (ja le₁ (ja le₂ le₃))) q
theorem ja_subV {eo ei:Expr}{p:Pos}{y:V}{Q:Lo→Hp→Prop}
  (h:JE g f X ns eo σ H (fun x H₂=>JE g f X ns ei σ H₂ (fun z H₃=>putV x z y H₃ fun H'=>Q σ H'))):JA g f X ns (.Subscript eo ei p) y σ H Q:=by
 intro s m mu fz D v S lo dy P E kk kE
 rw[arm_assign_Subscript]
 refine jC (wpAny_holding (h s m mu fz D S lo _ E (fun w h₂ tk₂ mu₂ fz₂ D₂ H₂ x S₂ le₂ d₂ q₂=>?_) (fun e s' hx=>kE _ e s' hx)))
 refine jC (wpAny_holding (q₂ {s with heap:=h₂,toks:=tk₂} m mu₂ fz₂ D₂ S₂ (lo.mono le₂) _ E (fun u h₃ tk₃ mu₃ fz₃ D₃ H₃ z S₃ le₃ d₃ q₃=>?_) (fun e s' hx=>kE _ e s' (X.mono le₂ hx))))
 refine jC (wpAny_standAt (jC (wpAny_holding ?_)))
 exact QF (s:={s with heap:=h₃,toks:=tk₃}) S₃ (Den.mono (FzR.le le₃) _ _ d₂) d₃ (Den.mono (FzR.le (ja le₂ le₃)) _ _ dy) q₃ fun h tk mu' H' S₄ q=>wpAny_release <| kk h tk mu' fz₃ D₃ _ m σ S₄ (ja le₂ le₃) (lo.mono (ja le₂ le₃)) q
def refAt (R:Rt)(H:Hp)(a:Addr)(k:Nat)(y:V)(K:Hp→Prop):Prop:=∃cid xs i,H a=some (.inst (R.cls cid) xs)∧R.fi cid k=some i∧i≤xs.length∧K (H.set a (.inst (R.cls cid) (putF xs i y)))
def Jv (R:Rt)(x:V)(k:Nat)(y:V)(H:Hp)(K:Hp→Prop):Prop:=match x with | .ref a=>refAt R H a k y K | _=>False
theorem Wn {Q:jD}(G:g.Ok)(ok:f.Ok g n){R:Rt}(Rk:RtOk g R){eo e:Expr}{k:Nat}{p pos:Pos}
  (h:JE g f X ns e σ H (fun y H₁=>JE g f X ns eo σ H₁ (fun x H₂=>Jv R x k y H₂ fun H'=>Q .next σ H')))
  (hw:swapsWith e (some (.Attribute eo (Str.ofString (R.an k)) p)) pos.line f.env=pure false):JS g f X ns (.Assign [.Attribute eo (Str.ofString (R.an k)) p] e pos) σ H Q:=by
 intro s m mu fz D S lo P E kk kE
 refine plainObj_wpAny_Assign_Attribute (h s m mu fz D S lo _ E (fun v h tk mu₁ fz₁ D₁ H₁ y S₁ le₁ d₁ q₁=>?_) (fun e s' hx=>kE _ e s' hx)) hw
 refine q₁ {s with heap:=h,toks:=tk} m mu₁ fz₁ D₁ S₁ (lo.mono le₁) _ E (fun w h₂ tk₂ mu₂ fz₂ D₂ H₂ x S₂ le₂ d₂ q₂=>?_) (fun e s' hx=>kE _ e s' (X.mono le₁ hx))
 change Jv R x k y H₂ _ at q₂
 unfold Jv at q₂
 split at q₂
 ·rename_i a
  obtain⟨cid,xs,i,e,hi,hx,q⟩:=q₂
  obtain⟨hat,hs,hi',hnd,hsm⟩:=Rk.fld _ _ _ hi
  rw[show w = .ref a from d₂]
  exact XN (s:={s with heap:=h₂,toks:=tk₂}) G ok S₂ hat hs hi' hnd hsm e hx (Den.mono (FzR.le le₂) _ _ d₁) fun h tk mu' S₃=>kk .next h tk mu' fz₂ D₂ _ m .next σ S₃ (ja le₁ le₂) rfl (lo.mono (ja le₁ le₂)) q
 ·exact q₂.elim
end
def swS (sc:Scope)(ts vs:List Expr):Option (Option (List Str)):=
 if !(ts.length==2||ts.length==3)||vs.length != ts.length||(if sc.kind.isAnnotationScope then ScopeKind.function else sc.kind) != .function then some none
 else if vs.any fun | .Starred .. => true | _=>false then some none
 else
  let line:=(ts.head?.map (·.pos.line)).getD 0
  let names:=ts.filterMap fun
   | .Name id pos=>if sc.names.lookup id==some .local&&pos.line==line then some id else none
   | _=>none
  if names.length != ts.length||names.eraseDups.length != names.length then some none
  else if vs.all (foldedForSure 8)then some none
  else if vs.all (constantsAlone 8)then none
  else some (some names)
theorem swS_ok {sc:Scope}{ts vs:List Expr}{env:Env}(he:env.scope=sc){r:Option (List Str)}(h:swS sc ts vs=some r){k k':Nat}{p p':Pos}:swappedStores [.Tuple ts k p] (.Tuple vs k' p') env=pure r:=by
 subst he
 unfold swS at h
 by_cases h1:(!(ts.length==2||ts.length==3)||vs.length != ts.length||(if env.scope.kind.isAnnotationScope then ScopeKind.function else env.scope.kind) != .function)=true
 ·rw[if_pos h1]at h;cases h
  exact if_pos h1
 ·rw[if_neg h1]at h
  split at h
  ·rename_i h2;cases h
   exact(if_neg h1).trans (if_pos h2)
  ·rename_i h2
   dsimp only at h
   split at h
   ·rename_i h3;cases h
    exact(if_neg h1).trans ((if_neg h2).trans (if_pos h3))
   ·rename_i h3
    split at h
    ·rename_i h4;cases h
     exact(if_neg h1).trans ((if_neg h2).trans ((if_neg h3).trans (if_pos h4)))
    ·rename_i h4
     split at h
     ·cases h
     ·rename_i h5;cases h
      exact(if_neg h1).trans ((if_neg h2).trans ((if_neg h3).trans ((if_neg h4).trans (if_neg h5))))
section
set_option backward.match.sparseCases false
inductive PT where
 | loc (i:Nat) | sub (o i:PE)
inductive PS where
 | nil | cons (s r:PS)
 | expr (e:PE) | ret (e:PE) | ret0 | pass | brk | cont
 | asg (i:Nat) (e:PE) | asgC (i:Nat) (bns:List Str) (elt tgt iter:PE)
 | aug (i:Nat) (op:Operator) (e:PE)
 | asgT (ts:List PT) (e:PE) | swp (is:List Nat) (e:PE)
 | satt (o:PE) (k:Nat) (e:PE) | ssub (o i e:PE)
 | ite (t:PE) (b o:PS) | whl (t:PE) (b:PS)
 | for_ (t:Nat) (iter:PE) (b:PS) | forE (en i j:Nat) (iter:PE) (b:PS)
 | raise_ (ci:Nat) (args:PE) | try_ (b:PS) (ci n:Nat) (h:PS)
 | gho (r:PS)
def PE.notC:PE→Bool
 | .comp _ _ _ _=>false | _=>true
def ptIs (nm:Nm):PT→Expr→Bool
 | .loc i=>fun e=>match e with | .Name x _=>nm.ns[i]? == some x | _=>false
 | .sub o i=>fun e=>match e with | .Subscript a b _=>isE o nm a&&isE i nm b | _=>false
def ptsIs (nm:Nm):List PT→List Expr→Bool
 | []=>fun l=>l.isEmpty
 | t::ts=>fun l=>match l with | e::l=>ptIs nm t e&&ptsIs nm ts l | []=>false
def PS.isNil:PS→Bool
 | .nil=>true | .gho _=>true | _=>false
def PS.noSt:PS→Bool
 | .nil=>true | .cons s r=>s.noSt&&(match r with | .nil=>true | _=>false) | .ret _=>true | .ite _ b o=>b.noSt&&o.noSt | _=>false
structure ISS where
 S:Nm→Scope→Stmt→Bool:=fun _ _ _=>false
 L:Nm→Scope→List Stmt→Bool:=fun _ _ _=>false
def nmIs (ns:List Str)(i:Nat)(x:Str):Bool:=ns[i]? == some x
def iss:PS→ISS
 | .nil=>{L:=fun _ _ l=>l.isEmpty}
 | .cons s r=>{L:=fun c sc l=>match l with | e::l=>(iss s).S c sc e&&(iss r).L c sc l | []=>false}
 | .gho r=>{L:=(iss r).L}
 | .expr p=>{S:=fun c _ st=>match st with | .Expr e _=>isE p c e&&p.notC | _=>false}
 | .ret p=>{S:=fun c _ st=>match st with | .Return (some e) _=>isE p c e | _=>false}
 | .ret0=>{S:=fun _ _ st=>match st with | .Return none _=>true | _=>false}
 | .pass=>{S:=fun _ _ st=>match st with | .Pass _=>true | _=>false}
 | .brk=>{S:=fun _ _ st=>match st with | .Break _=>true | _=>false}
 | .cont=>{S:=fun _ _ st=>match st with | .Continue _=>true | _=>false}
 | .asg i p=>{S:=fun c _ st=>match st with | .Assign [.Name x _] e _=>nmIs c.ns i x&&isE p c e&&p.notC | _=>false}
 | .asgC i bns elt tgt iter=>{S:=fun c sc st=>match st with | .Assign [.Name x py] e pos=>nmIs c.ns i x&&isE (.comp bns elt tgt iter) c e&&decide (e.pos.line=py.line)&&(match e with | .ListComp _ _ s _=>s.names.all (fun p=>!(p.1==x&&(p.2 == .local||p.2 == .cell))) | _=>false) | _=>false}
 | .aug i op p=>{S:=fun c _ st=>match st with | .AugAssign (.Name x _) op' e _=>nmIs c.ns i x&&decide (op'=op)&&isE p c e | _=>false}
 | .asgT ts p=>{S:=fun c sc st=>match st with | .Assign [.Tuple l _ _] e _=>ptsIs c ts l&&isE p c e&&p.notC&&(match e with | .Tuple vs _ _=>swS sc l vs==some none | _=>true) | _=>false}
 | .swp is p=>{S:=fun c sc st=>match st with | .Assign [.Tuple l _ _] e _=>isE p c e&&p.notC&&is.all (fun i=>(c.ns[i]?).isSome)&&(match e with | .Tuple vs _ _=>swS sc l vs==some (some (is.map fun i=>c.ns.getD i default)) | _=>false) | _=>false}
 | .satt o k p=>{S:=fun c _ st=>match st with | .Assign [.Attribute a x _] e _=>x==Str.ofString (c.R.an k)&&isE o c a&&isE p c e&&p.notC | _=>false}
 | .ssub o i p=>{S:=fun c _ st=>match st with | .Assign [.Subscript a b _] e _=>isE o c a&&isE i c b&&isE p c e&&p.notC | _=>false}
 | .ite t b o=>{S:=fun c sc st=>match st with | .If x y z _=>isE t c x&&(iss b).L c sc y&&(iss o).L c sc z | _=>false}
 | .whl t b=>{S:=fun c sc st=>match st with | .While x y [] _=>isE t c x&&(iss b).L c sc y | _=>false}
 | .for_ t it b=>{S:=fun c sc st=>match st with | .For (.Name x _) i y [] _=>nmIs c.ns t x&&isE it c i&&(iss b).L c sc y | _=>false}
 | .forE en i j it b=>{S:=fun c sc st=>match st with | .For (.Tuple [.Name x _,.Name x' _] _ _) (.Call f [e] [] _) y [] _=>nmIs c.ns i x&&nmIs c.ns j x'&&isE (.glb en) c f&&isE it c e&&(iss b).L c sc y | _=>false}
 | .raise_ ci args=>{S:=fun c _ st=>match st with | .Raise (some (.Call f as [] _)) none _=>isE (.glb ci) c f&&isL args c as | _=>false}
 | .try_ b ci n h=>{S:=fun c sc st=>match st with | .Try y (.ExceptHandler (some f) (some x) z _::_) [] [] _=>(iss b).L c sc y&&isE (.glb ci) c f&&nmIs c.ns n x&&(iss h).L c sc z&&!h.isNil&&b.noSt | _=>false}
def vts (c:Cx):List PT→List V→Lo→Hp→(Lo→Hp→Prop)→Prop
 | [],[],σ,H,k=>k σ H
 | .loc i::ts,y::ys,σ,H,k=>vts c ts ys (σ.set i (some y)) H k
 | .sub o i::ts,y::ys,σ,H,k=>vcE o c σ H fun x H=>vcE i c σ H fun z H=>putV x z y H fun H=>vts c ts ys σ H k
 | _,_,_,_,_=>False
def sets:List Nat→List V→Lo→Lo
 | i::is,y::ys,σ=>sets is ys (σ.set i (some y))
 | _,_,σ=>σ
def unT (y:V)(k:List V→Prop):Prop:=match y with | .tup xs=>k xs | _=>False
structure VSS where
 S:Cx→Lo→Hp→jD→Prop:=fun _ _ _ _=>False
abbrev Cx.hdl (c:Cx)(e C:Addr)(x:V):Cx:={c with f:={c.f with hd:=some (.ref e),xc:=some (e,C,x)},XF:=ExF.none,XB:=ExF.none}
def vss:PS→Cx→Lo→Hp→jD→Prop
 | .nil=>fun _ σ H Q=>Q .next σ H
 | .cons s r=>fun c σ H Q=>vss s c σ H fun fl σ' H'=>match fl with | .next=>vss r c σ' H' Q | fl=>Q fl σ' H'
 | .gho r=>fun c σ H Q=>∃H',Frz H H'∧vss r c σ H' Q
 | .expr p=>fun c σ H Q=>vcE p c σ H fun _ H'=>Q .next σ H'
 | .ret p=>fun c σ H Q=>vcE p c σ H fun x H'=>Q (.ret x) σ H'
 | .ret0=>fun _ σ H Q=>Q (.ret .none) σ H
 | .pass=>fun _ σ H Q=>Q .next σ H
 | .brk=>fun _ σ H Q=>Q .brk σ H
 | .cont=>fun _ σ H Q=>Q .cont σ H
 | .asg i p=>fun c σ H Q=>vcE p c σ H fun y H'=>Q .next (σ.set i (some y)) H'
 | .asgC i bns elt tgt iter=>fun c σ H Q=>compG (vcE iter) (vcE elt) bns tgt c σ H fun y H'=>Q .next (σ.set i (some y)) H'
 | .aug i op p=>fun c σ H Q=>locV (nthL σ i) fun y=>vcE p c σ H fun z H'=>Op2 c.g c.f c.X (inplaceOp op) y z H' fun r H'=>Q .next (σ.set i (some r)) H'
 | .asgT ts p=>fun c σ H Q=>c.f.hd=none∧vcE p c σ H fun y H'=>unT y fun xs=>ts.length=xs.length∧vts c ts xs σ H' fun σ' H''=>Q .next σ' H''
 | .swp is p=>fun c σ H Q=>c.f.hd=none∧vcE p c σ H fun y H'=>unT y fun xs=>is.length=xs.length∧Q .next (sets is.reverse xs.reverse σ) H'
 | .satt o k p=>fun c σ H Q=>vcE p c σ H fun y H=>vcE o c σ H fun x H=>Jv c.R x k y H fun H=>Q .next σ H
 | .ssub o i p=>fun c σ H Q=>vcE p c σ H fun y H=>vcE o c σ H fun x H=>vcE i c σ H fun z H=>putV x z y H fun H=>Q .next σ H
 | .ite t b o=>fun c σ H Q=>vcC t c σ H fun p H=>(p→vss b c σ H Q)∧(¬p→vss o c σ H Q)
 | .whl t b=>fun c σ H Q=>∃(I:Nat→Lo→Hp→Prop) (k₀:Nat),I k₀ σ H∧∀k σ H,I k σ H→vcC t c σ H fun p H₁=>
   (p→vss b c σ H₁ fun fl σ' H'=>match fl with | .next=>∃k' H₃,k'<k∧H₃.Sub H'∧I k' σ' H₃ | .cont=>∃k' H₃,k'<k∧H₃.Sub H'∧I k' σ' H₃ | .brk=>Q .next σ' H' | .ret x=>Q (.ret x) σ' H')∧(¬p→Q .next σ H₁)
 | .for_ t it b=>fun c σ H Q=>c.f.hd=none∧vcE it c σ H fun x H₁=>∃xs HP,Src x xs HP∧HP H₁∧∃I:Nat→Lo→Hp→Prop,I 0 σ H₁∧(∀σ H,I xs.length σ H→HP H→Q .next σ H) ∧
   ∀i σ H y,xs[i]? = some y→I i σ H→HP H→vss b c (σ.set t (some y)) H fun fl σ'' H''=>match fl with | .next=>∃H₃,H₃.Sub H''∧I (i+1) σ'' H₃∧HP H₃ | .cont=>∃H₃,H₃.Sub H''∧I (i+1) σ'' H₃∧HP H₃ | .brk=>Q .next σ'' H'' | .ret x=>Q (.ret x) σ'' H''
 | .forE en i j it b=>fun c σ H Q=>(match c.R.gT[en]? with
  | some (_,.bi .enumerate)=>c.f.hd=none∧vcE it c σ H fun x H₁=>∃xs,jx H₁ x xs∧∃I:Nat→Lo→Hp→Prop,I 0 σ H₁∧(∀σ H,I xs.length σ H→jx H x xs→Q .next σ H) ∧
   ∀k σ H y,xs[k]? = some y→I k σ H→jx H x xs→vss b c ((σ.set i (some (.int k))).set j (some y)) H fun fl σ'' H''=>match fl with | .next=>∃H₃,H₃.Sub H''∧I (k+1) σ'' H₃∧jx H₃ x xs | .cont=>∃H₃,H₃.Sub H''∧I (k+1) σ'' H₃∧jx H₃ x xs | .brk=>Q .next σ'' H'' | .ret x=>Q (.ret x) σ'' H''
  | _=>False)
 | .raise_ ci args=>fun c σ H Q=>(match c.R.gT[ci]? with
  | some (_,.cls cid)=>c.R.xs cid=true∧c.f.hd=none∧3≤c.n∧∃QX,c.XF=jR c.g QX∧vcL args c σ H fun xs H=>∃x,xs=[x]∧QX (c.R.cls cid) x H
  | _=>False)
 | .try_ b ci n h=>fun c σ H Q=>(match c.R.gT[ci]? with
  | some (_,.cls cid)=>c.R.xs cid=true∧c.f.hd=none∧c.f.outer=[]∧n<σ.length∧∃QX:Addr→V→Hp→Prop,(∀C' x H',QX C' x H'→C'=c.R.cls cid)∧vss b {c with XF:=jR c.g QX} σ H Q ∧
    ∀e x H',QX (c.R.cls cid) x H'→vss h (c.hdl e (c.R.cls cid) x) (σ.set n (some (.ref e))) H' fun fl σ' H''=>(∃y,σ'[n]? = some (some y))∧Q fl (σ'.set n none) H''
  | _=>False)
structure Cx.OkS (c:Cx)(nm:Nm)(sc:Scope):Prop where
 ok:c.Ok nm
 hb:c.f.bk=none
 nd:c.ns.Nodup
 hns:nm.ns=c.ns
 lcl:∀(i:Nat) (x:Str),c.ns[i]? = some x→lOk c.f.env.scope x=true
 rd:c.rd=rdF
 hsc:c.f.env.scope=sc
end
section
set_option backward.match.sparseCases false
variable {c:Cx}{nm:Nm}{sc:Scope}
theorem Cx.OkS.lk (ok:c.OkS nm sc){i:Nat}{x:Str}(h:nmIs nm.ns i x=true):c.ns[i]? = some x∧c.f.env.scope.names.lookup x=some .local:=by
 have hx:c.ns[i]? = some x:=by rw[← ok.hns];exact beq_iff_eq.mp h
 have:=ok.lcl i x hx
 unfold lOk at this
 exact⟨hx,beq_iff_eq.mp (andT this).1⟩
theorem comp_no {p:PE}{e:Expr}(h:isE p nm e=true)(hc:p.notC=true):(match e with | .ListComp _ _ _ _=>false | .SetComp _ _ _ _=>false | .DictComp _ _ _ _ _=>false | _=>true)=true:=by
 cases e<;>first | rfl | (cases p<;>first | exact no h | cases hc)
theorem wt {p:PE}{e:Expr}(h:isE p nm e=true)(hc:p.notC=true)(t:Option Expr)(l:Nat)(env:Env):swapsWith e t l env=pure false:=by
 have:=comp_no h hc
 cases e<;>first | rfl | cases this
theorem KJ (ok:c.OkS nm sc):∀{ts:List PT} {l:List Expr} {ys:List V} {σ:Lo} {H:Hp} {Q:Lo→Hp→Prop},ptsIs nm ts l=true→vts c ts ys σ H Q→JAs c.g c.f c.X c.ns l ys σ H Q
 | [],[],[],σ,H,Q,_,q=>q
 | [],[],_::_,σ,H,Q,_,q=>q.elim
 | [],_::_,_,σ,H,Q,h,q=>no h
 | _::_,[],_,σ,H,Q,h,q=>no h
 | .loc i::ts,e::l,[],σ,H,Q,h,q=>q.elim
 | .sub _ _::ts,e::l,[],σ,H,Q,h,q=>q.elim
 | .loc i::ts,e::l,y::ys,σ,H,Q,h,q=>by
  obtain⟨h1,h2⟩:=andT h
  cases e<;>try exact no h1
  obtain⟨hx,hl⟩:=ok.lk h1
  exact JK ok.ok.ok ok.hb ok.nd hx hl (KJ ok h2 q)
 | .sub o i::ts,e::l,y::ys,σ,H,Q,h,q=>by
  obtain⟨h1,h2⟩:=andT h
  cases e<;>try exact no h1
  obtain⟨h3,h4⟩:=andT h1
  refine ja_subV (JE.mono ((snd o).E ok.ok h3 q) fun x H q=>JE.mono ((snd i).E ok.ok h4 q) fun z H q=>?_)
  unfold putV at q ⊢
  split at q
  ·rcases q with⟨d,d',a,b,q⟩ | ⟨xs,k,j,a,b,e,q⟩
   ·exact .inl ⟨d,d',a,b,KJ ok h2 q⟩
   ·exact .inr ⟨xs,k,j,a,b,e,KJ ok h2 q⟩
  ·exact q.elim
theorem Kz:∀{ts:List PT} {l:List Expr},ptsIs nm ts l=true→NoStar l∧ts.length=l.length
 | [],[],_=>⟨fun _=>rfl,rfl⟩
 | [],_::_,h=>no h
 | _::_,[],h=>no h
 | t::ts,e::l,h=>by
  obtain⟨h1,h2⟩:=andT h
  obtain⟨a,b⟩:=Kz h2
  refine⟨fun env=>?_,by rw[qE,qE,b]⟩
  cases t<;>cases e<;>first | exact no h1 | (show _::_=_::_;rw[a env])
end
section
set_option backward.match.sparseCases false
variable {c:Cx}{nm:Nm}{sc:Scope}
theorem jbs_of (ok:c.OkS nm sc):∀{is:List Nat} {ys:List V} {σ:Lo} {H:Hp} {Q:Lo→Hp→Prop},is.all (fun i=>(nm.ns[i]?).isSome)=true→is.length=ys.length→Q (sets is ys σ) H→JBs c.g c.f c.ns (is.map fun i=>nm.ns.getD i default) ys σ H Q
 | [],[],σ,H,Q,_,_,q=>q
 | [],_::_,_,_,_,_,h,_=>by cases h
 | _::_,[],_,_,_,_,h,_=>by cases h
 | i::is,y::ys,σ,H,Q,h,hl,q=>by
  rw[List.all_cons]at h
  obtain⟨h1,h2⟩:=andT h
  obtain⟨x,hx⟩:=Option.isSome_iff_exists.mp h1
  have hg:nm.ns.getD i default=x:=by rw[qP,hx];rfl
  obtain⟨hx',hl'⟩:=ok.lk (i:=i) (x:=x) (beq_iff_eq.mpr hx)
  show JBs c.g c.f c.ns (nm.ns.getD i default::_) (y::ys) σ H Q
  rw[hg]
  exact⟨i,hx',hl',jbs_of ok h2 (by simpa using hl) q⟩
theorem Cx.OkS.turn (ok:c.OkS nm sc){XF XB:ExF c.g}{hd:Option Value}{xc:Option (Addr×Addr×V)}(hq:XF.calm∨hd=none)(hB:∀f,XB.R f=Ex.none)(hqB:XB.calm∨hd=none):Cx.OkS {c with f:={c.f with hd:=hd,xc:=xc},XF:=XF,XB:=XB} nm sc where
 ok:=⟨ok.ok.G,ok.ok.Rk,ok.ok.hR,⟨ok.ok.ok.below,ok.ok.ok.kind0,ok.ok.ok.kind,ok.ok.ok.dp,ok.ok.ok.un⟩,hq,hB,hqB,fun i x hx pos σ H Q q=>by
  obtain⟨hx',hl⟩:=ok.lk (i:=i) (x:=x) (beq_iff_eq.mpr hx)
  have hd:=ok.lcl i x hx'
  unfold lOk at hd
  have q':rdF i σ H (fun v=>Q v H):=by rw[← ok.rd];exact q
  unfold rdF at q'
  cases hv:nthL σ i with
  | none=>rw[hv]at q';exact q'.elim
  | some v=>
   rw[hv]at q'
   refine ym (n:=c.n) (f:={c.f with hd:=_,xc:=xc}) ⟨ok.ok.ok.below,ok.ok.ok.kind0,ok.ok.ok.kind,ok.ok.ok.dp,ok.ok.ok.un⟩ ok.hb hx' hl (by simpa using (andT hd).2) (yj hv) q',
  ok.ok.glb,fun _=>ok.hb⟩
 hb:=ok.hb
 nd:=ok.nd
 hns:=ok.hns
 lcl:=ok.lcl
 rd:=ok.rd
 hsc:=ok.hsc
end
def SS (p:PS):Prop:=∀{c:Cx} {nm:Nm} {sc:Scope} (ok:c.OkS nm sc) {st:Stmt} {σ:Lo} {H:Hp} {Q:jD},(iss p).S nm sc st=true→vss p c σ H Q→JS c.g c.f c.X c.ns st σ H Q
structure SndS (p:PS):Prop where
 S:SS p
 L:∀{c:Cx} {nm:Nm} {sc:Scope} (ok:c.OkS nm sc) {ss:List Stmt} {σ:Lo} {H:Hp} {Q:jD},(iss p).L nm sc ss=true→vss p c σ H Q→JSs c.g c.f c.X c.ns ss σ H Q
 M:p.noSt=true→∀{c:Cx} {nm:Nm} {sc:Scope} (ok:c.OkS nm sc) {st:Stmt} {σ:Lo} {H:Hp} {Q:jD},(iss p).S nm sc st=true→vss p c σ H Q→JFm c.g c.f c.X c.ns (exec st c.f.env) σ H Q
 ML:p.noSt=true→∀{c:Cx} {nm:Nm} {sc:Scope} (ok:c.OkS nm sc) {ss:List Stmt} {σ:Lo} {H:Hp} {Q:jD},(iss p).L nm sc ss=true→vss p c σ H Q→JFm c.g c.f c.X c.ns (execs ss c.f.env) σ H Q
def PS.isLst:PS→Bool
 | .nil=>true | .cons _ _=>true | .gho _=>true | _=>false
theorem noLS {p:PS}(hp:p.isLst=false){nm:Nm}{sc:Scope}{ss:List Stmt}(h:(iss p).L nm sc ss=true):False:=by
 cases p<;>first | exact no h | cases hp
theorem SndS.of {p:PS}(hp:p.isLst=false)(hn:p.noSt=false)(S:SS p):SndS p:=
 ⟨S,by intro c nm sc ok ss σ H Q h _;exact(noLS hp h).elim,fun h=>(by rw[hn]at h;cases h),fun h=>(by rw[hn]at h;cases h)⟩
section
variable {c:Cx}{nm:Nm}{sc:Scope}
theorem Qr {ss:List Stmt}(h:(iss .nil).L nm sc ss=true):ss=[]:=by
 cases ss<;>first | rfl | exact no h
theorem UK {s r:PS}{ss:List Stmt}(h:(iss (.cons s r)).L nm sc ss=true):∃st l,ss=st::l∧(iss s).S nm sc st=true∧(iss r).L nm sc l=true:=by
 cases ss<;>try exact no h
 obtain⟨a,b⟩:=andT h
 exact⟨_,_,rfl,a,b⟩
theorem JFm.mono {g:Gx}{f:Fx}{X:Ex}{ns:List Str}{t:Sem Flow}{σ:Lo}{H:Hp}{Q Q':jD}(h:JFm g f X ns t σ H Q)(q:∀x σ H,Q x σ H→Q' x σ H):JFm g f X ns t σ H Q':=
 fun s m mu fz D S lo P E k kE=>h s m mu fz D S lo P E (fun v h tk mu' fz' D' H' m' x σ' st le d lo' hq=>k v h tk mu' fz' D' H' m' x σ' st le d lo' (q _ _ _ hq)) kE
end
theorem ss_expr {p:PE}:SS (.expr p):=by
 intro c nm sc ok st σ H Q h q
 cases st<;>try exact no h
 obtain⟨h1,h2⟩:=andT h
 exact js_expr ok.ok.ok ((snd p).E ok.ok h1 q) (wt h1 h2 _ _ _)
theorem ss_ret {p:PE}:SS (.ret p):=by
 intro c nm sc ok st σ H Q h q
 cases st<;>try exact no h
 rename_i o pos
 cases o<;>try exact no h
 exact js_ret ((snd p).E ok.ok h q)
theorem ss_ret0:SS .ret0:=by
 intro c nm sc ok st σ H Q h q
 cases st<;>try exact no h
 rename_i o pos
 cases o<;>try exact no h
 exact Wo q
theorem ss_pass:SS .pass:=by
 intro c nm sc ok st σ H Q h q
 cases st<;>first | exact no h | exact js_pass q
theorem ss_asg {i:Nat}{p:PE}:SS (.asg i p):=by
 intro c nm sc ok st σ H Q h q
 cases st<;>try exact no h
 rename_i ts e pos
 rcases ts with _ | ⟨t,_ | ⟨_,_⟩⟩<;>try exact no h
 all_goals cases t<;>try exact no h
 obtain⟨h,h3⟩:=andT h
 obtain⟨h1,h2⟩:=andT h
 obtain⟨hx,hl⟩:=ok.lk h1
 exact XW ok.ok.ok ok.hb ok.nd hx hl ((snd p).E ok.ok h2 q) (wt h2 h3 _ _ _)
theorem ss_asgT {ts:List PT}{p:PE}:SS (.asgT ts p):=by
 intro c nm sc ok st σ H Q h q
 cases st<;>try exact no h
 rename_i tl e pos
 rcases tl with _ | ⟨t,_ | ⟨_,_⟩⟩<;>try exact no h
 all_goals cases t<;>try exact no h
 rename_i l k tp
 obtain⟨h,h4⟩:=andT h
 obtain⟨h,h3⟩:=andT h
 obtain⟨h1,h2⟩:=andT h
 obtain⟨hs,hlen⟩:=Kz h1
 obtain⟨hh,q⟩:=q
 refine Xp (JE.mono ((snd p).E ok.ok h2 q) fun y H q=>?_) (wt h2 h3 (some (.Tuple l k tp)) pos.line c.f.env) ?_
 ·unfold unT at q
  split at q
  ·exact UJ ok.ok.G ok.ok.ok hh hs (by rw[← hlen];exact q.1) (KJ ok h1 q.2)
  ·exact q.elim
 ·cases e<;>first | rfl | exact swS_ok ok.hsc (beq_iff_eq.mp h4)
theorem ss_swp {is:List Nat}{p:PE}:SS (.swp is p):=by
 intro c nm sc ok st σ H Q h q
 cases st<;>try exact no h
 rename_i tl e pos
 rcases tl with _ | ⟨t,_ | ⟨_,_⟩⟩<;>try exact no h
 all_goals cases t<;>try exact no h
 rename_i l k tp
 obtain⟨h,h4⟩:=andT h
 obtain⟨h,h3⟩:=andT h
 obtain⟨h1,h2⟩:=andT h
 cases e<;>try exact no h4
 obtain⟨hh,q⟩:=q
 refine js_swap ok.ok.G ok.ok.ok ok.hb hh ok.nd (JE.mono ((snd p).E ok.ok h1 q) fun y H q=>?_) (wt h1 h2 (some (.Tuple l k tp)) pos.line c.f.env) (swS_ok ok.hsc (beq_iff_eq.mp h4))
 unfold unT at q
 split at q
 ·refine⟨_,rfl,by rw[qD];exact q.1,?_⟩
  rw[← List.map_reverse]
  refine jbs_of ok ?_ (by rw[List.length_reverse,List.length_reverse];exact q.1) q.2
  rw[List.all_reverse];exact h3
 ·exact q.elim
theorem ss_satt {o:PE}{k:Nat}{p:PE}:SS (.satt o k p):=by
 intro c nm sc ok st σ H Q h q
 cases st<;>try exact no h
 rename_i tl e pos
 rcases tl with _ | ⟨t,_ | ⟨_,_⟩⟩<;>try exact no h
 all_goals cases t<;>try exact no h
 obtain⟨h,h4⟩:=andT h
 obtain⟨h,h3⟩:=andT h
 obtain⟨h1,h2⟩:=andT h
 rw[beq_iff_eq.mp h1,ok.ok.hR]
 exact Wn ok.ok.G ok.ok.ok ok.ok.Rk (JE.mono ((snd p).E ok.ok h3 q) fun y H q=>(snd o).E ok.ok h2 q) (wt h3 h4 _ _ _)
theorem ss_ssub {o i p:PE}:SS (.ssub o i p):=by
 intro c nm sc ok st σ H Q h q
 cases st<;>try exact no h
 rename_i tl e pos
 rcases tl with _ | ⟨t,_ | ⟨_,_⟩⟩<;>try exact no h
 all_goals cases t<;>try exact no h
 obtain⟨h,h4⟩:=andT h
 obtain⟨h,h3⟩:=andT h
 obtain⟨h1,h2⟩:=andT h
 exact Xn (JE.mono ((snd p).E ok.ok h3 q) fun y H q=>JE.mono ((snd o).E ok.ok h1 q) fun x H q=>(snd i).E ok.ok h2 q) (wt h3 h4 _ _ _)
theorem ss_aug {i:Nat}{op:Operator}{p:PE}:SS (.aug i op p):=by
 intro c nm sc ok st σ H Q h q
 cases st<;>try exact no h
 rename_i t op' e pos
 cases t<;>try exact no h
 obtain⟨h,h3⟩:=andT h
 obtain⟨h1,h2⟩:=andT h
 obtain⟨hx,hl⟩:=ok.lk h1
 rw[jB h2]
 cases hv:nthL σ i with
 | none=>simp only[vss,hv]at q;exact q.elim
 | some v=>
  simp only[vss,hv]at q
  exact js_aug ok.ok.ok ok.hb ok.nd hx hl (yj hv) ((snd p).E ok.ok h3 q)
theorem ss_ite {t:PE}{b o:PS}(ih_b:SndS b)(ih_o:SndS o):SS (.ite t b o):=by
 intro c nm sc ok st σ H Q h q
 cases st<;>try exact no h
 obtain⟨h,h3⟩:=andT h
 obtain⟨h1,h2⟩:=andT h
 exact js_if (JC.mono ((snd t).C ok.ok h1 q) fun p H q=>⟨fun hp=>ih_b.L ok h2 (q.1 hp),fun hp=>ih_o.L ok h3 (q.2 hp)⟩)
theorem ss_whl {t:PE}{b:PS}(ih_b:SndS b):SS (.whl t b):=by
 intro c nm sc ok st σ H Q h q
 cases st<;>try exact no h
 rename_i x y z pos
 cases z<;>try exact no h
 obtain⟨h1,h2⟩:=andT h
 obtain⟨I,k₀,h0,turn⟩:=q
 refine js_while ok.ok.ok ok.hb I (fun k σ H hI=>JC.mono ((snd t).C ok.ok h1 (turn k σ H hI)) fun p H q=>⟨fun hp=>JF.weak (ih_b.L ok h2 (q.1 hp)) fun fl σ' H' q=>?_,q.2⟩) k₀ h0
 cases fl with
 | next=>obtain⟨k',H₃,a,b,c⟩:=q;exact⟨H₃,b,k',a,c⟩
 | cont=>obtain⟨k',H₃,a,b,c⟩:=q;exact⟨H₃,b,k',a,c⟩
 | brk=>exact⟨H',.refl _,q⟩
 | ret x=>exact⟨H',.refl _,q⟩
theorem ss_for {t:Nat}{it:PE}{b:PS}(ih_b:SndS b):SS (.for_ t it b):=by
 intro c nm sc ok st σ H Q h q
 cases st<;>try exact no h
 rename_i x i y z pos
 cases x<;>try exact no h
 cases z<;>try exact no h
 obtain⟨h,h3⟩:=andT h
 obtain⟨h1,h2⟩:=andT h
 obtain⟨hx,hl⟩:=ok.lk h1
 obtain⟨hh,q⟩:=q
 refine js_for ok.ok.G ok.ok.ok ok.hb hh (fun it v M A P E s k=>wpAny_pure k) (JM (qg h2) _) (JE.mono ((snd it).E ok.ok h2 q) fun v H q=>?_)
 obtain⟨xs,HP,src,hp,I,h0,hfin,turn⟩:=q
 refine⟨xs,HP,src,hp,I,h0,hfin,fun k σ H y hy hI hP=>JK ok.ok.ok ok.hb ok.nd hx hl (JF.weak (ih_b.L ok h3 (turn k σ H y hy hI hP)) fun fl σ' H' q=>?_)⟩
 cases fl with
 | next=>obtain⟨H₃,b,c⟩:=q;exact⟨H₃,b,c⟩
 | cont=>obtain⟨H₃,b,c⟩:=q;exact⟨H₃,b,c⟩
 | brk=>exact⟨H',.refl _,q⟩
 | ret x=>exact⟨H',.refl _,q⟩
theorem ss_forE {en i j:Nat}{it:PE}{b:PS}(ih_b:SndS b):SS (.forE en i j it b):=by
 intro c nm sc ok st σ H Q h q
 cases st<;>try exact no h
 rename_i x iter y z pos
 cases x<;>try exact no h
 rename_i tl k tp
 rcases tl with _ | ⟨t1,_ | ⟨t2,_ | ⟨_,_⟩⟩⟩<;>try exact no h
 all_goals cases t1<;>try exact no h
 all_goals cases t2<;>try exact no h
 cases iter<;>try exact no h
 rename_i f as kw ip
 rcases as with _ | ⟨e,_ | ⟨_,_⟩⟩<;>try exact no h
 all_goals cases kw<;>try exact no h
 cases z<;>try exact no h
 obtain⟨h,h5⟩:=andT h
 obtain⟨h,h4⟩:=andT h
 obtain⟨h,h3⟩:=andT h
 obtain⟨h1,h2⟩:=andT h
 obtain⟨hx,hl⟩:=ok.lk h1
 obtain⟨hx',hl'⟩:=ok.lk h2
 obtain⟨gx,gk,gpos,rfl,hi,hg⟩:=wZ h3
 rw[ok.ok.hR]at hg
 simp only[vss,hg]at q
 split at q
 ·rename_i e1
  cases e1
  obtain⟨hh,q⟩:=q
  refine Xo ok.ok.G ok.ok.ok ok.hb hh (Mine.yn ok.ok hi hg ⟨rfl,rfl⟩) (fun env=>by rw[Jx (qg h4)];rfl) (Jx (qg h4) []) (fun _=>rfl) (JE.mono ((snd it).E ok.ok h4 q) fun v H q=>?_)
  obtain⟨xs,hxs,I,h0,hfin,turn⟩:=q
  refine⟨xs,hxs,I,h0,hfin,fun k σ H y hy hI hL=>UJ ok.ok.G ok.ok.ok hh (fun env=>rfl) rfl (JK ok.ok.ok ok.hb ok.nd hx hl (JK ok.ok.ok ok.hb ok.nd hx' hl' (JF.weak (ih_b.L ok h5 (turn k σ H y hy hI hL)) fun fl σ' H' q=>?_)))⟩
  cases fl with
  | next=>obtain⟨H₃,b,c⟩:=q;exact⟨H₃,b,c⟩
  | cont=>obtain⟨H₃,b,c⟩:=q;exact⟨H₃,b,c⟩
  | brk=>exact⟨H',.refl _,q⟩
  | ret x=>exact⟨H',.refl _,q⟩
 ·exact q.elim
theorem ss_raise {ci:Nat}{args:PE}:SS (.raise_ ci args):=by
 intro c nm sc ok st σ H Q h q
 cases st<;>try exact no h
 rename_i e d pos
 cases e<;>try exact no h
 rename_i e
 cases e<;>try exact no h
 rename_i f as kw cpos
 cases kw<;>cases d<;>try exact no h
 obtain⟨h1,h2⟩:=andT h
 obtain⟨gx,gk,gpos,rfl,hi,hg⟩:=wZ h1
 rw[ok.ok.hR]at hg
 simp only[vss,hg]at q
 split at q
 ·rename_i e1
  cases e1
  obtain⟨hxs,hh,hm,QX,hXF,q⟩:=q
  obtain⟨r,R,hexc⟩:=ok.ok.Rk.exc
  obtain⟨x1,x2,x3⟩:=hexc _ hxs
  have hn:Fx.Ok c.g c.f (c.n-3+3):=by rw[Nat.sub_add_cancel hm];exact ok.ok.ok
  have hl:=(snd args).L ok.ok (pos:=cpos) h2 q
  have hX:c.X=(jR c.g QX).R c.f:=by unfold Cx.X;rw[hXF]
  have hg':=Mine.yn ok.ok (pos:=gpos) (σ:=σ) (H:=H) (Q:=fun v H₁=>v = .ref (c.R.cls _)∧JEs c.g c.f c.X c.ns cpos as σ H₁ (fun xs H=>∃x,xs=[x]∧QX _ x H)) hi hg ⟨rfl,JEs.mono hl fun xs H q=>q.2⟩
  rw[hX]at hg' ⊢
  exact js_raise ok.ok.G r R hn ok.hb hh x1 x2 (qu h2) (ok.ok.Rk.keepC _) hg'
 ·exact q.elim
theorem ss_try {b:PS}{ci n:Nat}{hd:PS}(ih_b:SndS b)(ih_h:SndS hd):SS (.try_ b ci n hd):=by
 intro c nm sc ok st σ H Q h q
 cases st<;>try exact no h
 rename_i y hs o fi pos
 rcases hs with _ | ⟨⟨ty,nme,z,hpos⟩,rest⟩<;>try exact no h
 cases ty<;>cases nme<;>cases o<;>cases fi<;>try exact no h
 obtain⟨h,h6⟩:=andT h
 obtain⟨h,h5⟩:=andT h
 obtain⟨h,h4⟩:=andT h
 obtain⟨h,h3⟩:=andT h
 obtain⟨h1,h2⟩:=andT h
 obtain⟨gx,gk,gpos,rfl,hi,hg⟩:=wZ h2
 obtain⟨hx,hl⟩:=ok.lk h3
 rw[ok.ok.hR]at hg
 simp only[vss,hg]at q
 split at q
 ·rename_i cid e1
  cases e1
  obtain⟨hxs,hh,hout,hlen,QX,hC,qb,qh⟩:=q
  obtain⟨r,R,hexc⟩:=ok.ok.Rk.exc
  obtain⟨x1,x2,x3⟩:=hexc _ hxs
  have hgo:=ok.ok.glb ci (List.contains_iff_mem.mp hi)
  unfold gOk at hgo
  rw[hg]at hgo
  simp only[qM,beq_iff_eq,Bool.not_eq_true']at hgo
  have okb:Cx.OkS {c with f:={c.f with hd:=c.f.hd,xc:=c.f.xc},XF:=jR c.g QX,XB:=c.XB} nm sc:=ok.turn (.inr hh) ok.ok.hXB ok.ok.hqB
  have mb:=ih_b.ML h6 okb h1 qb
  cases z with
  | nil=>
   cases hd<;>first | exact no h4 | exact no h5
  | cons st₀ suite=>
   refine js_try ok.ok.G ok.ok.ok ok.hb hout ok.nd mb x1 hgo.1 hgo.2 (ok.ok.Rk.clsG _ _ _ hg) hx hl hlen hC fun e x H' hq=>?_
   have okh:(c.hdl e (c.R.cls cid) x).OkS nm sc:=ok.turn (.inl trivial) (fun _=>rfl) (.inl trivial)
   exact ih_h.L okh h4 (qh e x H' hq)
 ·exact q.elim
theorem ss_brk:SS .brk:=by
 intro c nm sc ok st σ H Q h q
 cases st<;>try exact no h
 intro s m mu fz D S lo P E k kE
 exact jC (wpAny_standAt (wpAny_pure (k .brk s.heap s.toks mu fz D H m .brk σ S (fun _ h=>h) rfl lo q)))
theorem ss_cont:SS .cont:=by
 intro c nm sc ok st σ H Q h q
 cases st<;>try exact no h
 intro s m mu fz D S lo P E k kE
 exact jC (wpAny_standAt (wpAny_pure (k .cont s.heap s.toks mu fz D H m .cont σ S (fun _ h=>h) rfl lo q)))
theorem ss_asgC {i:Nat}{bns:List Str}{elt tgt iter:PE}:SS (.asgC i bns elt tgt iter):=by
 intro c nm sc ok st σ H Q h q
 cases st<;>try exact no h
 rename_i ts e pos
 rcases ts with _ | ⟨t,_ | ⟨_,_⟩⟩<;>try exact no h
 all_goals cases t<;>try exact no h
 obtain⟨h,g4⟩:=andT h
 obtain⟨h,g3⟩:=andT h
 obtain⟨g1,g2⟩:=andT h
 obtain⟨hy,hyl⟩:=ok.lk g1
 obtain⟨elt',tgt',iter',sc',cpos,rfl,h1,h2,h3,h4,h5,h6,h7,h8⟩:=UL g2
 rw[ok.ok.hR]at h2 h8
 refine Uj ok.ok.G ok.ok.ok ok.hb h5 ok.nd hy hyl (JM (qg h4) _) ?_ (JE.mono ((snd iter).E ok.ok h4 q) ?_)
 ·have hk:c.f.env.blockKind = .function:=by unfold Env.blockKind;rw[ok.ok.ok.kind];rfl
  have hl2:c.f.env.kindOf _=some .local:=hyl
  have g3':=jB g3
  show(do return c.f.env.blockKind == .function&&c.f.env.kindOf _==some .local&&_==_&&!(sc'.names.any _):Sem Bool)=pure true
  rw[hk,hl2,g3']
  simp only[beq_self_eq_true,Bool.true_and]
  refine congrArg pure ?_
  rw[Bool.not_eq_true',← Bool.not_eq_true]
  intro z
  rw[List.any_eq_true]at z
  obtain⟨p,hp,hz⟩:=z
  have:=qQ.mp g4 p hp
  rw[Bool.not_eq_true']at this
  exact Bool.false_ne_true (this.symm.trans hz)
 rintro v H₁ ⟨xs,HP,src,hp,hl,I,h0,hfin,turn⟩
 refine⟨xs,HP,src,hp,hl,I,h0,hfin,fun f' a b k y ys H hok hb hsc hhd hy hI hP ha hC hne=>?_⟩
 obtain⟨ps,a1,pvs,rfl,a2⟩:=Js (snd elt).E ok.ok h2 h6 h8 h7 h3 hok hb hsc hhd (turn f' a b.C k y ys H hy hI hP ha hC hne hhd)
 exact⟨_,a1,Ub a2⟩
theorem snds:∀p:PS,SndS p:=by
 intro p
 induction p with
 | nil=>exact⟨fun ok _ _ _ _ h _=>no h,fun ok ss σ H Q h q=>by rw[Qr h];exact jss_nil q,fun _ _ _ _ ok _ _ _ _ h _=>no h,fun _ _ _ _ ok ss σ H Q h q=>by rw[Qr h];exact jfm_nil q⟩
 | cons s r ih_s ih_r=>
  refine⟨fun ok _ _ _ _ h _=>no h,?_,fun _ _ _ _ ok _ _ _ _ h _=>no h,?_⟩
  ·intro c nm sc ok ss σ H Q h q
   obtain⟨st,l,rfl,h1,h2⟩:=UK h
   refine jss_cons (JF.mono (ih_s.S ok h1 q) fun fl σ' H' q=>?_)
   cases fl with
   | next=>exact ih_r.L ok h2 q
   | brk=>exact q
   | cont=>exact q
   | ret x=>exact q
  ·intro hn c nm sc ok ss σ H Q h q
   obtain⟨st,l,rfl,h1,h2⟩:=UK h
   obtain⟨n1,n2⟩:=andT hn
   cases r<;>try exact no n2
   rw[Qr h2]
   refine jfm_one (JFm.mono (ih_s.M n1 ok h1 q) fun fl σ' H' q=>?_)
   cases fl<;>exact q
 | gho r ih=>
  refine⟨fun ok _ _ _ _ h _=>no h,?_,fun _ _ _ _ ok _ _ _ _ h _=>no h,fun hn=>no hn⟩
  intro c nm sc ok ss σ H Q h q
  obtain⟨H',z,q⟩:=q
  exact JF.frz z (ih.L ok h q)
 | expr p=>exact .of rfl rfl ss_expr
 | ret p=>
  refine⟨ss_ret,by intro c nm sc ok ss σ H Q h _;exact(noLS rfl h).elim,fun _=>?_,by intro _ c nm sc ok ss σ H Q h _;exact(noLS rfl h).elim⟩
  intro c nm sc ok st σ H Q h q
  cases st<;>try exact no h
  rename_i o pos
  cases o<;>try exact no h
  exact jfm_ret ((snd p).E ok.ok h q)
 | ret0=>exact .of rfl rfl ss_ret0
 | pass=>exact .of rfl rfl ss_pass
 | brk=>exact .of rfl rfl ss_brk
 | cont=>exact .of rfl rfl ss_cont
 | asg i p=>exact .of rfl rfl ss_asg
 | asgC i bns elt tgt iter=>exact .of rfl rfl ss_asgC
 | aug i op p=>exact .of rfl rfl ss_aug
 | asgT ts p=>exact .of rfl rfl ss_asgT
 | swp is p=>exact .of rfl rfl ss_swp
 | satt o k p=>exact .of rfl rfl ss_satt
 | ssub o i p=>exact .of rfl rfl ss_ssub
 | ite t b o ih_b ih_o=>
  refine⟨ss_ite ih_b ih_o,by intro c nm sc ok ss σ H Q h _;exact(noLS rfl h).elim,fun hn=>?_,by intro _ c nm sc ok ss σ H Q h _;exact(noLS rfl h).elim⟩
  intro c nm sc ok st σ H Q h q
  obtain⟨n1,n2⟩:=andT hn
  cases st<;>try exact no h
  obtain⟨h,h3⟩:=andT h
  obtain⟨h1,h2⟩:=andT h
  exact jfm_if (JC.mono ((snd t).C ok.ok h1 q) fun p H q=>⟨fun hp=>ih_b.ML n1 ok h2 (q.1 hp),fun hp=>ih_o.ML n2 ok h3 (q.2 hp)⟩)
 | whl t b ih=>exact .of rfl rfl (ss_whl ih)
 | for_ t it b ih=>exact .of rfl rfl (ss_for ih)
 | forE en i j it b ih=>exact .of rfl rfl (ss_forE ih)
 | raise_ ci args=>exact .of rfl rfl ss_raise
 | try_ b ci n h ih_b ih_h=>exact .of rfl rfl (ss_try ih_b ih_h)
structure Def where
 ps:List Str
 dv:List V
 ns:List Str
 gs:List Nat
 body:PS
def zM (R:Rt)(d:Def)(sc:Scope):Bool:=
 d.ns.all (lOk sc)&&decide d.ns.Nodup&&d.gs.all (gOk R.gT sc)&&!sc.isCoroutine&&!sc.isGenerator&&sc.kind == .function&&sc.names.all (fun x=>x.2 != .cell)&&d.ps==d.ns.take d.ps.length
structure ji (g:Gx)(R:Rt)(fa:Addr)(d:Def):Prop where
 at_:∃name qual params body scope dV kV doc pm cdv ct oc an od osl dvals,
  g.K.lookup fa=some ⟨oc,od,.func (fnOf name qual params body scope dV kV doc pm an cdv ct),osl⟩∧codeIn g.K cdv qual=true ∧
  (∀(vals:List Value) (s:Shared),g.K.In s.heap→vals.length+d.dv.length=d.ps.length→BindsTo s (fnOf name qual params body scope dV kV doc pm an cdv ct) ⟨vals,[]⟩ (d.ps.zip (vals++dvals))) ∧
  (∀fz,qf g fz d.dv dvals)∧zM R d scope=true∧(iss d.body).L ⟨d.ns,d.gs,R,true⟩ scope body=true
def σ0 (d:Def)(args:List V):Lo:=args.map some++(d.dv.map some++(d.ns.drop d.ps.length).map fun _=>none)
abbrev Cx.of (g:Gx)(f:Fx)(XF XB:ExF g)(n:Nat)(R:Rt)(ns:List Str):Cx:=⟨g,f,XF,XB,n,R,ns,rdF⟩
theorem locs0_of {g:Gx}{fz:List (Addr×Obj)}:∀{ns:List Str} {xs:List V} {vs:List Value} {rest:Lo},qf g fz xs vs→(∀o∈rest,o=none)→ns.Nodup→xs.length≤ns.length→Locs0 g fz ns (xs.map some++rest) (fun y=>((ns.take xs.length).zip vs).reverse.lookup y):=by
 intro ns xs vs rest d hr nd hl i x hx v hv
 have hi:i<xs.length:=by
  by_cases h:i<xs.length
  ·exact h
  ·rw[qX (by rw[qD];lia)]at hv
   have:=hr _ (qW hv)
   cases this
 rw[qJ (by rw[qD];exact hi),qV]at hv
 cases hxi:xs[i]? with
 | none=>rw[hxi]at hv;cases hv
 | some w=>
  rw[hxi]at hv;cases hv
  obtain⟨u,hu,du⟩:=d.get hxi
  refine⟨u,?_,du⟩
  have hvl:=d.length
  have nd':((ns.take xs.length).zip vs).map (·.1)=ns.take xs.length:=List.map_fst_zip (by rw[List.length_take];lia)
  have hmem:((ns.take xs.length).zip vs)[i]? = some (x,u):=by
   rw[List.getElem?_zip_eq_some]
   exact⟨by rw[List.getElem?_take_of_lt hi];exact hx,hu⟩
  have nd2:(((ns.take xs.length).zip vs).reverse.map (·.1)).Nodup:=by
   rw[List.map_reverse,nd'];exact(List.reverse_perm _).nodup_iff.mpr (nd.sublist (List.take_sublist ..))
  have key:∀(l:List (Str×Value)),(l.map (·.1)).Nodup→(x,u)∈l→l.lookup x=some u:=by
   intro l
   induction l with
   | nil=>intro _ h;cases h
   | cons p l ih=>
    obtain⟨y,w⟩:=p
    intro nd h
    rw[jA,List.nodup_cons]at nd
    rcases qL.mp h with h | h
    ·cases h;simp[List.lookup]
    ·have hne:x≠y:=fun z=>nd.1 (by rw[← z];exact qG.mpr ⟨_,h,rfl⟩)
     rw[List.lookup_cons]
     rw[show(x==y)=false from by simpa using hne]
     exact ih nd.2 h
  exact key _ nd2 (List.mem_reverse.mpr (qW hmem))
theorem Kq {g:Gx}{R:Rt}{XF XB:ExF g}{n:Nat}{fa:Addr}{d:Def}{args:List V}{H:Hp}{Q:V→Hp→Prop}(G:g.Ok)(Rk:RtOk g R)(D:ji g R fa d)(hB:∀f,XB.R f=Ex.none)(hc:XF.calm→XB.calm)(hXB:XB.calm∨¬XF.calm)(hl:args.length+d.dv.length=d.ps.length)
  (h:∀f,(XF.calm∨f.hd=none)→f.xc=none→Fx.Ok g f n→vss d.body (.of g f XF XB n R d.ns) (σ0 d args) H fun fl _ H'=>Q (match fl with | .ret x=>x | _=>.none) H'):jb g XF (n+1) (.ref fa) args H Q:=by
 obtain⟨name,qual,params,body,scope,dV,kV,doc,pm,cdv,ct,oc,an,od,osl,dvals,ho,hcd,hb,hdv,hok,his⟩:=D.at_
 unfold zM at hok
 obtain⟨hok,k8⟩:=andT hok
 obtain⟨hok,k7⟩:=andT hok
 obtain⟨hok,k6⟩:=andT hok
 obtain⟨hok,k5⟩:=andT hok
 obtain⟨hok,k4⟩:=andT hok
 obtain⟨hok,k3⟩:=andT hok
 obtain⟨k1,k2⟩:=andT hok
 have nd:d.ns.Nodup:=jB k2
 have hps:d.ps=d.ns.take d.ps.length:=beq_iff_eq.mp k8
 have hkd:scope.kind = .function:=beq_iff_eq.mp k6
 have hlen:d.ps.length≤d.ns.length:=by have:=congrArg List.length hps;rw[List.length_take]at this;lia
 refine Xz (bs:=fun vals=>d.ps.zip (vals++dvals)) (ns:=d.ns) (σ:=σ0 d args) G ho hcd (fun vals s X hv=>hb vals s X (by rw[hv];exact hl)) (fun vals y hy=>?_) (by simpa using k4) (by simpa using k5) hkd (fun x hx=>by simpa using qQ.mp k7 x hx) (fun fz vals dn=>?_) (fun L' f hn hsc hbk hxc ok hq=>?_)
 ·have:=(List.of_mem_zip hy).1
  rw[hps]at this
  exact beq_iff_eq.mp (andT (qQ.mp k1 _ (List.mem_of_mem_take this))).1
 ·have dd:qf g fz (args++d.dv) (vals++dvals):=Dens.append dn (hdv fz)
  have hlx:(args++d.dv).length=d.ps.length:=by rw[qC];exact hl
  have:=locs0_of (ns:=d.ns) (rest:=(d.ns.drop d.ps.length).map fun _=>none) dd (fun o ho=>by obtain⟨_,_,rfl⟩:=qG.mp ho;rfl) nd (by rw[hlx];exact hlen)
  rw[hlx,← hps]at this
  rw[qI,List.append_assoc]at this
  exact this
 ·have henv:f.env.scope=scope:=by rw[Fx.env_none hbk];exact hsc
  have oks:(Cx.of g f XF XB n R d.ns).OkS ⟨d.ns,d.gs,R,true⟩ scope:=by
   refine⟨⟨G,Rk,rfl,ok,hq,hB,?_,fun i x hx pos σ H Q q=>?_,fun i hi=>by rw[henv];exact qQ.mp k3 i hi,fun _=>hbk⟩,hbk,nd,rfl,fun i x hx=>by rw[henv];exact qQ.mp k1 x (qW hx),rfl,henv⟩
   ·rcases hXB with hXB | hXB
    ·exact .inl hXB
    ·exact .inr (hq.resolve_left hXB)
   ·have hlx:=qQ.mp k1 x (qW hx)
    unfold lOk at hlx
    obtain⟨l1,l2⟩:=andT hlx
    have q':locV (nthL σ i) (fun v=>Q v H):=q
    cases hv:nthL σ i with
    | none=>rw[hv]at q';exact q'.elim
    | some v=>
     rw[hv]at q'
     exact ym ok hbk hx (by rw[henv];exact beq_iff_eq.mp l1) (by simpa using l2) (yj hv) q'
  exact(snds d.body).L oks his (h f hq hxc ok)
section
def qo (H H':Hp)(S:List Addr):Prop:=∀a o,H a=some o→a∉S→H' a=some o
theorem qo.refl (H:Hp)(S:List Addr):qo H H S:=fun _ _ h _=>h
theorem qo.set {H H':Hp}{S:List Addr}{b:Addr}{o:AO}(k:qo H H' S)(hb:b∈S∨H b=none):qo H (H'.set b o) S:=fun a o' e hn=>by
 have:a≠b:=fun z=>by
  subst z
  rcases hb with hb | hb
  ·exact hn hb
  ·rw[hb]at e;cases e
 rw[zN _ _ this]
 exact k a o' e hn
def AO.kind:AO→Nat
 | .list _=>0 | .inst _ _=>1 | .dict _=>2 | .ns _=>3
theorem uH {H:Hp}{a b:Addr}{o:AO}(ha:H a=some o)(hb:H b=none):a≠b:=fun z=>by rw[z,hb]at ha;cases ha
theorem qm {H:Hp}{a b:Addr}{o:AO}(ha:H a=some o)(hb:H b=none):b≠a:=fun z=>by rw[← z,hb]at ha;cases ha
theorem uk {H:Hp}{a b:Addr}{o o':AO}(ha:H a=some o)(hb:H b=some o')(h:Nat.beq o.kind o'.kind=false):a≠b:=fun z=>by
 rw[z,hb]at ha;cases ha
 rw[Nat.beq_refl]at h;cases h
theorem ne_cls {g:Gx}{R:Rt}(Rk:RtOk g R){H:Hp}{a b:Addr}{i j:Nat}{xs ys:List V}(ha:H a=some (.inst (R.cls i) xs))(hb:H b=some (.inst (R.cls j) ys))(hi:Nat.blt i R.nc=true)(hj:Nat.blt j R.nc=true)(h:Nat.beq i j=false):a≠b:=fun z=>by
 rw[z,hb]at ha
 cases Rk.cinj j i (by simpa using hj) (by simpa using hi) (by injection ha with q;injection q)
 rw[Nat.beq_refl]at h;cases h
theorem Jz {H:Hp}{a b:Addr}{o o':AO}(h:a≠b)(e:H a=some o'):H.set b o a=some o':=(zN H o h).trans e
theorem uA {H:Hp}{a b:Addr}{o:AO}(h:H.set b o a=none):H a=none∧a≠b:=by
 by_cases z:a=b
 ·subst z;rw[zS]at h;cases h
 ·rw[zN _ _ z]at h;exact⟨h,z⟩
theorem none_set {H:Hp}{a b:Addr}{o:AO}(h:a≠b)(e:H a=none):H.set b o a=none:=(zN H o h).trans e
theorem del_get {H:Hp}{a b:Addr}{o':AO}(h:a≠b)(e:H a=some o'):H.del b a=some o':=by unfold Hp.del;rw[if_neg h];exact e
theorem keep_nil {a:Addr}:a∉([]:List Addr):=fun h=>by cases h
theorem QM {a b:Addr}{S:List Addr}(h:a≠b)(h':a∉S):a∉b::S:=fun z=>by rcases qL.mp z with z | z;exact h z;exact h' z
theorem refL_of {H:Hp}{a:Addr}{k:List V→Prop}{xs:List V}(e:H a=some (.list xs))(q:k xs):refL H a k:=⟨xs,e,q⟩
theorem refO_of {H:Hp}{a C:Addr}{k:Addr→List V→Prop}{xs:List V}(e:H a=some (.inst C xs))(q:k C xs):refO H a k:=⟨C,xs,e,q⟩
theorem XO {g:Gx}{H:Hp}{a:Addr}{z:V}{k:V→Prop}{xs:List V}(e:H a=some (.list xs))(q:wE xs z k):refS g H a z k:=.inl ⟨xs,e,q⟩
theorem refS_s {g:Gx}{H:Hp}{a:Addr}{x:String}{k:V→Prop}{kvs:List (String×V)}{y:V}(e:H a=some (.dict (.s kvs)))(hy:getK kvs x=some y)(q:k y):refS g H a (.str x) k:=.inr ⟨y,by rw[← hy];exact .s (.inl e),q⟩
theorem wF {g:Gx}{H:Hp}{a:Addr}{x:Int}{k:V→Prop}{kvs:List (Int×V)}{y:V}(e:H a=some (.dict (.i kvs)))(hy:getK kvs x=some y)(q:k y):refS g H a (.int x) k:=.inr ⟨y,by rw[← hy];exact .i (.inl e),q⟩
theorem XQ {R:Rt}{H:Hp}{a:Addr}{k cid j:Nat}{xs:List V}{P:MK→Prop}(e:H a=some (.inst (R.cls cid) xs))(hm:R.mt cid k=some j)(q:P (.fn j)):refM R H a k P:=.inl ⟨cid,xs,j,e,hm,q⟩
theorem XP {R:Rt}{H:Hp}{a:Addr}{k:Nat}{m:MK}{xs:List V}{P:MK→Prop}(e:H a=some (.list xs))(hm:lmT R k=some m)(q:P m):refM R H a k P:=.inr ⟨xs,m,e,hm,q⟩
theorem attO_of {R:Rt}{xs:List V}{a cid i:Nat}{k:V→Prop}{y:V}(hi:R.fi cid a=some i)(hx:xs[i]? = some y)(hy:y.plain=true)(q:k y):attO R (R.cls cid) xs a k:=⟨cid,i,y,rfl,hi,hx,hy,q⟩
theorem refAt_of {R:Rt}{H:Hp}{a:Addr}{cid k i:Nat}{y:V}{K:Hp→Prop}{xs ys:List V}(e:H a=some (.inst (R.cls cid) xs))(hi:R.fi cid k=some i)(hl:Nat.ble i xs.length=true)(hy:putF xs i y=ys)(q:K (H.set a (.inst (R.cls cid) ys))):refAt R H a k y K:=
 ⟨cid,xs,i,e,hi,Nat.le_of_ble_eq_true hl,by rw[hy];exact q⟩
theorem XR {R:Rt}{H':Hp}{o:AO}{a:Addr}{cid k i:Nat}{y:V}{K:Hp→Prop}{xs ys:List V}(e:(H'.set a o) a=some (.inst (R.cls cid) xs))(hi:R.fi cid k=some i)(hl:Nat.ble i xs.length=true)(hy:putF xs i y=ys)(q:K (H'.set a (.inst (R.cls cid) ys))):refAt R (H'.set a o) a k y K:=
 ⟨cid,xs,i,e,hi,Nat.le_of_ble_eq_true hl,by rw[hy,Hp.set_set];exact q⟩
theorem ui {g:Gx}{R:Rt}{XF:ExF g}{n cid j:Nat}{args:List V}{H:Hp}{Q:V→Hp→Prop}(G:g.Ok)(Rk:RtOk g R)(hj:R.ini cid=some j)
  (h:∀a,H a=none→jb g XF n (.ref (R.fn j)) (.ref a::args) (H.set a (.inst (R.cls cid) [])) (fun x H'=>x = .none∧Q (.ref a) H')):jb g XF (n+1) (.ref (R.cls cid)) args H Q:=
 Yq G (Rk.ini _ _ hj) h
theorem jb.pure {g:Gx}{XF:ExF g}{n:Nat}{fv:Value}{args:List V}{H:Hp}{Q:V→Hp→Prop}{v:V}(h:jb g XF n fv args H (fun x H'=>x=v∧H.Sub H'))(q:Q v H):jb g XF n fv args H Q:=
 h.weak fun x H' ⟨e,s⟩=>⟨H,s,by rw[e];exact q⟩
theorem refIn_s {g:Gx}{H:Hp}{a:Addr}{x:String}{k:Bool→Prop}{kvs:List (String×V)}(e:H a=some (.dict (.s kvs)))(q:k (getK kvs x).isSome):JD g H a (.str x) k:=⟨_,.s (.inl e),q⟩
theorem refIn_i {g:Gx}{H:Hp}{a:Addr}{x:Int}{k:Bool→Prop}{kvs:List (Int×V)}(e:H a=some (.dict (.i kvs)))(q:k (getK kvs x).isSome):JD g H a (.int x) k:=⟨_,.i (.inl e),q⟩
theorem refIn_b {g:Gx}{H:Hp}{a:Addr}{x:Int}{k:Bool→Prop}{kvs:List (Int×V)}(e:jU g a (.i kvs))(q:k (getK kvs x).isSome):JD g H a (.int x) k:=⟨_,.i (.inr e),q⟩
theorem refP_s {H:Hp}{a:Addr}{x:String}{y:V}{k:Hp→Prop}{kvs kvs':List (String×V)}(e:H a=some (.dict (.s kvs)))(hl:Nat.blt kvs.length 15000000=true)(hp:putK kvs x y=kvs')(q:k (H.set a (.dict (.s kvs')))):refP H a (.str x) y k:=
 .inl ⟨_,_,e,.s (by simpa using hl),by rw[hp];exact q⟩
theorem refP_i {H:Hp}{a:Addr}{x:Int}{y:V}{k:Hp→Prop}{kvs:List (Int×V)}(e:H a=some (.dict (.i kvs)))(hl:kvs.length<15000000)(q:k (H.set a (.dict (.i (putK kvs x y))))):refP H a (.int x) y k:=.inl ⟨_,_,e,.i hl,q⟩
theorem QH {H:Hp}{a:Addr}{i:Int}{y:V}{k:Hp→Prop}{xs:List V}(j:Nat)(e:H a=some (.list xs))(hi:Idx i xs.length j)(q:k (H.set a (.list (xs.set j y)))):refP H a (.int i) y k:=.inr ⟨xs,i,j,e,rfl,hi,q⟩
theorem QG {H:Hp}{a:Addr}{k:List V→V→Prop}{xs:List V}{y:V}(e:H a=some (.list (xs++[y])))(q:k xs y):Ux H a k:=⟨xs,y,e,q⟩
theorem jt {xs:List V}{k:V→Prop}{i:Int}{y:V}(j:Nat)(hi:Idx i xs.length j)(hx:xs[j]? = some y)(q:k y):wE xs (.int i) k:=⟨i,j,y,rfl,hi,hx,q⟩
theorem idx_nat {j n:Nat}(h:Nat.blt j n=true):Idx (Int.ofNat j) n j:=⟨by simpa using h,.inl rfl⟩
theorem idx_neg {j n m:Nat}(h:Nat.beq (j+m) n=true)(h':Nat.blt 0 m=true):Idx (-(m:Int)) n j:=by
 have h:=Nat.eq_of_beq_eq_true h
 have h':0<m:=by simpa using h'
 exact⟨by lia,.inr ⟨by lia,by lia⟩⟩
end
section
section
variable {g:Gx}{R:Rt}{n:Nat}{fa:Addr}{d:Def}{args:List V}{H:Hp}{Q:V→Hp→Prop}
theorem jk (G:g.Ok)(Rk:RtOk g R)(D:ji g R fa d)(hl:args.length+d.dv.length=d.ps.length)
  (h:∀f:Fx,Fx.Ok g f n→vss d.body (.of g f ExF.none ExF.none n R d.ns) (σ0 d args) H fun fl _ H'=>Q (match fl with | .ret x=>x | _=>.none) H'):jb g ExF.none (n+1) (.ref fa) args H Q:=
 Kq G Rk D (fun _=>rfl) (fun z=>z) (.inl trivial) hl fun f _ _ ok=>h f ok
theorem jj (G:g.Ok)(Rk:RtOk g R)(D:ji g R fa d)(hl:args.length+d.dv.length=d.ps.length)
  (h:∀f:Fx,Fx.Ok g f n→f.hd=none→vss d.body (.of g f ExF.still ExF.still n R d.ns) (σ0 d args) H fun fl _ H'=>Q (match fl with | .ret x=>x | _=>.none) H'):jb g ExF.still (n+1) (.ref fa) args H Q:=
 Kq (XB:=ExF.still) G Rk D (fun _=>rfl) (fun z=>z) (.inr fun z=>z) hl fun f hq _ ok=>h f ok (hq.resolve_left fun z=>z)
theorem Qx (QX:Addr→V→Hp→Prop)(G:g.Ok)(Rk:RtOk g R)(D:ji g R fa d)(hl:args.length+d.dv.length=d.ps.length)
  (h:∀f:Fx,Fx.Ok g f n→f.hd=none→vss d.body (.of g f (jR g QX) ExF.still n R d.ns) (σ0 d args) H fun fl _ H'=>Q (match fl with | .ret x=>x | _=>.none) H'):jb g (jR g QX) (n+1) (.ref fa) args H Q:=
 Kq (XB:=ExF.still) G Rk D (fun _=>rfl) (fun z=>z.elim) (.inr fun z=>z) hl fun f hq _ ok=>h f ok (hq.resolve_left fun z=>z)
theorem jb.own {XF:ExF g}{QX:Addr→V→Hp→Prop}{fv:Value}(h:jb g ExF.still n fv args H Q):jb g (jR g QX) n fv args H Q:=h.still fun z=>z
theorem jb.calm {XF:ExF g}{fv:Value}(h:jb g ExF.none n fv args H Q):jb g XF n fv args H Q:=h.none
end
theorem XJ {α:Type}{xs:List α}{k:Nat}:xs.take (min k xs.length)=xs.take k:=by
 rw[List.take_eq_take_iff];lia
theorem zZ {xs:List V}{k:Int}(h:0≤k):pick xs (some k) none=xs.drop k.toNat:=by
 unfold pick kms_lo kms_hi
 simp only
 rw[if_neg (by lia)]
 rw[List.take_of_length_le (by rw[List.length_drop];lia)]
 by_cases hk:k.toNat≤xs.length
 ·rw[Nat.min_eq_left hk]
 ·rw[Nat.min_eq_right (by lia),List.drop_of_length_le (by lia),List.drop_of_length_le (by lia)]
theorem yY {xs:List V}{k:Int}(h:0≤k):pick xs none (some k)=xs.take k.toNat:=by
 unfold pick kms_lo kms_hi
 simp only[Nat.sub_zero,List.drop_zero]
 rw[if_neg (by lia),XJ]
end
section
section
variable {H:Hp}{a b d C:Addr}{xs ys:List V}
theorem WQ (hd:H d=none)(hb:b≠d):Frz ((H.set d (.inst C xs)).set b (.list (ys++[.ref d]))) (H.set b (.list (ys++[.obj C xs]))):=by
 refine .inst d C xs (Jz (Ne.symm hb) (zS ..)) fun c o' e=>?_
 by_cases hc:c=b
 ·subst hc
  rw[zS]at e;cases e
  exact⟨hb,_,zS ..,.list (V.Frs.append (.refl _) (.cons .put .nil))⟩
 ·rw[zN _ _ hc]at e
  have hcd:c≠d:=fun z=>by rw[z,hd]at e;cases e
  exact⟨hcd,o',by rw[zN _ _ hc,zN _ _ hcd];exact e,.refl _⟩
theorem gho_lst (hd:H d=none)(hb:b≠d):Frz ((H.set d (.list xs)).set b (.list (ys++[.ref d]))) (H.set b (.list (ys++[.lst xs]))):=by
 refine .list d xs (Jz (Ne.symm hb) (zS ..)) fun c o' e=>?_
 by_cases hc:c=b
 ·subst hc
  rw[zS]at e;cases e
  exact⟨hb,_,zS ..,.list (V.Frs.append (.refl _) (.cons .put .nil))⟩
 ·rw[zN _ _ hc]at e
  have hcd:c≠d:=fun z=>by rw[z,hd]at e;cases e
  exact⟨hcd,o',by rw[zN _ _ hc,zN _ _ hcd];exact e,.refl _⟩
end
end
section
theorem Uu {X Y:Hp}(k:qo X Y []):X.Sub Y:=fun a o e=>k a o e fun h=>by cases h
theorem Xm {X Y:Hp}{a:Addr}{o:AO}{S:List Addr}(e:Y a=some o)(k:qo X Y (a::S)):qo (X.set a o) Y S:=fun b o' h hn=>by
 by_cases z:b=a
 ·subst z;rw[zS]at h;cases h;exact e
 ·rw[zN _ _ z]at h;exact k b o' h (QM z hn)
theorem Xl {X Y:Hp}{a:Addr}{o:AO}{S:List Addr}(ha:a∈S)(k:qo X Y S):qo (X.set a o) Y S:=fun b o' h hn=>by
 have z:b≠a:=fun z=>by subst z;exact hn ha
 rw[zN _ _ z]at h;exact k b o' h hn
theorem keeps_in {X Y:Hp}{a:Addr}{o:AO}{S:List Addr}(ha:a∈S)(k:qo X Y S):qo X (Y.set a o) S:=k.set (.inl ha)
theorem XV {X Y:Hp}{a:Addr}{o:AO}{S:List Addr}(ha:X a=none)(k:qo X Y S):qo X (Y.set a o) S:=k.set (.inr ha)
end
section
namespace Drv
open Lean Meta Elab Tactic
def opened:List Name:=[``vss,``compG,``VS.E,``VS.C,``VS.L,``VS.O,``VS.T,``VS.B,``VS.val,``vs,``vcE,``vcL,``vcO,``vcC,``vcT,``vcB,``binV,``addV,``mulV,``negV,``cmpV,``cmpC,``truV,``biV,``seqOf,``listOf,``KB,``subV,``yF,``JH,``locV,``rdF,``nthL,``Jv,``putV,``unT,``vts,``UC,``tgtB,``rdB,``nthP,``Cx.rd,``Def.body,``Cx.blk,``inV,``inC,``zz,``GK.v]
def projs:List Name:=[``Cx.g,``Cx.f,``Cx.XF,``Cx.XB,``Cx.n,``Cx.R,``Cx.ns,``Cx.rd,``Cx.X]
def wV (fuel:Nat)(e:Lean.Expr):MetaM (Option (List Lean.Expr)):=do
 match fuel with
 | 0=>return none
 | fuel+1=>
  let e ← whnfR e
  if e.isAppOfArity ``List.nil 1 then return some []
  if e.isAppOfArity ``List.cons 3 then
   let some r ← wV fuel e.appArg! | return none
   return some (e.appFn!.appArg! :: r)
  return none
def ul (ty:Lean.Expr)(l:List Lean.Expr):Lean.Expr:=l.foldr (fun x r=>mkApp3 (mkConst ``List.cons [0]) ty x r) (mkApp (mkConst ``List.nil [0]) ty)
def natOf? (e:Lean.Expr):MetaM (Option Nat):=do
 match ← getNatValue? e with
 | some n=>return some n
 | none=>match ← whnfD e with
  | .lit (.natVal n)=>return some n
  | _=>return none
def clean (e:Lean.Expr):MetaM Lean.Expr:=do
 let e ← Core.betaReduce (← instantiateMVars e)
 Meta.transform e (post:=fun e=>do
  match e.getAppFn with
  | .const n _=>
   if projs.contains n&&e.getAppNumArgs==1 then
    let c ← whnfR e.appArg!
    if c.isAppOf ``Cx.mk then
     if n == ``Cx.X then
      return .done e
     let some e' ← unfoldDefinition? (mkApp e.appFn! c) | return .done e
     return .done (← whnfCore e').headBeta
   if (n == ``memP&&e.getAppNumArgs==3)||(n == ``posB&&e.getAppNumArgs==2) then
    let some e' ← unfoldDefinition? e | return .done e
    return .done (← whnfCore e')
   if n == ``GK.v&&e.getAppNumArgs==2 then
    let k ← whnfR e.appArg!
    if k.isAppOfArity ``GK.val 1 then return .done k.appArg!
    if k.isAppOfArity ``GK.fn 1 then return .done (mkApp (mkConst ``V.ref) (mkApp2 (mkConst ``Rt.fn) e.appFn!.appArg! k.appArg!))
    if k.isAppOfArity ``GK.cls 1 then return .done (mkApp (mkConst ``V.ref) (mkApp2 (mkConst ``Rt.cls) e.appFn!.appArg! k.appArg!))
    return .done e
   if n == ``List.set&&e.getAppNumArgs==4 then
    let args:=e.getAppArgs
    let some l ← wV 200 args[1]! | return .done e
    let some i ← natOf? args[2]! | return .done e
    return .done (ul args[0]! (l.set i args[3]!))
   return .done e
  | _=>return .done e)
def intLit? (e:Lean.Expr):MetaM (Option Int):=do
 match ← getIntValue? e with
 | some i=>return some i
 | none=>
  let e ← whnfD e
  if e.isAppOfArity ``Int.ofNat 1 then
   return (← natOf? e.appArg!).map fun n=>Int.ofNat n
  else if e.isAppOfArity ``Int.negSucc 1 then
   return (← natOf? e.appArg!).map fun n=>Int.negSucc n
  else return none
def zA (fuel:Nat)(e:Lean.Expr):MetaM Lean.Expr:=do
 match fuel with
 | 0=>return e
 | fuel+1=>
  let e ← whnfCore e
  match e.getAppFn with
  | .const n _=>
   if opened.contains n then
    match ← unfoldDefinition? e with
    | some e'=>zA fuel e'
    | none=>return e
   else
    match ← getMatcherInfo? n with
    | some info=>
     let args:=e.getAppArgs
     let mut args':=args
     let lo:=info.numParams+1
     let mut ch:=false
     for i in [lo:lo+info.numDiscrs] do
      if h:i<args.size then
       let d ← whnfD args[i]
       let mut d:=d
       if d.isAppOfArity ``Option.some 2 then
        d:=mkApp d.appFn! (← whnfD d.appArg!)
       if d != args[i]then ch:=true
       args':=args'.set! i d
     if ch then
      let e':=mkAppN e.getAppFn args'
      let e'' ← whnfCore e'
      if e''.getAppFn==e'.getAppFn then return e else zA fuel e''
     else return e
    | none=>return e
  | .proj _ _ s=>do
   let s' ← whnfD s
   let e' ← whnfCore (e.getAppFn.updateProj! s' |> fun f=>mkAppN f e.getAppArgs)
   if e'.getAppFn.isProj then return e else zA fuel e'
  | _=>return e
def prove? (p:Lean.Expr):TacticM (Option Lean.Expr):=do
 let m ← mkFreshExprMVar p
 let s ← saveState
 try
  let rest ← Tactic.run m.mvarId! (withoutRecover (evalTactic (← `(tactic| first | assumption | exact trivial | lia | (simp only[memI,or_false];lia) | (simp only[qD,qC,qE,qS,List.length_set,List.length_take,List.length_drop,List.length_dropLast,List.length_replicate,List.length_range];lia) | rfl | (simp only[*,Option.isSome_some,Option.isSome_none,Bool.not_true,Bool.not_false,Bool.false_eq_true,not_false_eq_true,not_true_eq_false];done) | (simp only[not_true_eq_false,not_false_eq_true,reduceCtorEq,V.isNone,Bool.not_true,Bool.not_false,Bool.false_eq_true,ne_eq];done) | decide))))
  if rest.isEmpty then return some (← instantiateMVars m)
  s.restore
  return none
 catch _=>
  s.restore
  return none
def hyps:MetaM (List (Lean.Expr×Lean.Expr)):=do
 let mut r:=[]
 for d in ← getLCtx do
  if d.isImplementationDetail then continue
  r:=(d.toExpr,← instantiateMVars d.type)::r
 return r
def findHyp? (p:Lean.Expr→MetaM Bool):MetaM (Option (Lean.Expr×Lean.Expr)):=do
 for (h,t) in ← hyps do
  if ← p t then return some (h,t)
 return none
def jQ (a b:Lean.Expr):MetaM Bool:=do
 if a==b then return true
 withReducible (isDefEqGuarded a b)
mutual
def look (fuel:Nat)(H a:Lean.Expr):MetaM (Option (Lean.Expr×Lean.Expr)):=do
 match fuel with
 | 0=>return none
 | fuel+1=>
  let H ← instantiateMVars H
  if H.isAppOfArity ``Hp.set 3 then
   let args:=H.getAppArgs
   let (H',b,o):=(args[0]!,args[1]!,args[2]!)
   if ← jQ a b then return some (o,mkApp3 (mkConst ``zS) H' b o)
   let some (v,pf) ← look fuel H' a | return none
   let some ne ← apart fuel H' a b (some (v,pf)) | return none
   return some (v,← mkAppOptM ``Jz #[some H',some a,some b,some o,some v,some ne,some pf])
  if H.isAppOfArity ``Hp.del 2 then
   let (H',b):=(H.appFn!.appArg!,H.appArg!)
   let some (v,pf) ← look fuel H' a | return none
   let some ne ← apart fuel H' a b (some (v,pf)) | return none
   return some (v,← mkAppOptM ``del_get #[some H',some a,some b,some v,some ne,some pf])
  for (h,t) in ← hyps do
   if let some (_,l,r):=t.eq? then
    if l.isApp&&r.isAppOfArity ``Option.some 2 then
     if l.appFn! == H then
      if ← jQ l.appArg! a then return some (r.appArg!,h)
  for (h,t) in ← hyps do
   if t.isAppOfArity ``qo 3 then
    let args:=t.getAppArgs
    if args[1]! == H then
     let some (v,pf) ← look fuel args[0]! a | continue
     let some l ← wV 50 args[2]! | continue
     let mut ok:=true
     let mut out ← mkAppOptM ``keep_nil #[some a]
     for b in l.reverse do
      if ok then
       match ← apart fuel args[0]! a b (some (v,pf)) with
       | some ne=>out ← mkAppM ``QM #[ne,out]
       | none=>ok:=false
     if ok then return some (v,mkApp4 h a v pf out)
  return none
def uB (fuel:Nat)(H a:Lean.Expr):MetaM (Option Lean.Expr):=do
 match fuel with
 | 0=>return none
 | fuel+1=>
  let H ← instantiateMVars H
  for (h,t) in ← hyps do
   if let some (_,l,r):=t.eq? then
    if l.isApp&&r.isAppOfArity ``Option.none 1 then
     if l.appFn! == H then
      if ← jQ l.appArg! a then return some h
  if H.isAppOfArity ``Hp.set 3 then
   let args:=H.getAppArgs
   let (H',b,o):=(args[0]!,args[1]!,args[2]!)
   let some pf ← uB fuel H' a | return none
   let some ne ← apart fuel H' a b none | return none
   return some (← mkAppOptM ``none_set #[some H',some a,some b,some o,some ne,some pf])
  return none
def apart (fuel:Nat)(H a b:Lean.Expr)(va:Option (Lean.Expr×Lean.Expr)):MetaM (Option Lean.Expr):=do
 match fuel with
 | 0=>return none
 | fuel+1=>
  for (h,t) in ← hyps do
   if let some (_,x,y):=t.ne? then
    if (← jQ x a)&&(← jQ y b)then return some h
    if (← jQ x b)&&(← jQ y a)then return some (← mkAppM ``Ne.symm #[h])
  for (h,t) in ← hyps do
   if let some (_,l,r):=t.eq? then
    if l.isApp&&r.isAppOfArity ``Option.some 2&&!l.appFn!.isApp then
     if ← jQ l.appArg! a then
      for (h',t') in ← hyps do
       if let some (_,l',r'):=t'.eq? then
        if l'.isApp&&r'.isAppOfArity ``Option.none 1&&l'.appFn! == l.appFn! then
         if ← jQ l'.appArg! b then return some (← mkAppM ``uH #[h,h'])
     if ← jQ l.appArg! b then
      for (h',t') in ← hyps do
       if let some (_,l',r'):=t'.eq? then
        if l'.isApp&&r'.isAppOfArity ``Option.none 1&&l'.appFn! == l.appFn! then
         if ← jQ l'.appArg! a then return some (← mkAppM ``qm #[h,h'])
  match va with
  | some (v,pf)=>
   if let some hb ← uB fuel H b then return some (← mkAppM ``uH #[pf,hb])
   if let some (v',pf') ← look fuel H b then
    let (k,k'):=(v.getAppFn.constName?,v'.getAppFn.constName?)
    if k.isSome&&k'.isSome&&k != k' then
     return some (← mkAppM ``uk #[pf,pf',mkApp2 (mkConst ``Eq.refl [1]) (mkConst ``Bool) (mkConst ``Bool.false)])
    if v.isAppOfArity ``AO.inst 2&&v'.isAppOfArity ``AO.inst 2 then
     let (C,C'):=(v.appFn!.appArg!,v'.appFn!.appArg!)
     if C.isApp&&C'.isApp then
      if let (some i,some j):=(← natOf? C.appArg!,← natOf? C'.appArg!) then
       if i != j then
        for (h,t) in ← hyps do
         if t.getAppFn.constName? == some `Mine.Core then
          let rk ← mkAppM `Mine.Core.Rk #[h]
          let R:=(← instantiateMVars (← inferType rk)).appArg!
          let f:=mkApp2 (mkConst ``Eq.refl [1]) (mkConst ``Bool) (mkConst ``Bool.false)
          let tr:=mkApp2 (mkConst ``Eq.refl [1]) (mkConst ``Bool) (mkConst ``Bool.true)
          let g:=t.appFn!.appArg!
          return some (mkAppN (mkConst ``ne_cls) #[g,R,rk,H,a,b,mkRawNatLit i,mkRawNatLit j,v.appArg!,v'.appArg!,pf,pf',tr,tr,f])
   return none
  | none=>
   if let some ha ← uB fuel H a then
    if let some (_,pf') ← look fuel H b then return some (← mkAppM ``qm #[pf',ha])
   if let some (v,pf) ← look fuel H a then
    if let some hb ← uB fuel H b then return some (← mkAppM ``uH #[pf,hb])
   return none
end
end Drv
end
section
namespace Drv
open Lean Meta Elab Tactic
def jw (ty:Lean.Expr):MetaM Lean.Expr:=do mkFreshExprSyntheticOpaqueMVar (← instantiateMVars ty).headBeta
def rflB (b:Bool):Lean.Expr:=mkApp2 (mkConst ``Eq.refl [1]) (mkConst ``Bool) (if b then mkConst ``Bool.true else mkConst ``Bool.false)
def strOf? (e:Lean.Expr):MetaM (Option String):=do
 match ← whnfR e with
 | .lit (.strVal s)=>return some s
 | _=>return none
def pairOf? (e:Lean.Expr):MetaM (Option (Lean.Expr×Lean.Expr)):=do
 let e ← whnfR e
 if e.isAppOfArity ``Prod.mk 4 then return some (e.appFn!.appArg!,e.appArg!)else return none
def tabS (kvs:Lean.Expr)(k:String):MetaM (Option (List (Lean.Expr×Lean.Expr)×Option Nat)):=do
 let some l ← wV 100 kvs | return none
 let mut out:=[]
 let mut at_:Option Nat:=none
 let mut i:=0
 for p in l do
  let some (x,y) ← pairOf? p | return none
  let some s ← strOf? x | return none
  if s==k&&at_.isNone then at_:=some i
  out:=out++[(x,y)]
  i:=i+1
 return some (out,at_)
def front (fuel:Nat)(e:Lean.Expr):MetaM (List Lean.Expr×Bool):=do
 match fuel with
 | 0=>return ([],false)
 | fuel+1=>
  let e ← whnfR e
  if e.isAppOfArity ``List.nil 1 then return ([],true)
  if e.isAppOfArity ``List.cons 3 then
   let (r,b) ← front fuel e.appArg!
   return (e.appFn!.appArg! :: r,b)
  return ([],false)
def WB (xs z:Lean.Expr):MetaM (Option (Nat×Lean.Expr×Lean.Expr)):=do
 let (l,all) ← front 2000 xs
 let some i ← intLit? z | return none
 let n:=mkApp2 (mkConst ``List.length [0]) (mkConst ``V) xs
 if i≥0 then
  let j:=i.toNat
  let some y:=l[j]? | return none
  return some (j,y,mkApp3 (mkConst ``idx_nat) (mkRawNatLit j) n (rflB true))
 else
  unless all do return none
  let m:=(-i).toNat
  if m>l.length then return none
  let j:=l.length-m
  let some y:=l[j]? | return none
  return some (j,y,mkAppN (mkConst ``idx_neg) #[mkRawNatLit j,n,mkRawNatLit m,rflB true,rflB true])
def uG (ty y:Lean.Expr):Lean.Expr:=mkApp2 (mkConst ``Eq.refl [1]) (mkApp (mkConst ``Option [0]) ty) (mkApp2 (mkConst ``Option.some [0]) ty y)
def plainOf (y:Lean.Expr):TacticM (Option Lean.Expr):=do
 let y' ← whnfR y
 if y'.getAppFn.isConst&&!y'.isAppOf ``V.bi&&(y'.getAppFn.constName!.getPrefix == ``V)then return some (rflB true)
 prove? (← mkEq (mkApp (mkConst ``V.plain) y) (mkConst ``Bool.true))
def leaf (g:MVarId)(t:Lean.Expr):TacticM (Option (List MVarId)):=g.withContext do
 let args:=t.getAppArgs
 let isSomeOf (e:Lean.Expr):TacticM (Option (Bool×Lean.Expr)):=do
  if e.isAppOfArity ``Option.isSome 2 then
   for (h,ht) in ← hyps do
    if let some (_,l,r):=ht.eq? then
     if l==e.appArg! then
      if r.isAppOfArity ``Option.some 2 then return some (true,h)
      if r.isAppOfArity ``Option.none 1 then return some (false,h)
  return none
 match t.getAppFn.constName? with
 | some ``refL=>do
  let some (v,pf) ← look 40 args[0]! args[1]! | return none
  unless v.isAppOfArity ``AO.list 1 do return none
  let xs:=v.appArg!
  let m ← jw (mkApp args[2]! xs)
  g.assign (mkAppN (mkConst ``refL_of) #[args[0]!,args[1]!,args[2]!,xs,pf,m])
  return some [m.mvarId!]
 | some ``refO=>do
  let some (v,pf) ← look 40 args[0]! args[1]! | return none
  unless v.isAppOfArity ``AO.inst 2 do return none
  let (C,xs):=(v.appFn!.appArg!,v.appArg!)
  let m ← jw (mkApp2 args[2]! C xs)
  g.assign (mkAppN (mkConst ``refO_of) #[args[0]!,args[1]!,C,args[2]!,xs,pf,m])
  return some [m.mvarId!]
 | some ``Ux=>do
  let some (v,pf) ← look 40 args[0]! args[1]! | return none
  unless v.isAppOfArity ``AO.list 1 do return none
  let l ← whnfR v.appArg!
  if l.isAppOfArity ``HAppend.hAppend 6 then
   let some [y] ← wV 3 l.appArg! | return none
   let xs:=l.appFn!.appArg!
   let m ← jw (mkApp2 args[2]! xs y)
   g.assign (mkAppN (mkConst ``QG) #[args[0]!,args[1]!,args[2]!,xs,y,pf,m])
   return some [m.mvarId!]
  let some l ← wV 2000 v.appArg! | return none
  let some y:=l.getLast? | return none
  let xs:=ul (mkConst ``V) l.dropLast
  let m ← jw (mkApp2 args[2]! xs y)
  g.assign (mkAppN (mkConst ``QG) #[args[0]!,args[1]!,args[2]!,xs,y,pf,m])
  return some [m.mvarId!]
 | some ``refS=>do
  let (gx,H,a,z,k):=(args[0]!,args[1]!,args[2]!,args[3]!,args[4]!)
  let some (v,pf) ← look 40 H a | return none
  if v.isAppOfArity ``AO.list 1 then
   let xs:=v.appArg!
   let m ← jw (mkApp3 (mkConst ``wE) xs z k)
   g.assign (mkAppN (mkConst ``XO) #[gx,H,a,z,k,xs,pf,m])
   return some [m.mvarId!]
  unless v.isAppOfArity ``AO.dict 1 do return none
  let d ← whnfR v.appArg!
  let z ← whnfR z
  if d.isAppOfArity ``DV.s 1&&z.isAppOfArity ``V.str 1 then
   let some x ← strOf? z.appArg! | return none
   let some (l,some i) ← tabS d.appArg! x | return none
   let y:=l[i]!.2
   let m ← jw (mkApp k y)
   g.assign (mkAppN (mkConst ``refS_s) #[gx,H,a,z.appArg!,k,d.appArg!,y,pf,uG (mkConst ``V) y,m])
   return some [m.mvarId!]
  if d.isAppOfArity ``DV.i 1&&z.isAppOfArity ``V.int 1 then
   for (h,ht) in ← hyps do
    if let some (_,l,r):=ht.eq? then
     if l.isAppOfArity ``getK 4&&r.isAppOfArity ``Option.some 2 then
      if (← jQ l.appFn!.appArg! d.appArg!)&&(← jQ l.appArg! z.appArg!) then
       let y:=r.appArg!
       let m ← jw (mkApp k y)
       g.assign (mkAppN (mkConst ``wF) #[gx,H,a,z.appArg!,k,d.appArg!,y,pf,h,m])
       return some [m.mvarId!]
  return none
 | some ``JD=>do
  let (gx,H,a,z,k):=(args[0]!,args[1]!,args[2]!,args[3]!,args[4]!)
  let z ← whnfR z
  if let some (v,pf) ← look 40 H a then
   unless v.isAppOfArity ``AO.dict 1 do return none
   let d ← whnfR v.appArg!
   if d.isAppOfArity ``DV.i 1&&z.isAppOfArity ``V.int 1 then
    let m ← jw (mkApp k (← mkAppM ``Option.isSome #[← mkAppM ``getK #[d.appArg!,z.appArg!]]))
    g.assign (mkAppN (mkConst ``refIn_i) #[gx,H,a,z.appArg!,k,d.appArg!,pf,m])
    return some [m.mvarId!]
   if d.isAppOfArity ``DV.s 1&&z.isAppOfArity ``V.str 1 then
    let m ← jw (mkApp k (← mkAppM ``Option.isSome #[← mkAppM ``getK #[d.appArg!,z.appArg!]]))
    g.assign (mkAppN (mkConst ``refIn_s) #[gx,H,a,z.appArg!,k,d.appArg!,pf,m])
    return some [m.mvarId!]
   return none
  let some (h,t) ← findHyp? (fun t=>do
   if t.isAppOfArity ``jU 3 then jQ t.getAppArgs[1]! a else pure false) | return none
  let d ← whnfR t.appArg!
  if d.isAppOfArity ``DV.i 1&&z.isAppOfArity ``V.int 1 then
   let m ← jw (mkApp k (← mkAppM ``Option.isSome #[← mkAppM ``getK #[d.appArg!,z.appArg!]]))
   g.assign (mkAppN (mkConst ``refIn_b) #[gx,H,a,z.appArg!,k,d.appArg!,h,m])
   return some [m.mvarId!]
  return none
 | some ``wE=>do
  let z ← whnfR args[1]!
  unless z.isAppOfArity ``V.int 1 do return none
  let some (j,y,pf) ← WB args[0]! z.appArg! | return none
  let m ← jw (mkApp args[2]! y)
  g.assign (mkAppN (mkConst ``jt) #[args[0]!,args[2]!,z.appArg!,y,mkRawNatLit j,pf,uG (mkConst ``V) y,m])
  return some [m.mvarId!]
 | some ``attO=>do
  let (R,C,xs,a,k):=(args[0]!,args[1]!,args[2]!,args[3]!,args[4]!)
  let cid ← mkFreshExprMVar (mkConst ``Nat)
  unless ← isDefEq C (mkApp2 (mkConst ``Rt.cls) R cid)do return none
  let cid ← instantiateMVars cid
  let i ← whnfD (mkApp3 (mkConst ``Rt.fi) R cid a)
  unless i.isAppOfArity ``Option.some 2 do return none
  let some i ← natOf? i.appArg! | return none
  let some l ← wV 200 xs | return none
  let some y:=l[i]? | return none
  let some hp ← plainOf y | return none
  let m ← jw (mkApp k y)
  g.assign (mkAppN (mkConst ``attO_of) #[R,xs,a,cid,mkRawNatLit i,k,y,uG (mkConst ``Nat) (mkRawNatLit i),uG (mkConst ``V) y,hp,m])
  return some [m.mvarId!]
 | some ``refM=>do
  let (R,H,a,k,P):=(args[0]!,args[1]!,args[2]!,args[3]!,args[4]!)
  let some (v,pf) ← look 40 H a | return none
  if v.isAppOfArity ``AO.inst 2 then
   let (C,xs):=(v.appFn!.appArg!,v.appArg!)
   let cid ← mkFreshExprMVar (mkConst ``Nat)
   unless ← isDefEq C (mkApp2 (mkConst ``Rt.cls) R cid)do return none
   let cid ← instantiateMVars cid
   let j ← whnfD (mkApp3 (mkConst ``Rt.mt) R cid k)
   unless j.isAppOfArity ``Option.some 2 do return none
   let some j ← natOf? j.appArg! | return none
   let m ← jw (mkApp P (mkApp (mkConst ``MK.fn) (mkRawNatLit j)))
   g.assign (mkAppN (mkConst ``XQ) #[R,H,a,k,cid,mkRawNatLit j,xs,P,pf,uG (mkConst ``Nat) (mkRawNatLit j),m])
   return some [m.mvarId!]
  if v.isAppOfArity ``AO.list 1 then
   let xs:=v.appArg!
   let mk ← whnfD (mkApp2 (mkConst ``lmT) R k)
   unless mk.isAppOfArity ``Option.some 2 do return none
   let mk:=mk.appArg!
   let m ← jw (mkApp P mk)
   g.assign (mkAppN (mkConst ``XP) #[R,H,a,k,mk,xs,P,pf,uG (mkConst ``MK) mk,m])
   return some [m.mvarId!]
  return none
 | some ``refAt=>do
  let (R,H,a,k,y,K):=(args[0]!,args[1]!,args[2]!,args[3]!,args[4]!,args[5]!)
  let some (v,pf) ← look 40 H a | return none
  unless v.isAppOfArity ``AO.inst 2 do return none
  let (C,xs):=(v.appFn!.appArg!,v.appArg!)
  let cid ← mkFreshExprMVar (mkConst ``Nat)
  unless ← isDefEq C (mkApp2 (mkConst ``Rt.cls) R cid)do return none
  let cid ← instantiateMVars cid
  let i ← whnfD (mkApp3 (mkConst ``Rt.fi) R cid k)
  unless i.isAppOfArity ``Option.some 2 do return none
  let some i ← natOf? i.appArg! | return none
  let some l ← wV 200 xs | return none
  if i>l.length then return none
  let l':=if i<l.length then l.set i y else l++[y]
  let ys:=ul (mkConst ``V) l'
  if H.isAppOfArity ``Hp.set 3&&H.getAppArgs[1]! == a then
   let H':=H.getAppArgs[0]!
   let m ← jw (mkApp K (mkApp3 (mkConst ``Hp.set) H' a (mkApp2 (mkConst ``AO.inst) (mkApp2 (mkConst ``Rt.cls) R cid) ys)))
   g.assign (mkAppN (mkConst ``XR) #[R,H',H.getAppArgs[2]!,a,cid,k,mkRawNatLit i,y,K,xs,ys,pf,uG (mkConst ``Nat) (mkRawNatLit i),rflB true,mkApp2 (mkConst ``Eq.refl [1]) (mkApp (mkConst ``List [0]) (mkConst ``V)) ys,m])
   return some [m.mvarId!]
  let m ← jw (mkApp K (mkApp3 (mkConst ``Hp.set) H a (mkApp2 (mkConst ``AO.inst) (mkApp2 (mkConst ``Rt.cls) R cid) ys)))
  g.assign (mkAppN (mkConst ``refAt_of) #[R,H,a,cid,k,mkRawNatLit i,y,K,xs,ys,pf,uG (mkConst ``Nat) (mkRawNatLit i),rflB true,mkApp2 (mkConst ``Eq.refl [1]) (mkApp (mkConst ``List [0]) (mkConst ``V)) ys,m])
  return some [m.mvarId!]
 | some ``refP=>do
  let (H,a,z,y,k):=(args[0]!,args[1]!,args[2]!,args[3]!,args[4]!)
  let some (v,pf) ← look 40 H a | return none
  let z ← whnfR z
  if v.isAppOfArity ``AO.dict 1 then
   let d ← whnfR v.appArg!
   if d.isAppOfArity ``DV.s 1&&z.isAppOfArity ``V.str 1 then
    let some x ← strOf? z.appArg! | return none
    let some (l,some i) ← tabS d.appArg! x | return none
    let tyP ← inferType (mkApp4 (mkConst ``Prod.mk [0,0]) (mkConst ``String) (mkConst ``V) z.appArg! y)
    let l':=(l.set i (l[i]!.1,y)).map fun p=>mkApp4 (mkConst ``Prod.mk [0,0]) (mkConst ``String) (mkConst ``V) p.1 p.2
    let kvs':=ul tyP l'
    let m ← jw (mkApp k (mkApp3 (mkConst ``Hp.set) H a (mkApp (mkConst ``AO.dict) (mkApp (mkConst ``DV.s) kvs'))))
    g.assign (mkAppN (mkConst ``refP_s) #[H,a,z.appArg!,y,k,d.appArg!,kvs',pf,rflB true,mkApp2 (mkConst ``Eq.refl [1]) (mkApp (mkConst ``List [0]) tyP) kvs',m])
    return some [m.mvarId!]
   if d.isAppOfArity ``DV.i 1&&z.isAppOfArity ``V.int 1 then
    let kvs:=d.appArg!
    let some hl ← prove? (← mkAppM ``LT.lt #[← mkAppM ``List.length #[kvs],mkNatLit 15000000]) | return none
    let m ← jw (mkApp k (mkApp3 (mkConst ``Hp.set) H a (mkApp (mkConst ``AO.dict) (mkApp (mkConst ``DV.i) (← mkAppM ``putK #[kvs,z.appArg!,y])))))
    g.assign (mkAppN (mkConst ``refP_i) #[H,a,z.appArg!,y,k,kvs,pf,hl,m])
    return some [m.mvarId!]
   return none
  if v.isAppOfArity ``AO.list 1&&z.isAppOfArity ``V.int 1 then
   let xs:=v.appArg!
   let some (j,_,pi) ← WB xs z.appArg! | return none
   let some l ← wV 2000 xs | return none
   let ys:=ul (mkConst ``V) (l.set j y)
   let m ← jw (mkApp k (mkApp3 (mkConst ``Hp.set) H a (mkApp (mkConst ``AO.list) ys)))
   g.assign (mkAppN (mkConst ``QH) #[H,a,z.appArg!,y,k,xs,mkRawNatLit j,pf,pi,m])
   return some [m.mvarId!]
  return none
 | _=>return none
def Kx (fuel:Nat)(g:MVarId)(h:FVarId):MetaM MVarId:=g.withContext do
 match fuel with
 | 0=>return g
 | fuel+1=>
  let t ← instantiateMVars (← h.getType)
  let some (_,l,r):=t.eq? | return g
  unless r.isAppOfArity ``Option.none 1&&l.isApp&&l.appFn!.isAppOfArity ``Hp.set 3 do return g
  let args:=l.appFn!.getAppArgs
  let pf ← mkAppOptM ``uA #[some args[0]!,some l.appArg!,some args[1]!,some args[2]!,some (.fvar h)]
  let (f1,g) ← (← g.assert `hd (← inferType (mkProj ``And 0 pf)) (mkProj ``And 0 pf)).intro ((← getLCtx).getUnusedName `hd)
  let g ← g.withContext do
   let (_,g) ← (← g.assert `hne (← inferType (mkProj ``And 1 pf)) (mkProj ``And 1 pf)).intro ((← getLCtx).getUnusedName `hne)
   pure g
  Kx fuel g f1
def step (g:MVarId):TacticM (Option (List MVarId)):=g.withContext do
 let t ← instantiateMVars (← g.getType)
 let t' ← zA 300 t
 if t' != t then
  let m ← mkFreshExprSyntheticOpaqueMVar t'
  g.assign m
  return some [m.mvarId!]
 if t.isForall then
  let dom:=t.bindingDomain!
  let nm:=if (← isProp dom) then(if dom.eq?.isSome then `e else if t.bindingName!.hasMacroScopes||t.isArrow then `h else t.bindingName!) else(if t.bindingName!.hasMacroScopes then `x else t.bindingName!)
  let (h,g') ← g.intro ((← getLCtx).getUnusedName nm)
  let ty ← g'.withContext do instantiateMVars (← h.getType)
  if ty.isFalse then
   g'.withContext do
    let m ← g'.getType
    g'.assign (← mkFalseElim m (.fvar h))
   return some []
  let g' ← Kx 40 g' h
  return some [g']
 if t.isAppOfArity ``And 2 then
  let (A,B):=(t.appFn!.appArg!,t.appArg!)
  if A.isArrow&&B.isArrow then
   let p:=A.bindingDomain!
   let np:=B.bindingDomain!
   if ← isDefEq np (mkApp (mkConst ``Not) p) then
    let p ← clean p
    let np:=mkApp (mkConst ``Not) p
    if let some hp ← prove? p then
     let m ← jw A.bindingBody!
     let l:=Lean.mkLambda `hp .default p m
     let r ← withLocalDeclD `hn np fun h=>do
      mkLambdaFVars #[h] (← mkAbsurd B.bindingBody! hp h)
     g.assign (mkApp4 (mkConst ``And.intro) A B l r)
     return some [m.mvarId!]
    if let some hn ← prove? np then
     let m ← jw B.bindingBody!
     let r:=Lean.mkLambda `hn .default np m
     let l ← withLocalDeclD `hp p fun h=>do
      mkLambdaFVars #[h] (← mkAbsurd A.bindingBody! h hn)
     g.assign (mkApp4 (mkConst ``And.intro) A B l r)
     return some [m.mvarId!]
    let a ← jw (Lean.mkForall `h .default p A.bindingBody!)
    let b ← jw (Lean.mkForall `h .default np B.bindingBody!)
    g.assign (mkApp4 (mkConst ``And.intro) A B a b)
    return some [a.mvarId!,b.mvarId!]
   let a ← jw A
   let b ← jw B
   g.assign (mkApp4 (mkConst ``And.intro) A B a b)
   return some [a.mvarId!,b.mvarId!]
  if let some (_,l,r):=A.eq? then
   if l.isApp&&l.appFn!.isAppOfArity ``Hp.set 3&&r.isAppOfArity ``Option.some 2 then
    if let some (v,pf) ← look 40 l.appFn! l.appArg! then
     if ← isDefEq r (mkApp2 (mkConst ``Option.some [0]) (mkConst ``AO) v) then
      let m ← jw B
      g.assign (mkApp4 (mkConst ``And.intro) A B pf m)
      return some [m.mvarId!]
  let A' ← clean A
  if let some pf ← prove? A' then
   let m ← jw B
   g.assign (mkApp4 (mkConst ``And.intro) A B pf m)
   return some [m.mvarId!]
  return none
 leaf g t
def run (fuel:Nat)(g:MVarId):TacticM (List MVarId):=do
 match fuel with
 | 0=>return [g]
 | fuel+1=>
  match ← step g with
  | none=>do
   let g ← g.withContext do
    let t ← instantiateMVars (← g.getType)
    let t' ← clean t
    if t' != t then
     let m ← mkFreshExprSyntheticOpaqueMVar t'
     g.assign m
     pure m.mvarId!
    else pure g
   return [g]
  | some gs=>do
   let mut out:=[]
   for g in gs do out:=out++(← run fuel g)
   return out
def subPf (fuel:Nat)(X Y:Lean.Expr):MetaM (Option Lean.Expr):=do
 match fuel with
 | 0=>return none
 | fuel+1=>
  let X ← instantiateMVars X
  let Y ← instantiateMVars Y
  if X==Y then return some (mkApp (mkConst ``Hp.Sub.refl) X)
  if Y.isAppOfArity ``Hp.set 3 then
   let ya:=Y.getAppArgs
   if X.isAppOfArity ``Hp.set 3 then
    let xa:=X.getAppArgs
    if ← jQ xa[1]! ya[1]! then
     if ← isDefEq xa[2]! ya[2]! then
      let some h ← subPf fuel xa[0]! ya[0]! | return none
      return some (mkAppN (mkConst ``Hp.Sub.set) #[xa[0]!,ya[0]!,ya[1]!,ya[2]!,h])
   let some hn ← uB 40 ya[0]! ya[1]! | return none
   let some h ← subPf fuel X ya[0]! | return none
   return some (← mkAppM ``Hp.Sub.trans #[h,← mkAppOptM ``Hp.sub_set #[some ya[0]!,some ya[1]!,some ya[2]!,some hn]])
  return none
def memPf (a:Lean.Expr)(S:List Lean.Expr):MetaM (Option Lean.Expr):=do
 match S with
 | []=>return none
 | b::r=>
  let ty:=mkConst ``Addr
  if ← jQ a b then return some (mkApp3 (mkConst ``List.Mem.head [0]) ty a (ul ty r))
  let some h ← memPf a r | return none
  return some (mkApp5 (mkConst ``List.Mem.tail [0]) ty a b (ul ty r) h)
def keepY (fuel:Nat)(B Y:Lean.Expr)(S:List Lean.Expr):MetaM (Option Lean.Expr):=do
 match fuel with
 | 0=>return none
 | fuel+1=>
  let Y ← instantiateMVars Y
  let sE:=ul (mkConst ``Addr) S
  if ← jQ B Y then return some (mkApp2 (mkConst ``qo.refl) B sE)
  if Y.isAppOfArity ``Hp.set 3 then
   let ya:=Y.getAppArgs
   if let some hm ← memPf ya[1]! S then
    let some k ← keepY fuel B ya[0]! S | return none
    return some (mkAppN (mkConst ``keeps_in) #[B,ya[0]!,ya[1]!,ya[2]!,sE,hm,k])
   let some hn ← uB 40 B ya[1]! | return none
   let some k ← keepY fuel B ya[0]! S | return none
   return some (mkAppN (mkConst ``XV) #[B,ya[0]!,ya[1]!,ya[2]!,sE,hn,k])
  return none
def keepX (fuel:Nat)(X Y:Lean.Expr)(S:List Lean.Expr):MetaM (Option Lean.Expr):=do
 match fuel with
 | 0=>return none
 | fuel+1=>
  let X ← instantiateMVars X
  let sE:=ul (mkConst ``Addr) S
  if X.isAppOfArity ``Hp.set 3 then
   let xa:=X.getAppArgs
   if let some hm ← memPf xa[1]! S then
    let some k ← keepX fuel xa[0]! Y S | return none
    return some (mkAppN (mkConst ``Xl) #[xa[0]!,Y,xa[1]!,xa[2]!,sE,hm,k])
   let some (v,pf) ← look 40 Y xa[1]! | return none
   unless ← isDefEq v xa[2]! do return none
   let some k ← keepX fuel xa[0]! Y (xa[1]! :: S) | return none
   return some (mkAppN (mkConst ``Xm) #[xa[0]!,Y,xa[1]!,xa[2]!,sE,pf,k])
  keepY fuel X Y S
def hpsub:TacticM Unit:=do
 let g ← getMainGoal
 g.withContext do
  let t ← whnfR (← instantiateMVars (← g.getType))
  unless t.isAppOfArity ``Hp.Sub 2 do throwError "hp_sub: {t}"
  let (X,Y):=(t.appFn!.appArg!,t.appArg!)
  let some pf ← subPf 100 X Y | do
   let some k ← keepX 200 X Y [] | throwError "hp_sub: no way: {t}"
   g.assign (mkApp3 (mkConst ``Uu) X Y k)
   replaceMainGoal []
  g.assign pf
  replaceMainGoal []
def go:TacticM Unit:=do
 let g ← getMainGoal
 let rest:=(← getGoals).tail!
 let gs ← run 3000 g
 setGoals (gs++rest)
def hpGoal (g:MVarId):TacticM Bool:=g.withContext do
 let t ← instantiateMVars (← g.getType)
 if let some (_,l,r):=t.eq? then
  if l.isApp then
   let lt ← whnfR (← inferType l.appFn!)
   if lt.isArrow&&(← isDefEqGuarded lt.bindingDomain! (mkConst ``Addr)) then
    if r.isAppOfArity ``Option.none 1 then
     if let some pf ← uB 40 l.appFn! l.appArg! then
      g.assign pf
      return true
    else
     let o ← mkFreshExprMVar (mkConst ``AO)
     if ← isDefEq r (mkApp2 (mkConst ``Option.some [0]) (mkConst ``AO) o) then
      if let some (v,pf) ← look 40 l.appFn! l.appArg! then
       if ← isDefEq o v then
        g.assign pf
        return true
 if let some (ty,a,b):=t.ne? then
  if ← isDefEqGuarded ty (mkConst ``Addr) then
   for (h,ht) in ← hyps do
    if let some (_,x,y):=ht.ne? then
     if (← jQ x a)&&(← jQ y b)then g.assign h;return true
     if (← jQ x b)&&(← jQ y a)then g.assign (← mkAppM ``Ne.symm #[h]);return true
   for (h,ht) in ← hyps do
    if let some (_,l,r):=ht.eq? then
     if l.isApp&&r.isAppOfArity ``Option.some 2 then
      if ← jQ l.appArg! a then
       if let some pf ← apart 40 l.appFn! a b (some (r.appArg!,h))then g.assign pf;return true
      if ← jQ l.appArg! b then
       if let some pf ← apart 40 l.appFn! b a (some (r.appArg!,h))then g.assign (← mkAppM ``Ne.symm #[pf]);return true
 let s ← saveState
 try
  let rest ← Tactic.run g (withoutRecover (evalTactic (← `(tactic| first | assumption | rfl | lia))))
  if rest.isEmpty then return true
  s.restore
  return false
 catch _=>
  s.restore
  return false
def hp:TacticM Unit:=do
 let g ← getMainGoal
 unless ← hpGoal g do throwError "hp: {g}"
 replaceMainGoal []
def call (n:Name):TacticM Unit:=do
 let g ← getMainGoal
 let others:=(← getGoals).tail!
 let try_ (lift:Option Name):TacticM (Option (List MVarId)):=g.withContext do
  let s ← saveState
  try
   let c ← mkConstWithFreshMVarLevels n
   let gs ← match lift with
    | none=>g.apply c {newGoals:=.all}
    | some l=>do
     let gs ← g.apply (← mkConstWithFreshMVarLevels l) {newGoals:=.nonDependentFirst}
     match gs with
     | g'::_=>g'.apply c {newGoals:=.all}
     | []=>pure []
   return some gs
  catch _=>
   s.restore
   return none
 let mut r ← try_ none
 if r.isNone then r ← try_ (some ``jb.calm)
 if r.isNone then r ← try_ (some ``jb.own)
 let some gs:=r | throwError "call: {n} does not fit: {g}"
 let mut left:=gs
 for _ in [0:3] do
  let mut next:=[]
  for g' in left do
   if ← g'.isAssigned then continue
   let t ← g'.withContext do instantiateMVars (← g'.getType)
   if ← g'.withContext (isProp t) then
    if t.isForall then next:=next++[g'] else
    if ← hpGoal g' then continue
    next:=next++[g']
   else next:=next++[g']
  left:=next
 let mut out:=[]
 for g' in left do
  if ← g'.isAssigned then continue
  let t ← g'.withContext do instantiateMVars (← g'.getType)
  if ← g'.withContext (isProp t) then
   out:=out++(← run 3000 g')
  else out:=out++[g']
 setGoals (out++others)
end Drv
end
local macro_rules | `(tactic| ac_rfl) => `(tactic| run_tac Mine.Drv.go)
local macro_rules | `(tactic| nofun) => `(tactic| run_tac Mine.Drv.hp)
local macro_rules | `(tactic| walk_at "sub") => `(tactic| run_tac Mine.Drv.hpsub)
structure Adr where
 cls:Nat→Addr
 fn:Nat→Addr
 bd:Nat→Addr
def anL:List String:=["kind", "instance", "func", "kinds", "funcs", "target", "arity", "height", "is_loop", "address", "body", "ends", "elses", "locals", "base", "at", "labels", "machine", "store", "ahead", "stack", "frames", "is_broken", "fuel", "depth", "steps", "peak", "known", "plain", "is_done", "forward", "step", "do", "more", "number", "local", "control", "begin", "choose", "branch", "branch_by_table", "lower", "give_back", "go", "enter", "open_frame", "count", "left", "refuel", "matched", "begun", "call", "tried", "counted", "append", "pop"]
def yb:List (List Nat):=[[],[],[],[],[0,1,2],[3,4],[4],[5,6,7,8],[9,1,10,6,11,12,13,14,15,16],[17,18,19,20,21,22],[18,23,24,25,26,19,27],[0,13,10]]
def methL:List (List (Nat×Nat)):=[[],[],[],[],[],[],[],[(28,54)],[(29,56),(28,57)],[(29,59),(24,60),(28,61),(30,62),(31,63),(32,64),(34,66),(35,67),(36,68),(37,69),(38,70),(39,71),(40,72),(41,73),(42,74),(43,75),(44,76),(45,77)],[(46,79),(47,80),(49,82),(50,83)],[]]
def iniL:List (Option Nat):=[none,none,none,none,some 49,some 50,some 51,some 53,some 55,some 58,some 78,some 87]
def excL:List Bool:=[true,true,true,true,false,false,false,false,false,false,false,false]
def gL:List (String×GK):=[("unsigned",.fn 2),("I32_EXTEND8",.val (.int 192)),("I64_EXTEND8",.val (.int 194)),("EXTEND_S",.val (.int 172)),("I32_EQZ",.val (.int 69)),("I64_EQZ",.val (.int 80)),("WRAP",.val (.int 167)),("EXTEND_U",.val (.int 173)),("place_in",.fn 36),("I32_CLZ",.val (.int 103)),("I64_CLZ",.val (.int 121)),("len",.bi .len),("COUNTS",.bs 0),("narrow_of",.fn 37),("I32_ADD",.val (.int 106)),("I64_ADD",.val (.int 124)),("REST",.bs 1),("I32_EQ",.val (.int 70)),("I64_EQ",.val (.int 81)),("COMPARES",.bs 2),("Misused",.cls 3),("BLOCK",.val (.int 2)),("LOOP",.val (.int 3)),("IF",.val (.int 4)),("enumerate",.bi .enumerate),("is_block",.fn 41),("ELSE",.val (.int 5)),("END",.val (.int 11)),("HEAP_NAMES",.bs 3),("I32",.val (.int (-1))),("is_ref",.fn 43),("EMPTY",.val (.int (-64))),("KIND_NAMES",.bs 4),("isinstance",.bi .isinstance),("int",.bi .int_),("bool",.bi .bool_),("I64",.val (.int (-2))),("bits_of",.fn 44),("all",.bi .all),("zip",.bi .zip),("does_fit",.fn 47),("CoreStore",.cls 6),("CoreInstance",.cls 5),("list",.bi .list),("range",.bi .range),("CoreFunc",.cls 4),("Label",.cls 7),("tuple",.bi .tuple),("is_unary",.fn 38),("reckon1",.fn 39),("reckon2",.fn 40),("Trap",.cls 1),("UNREACHABLE",.val (.str "unreachable")),("block_kind",.fn 46),("Exhausted",.cls 2),("CALL_STACK",.val (.str "call stack")),("default_value",.fn 45),("Frame",.cls 8),("max",.bi .max),("FUEL",.val (.str "fuel")),("matches",.fn 42),("do_fit",.fn 48),("CoreRun",.cls 9),("abs",.bi .abs),("_law_emit",.fn 90),("_law_fill",.fn 91),("_law_list",.fn 95),("_law_close",.fn 92),("_law_next",.fn 89),("_law_jump",.fn 94),("_law_block",.fn 93),("divmod",.bi .divmod),("core_store",.fn 52),("Func",.cls 11),("CoreMachine",.cls 10),("_law_frames",.fn 96)]
def bsOf (A:Adr):Nat→V
 | 0=>.tup [.ref (A.fn 7),.ref (A.fn 8),.ref (A.fn 9)]
 | 1=>.tup [.ref (A.fn 10),.ref (A.fn 11),.ref (A.fn 12),.ref (A.fn 14),.ref (A.fn 15),.ref (A.fn 16),.ref (A.fn 17),.ref (A.fn 18),.ref (A.fn 19),.ref (A.fn 20),.ref (A.fn 21),.ref (A.fn 22),.ref (A.fn 23),.ref (A.fn 24),.ref (A.fn 25)]
 | 2=>.tup [.ref (A.fn 26),.ref (A.fn 27),.ref (A.fn 28),.ref (A.fn 29),.ref (A.fn 30),.ref (A.fn 31),.ref (A.fn 32),.ref (A.fn 33),.ref (A.fn 34),.ref (A.fn 35)]
 | 3=>.ref (A.bd 3)
 | 4=>.ref (A.bd 4)
 | _=>.none
def nthN:List Nat→Nat→Nat→Option Nat
 | [],_,_=>none
 | x::l,k,i=>if x=k then some i else nthN l k (i+1)
def KF:List (Nat×Nat)→Nat→Option Nat
 | [],_=>none
 | (x,y)::l,k=>if x=k then some y else KF l k
def mkR (A:Adr):Rt where
 cls:=A.cls
 fn:=A.fn
 bs:=bsOf A
 gT:=gL
 an:=fun i=>anL.getD i ""
 fi:=fun c k=>nthN (yb.getD c []) k 0
 mt:=fun c k=>KF (methL.getD c []) k
 xs:=fun c=>excL.getD c false
 ini:=fun c=>iniL.getD c none
 nc:=12
abbrev jG:Nat:=2
abbrev jf:Nat:=4
abbrev jc:Nat:=5
abbrev jh:Nat:=6
abbrev ye:Nat:=7
abbrev jl:Nat:=8
abbrev jd:Nat:=9
abbrev jg:Nat:=10
abbrev jo:Nat:=11
abbrev zB:Nat:=2
abbrev f_add:Nat:=10
abbrev f_sub:Nat:=11
abbrev zC:Nat:=36
abbrev yU:Nat:=37
abbrev zF:Nat:=38
abbrev Ji:Nat:=40
abbrev zG:Nat:=41
abbrev Jj:Nat:=42
abbrev Kl:Nat:=43
abbrev Jk:Nat:=44
abbrev uR:Nat:=45
abbrev yq:Nat:=46
abbrev zH:Nat:=47
abbrev Km:Nat:=48
abbrev uX:Nat:=49
abbrev uc:Nat:=50
abbrev uC:Nat:=51
abbrev yp:Nat:=52
abbrev yt:Nat:=53
abbrev uw:Nat:=54
abbrev yu:Nat:=55
abbrev uS:Nat:=56
abbrev wM:Nat:=57
abbrev wx:Nat:=58
abbrev uo:Nat:=59
abbrev uW:Nat:=60
abbrev uT:Nat:=61
abbrev uq:Nat:=62
abbrev jI:Nat:=63
abbrev jL:Nat:=64
abbrev qv:Nat:=66
abbrev jV:Nat:=67
abbrev jq:Nat:=68
abbrev qk:Nat:=69
abbrev qw:Nat:=70
abbrev jT:Nat:=71
abbrev jO:Nat:=72
abbrev uU:Nat:=73
abbrev qd:Nat:=74
abbrev uV:Nat:=75
abbrev yG:Nat:=76
abbrev jJ:Nat:=77
abbrev ug:Nat:=78
abbrev ua:Nat:=79
abbrev uf:Nat:=80
abbrev jW:Nat:=82
abbrev ub:Nat:=83
abbrev yW:Nat:=87
abbrev wR:Nat:=89
abbrev wT:Nat:=90
abbrev wS:Nat:=91
abbrev uu:Nat:=92
abbrev yV:Nat:=93
abbrev zD:Nat:=94
abbrev uP:Nat:=95
abbrev uQ:Nat:=96
abbrev f_law:Nat:=97
abbrev jv:Nat:=3
def KM:Def where
 ps:=["x", "bits"]
 dv:=[]
 ns:=["x", "bits"]
 gs:=[]
 body:=(.cons (.ret (.bin .BitAnd (.loc 0) (.bin .Sub (.bin .LShift (.int 1) (.loc 1)) (.int 1))))
  .nil)
def d_add:Def where
 ps:=["x", "y", "bits"]
 dv:=[]
 ns:=["x", "y", "bits"]
 gs:=[0]
 body:=(.cons (.ret (.call (.glb 0) (.cons (.bin .Add (.loc 0) (.loc 1)) (.cons (.loc 2) .nil))))
  .nil)
def d_sub:Def where
 ps:=["x", "y", "bits"]
 dv:=[]
 ns:=["x", "y", "bits"]
 gs:=[0]
 body:=(.cons (.ret (.call (.glb 0) (.cons (.bin .Sub (.loc 0) (.loc 1)) (.cons (.loc 2) .nil))))
  .nil)
def KN:Def where
 ps:=["code", "first32", "first64", "many"]
 dv:=[]
 ns:=["code", "first32", "first64", "many"]
 gs:=[]
 body:=(.cons (.ite (.chain .LtE .Lt (.loc 1) (.loc 0) (.bin .Add (.loc 1) (.loc 3)))
  (.cons (.ret (.tup (.cons (.bin .Sub (.loc 0) (.loc 1)) (.cons (.int 32) .nil))))
  .nil)
  .nil)
  (.cons (.ite (.chain .LtE .Lt (.loc 2) (.loc 0) (.bin .Add (.loc 2) (.loc 3)))
  (.cons (.ret (.tup (.cons (.bin .Sub (.loc 0) (.loc 2)) (.cons (.int 64) .nil))))
  .nil)
  .nil)
  (.cons (.ret .none_)
  .nil)))
def JQ:Def where
 ps:=["code"]
 dv:=[]
 ns:=["code"]
 gs:=[1,2,3]
 body:=(.cons (.ite (.chain .LtE .Lt (.glb 1) (.loc 0) (.glb 2))
  (.cons (.ret (.tup (.cons (.bin .LShift (.int 8) (.bin .Sub (.loc 0) (.glb 1))) (.cons (.int 32) .nil))))
  .nil)
  .nil)
  (.cons (.ite (.chain .LtE .Lt (.glb 2) (.loc 0) (.bin .Add (.glb 2) (.int 3)))
  (.cons (.ret (.tup (.cons (.bin .LShift (.int 8) (.bin .Sub (.loc 0) (.glb 2))) (.cons (.int 64) .nil))))
  .nil)
  .nil)
  (.cons (.ret (.ifx (.cmp .Eq (.loc 0) (.glb 3)) (.tup (.cons (.int 32) (.cons (.int 64) .nil))) .none_))
  .nil)))
def KT:Def where
 ps:=["code"]
 dv:=[]
 ns:=["code"]
 gs:=[4,5,6,7,8,9,10,11,12,13]
 body:=(.cons (.ite (.cmp .In (.loc 0) (.tup (.cons (.glb 4) (.cons (.glb 5) (.cons (.glb 6) (.cons (.glb 7) .nil))))))
  (.cons (.ret (.bool true))
  .nil)
  .nil)
  (.cons (.ret (.or_ (.cons (.cmp .IsNot (.call (.glb 8) (.cons (.loc 0) (.cons (.glb 9) (.cons (.glb 10) (.cons (.call (.glb 11) (.cons (.glb 12) .nil)) .nil))))) .none_) (.cons (.cmp .IsNot (.call (.glb 13) (.cons (.loc 0) .nil)) .none_) .nil))))
  .nil))
def QW:Def where
 ps:=["code", "x", "y"]
 dv:=[]
 ns:=["code", "x", "y", "found"]
 gs:=[8,14,15,11,16,17,18,19,20]
 body:=(.cons (.asg 3 (.call (.glb 8) (.cons (.loc 0) (.cons (.glb 14) (.cons (.glb 15) (.cons (.call (.glb 11) (.cons (.glb 16) .nil)) .nil))))))
  (.cons (.ite (.cmp .IsNot (.loc 3) .none_)
  (.cons (.ret (.call (.sub (.glb 16) (.sub (.loc 3) (.int 0))) (.cons (.loc 1) (.cons (.loc 2) (.cons (.sub (.loc 3) (.int 1)) .nil)))))
  .nil)
  .nil)
  (.cons (.asg 3 (.call (.glb 8) (.cons (.loc 0) (.cons (.glb 17) (.cons (.glb 18) (.cons (.call (.glb 11) (.cons (.glb 19) .nil)) .nil))))))
  (.cons (.ite (.cmp .Is (.loc 3) .none_)
  (.cons (.raise_ 20 (.cons (.str "no operation on two numbers") .nil))
  .nil)
  .nil)
  (.cons (.ret (.call (.sub (.glb 19) (.sub (.loc 3) (.int 0))) (.cons (.loc 1) (.cons (.loc 2) (.cons (.sub (.loc 3) (.int 1)) .nil)))))
  .nil)))))
def KU:Def where
 ps:=["code"]
 dv:=[]
 ns:=["code"]
 gs:=[21,22,23]
 body:=(.cons (.ret (.cmp .In (.loc 0) (.tup (.cons (.glb 21) (.cons (.glb 22) (.cons (.glb 23) .nil))))))
  .nil)
def QY:Def where
 ps:=["body"]
 dv:=[]
 ns:=["body", "ends", "elses", "opened", "at", "instruction", "code", "begin"]
 gs:=[24,25,26,27]
 body:=(.cons (.swp [1,2,3] (.tup (.cons .di0 (.cons .di0 (.cons (.lst .nil) .nil)))))
  (.cons (.forE 24 4 5 (.loc 0)
  (.cons (.asg 6 (.sub (.loc 5) (.int 0)))
  (.cons (.ite (.call (.glb 25) (.cons (.loc 6) .nil))
  (.cons (.expr (.meth (.loc 3) 54 (.cons (.loc 4) .nil)))
  .nil)
  (.cons (.ite (.cmp .Eq (.loc 6) (.glb 26))
  (.cons (.ssub (.loc 2) (.sub (.loc 3) (.neg (.int 1))) (.loc 4))
  .nil)
  (.cons (.ite (.and_ (.cons (.cmp .Eq (.loc 6) (.glb 27)) (.cons (.cmp .NotEq (.loc 3) (.lst .nil)) .nil)))
  (.cons (.asg 7 (.meth (.loc 3) 55 .nil))
  (.cons (.ssub (.loc 1) (.loc 7) (.loc 4))
  (.cons (.ite (.cmp .In (.loc 7) (.loc 2))
  (.cons (.ssub (.loc 1) (.sub (.loc 2) (.loc 7)) (.loc 4))
  .nil)
  .nil)
  .nil)))
  .nil)
  .nil))
  .nil))
  .nil)))
  (.cons (.ret (.tup (.cons (.loc 1) (.cons (.loc 2) .nil))))
  .nil)))
def UZ:Def where
 ps:=["kind"]
 dv:=[]
 ns:=["kind"]
 gs:=[28]
 body:=(.cons (.ret (.cmp .In (.loc 0) (.glb 28)))
  .nil)
def QZ:Def where
 ps:=["kind"]
 dv:=[]
 ns:=["kind"]
 gs:=[29]
 body:=(.cons (.ret (.ifx (.cmp .Eq (.loc 0) (.glb 29)) (.int 32) (.int 64)))
  .nil)
def yI:Def where
 ps:=["kind"]
 dv:=[]
 ns:=["kind"]
 gs:=[30]
 body:=(.cons (.ret (.ifx (.call (.glb 30) (.cons (.loc 0) .nil)) .none_ (.int 0)))
  .nil)
def Jn:Def where
 ps:=["kinds", "told"]
 dv:=[]
 ns:=["kinds", "told"]
 gs:=[31,32,11]
 body:=(.cons (.ite (.cmp .Eq (.loc 1) (.glb 31))
  (.cons (.ret (.tup (.cons (.tup .nil) (.cons (.tup .nil) .nil))))
  .nil)
  .nil)
  (.cons (.ite (.cmp .Lt (.loc 1) (.int 0))
  (.cons (.ret (.ifx (.cmp .In (.loc 1) (.glb 32)) (.tup (.cons (.tup .nil) (.cons (.tup (.cons (.loc 1) .nil)) .nil))) .none_))
  .nil)
  .nil)
  (.cons (.ret (.ifx (.cmp .Lt (.loc 1) (.call (.glb 11) (.cons (.loc 0) .nil))) (.sub (.loc 0) (.loc 1)) .none_))
  .nil)))
def KW:Def where
 ps:=["kind", "value"]
 dv:=[]
 ns:=["kind", "value"]
 gs:=[30,33,34,35,29,36,37]
 body:=(.cons (.ite (.and_ (.cons (.call (.glb 30) (.cons (.loc 0) .nil)) (.cons (.cmp .Is (.loc 1) .none_) .nil)))
  (.cons (.ret (.bool true))
  .nil)
  .nil)
  (.cons (.ite (.or_ (.cons (.not_ (.call (.glb 33) (.cons (.loc 1) (.cons (.glb 34) .nil)))) (.cons (.call (.glb 33) (.cons (.loc 1) (.cons (.glb 35) .nil))) (.cons (.cmp .Lt (.loc 1) (.int 0)) .nil))))
  (.cons (.ret (.bool false))
  .nil)
  .nil)
  (.cons (.ret (.or_ (.cons (.call (.glb 30) (.cons (.loc 0) .nil)) (.cons (.and_ (.cons (.cmp .In (.loc 0) (.tup (.cons (.glb 29) (.cons (.glb 36) .nil)))) (.cons (.cmp .Lt (.loc 1) (.bin .LShift (.int 1) (.call (.glb 37) (.cons (.loc 0) .nil)))) .nil))) .nil))))
  .nil)))
def Wa:Def where
 ps:=["kinds", "values"]
 dv:=[]
 ns:=["kinds", "values"]
 gs:=[11,38,39]
 body:=(.cons (.ite (.cmp .NotEq (.call (.glb 11) (.cons (.loc 0) .nil)) (.call (.glb 11) (.cons (.loc 1) .nil)))
  (.cons (.ret (.bool false))
  .nil)
  .nil)
  (.cons (.ret (.call (.glb 38) (.cons (.comp ["kind", "value"] (.call (.glb 40) (.cons (.loc 0) (.cons (.loc 1) .nil))) (.tup (.cons (.loc 0) (.cons (.loc 1) .nil))) (.call (.glb 39) (.cons (.loc 0) (.cons (.loc 1) .nil)))) .nil)))
  .nil))
def yQ:Def where
 ps:=["self", "kind", "instance", "func"]
 dv:=[]
 ns:=["self", "kind", "instance", "func"]
 gs:=[]
 body:=(.cons (.satt (.loc 0) 0 (.loc 1))
  (.cons (.satt (.loc 0) 1 (.loc 2))
  (.cons (.satt (.loc 0) 2 (.loc 3))
  .nil)))
def wr:Def where
 ps:=["self", "kinds", "funcs"]
 dv:=[]
 ns:=["self", "kinds", "funcs"]
 gs:=[]
 body:=(.cons (.satt (.loc 0) 3 (.loc 1))
  (.cons (.satt (.loc 0) 4 (.loc 2))
  .nil))
def yw:Def where
 ps:=["self"]
 dv:=[]
 ns:=["self"]
 gs:=[]
 body:=(.cons (.satt (.loc 0) 4 (.lst .nil))
  .nil)
def Jm:Def where
 ps:=["kinds", "funcs"]
 dv:=[]
 ns:=["kinds", "funcs", "store", "instance", "func"]
 gs:=[41,42,43,44,11,45]
 body:=(.cons (.asg 2 (.call (.glb 41) .nil))
  (.cons (.asg 3 (.call (.glb 42) (.cons (.loc 0) (.cons (.call (.glb 43) (.cons (.call (.glb 44) (.cons (.call (.glb 11) (.cons (.loc 1) .nil)) .nil)) .nil)) .nil))))
  (.gho (.cons (.for_ 4 (.loc 1)
  (.cons (.expr (.meth (.att (.loc 2) 4) 54 (.cons (.call (.glb 45) (.cons (.sub (.loc 0) (.att (.loc 4) 0)) (.cons (.loc 3) (.cons (.loc 4) .nil)))) .nil)))
  (.gho .nil)))
  (.cons (.ret (.loc 2))
  .nil)))))
def Jo:Def where
 ps:=["self", "target", "arity", "height", "is_loop"]
 dv:=[]
 ns:=["self", "target", "arity", "height", "is_loop"]
 gs:=[]
 body:=(.cons (.satt (.loc 0) 5 (.loc 1))
  (.cons (.satt (.loc 0) 6 (.loc 2))
  (.cons (.satt (.loc 0) 7 (.loc 3))
  (.cons (.satt (.loc 0) 8 (.loc 4))
  .nil))))
def zQ:Def where
 ps:=["self"]
 dv:=[]
 ns:=["self"]
 gs:=[]
 body:=(.cons (.ret (.tup (.cons (.att (.loc 0) 5) (.cons (.att (.loc 0) 6) (.cons (.att (.loc 0) 7) (.cons (.att (.loc 0) 8) .nil))))))
  .nil)
def Jp:Def where
 ps:=["self", "address", "func", "matched", "places", "base"]
 dv:=[]
 ns:=["self", "address", "func", "matched", "places", "base"]
 gs:=[11,46]
 body:=(.cons (.satt (.loc 0) 9 (.loc 1))
  (.cons (.satt (.loc 0) 1 (.att (.loc 2) 1))
  (.cons (.satt (.loc 0) 10 (.att (.att (.loc 2) 2) 10))
  (.cons (.satt (.loc 0) 6 (.call (.glb 11) (.cons (.sub (.att (.loc 2) 0) (.int 1)) .nil)))
  (.cons (.satt (.loc 0) 11 (.sub (.loc 3) (.int 0)))
  (.cons (.satt (.loc 0) 12 (.sub (.loc 3) (.int 1)))
  (.cons (.satt (.loc 0) 13 (.loc 4))
  (.cons (.satt (.loc 0) 14 (.loc 5))
  (.cons (.satt (.loc 0) 15 (.int 0))
  (.cons (.satt (.loc 0) 16 (.lst (.cons (.call (.glb 46) (.cons (.call (.glb 11) (.cons (.att (.loc 0) 10) .nil)) (.cons (.att (.loc 0) 6) (.cons (.loc 5) (.cons (.bool false) .nil))))) .nil)))
  (.gho .nil)))))))))))
def yJ:Def where
 ps:=["self"]
 dv:=[]
 ns:=["self"]
 gs:=[11]
 body:=(.cons (.ret (.cmp .GtE (.att (.loc 0) 15) (.call (.glb 11) (.cons (.att (.loc 0) 10) .nil))))
  .nil)
def zR:Def where
 ps:=["self"]
 dv:=[]
 ns:=["self"]
 gs:=[47]
 body:=(.cons (.ret (.tup (.cons (.att (.loc 0) 9) (.cons (.att (.loc 0) 15) (.cons (.call (.glb 47) (.cons (.att (.loc 0) 13) .nil)) (.cons (.call (.glb 47) (.cons (.comp ["label"] (.meth (.loc 0) 28 .nil) (.loc 0) (.att (.loc 0) 16)) .nil)) .nil))))))
  .nil)
def zg:Def where
 ps:=["self", "machine", "address", "values"]
 dv:=[]
 ns:=["self", "machine", "address", "values"]
 gs:=[43]
 body:=(.cons (.satt (.loc 0) 17 (.loc 1))
  (.cons (.satt (.loc 0) 18 (.att (.loc 1) 18))
  (.cons (.satt (.loc 0) 19 (.att (.loc 1) 19))
  (.cons (.satt (.loc 0) 20 (.call (.glb 43) (.cons (.loc 3) .nil)))
  (.cons (.satt (.loc 0) 21 (.lst .nil))
  (.cons (.satt (.loc 0) 22 (.bool false))
  (.cons (.expr (.meth (.loc 0) 44 (.cons (.loc 2) .nil)))
  .nil)))))))
def wO:Def where
 ps:=["self"]
 dv:=[]
 ns:=["self"]
 gs:=[11]
 body:=(.cons (.ret (.cmp .Eq (.call (.glb 11) (.cons (.att (.loc 0) 21) .nil)) (.int 0)))
  .nil)
def yO:Def where
 ps:=["self"]
 dv:=[]
 ns:=["self"]
 gs:=[11]
 body:=(.cons (.ret (.bin .Add (.att (.loc 0) 19) (.call (.glb 11) (.cons (.att (.loc 0) 21) .nil))))
  .nil)
def yK:Def where
 ps:=["self"]
 dv:=[]
 ns:=["self"]
 gs:=[47]
 body:=(.cons (.ret (.tup (.cons (.call (.glb 47) (.cons (.att (.loc 0) 20) .nil)) (.cons (.call (.glb 47) (.cons (.comp ["frame"] (.meth (.loc 0) 28 .nil) (.loc 0) (.att (.loc 0) 21)) .nil)) .nil))))
  .nil)
def wP:Def where
 ps:=["self", "many"]
 dv:=[]
 ns:=["self", "many", "done"]
 gs:=[11]
 body:=(.cons (.asg 2 (.int 0))
  (.cons (.whl (.and_ (.cons (.cmp .Gt (.call (.glb 11) (.cons (.att (.loc 0) 21) .nil)) (.int 0)) (.cons (.or_ (.cons (.cmp .Is (.loc 1) .none_) (.cons (.cmp .Lt (.loc 2) (.loc 1)) .nil))) .nil)))
  (.cons (.expr (.meth (.loc 0) 31 .nil))
  (.cons (.asg 2 (.bin .Add (.loc 2) (.int 1)))
  .nil)))
  (.cons (.ret (.loc 2))
  .nil)))
def zf:Def where
 ps:=["self"]
 dv:=[]
 ns:=["self", "frame", "here", "instruction"]
 gs:=[20,11]
 body:=(.cons (.ite (.or_ (.cons (.meth (.loc 0) 29 .nil) (.cons (.att (.loc 0) 22) .nil)))
  (.cons (.raise_ 20 (.cons (.str "the call is through") .nil))
  .nil)
  .nil)
  (.cons (.expr (.meth (.att (.loc 0) 17) 46 .nil))
  (.cons (.asg 1 (.sub (.att (.loc 0) 21) (.neg (.int 1))))
  (.cons (.asg 2 (.att (.loc 1) 15))
  (.cons (.asg 3 (.sub (.att (.loc 1) 10) (.loc 2)))
  (.cons (.satt (.loc 1) 15 (.bin .Add (.loc 2) (.int 1)))
  (.cons (.satt (.loc 0) 22 (.bool true))
  (.cons (.expr (.meth (.loc 0) 32 (.cons (.loc 1) (.cons (.loc 2) (.cons (.loc 3) .nil)))))
  (.cons (.satt (.loc 0) 22 (.bool false))
  (.cons (.whl (.and_ (.cons (.cmp .Gt (.call (.glb 11) (.cons (.att (.loc 0) 21) .nil)) (.int 0)) (.cons (.meth (.sub (.att (.loc 0) 21) (.neg (.int 1))) 29 .nil) .nil)))
  (.cons (.expr (.meth (.att (.loc 0) 21) 55 .nil))
  .nil))
  .nil))))))))))
def Jr:Def where
 ps:=["self", "frame", "here", "instruction"]
 dv:=[]
 ns:=["self", "frame", "here", "instruction", "code"]
 gs:=[0]
 body:=(.cons (.asg 4 (.sub (.loc 3) (.int 0)))
  (.cons (.ite (.chain .LtE .LtE (.int 69) (.loc 4) (.int 196))
  (.cons (.expr (.meth (.loc 0) 34 (.cons (.loc 4) .nil)))
  .nil)
  (.cons (.ite (.or_ (.cons (.cmp .LtE (.loc 4) (.int 16)) (.cons (.cmp .Eq (.loc 4) (.int 18)) .nil)))
  (.cons (.expr (.meth (.loc 0) 36 (.cons (.loc 1) (.cons (.loc 2) (.cons (.loc 3) .nil)))))
  .nil)
  (.cons (.ite (.chain .LtE .LtE (.int 26) (.loc 4) (.int 34))
  (.cons (.expr (.meth (.loc 0) 35 (.cons (.loc 1) (.cons (.loc 3) .nil))))
  .nil)
  (.cons (.ite (.cmp .Eq (.loc 4) (.int 65))
  (.cons (.expr (.meth (.att (.loc 0) 20) 54 (.cons (.call (.glb 0) (.cons (.sub (.loc 3) (.int 1)) (.cons (.int 32) .nil))) .nil)))
  .nil)
  (.cons (.ite (.cmp .Eq (.loc 4) (.int 66))
  (.cons (.expr (.meth (.att (.loc 0) 20) 54 (.cons (.call (.glb 0) (.cons (.sub (.loc 3) (.int 1)) (.cons (.int 64) .nil))) .nil)))
  .nil)
  (.cons (.expr (.meth (.loc 0) 33 (.cons (.loc 1) (.cons (.loc 3) .nil))))
  .nil))
  .nil))
  .nil))
  .nil))
  .nil))
  .nil))
def yx:Def where
 ps:=["self", "code"]
 dv:=[]
 ns:=["self", "code", "last"]
 gs:=[48,49,50]
 body:=(.cons (.asg 2 (.meth (.att (.loc 0) 20) 55 .nil))
  (.cons (.ite (.call (.glb 48) (.cons (.loc 1) .nil))
  (.cons (.expr (.meth (.att (.loc 0) 20) 54 (.cons (.call (.glb 49) (.cons (.loc 1) (.cons (.loc 2) .nil))) .nil)))
  .nil)
  (.cons (.expr (.meth (.att (.loc 0) 20) 54 (.cons (.call (.glb 50) (.cons (.loc 1) (.cons (.meth (.att (.loc 0) 20) 55 .nil) (.cons (.loc 2) .nil)))) .nil)))
  .nil))
  .nil))
def yM:Def where
 ps:=["self", "frame", "instruction"]
 dv:=[]
 ns:=["self", "frame", "instruction", "code", "is_first", "second", "first"]
 gs:=[]
 body:=(.cons (.asg 3 (.sub (.loc 2) (.int 0)))
  (.cons (.ite (.cmp .Eq (.loc 3) (.int 32))
  (.cons (.expr (.meth (.att (.loc 0) 20) 54 (.cons (.sub (.att (.loc 1) 13) (.sub (.loc 2) (.int 1))) .nil)))
  .nil)
  (.cons (.ite (.cmp .Eq (.loc 3) (.int 33))
  (.cons (.ssub (.att (.loc 1) 13) (.sub (.loc 2) (.int 1)) (.meth (.att (.loc 0) 20) 55 .nil))
  .nil)
  (.cons (.ite (.cmp .Eq (.loc 3) (.int 34))
  (.cons (.ssub (.att (.loc 1) 13) (.sub (.loc 2) (.int 1)) (.sub (.att (.loc 0) 20) (.neg (.int 1))))
  .nil)
  (.cons (.ite (.cmp .Eq (.loc 3) (.int 26))
  (.cons (.expr (.meth (.att (.loc 0) 20) 55 .nil))
  .nil)
  (.cons (.asg 4 (.cmp .NotEq (.meth (.att (.loc 0) 20) 55 .nil) (.int 0)))
  (.cons (.asg 5 (.meth (.att (.loc 0) 20) 55 .nil))
  (.cons (.asg 6 (.meth (.att (.loc 0) 20) 55 .nil))
  (.cons (.expr (.meth (.att (.loc 0) 20) 54 (.cons (.ifx (.loc 4) (.loc 6) (.loc 5)) .nil)))
  .nil)))))
  .nil))
  .nil))
  .nil))
  .nil))
def wQ:Def where
 ps:=["self", "frame", "here", "instruction"]
 dv:=[]
 ns:=["self", "frame", "here", "instruction", "code"]
 gs:=[27,21,22,23,26,51,52]
 body:=(.cons (.asg 4 (.sub (.loc 3) (.int 0)))
  (.cons (.ite (.cmp .Eq (.loc 4) (.glb 27))
  (.cons (.expr (.meth (.att (.loc 1) 16) 55 .nil))
  .nil)
  (.cons (.ite (.cmp .Eq (.loc 4) (.int 12))
  (.cons (.expr (.meth (.loc 0) 39 (.cons (.loc 1) (.cons (.sub (.loc 3) (.int 1)) .nil))))
  .nil)
  (.cons (.ite (.cmp .Eq (.loc 4) (.int 13))
  (.cons (.ite (.cmp .NotEq (.meth (.att (.loc 0) 20) 55 .nil) (.int 0))
  (.cons (.expr (.meth (.loc 0) 39 (.cons (.loc 1) (.cons (.sub (.loc 3) (.int 1)) .nil))))
  .nil)
  .nil)
  .nil)
  (.cons (.ite (.or_ (.cons (.cmp .Eq (.loc 4) (.glb 21)) (.cons (.cmp .Eq (.loc 4) (.glb 22)) .nil)))
  (.cons (.expr (.meth (.loc 0) 37 (.cons (.loc 1) (.cons (.loc 2) (.cons (.loc 3) .nil)))))
  .nil)
  (.cons (.ite (.cmp .Eq (.loc 4) (.glb 23))
  (.cons (.expr (.meth (.loc 0) 38 (.cons (.loc 1) (.cons (.loc 2) (.cons (.loc 3) .nil)))))
  .nil)
  (.cons (.ite (.cmp .Eq (.loc 4) (.glb 26))
  (.cons (.satt (.loc 1) 15 (.sub (.att (.loc 1) 11) (.loc 2)))
  .nil)
  (.cons (.ite (.cmp .Eq (.loc 4) (.int 14))
  (.cons (.expr (.meth (.loc 0) 40 (.cons (.loc 1) (.cons (.loc 3) .nil))))
  .nil)
  (.cons (.ite (.cmp .Eq (.loc 4) (.int 15))
  (.cons (.expr (.meth (.loc 0) 42 (.cons (.loc 1) .nil)))
  .nil)
  (.cons (.ite (.cmp .Eq (.loc 4) (.int 0))
  (.cons (.raise_ 51 (.cons (.glb 52) .nil))
  .nil)
  (.cons (.ite (.cmp .GtE (.loc 4) (.int 16))
  (.cons (.expr (.meth (.loc 0) 43 (.cons (.loc 1) (.cons (.sub (.att (.att (.loc 1) 1) 4) (.sub (.loc 3) (.int 1))) (.cons (.cmp .Eq (.loc 4) (.int 18)) .nil)))))
  .nil)
  .nil)
  .nil))
  .nil))
  .nil))
  .nil))
  .nil))
  .nil))
  .nil))
  .nil))
  .nil))
  .nil))
def yP:Def where
 ps:=["self", "frame", "here", "instruction"]
 dv:=[]
 ns:=["self", "frame", "here", "instruction", "params", "results", "height"]
 gs:=[53,11,22,46]
 body:=(.cons (.asgT [.loc 4,.loc 5] (.call (.glb 53) (.cons (.att (.att (.loc 1) 1) 3) (.cons (.sub (.loc 3) (.int 1)) .nil))))
  (.cons (.asg 6 (.bin .Sub (.call (.glb 11) (.cons (.att (.loc 0) 20) .nil)) (.call (.glb 11) (.cons (.loc 4) .nil))))
  (.cons (.ite (.cmp .Eq (.sub (.loc 3) (.int 0)) (.glb 22))
  (.cons (.expr (.meth (.att (.loc 1) 16) 54 (.cons (.call (.glb 46) (.cons (.bin .Add (.loc 2) (.int 1)) (.cons (.call (.glb 11) (.cons (.loc 4) .nil)) (.cons (.loc 6) (.cons (.bool true) .nil))))) .nil)))
  (.gho .nil))
  (.cons (.expr (.meth (.att (.loc 1) 16) 54 (.cons (.call (.glb 46) (.cons (.bin .Add (.sub (.att (.loc 1) 11) (.loc 2)) (.int 1)) (.cons (.call (.glb 11) (.cons (.loc 5) .nil)) (.cons (.loc 6) (.cons (.bool false) .nil))))) .nil)))
  (.gho .nil)))
  .nil)))
def yy:Def where
 ps:=["self", "frame", "here", "instruction"]
 dv:=[]
 ns:=["self", "frame", "here", "instruction", "is_so"]
 gs:=[]
 body:=(.cons (.asg 4 (.cmp .NotEq (.meth (.att (.loc 0) 20) 55 .nil) (.int 0)))
  (.cons (.expr (.meth (.loc 0) 37 (.cons (.loc 1) (.cons (.loc 2) (.cons (.loc 3) .nil)))))
  (.cons (.ite (.not_ (.loc 4))
  (.cons (.satt (.loc 1) 15 (.ifx (.cmp .In (.loc 2) (.att (.loc 1) 12)) (.bin .Add (.sub (.att (.loc 1) 12) (.loc 2)) (.int 1)) (.sub (.att (.loc 1) 11) (.loc 2))))
  .nil)
  .nil)
  .nil)))
def yz:Def where
 ps:=["self", "frame", "label"]
 dv:=[]
 ns:=["self", "frame", "label", "place", "goal"]
 gs:=[11]
 body:=(.cons (.asg 3 (.bin .Sub (.bin .Sub (.call (.glb 11) (.cons (.att (.loc 1) 16) .nil)) (.int 1)) (.loc 2)))
  (.cons (.asg 4 (.sub (.att (.loc 1) 16) (.loc 3)))
  (.cons (.expr (.meth (.loc 0) 41 (.cons (.att (.loc 4) 7) (.cons (.att (.loc 4) 6) .nil))))
  (.cons (.satt (.loc 1) 16 (.ifx (.att (.loc 4) 8) (.slice (.att (.loc 1) 16) .nil (.cons (.bin .Add (.loc 3) (.int 1)) .nil)) (.slice (.att (.loc 1) 16) .nil (.cons (.loc 3) .nil))))
  (.cons (.satt (.loc 1) 15 (.att (.loc 4) 5))
  .nil)))))
def ud:Def where
 ps:=["self", "frame", "instruction"]
 dv:=[]
 ns:=["self", "frame", "instruction", "place"]
 gs:=[11]
 body:=(.cons (.asg 3 (.bin .Add (.meth (.att (.loc 0) 20) 55 .nil) (.int 1)))
  (.cons (.expr (.meth (.loc 0) 39 (.cons (.loc 1) (.cons (.ifx (.cmp .Lt (.loc 3) (.call (.glb 11) (.cons (.loc 2) .nil))) (.sub (.loc 2) (.loc 3)) (.sub (.loc 2) (.neg (.int 1)))) .nil))))
  .nil))
def yL:Def where
 ps:=["self", "height", "many"]
 dv:=[]
 ns:=["self", "height", "many", "carried"]
 gs:=[11]
 body:=(.cons (.asg 3 (.slice (.att (.loc 0) 20) (.cons (.bin .Sub (.call (.glb 11) (.cons (.att (.loc 0) 20) .nil)) (.loc 2)) .nil) .nil))
  (.cons (.satt (.loc 0) 20 (.bin .Add (.slice (.att (.loc 0) 20) .nil (.cons (.loc 1) .nil)) (.loc 3)))
  .nil))
def wk:Def where
 ps:=["self", "frame"]
 dv:=[]
 ns:=["self", "frame"]
 gs:=[11]
 body:=(.cons (.expr (.meth (.loc 0) 41 (.cons (.att (.loc 1) 14) (.cons (.att (.loc 1) 6) .nil))))
  (.cons (.satt (.loc 1) 16 (.lst .nil))
  (.cons (.satt (.loc 1) 15 (.call (.glb 11) (.cons (.att (.loc 1) 10) .nil)))
  .nil)))
def Jq:Def where
 ps:=["self", "frame", "address", "is_tail"]
 dv:=[]
 ns:=["self", "frame", "address", "is_tail"]
 gs:=[11]
 body:=(.cons (.ite (.loc 3)
  (.cons (.expr (.meth (.loc 0) 41 (.cons (.att (.loc 1) 14) (.cons (.call (.glb 11) (.cons (.sub (.att (.sub (.att (.att (.loc 0) 18) 4) (.loc 2)) 0) (.int 0)) .nil)) .nil))))
  (.cons (.expr (.meth (.att (.loc 0) 21) 55 .nil))
  .nil))
  .nil)
  (.cons (.expr (.meth (.loc 0) 44 (.cons (.loc 2) .nil)))
  .nil))
def yN:Def where
 ps:=["self", "address"]
 dv:=[]
 ns:=["self", "address"]
 gs:=[]
 body:=(.cons (.expr (.meth (.loc 0) 45 (.cons (.loc 1) .nil)))
  .nil)
def uY:Def where
 ps:=["self", "address"]
 dv:=[]
 ns:=["self", "address", "func", "base", "places"]
 gs:=[54,55,11,57,58]
 body:=(.cons (.ite (.cmp .GtE (.meth (.loc 0) 24 .nil) (.att (.att (.loc 0) 17) 24))
  (.cons (.raise_ 54 (.cons (.glb 55) .nil))
  .nil)
  .nil)
  (.cons (.asg 2 (.sub (.att (.att (.loc 0) 18) 4) (.loc 1)))
  (.cons (.asg 3 (.bin .Sub (.call (.glb 11) (.cons (.att (.loc 0) 20) .nil)) (.call (.glb 11) (.cons (.sub (.att (.loc 2) 0) (.int 0)) .nil))))
  (.cons (.asg 4 (.bin .Add (.slice (.att (.loc 0) 20) (.cons (.loc 3) .nil) .nil) (.comp ["kind"] (.call (.glb 56) (.cons (.loc 0) .nil)) (.loc 0) (.att (.att (.loc 2) 2) 13))))
  (.cons (.satt (.loc 0) 20 (.slice (.att (.loc 0) 20) .nil (.cons (.loc 3) .nil)))
  (.cons (.expr (.meth (.att (.loc 0) 21) 54 (.cons (.call (.glb 57) (.cons (.loc 1) (.cons (.loc 2) (.cons (.meth (.att (.loc 0) 17) 49 (.cons (.loc 1) .nil)) (.cons (.loc 4) (.cons (.loc 3) .nil)))))) .nil)))
  (.cons (.satt (.att (.loc 0) 17) 26 (.call (.glb 58) (.cons (.att (.att (.loc 0) 17) 26) (.cons (.meth (.loc 0) 24 .nil) .nil))))
  .nil)))))))
def wK:Def where
 ps:=["self", "store", "fuel", "depth"]
 dv:=[]
 ns:=["self", "store", "fuel", "depth"]
 gs:=[]
 body:=(.cons (.satt (.loc 0) 18 (.loc 1))
  (.cons (.satt (.loc 0) 23 (.loc 2))
  (.cons (.satt (.loc 0) 24 (.loc 3))
  (.cons (.satt (.loc 0) 25 (.int 0))
  (.cons (.satt (.loc 0) 26 (.int 0))
  (.cons (.satt (.loc 0) 19 (.int 0))
  (.cons (.satt (.loc 0) 27 .di0)
  .nil)))))))
def wn:Def where
 ps:=["self"]
 dv:=[]
 ns:=["self"]
 gs:=[54,59]
 body:=(.cons (.ite (.and_ (.cons (.cmp .IsNot (.att (.loc 0) 23) .none_) (.cons (.cmp .GtE (.att (.loc 0) 25) (.att (.loc 0) 23)) .nil)))
  (.cons (.raise_ 54 (.cons (.glb 59) .nil))
  .nil)
  .nil)
  (.cons (.satt (.loc 0) 25 (.bin .Add (.att (.loc 0) 25) (.int 1)))
  .nil))
def wJ:Def where
 ps:=["self"]
 dv:=[]
 ns:=["self"]
 gs:=[]
 body:=(.cons (.ret (.ifx (.cmp .Is (.att (.loc 0) 23) .none_) .none_ (.bin .Sub (.att (.loc 0) 23) (.att (.loc 0) 25))))
  .nil)
def uM:Def where
 ps:=["self", "address"]
 dv:=[]
 ns:=["self", "address"]
 gs:=[60]
 body:=(.cons (.ite (.cmp .NotIn (.loc 1) (.att (.loc 0) 27))
  (.cons (.ssub (.att (.loc 0) 27) (.loc 1) (.call (.glb 60) (.cons (.att (.att (.sub (.att (.att (.loc 0) 18) 4) (.loc 1)) 2) 10) .nil)))
  .nil)
  .nil)
  (.cons (.ret (.sub (.att (.loc 0) 27) (.loc 1)))
  .nil))
def wq:Def where
 ps:=["self", "address", "values"]
 dv:=[]
 ns:=["self", "address", "values"]
 gs:=[11,20,61,62]
 body:=(.cons (.ite (.not_ (.chain .LtE .Lt (.int 0) (.loc 1) (.call (.glb 11) (.cons (.att (.att (.loc 0) 18) 4) .nil))))
  (.cons (.raise_ 20 (.cons (.str "no such address") .nil))
  .nil)
  .nil)
  (.cons (.ite (.not_ (.call (.glb 61) (.cons (.sub (.att (.sub (.att (.att (.loc 0) 18) 4) (.loc 1)) 0) (.int 0)) (.cons (.loc 2) .nil))))
  (.cons (.raise_ 20 (.cons (.str "values of another kind") .nil))
  .nil)
  .nil)
  (.cons (.ret (.call (.glb 62) (.cons (.loc 0) (.cons (.loc 1) (.cons (.loc 2) .nil)))))
  .nil)))
def JU:Def where
 ps:=["self", "kind", "locals_now", "body"]
 dv:=[]
 ns:=["self", "kind", "locals_now", "body"]
 gs:=[]
 body:=(.cons (.satt (.loc 0) 0 (.loc 1))
  (.cons (.satt (.loc 0) 13 (.loc 2))
  (.cons (.satt (.loc 0) 10 (.loc 3))
  .nil)))
def KO:Def where
 ps:=["pen"]
 dv:=[]
 ns:=["pen", "at"]
 gs:=[63,11]
 body:=(.cons (.asg 1 (.sub (.loc 0) (.int 1)))
  (.cons (.ssub (.loc 0) (.int 1) (.bin .Add (.loc 1) (.int 1)))
  (.cons (.ret (.call (.glb 63) (.cons (.bin .Add (.ifx (.cmp .Lt (.loc 1) (.call (.glb 11) (.cons (.sub (.loc 0) (.int 0)) .nil))) (.sub (.sub (.loc 0) (.int 0)) (.loc 1)) (.int 0)) (.bin .Mult (.int 29) (.loc 1))) .nil)))
  .nil)))
def KS:Def where
 ps:=["world", "op", "more"]
 dv:=[]
 ns:=["world", "op", "more"]
 gs:=[43]
 body:=(.cons (.expr (.meth (.sub (.loc 0) (.str "body")) 54 (.cons (.loc 1) .nil)))
  (.cons (.expr (.meth (.sub (.loc 0) (.str "heights")) 54 (.cons (.sub (.loc 0) (.str "high")) .nil)))
  (.cons (.expr (.meth (.sub (.loc 0) (.str "open")) 54 (.cons (.call (.glb 43) (.cons (.sub (.loc 0) (.str "labels")) .nil)) .nil)))
  (.gho (.cons (.ssub (.loc 0) (.str "high") (.bin .Add (.sub (.loc 0) (.str "high")) (.loc 2)))
  .nil)))))
def KR:Def where
 ps:=["world", "many"]
 dv:=[]
 ns:=["world", "many", "k"]
 gs:=[44,64]
 body:=(.cons (.for_ 2 (.call (.glb 44) (.cons (.loc 1) .nil))
  (.cons (.expr (.call (.glb 64) (.cons (.loc 0) (.cons (.ifx (.cmp .Lt (.bin .Mod (.loc 2) (.int 3)) (.int 2)) (.tup (.cons (.int 32) (.cons (.bin .Mod (.loc 2) (.int 2)) .nil))) (.tup (.cons (.int 65) (.cons (.loc 2) .nil)))) (.cons (.int 1) .nil)))))
  .nil))
  .nil)
def JR:Def where
 ps:=["world", "base", "gives"]
 dv:=[]
 ns:=["world", "base", "gives"]
 gs:=[64,65]
 body:=(.cons (.ite (.sub (.loc 0) (.str "live"))
  (.cons (.whl (.cmp .Gt (.sub (.loc 0) (.str "high")) (.loc 1))
  (.cons (.expr (.call (.glb 64) (.cons (.loc 0) (.cons (.tup (.cons (.int 26) .nil)) (.cons (.neg (.int 1)) .nil)))))
  .nil))
  (.cons (.expr (.call (.glb 65) (.cons (.loc 0) (.cons (.loc 2) .nil))))
  .nil))
  .nil)
  .nil)
def jz:Def where
 ps:=["pen", "world", "depth", "x"]
 dv:=[]
 ns:=["pen", "world", "depth", "x", "code", "takes", "gives", "begin", "base", "label"]
 gs:=[65,11,64,66,67]
 body:=(.cons (.swp [4,5,6] (.tup (.cons (.sub (.tup (.cons (.int 2) (.cons (.int 3) (.cons (.int 4) .nil)))) (.bin .Mod (.loc 3) (.int 3))) (.cons (.bin .Mod (.bin .FloorDiv (.loc 3) (.int 3)) (.int 3)) (.cons (.bin .Mod (.bin .FloorDiv (.loc 3) (.int 9)) (.int 3)) .nil)))))
  (.cons (.expr (.call (.glb 65) (.cons (.loc 1) (.cons (.bin .Add (.loc 5) (.ifx (.cmp .Eq (.loc 4) (.int 4)) (.int 1) (.int 0))) .nil))))
  (.cons (.asg 7 (.call (.glb 11) (.cons (.sub (.loc 1) (.str "body")) .nil)))
  (.cons (.asg 8 (.bin .Sub (.bin .Sub (.sub (.loc 1) (.str "high")) (.loc 5)) (.ifx (.cmp .Eq (.loc 4) (.int 4)) (.int 1) (.int 0))))
  (.cons (.expr (.call (.glb 64) (.cons (.loc 1) (.cons (.tup (.cons (.loc 4) (.cons (.bin .Add (.bin .Mult (.int 3) (.loc 5)) (.loc 6)) .nil))) (.cons (.ifx (.cmp .Eq (.loc 4) (.int 4)) (.neg (.int 1)) (.int 0)) .nil)))))
  (.cons (.asg 9 (.ifx (.cmp .Eq (.loc 4) (.int 3)) (.lst (.cons (.bin .Add (.loc 7) (.int 1)) (.cons (.loc 5) (.cons (.loc 8) (.cons (.bool true) .nil))))) (.lst (.cons (.neg (.int 1)) (.cons (.loc 6) (.cons (.loc 8) (.cons (.bool false) .nil)))))))
  (.cons (.expr (.meth (.sub (.loc 1) (.str "labels")) 54 (.cons (.loc 9) .nil)))
  (.cons (.expr (.call (.glb 66) (.cons (.loc 0) (.cons (.loc 1) (.cons (.bin .Sub (.loc 2) (.int 1)) (.cons (.loc 8) .nil))))))
  (.cons (.expr (.call (.glb 67) (.cons (.loc 1) (.cons (.loc 8) (.cons (.loc 6) .nil)))))
  (.cons (.ite (.and_ (.cons (.cmp .Eq (.loc 4) (.int 4)) (.cons (.or_ (.cons (.cmp .NotEq (.loc 5) (.loc 6)) (.cons (.cmp .Eq (.bin .Mod (.bin .FloorDiv (.loc 3) (.int 27)) (.int 2)) (.int 0)) .nil))) .nil)))
  (.cons (.ssub (.loc 1) (.str "high") (.ifx (.sub (.loc 1) (.str "live")) (.sub (.loc 1) (.str "high")) (.bin .Add (.loc 8) (.loc 6))))
  (.cons (.expr (.call (.glb 64) (.cons (.loc 1) (.cons (.tup (.cons (.int 5) .nil)) (.cons (.int 0) .nil)))))
  (.cons (.asgT [.sub (.loc 1) (.str "high"),.sub (.loc 1) (.str "live")] (.tup (.cons (.bin .Add (.loc 8) (.loc 5)) (.cons (.bool true) .nil))))
  (.cons (.expr (.call (.glb 66) (.cons (.loc 0) (.cons (.loc 1) (.cons (.bin .Sub (.loc 2) (.int 1)) (.cons (.loc 8) .nil))))))
  (.cons (.expr (.call (.glb 67) (.cons (.loc 1) (.cons (.loc 8) (.cons (.loc 6) .nil)))))
  .nil)))))
  .nil)
  (.cons (.ssub (.loc 1) (.str "high") (.bin .Add (.loc 8) (.loc 6)))
  (.cons (.expr (.call (.glb 64) (.cons (.loc 1) (.cons (.tup (.cons (.int 11) .nil)) (.cons (.int 0) .nil)))))
  (.cons (.expr (.meth (.sub (.loc 1) (.str "labels")) 55 .nil))
  (.cons (.ite (.cmp .NotEq (.loc 4) (.int 3))
  (.cons (.ssub (.loc 9) (.int 0) (.call (.glb 11) (.cons (.sub (.loc 1) (.str "body")) .nil)))
  .nil)
  .nil)
  (.cons (.asgT [.sub (.loc 1) (.str "high"),.sub (.loc 1) (.str "live")] (.tup (.cons (.bin .Add (.loc 8) (.loc 6)) (.cons (.bool true) .nil))))
  .nil)))))))))))))))
def KQ:Def where
 ps:=["world", "pick", "x"]
 dv:=[]
 ns:=["world", "pick", "x", "label", "many", "op"]
 gs:=[11,65,64]
 body:=(.cons (.asg 3 (.bin .Mod (.loc 2) (.call (.glb 11) (.cons (.sub (.loc 0) (.str "labels")) .nil))))
  (.cons (.asg 4 (.ifx (.cmp .NotEq (.loc 1) (.int 11)) (.sub (.sub (.sub (.loc 0) (.str "labels")) (.bin .Sub (.bin .Sub (.call (.glb 11) (.cons (.sub (.loc 0) (.str "labels")) .nil)) (.int 1)) (.loc 3))) (.int 1)) (.int 1)))
  (.cons (.expr (.call (.glb 65) (.cons (.loc 0) (.cons (.loc 4) .nil))))
  (.cons (.ite (.or_ (.cons (.cmp .Eq (.loc 1) (.int 8)) (.cons (.cmp .Eq (.loc 1) (.int 10)) .nil)))
  (.cons (.expr (.call (.glb 64) (.cons (.loc 0) (.cons (.ifx (.cmp .Eq (.bin .Mod (.bin .FloorDiv (.loc 2) (.int 10)) (.int 2)) (.int 0)) (.tup (.cons (.int 65) (.cons (.bin .Mod (.bin .FloorDiv (.loc 2) (.int 5)) (.int 2)) .nil))) (.tup (.cons (.int 32) (.cons (.bin .Mod (.bin .FloorDiv (.loc 2) (.int 5)) (.int 2)) .nil)))) (.cons (.int 1) .nil)))))
  .nil)
  .nil)
  (.cons (.asg 5 (.sub (.dii [8,9,10,11] (.cons (.tup (.cons (.int 13) (.cons (.loc 3) .nil))) (.cons (.tup (.cons (.int 12) (.cons (.loc 3) .nil))) (.cons (.tup (.cons (.int 14) (.cons (.loc 3) (.cons (.loc 3) .nil)))) (.cons (.tup (.cons (.int 15) .nil)) .nil))))) (.loc 1)))
  (.cons (.expr (.call (.glb 64) (.cons (.loc 0) (.cons (.loc 5) (.cons (.ifx (.cmp .Eq (.loc 1) (.int 8)) (.neg (.int 1)) (.int 0)) .nil)))))
  (.cons (.ssub (.loc 0) (.str "live") (.cmp .Eq (.loc 1) (.int 8)))
  .nil)))))))
def KP:Def where
 ps:=["pen", "world", "depth", "base"]
 dv:=[]
 ns:=["pen", "world", "depth", "base", "turn", "x", "pick"]
 gs:=[44,68,69,70,65,64]
 body:=(.cons (.for_ 4 (.call (.glb 44) (.cons (.bin .Add (.int 1) (.bin .Mod (.call (.glb 68) (.cons (.loc 0) .nil)) (.int 3))) .nil))
  (.cons (.asg 5 (.call (.glb 68) (.cons (.loc 0) .nil)))
  (.cons (.swp [6,5] (.tup (.cons (.bin .Mod (.loc 5) (.int 12)) (.cons (.bin .FloorDiv (.loc 5) (.int 12)) .nil))))
  (.cons (.ite (.or_ (.cons (.not_ (.sub (.loc 1) (.str "live"))) (.cons (.cmp .Eq (.sub (.loc 1) (.str "left")) (.int 0)) .nil)))
  (.cons .ret0
  .nil)
  .nil)
  (.cons (.ssub (.loc 1) (.str "left") (.bin .Sub (.sub (.loc 1) (.str "left")) (.int 1)))
  (.cons (.ite (.cmp .Gt (.loc 6) (.int 7))
  (.cons (.expr (.call (.glb 69) (.cons (.loc 1) (.cons (.loc 6) (.cons (.loc 5) .nil)))))
  .nil)
  (.cons (.ite (.and_ (.cons (.cmp .Gt (.loc 6) (.int 4)) (.cons (.cmp .Gt (.loc 2) (.int 0)) .nil)))
  (.cons (.expr (.call (.glb 70) (.cons (.loc 0) (.cons (.loc 1) (.cons (.loc 2) (.cons (.loc 5) .nil))))))
  .nil)
  (.cons (.ite (.cmp .Eq (.loc 6) (.int 4))
  (.cons (.expr (.call (.glb 65) (.cons (.loc 1) (.cons (.int 1) .nil))))
  (.cons (.expr (.call (.glb 64) (.cons (.loc 1) (.cons (.tup (.cons (.int 16) (.cons (.int 1) .nil))) (.cons (.int 0) .nil)))))
  .nil))
  (.cons (.ite (.and_ (.cons (.cmp .Eq (.loc 6) (.int 3)) (.cons (.cmp .Gt (.sub (.loc 1) (.str "high")) (.bin .Add (.loc 3) (.int 1))) .nil)))
  (.cons (.expr (.call (.glb 64) (.cons (.loc 1) (.cons (.tup (.cons (.bin .Add (.int 106) (.bin .Mod (.loc 5) (.int 2))) .nil)) (.cons (.neg (.int 1)) .nil)))))
  .nil)
  (.cons (.ite (.and_ (.cons (.cmp .Eq (.loc 6) (.int 2)) (.cons (.cmp .Gt (.sub (.loc 1) (.str "high")) (.loc 3)) .nil)))
  (.cons (.expr (.call (.glb 64) (.cons (.loc 1) (.cons (.ifx (.cmp .Eq (.bin .Mod (.bin .FloorDiv (.loc 5) (.int 2)) (.int 2)) (.int 0)) (.tup (.cons (.int 33) (.cons (.bin .Mod (.loc 5) (.int 2)) .nil))) (.tup (.cons (.int 26) .nil))) (.cons (.neg (.int 1)) .nil)))))
  .nil)
  (.cons (.expr (.call (.glb 65) (.cons (.loc 1) (.cons (.bin .Add (.int 1) (.bin .Mod (.loc 5) (.int 2))) .nil))))
  .nil))
  .nil))
  .nil))
  .nil))
  .nil))
  .nil))))))
  .nil)
def Jl:Def where
 ps:=["run", "world"]
 dv:=[]
 ns:=["run", "world", "found", "outer", "labels", "inner", "base"]
 gs:=[47,11]
 body:=(.cons (.swp [2,3] (.tup (.cons (.lst .nil) (.cons (.sub (.att (.loc 0) 21) (.int 0)) .nil))))
  (.cons (.asg 4 (.call (.glb 47) (.cons (.comp ["label"] (.call (.glb 47) (.cons (.loc 0) .nil)) (.loc 0) (.sub (.sub (.loc 1) (.str "open")) (.att (.loc 3) 15))) .nil)))
  (.cons (.expr (.meth (.loc 2) 54 (.cons (.tup (.cons (.int 0) (.cons (.att (.loc 3) 15) (.cons (.call (.glb 47) (.cons (.att (.loc 3) 13) .nil)) (.cons (.loc 4) .nil))))) .nil)))
  (.cons (.ite (.cmp .Eq (.call (.glb 11) (.cons (.att (.loc 0) 21) .nil)) (.int 2))
  (.cons (.swp [5,6] (.tup (.cons (.sub (.att (.loc 0) 21) (.int 1)) (.cons (.bin .Sub (.sub (.sub (.loc 1) (.str "heights")) (.bin .Sub (.att (.loc 3) 15) (.int 1))) (.int 1)) .nil))))
  (.cons (.expr (.meth (.loc 2) 54 (.cons (.tup (.cons (.int 1) (.cons (.att (.loc 5) 15) (.cons (.call (.glb 47) (.cons (.att (.loc 5) 13) .nil)) (.cons (.tup (.cons (.tup (.cons (.int 3) (.cons (.int 1) (.cons (.loc 6) (.cons (.bool false) .nil))))) .nil)) .nil))))) .nil)))
  .nil))
  .nil)
  (.cons (.ret (.call (.glb 47) (.cons (.loc 2) .nil)))
  .nil)))))
def jm:Def where
 ps:=["script"]
 dv:=[]
 ns:=["script", "pen", "first", "world", "kinds", "store", "machine", "run", "many", "kept", "fault"]
 gs:=[68,66,67,64,11,44,72,73,74,47,75,54]
 body:=(.cons (.asg 1 (.lst (.cons (.loc 0) (.cons (.int 0) .nil))))
  (.cons (.asg 2 (.call (.glb 68) (.cons (.loc 1) .nil)))
  (.cons (.asg 3 (.dis ["body", "heights", "open", "high", "live", "left", "labels"] (.cons (.lst .nil) (.cons (.lst .nil) (.cons (.lst .nil) (.cons (.int 0) (.cons (.bool true) (.cons (.int 12) (.cons (.lst (.cons (.lst (.cons (.neg (.int 1)) (.cons (.int 1) (.cons (.int 0) (.cons (.bool false) .nil))))) .nil)) .nil)))))))))
  (.cons (.expr (.call (.glb 66) (.cons (.loc 1) (.cons (.loc 3) (.cons (.int 3) (.cons (.int 0) .nil))))))
  (.cons (.expr (.call (.glb 66) (.cons (.loc 1) (.cons (.loc 3) (.cons (.int 3) (.cons (.int 0) .nil))))))
  (.cons (.expr (.call (.glb 67) (.cons (.loc 3) (.cons (.int 0) (.cons (.int 1) .nil)))))
  (.cons (.expr (.call (.glb 64) (.cons (.loc 3) (.cons (.tup (.cons (.int 11) .nil)) (.cons (.int 0) .nil)))))
  (.cons (.ssub (.sub (.sub (.loc 3) (.str "labels")) (.int 0)) (.int 0) (.call (.glb 11) (.cons (.sub (.loc 3) (.str "body")) .nil)))
  (.gho (.cons (.asgC 4 ["takes", "gives"] (.tup (.cons (.bin .Mult (.tup (.cons (.neg (.int 1)) .nil)) (.loc 0)) (.cons (.bin .Mult (.tup (.cons (.neg (.int 1)) .nil)) (.loc 1)) .nil))) (.tup (.cons (.loc 0) (.cons (.loc 1) .nil))) (.comp ["k"] (.call (.glb 71) (.cons (.loc 0) (.cons (.int 3) .nil))) (.loc 0) (.call (.glb 44) (.cons (.int 9) .nil))))
  (.cons (.asg 5 (.call (.glb 72) (.cons (.loc 4) (.cons (.lst (.cons (.call (.glb 73) (.cons (.int 4) (.cons (.tup (.cons (.neg (.int 1)) .nil)) (.cons (.sub (.loc 3) (.str "body")) .nil)))) (.cons (.call (.glb 73) (.cons (.int 4) (.cons (.tup .nil) (.cons (.lst (.cons (.tup (.cons (.int 1) .nil)) (.cons (.tup (.cons (.int 32) (.cons (.int 0) .nil))) (.cons (.tup (.cons (.int 11) .nil)) .nil)))) .nil)))) .nil))) .nil))))
  (.cons (.asg 6 (.call (.glb 74) (.cons (.loc 5) (.cons (.int 120) (.cons (.int 3) .nil)))))
  (.gho (.cons (.swp [7,8] (.tup (.cons (.meth (.loc 6) 50 (.cons (.int 0) (.cons (.lst (.cons (.bin .Mod (.loc 2) (.int 4)) .nil)) .nil))) (.cons (.int 0) .nil))))
  (.cons (.whl (.not_ (.meth (.loc 7) 29 .nil))
  (.cons (.asg 9 (.meth (.loc 7) 28 .nil))
  (.cons (.ite (.or_ (.cons (.cmp .NotEq (.loc 9) (.tup (.cons (.call (.glb 47) (.cons (.att (.loc 7) 20) .nil)) (.cons (.call (.glb 75) (.cons (.loc 7) (.cons (.loc 3) .nil))) .nil)))) (.cons (.cmp .NotEq (.meth (.loc 7) 24 .nil) (.call (.glb 11) (.cons (.att (.loc 7) 21) .nil))) .nil)))
  (.cons (.ret (.bool false))
  .nil)
  .nil)
  (.cons (.ite (.and_ (.cons (.cmp .Eq (.call (.glb 11) (.cons (.att (.loc 7) 21) .nil)) (.int 1)) (.cons (.cmp .NotEq (.call (.glb 11) (.cons (.att (.loc 7) 20) .nil)) (.sub (.sub (.loc 3) (.str "heights")) (.att (.sub (.att (.loc 7) 21) (.int 0)) 15))) .nil)))
  (.cons (.ret (.bool false))
  .nil)
  .nil)
  (.cons (.try_ (.cons (.ite (.cmp .NotEq (.meth (.loc 7) 30 (.cons (.int 1) .nil)) (.int 1))
  (.cons (.ret (.bool false))
  .nil)
  .nil)
  .nil) 54 10
  (.cons (.ret (.and_ (.cons (.cmp .Eq (.xwhy (.loc 10)) (.str "fuel")) (.cons (.cmp .Eq (.loc 8) (.int 120)) (.cons (.cmp .Eq (.meth (.loc 7) 28 .nil) (.loc 9)) .nil)))))
  .nil))
  (.cons (.asg 8 (.bin .Add (.loc 8) (.int 1)))
  (.cons (.ite (.or_ (.cons (.cmp .NotEq (.att (.loc 6) 25) (.loc 8)) (.cons (.cmp .NotEq (.meth (.loc 6) 47 .nil) (.bin .Sub (.int 120) (.loc 8))) .nil)))
  (.cons (.ret (.bool false))
  .nil)
  .nil)
  .nil)))))))
  (.cons (.ret (.and_ (.cons (.cmp .Eq (.meth (.loc 7) 28 .nil) (.tup (.cons (.call (.glb 47) (.cons (.att (.loc 7) 20) .nil)) (.cons (.tup .nil) .nil)))) (.cons (.cmp .Eq (.call (.glb 11) (.cons (.att (.loc 7) 20) .nil)) (.int 1)) (.cons (.cmp .Eq (.meth (.loc 7) 24 .nil) (.int 0)) .nil)))))
  .nil))))))))))))))))
def dL:List (Nat×Def):=[(zB,KM),(f_add,d_add),(f_sub,d_sub),(zC,KN),(yU,JQ),(zF,KT),(Ji,QW),(zG,KU),(Jj,QY),(Kl,UZ),(Jk,QZ),(uR,yI),(yq,Jn),(zH,KW),(Km,Wa),(uX,yQ),(uc,wr),(uC,yw),(yp,Jm),(yt,Jo),(uw,zQ),(yu,Jp),(uS,yJ),(wM,zR),(wx,zg),(uo,wO),(uW,yO),(uT,yK),(uq,wP),(jI,zf),(jL,Jr),(qv,yx),(jV,yM),(jq,wQ),(qk,yP),(qw,yy),(jT,yz),(jO,ud),(uU,yL),(qd,wk),(uV,Jq),(yG,yN),(jJ,uY),(ug,wK),(ua,wn),(uf,wJ),(jW,uM),(ub,wq),(yW,JU),(wR,KO),(wT,KS),(wS,KR),(uu,JR),(yV,jz),(zD,KQ),(uP,KP),(uQ,Jl),(f_law,jm)]
def DAll (g:Gx)(A:Adr):List (Nat×Def)→Prop
 | []=>True
 | p::l=>ji g (mkR A) (A.fn p.1) p.2∧DAll g A l
theorem DAll.get {g:Gx}{A:Adr}:∀{l:List (Nat×Def)} {i:Nat} {p:Nat×Def},DAll g A l→l[i]? = some p→ji g (mkR A) (A.fn p.1) p.2
 | _::_,0,_,h,e=>by cases e;exact h.1
 | _::_,_+1,_,h,e=>DAll.get h.2 e
structure Core (g:Gx)(A:Adr):Prop where
 G:g.Ok
 Rk:RtOk g (mkR A)
 defs:DAll g A dL
section
variable {g:Gx}{A:Adr}(K:Core g A)
include K
theorem Core.k_unsigned:ji g (mkR A) (A.fn zB) KM:=DAll.get (i:=0) K.defs rfl
theorem Core.k_add:ji g (mkR A) (A.fn f_add) d_add:=DAll.get (i:=1) K.defs rfl
theorem Core.k_sub:ji g (mkR A) (A.fn f_sub) d_sub:=DAll.get (i:=2) K.defs rfl
theorem Core.k_place_in:ji g (mkR A) (A.fn zC) KN:=DAll.get (i:=3) K.defs rfl
theorem Core.k_narrow_of:ji g (mkR A) (A.fn yU) JQ:=DAll.get (i:=4) K.defs rfl
theorem Core.k_is_unary:ji g (mkR A) (A.fn zF) KT:=DAll.get (i:=5) K.defs rfl
theorem Core.k_reckon2:ji g (mkR A) (A.fn Ji) QW:=DAll.get (i:=6) K.defs rfl
theorem Core.k_is_block:ji g (mkR A) (A.fn zG) KU:=DAll.get (i:=7) K.defs rfl
theorem Core.k_matches:ji g (mkR A) (A.fn Jj) QY:=DAll.get (i:=8) K.defs rfl
theorem Core.k_is_ref:ji g (mkR A) (A.fn Kl) UZ:=DAll.get (i:=9) K.defs rfl
theorem Core.k_bits_of:ji g (mkR A) (A.fn Jk) QZ:=DAll.get (i:=10) K.defs rfl
theorem Core.k_default_value:ji g (mkR A) (A.fn uR) yI:=DAll.get (i:=11) K.defs rfl
theorem Core.k_block_kind:ji g (mkR A) (A.fn yq) Jn:=DAll.get (i:=12) K.defs rfl
theorem Core.k_does_fit:ji g (mkR A) (A.fn zH) KW:=DAll.get (i:=13) K.defs rfl
theorem Core.k_do_fit:ji g (mkR A) (A.fn Km) Wa:=DAll.get (i:=14) K.defs rfl
theorem Core.k_CoreFunc_init:ji g (mkR A) (A.fn uX) yQ:=DAll.get (i:=15) K.defs rfl
theorem Core.k_CoreInstance_init:ji g (mkR A) (A.fn uc) wr:=DAll.get (i:=16) K.defs rfl
theorem Core.k_CoreStore_init:ji g (mkR A) (A.fn uC) yw:=DAll.get (i:=17) K.defs rfl
theorem Core.k_core_store:ji g (mkR A) (A.fn yp) Jm:=DAll.get (i:=18) K.defs rfl
theorem Core.k_Label_init:ji g (mkR A) (A.fn yt) Jo:=DAll.get (i:=19) K.defs rfl
theorem Core.k_Label_plain:ji g (mkR A) (A.fn uw) zQ:=DAll.get (i:=20) K.defs rfl
theorem Core.k_Frame_init:ji g (mkR A) (A.fn yu) Jp:=DAll.get (i:=21) K.defs rfl
theorem Core.k_Frame_is_done:ji g (mkR A) (A.fn uS) yJ:=DAll.get (i:=22) K.defs rfl
theorem Core.k_Frame_plain:ji g (mkR A) (A.fn wM) zR:=DAll.get (i:=23) K.defs rfl
theorem Core.k_CoreRun_init:ji g (mkR A) (A.fn wx) zg:=DAll.get (i:=24) K.defs rfl
theorem Core.k_CoreRun_is_done:ji g (mkR A) (A.fn uo) wO:=DAll.get (i:=25) K.defs rfl
theorem Core.k_CoreRun_depth:ji g (mkR A) (A.fn uW) yO:=DAll.get (i:=26) K.defs rfl
theorem Core.k_CoreRun_plain:ji g (mkR A) (A.fn uT) yK:=DAll.get (i:=27) K.defs rfl
theorem Core.k_CoreRun_forward:ji g (mkR A) (A.fn uq) wP:=DAll.get (i:=28) K.defs rfl
theorem Core.k_CoreRun_step:ji g (mkR A) (A.fn jI) zf:=DAll.get (i:=29) K.defs rfl
theorem Core.k_CoreRun_do:ji g (mkR A) (A.fn jL) Jr:=DAll.get (i:=30) K.defs rfl
theorem Core.k_CoreRun_number:ji g (mkR A) (A.fn qv) yx:=DAll.get (i:=31) K.defs rfl
theorem Core.k_CoreRun_local:ji g (mkR A) (A.fn jV) yM:=DAll.get (i:=32) K.defs rfl
theorem Core.k_CoreRun_control:ji g (mkR A) (A.fn jq) wQ:=DAll.get (i:=33) K.defs rfl
theorem Core.k_CoreRun_begin:ji g (mkR A) (A.fn qk) yP:=DAll.get (i:=34) K.defs rfl
theorem Core.k_CoreRun_choose:ji g (mkR A) (A.fn qw) yy:=DAll.get (i:=35) K.defs rfl
theorem Core.k_CoreRun_branch:ji g (mkR A) (A.fn jT) yz:=DAll.get (i:=36) K.defs rfl
theorem Core.k_CoreRun_branch_by_table:ji g (mkR A) (A.fn jO) ud:=DAll.get (i:=37) K.defs rfl
theorem Core.k_CoreRun_lower:ji g (mkR A) (A.fn uU) yL:=DAll.get (i:=38) K.defs rfl
theorem Core.k_CoreRun_give_back:ji g (mkR A) (A.fn qd) wk:=DAll.get (i:=39) K.defs rfl
theorem Core.k_CoreRun_go:ji g (mkR A) (A.fn uV) Jq:=DAll.get (i:=40) K.defs rfl
theorem Core.k_CoreRun_enter:ji g (mkR A) (A.fn yG) yN:=DAll.get (i:=41) K.defs rfl
theorem Core.k_CoreRun_open_frame:ji g (mkR A) (A.fn jJ) uY:=DAll.get (i:=42) K.defs rfl
theorem Core.k_CoreMachine_init:ji g (mkR A) (A.fn ug) wK:=DAll.get (i:=43) K.defs rfl
theorem Core.k_CoreMachine_count:ji g (mkR A) (A.fn ua) wn:=DAll.get (i:=44) K.defs rfl
theorem Core.k_CoreMachine_left:ji g (mkR A) (A.fn uf) wJ:=DAll.get (i:=45) K.defs rfl
theorem Core.k_CoreMachine_matched:ji g (mkR A) (A.fn jW) uM:=DAll.get (i:=46) K.defs rfl
theorem Core.k_CoreMachine_begun:ji g (mkR A) (A.fn ub) wq:=DAll.get (i:=47) K.defs rfl
theorem Core.k_Func_init:ji g (mkR A) (A.fn yW) JU:=DAll.get (i:=48) K.defs rfl
theorem Core.k_law_next:ji g (mkR A) (A.fn wR) KO:=DAll.get (i:=49) K.defs rfl
theorem Core.k_law_emit:ji g (mkR A) (A.fn wT) KS:=DAll.get (i:=50) K.defs rfl
theorem Core.k_law_fill:ji g (mkR A) (A.fn wS) KR:=DAll.get (i:=51) K.defs rfl
theorem Core.k_law_close:ji g (mkR A) (A.fn uu) JR:=DAll.get (i:=52) K.defs rfl
theorem Core.k_law_block:ji g (mkR A) (A.fn yV) jz:=DAll.get (i:=53) K.defs rfl
theorem Core.k_law_jump:ji g (mkR A) (A.fn zD) KQ:=DAll.get (i:=54) K.defs rfl
theorem Core.k_law_list:ji g (mkR A) (A.fn uP) KP:=DAll.get (i:=55) K.defs rfl
theorem Core.k_law_frames:ji g (mkR A) (A.fn uQ) Jl:=DAll.get (i:=56) K.defs rfl
end
section
variable {g:Gx}{A:Adr}{H:Hp}{n:Nat}
structure Lb where
 t:Int
 a:Int
 h:Int
 lp:Bool
def Lb.v (A:Adr)(l:Lb):V:=.obj (A.cls ye) [.int l.t,.int l.a,.int l.h,.bool l.lp]
def Lb.p (l:Lb):V:=.tup [.int l.t,.int l.a,.int l.h,.bool l.lp]
theorem Ku (K:Core g A){t a h lp:V}{Q:V→Hp→Prop}(q:∀d,H d=none→Q (.ref d) (H.set d (.inst (A.cls ye) [t,a,h,lp]))):jb g ExF.none (n+2) (.ref (A.cls ye)) [t,a,h,lp] H Q:=by
 refine ui K.G K.Rk (R:=mkR A) (cid:=ye) (j:=yt) rfl fun d hd=>jk K.G K.Rk K.k_Label_init rfl fun f ok=>?_
 ac_rfl
 exact q d hd
theorem QB (K:Core g A){l:Lb}{Q:V→Hp→Prop}(q:Q l.p H):jb g ExF.none (n+1) (.ref (A.fn uw)) [l.v A] H Q:=by
 refine jk K.G K.Rk K.k_Label_plain rfl fun f ok=>?_
 unfold Lb.v
 ac_rfl
 exact q
theorem UG (K:Core g A){r s:Addr}{m st ah fs br:V}{xs:List V}{h k:Int}{Q:V→Hp→Prop}
  (hr:H r=some (.inst (A.cls jd) [m,st,ah,.ref s,fs,br])) (hs:H s=some (.list xs)) (hb:xs.length≤8000000) (h0:0≤h) (k0:0≤xs.length-k)
  (q:∀d,H d=none→Q .none ((H.set d (.list (xs.take h.toNat++xs.drop (xs.length-k).toNat))).set r (.inst (A.cls jd) [m,st,ah,.ref d,fs,br]))) :
  jb g ExF.none (n+1) (.ref (A.fn uU)) [.ref r,.int h,.int k] H Q:=by
 rw[← yY h0,← zZ k0]at q
 refine jb.weak (Q:=fun x H'=>x = .none∧∃d,H d=none∧((H.set d (.list (pick xs none (some h)++pick xs (some (xs.length-k)) none))).set r (.inst (A.cls jd) [m,st,ah,.ref d,fs,br])).Sub H') ?_ (fun x H' ⟨e,d,hd,z⟩=>⟨_,z,by rw[e];exact q d hd⟩)
 have h1:(pick xs none (some h)).length≤8000000:=Nat.le_trans (yf _ _) hb
 have h2:(pick xs (some (xs.length-k)) none).length≤8000000:=Nat.le_trans (yf _ _) hb
 refine jk K.G K.Rk K.k_CoreRun_lower rfl fun f ok=>?_
 ac_rfl
 exact⟨d_2,by assumption,by walk_at "sub"⟩
theorem yS (K:Core g A){x b:Int}{Q:V→Hp→Prop}(h0:0≤b)(h1:b≤64)(q:Q (.int (Builtin.bitAnd x (2 ^ b.toNat-1))) H):jb g ExF.none (n+1) (.ref (A.fn zB)) [.int x,.int b] H Q:=by
 refine jk K.G K.Rk K.k_unsigned rfl fun f ok=>?_
 have hb:(Builtin.Int.intBits 1:Int)+b≤2 ^ 27:=by
  have:Builtin.Int.intBits 1=1:=by decide
  rw[this];lia
 ac_rfl
 rw[Int.one_mul]
 exact q
theorem JN (K:Core g A){c a b m:Int}{Q:V→Hp→Prop}(q1:a≤c→c<a+m→Q (.tup [.int (c-a),.int 32]) H)(q2:¬(a≤c∧c<a+m)→b≤c→c<b+m→Q (.tup [.int (c-b),.int 64]) H)(q3:¬(a≤c∧c<a+m)→¬(b≤c∧c<b+m)→Q .none H) :
  jb g ExF.none (n+1) (.ref (A.fn zC)) [.int c,.int a,.int b,.int m] H Q:=by
 refine jk K.G K.Rk K.k_place_in rfl fun f ok=>?_
 ac_rfl
 all_goals first | exact q1 (by lia) (by lia) | exact q2 (by lia) (by lia) (by lia) | exact q3 (by lia) (by lia)
def u32 (x:Int):Int:=Builtin.bitAnd x 4294967295
theorem add_ok' (K:Core g A){x y:Int}{Q:V→Hp→Prop}(q:Q (.int (u32 (x+y))) H):jb g ExF.none (n+2) (.ref (A.fn f_add)) [.int x,.int y,.int 32] H Q:=by
 refine jk K.G K.Rk K.k_add rfl fun f ok=>?_
 ac_rfl
 exact yS K (by decide) (by decide) q
theorem sub_ok' (K:Core g A){x y:Int}{Q:V→Hp→Prop}(q:Q (.int (u32 (x-y))) H):jb g ExF.none (n+2) (.ref (A.fn f_sub)) [.int x,.int y,.int 32] H Q:=by
 refine jk K.G K.Rk K.k_sub rfl fun f ok=>?_
 ac_rfl
 exact yS K (by decide) (by decide) q
theorem zv (K:Core g A){r fs:Addr}{m st ah s br:V}{xs:List V}{Q:V→Hp→Prop}(hr:H r=some (.inst (A.cls jd) [m,st,ah,s,.ref fs,br]))(hs:H fs=some (.list xs))(q:Q (.bool (decide ((xs.length:Int)=0))) H) :
  jb g ExF.none (n+1) (.ref (A.fn uo)) [.ref r] H Q:=by
 refine jk K.G K.Rk K.k_CoreRun_is_done rfl fun f ok=>?_
 ac_rfl
 exact q
theorem wy (K:Core g A){r fs:Addr}{m st s br:V}{ah:Int}{xs:List V}{Q:V→Hp→Prop}(hr:H r=some (.inst (A.cls jd) [m,st,.int ah,s,.ref fs,br]))(hs:H fs=some (.list xs))(q:Q (.int (ah+xs.length)) H) :
  jb g ExF.none (n+1) (.ref (A.fn uW)) [.ref r] H Q:=by
 refine jk K.G K.Rk K.k_CoreRun_depth rfl fun f ok=>?_
 ac_rfl
 exact q
theorem yC (K:Core g A){f:Addr}{ad ins ar en el lo ba lb:V}{a:Int}{bd:List V}{Q:V→Hp→Prop}(hf:H f=some (.inst (A.cls jl) [ad,ins,.lst bd,ar,en,el,lo,ba,.int a,lb]))(q:Q (.bool (decide ((bd.length:Int)≤a))) H) :
  jb g ExF.none (n+1) (.ref (A.fn uS)) [.ref f] H Q:=by
 refine jk K.G K.Rk K.k_Frame_is_done rfl fun f ok=>?_
 ac_rfl
 exact q
theorem left_ok (K:Core g A){m:Addr}{st d pk ah kn:V}{fu sp:Int}{Q:V→Hp→Prop}(hm:H m=some (.inst (A.cls jg) [st,.int fu,d,.int sp,pk,ah,kn]))(q:Q (.int (fu-sp)) H) :
  jb g ExF.none (n+1) (.ref (A.fn uf)) [.ref m] H Q:=by
 refine jk K.G K.Rk K.k_CoreMachine_left rfl fun f ok=>?_
 ac_rfl
 exact q
theorem count_ok (K:Core g A){QX:Addr→V→Hp→Prop}{m:Addr}{st d pk ah kn:V}{fu sp:Int}{Q:V→Hp→Prop}(hm:H m=some (.inst (A.cls jg) [st,.int fu,d,.int sp,pk,ah,kn]))
  (hx:fu≤sp→QX (A.cls jG) (.str "fuel") H) (q:sp<fu→Q .none (H.set m (.inst (A.cls jg) [st,.int fu,d,.int (sp+1),pk,ah,kn]))) :
  jb g (jR g QX) (n+4) (.ref (A.fn ua)) [.ref m] H Q:=by
 refine Qx QX K.G K.Rk K.k_CoreMachine_count rfl fun f ok hh=>?_
 ac_rfl
 ·refine⟨QX,rfl,?_⟩
  ac_rfl
  exact⟨_,rfl,hx (by lia)⟩
 ·exact q (by lia)
theorem XT (K:Core g A){c:Int}{Q:V→Hp→Prop}(h:c<172)(q:Q .none H):jb g ExF.none (n+1) (.ref (A.fn yU)) [.int c] H Q:=by
 refine jk K.G K.Rk K.k_narrow_of rfl fun f ok=>?_
 ac_rfl
 all_goals first | exact q | lia
theorem Wp (K:Core g A){c:Int}{Q:V→Hp→Prop}(h:c=106∨c=107)(q:Q (.bool false) H):jb g ExF.none (n+9+3) (.ref (A.fn zF)) [.int c] H Q:=by
 refine jk K.G K.Rk K.k_is_unary rfl fun f ok=>?_
 ac_rfl
 refine JN K ?_ ?_ ?_<;>intros<;>first | (simp only[qE,qS]at *;lia) | skip
 ac_rfl
 refine XT K (by lia) ?_
 ac_rfl
 exact q
theorem Xe (K:Core g A){c x y:Int}{Q:V→Hp→Prop}(h:c=106∨c=107)(q:Q (.int (u32 (if c=106 then x+y else x-y))) H):jb g ExF.none (n+9+3) (.ref (A.fn Ji)) [.int c,.int x,.int y] H Q:=by
 refine jk K.G K.Rk K.k_reckon2 rfl fun f ok=>?_
 ac_rfl
 refine JN K ?_ ?_ ?_<;>intros<;>first | (simp only[qE,qS]at *;lia) | skip
 rcases h with rfl | rfl
 ·ac_rfl
  refine⟨f_add,rfl,?_⟩
  ac_rfl
  refine add_ok' K ?_
  ac_rfl
  exact q
 ·ac_rfl
  refine⟨f_sub,rfl,?_⟩
  ac_rfl
  refine sub_ok' K ?_
  ac_rfl
  exact q
theorem Je (K:Core g A){c:Int}{kvs:List (Int×V)}{Q:V→Hp→Prop}(hk:jU g (A.bd jv) (.i kvs))(h:getK kvs c=none)(q:Q (.bool false) H):jb g ExF.none (n+1) (.ref (A.fn Kl)) [.int c] H Q:=by
 refine jk K.G K.Rk K.k_is_ref rfl fun f ok=>?_
 ac_rfl
 rw[h]
 exact q
theorem yv (K:Core g A){c:Int}{kvs:List (Int×V)}{Q:V→Hp→Prop}(hk:jU g (A.bd jv) (.i kvs))(h:getK kvs c=none)(q:Q (.int 0) H):jb g ExF.none (n+3) (.ref (A.fn uR)) [.int c] H Q:=by
 refine jk K.G K.Rk K.k_default_value rfl fun f ok=>?_
 ac_rfl
 refine Je K hk h ?_
 ac_rfl
 exact q
theorem XS (K:Core g A){r s:Addr}{m st ah fs br:V}{xs:List V}{c x y:Int}{Q:V→Hp→Prop}(h:c=106∨c=107)
  (hr:H r=some (.inst (A.cls jd) [m,st,ah,.ref s,fs,br])) (hs:H s=some (.list (xs++[.int x]++[.int y]))) (hb:xs.length≤8000000)
  (q:Q .none (H.set s (.list (xs++[.int (u32 (if c=106 then x+y else x-y))])))) :
  jb g ExF.none (n+9+4) (.ref (A.fn qv)) [.ref r,.int c] H Q:=by
 have hb':(xs++[V.int x]).length≤8000001:=by rw[qC];simp;lia
 refine jk K.G K.Rk K.k_CoreRun_number rfl fun f ok=>?_
 ac_rfl
 refine Wp K h ?_
 ac_rfl
 refine Xe K h ?_
 ac_rfl
 rw[Hp.set_set,Hp.set_set]
 exact q
end
section
variable {g:Gx}{A:Adr}{H:Hp}{n:Nat}
section
variable {r s f l b e el:Addr}{m st ah fs br ad ins bd ar ba at_ lb:V}{xs:List V}{Q:V→Hp→Prop}
theorem KG (K:Core g A){ls:List V}{k:Int}{j:Nat}{y:V}
  (hr:H r=some (.inst (A.cls jd) [m,st,ah,.ref s,fs,br])) (hs:H s=some (.list xs)) (hb:xs.length≤8000000)
  (hf:H f=some (.inst (A.cls jl) [ad,ins,bd,ar,.ref e,.ref el,.ref l,ba,at_,lb])) (hl:H l=some (.list ls)) (hj:Idx k ls.length j) (hy:ls[j]? = some y)
  (q:Q .none (H.set s (.list (xs++[y])))):jb g ExF.none (n+1) (.ref (A.fn jV)) [.ref r,.ref f,.tup [.int 32,.int k]] H Q:=by
 refine jk K.G K.Rk K.k_CoreRun_local rfl fun f ok=>?_
 ac_rfl
 refine jt j hj hy ?_
 ac_rfl
 exact q
theorem Xj (K:Core g A){ls:List V}{k:Int}{j:Nat}{y:V}
  (hr:H r=some (.inst (A.cls jd) [m,st,ah,.ref s,fs,br])) (hs:H s=some (.list (xs++[y]))) (hb:xs.length≤8000000)
  (hf:H f=some (.inst (A.cls jl) [ad,ins,bd,ar,.ref e,.ref el,.ref l,ba,at_,lb])) (hl:H l=some (.list ls)) (hne:l≠s) (hj:Idx k ls.length j)
  (q:Q .none ((H.set s (.list xs)).set l (.list (ls.set j y)))):jb g ExF.none (n+1) (.ref (A.fn jV)) [.ref r,.ref f,.tup [.int 33,.int k]] H Q:=by
 refine jk K.G K.Rk K.k_CoreRun_local rfl fun f ok=>?_
 ac_rfl
 refine QH j (Jz hne hl) hj ?_
 ac_rfl
 exact q
theorem Xk (K:Core g A){y:V}
  (hr:H r=some (.inst (A.cls jd) [m,st,ah,.ref s,fs,br])) (hs:H s=some (.list (xs++[y]))) (hb:xs.length≤8000000)
  (q:Q .none (H.set s (.list xs))):jb g ExF.none (n+1) (.ref (A.fn jV)) [.ref r,.ref f,.tup [.int 26]] H Q:=by
 refine jk K.G K.Rk K.k_CoreRun_local rfl fun f ok=>?_
 ac_rfl
 exact q
end
theorem zT (K:Core g A){ks:List V}{t:Int}{j:Nat}{y:V}{Q:V→Hp→Prop}(h0:0≤t)(hj:Idx t ks.length j)(hy:ks[j]? = some y)(q:Q y H):jb g ExF.none (n+1) (.ref (A.fn yq)) [.lst ks,.int t] H Q:=by
 have h1:t<ks.length:=by rcases hj.2 with h | h<;>have:=hj.1<;>lia
 refine jk K.G K.Rk K.k_block_kind rfl fun f ok=>?_
 ac_rfl
 refine jt j hj hy ?_
 ac_rfl
 exact q
section
variable {r s f b e el:Addr}{m st ah fs br ad bd ar lo ba at_ fns:V}{xs labs ps rs ks:List V}{kvs:List (Int×V)}{here k:Int}{j:Nat}{Q:V→Hp→Prop}
theorem Uq (K:Core g A)
  (hr:H r=some (.inst (A.cls jd) [m,st,ah,.ref s,fs,br])) (hs:H s=some (.list xs))
  (hf:H f=some (.inst (A.cls jl) [ad,.obj (A.cls jc) [.lst ks,fns],bd,ar,.ref e,.ref el,lo,ba,at_,.ref b])) (hb:H b=some (.list labs)) (hbl:labs.length≤8000000)
  (h0:0≤k) (hj:Idx k ks.length j) (hy:ks[j]? = some (.tup [.tup ps,.tup rs]))
  (q:Q .none (H.set b (.list (labs++[Lb.v A ⟨here+1,ps.length,xs.length-ps.length,true⟩])))) :
  jb g ExF.still (n+6) (.ref (A.fn qk)) [.ref r,.ref f,.int here,.tup [.int 3,.int k]] H Q:=by
 refine jj K.G K.Rk K.k_CoreRun_begin rfl fun f ok hh=>?_
 ac_rfl
 refine(zT K h0 hj hy ?_).calm
 ac_rfl
 refine(Ku K fun d hd=>?_).calm
 ac_rfl
 refine⟨_,WQ hd (uH hb hd),?_⟩
 ac_rfl
 exact q
theorem wA (K:Core g A){c t:Int}(hc:c=2∨c=4)
  (hr:H r=some (.inst (A.cls jd) [m,st,ah,.ref s,fs,br])) (hs:H s=some (.list xs))
  (hf:H f=some (.inst (A.cls jl) [ad,.obj (A.cls jc) [.lst ks,fns],bd,ar,.ref e,.ref el,lo,ba,at_,.ref b])) (hb:H b=some (.list labs)) (hbl:labs.length≤8000000)
  (he:H e=some (.dict (.i kvs))) (hen:getK kvs here=some (.int t))
  (h0:0≤k) (hj:Idx k ks.length j) (hy:ks[j]? = some (.tup [.tup ps,.tup rs]))
  (q:Q .none (H.set b (.list (labs++[Lb.v A ⟨t+1,rs.length,xs.length-ps.length,false⟩])))) :
  jb g ExF.still (n+6) (.ref (A.fn qk)) [.ref r,.ref f,.int here,.tup [.int c,.int k]] H Q:=by
 have hc3:c≠3:=by lia
 refine jj K.G K.Rk K.k_CoreRun_begin rfl fun f ok hh=>?_
 ac_rfl
 refine(zT K h0 hj hy ?_).calm
 ac_rfl
 refine(Ku K fun d hd=>?_).calm
 ac_rfl
 refine⟨_,WQ hd (uH hb hd),?_⟩
 ac_rfl
 exact q
def optTo (eo:Option Int)(t:Int):Int:=match eo with | some u=>u+1 | none=>t
theorem Yp (K:Core g A){t x:Int}{ekv:List (Int×V)}{eo:Option Int}
  (hr:H r=some (.inst (A.cls jd) [m,st,ah,.ref s,fs,br])) (hs:H s=some (.list (xs++[.int x]))) (hxl:xs.length≤8000000)
  (hf:H f=some (.inst (A.cls jl) [ad,.obj (A.cls jc) [.lst ks,fns],bd,ar,.ref e,.ref el,lo,ba,at_,.ref b])) (hb:H b=some (.list labs)) (hbl:labs.length≤8000000) (hbs:b≠s)
  (he:H e=some (.dict (.i kvs))) (hel:H el=some (.dict (.i ekv))) (hen:getK kvs here=some (.int t)) (hek:getK ekv here=eo.map V.int)
  (h0:0≤k) (hj:Idx k ks.length j) (hy:ks[j]? = some (.tup [.tup ps,.tup rs]))
  (q1:x≠0→Q .none ((H.set s (.list xs)).set b (.list (labs++[Lb.v A ⟨t+1,rs.length,xs.length-ps.length,false⟩]))))
  (q2:x=0→Q .none (((H.set s (.list xs)).set b (.list (labs++[Lb.v A ⟨t+1,rs.length,xs.length-ps.length,false⟩]))).set f (.inst (A.cls jl) [ad,.obj (A.cls jc) [.lst ks,fns],bd,ar,.ref e,.ref el,lo,ba,.int (optTo eo t),.ref b]))) :
  jb g ExF.still (n+7) (.ref (A.fn qw)) [.ref r,.ref f,.int here,.tup [.int 4,.int k]] H Q:=by
 refine jj K.G K.Rk K.k_CoreRun_choose rfl fun F ok hh=>?_
 cases eo with
 | none=>
  change getK ekv here=none at hek
  ac_rfl
  run_tac Mine.Drv.call ``wA
  all_goals first | exact q1 (by simp_all) | exact q2 (by simp_all)
 | some u=>
  change getK ekv here=some (.int u)at hek
  ac_rfl
  run_tac Mine.Drv.call ``wA
  all_goals first | exact q1 (by simp_all) | exact q2 (by simp_all)
theorem Jt (K:Core g A){pre post:List Lb}{gl:Lb}{lab:Int}{ins:V}
  (hr:H r=some (.inst (A.cls jd) [m,st,ah,.ref s,fs,br])) (hs:H s=some (.list xs)) (hxl:xs.length≤8000000)
  (hf:H f=some (.inst (A.cls jl) [ad,ins,bd,ar,.ref e,.ref el,lo,ba,at_,.ref b])) (hb:H b=some (.list ((pre++gl::post).map (Lb.v A)))) (hbl:pre.length+post.length≤7000000) (hbs:b≠s)
  (hlab:lab=post.length) (h0:0≤gl.h) (h1:0≤gl.a) (h2:gl.a≤xs.length)
  (q:∀d d',H d=none→H d'=none→d≠d'→Q .none ((((H.set d (.list (xs.take gl.h.toNat++xs.drop (xs.length-gl.a).toNat))).set r (.inst (A.cls jd) [m,st,ah,.ref d,fs,br])).set d' (.list ((if gl.lp then pre++[gl]else pre).map (Lb.v A)))).set f (.inst (A.cls jl) [ad,ins,bd,ar,.ref e,.ref el,lo,ba,.int gl.t,.ref d']))) :
  jb g ExF.none (n+2) (.ref (A.fn jT)) [.ref r,.ref f,.int lab] H Q:=by
 refine jk K.G K.Rk K.k_CoreRun_branch rfl fun F ok=>?_
 have hlen:((pre++gl::post).map (Lb.v A)).length=pre.length+post.length+1:=by simp;lia
 have hj:Idx ((((pre++gl::post).map (Lb.v A)).length:Int)-1-lab) ((pre++gl::post).map (Lb.v A)).length pre.length:=⟨by lia,.inl (by lia)⟩
 have hy:((pre++gl::post).map (Lb.v A))[pre.length]? = some (gl.v A):=by simp
 ac_rfl
 refine jt pre.length hj hy ?_
 ac_rfl
 run_tac Mine.Drv.call ``UG
 ·have z:gl.lp=true:=by assumption
  rw[yY (by lia),show((((pre++gl::post).map (Lb.v A)).length:Int)-1-lab+1).toNat=pre.length+1 from by lia,← List.map_take,show(pre++gl::post).take (pre.length+1)=pre++[gl]from by rw[show pre++gl::post=(pre++[gl])++post from by simp,show pre.length+1=(pre++[gl]).length from by simp,List.take_left]]
  rw[show pre++[gl]=if gl.lp=true then pre++[gl]else pre from(if_pos z).symm]
  exact q _ _ (by assumption) (by assumption) (Ne.symm (by assumption))
 ·have z:¬gl.lp=true:=by assumption
  rw[yY (by lia),show((((pre++gl::post).map (Lb.v A)).length:Int)-1-lab).toNat=pre.length from by lia,← List.map_take,show(pre++gl::post).take pre.length=pre from by simp]
  rw[show pre=if gl.lp=true then pre++[gl]else pre from(if_neg z).symm]
  exact q _ _ (by assumption) (by assumption) (Ne.symm (by assumption))
theorem table_ok (K:Core g A){pre post:List Lb}{gl:Lb}{lab x:Int}{ins:V}
  (hr:H r=some (.inst (A.cls jd) [m,st,ah,.ref s,fs,br])) (hs:H s=some (.list (xs++[.int x]))) (hxl:xs.length≤8000000) (hx:0≤x)
  (hf:H f=some (.inst (A.cls jl) [ad,ins,bd,ar,.ref e,.ref el,lo,ba,at_,.ref b])) (hb:H b=some (.list ((pre++gl::post).map (Lb.v A)))) (hbl:pre.length+post.length≤7000000) (hbs:b≠s)
  (hlab:lab=post.length) (h0:0≤gl.h) (h1:0≤gl.a) (h2:gl.a≤xs.length)
  (q:∀d d',H d=none→H d'=none→d≠d'→Q .none (((((H.set s (.list xs)).set d (.list (xs.take gl.h.toNat++xs.drop (xs.length-gl.a).toNat))).set r (.inst (A.cls jd) [m,st,ah,.ref d,fs,br])).set d' (.list ((if gl.lp then pre++[gl]else pre).map (Lb.v A)))).set f (.inst (A.cls jl) [ad,ins,bd,ar,.ref e,.ref el,lo,ba,.int gl.t,.ref d']))) :
  jb g ExF.none (n+3) (.ref (A.fn jO)) [.ref r,.ref f,.tup [.int 14,.int lab,.int lab]] H Q:=by
 refine jk K.G K.Rk K.k_CoreRun_branch_by_table rfl fun F ok=>?_
 ac_rfl
 ·have h:x+1<3:=by assumption
  obtain rfl | rfl:x=0∨x=1:=by lia
  all_goals ac_rfl
  all_goals run_tac Mine.Drv.call ``Jt
  all_goals exact q _ _ (by assumption) (by assumption) (by assumption)
 ·run_tac Mine.Drv.call ``Jt
  all_goals exact q _ _ (by assumption) (by assumption) (by assumption)
theorem UO (K:Core g A){bdl:List V}{a bs:Int}{ins:V}
  (hr:H r=some (.inst (A.cls jd) [m,st,ah,.ref s,fs,br])) (hs:H s=some (.list xs)) (hxl:xs.length≤8000000)
  (hf:H f=some (.inst (A.cls jl) [ad,ins,.lst bdl,.int a,.ref e,.ref el,lo,.int bs,at_,.ref b]))
  (h0:0≤bs) (h1:0≤a) (h2:a≤xs.length)
  (q:∀d d',H d=none→H d'=none→d≠d'→Q .none ((((H.set d (.list (xs.take bs.toNat++xs.drop (xs.length-a).toNat))).set r (.inst (A.cls jd) [m,st,ah,.ref d,fs,br])).set d' (.list [])).set f (.inst (A.cls jl) [ad,ins,.lst bdl,.int a,.ref e,.ref el,lo,.int bs,.int bdl.length,.ref d']))) :
  jb g ExF.none (n+2) (.ref (A.fn qd)) [.ref r,.ref f] H Q:=by
 refine jk K.G K.Rk K.k_CoreRun_give_back rfl fun F ok=>?_
 ac_rfl
 run_tac Mine.Drv.call ``UG
 exact q _ _ (by assumption) (by assumption) (Ne.symm (by assumption))
end
end
section
variable {g:Gx}{A:Adr}{H:Hp}{n:Nat}
abbrev Op:=List Int
def opV (o:Op):V:=.tup (o.map .int)
structure Mt where
 ends:List (Int×V)
 elses:List (Int×V)
 opened:List Int
def Mt.step (m:Mt)(i:Int)(c:Int):Mt:=
 if c=2∨c=3∨c=4 then {m with opened:=m.opened++[i]}
 else if c=5 then(match m.opened.getLast? with | some b=>{m with elses:=putK m.elses b (.int i)} | none=>m)
 else if c=11 then(match m.opened.getLast? with
  | some b=>{ends:=(match getK m.elses b with | some (.int e)=>putK (putK m.ends b (.int i)) e (.int i) | _=>putK m.ends b (.int i)),elses:=m.elses,opened:=m.opened.dropLast}
  | none=>m)
 else m
def mtOf (ops:List Op):Nat→Mt
 | 0=>⟨[],[],[]⟩
 | k+1=>(mtOf ops k).step k ((ops.getD k []).headD 0)
theorem Qb {g:Gx}{f:Fx}{X:Ex}{H:Hp}{n:Nat}{a d:Addr}{is:List Int}{Q:V→Hp→Prop}(G:g.Ok)(ok:f.Ok g (n+9))(ha:H a=some (.list (is.map V.int)))(hd:H d=some (.list []))(q:Q (.bool (decide (is≠[]))) H):Cmp g f X .NotEq (.ref a) (.ref d) H Q:=by
 refine JV G ok (.list ha fun x hx=>?_) (.list hd fun x hx=>by cases hx) ?_
 ·obtain⟨i,_,rfl⟩:=qG.mp hx;trivial
 ·cases is with
  | nil=>exact q
  | cons i r=>exact q
theorem JO (K:Core g A){c:Int}{Q:V→Hp→Prop}(q:Q (.bool (decide (c=2∨c=3∨c=4))) H):jb g ExF.none (n+10) (.ref (A.fn zG)) [.int c] H Q:=by
 refine jk K.G K.Rk K.k_is_block rfl fun F ok=>?_
 ac_rfl
 have e:([2,3,4].any fun j=>decide (c=j))=decide (c=2∨c=3∨c=4):=by
  rw[Bool.eq_iff_iff];simp
 rw[← e]at q
 exact q
theorem yX (kvs:List (Int×V))(k:Int)(y:V):(putK kvs k y).length≤kvs.length+1:=Kb kvs k y
theorem Mt.le (ops:List Op):∀k,(mtOf ops k).ends.length≤2*k∧(mtOf ops k).elses.length≤k∧(mtOf ops k).opened.length≤k
 | 0=>⟨Nat.le_refl _,Nat.le_refl _,Nat.le_refl _⟩
 | k+1=>by
  obtain⟨a,b,c⟩:=Mt.le ops k
  show((mtOf ops k).step k _).ends.length≤_∧((mtOf ops k).step k _).elses.length≤_∧((mtOf ops k).step k _).opened.length≤_
  unfold Mt.step
  split
  ·refine⟨?_,?_,?_⟩<;>dsimp only<;>(try rw[qC])<;>(try simp only[qE,qS])<;>lia
  ·split
   ·split
    ·rename_i b' _
     have:=yX (mtOf ops k).elses b' (.int k)
     refine⟨?_,?_,?_⟩<;>dsimp only<;>lia
    ·refine⟨?_,?_,?_⟩<;>lia
   ·split
    ·split
     ·rename_i b' _
      have h1:=yX (mtOf ops k).ends b' (.int k)
      refine⟨?_,?_,?_⟩<;>dsimp only
      ·split
       ·rename_i e _
        have h2:=yX (putK (mtOf ops k).ends b' (.int k)) e (.int k)
        lia
       ·lia
      ·lia
      ·rw[List.length_dropLast];lia
     ·refine⟨?_,?_,?_⟩<;>lia
    ·refine⟨?_,?_,?_⟩<;>lia
def qr (ops:List Op)(k:Nat):Int:=(ops.getD k []).headD 0
theorem Xi (K:Core g A){ops:List Op}{Q:V→Hp→Prop}(hl:ops.length≤100000)(hop:∀o∈ops,o≠[])(h5:∀k,k<ops.length→qr ops k=5→(mtOf ops k).opened≠[])
  (hint:∀k b v,getK (mtOf ops k).elses b=some v→∃e,v = .int e)
  (q:∀d d',H d=none→H d'=none→d≠d'→Q (.tup [.ref d,.ref d']) ((H.set d (.dict (.i (mtOf ops ops.length).ends))).set d' (.dict (.i (mtOf ops ops.length).elses)))) :
  jb g ExF.still (n+12) (.ref (A.fn Jj)) [.lst (ops.map opV)] H Q:=by
 refine jb.weak (Q:=fun x H'=>∃d d',H d=none∧H d'=none∧d≠d'∧x = .tup [.ref d,.ref d']∧((H.set d (.dict (.i (mtOf ops ops.length).ends))).set d' (.dict (.i (mtOf ops ops.length).elses))).Sub H') ?_ (fun x H' ⟨d,d',a,b,c,e,z⟩=>⟨_,z,by rw[e];exact q d d' a b c⟩)
 refine jj K.G K.Rk K.k_matches rfl fun F ok hh=>?_
 ac_rfl
 refine⟨ops.map opV,.inl rfl,fun k σ H'=>∃a b c e,σ=[some (.lst (ops.map opV)),some (.ref d),some (.ref d_1),some (.ref d_2),a,b,c,e] ∧
  H'=((H.set d (.dict (.i (mtOf ops k).ends))).set d_1 (.dict (.i (mtOf ops k).elses))).set d_2 (.list ((mtOf ops k).opened.map V.int)),?_,?_,?_⟩
 ·exact⟨_,_,_,_,rfl,rfl⟩
 ·rintro σ H' ⟨a,b,c,e,rfl,rfl⟩ _
  rw[qD]
  ac_rfl
  exact⟨d,d_1,by assumption,by assumption,Ne.symm (by assumption),rfl,by walk_at "sub"⟩
 ·rintro k σ H' y hy ⟨a,b,c,e,rfl,rfl⟩ _
  have hk:k<ops.length:=by have:=(qF.mp hy).1;simpa using this
  have hst:mtOf ops (k+1)=(mtOf ops k).step k (qr ops k):=rfl
  obtain⟨le1,le2,le3⟩:=Mt.le ops k
  have h5k:=h5 k hk
  have hik:=hint k
  have hyc:∃r,y = .tup (.int (qr ops k)::r):=by
   rw[qV,qH hk]at hy
   cases hy
   have:=hop _ (List.getElem_mem hk)
   unfold qr
   rw[qP,qH hk]
   cases h:ops[k] with
   | nil=>exact absurd h this
   | cons c r=>exact⟨r.map .int,rfl⟩
  obtain⟨yr,rfl⟩:=hyc
  generalize qr ops k=c at *
  generalize hm:mtOf ops k=mk at *
  obtain⟨E,L,O⟩:=mk
  dsimp only at *
  have hO:O=[]∨∃O' b',O=O'++[b']:=by
   rcases List.eq_nil_or_concat O with h | ⟨O',b',h⟩
   ·exact .inl h
   ·exact .inr ⟨O',b',by rw[h,List.concat_eq_append]⟩
  rcases hO with rfl | ⟨O',b',rfl⟩
  ·have h5':c≠5:=fun z=>h5k z rfl
   ac_rfl
   run_tac Mine.Drv.call ``JO
   ·have hc:c=2∨c=3∨c=4:=by simpa using ‹decide _=true›
    refine⟨_,?_,⟨_,_,_,_,rfl,rfl⟩,.inl rfl⟩
    rw[hst]
    simp only[Mt.step,if_pos hc,List.nil_append,jA,List.map_nil]
    walk_at "sub"
   ·have hc:¬(c=2∨c=3∨c=4):=by have z:=‹¬decide _=true›;rwa [decide_eq_true_eq]at z
    refine Qb (is:=[]) (n:=n+2) K.G ok (by nofun) (by nofun) ?_
    ac_rfl
    refine⟨_,?_,⟨_,_,_,_,rfl,rfl⟩,.inl rfl⟩
    rw[hst]
    simp only[Mt.step,if_neg hc,if_neg h5',List.getLast?_nil,ite_self,List.map_nil]
    walk_at "sub"
   ·have hc:¬(c=2∨c=3∨c=4):=by have z:=‹¬decide _=true›;rwa [decide_eq_true_eq]at z
    refine⟨_,?_,⟨_,_,_,_,rfl,rfl⟩,.inl rfl⟩
    rw[hst]
    simp only[Mt.step,if_neg hc,if_neg h5',List.getLast?_nil,ite_self,List.map_nil]
    walk_at "sub"
  ·simp only[qI,jA,List.map_nil]
   have hj:Idx (-1) (O'.map V.int++[V.int b']).length (O'.map V.int).length:=⟨by simp,.inr ⟨by simp;lia,by decide⟩⟩
   have hy':(O'.map V.int++[V.int b'])[(O'.map V.int).length]? = some (.int b'):=by simp
   have le3':O'.length+1≤k:=by simpa using le3
   have hne':decide (O'++[b']≠[])=true:=by simp
   ac_rfl
   run_tac Mine.Drv.call ``JO
   ·have hc:c=2∨c=3∨c=4:=by simpa using ‹decide _=true›
    refine⟨_,?_,⟨_,_,_,_,rfl,rfl⟩,.inl rfl⟩
    rw[hst]
    simp only[Mt.step,if_pos hc,qI,jA,List.map_nil]
    walk_at "sub"
   ·have hc:¬(c=2∨c=3∨c=4):=by have z:=‹¬decide _=true›;rwa [decide_eq_true_eq]at z
    have hc5:c=5:=by assumption
    refine jt _ hj hy' ?_
    ac_rfl
    refine⟨_,?_,⟨_,_,_,_,rfl,rfl⟩,.inl rfl⟩
    rw[hst]
    simp only[Mt.step,if_neg hc,if_pos hc5,List.getLast?_concat,qI,jA,List.map_nil]
    walk_at "sub"
   ·have hc:¬(c=2∨c=3∨c=4):=by have z:=‹¬decide _=true›;rwa [decide_eq_true_eq]at z
    have hc11:c=11:=by assumption
    refine Qb (is:=O'++[b']) (n:=n+2) K.G ok (by rw[qI,jA,List.map_nil];nofun) (by nofun) ?_
    cases hg:getK L b' with
    | none=>
     have hg':(getK L b').isSome=false:=by rw[hg];rfl
     ac_rfl
     refine⟨_,?_,⟨_,_,_,_,rfl,rfl⟩,.inl rfl⟩
     rw[hst]
     simp only[Mt.step,hc11,List.getLast?_concat,hg,List.dropLast_concat]
     walk_at "sub"
    | some v=>
     obtain⟨e0,rfl⟩:=hik b' v hg
     have hg':(getK L b').isSome=true:=by rw[hg];rfl
     have le4:=yX E b' (.int k)
     ac_rfl
     refine⟨_,?_,⟨_,_,_,_,rfl,rfl⟩,.inl rfl⟩
     rw[hst]
     simp only[Mt.step,hc11,List.getLast?_concat,hg,List.dropLast_concat]
     walk_at "sub"
   ·have hc:¬(c=2∨c=3∨c=4):=by have z:=‹¬decide _=true›;rwa [decide_eq_true_eq]at z
    have hc11:c≠11:=by assumption
    have hc5:c≠5:=by assumption
    refine⟨_,?_,⟨_,_,_,_,rfl,rfl⟩,.inl rfl⟩
    rw[hst]
    simp only[Mt.step,if_neg hc,if_neg hc5,if_neg hc11,qI,jA,List.map_nil]
    walk_at "sub"
end
section
variable {g:Gx}{A:Adr}{H:Hp}{n:Nat}
section
variable {r s f l b e el:Addr}{m st ah fs br ad ins bd ar ba at_ lb lo here:V}{xs rest:List V}{c:Int}{Q:V→Hp→Prop}{XF:ExF g}
theorem do_num (K:Core g A)(hc:c=106∨c=107)(h:jb g ExF.still n (.ref (A.fn qv)) [.ref r,.int c] H (fun _ H'=>Q .none H'))(hr:H r=some (.inst (A.cls jd) [m,st,ah,.ref s,fs,br])) :
  jb g ExF.still (n+1) (.ref (A.fn jL)) [.ref r,.ref f,here,.tup (.int c::rest)] H Q:=by
 refine jj K.G K.Rk K.k_CoreRun_do rfl fun F ok hh=>?_
 ac_rfl
 refine h.mono fun x H' q=>?_
 ac_rfl
 exact q
theorem qy (K:Core g A)(hc:c≤16)(h:jb g ExF.still n (.ref (A.fn jq)) [.ref r,.ref f,here,.tup (.int c::rest)] H (fun _ H'=>Q .none H'))(hr:H r=some (.inst (A.cls jd) [m,st,ah,.ref s,fs,br])) :
  jb g ExF.still (n+1) (.ref (A.fn jL)) [.ref r,.ref f,here,.tup (.int c::rest)] H Q:=by
 refine jj K.G K.Rk K.k_CoreRun_do rfl fun F ok hh=>?_
 ac_rfl
 refine h.mono fun x H' q=>?_
 ac_rfl
 exact q
theorem KK (K:Core g A)(hc:26≤c)(hc':c≤34)(h:jb g ExF.still n (.ref (A.fn jV)) [.ref r,.ref f,.tup (.int c::rest)] H (fun _ H'=>Q .none H'))(hr:H r=some (.inst (A.cls jd) [m,st,ah,.ref s,fs,br])) :
  jb g ExF.still (n+1) (.ref (A.fn jL)) [.ref r,.ref f,here,.tup (.int c::rest)] H Q:=by
 refine jj K.G K.Rk K.k_CoreRun_do rfl fun F ok hh=>?_
 ac_rfl
 refine h.mono fun x H' q=>?_
 ac_rfl
 exact q
theorem do_const (K:Core g A){k:Int}(hr:H r=some (.inst (A.cls jd) [m,st,ah,.ref s,fs,br]))(hs:H s=some (.list xs))(hb:xs.length≤8000000)(q:Q .none (H.set s (.list (xs++[.int (u32 k)])))) :
  jb g ExF.still (n+2) (.ref (A.fn jL)) [.ref r,.ref f,here,.tup [.int 65,.int k]] H Q:=by
 refine jj K.G K.Rk K.k_CoreRun_do rfl fun F ok hh=>?_
 ac_rfl
 refine(yS K (by decide) (by decide) ?_).calm
 ac_rfl
 exact q
theorem WU (K:Core g A){lbs:List V}{y:V}(hf:H f=some (.inst (A.cls jl) [ad,ins,bd,ar,.ref e,.ref el,lo,ba,at_,.ref b]))(hb:H b=some (.list (lbs++[y])))(hl:lbs.length≤8000000)(q:Q .none (H.set b (.list lbs))) :
  jb g ExF.still (n+1) (.ref (A.fn jq)) [.ref r,.ref f,here,.tup (.int 11::rest)] H Q:=by
 refine jj K.G K.Rk K.k_CoreRun_control rfl fun F ok hh=>?_
 ac_rfl
 exact q
theorem ctl_br (K:Core g A){k:Int}(hr:H r=some (.inst (A.cls jd) [m,st,ah,.ref s,fs,br]))(h:jb g ExF.none n (.ref (A.fn jT)) [.ref r,.ref f,.int k] H (fun _ H'=>Q .none H')) :
  jb g ExF.still (n+1) (.ref (A.fn jq)) [.ref r,.ref f,here,.tup [.int 12,.int k]] H Q:=by
 refine jj K.G K.Rk K.k_CoreRun_control rfl fun F ok hh=>?_
 ac_rfl
 refine(h.mono fun x H' q=>?_).calm
 ac_rfl
 exact q
theorem ctl_brif (K:Core g A){k x:Int}(hr:H r=some (.inst (A.cls jd) [m,st,ah,.ref s,fs,br]))(hs:H s=some (.list (xs++[.int x])))(hxl:xs.length≤8000000)
  (h:x≠0→jb g ExF.none n (.ref (A.fn jT)) [.ref r,.ref f,.int k] (H.set s (.list xs)) (fun _ H'=>Q .none H')) (q:x=0→Q .none (H.set s (.list xs))) :
  jb g ExF.still (n+1) (.ref (A.fn jq)) [.ref r,.ref f,here,.tup [.int 13,.int k]] H Q:=by
 refine jj K.G K.Rk K.k_CoreRun_control rfl fun F ok hh=>?_
 ac_rfl
 ·refine((h (by assumption)).mono fun x H' q=>?_).calm
  ac_rfl
  exact q
 ·exact q (by have z:=‹¬x≠0›;simpa using z)
theorem Ua (K:Core g A)(hc:c=2∨c=3){k:Int}(hr:H r=some (.inst (A.cls jd) [m,st,ah,.ref s,fs,br]))(h:jb g ExF.still n (.ref (A.fn qk)) [.ref r,.ref f,here,.tup [.int c,.int k]] H (fun _ H'=>Q .none H')) :
  jb g ExF.still (n+1) (.ref (A.fn jq)) [.ref r,.ref f,here,.tup [.int c,.int k]] H Q:=by
 refine jj K.G K.Rk K.k_CoreRun_control rfl fun F ok hh=>?_
 ac_rfl
 all_goals
  refine h.mono fun x H' q=>?_
  ac_rfl
  exact q
theorem ctl_if (K:Core g A){k:Int}(hr:H r=some (.inst (A.cls jd) [m,st,ah,.ref s,fs,br]))(h:jb g ExF.still n (.ref (A.fn qw)) [.ref r,.ref f,here,.tup [.int 4,.int k]] H (fun _ H'=>Q .none H')) :
  jb g ExF.still (n+1) (.ref (A.fn jq)) [.ref r,.ref f,here,.tup [.int 4,.int k]] H Q:=by
 refine jj K.G K.Rk K.k_CoreRun_control rfl fun F ok hh=>?_
 ac_rfl
 refine h.mono fun x H' q=>?_
 ac_rfl
 exact q
theorem ctl_else (K:Core g A){hr' t:Int}{kvs:List (Int×V)}(hr:H r=some (.inst (A.cls jd) [m,st,ah,.ref s,fs,br]))(hf:H f=some (.inst (A.cls jl) [ad,ins,bd,ar,.ref e,.ref el,lo,ba,at_,.ref b]))(he:H e=some (.dict (.i kvs)))(hen:getK kvs hr'=some (.int t))
  (q:Q .none (H.set f (.inst (A.cls jl) [ad,ins,bd,ar,.ref e,.ref el,lo,ba,.int t,.ref b]))) :
  jb g ExF.still (n+1) (.ref (A.fn jq)) [.ref r,.ref f,.int hr',.tup (.int 5::rest)] H Q:=by
 refine jj K.G K.Rk K.k_CoreRun_control rfl fun F ok hh=>?_
 ac_rfl
 exact q
theorem Yo (K:Core g A){k:Int}(hr:H r=some (.inst (A.cls jd) [m,st,ah,.ref s,fs,br]))(h:jb g ExF.none n (.ref (A.fn jO)) [.ref r,.ref f,.tup [.int 14,.int k,.int k]] H (fun _ H'=>Q .none H')) :
  jb g ExF.still (n+1) (.ref (A.fn jq)) [.ref r,.ref f,here,.tup [.int 14,.int k,.int k]] H Q:=by
 refine jj K.G K.Rk K.k_CoreRun_control rfl fun F ok hh=>?_
 ac_rfl
 refine(h.mono fun x H' q=>?_).calm
 ac_rfl
 exact q
theorem ctl_ret (K:Core g A)(hr:H r=some (.inst (A.cls jd) [m,st,ah,.ref s,fs,br]))(h:jb g ExF.none n (.ref (A.fn qd)) [.ref r,.ref f] H (fun _ H'=>Q .none H')) :
  jb g ExF.still (n+1) (.ref (A.fn jq)) [.ref r,.ref f,here,.tup (.int 15::rest)] H Q:=by
 refine jj K.G K.Rk K.k_CoreRun_control rfl fun F ok hh=>?_
 ac_rfl
 refine(h.mono fun x H' q=>?_).calm
 ac_rfl
 exact q
theorem ctl_call (K:Core g A){k:Int}{j:Nat}{ks fns:List V}{y:V}(hr:H r=some (.inst (A.cls jd) [m,st,ah,.ref s,fs,br]))(hf:H f=some (.inst (A.cls jl) [ad,.obj (A.cls jc) [.lst ks,.lst fns],bd,ar,.ref e,.ref el,lo,ba,at_,.ref b]))(hj:Idx k fns.length j)(hy:fns[j]? = some y)
  (h:jb g ExF.still n (.ref (A.fn uV)) [.ref r,.ref f,y,.bool false] H (fun _ H'=>Q .none H')) :
  jb g ExF.still (n+1) (.ref (A.fn jq)) [.ref r,.ref f,here,.tup [.int 16,.int k]] H Q:=by
 refine jj K.G K.Rk K.k_CoreRun_control rfl fun F ok hh=>?_
 ac_rfl
 refine jt j hj hy ?_
 ac_rfl
 refine h.mono fun x H' q=>?_
 ac_rfl
 exact q
theorem go_ok (K:Core g A){ad':Int}(hr:H r=some (.inst (A.cls jd) [m,st,ah,.ref s,fs,br]))(h:jb g ExF.still n (.ref (A.fn jJ)) [.ref r,.int ad'] H (fun _ H'=>Q .none H')) :
  jb g ExF.still (n+2) (.ref (A.fn uV)) [.ref r,.ref f,.int ad',.bool false] H Q:=by
 refine jj K.G K.Rk K.k_CoreRun_go rfl fun F ok hh=>?_
 ac_rfl
 refine jj K.G K.Rk K.k_CoreRun_enter rfl fun F ok hh=>?_
 ac_rfl
 refine h.mono fun x H' q=>?_
 ac_rfl
 exact q
end
end
section
variable {g:Gx}{A:Adr}{H:Hp}{n:Nat}
def fnV (A:Adr)(kp kr:List V)(inst:V)(fk:V)(lk:List V)(body:List V):V:=.obj (A.cls jf) [.tup [.tup kp,.tup kr],inst,.obj (A.cls jo) [fk,.tup lk,.lst body]]
theorem Wg (K:Core g A){ad:V}{kp kr lk body:List V}{inst fk:V}{e el l:Addr}{bs:Int}{Q:V→Hp→Prop}
  (q:∀d5 b5,H d5=none→H b5=none→d5≠b5→Q (.ref d5) ((H.set b5 (.list [Lb.v A ⟨body.length,kr.length,bs,false⟩])).set d5 (.inst (A.cls jl) [ad,inst,.lst body,.int kr.length,.ref e,.ref el,.ref l,.int bs,.int 0,.ref b5]))) (hi:inst.plain=true) :
  jb g ExF.none (n+4) (.ref (A.cls jl)) [ad,fnV A kp kr inst fk lk body,.tup [.ref e,.ref el],.ref l,.int bs] H Q:=by
 refine jb.weak (Q:=fun x H'=>∃d b,H d=none∧H b=none∧d≠b∧x = .ref d∧((H.set b (.list [Lb.v A ⟨body.length,kr.length,bs,false⟩])).set d (.inst (A.cls jl) [ad,inst,.lst body,.int kr.length,.ref e,.ref el,.ref l,.int bs,.int 0,.ref b])).Sub H') ?_
  (fun x H' ⟨d,b,h1,h2,h3,h4,z⟩=>⟨_,z,by rw[h4];exact q d b h1 h2 h3⟩)
 refine ui K.G K.Rk (R:=mkR A) (cid:=jl) (j:=yu) rfl fun d hd=>jk K.G K.Rk K.k_Frame_init rfl fun f ok=>?_
 unfold fnV
 ac_rfl
 refine Ku K fun b hb=>?_
 ac_rfl
 refine⟨(H.set d_1 (.list [Lb.v A ⟨body.length,kr.length,bs,false⟩])).set d (.inst (A.cls jl) [ad,inst,.lst body,.int kr.length,.ref e,.ref el,.ref l,.int bs,.int 0,.ref d_1]),?_,?_⟩
 ·have hbd:b≠d:=(fun w=>by rw[w,zS]at hb;cases hb)
  refine .inst b (A.cls ye) [.int body.length,.int kr.length,.int bs,.bool false] (by nofun) fun c o' z=>?_
  by_cases h1:c=d
  ·subst h1
   rw[zS]at z;cases z
   exact⟨Ne.symm hbd,_,zS ..,.refl _⟩
  ·rw[zN _ _ h1]at z
   rw[zN _ _ h1]
   by_cases h2:c=d_1
   ·subst h2
    rw[zS]at z;cases z
    exact⟨hne,_,zS ..,.list (.cons .put .nil)⟩
   ·rw[zN _ _ h2]at z
    have h3:c≠b:=fun w=>by
     rw[zN _ _ hbd]at hb
     rw[w,hb]at z;cases z
    rw[zN _ _ h2,zN _ _ h3,zN _ _ h1]
    exact⟨h3,_,z,.refl _⟩
 ·ac_rfl
  exact⟨d,d_1,hd,by assumption,Ne.symm (by assumption),rfl,by walk_at "sub"⟩
end
section
variable {g:Gx}{A:Adr}{H:Hp}{n:Nat}
section
variable {κ:Type}[DecidableEq κ]
theorem UQ (j:κ):getK ([]:List (κ×V)) j=none:=rfl
theorem uL (p:κ×V)(l:List (κ×V))(j:κ):getK (p::l) j=if p.1=j then some p.2 else getK l j:=by
 unfold getK
 rw[List.find?_cons]
 by_cases h:p.1=j<;>simp[h]
theorem UR (k j:κ)(y:V):∀l:List (κ×V),getK (l.map fun p=>if p.1=k then(p.1,y)else p) j=if j=k then(if l.any (fun p=>decide (p.1=k))then some y else none)else getK l j
 | []=>by simp[UQ]
 | p::l=>by
  rw[jA,uL,UR k j y l,uL,List.any_cons]
  by_cases h:p.1=k
  ·by_cases h':j=k
   ·simp[h,h']
   ·have:¬k=j:=fun z=>h' z.symm
    simp[h,h',this]
  ·have e:decide (p.1=k)=false:=by simp[h]
   rw[if_neg h,e,Bool.false_or]
   by_cases h':j=k
   ·subst h';simp[h]
   ·simp[h']
theorem US (k j:κ)(y:V):∀l:List (κ×V),getK (l++[(k,y)]) j=(getK l j).or (if k=j then some y else none)
 | []=>by rw[List.nil_append,uL];simp[UQ]
 | p::l=>by
  rw[List.cons_append,uL,US k j y l,uL]
  by_cases h:p.1=j<;>simp[h]
theorem QQ (j:κ):∀l:List (κ×V),l.any (fun p=>decide (p.1=j))=false→getK l j=none
 | [],_=>rfl
 | p::l,h=>by
  rw[List.any_cons,Bool.or_eq_false_iff]at h
  rw[uL,if_neg (by simpa using h.1),QQ j l h.2]
theorem jy (l:List (κ×V))(k j:κ)(y:V):getK (putK l k y) j=if j=k then some y else getK l j:=by
 unfold putK
 split
 ·rename_i h
  rw[UR,if_pos h]
 ·rename_i h
  rw[US]
  by_cases h':j=k
  ·subst h'
   rw[QQ _ _ (Bool.eq_false_iff.mpr h)];simp
  ·have:¬k=j:=fun z=>h' z.symm
   simp[h',this]
theorem QP (l:List (κ×V))(k:κ)(y:V):getK (putK l k y) k=some y:=by rw[jy,if_pos rfl]
end
section
variable {m kn:Addr}{fu de sp pk ah:V}{KV:List (Int×V)}{fns:List V}{Q:V→Hp→Prop}
theorem Wk (K:Core g A){ad:Int}{y:V}(hm:H m=some (.inst (A.cls jg) [.obj (A.cls jh) [.lst fns],fu,de,sp,pk,ah,.ref kn]))(hk:H kn=some (.dict (.i KV)))(hy:getK KV ad=some y)(q:Q y H) :
  jb g ExF.none (n+1) (.ref (A.fn jW)) [.ref m,.int ad] H Q:=by
 refine jk K.G K.Rk K.k_CoreMachine_matched rfl fun F ok=>?_
 have hs:(getK KV ad).isSome=true:=by rw[hy];rfl
 ac_rfl
 exact q
theorem Wl (K:Core g A){ad:Int}{j:Nat}{kp kr lk:List V}{inst fk:V}{ops:List Op}(hm:H m=some (.inst (A.cls jg) [.obj (A.cls jh) [.lst fns],fu,de,sp,pk,ah,.ref kn]))(hk:H kn=some (.dict (.i KV)))(hy:getK KV ad=none)(hkl:KV.length≤1000)
  (hj:Idx ad fns.length j) (hf:fns[j]? = some (fnV A kp kr inst fk lk (ops.map opV)))
  (hl:ops.length≤100000) (hop:∀o∈ops,o≠[]) (h5:∀k,k<ops.length→qr ops k=5→(mtOf ops k).opened≠[])
  (hint:∀k b v,getK (mtOf ops k).elses b=some v→∃e,v = .int e)
  (q:∀d d',H d=none→H d'=none→d≠d'→Q (.tup [.ref d,.ref d']) (((H.set d (.dict (.i (mtOf ops ops.length).ends))).set d' (.dict (.i (mtOf ops ops.length).elses))).set kn (.dict (.i (putK KV ad (.tup [.ref d,.ref d'])))))) :
  jb g ExF.still (n+13) (.ref (A.fn jW)) [.ref m,.int ad] H Q:=by
 refine jj K.G K.Rk K.k_CoreMachine_matched rfl fun F ok hh=>?_
 have hs:(getK KV ad).isSome=false:=by rw[hy];rfl
 ac_rfl
 refine jt j hj hf ?_
 unfold fnV
 ac_rfl
 refine Xi K hl hop h5 hint fun d d' hd hd' hne=>?_
 ac_rfl
 refine wF (zS ..) (QP KV ad _) ?_
 ac_rfl
 exact q d d' hd hd' hne
end
end
section
variable {g:Gx}{A:Adr}{H:Hp}{n:Nat}
section
variable {bb:Bool}{r s fs m kn:Addr}{fu:V}{de sp pk:Int}{KV:List (Int×V)}{fns xs frs:List V}{Q:V→Hp→Prop}
theorem Qj (K:Core g A){ad:Int}{j:Nat}{kp kr body:List V}{inst fk:V}{lk:List Int}{hkv:List (Int×V)}{e el:Addr}
  (hr:H r=some (.inst (A.cls jd) [.ref m,.obj (A.cls jh) [.lst fns],.int 0,.ref s,.ref fs,.bool bb])) (hs:H s=some (.list xs)) (hf:H fs=some (.list frs))
  (hm:H m=some (.inst (A.cls jg) [.obj (A.cls jh) [.lst fns],fu,.int de,.int sp,.int pk,.int 0,.ref kn])) (hk:H kn=some (.dict (.i KV))) (hy:getK KV ad=some (.tup [.ref e,.ref el]))
  (hj:Idx ad fns.length j) (hfn:fns[j]? = some (fnV A kp kr inst fk (lk.map .int) body))
  (hb:jU g (A.bd jv) (.i hkv)) (hlk:∀c∈lk,getK hkv c=none) (hin:inst.plain=true)
  (hde:frs.length<de) (hkp:kp.length≤xs.length) (hxl:xs.length≤8000000) (hlkl:lk.length≤1000) (hfl:frs.length≤1000)
  (q:∀s' l b fr,H s'=none→H l=none→H b=none→H fr=none→s'≠l→s'≠b→s'≠fr→l≠b→l≠fr→b≠fr →
   Q .none (((((((H.set l (.list (xs.drop (xs.length-kp.length)++List.replicate lk.length (.int 0)))).set s' (.list (xs.take (xs.length-kp.length)))).set r
    (.inst (A.cls jd) [.ref m,.obj (A.cls jh) [.lst fns],.int 0,.ref s',.ref fs,.bool bb])).set b (.list [Lb.v A ⟨body.length,kr.length,xs.length-kp.length,false⟩])).set fr
    (.inst (A.cls jl) [.int ad,inst,.lst body,.int kr.length,.ref e,.ref el,.ref l,.int (xs.length-kp.length),.int 0,.ref b])).set fs (.list (frs++[.ref fr]))).set m
    (.inst (A.cls jg) [.obj (A.cls jh) [.lst fns],fu,.int de,.int sp,.int (max pk (frs.length+1)),.int 0,.ref kn]))) :
  jb g ExF.still (n+20) (.ref (A.fn jJ)) [.ref r,.int ad] H Q:=by
 refine jb.weak (Q:=fun x H'=>∃s' l b fr,H s'=none∧H l=none∧H b=none∧H fr=none∧s'≠l∧s'≠b∧s'≠fr∧l≠b∧l≠fr∧b≠fr∧x = .none∧(((((((H.set l (.list (xs.drop (xs.length-kp.length)++List.replicate lk.length (.int 0)))).set s' (.list (xs.take (xs.length-kp.length)))).set r
    (.inst (A.cls jd) [.ref m,.obj (A.cls jh) [.lst fns],.int 0,.ref s',.ref fs,.bool bb])).set b (.list [Lb.v A ⟨body.length,kr.length,xs.length-kp.length,false⟩])).set fr
    (.inst (A.cls jl) [.int ad,inst,.lst body,.int kr.length,.ref e,.ref el,.ref l,.int (xs.length-kp.length),.int 0,.ref b])).set fs (.list (frs++[.ref fr]))).set m
    (.inst (A.cls jg) [.obj (A.cls jh) [.lst fns],fu,.int de,.int sp,.int (max pk (frs.length+1)),.int 0,.ref kn])).Sub H') ?_
  (fun x H' hz=>by
   obtain⟨s',l,b,fr,h1,h2,h3,h4,h5,h6,h7,h8,h9,h10,e,z⟩:=hz
   exact⟨_,z,by rw[e];exact q s' l b fr h1 h2 h3 h4 h5 h6 h7 h8 h9 h10⟩)
 refine jj K.G K.Rk K.k_CoreRun_open_frame rfl fun F ok hh=>?_
 ac_rfl
 run_tac Mine.Drv.call ``wy
 refine jt j hj hfn ?_
 unfold fnV
 ac_rfl
 refine⟨lk.map .int,fun _=>True,.tup _,trivial,by rw[qD];lia,fun i ys H'=>ys=List.replicate i (.int 0)∧H'=H.set d (.list (pick xs (some (xs.length-kp.length)) none)),⟨rfl,rfl⟩,?_,?_⟩
 ·rintro ys H' a ⟨rfl,rfl⟩ ha
  obtain⟨ha',hna⟩:=uA ha
  rw[qD]
  have hpl:=yf (xs:=xs) (some (xs.length-kp.length)) none
  ac_rfl
  refine(Wk K (by nofun) (by nofun) hy ?_).calm
  ac_rfl
  refine(Wg K ?_ hin).calm
  ac_rfl
  refine(wy K (by nofun) (by nofun) ?_).calm
  ac_rfl
  have e1:pick xs none (some (xs.length-kp.length))=xs.take (xs.length-kp.length):=by rw[yY (by lia)];congr 1;lia
  have e2:pick xs (some (xs.length-kp.length)) none=xs.drop (xs.length-kp.length):=by rw[zZ (by lia)];congr 1;lia
  have e3:(if 0+((frs++[V.ref d5]).length:Int)>pk then 0+((frs++[V.ref d5]).length:Int)else pk)=max pk (frs.length+1):=by
   rw[qC,qE,qS];split<;>lia
  rw[e1,e2,e3]
  refine⟨d_2,d_1,b5,d5,?_,?_,?_,?_,?_,?_,?_,?_,?_,?_,rfl,?_⟩
  rotate_left 10
  ·run_tac Mine.Drv.hpsub
  all_goals run_tac Mine.Drv.hp
 ·rintro f' a C i y ys H' hy ⟨rfl,rfl⟩ _ ha hC hne hd
  obtain⟨c,hc,rfl⟩:∃c∈lk,y = .int c:=by
   have:=qW hy
   obtain⟨c,hc,rfl⟩:=qG.mp this
   exact⟨c,hc,rfl⟩
  ac_rfl
  refine(yv K hb (hlk c hc) ?_).calm
  ac_rfl
  exact⟨H.set d (.list (pick xs (some (xs.length-kp.length)) none)),_,rfl,fun _ _ z=>z,ha,hC,⟨List.replicate_succ'.symm,rfl⟩,trivial⟩
end
end
section
variable {g:Gx}{A:Adr}{H:Hp}{n:Nat}
section
variable {bb:Bool}{r s fs m kn:Addr}{fu:V}{de sp pk:Int}{KV:List (Int×V)}{fns xs frs:List V}{Q:V→Hp→Prop}
theorem yZ (K:Core g A){ad:Int}{j:Nat}{kp kr:List V}{inst fk:V}{lk:List Int}{ops:List Op}{hkv:List (Int×V)}
  (hr:H r=some (.inst (A.cls jd) [.ref m,.obj (A.cls jh) [.lst fns],.int 0,.ref s,.ref fs,.bool bb])) (hs:H s=some (.list xs)) (hf:H fs=some (.list frs))
  (hm:H m=some (.inst (A.cls jg) [.obj (A.cls jh) [.lst fns],fu,.int de,.int sp,.int pk,.int 0,.ref kn])) (hk:H kn=some (.dict (.i KV))) (hy:getK KV ad=none) (hkl:KV.length≤1000) (hl:ops.length≤100000) (hop:∀o∈ops,o≠[]) (h5:∀k,k<ops.length→qr ops k=5→(mtOf ops k).opened≠[]) (hint:∀k b v,getK (mtOf ops k).elses b=some v→∃e,v = .int e)
  (hj:Idx ad fns.length j) (hfn:fns[j]? = some (fnV A kp kr inst fk (lk.map .int) (ops.map opV)))
  (hb:jU g (A.bd jv) (.i hkv)) (hlk:∀c∈lk,getK hkv c=none) (hin:inst.plain=true)
  (hde:frs.length<de) (hkp:kp.length≤xs.length) (hxl:xs.length≤8000000) (hlkl:lk.length≤1000) (hfl:frs.length≤1000)
  (q:∀s' l b fr e el,H s'=none→H l=none→H b=none→H fr=none→H e=none→H el=none→s'≠l→s'≠b→s'≠fr→s'≠e→s'≠el→l≠b→l≠fr→l≠e→l≠el→b≠fr→b≠e→b≠el→fr≠e→fr≠el→e≠el →
   Q .none ((((((((((H.set e (.dict (.i (mtOf ops ops.length).ends))).set el (.dict (.i (mtOf ops ops.length).elses))).set kn (.dict (.i (putK KV ad (.tup [.ref e,.ref el]))))).set l (.list (xs.drop (xs.length-kp.length)++List.replicate lk.length (.int 0)))).set s' (.list (xs.take (xs.length-kp.length)))).set r
    (.inst (A.cls jd) [.ref m,.obj (A.cls jh) [.lst fns],.int 0,.ref s',.ref fs,.bool bb])).set b (.list [Lb.v A ⟨(ops.map opV).length,kr.length,xs.length-kp.length,false⟩])).set fr
    (.inst (A.cls jl) [.int ad,inst,.lst (ops.map opV),.int kr.length,.ref e,.ref el,.ref l,.int (xs.length-kp.length),.int 0,.ref b])).set fs (.list (frs++[.ref fr]))).set m
    (.inst (A.cls jg) [.obj (A.cls jh) [.lst fns],fu,.int de,.int sp,.int (max pk (frs.length+1)),.int 0,.ref kn]))) :
  jb g ExF.still (n+20) (.ref (A.fn jJ)) [.ref r,.int ad] H Q:=by
 refine jb.weak (Q:=fun x H'=>∃s' l b fr e el,H s'=none∧H l=none∧H b=none∧H fr=none∧H e=none∧H el=none∧s'≠l∧s'≠b∧s'≠fr∧s'≠e∧s'≠el∧l≠b∧l≠fr∧l≠e∧l≠el∧b≠fr∧b≠e∧b≠el∧fr≠e∧fr≠el∧e≠el∧x = .none∧((((((((((H.set e (.dict (.i (mtOf ops ops.length).ends))).set el (.dict (.i (mtOf ops ops.length).elses))).set kn (.dict (.i (putK KV ad (.tup [.ref e,.ref el]))))).set l (.list (xs.drop (xs.length-kp.length)++List.replicate lk.length (.int 0)))).set s' (.list (xs.take (xs.length-kp.length)))).set r
    (.inst (A.cls jd) [.ref m,.obj (A.cls jh) [.lst fns],.int 0,.ref s',.ref fs,.bool bb])).set b (.list [Lb.v A ⟨(ops.map opV).length,kr.length,xs.length-kp.length,false⟩])).set fr
    (.inst (A.cls jl) [.int ad,inst,.lst (ops.map opV),.int kr.length,.ref e,.ref el,.ref l,.int (xs.length-kp.length),.int 0,.ref b])).set fs (.list (frs++[.ref fr]))).set m
    (.inst (A.cls jg) [.obj (A.cls jh) [.lst fns],fu,.int de,.int sp,.int (max pk (frs.length+1)),.int 0,.ref kn])).Sub H') ?_
  (fun x H' hz=>by
   obtain⟨s',l,b,fr,e,el,h0,h1,h2,h3,h4,h5,h6,h7,h8,h9,h10,h11,h12,h13,h14,h15,h16,h17,h18,h19,h20,he,z⟩:=hz
   exact⟨_,z,by rw[he];exact q s' l b fr e el h0 h1 h2 h3 h4 h5 h6 h7 h8 h9 h10 h11 h12 h13 h14 h15 h16 h17 h18 h19 h20⟩)
 refine jj K.G K.Rk K.k_CoreRun_open_frame rfl fun F ok hh=>?_
 ac_rfl
 run_tac Mine.Drv.call ``wy
 refine jt j hj hfn ?_
 unfold fnV
 ac_rfl
 refine⟨lk.map .int,fun _=>True,.tup _,trivial,by rw[qD];lia,fun i ys H'=>ys=List.replicate i (.int 0)∧H'=H.set d (.list (pick xs (some (xs.length-kp.length)) none)),⟨rfl,rfl⟩,?_,?_⟩
 ·rintro ys H' a ⟨rfl,rfl⟩ ha
  obtain⟨ha',hna⟩:=uA ha
  rw[qD]
  have hpl:=yf (xs:=xs) (some (xs.length-kp.length)) none
  ac_rfl
  refine Wl K (by nofun) (by nofun) hy hkl hj hfn hl hop h5 hint ?_
  ac_rfl
  refine(Wg K ?_ hin).calm
  ac_rfl
  refine(wy K (by nofun) (by nofun) ?_).calm
  ac_rfl
  have e1:pick xs none (some (xs.length-kp.length))=xs.take (xs.length-kp.length):=by rw[yY (by lia)];congr 1;lia
  have e2:pick xs (some (xs.length-kp.length)) none=xs.drop (xs.length-kp.length):=by rw[zZ (by lia)];congr 1;lia
  have e3:(if 0+((frs++[V.ref d5]).length:Int)>pk then 0+((frs++[V.ref d5]).length:Int)else pk)=max pk (frs.length+1):=by
   rw[qC,qE,qS];split<;>lia
  rw[e1,e2,e3]
  refine⟨d_2,d_1,b5,d5,d_3,d',?_,?_,?_,?_,?_,?_,?_,?_,?_,?_,?_,?_,?_,?_,?_,?_,?_,?_,?_,?_,?_,rfl,?_⟩
  rotate_left 21
  ·run_tac Mine.Drv.hpsub
  all_goals run_tac Mine.Drv.hp
 ·rintro f' a C i y ys H' hy ⟨rfl,rfl⟩ _ ha hC hne hd
  obtain⟨c,hc,rfl⟩:∃c∈lk,y = .int c:=by
   have:=qW hy
   obtain⟨c,hc,rfl⟩:=qG.mp this
   exact⟨c,hc,rfl⟩
  ac_rfl
  refine(yv K hb (hlk c hc) ?_).calm
  ac_rfl
  exact⟨H.set d (.list (pick xs (some (xs.length-kp.length)) none)),_,rfl,fun _ _ z=>z,ha,hC,⟨List.replicate_succ'.symm,rfl⟩,trivial⟩
end
end
section
variable {g:Gx}{A:Adr}{H:Hp}{n:Nat}
theorem Hp.set_same {H:Hp}{a:Addr}{o:AO}(h:H a=some o):H.set a o=H:=funext fun b=>by
 by_cases e:b=a
 ·rw[e,zS,h]
 ·rw[zN _ _ e]
inductive Pops (A:Adr)(H:Hp):List V→List V→Prop
 | nil:Pops A H [] []
 | stay {lo:List V} {f:Addr} {ad ins ar e el l ba b:V} {at_:Int} {bd:List V}:H f=some (.inst (A.cls jl) [ad,ins,.lst bd,ar,e,el,l,ba,.int at_,b])→at_<bd.length→Pops A H (lo++[.ref f]) (lo++[.ref f])
 | pop {lo lo':List V} {f:Addr} {ad ins ar e el l ba b:V} {at_:Int} {bd:List V}:H f=some (.inst (A.cls jl) [ad,ins,.lst bd,ar,e,el,l,ba,.int at_,b])→(bd.length:Int)≤at_→Pops A H lo lo'→Pops A H (lo++[.ref f]) lo'
theorem Wy (K:Core g A){QX:Addr→V→Hp→Prop}{r s fs m f e el l b:Addr}{st de pk kn ad ins ar ba y:V}{fu sp at_:Int}{j:Nat}{bd lo:List V}{Q:V→Hp→Prop}
  (hr:H r=some (.inst (A.cls jd) [.ref m,st,.int 0,.ref s,.ref fs,.bool false])) (hst:st.plain=true) (hfs:H fs=some (.list (lo++[.ref f]))) (hlo:lo.length≤1000)
  (hm:H m=some (.inst (A.cls jg) [st,.int fu,de,.int sp,pk,.int 0,kn]))
  (hf:H f=some (.inst (A.cls jl) [ad,ins,.lst bd,ar,.ref e,.ref el,.ref l,ba,.int at_,.ref b])) (hj:Idx at_ bd.length j) (hy:bd[j]? = some y)
  (hx:fu≤sp→QX (A.cls jG) (.str "fuel") H)
  (hdo:sp<fu→jb g ExF.still (n+4) (.ref (A.fn jL)) [.ref r,.ref f,.int at_,y]
   (((H.set m (.inst (A.cls jg) [st,.int fu,de,.int (sp+1),pk,.int 0,kn])).set f (.inst (A.cls jl) [ad,ins,.lst bd,ar,.ref e,.ref el,.ref l,ba,.int (at_+1),.ref b])).set r (.inst (A.cls jd) [.ref m,st,.int 0,.ref s,.ref fs,.bool true]))
   (fun _ H'=>∃s' fl fl',H' r=some (.inst (A.cls jd) [.ref m,st,.int 0,.ref s',.ref fs,.bool true])∧H' fs=some (.list fl)∧fl.length≤1000∧Pops A H' fl fl' ∧
    Q .none ((H'.set r (.inst (A.cls jd) [.ref m,st,.int 0,.ref s',.ref fs,.bool false])).set fs (.list fl')))) :
  jb g (jR g QX) (n+5) (.ref (A.fn jI)) [.ref r] H Q:=by
 have hjj:Idx (-1) (lo++[V.ref f]).length lo.length:=⟨by simp,.inr ⟨by simp;lia,by decide⟩⟩
 have hyy:(lo++[V.ref f])[lo.length]? = some (.ref f):=by simp
 have hnd:decide (((lo++[V.ref f]).length:Int)=0)=false:=by simp;lia
 refine Qx QX K.G K.Rk K.k_CoreRun_step rfl fun F ok hh=>?_
 ac_rfl
 run_tac Mine.Drv.call ``zv
 refine count_ok K hm hx fun hlt=>?_
 ac_rfl
 refine jt _ hjj hyy ?_
 ac_rfl
 refine jt _ hj hy ?_
 ac_rfl
 refine jb.own (XF:=ExF.none) ((hdo hlt).mono ?_)
 rintro x H' ⟨s',fl,fl',h1,h2,h3,hp,q⟩
 ac_rfl
 have hrf:fs≠r:=by nofun
 refine⟨fun k σ H₂=>∃fl₁,k=fl₁.length∧σ=[some (.ref r),some (.ref f),some (.int at_),some y]∧H₂=(H'.set r (.inst (A.cls jd) [.ref m,st,.int 0,.ref s',.ref fs,.bool false])).set fs (.list fl₁)∧fl₁.length≤1000∧Pops A H' fl₁ fl',fl.length,⟨fl,rfl,rfl,(Hp.set_same ((zN _ _ hrf).trans h2)).symm,h3,hp⟩,?_⟩
 rintro k σ H₂ ⟨fl₁,rfl,rfl,rfl,h4,hp⟩
 cases hp with
 | nil=>
  ac_rfl
  exact q
 | stay hf' hlt'=>
  rename_i lo' f' ad' ins' ar' e' el' l' ba' b' at' bd'
  have hj':Idx (-1) (lo'++[V.ref f']).length lo'.length:=⟨by simp,.inr ⟨by simp;lia,by decide⟩⟩
  have hy':(lo'++[V.ref f'])[lo'.length]? = some (.ref f'):=by simp
  have hd':decide ((bd'.length:Int)≤at')=false:=by simp;lia
  ac_rfl
  refine jt _ hj' hy' ?_
  ac_rfl
  run_tac Mine.Drv.call ``yC
  exact q
 | pop hf' hle' hp'=>
  rename_i lo' f' ad' ins' ar' e' el' l' ba' b' at' bd'
  have hj':Idx (-1) (lo'++[V.ref f']).length lo'.length:=⟨by simp,.inr ⟨by simp;lia,by decide⟩⟩
  have hy':(lo'++[V.ref f'])[lo'.length]? = some (.ref f'):=by simp
  have hd':decide ((bd'.length:Int)≤at')=true:=by simp;lia
  have h4':lo'.length+1≤1000:=by simpa using h4
  ac_rfl
  refine jt _ hj' hy' ?_
  ac_rfl
  run_tac Mine.Drv.call ``yC
  exact⟨lo'.length,_,by simp,by rw[Hp.set_set];exact Hp.Sub.refl _,lo',rfl,rfl,rfl,by lia,hp'⟩
theorem Xr (K:Core g A){QX:Addr→V→Hp→Prop}{r fs s m:Addr}{st:V}{frs:List V}{Q:V→Hp→Prop}
  (hr:H r=some (.inst (A.cls jd) [.ref m,st,.int 0,.ref s,.ref fs,.bool false])) (hfs:H fs=some (.list frs)) (hne:frs≠[])
  (h:jb g (jR g QX) n (.ref (A.fn jI)) [.ref r] H (fun _ H'=>Q (.int 1) H'∧∃s' fs' br' m' st' ah' xs,H' r=some (.inst (A.cls jd) [m',st',ah',s',.ref fs',br'])∧H' fs'=some (.list xs))) :
  jb g (jR g QX) (n+1) (.ref (A.fn uq)) [.ref r,.int 1] H Q:=by
 have hnl:0<frs.length:=List.length_pos_iff.mpr hne
 refine Qx QX K.G K.Rk K.k_CoreRun_forward rfl fun F ok hh=>?_
 ac_rfl
 refine⟨fun k σ H₂=>(k=1∧σ=[some (.ref r),some (.int 1),some (.int 0)]∧H₂=H)∨(k=0∧σ=[some (.ref r),some (.int 1),some (.int 1)]∧Q (.int 1) H₂∧∃s' fs' br' m' st' ah' xs,H₂ r=some (.inst (A.cls jd) [m',st',ah',s',.ref fs',br'])∧H₂ fs'=some (.list xs)),1,.inl ⟨rfl,rfl,rfl⟩,?_⟩
 rintro k σ H₂ (⟨rfl,rfl,rfl⟩ | ⟨rfl,rfl,q,s',fs',br',m',st',ah',xs,h1,h2⟩)
 ·ac_rfl
  refine h.mono fun x H' q=>?_
  ac_rfl
  exact⟨0,_,by lia,Hp.Sub.refl _,.inr ⟨rfl,rfl,q⟩⟩
 ·ac_rfl
  all_goals exact q
end
section
variable {g:Gx}{A:Adr}{H:Hp}{n:Nat}
theorem QC (K:Core g A){f l b:Addr}{ad ins bd ar en el ba:V}{at_:Int}{ls:List V}{lbs:List Lb}{Q:V→Hp→Prop}
  (hf:H f=some (.inst (A.cls jl) [ad,ins,bd,ar,en,el,.ref l,ba,.int at_,.ref b])) (hl:H l=some (.list ls)) (hb:H b=some (.list (lbs.map (Lb.v A)))) (hlb:lbs.length≤100000) (hll:ls.length≤100000)
  (q:Q (.tup [ad,.int at_,.tup ls,.tup (lbs.map Lb.p)]) H) (had:ad.plain=true) :
  jb g ExF.none (n+4) (.ref (A.fn wM)) [.ref f] H Q:=by
 refine jb.pure (v:=.tup [ad,.int at_,.tup ls,.tup (lbs.map Lb.p)]) ?_ q
 refine jk K.G K.Rk K.k_Frame_plain rfl fun F ok=>?_
 ac_rfl
 refine⟨lbs.map (Lb.v A),_,.list _ _,.inr ⟨b,rfl,hb⟩,by rw[qD];lia,fun i ys H'=>ys=(lbs.take i).map Lb.p∧H'=H,⟨rfl,rfl⟩,?_,?_⟩
 ·rintro ys H' a ⟨rfl,rfl⟩ ha
  rw[qD,List.take_length]
  ac_rfl
  exact Hp.sub_set _ ha
 ·rintro f' a C i y ys H' hy ⟨rfl,rfl⟩ hL ha hC hne hd
  obtain⟨lb,hlb',rfl⟩:∃lb,lbs[i]? = some lb∧y=Lb.v A lb:=by
   rw[qV,Option.map_eq_some_iff]at hy
   obtain⟨lb,h1,h2⟩:=hy
   exact⟨lb,h1,h2.symm⟩
  have ht:(lbs.take i).map Lb.p++[lb.p]=(lbs.take (i+1)).map Lb.p:=by
   rw[List.take_add_one,hlb',qI];rfl
  unfold Lb.v
  ac_rfl
  refine⟨ye,uw,rfl,rfl,?_⟩
  ac_rfl
  refine QB K (l:=lb) ?_
  ac_rfl
  exact⟨_,_,rfl,Hp.Sub.refl _,ha,hC,⟨ht,rfl⟩,hL⟩
structure Fr where
 ad:V
 at_:Int
 ls:List V
 lbs:List Lb
def Fr.p (x:Fr):V:=.tup [x.ad,.int x.at_,.tup x.ls,.tup (x.lbs.map Lb.p)]
def Fr.at' (A:Adr)(H:Hp)(v:V)(x:Fr):Prop:=x.ad.plain=true∧x.lbs.length≤100000∧x.ls.length≤100000∧∃f l b ins bd ar en el ba,v = .ref f∧H f=some (.inst (A.cls jl) [x.ad,ins,bd,ar,en,el,.ref l,ba,.int x.at_,.ref b])∧H l=some (.list x.ls)∧H b=some (.list (x.lbs.map (Lb.v A)))
theorem uD (K:Core g A){r s fs:Addr}{m st ah br:V}{xs frs:List V}{xf:List Fr}{Q:V→Hp→Prop}
  (hr:H r=some (.inst (A.cls jd) [m,st,ah,.ref s,.ref fs,br])) (hs:H s=some (.list xs)) (hxl:xs.length≤8000000) (hfs:H fs=some (.list frs)) (hfl:frs.length≤1000)
  (hx:frs.length=xf.length) (hxf:∀(i:Nat) v x,frs[i]? = some v→xf[i]? = some x→Fr.at' A H v x)
  (q:Q (.tup [.tup xs,.tup (xf.map Fr.p)]) H) :
  jb g ExF.none (n+6) (.ref (A.fn uT)) [.ref r] H Q:=by
 refine jb.pure (v:=.tup [.tup xs,.tup (xf.map Fr.p)]) ?_ q
 refine jk K.G K.Rk K.k_CoreRun_plain rfl fun F ok=>?_
 ac_rfl
 refine⟨frs,_,.list _ _,.inr ⟨fs,rfl,hfs⟩,by lia,fun i ys H'=>ys=(xf.take i).map Fr.p∧H'=H,⟨rfl,rfl⟩,?_,?_⟩
 ·rintro ys H' a ⟨rfl,rfl⟩ ha
  rw[hx,List.take_length]
  ac_rfl
  exact Hp.sub_set _ ha
 ·rintro f' a C i y ys H' hy ⟨rfl,rfl⟩ hL ha hC hne hd
  obtain⟨x,hxi⟩:∃x,xf[i]? = some x:=by
   have:=(qF.mp hy).1
   exact⟨xf[i],qH (by lia)⟩
  have ht:(xf.take i).map Fr.p++[x.p]=(xf.take (i+1)).map Fr.p:=by
   rw[List.take_add_one,hxi,qI];rfl
  obtain⟨had,hlb,hll,f,l,b,ins,bd,ar,en,el,ba,rfl,hf,hl,hb⟩:=hxf i y x hy hxi
  ac_rfl
  refine QC K (by nofun) (by nofun) (by nofun) hlb hll ?_ had
  ac_rfl
  exact⟨_,_,rfl,Hp.Sub.refl _,ha,hC,⟨ht,rfl⟩,hL⟩
end
section
variable {g:Gx}{A:Adr}{H:Hp}{n:Nat}
theorem XD (K:Core g A){Q:V→Hp→Prop}(q:Q (.int 32) H):jb g ExF.none (n+1) (.ref (A.fn Jk)) [.int (-1)] H Q:=by
 refine jk K.G K.Rk K.k_bits_of rfl fun F ok=>?_
 ac_rfl
 exact q
theorem Wq (K:Core g A){v:Int}{kvs:List (Int×V)}{Q:V→Hp→Prop}(hk:jU g (A.bd jv) (.i kvs))(h:getK kvs (-1)=none)(h0:0≤v)(h1:v<4294967296)(q:Q (.bool true) H):jb g ExF.none (n+12) (.ref (A.fn zH)) [.int (-1),.int v] H Q:=by
 refine jk K.G K.Rk K.k_does_fit rfl fun F ok=>?_
 ac_rfl
 refine Je K hk h ?_
 ac_rfl
 refine Je K hk h ?_
 ac_rfl
 refine XD K ?_
 ac_rfl
 have e:decide (v<1*2 ^ Int.toNat 32)=true:=decide_eq_true (by rw[show(1*2 ^ Int.toNat 32:Int)=4294967296 from by decide];exact h1)
 rw[e]
 exact q
theorem Ym (K:Core g A){v:Int}{kvs:List (Int×V)}{l:Addr}{Q:V→Hp→Prop}(hk:jU g (A.bd jv) (.i kvs))(h:getK kvs (-1)=none)(h0:0≤v)(h1:v<4294967296)(hl:H l=some (.list [.int v]))(q:Q (.bool true) H):jb g ExF.still (n+13) (.ref (A.fn Km)) [.tup [.int (-1)],.ref l] H Q:=by
 refine jb.pure (v:=.bool true) ?_ q
 refine jj K.G K.Rk K.k_do_fit rfl fun F ok hh=>?_
 ac_rfl
 refine⟨.int (-1),.int v,l,rfl,hl,fun f' a C ha hC hne hd=>?_⟩
 ac_rfl
 refine(Wq K hk h h0 h1 ?_).calm
 ac_rfl
 refine⟨H,H,rfl,Hp.Sub.refl _,ha,hC,?_⟩
 ac_rfl
 refine⟨[true],rfl,?_⟩
 ac_rfl
 walk_at "sub"
end
section
variable {g:Gx}{A:Adr}{H:Hp}{n:Nat}
theorem Xa (K:Core g A){k l b:V}{Q:V→Hp→Prop}(q:∀f5,H f5=none→Q (.ref f5) (H.set f5 (.inst (A.cls jo) [k,l,b]))):jb g ExF.none (n+2) (.ref (A.cls jo)) [k,l,b] H Q:=by
 refine ui K.G K.Rk (R:=mkR A) (cid:=jo) (j:=yW) rfl fun d hd=>jk K.G K.Rk K.k_Func_init rfl fun f ok=>?_
 ac_rfl
 exact q d hd
theorem JX (K:Core g A){k l b:V}{Q:V→Hp→Prop}(q:∀c5,H c5=none→Q (.ref c5) (H.set c5 (.inst (A.cls jf) [k,l,b]))):jb g ExF.none (n+2) (.ref (A.cls jf)) [k,l,b] H Q:=by
 refine ui K.G K.Rk (R:=mkR A) (cid:=jf) (j:=uX) rfl fun d hd=>jk K.G K.Rk K.k_CoreFunc_init rfl fun f ok=>?_
 ac_rfl
 exact q d hd
theorem Qf (K:Core g A){k l:V}{Q:V→Hp→Prop}(q:∀i5,H i5=none→Q (.ref i5) (H.set i5 (.inst (A.cls jc) [k,l]))):jb g ExF.none (n+2) (.ref (A.cls jc)) [k,l] H Q:=by
 refine ui K.G K.Rk (R:=mkR A) (cid:=jc) (j:=uc) rfl fun d hd=>jk K.G K.Rk K.k_CoreInstance_init rfl fun f ok=>?_
 ac_rfl
 exact q d hd
theorem Wh (K:Core g A){Q:V→Hp→Prop}(q:∀s5 l5,H s5=none→H l5=none→l5≠s5→Q (.ref s5) ((H.set l5 (.list [])).set s5 (.inst (A.cls jh) [.ref l5]))):jb g ExF.none (n+2) (.ref (A.cls jh)) [] H Q:=by
 refine jb.weak (Q:=fun x H'=>∃d e,H d=none∧H e=none∧e≠d∧x = .ref d∧((H.set e (.list [])).set d (.inst (A.cls jh) [.ref e])).Sub H') ?_
  (fun x H' ⟨d,e,h1,h2,h3,h4,z⟩=>⟨_,z,by rw[h4];exact q d e h1 h2 h3⟩)
 refine ui K.G K.Rk (R:=mkR A) (cid:=jh) (j:=uC) rfl fun d hd=>jk K.G K.Rk K.k_CoreStore_init rfl fun f ok=>?_
 ac_rfl
 exact⟨d,d_1,hd,by assumption,by assumption,rfl,by walk_at "sub"⟩
theorem QD (K:Core g A){s f d:V}{Q:V→Hp→Prop}(q:∀m5 k5,H m5=none→H k5=none→k5≠m5→Q (.ref m5) ((H.set k5 (.dict (.i []))).set m5 (.inst (A.cls jg) [s,f,d,.int 0,.int 0,.int 0,.ref k5]))):jb g ExF.none (n+2) (.ref (A.cls jg)) [s,f,d] H Q:=by
 refine jb.weak (Q:=fun x H'=>∃m e,H m=none∧H e=none∧e≠m∧x = .ref m∧((H.set e (.dict (.i []))).set m (.inst (A.cls jg) [s,f,d,.int 0,.int 0,.int 0,.ref e])).Sub H') ?_
  (fun x H' ⟨d,e,h1,h2,h3,h4,z⟩=>⟨_,z,by rw[h4];exact q d e h1 h2 h3⟩)
 refine ui K.G K.Rk (R:=mkR A) (cid:=jg) (j:=ug) rfl fun m hm=>jk K.G K.Rk K.k_CoreMachine_init rfl fun f ok=>?_
 ac_rfl
 exact⟨m,d_1,hm,by assumption,by assumption,rfl,by walk_at "sub"⟩
end
section
variable {g:Gx}{A:Adr}{H:Hp}{n:Nat}
theorem jb.less {XF:ExF g}{fv:Value}{args:List V}{H':Hp}{Q:V→Hp→Prop}(s:H'.Sub H)(j:jb g XF n fv args H' Q):jb g XF n fv args H Q:=j.frz (.sub s)
theorem XE (K:Core g A){m l:Addr}{st fu de sp pk kn:V}{ad:Int}{vs:List V}{Q:V→Hp→Prop}(hm:H m=some (.inst (A.cls jg) [st,fu,de,sp,pk,.int 0,kn]))(hst:st.plain=true)(hl:H l=some (.list vs))(hvl:vs.length≤1000)
  (h:∀r s fs,H r=none→H s=none→H fs=none→r≠s→r≠fs→s≠fs→jb g ExF.still n (.ref (A.fn jJ)) [.ref r,.int ad]
   (((H.set s (.list vs)).set fs (.list [])).set r (.inst (A.cls jd) [.ref m,st,.int 0,.ref s,.ref fs,.bool false])) (fun _ H'=>Q (.ref r) H')) :
  jb g ExF.still (n+3) (.ref (A.cls jd)) [.ref m,.int ad,.ref l] H Q:=by
 refine ui K.G K.Rk (R:=mkR A) (cid:=jd) (j:=wx) rfl fun r hr=>jj K.G K.Rk K.k_CoreRun_init rfl fun f ok hh=>?_
 ac_rfl
 refine jj K.G K.Rk K.k_CoreRun_enter rfl fun F ok hh=>?_
 ac_rfl
 refine jb.less ?_ ((h r d d_1 hr (by nofun) (by nofun) (Ne.symm (by nofun)) (Ne.symm (by nofun)) (Ne.symm (by nofun))).mono fun x H' q=>?_)
 ·walk_at "sub"
 ·ac_rfl
  exact q
theorem begun_ok (K:Core g A){m l:Addr}{fns kp kr body:List V}{inst fk lk fu de sp pk kn:V}{hkv:List (Int×V)}{ad v:Int}{j:Nat}{Q:V→Hp→Prop}(hm:H m=some (.inst (A.cls jg) [.obj (A.cls jh) [.lst fns],fu,de,sp,pk,.int 0,kn]))(hl:H l=some (.list [.int v]))
  (hj:Idx ad fns.length j) (hfn:fns[j]? = some (.obj (A.cls jf) [.tup [.tup [.int (-1)],.tup kr],inst,fk])) (h0:0≤ad) (h1:ad<fns.length)
  (hk:jU g (A.bd jv) (.i hkv)) (hn:getK hkv (-1)=none) (h2:0≤v) (h3:v<4294967296)
  (h:jb g ExF.still (n+13) (.ref (A.cls jd)) [.ref m,.int ad,.ref l] H Q) :
  jb g ExF.still (n+14) (.ref (A.fn ub)) [.ref m,.int ad,.ref l] H Q:=by
 refine jj K.G K.Rk K.k_CoreMachine_begun rfl fun F ok hh=>?_
 ac_rfl
 refine jt j hj hfn ?_
 ac_rfl
 refine Ym K hk hn h2 h3 hl ?_
 ac_rfl
 refine h.mono fun x H' q=>?_
 ac_rfl
 exact q
end
section
variable {g:Gx}{A:Adr}{H:Hp}{n:Nat}
theorem Un (K:Core g A){kl l a b:Addr}{ks:List V}{kd la ba lb bb:V}{Q:V→Hp→Prop}(hkl:H kl=some (.list ks))(hks:ks[4]? = some kd)(hl:H l=some (.list [.ref a,.ref b]))
  (ha:H a=some (.inst (A.cls jo) [.int 4,la,ba])) (hb:H b=some (.inst (A.cls jo) [.int 4,lb,bb]))
  (q:∀s sl i fl c d,H s=none→H sl=none→H i=none→H fl=none→H c=none→H d=none→s≠sl→s≠i→s≠fl→s≠c→s≠d→sl≠i→sl≠fl→sl≠c→sl≠d→i≠fl→i≠c→i≠d→fl≠c→fl≠d→c≠d →
   Q (.ref s) ((((((H.set fl (.list [.int 0,.int 1])).set i (.inst (A.cls jc) [.ref kl,.ref fl])).set c (.inst (A.cls jf) [kd,.ref i,.ref a])).set d (.inst (A.cls jf) [kd,.ref i,.ref b])).set sl (.list [.ref c,.ref d])).set s (.inst (A.cls jh) [.ref sl]))) :
  jb g ExF.still (n+6) (.ref (A.fn yp)) [.ref kl,.ref l] H Q:=by
 refine jb.weak (Q:=fun x H'=>∃s sl i fl c d,H s=none∧H sl=none∧H i=none∧H fl=none∧H c=none∧H d=none∧s≠sl∧s≠i∧s≠fl∧s≠c∧s≠d∧sl≠i∧sl≠fl∧sl≠c∧sl≠d∧i≠fl∧i≠c∧i≠d∧fl≠c∧fl≠d∧c≠d∧x = .ref s ∧
   ((((((H.set fl (.list [.int 0,.int 1])).set i (.inst (A.cls jc) [.ref kl,.ref fl])).set c (.inst (A.cls jf) [kd,.ref i,.ref a])).set d (.inst (A.cls jf) [kd,.ref i,.ref b])).set sl (.list [.ref c,.ref d])).set s (.inst (A.cls jh) [.ref sl])).Sub H') ?_
  (fun x H' hz=>by
   obtain⟨s,sl,i,fl,c,d,h1,h2,h3,h4,h5,h6,n1,n2,n3,n4,n5,n6,n7,n8,n9,n10,n11,n12,n13,n14,n15,e,z⟩:=hz
   exact⟨_,z,by rw[e];exact q s sl i fl c d h1 h2 h3 h4 h5 h6 n1 n2 n3 n4 n5 n6 n7 n8 n9 n10 n11 n12 n13 n14 n15⟩)
 have hj:Idx 4 ks.length 4:=⟨(qF.mp hks).1,.inl rfl⟩
 refine jj K.G K.Rk K.k_core_store rfl fun F ok hh=>?_
 ac_rfl
 refine(Wh K ?_).calm
 ac_rfl
 refine(Qf K ?_).calm
 ac_rfl
 refine⟨(((H.set l5 (.list [])).set s5 (.inst (A.cls jh) [.ref l5])).set d (.list [.int 0,.int 1])).set i5 (.inst (A.cls jc) [.ref kl,.ref d]),.sub (Hp.Sub.refl _),?_⟩
 ac_rfl
 refine⟨[.ref a,.ref b],_,.list _ _,.inr ⟨l,rfl,by nofun⟩,fun k σ H'=>(k=0∧∃y,σ=[some (.ref kl),some (.ref l),some (.ref s5),some (.ref i5),y]∧H'=((((H.set l5 (.list [])).set s5 (.inst (A.cls jh) [.ref l5])).set d (.list [.int 0,.int 1])).set i5 (.inst (A.cls jc) [.ref kl,.ref d]))) ∨
  (k=1∧∃c y,H c=none∧c≠l5∧c≠s5∧c≠d∧c≠i5∧σ=[some (.ref kl),some (.ref l),some (.ref s5),some (.ref i5),y]∧H'=(((((H.set l5 (.list [])).set s5 (.inst (A.cls jh) [.ref l5])).set d (.list [.int 0,.int 1])).set i5 (.inst (A.cls jc) [.ref kl,.ref d])).set c (.inst (A.cls jf) [kd,.ref i5,.ref a])).set l5 (.list [.ref c])) ∨
  (k=2∧∃c c' y,H c=none∧H c'=none∧c≠l5∧c≠s5∧c≠d∧c≠i5∧c'≠l5∧c'≠s5∧c'≠d∧c'≠i5∧c'≠c∧σ=[some (.ref kl),some (.ref l),some (.ref s5),some (.ref i5),y]∧H'=((((((H.set l5 (.list [])).set s5 (.inst (A.cls jh) [.ref l5])).set d (.list [.int 0,.int 1])).set i5 (.inst (A.cls jc) [.ref kl,.ref d])).set c (.inst (A.cls jf) [kd,.ref i5,.ref a])).set c' (.inst (A.cls jf) [kd,.ref i5,.ref b])).set l5 (.list [.ref c,.ref c'])),?_,?_,?_⟩
 ·exact .inl ⟨rfl,_,rfl,rfl⟩
 ·rintro σ H' (⟨h,_⟩ | ⟨h,_⟩ | ⟨_,c,c',y,h1,h2,n1,n2,n3,n4,m1,m2,m3,m4,m5,rfl,rfl⟩) _
  ·simp at h
  ·simp at h
  ·ac_rfl
   refine⟨s5,l5,i5,d,c,c',?_,?_,?_,?_,?_,?_,?_,?_,?_,?_,?_,?_,?_,?_,?_,?_,?_,?_,?_,?_,?_,rfl,?_⟩
   rotate_left 21
   ·walk_at "sub"
   all_goals nofun
 ·rintro k σ H' y hy (⟨rfl,y0,rfl,rfl⟩ | ⟨rfl,c,y0,h1,n1,n2,n3,n4,rfl,rfl⟩ | ⟨rfl,_⟩) _
  ·cases hy
   ac_rfl
   refine jt 4 hj hks ?_
   ac_rfl
   refine(JX K ?_).calm
   ac_rfl
   refine⟨_,.sub (Hp.Sub.refl _),?_⟩
   ac_rfl
   exact⟨(((((H.set l5 (.list [])).set s5 (.inst (A.cls jh) [.ref l5])).set d (.list [.int 0,.int 1])).set i5 (.inst (A.cls jc) [.ref kl,.ref d])).set c5 (.inst (A.cls jf) [kd,.ref i5,.ref a])).set l5 (.list [.ref c5]),by walk_at "sub",.inr (.inl ⟨rfl,c5,_,by nofun,by nofun,by nofun,by nofun,by nofun,rfl,rfl⟩),.inr ⟨l,rfl,by nofun⟩⟩
  ·cases hy
   ac_rfl
   refine jt 4 hj hks ?_
   ac_rfl
   refine(JX K ?_).calm
   ac_rfl
   refine⟨_,.sub (Hp.Sub.refl _),?_⟩
   ac_rfl
   exact⟨((((((H.set l5 (.list [])).set s5 (.inst (A.cls jh) [.ref l5])).set d (.list [.int 0,.int 1])).set i5 (.inst (A.cls jc) [.ref kl,.ref d])).set c (.inst (A.cls jf) [kd,.ref i5,.ref a])).set c5 (.inst (A.cls jf) [kd,.ref i5,.ref b])).set l5 (.list [.ref c,.ref c5]),by walk_at "sub",.inr (.inr ⟨rfl,c,c5,_,by nofun,by nofun,by nofun,by nofun,by nofun,by nofun,by nofun,by nofun,by nofun,by nofun,by nofun,rfl,rfl⟩),.inr ⟨l,rfl,by nofun⟩⟩
  ·simp at hy
end
section
variable {g:Gx}{A:Adr}{H:Hp}{n:Nat}
theorem WD (K:Core g A){p:Addr}{sc:List Int}{k:Nat}{Q:V→Hp→Prop}(hp:H p=some (.list [.lst (sc.map .int),.int k]))(hk:k≤1000000)
  (q:∀r:Int,0≤r→Q (.int r) (H.set p (.list [.lst (sc.map .int),.int ((k+1:Nat):Int)]))):jb g ExF.none (n+1) (.ref (A.fn wR)) [.ref p] H Q:=by
 have key:∀y:Int,Q (.int (if y<0 then -y else y)) (H.set p (.list [.lst (sc.map .int),.int ((k+1:Nat):Int)])):=fun y=>q _ (by split<;>lia)
 have hm:IntMulOk 29 (k:Int):=.of_le (m:=5) (n:=64) (intBits_le_iff.mpr (by decide)) (intBits_cast_le (by rw[sizeLine_eq];lia)) (by decide)
 refine jk K.G K.Rk K.k_law_next rfl fun F ok=>?_
 ac_rfl
 ·have hlt:k<sc.length:=by have:=‹(k:Int)<_›;simpa using this
  refine jt (y:=.int sc[k]) k ⟨by simpa using hlt,.inl rfl⟩ (by rw[qV,qH hlt];rfl) ?_
  ac_rfl
  exact key _
 ·exact key _
structure WA where
 w:Addr
 b:Addr
 hh:Addr
 o:Addr
 ls:Addr
 p:Addr
structure Wd where
 body:List Op
 hts:List Int
 opens:List (List Addr)
 high:Int
 live:Bool
 left:Nat
 pen:Nat
 labs:List Addr
 lab:Addr→Option Lb
def Lb.l (l:Lb):List V:=[.int l.t,.int l.a,.int l.h,.bool l.lp]
def snapV (l:List Addr):V:=.lst (l.map .ref)
structure WAt (P:WA)(sc:List Int)(W:Wd)(H:Hp):Prop where
 hw:H P.w=some (.dict (.s [("body",.ref P.b),("heights",.ref P.hh),("open",.ref P.o),("high",.int W.high),("live",.bool W.live),("left",.int W.left),("labels",.ref P.ls)]))
 hb:H P.b=some (.list (W.body.map opV))
 hh:H P.hh=some (.list (W.hts.map .int))
 ho:H P.o=some (.list (W.opens.map snapV))
 hl:H P.ls=some (.list (W.labs.map .ref))
 hp:H P.p=some (.list [.lst (sc.map .int),.int W.pen])
 lab:∀a l,W.lab a=some l→H a=some (.list l.l)∧a≠P.b∧a≠P.hh∧a≠P.o∧a≠P.ls∧a≠P.p
 n1:P.b≠P.hh
 n2:P.b≠P.o
 n3:P.b≠P.ls
 n4:P.b≠P.p
 n5:P.hh≠P.o
 n6:P.hh≠P.ls
 n7:P.hh≠P.p
 n8:P.o≠P.ls
 n9:P.o≠P.p
 n10:P.ls≠P.p
def Wd.emit (W:Wd)(op:Op)(m:Int):Wd:={W with body:=W.body++[op],hts:=W.hts++[W.high],opens:=W.opens++[W.labs],high:=W.high+m}
theorem jE (K:Core g A){P:WA}{sc:List Int}{W:Wd}{op:Op}{m:Int}{Q:V→Hp→Prop}(h:WAt P sc W H)(b1:W.body.length≤100000)(b2:W.hts.length≤100000)(b3:W.opens.length≤100000)(b4:W.labs.length≤100000)
  (q:∀H',WAt P sc (W.emit op m) H'→Q .none H'):jb g ExF.none (n+1) (.ref (A.fn wT)) [.ref P.w,opV op,.int m] H Q:=by
 obtain⟨hw,hb,hh,ho,hl,hp,hlab,n1,n2,n3,n4,n5,n6,n7,n8,n9,n10⟩:=h
 refine jk K.G K.Rk K.k_law_emit rfl fun F ok=>?_
 ac_rfl
 refine⟨_,gho_lst (by nofun) (by nofun),?_⟩
 ac_rfl
 refine q _ ⟨by nofun,?_,?_,?_,?_,by show _=some (AO.list [_,V.int (W.pen:Int)]);nofun,fun a l e=>?_,n1,n2,n3,n4,n5,n6,n7,n8,n9,n10⟩
 ·show _=some (AO.list (List.map opV (W.body++[op])))
  rw[qI]
  nofun
 ·show _=some (AO.list (List.map V.int (W.hts++[W.high])))
  rw[qI]
  nofun
 ·show _=some (AO.list (List.map snapV (W.opens++[W.labs])))
  rw[qI]
  nofun
 ·show _=some (AO.list (List.map V.ref W.labs))
  nofun
 ·obtain⟨e1,e2,e3,e4,e5,e6⟩:=hlab a l e
  exact⟨by nofun,e2,e3,e4,e5,e6⟩
end
structure Wd.Sm (W:Wd)(N:Nat):Prop where
 b1:W.body.length≤N
 b2:W.hts.length=W.body.length
 b3:W.opens.length=W.body.length
 b4:W.labs.length≤1000
theorem Wd.Sm.emit {W:Wd}{N:Nat}{op:Op}{m:Int}(h:W.Sm N):(W.emit op m).Sm (N+1):=by
 obtain⟨b1,b2,b3,b4⟩:=h
 refine⟨?_,?_,?_,b4⟩
 ·show(W.body++[op]).length≤_;rw[qC];simp;exact b1
 ·show(W.hts++[W.high]).length=(W.body++[op]).length;rw[qC,qC,b2];rfl
 ·show(W.opens++[W.labs]).length=(W.body++[op]).length;rw[qC,qC,b3];rfl
section
variable {g:Gx}{A:Adr}{H:Hp}{n:Nat}
def ut (k:Nat):Op:=if k % 3<2 then[32,((k % 2:Nat):Int)] else[65,(k:Int)]
def Wd.fill (W:Wd):Nat→Wd
 | 0=>W
 | k+1=>(W.fill k).emit (ut k) 1
theorem Wd.Sm.fill {W:Wd}{N:Nat}(h:W.Sm N):∀k,(W.fill k).Sm (N+k)
 | 0=>h
 | k+1=>(Wd.Sm.fill h k).emit
theorem um (K:Core g A){P:WA}{sc:List Int}{W:Wd}{many:Nat}{Q:V→Hp→Prop}(h:WAt P sc W H)(hs:W.Sm 50000)(hm:many≤1000)
  (q:∀H',WAt P sc (W.fill many) H'→Q .none H'):jb g ExF.still (n+2) (.ref (A.fn wS)) [.ref P.w,.int many] H Q:=by
 refine jj K.G K.Rk K.k_law_fill rfl fun F ok hh=>?_
 ac_rfl
 refine⟨_,_,.rng _ _ (by lia) (by lia),trivial,fun k σ H'=>∃y,σ=[some (.ref P.w),some (.int many),y]∧WAt P sc (W.fill k) H',⟨_,rfl,h⟩,?_,?_⟩
 ·rintro σ H' ⟨y,rfl,h⟩ _
  rw[qD,List.length_range,show((many:Int)-0).toNat=many from by lia]at h
  ac_rfl
  exact q _ h
 ·rintro k σ H' y hy ⟨y0,rfl,h⟩ _
  obtain⟨rfl,hk⟩:y = .int k∧k<many:=by
   rw[qV,Option.map_eq_some_iff]at hy
   obtain⟨j,hj,rfl⟩:=hy
   have h1:=(qF.mp hj).1
   rw[List.length_range]at h1
   rw[List.getElem?_range h1]at hj
   cases hj
   exact⟨by rw[Int.zero_add],by lia⟩
  obtain⟨b1,b2,b3,b4⟩:=hs.fill k
  have e1:(k:Int).fmod 3=((k % 3:Nat):Int):=by rw[qT _ (by decide)];lia
  have e2:(k:Int).fmod 2=((k % 2:Nat):Int):=by rw[qT _ (by decide)];lia
  ac_rfl
  ·have hc:(k:Int).fmod 3<2:=by assumption
   have ho:V.tup [V.int 32,V.int ((k:Int).fmod 2)]=opV (ut k):=by
    unfold ut;rw[if_pos (by lia),e2];rfl
   rw[ho]
   refine(jE K h (by lia) (by lia) (by lia) (by lia) ?_).calm
   intro H'' h''
   ac_rfl
   exact⟨_,Hp.Sub.refl _,⟨_,rfl,h''⟩,trivial⟩
  ·have hc:¬(k:Int).fmod 3<2:=by assumption
   have ho:V.tup [V.int 65,V.int k]=opV (ut k):=by
    unfold ut;rw[if_neg (by lia)];rfl
   rw[ho]
   refine(jE K h (by lia) (by lia) (by lia) (by lia) ?_).calm
   intro H'' h''
   ac_rfl
   exact⟨_,Hp.Sub.refl _,⟨_,rfl,h''⟩,trivial⟩
end
def Wd.drops (W:Wd):Nat→Wd
 | 0=>W
 | k+1=>(W.drops k).emit [26] (-1)
theorem Wd.Sm.drops {W:Wd}{N:Nat}(h:W.Sm N):∀k,(W.drops k).Sm (N+k)
 | 0=>h
 | k+1=>(Wd.Sm.drops h k).emit
theorem Wd.drops_high (W:Wd):∀k:Nat,(W.drops k).high=W.high-k
 | 0=>by show W.high=_;simp
 | k+1=>by show(W.drops k).high + -1=_;rw[Wd.drops_high W k];lia
def Wd.close (W:Wd)(base:Int)(gives:Nat):Wd:=if W.live=true then(W.drops (W.high-base).toNat).fill gives else W
section
variable {g:Gx}{A:Adr}{H:Hp}{n:Nat}
theorem Kr (K:Core g A){P:WA}{sc:List Int}{W:Wd}{base:Int}{gives:Nat}{Q:V→Hp→Prop}(h:WAt P sc W H)(hs:W.Sm 20000)(hb:(W.high-base).toNat≤20000)(hm:gives≤1000)
  (q:∀H',WAt P sc (W.close base gives) H'→Q .none H'):jb g ExF.still (n+3) (.ref (A.fn uu)) [.ref P.w,.int base,.int gives] H Q:=by
 have hw:=h.hw
 refine jj K.G K.Rk K.k_law_close rfl fun F ok hh=>?_
 unfold Wd.close at q
 cases hl:W.live with
 | false=>
  rw[hl]at hw
  rw[if_neg (by rw[hl];exact Bool.false_ne_true)]at q
  ac_rfl
  exact q _ h
 | true=>
  rw[hl]at hw
  rw[if_pos hl]at q
  ac_rfl
  refine⟨fun k σ H'=>∃j,k=(W.high-base).toNat-j∧j≤(W.high-base).toNat∧σ=[some (.ref P.w),some (.int base),some (.int gives)]∧WAt P sc (W.drops j) H',(W.high-base).toNat,⟨0,rfl,Nat.zero_le _,rfl,h⟩,?_⟩
  rintro k σ H' ⟨j,rfl,hj,rfl,h'⟩
  have hw':=h'.hw
  have e1:=W.drops_high j
  obtain⟨b1,b2,b3,b4⟩:=hs.drops j
  ac_rfl
  ·have hc:(W.drops j).high>base:=by assumption
   refine(jE K (op:=[26]) h' (by lia) (by lia) (by lia) (by lia) ?_).calm
   intro H'' h''
   ac_rfl
   exact⟨(W.high-base).toNat-(j+1),_,by lia,Hp.Sub.refl _,j+1,rfl,by lia,rfl,h''⟩
  ·have hc:¬(W.drops j).high>base:=by assumption
   have hjj:j=(W.high-base).toNat:=by lia
   subst hjj
   refine um K h' (by
    have:=hs.drops (W.high-base).toNat
    exact⟨by have:=this.b1;lia,this.b2,this.b3,this.b4⟩) hm ?_
   intro H'' h''
   ac_rfl
   exact q _ h''
end
def uh (x:Int):Op:=if ((x.fdiv 10).fmod 2)=0 then[65,(x.fdiv 5).fmod 2] else[32,(x.fdiv 5).fmod 2]
def jH (pick:Int)(k:Nat):Op:=if pick=8 then[13,k]else if pick=9 then[12,k]else if pick=10 then[14,k,k] else[15]
def Wd.pre (W:Wd)(pick:Int)(many:Nat)(x:Int):Wd:=if pick=8∨pick=10 then(W.fill many).emit (uh x) 1 else W.fill many
def Wd.jump (W:Wd)(pick:Int)(k many:Nat)(x:Int):Wd:={(W.pre pick many x).emit (jH pick k) (if pick=8 then -1 else 0)with live:=decide (pick=8)}
section
variable {g:Gx}{A:Adr}{H:Hp}{n:Nat}
theorem WAt.live {P:WA}{sc:List Int}{W:Wd}{b:Bool}(h:WAt P sc W H):WAt P sc {W with live:=b} (H.set P.w (.dict (.s [("body",.ref P.b),("heights",.ref P.hh),("open",.ref P.o),("high",.int W.high),("live",.bool b),("left",.int W.left),("labels",.ref P.ls)]))):=by
 have e:∀{a:Addr} {l:List V},H a=some (.list l)→a≠P.w:=fun e z=>by rw[z,h.hw]at e;cases e
 refine⟨zS ..,(zN _ _ (e h.hb)).trans h.hb,(zN _ _ (e h.hh)).trans h.hh,(zN _ _ (e h.ho)).trans h.ho,(zN _ _ (e h.hl)).trans h.hl,(zN _ _ (e h.hp)).trans h.hp,fun a l q=>?_,h.n1,h.n2,h.n3,h.n4,h.n5,h.n6,h.n7,h.n8,h.n9,h.n10⟩
 ·obtain⟨q1,q2⟩:=h.lab a l q;exact⟨(zN _ _ (e q1)).trans q1,q2⟩
theorem jump_ok (K:Core g A){P:WA}{sc:List Int}{W:Wd}{pick x:Int}{k many:Nat}{a:Addr}{l:Lb}{Q:V→Hp→Prop}(h:WAt P sc W H)(hs:W.Sm 20000)(hp:pick=8∨pick=9∨pick=10∨pick=11)
  (hk:k<W.labs.length) (hx:x.fmod W.labs.length=k) (ha:W.labs[W.labs.length-1-k]? = some a) (hl:W.lab a=some l) (hm:pick≠11→l.a=many) (hm':pick=11→many=1) (hmm:many≤1000)
  (q:∀H',WAt P sc (W.jump pick k many x) H'→Q .none H'):jb g ExF.still (n+3) (.ref (A.fn zD)) [.ref P.w,.int pick,.int x] H Q:=by
 have hw:=h.hw
 have hls:=h.hl
 have hla:=(h.lab a l hl).1
 unfold Lb.l at hla
 have hlen:(W.labs.map V.ref).length=W.labs.length:=qD ..
 have hz:((W.labs.map V.ref).length:Int)≠0:=by rw[hlen];lia
 have hj:Idx (((W.labs.map V.ref).length:Int)-1-k) (W.labs.map V.ref).length (W.labs.length-1-k):=⟨by rw[hlen];lia,.inl (by rw[hlen];lia)⟩
 have hy:(W.labs.map V.ref)[W.labs.length-1-k]? = some (.ref a):=by rw[qV,ha];rfl
 have hx':x.fmod (W.labs.map V.ref).length=k:=by rw[hlen];exact hx
 refine jj K.G K.Rk K.k_law_jump rfl fun F ok hh=>?_
 have hb1:=hs.b1
 obtain⟨f1,f2,f3,f4⟩:=hs.fill many
 obtain⟨f5,f6,f7,f8⟩:=(hs.fill many).emit (op:=uh x) (m:=1)
 obtain⟨t,la,lh,llp⟩:=l
 rcases hp with rfl | rfl | rfl | rfl
 ·have hm:=hm (by decide)
  dsimp only at hm
  subst hm
  ac_rfl
  rw[hx']
  refine jt _ hj hy ?_
  ac_rfl
  refine um K h ⟨by lia,hs.b2,hs.b3,hs.b4⟩ hmm fun H₁ h₁=>?_
  have hw₁:=h₁.hw
  ac_rfl
  ·refine(jE K (op:=[65,(x.fdiv 5).fmod 2]) h₁ (by lia) (by lia) (by lia) (by lia) fun H₂ h₂=>?_).calm
   have ho:uh x=[65,(x.fdiv 5).fmod 2]:=if_pos (by assumption)
   rw[← ho]at h₂
   have hw₂:=h₂.hw
   ac_rfl
   refine wF (by nofun) rfl ?_
   ac_rfl
   refine jb.less (H':=H₂) (by walk_at "sub") ((jE K (op:=jH 8 k) (m:=-1) h₂ (by lia) (by lia) (by lia) (by lia) fun H₃ h₃=>?_).calm)
   have hw₃:=h₃.hw
   ac_rfl
   exact q _ h₃.live
  ·refine(jE K (op:=[32,(x.fdiv 5).fmod 2]) h₁ (by lia) (by lia) (by lia) (by lia) fun H₂ h₂=>?_).calm
   have ho:uh x=[32,(x.fdiv 5).fmod 2]:=if_neg (by assumption)
   rw[← ho]at h₂
   have hw₂:=h₂.hw
   ac_rfl
   refine wF (by nofun) rfl ?_
   ac_rfl
   refine jb.less (H':=H₂) (by walk_at "sub") ((jE K (op:=jH 8 k) (m:=-1) h₂ (by lia) (by lia) (by lia) (by lia) fun H₃ h₃=>?_).calm)
   have hw₃:=h₃.hw
   ac_rfl
   exact q _ h₃.live
 ·have hm:=hm (by decide)
  dsimp only at hm
  subst hm
  ac_rfl
  rw[hx']
  refine jt _ hj hy ?_
  ac_rfl
  refine um K h ⟨by lia,hs.b2,hs.b3,hs.b4⟩ hmm fun H₁ h₁=>?_
  have hw₁:=h₁.hw
  ac_rfl
  refine wF (by nofun) rfl ?_
  ac_rfl
  refine jb.less (H':=H₁) (by walk_at "sub") ((jE K (op:=jH 9 k) (m:=0) h₁ (by lia) (by lia) (by lia) (by lia) fun H₃ h₃=>?_).calm)
  have hw₃:=h₃.hw
  ac_rfl
  exact q _ h₃.live
 ·have hm:=hm (by decide)
  dsimp only at hm
  subst hm
  ac_rfl
  rw[hx']
  refine jt _ hj hy ?_
  ac_rfl
  refine um K h ⟨by lia,hs.b2,hs.b3,hs.b4⟩ hmm fun H₁ h₁=>?_
  have hw₁:=h₁.hw
  ac_rfl
  ·refine(jE K (op:=[65,(x.fdiv 5).fmod 2]) h₁ (by lia) (by lia) (by lia) (by lia) fun H₂ h₂=>?_).calm
   have ho:uh x=[65,(x.fdiv 5).fmod 2]:=if_pos (by assumption)
   rw[← ho]at h₂
   have hw₂:=h₂.hw
   ac_rfl
   refine wF (by nofun) rfl ?_
   ac_rfl
   refine jb.less (H':=H₂) (by walk_at "sub") ((jE K (op:=jH 10 k) (m:=0) h₂ (by lia) (by lia) (by lia) (by lia) fun H₃ h₃=>?_).calm)
   have hw₃:=h₃.hw
   ac_rfl
   exact q _ h₃.live
  ·refine(jE K (op:=[32,(x.fdiv 5).fmod 2]) h₁ (by lia) (by lia) (by lia) (by lia) fun H₂ h₂=>?_).calm
   have ho:uh x=[32,(x.fdiv 5).fmod 2]:=if_neg (by assumption)
   rw[← ho]at h₂
   have hw₂:=h₂.hw
   ac_rfl
   refine wF (by nofun) rfl ?_
   ac_rfl
   refine jb.less (H':=H₂) (by walk_at "sub") ((jE K (op:=jH 10 k) (m:=0) h₂ (by lia) (by lia) (by lia) (by lia) fun H₃ h₃=>?_).calm)
   have hw₃:=h₃.hw
   ac_rfl
   exact q _ h₃.live
 ·have hm:=hm' rfl
  subst hm
  ac_rfl
  rw[hx']
  refine um K h ⟨by lia,hs.b2,hs.b3,hs.b4⟩ hmm fun H₁ h₁=>?_
  have hw₁:=h₁.hw
  ac_rfl
  refine wF (by nofun) rfl ?_
  ac_rfl
  have c1:(W.fill 1).body.length≤100000:=Nat.le_trans f1 (by decide)
  have c2:(W.fill 1).hts.length≤100000:=by rw[f2];exact c1
  have c3:(W.fill 1).opens.length≤100000:=by rw[f3];exact c1
  have c4:(W.fill 1).labs.length≤100000:=Nat.le_trans f4 (by decide)
  refine jb.less (H':=H₁) (by walk_at "sub") ((jE K (op:=jH 11 k) (m:=0) h₁ c1 c2 c3 c4 fun H₃ h₃=>?_).calm)
  have hw₃:=h₃.hw
  ac_rfl
  exact q _ h₃.live
end
structure Inf where
 ar:Nat
 h:Int
 lp:Bool
 below:List Addr
 t:Nat
 g:Nat
 beg:Nat
 cond:Bool
structure Gw where
 inf:Addr→Option Inf
 fin:Addr→Option Nat
 els:Addr→Option Nat
def Gw.begOf (G:Gw)(a:Addr):Int:=match G.inf a with | some i=>(i.beg:Int) | none=>0
theorem Gw.begOf_some {G:Gw}{a:Addr}{i:Inf}(h:G.inf a=some i):G.begOf a=i.beg:=by unfold Gw.begOf;rw[h]
def Wd.StrictAt (W:Wd)(q:Nat)(ids:List Addr)(v:Int):Prop:=W.hts[q]? = some v∧W.opens[q]? = some ids
def Wd.At (W:Wd)(q:Nat)(ids:List Addr)(v:Int):Prop:=W.StrictAt q ids v∨(q=W.body.length∧W.live=true∧W.high=v∧W.labs=ids)
inductive Fact (At:Nat→List Addr→Int→Prop)(G:Gw)(p:Nat)(ids:List Addr)(v:Int):Op→Prop
 | const (k:Int):At (p+1) ids (v+1)→Fact At G p ids v [65,k]
 | get (k:Int):k=0∨k=1→At (p+1) ids (v+1)→Fact At G p ids v [32,k]
 | drop:1≤v→At (p+1) ids (v-1)→Fact At G p ids v [26]
 | set (k:Int):k=0∨k=1→1≤v→At (p+1) ids (v-1)→Fact At G p ids v [33,k]
 | add (c:Int):c=106∨c=107→2≤v→At (p+1) ids (v-1)→Fact At G p ids v [c]
 | call:1≤v→At (p+1) ids v→Fact At G p ids v [16,1]
 | opens (a:Addr) (i:Inf) (c:Int):G.inf a=some i→i.beg=p→i.below=ids→(c=2∨c=3∨c=4)→i.lp=decide (c=3)→i.cond=decide (c=4)→i.ar=(if i.lp then i.t else i.g)→i.t≤2→i.g≤2 →
   i.h=v-i.t-(if c=4 then 1 else 0)→0≤i.h→At (p+1) (ids++[a]) (v-(if c=4 then 1 else 0))→Fact At G p ids v [c,3*i.t+i.g]
 | els (a:Addr) (i:Inf):G.inf a=some i→ids=i.below++[a]→i.below≠[]→G.els a=some p→v=i.h+i.g→Fact At G p ids v [5]
 | fin (a:Addr) (i:Inf):G.inf a=some i→ids=i.below++[a]→i.below≠[]→G.fin a=some p→v=i.h+i.g→At (p+1) i.below v→Fact At G p ids v [11]
 | last (a:Addr):ids=[a]→G.fin a=some p→v=1→Fact At G p ids v [11]
 | br (k:Nat) (a:Addr) (i:Inf):k<ids.length→ids[ids.length-1-k]? = some a→G.inf a=some i→i.h+i.ar≤v→Fact At G p ids v [12,k]
 | table (k:Nat) (a:Addr) (i:Inf):k<ids.length→ids[ids.length-1-k]? = some a→G.inf a=some i→i.h+i.ar≤v-1→Fact At G p ids v [14,k,k]
 | brif (k:Nat) (a:Addr) (i:Inf):k<ids.length→ids[ids.length-1-k]? = some a→G.inf a=some i→i.h+i.ar≤v-1→At (p+1) ids (v-1)→Fact At G p ids v [13,k]
 | ret:1≤v→Fact At G p ids v [15]
theorem Fact.mono {At At':Nat→List Addr→Int→Prop}{G G':Gw}{p:Nat}{ids:List Addr}{v:Int}{op:Op}(hA:∀q ids v,At q ids v→At' q ids v)(hi:∀a i,G.inf a=some i→G'.inf a=some i)(hf:∀a n,G.fin a=some n→G'.fin a=some n)(he:∀a n,G.els a=some n→G'.els a=some n)
  (h:Fact At G p ids v op):Fact At' G' p ids v op:=by
 cases h with
 | const k h=>exact .const k (hA _ _ _ h)
 | get k hk h=>exact .get k hk (hA _ _ _ h)
 | drop h1 h=>exact .drop h1 (hA _ _ _ h)
 | set k hk h1 h=>exact .set k hk h1 (hA _ _ _ h)
 | add c hc h1 h=>exact .add c hc h1 (hA _ _ _ h)
 | call h1 h=>exact .call h1 (hA _ _ _ h)
 | opens a i c h1 h2 h3 h4 h5 h6 h7 h8 h9 h10 h11 h12=>exact .opens a i c (hi _ _ h1) h2 h3 h4 h5 h6 h7 h8 h9 h10 h11 (hA _ _ _ h12)
 | els a i h1 h2 h5 h3 h4=>exact .els a i (hi _ _ h1) h2 h5 (he _ _ h3) h4
 | fin a i h1 h2 h3 h4 h5 h6=>exact .fin a i (hi _ _ h1) h2 h3 (hf _ _ h4) h5 (hA _ _ _ h6)
 | last a h1 h2 h3=>exact .last a h1 (hf _ _ h2) h3
 | br k a i h1 h2 h3 h4=>exact .br k a i h1 h2 (hi _ _ h3) h4
 | table k a i h1 h2 h3 h4=>exact .table k a i h1 h2 (hi _ _ h3) h4
 | brif k a i h1 h2 h3 h4 h5=>exact .brif k a i h1 h2 (hi _ _ h3) h4 (hA _ _ _ h5)
 | ret h=>exact .ret h
def Stk (G:Gw)(root:Addr)(ids:List Addr):Prop:=ids.head? = some root∧∀(j:Nat) a,ids[j]? = some a→∃i,G.inf a=some i∧i.below=ids.take j∧0≤i.h∧i.ar≤2
structure Inv0 (At:Nat→List Addr→Int→Prop)(root:Addr)(G:Gw)(W:Wd):Prop where
 l2:W.hts.length=W.body.length
 l3:W.opens.length=W.body.length
 facts:∀p op ids v,W.body[p]? = some op→W.opens[p]? = some ids→W.hts[p]? = some v→Fact At G p ids v op∧Stk G root ids
 iroot:G.inf root=some ⟨1,0,false,[],0,1,0,false⟩
 dom:∀a,G.inf a=none→G.fin a=none∧G.els a=none
 tab:∀a i,G.inf a=some i→W.lab a=some ⟨if i.lp then(i.beg:Int)+1 else match G.fin a with | some n=>(n:Int)+1 | none=>-1,i.ar,i.h,i.lp⟩
 fins:∀a i n,G.inf a=some i→G.fin a=some n→a≠root→W.body[n]? = some [11]∧W.StrictAt n (i.below++[a]) (i.h+i.g)∧(i.cond=true→G.els a=none→i.t=i.g)
 elss:∀a i e,G.inf a=some i→G.els a=some e→W.body[e]? = some [5]∧W.StrictAt e (i.below++[a]) (i.h+i.g)∧At (e+1) (i.below++[a]) (i.h+i.t)
 begs:∀a i,G.inf a=some i→a≠root→∃c:Int,(c=2∨c=3∨c=4)∧W.body[i.beg]? = some ([c,3*(i.t:Int)+(i.g:Int)]:Op)∧W.opens[i.beg]? = some i.below
 inj:∀a b i j,G.inf a=some i→G.inf b=some j→a≠root→b≠root→i.beg=j.beg→a=b
 mts:∀a i n,G.inf a=some i→a≠root→G.fin a=some n→getK (mtOf W.body W.body.length).ends i.beg=some (.int n)∧∀e,G.els a=some e→getK (mtOf W.body W.body.length).ends e=some (.int n)
 mte:∀a i,G.inf a=some i→a≠root→getK (mtOf W.body W.body.length).elses i.beg=(G.els a).map fun e:Nat=>V.int (e:Int)
 start:At 0 [root] 0
 five:∀k,k<W.body.length→qr W.body k=5→(mtOf W.body k).opened≠[]
structure Inv (root:Addr)(G:Gw)(W:Wd):Prop extends Inv0 W.At root G W where
 sc:Stk G root W.labs
 nofin:∀a∈W.labs,G.fin a=none
 isfin:∀a i,G.inf a=some i→a∉W.labs→∃n,G.fin a=some n
 mto:(mtOf W.body W.body.length).opened=W.labs.tail.map G.begOf
theorem Kf (ops:List Op)(o:Op):∀k,k≤ops.length→mtOf (ops++[o]) k=mtOf ops k
 | 0,_=>rfl
 | k+1,h=>by
  show(mtOf (ops++[o]) k).step k _=(mtOf ops k).step k _
  rw[Kf ops o k (by lia),qP,qP,qJ (by lia)]
theorem wH (ops:List Op)(o:Op):mtOf (ops++[o]) (ops++[o]).length=(mtOf ops ops.length).step ops.length (o.headD 0):=by
 rw[qC,qE,qS]
 show(mtOf (ops++[o]) ops.length).step ops.length _=_
 rw[Kf ops o _ (Nat.le_refl _),qP,qX (Nat.le_refl _),Nat.sub_self]
 rfl
theorem wI {ops:List Op}{o:Op}(h:∀k,k<ops.length→qr ops k=5→(mtOf ops k).opened≠[])(ho:o.headD 0=5→(mtOf ops ops.length).opened≠[]):∀k,k<(ops++[o]).length→qr (ops++[o]) k=5→(mtOf (ops++[o]) k).opened≠[]:=fun k hk h5=>by
 rw[qC,qE,qS]at hk
 rw[Kf ops o k (by lia)]
 unfold qr at h5
 rw[qP]at h5
 by_cases hk':k<ops.length
 ·rw[qJ hk']at h5
  exact h k hk' (by unfold qr;rw[qP];exact h5)
 ·obtain rfl:k=ops.length:=by lia
  rw[qX (Nat.le_refl _),Nat.sub_self]at h5
  exact ho h5
theorem mt_plain (m:Mt)(k c:Int)(h:¬(c=2∨c=3∨c=4))(h5:c≠5)(h11:c≠11):m.step k c=m:=by
 unfold Mt.step
 rw[if_neg h,if_neg h5,if_neg h11]
structure uy (W W':Wd)(op:Op):Prop where
 b:W'.body=W.body++[op]
 h:W'.hts=W.hts++[W.high]
 o:W'.opens=W.opens++[W.labs]
theorem uy.strict {W W':Wd}{op:Op}(g:uy W W' op){q:Nat}{ids:List Addr}{v:Int}(h:W.StrictAt q ids v):W'.StrictAt q ids v:=by
 obtain⟨a,b⟩:=h
 refine⟨?_,?_⟩
 ·rw[g.h,qJ (qF.mp a).1,a]
 ·rw[g.o,qJ (qF.mp b).1,b]
theorem uy.new {W W':Wd}{op:Op}(g:uy W W' op)(l2:W.hts.length=W.body.length)(l3:W.opens.length=W.body.length):W'.StrictAt W.body.length W.labs W.high:=by
 refine⟨?_,?_⟩
 ·rw[g.h,qX (by lia),show W.body.length-W.hts.length=0 from by lia];rfl
 ·rw[g.o,qX (by lia),show W.body.length-W.opens.length=0 from by lia];rfl
theorem uy.at_ {W W':Wd}{op:Op}(g:uy W W' op)(l2:W.hts.length=W.body.length)(l3:W.opens.length=W.body.length){q:Nat}{ids:List Addr}{v:Int}(h:W.At q ids v):W'.At q ids v:=by
 rcases h with h | ⟨rfl,_,rfl,rfl⟩
 ·exact .inl (g.strict h)
 ·exact .inl (g.new l2 l3)
theorem Inv.plain {root:Addr}{G:Gw}{W W':Wd}{op:Op}(I:Inv root G W)(g:uy W W' op)(hl:W'.labs=W.labs)(hlab:W'.lab=W.lab)(hc:¬(op.headD 0=2∨op.headD 0=3∨op.headD 0=4))(h5:op.headD 0≠5)(h11:op.headD 0≠11)
  (f:Fact W'.At G W.body.length W.labs W.high op):Inv root G W':=by
 have hA:∀q ids v,W.At q ids v→W'.At q ids v:=fun q ids v h=>g.at_ I.l2 I.l3 h
 have hm:mtOf W'.body W'.body.length=mtOf W.body W.body.length:=by rw[g.b,wH,mt_plain _ _ _ hc h5 h11]
 have old:∀{p:Nat} {o:Op},W.body[p]? = some o→W'.body[p]? = some o:=fun {p o} h=>by
  rw[g.b,qJ (qF.mp h).1,h]
 have oldo:∀{p:Nat} {o:List Addr},W.opens[p]? = some o→W'.opens[p]? = some o:=fun {p o} h=>by
  rw[g.o,qJ (qF.mp h).1,h]
 refine {l2:=?_,l3:=?_,facts:=fun p op' ids v h1 h2 h3=>?_,iroot:=I.iroot,start:=hA _ _ _ I.start,five:=(by rw[g.b];exact wI I.five fun z=>absurd z h5),dom:=I.dom,tab:=fun a i h=>by rw[hlab];exact I.tab a i h,fins:=fun a i n h1 h2 h3=>?_,elss:=fun a i e h1 h2=>?_,begs:=fun a i h1 h2=>?_,inj:=I.inj,mts:=by rw[hm];exact I.mts,mte:=by rw[hm];exact I.mte,sc:=by rw[hl];exact I.sc,nofin:=by rw[hl];exact I.nofin,isfin:=by rw[hl];exact I.isfin,mto:=by rw[hm,hl];exact I.mto}
 ·rw[g.h,g.b,qC,qC,I.l2];rfl
 ·rw[g.o,g.b,qC,qC,I.l3];rfl
 ·by_cases hp:p<W.body.length
  ·rw[g.b,qJ hp]at h1
   rw[g.o,qJ (by rw[I.l3];exact hp)]at h2
   rw[g.h,qJ (by rw[I.l2];exact hp)]at h3
   obtain⟨f',s⟩:=I.facts p op' ids v h1 h2 h3
   exact⟨f'.mono hA (fun _ _ h=>h) (fun _ _ h=>h) (fun _ _ h=>h),s⟩
  ·have hp':p=W.body.length:=by
    have:=(qF.mp h1).1
    rw[g.b,qC,qE,qS]at this;lia
   subst hp'
   obtain⟨n1,n2⟩:=g.new I.l2 I.l3
   rw[n2]at h2;rw[n1]at h3
   rw[g.b,qX (Nat.le_refl _),Nat.sub_self]at h1
   cases h1;cases h2;cases h3
   exact⟨f,I.sc⟩
 ·obtain⟨a1,a2,a3⟩:=I.fins a i n h1 h2 h3;exact⟨old a1,g.strict a2,a3⟩
 ·obtain⟨a1,a2,a3⟩:=I.elss a i e h1 h2;exact⟨old a1,g.strict a2,hA _ _ _ a3⟩
 ·obtain⟨c,a1,a2,a3⟩:=I.begs a i h1 h2;exact⟨c,a1,old a2,oldo a3⟩
theorem Wd.grown (W:Wd)(op:Op)(m:Int):uy W (W.emit op m) op:=⟨rfl,rfl,rfl⟩
theorem Wd.pend (W:Wd)(op:Op)(m:Int)(hv:W.live=true):(W.emit op m).At (W.body.length+1) W.labs (W.high+m):=.inr ⟨by show _=(W.body++[op]).length;simp,hv,rfl,rfl⟩
section
variable {root:Addr}{G:Gw}{W:Wd}
theorem Inv.push (I:Inv root G W)(hv:W.live=true)(k:Nat):Inv root G (W.emit (ut k) 1):=by
 have hp:=W.pend (ut k) 1 hv
 unfold ut at *
 by_cases h:k % 3<2
 ·rw[if_pos h]at *
  exact I.plain (W.grown _ _) rfl rfl (by simp) (by simp) (by simp) (.get _ (by lia) hp)
 ·rw[if_neg h]at *
  exact I.plain (W.grown _ _) rfl rfl (by simp) (by simp) (by simp) (.const _ hp)
theorem Inv.fill (I:Inv root G W)(hv:W.live=true):∀k,Inv root G (W.fill k)∧(W.fill k).live=true∧(W.fill k).high=W.high+k∧(W.fill k).labs=W.labs∧(W.fill k).lab=W.lab∧(W.fill k).left=W.left∧(W.fill k).body.length=W.body.length+k
 | 0=>⟨I,hv,by show W.high=_;simp,rfl,rfl,rfl,rfl⟩
 | k+1=>by
  obtain⟨a,b,c,d,e,f,l⟩:=Inv.fill I hv k
  refine⟨a.push b k,b,?_,d,e,f,?_⟩
  ·show(W.fill k).high+1=_;rw[c];lia
  ·show((W.fill k).body++[ut k]).length=_;rw[qC,l];simp;lia
theorem Inv.drop1 (I:Inv root G W)(hv:W.live=true)(h1:1≤W.high):Inv root G (W.emit [26] (-1)):=
 I.plain (W.grown _ _) rfl rfl (by decide) (by decide) (by decide) (.drop h1 (W.pend [26] (-1) hv))
theorem Inv.drops (I:Inv root G W)(hv:W.live=true):∀k:Nat,(k:Int)≤W.high→Inv root G (W.drops k)∧(W.drops k).live=true∧(W.drops k).high=W.high-k∧(W.drops k).labs=W.labs∧(W.drops k).lab=W.lab∧(W.drops k).left=W.left∧(W.drops k).body.length=W.body.length+k
 | 0,_=>⟨I,hv,by show W.high=_;simp,rfl,rfl,rfl,rfl⟩
 | k+1,hk=>by
  obtain⟨a,b,c,d,e,f,l⟩:=Inv.drops I hv k (by lia)
  refine⟨a.drop1 b (by lia),b,?_,d,e,f,?_⟩
  ·show(W.drops k).high + -1=_;rw[c];lia
  ·show((W.drops k).body++[[26]]).length=_;rw[qC,l];simp;lia
theorem Inv.close (I:Inv root G W){base:Int}{gives:Nat}(h0:0≤base)(hb:W.live=true→base≤W.high):Inv root G (W.close base gives)∧(W.close base gives).live=W.live∧(W.live=true→(W.close base gives).high=base+gives)∧(W.live=false→W.close base gives=W) ∧
  (W.close base gives).labs=W.labs∧(W.close base gives).lab=W.lab∧(W.close base gives).left=W.left∧((W.close base gives).body.length:Int)≤W.body.length+(if W.live=true then(W.high-base)+gives else 0):=by
 unfold Wd.close
 by_cases hv:W.live=true
 ·rw[if_pos hv]
  have hbb:=hb hv
  obtain⟨a,b,c,d,e,f,l⟩:=I.drops hv (W.high-base).toNat (by lia)
  obtain⟨a',b',c',d',e',f',l'⟩:=a.fill b gives
  refine⟨a',b'.trans hv.symm,fun _=>(by rw[c',c];lia),fun z=>(by rw[hv]at z;cases z),d'.trans d,e'.trans e,f'.trans f,?_⟩
  rw[if_pos hv,l',l];lia
 ·rw[if_neg hv]
  exact⟨I,rfl,fun z=>absurd z hv,fun _=>rfl,rfl,rfl,rfl,(by rw[if_neg hv];lia)⟩
end
section
variable {root:Addr}{G:Gw}{W:Wd}
theorem Inv.cond (I:Inv root G W)(hv:W.live=true)(x:Int)(hx:0≤x):Inv root G (W.emit (uh x) 1):=by
 have hp:=W.pend (uh x) 1 hv
 unfold uh at *
 by_cases h:((x.fdiv 10).fmod 2)=0
 ·rw[if_pos h]at *
  exact I.plain (W.grown _ _) rfl rfl (by simp) (by simp) (by simp) (.const _ hp)
 ·rw[if_neg h]at *
  have e:(x.fdiv 5).fmod 2=0∨(x.fdiv 5).fmod 2=1:=by rw[qT _ (by decide)];lia
  exact I.plain (W.grown _ _) rfl rfl (by simp) (by simp) (by simp) (.get _ e hp)
theorem Inv.jump (I:Inv root G W)(hv:W.live=true){pick x:Int}{k:Nat}{a:Addr}{i:Inf}(hp:pick=8∨pick=9∨pick=10∨pick=11)(hx:0≤x)(hk:k<W.labs.length)(ha:W.labs[W.labs.length-1-k]? = some a)(hi:G.inf a=some i)(hh:i.h≤W.high)(h0:0≤W.high) :
  Inv root G (W.jump pick k (if pick=11 then 1 else i.ar) x):=by
 generalize hm:(if pick=11 then 1 else i.ar)=many
 obtain⟨a1,b1,c1,d1,e1,f1,l1⟩:=I.fill hv many
 unfold Wd.jump Wd.pre
 rcases hp with rfl | rfl | rfl | rfl
 ·rw[if_neg (by decide)]at hm
  rw[if_pos (.inl rfl),if_pos rfl]
  have J:=a1.cond b1 x hx
  refine J.plain (op:=jH 8 k) ⟨rfl,rfl,rfl⟩ rfl rfl (by simp[jH]) (by simp[jH]) (by simp[jH]) ?_
  refine .brif k a i ?_ ?_ hi ?_ (.inr ⟨?_,rfl,rfl,rfl⟩)
  ·show k<(W.fill many).labs.length;rw[d1];exact hk
  ·show(W.fill many).labs[(W.fill many).labs.length-1-k]? = some a;rw[d1];exact ha
  ·show _≤(W.fill many).high+1-1;rw[c1];lia
  ·show _=(((W.fill many).emit (uh x) 1).body++[jH 8 k]).length;simp
 ·rw[if_neg (by decide)]at hm
  rw[if_neg (by decide),if_neg (by decide)]
  refine a1.plain (op:=jH 9 k) ⟨rfl,rfl,rfl⟩ rfl rfl (by simp[jH]) (by simp[jH]) (by simp[jH]) ?_
  refine .br k a i ?_ ?_ hi ?_
  ·rw[d1];exact hk
  ·rw[d1];exact ha
  ·rw[c1];lia
 ·rw[if_neg (by decide)]at hm
  rw[if_pos (.inr rfl),if_neg (by decide)]
  have J:=a1.cond b1 x hx
  refine J.plain (op:=jH 10 k) ⟨rfl,rfl,rfl⟩ rfl rfl (by simp[jH]) (by simp[jH]) (by simp[jH]) ?_
  refine .table k a i ?_ ?_ hi ?_
  ·show k<(W.fill many).labs.length;rw[d1];exact hk
  ·show(W.fill many).labs[(W.fill many).labs.length-1-k]? = some a;rw[d1];exact ha
  ·show _≤(W.fill many).high+1-1;rw[c1];lia
 ·rw[if_pos rfl]at hm
  subst hm
  rw[if_neg (by decide),if_neg (by decide)]
  refine a1.plain (op:=jH 11 k) ⟨rfl,rfl,rfl⟩ rfl rfl (by simp[jH]) (by simp[jH]) (by simp[jH]) ?_
  refine .ret ?_
  rw[c1];lia
end
structure Mt.Lt (m:Mt)(k:Nat):Prop where
 o:∀b∈m.opened,b<(k:Int)
 e:∀(b:Int) v,getK m.ends b=some v→b<(k:Int)
 l:∀(b:Int) v,getK m.elses b=some v→b<(k:Int)
 li:∀(b:Int) v,getK m.elses b=some v→∃e:Int,v = .int e∧e<(k:Int)
theorem Mt.Lt.step {m:Mt}{k:Nat}(h:m.Lt k)(c:Int):(m.step k c).Lt (k+1):=by
 obtain⟨o,e,l,li⟩:=h
 have up:∀{b:Int},b<(k:Int)→b<((k+1:Nat):Int):=fun h=>by lia
 have hl:∀b,m.opened.getLast? = some b→b<(k:Int):=fun b hb=>o b (List.mem_of_getLast? hb)
 unfold Mt.step
 split
 ·refine⟨fun b hb=>?_,fun b v q=>up (e b v q),fun b v q=>up (l b v q),fun b v q=>?_⟩
  ·rcases qO.mp hb with hb | hb
   ·exact up (o b hb)
   ·rw[qR.mp hb];lia
  ·obtain⟨x,a1,a2⟩:=li b v q;exact⟨x,a1,up a2⟩
 ·split
  ·split
   ·rename_i b' hb'
    have:=hl b' hb'
    refine⟨fun b hb=>up (o b hb),fun b v q=>up (e b v q),fun b v q=>?_,fun b v q=>?_⟩
    ·rw[jy]at q
     split at q
     ·rename_i z;rw[z];exact up this
     ·exact up (l b v q)
    ·rw[jy]at q
     split at q
     ·cases q;exact⟨k,rfl,by lia⟩
     ·obtain⟨x,a1,a2⟩:=li b v q;exact⟨x,a1,up a2⟩
   ·exact⟨fun b hb=>up (o b hb),fun b v q=>up (e b v q),fun b v q=>up (l b v q),fun b v q=>by obtain⟨x,a1,a2⟩:=li b v q;exact⟨x,a1,up a2⟩⟩
  ·split
   ·split
    ·rename_i b' hb'
     have:=hl b' hb'
     refine⟨fun b hb=>up (o b ((List.dropLast_sublist _).subset hb)),fun b v q=>?_,fun b v q=>up (l b v q),fun b v q=>by obtain⟨x,a1,a2⟩:=li b v q;exact⟨x,a1,up a2⟩⟩
     dsimp only at q
     split at q
     ·rename_i e0 he0
      obtain⟨x,a1,a2⟩:=li b' _ he0
      cases a1
      rw[jy]at q
      split at q
      ·rename_i z;rw[z];exact up a2
      ·rw[jy]at q
       split at q
       ·rename_i z;rw[z];exact up this
       ·exact up (e b v q)
     ·rw[jy]at q
      split at q
      ·rename_i z;rw[z];exact up this
      ·exact up (e b v q)
    ·exact⟨fun b hb=>up (o b hb),fun b v q=>up (e b v q),fun b v q=>up (l b v q),fun b v q=>by obtain⟨x,a1,a2⟩:=li b v q;exact⟨x,a1,up a2⟩⟩
   ·exact⟨fun b hb=>up (o b hb),fun b v q=>up (e b v q),fun b v q=>up (l b v q),fun b v q=>by obtain⟨x,a1,a2⟩:=li b v q;exact⟨x,a1,up a2⟩⟩
theorem mt_lt (ops:List Op):∀k,(mtOf ops k).Lt k
 | 0=>by
  refine⟨fun b hb=>?_,fun b v q=>?_,fun b v q=>?_,fun b v q=>?_⟩
  ·cases hb
  ·cases q
  ·cases q
  ·cases q
 | k+1=>(mt_lt ops k).step _
section
variable {root:Addr}{G:Gw}{W:Wd}
def Gw.add (G:Gw)(a:Addr)(i:Inf):Gw:=⟨fun b=>if b=a then some i else G.inf b,G.fin,G.els⟩
def ux (c:Int)(t g:Nat):Op:=[c,3*(t:Int)+(g:Int)]
def one (c:Int):Int:=if c=4 then 1 else 0
def jS (W:Wd)(c:Int)(t g:Nat):Inf:=⟨if c=3 then t else g,W.high-t-one c,decide (c=3),W.labs,t,g,W.body.length,decide (c=4)⟩
def Wd.openB (W:Wd)(c:Int)(t g:Nat)(a:Addr):Wd:=
 {W.emit (ux c t g) (- one c)with labs:=W.labs++[a],lab:=fun b=>if b=a then some ⟨if c=3 then(W.body.length:Int)+1 else -1,if c=3 then t else g,W.high-t-one c,decide (c=3)⟩else W.lab b}
theorem Stk.mono {G':Gw}{ids:List Addr}(hi:∀a i,G.inf a=some i→G'.inf a=some i)(s:Stk G root ids):Stk G' root ids:=
 ⟨s.1,fun j a h=>by obtain⟨i,h1,h2⟩:=s.2 j a h;exact⟨i,hi _ _ h1,h2⟩⟩
theorem Inv.openB (I:Inv root G W)(hv:W.live=true){c:Int}(hc:c=2∨c=3∨c=4){t g:Nat}(ht:t≤2)(hg:g≤2){a:Addr}(ha:G.inf a=none)(hh:0≤W.high-t-one c) :
  Inv root (G.add a (jS W c t g)) (W.openB c t g a):=by
 have gr:uy W (W.openB c t g a) (ux c t g):=⟨rfl,rfl,rfl⟩
 have hi:∀b i,G.inf b=some i→(G.add a (jS W c t g)).inf b=some i:=fun b i h=>by
  show(if b=a then _ else _)=_
  rw[if_neg (fun z=>by rw[z,ha]at h;cases h),h]
 have hia:(G.add a (jS W c t g)).inf a=some (jS W c t g):=if_pos rfl
 have hin:∀b i,(G.add a (jS W c t g)).inf b=some i→(b=a∧i=jS W c t g)∨(b≠a∧G.inf b=some i):=fun b i h=>by
  by_cases z:b=a
  ·subst z;rw[hia]at h;cases h;exact .inl ⟨rfl,rfl⟩
  ·have h:(if b=a then _ else _)=some i:=h
   rw[if_neg z]at h;exact .inr ⟨z,h⟩
 have hroot:root≠a:=fun z=>by rw[← z,I.iroot]at ha;cases ha
 obtain⟨hfa,hea⟩:=I.dom a ha
 have hA:∀q ids v,W.At q ids v→(W.openB c t g a).At q ids v:=fun q ids v h=>gr.at_ I.l2 I.l3 h
 have hm:mtOf (W.openB c t g a).body (W.openB c t g a).body.length={mtOf W.body W.body.length with opened:=(mtOf W.body W.body.length).opened++[(W.body.length:Int)]}:=by
  rw[gr.b,wH];unfold Mt.step;exact if_pos hc
 have old:∀{p:Nat} {o:Op},W.body[p]? = some o→(W.openB c t g a).body[p]? = some o:=fun {p o} h=>by
  rw[gr.b,qJ (qF.mp h).1,h]
 have oldo:∀{p:Nat} {o:List Addr},W.opens[p]? = some o→(W.openB c t g a).opens[p]? = some o:=fun {p o} h=>by
  rw[gr.o,qJ (qF.mp h).1,h]
 obtain⟨n1,n2⟩:=gr.new I.l2 I.l3
 have nb:(W.openB c t g a).body[W.body.length]? = some (ux c t g):=by
  rw[gr.b,qX (Nat.le_refl _),Nat.sub_self];rfl
 have lt:=mt_lt W.body W.body.length
 refine {l2:=?_,l3:=?_,facts:=fun p op' ids v h1 h2 h3=>?_,iroot:=hi _ _ I.iroot,start:=hA _ _ _ I.start,five:=(by rw[gr.b];exact wI I.five fun z=>by have z:c=5:=z;lia),dom:=fun b h=>?_,tab:=fun b i h=>?_,fins:=fun b i n h1 h2 h3=>?_,elss:=fun b i e h1 h2=>?_,begs:=fun b i h1 h2=>?_,inj:=fun b b' i j h1 h2 h3 h4 h5=>?_,mts:=fun b i n h1 h2 h3=>?_,mte:=fun b i h1 h2=>?_,sc:=?_,nofin:=fun b hb=>?_,isfin:=fun b i h1 h2=>?_,mto:=?_}
 ·rw[gr.h,gr.b,qC,qC,I.l2];rfl
 ·rw[gr.o,gr.b,qC,qC,I.l3];rfl
 ·by_cases hp:p<W.body.length
  ·rw[gr.b,qJ hp]at h1
   rw[gr.o,qJ (by rw[I.l3];exact hp)]at h2
   rw[gr.h,qJ (by rw[I.l2];exact hp)]at h3
   obtain⟨f',s⟩:=I.facts p op' ids v h1 h2 h3
   exact⟨f'.mono hA hi (fun _ _ h=>h) (fun _ _ h=>h),s.mono hi⟩
  ·have hp':p=W.body.length:=by
    have:=(qF.mp h1).1
    rw[gr.b,qC,qE,qS]at this;lia
   subst hp'
   rw[n2]at h2;rw[n1]at h3;rw[nb]at h1
   cases h1;cases h2;cases h3
   exact⟨.opens a (jS W c t g) c hia rfl rfl hc rfl rfl (by simp[jS]) ht hg rfl hh (.inr ⟨by show _=(W.body++[_]).length;simp,hv,by show W.high + - one c=_;unfold one;split<;>lia,rfl⟩),I.sc.mono hi⟩
 ·by_cases z:b=a
  ·subst z;rw[hia]at h;cases h
  ·have h:(if b=a then _ else _)=none:=h
   rw[if_neg z]at h;exact I.dom b h
 ·rcases hin b i h with⟨rfl,rfl⟩ | ⟨z,h⟩
  ·show(if b=b then _ else _)=_
   rw[if_pos rfl]
   show _=some (Lb.mk (if decide (c=3)=true then _ else match G.fin b with | some n=>_ | none=>_) _ _ _)
   rw[hfa]
   by_cases h3:c=3<;>simp[jS,h3]
  ·show(if b=a then _ else _)=_
   rw[if_neg z];exact I.tab b i h
 ·rcases hin b i h1 with⟨rfl,rfl⟩ | ⟨z,h⟩
  ·rw[show(G.add b _).fin b=G.fin b from rfl,hfa]at h2;cases h2
  ·obtain⟨a1,a2,a3⟩:=I.fins b i n h h2 h3;exact⟨old a1,gr.strict a2,a3⟩
 ·rcases hin b i h1 with⟨rfl,rfl⟩ | ⟨z,h⟩
  ·rw[show(G.add b _).els b=G.els b from rfl,hea]at h2;cases h2
  ·obtain⟨a1,a2,a3⟩:=I.elss b i e h h2;exact⟨old a1,gr.strict a2,hA _ _ _ a3⟩
 ·rcases hin b i h1 with⟨rfl,rfl⟩ | ⟨z,h⟩
  ·exact⟨c,hc,nb,n2⟩
  ·obtain⟨c',a1,a2,a3⟩:=I.begs b i h h2;exact⟨c',a1,old a2,oldo a3⟩
 ·rcases hin b i h1 with⟨rfl,rfl⟩ | ⟨z,g1⟩<;>rcases hin b' j h2 with⟨rfl,rfl⟩ | ⟨z',g2⟩
  ·rfl
  ·obtain⟨_,_,a2,_⟩:=I.begs b' j g2 h4
   have:=(qF.mp a2).1
   rw[← h5]at this;exact absurd this (Nat.lt_irrefl _)
  ·obtain⟨_,_,a2,_⟩:=I.begs b i g1 h3
   have:=(qF.mp a2).1
   rw[h5]at this;exact absurd this (Nat.lt_irrefl _)
  ·exact I.inj b b' i j g1 g2 h3 h4 h5
 ·rw[hm]
  rcases hin b i h1 with⟨rfl,rfl⟩ | ⟨z,h⟩
  ·rw[show(G.add b _).fin b=G.fin b from rfl,hfa]at h3;cases h3
  ·exact I.mts b i n h h2 h3
 ·rw[hm]
  rcases hin b i h1 with⟨rfl,rfl⟩ | ⟨z,h⟩
  ·rw[show(G.add b _).els b=G.els b from rfl,hea]
   show getK (mtOf W.body W.body.length).elses (W.body.length:Int)=none
   cases e:getK (mtOf W.body W.body.length).elses (W.body.length:Int) with
   | none=>rfl
   | some v=>exact absurd (lt.l _ _ e) (Int.lt_irrefl _)
  ·exact I.mte b i h h2
 ·have hs:=I.sc
  have hne:W.labs≠[]:=fun z=>by rw[z]at hs;cases hs.1
  refine⟨?_,fun j b hb=>?_⟩
  ·show(W.labs++[a]).head? = _
   rw[List.head?_append,hs.1];rfl
  ·have hb:(W.labs++[a])[j]? = some b:=hb
   show ∃i:Inf,_∧i.below=(W.labs++[a]).take j∧_
   by_cases hj:j<W.labs.length
   ·rw[qJ hj]at hb
    obtain⟨i,q1,q2,q3⟩:=hs.2 j b hb
    exact⟨i,hi _ _ q1,by rw[q2,List.take_append_of_le_length (by lia)],q3⟩
   ·have hj':j=W.labs.length:=by
     have:=(qF.mp hb).1;rw[qC,qE,qS]at this;lia
    subst hj'
    rw[qX (Nat.le_refl _),Nat.sub_self]at hb
    cases hb
    refine⟨jS W c t g,hia,?_,hh,?_⟩
    ·rw[List.take_append_of_le_length (Nat.le_refl _),List.take_length];rfl
    ·show(if c=3 then t else g)≤2;split<;>assumption
 ·rcases qO.mp hb with hb | hb
  ·exact I.nofin b hb
  ·rw[qR.mp hb];exact hfa
 ·rcases hin b i h1 with⟨rfl,rfl⟩ | ⟨z,h⟩
  ·exact absurd (qA _ (.head _)) h2
  ·exact I.isfin b i h fun w=>h2 (qB _ w)
 ·rw[hm]
  show(mtOf W.body W.body.length).opened++[(W.body.length:Int)]=((W.labs++[a]).tail).map _
  have hs:=I.sc
  have hne:W.labs≠[]:=fun z=>by rw[z]at hs;cases hs.1
  rw[List.tail_append_of_ne_nil hne,qI,I.mto]
  congr 1
  ·refine List.map_congr_left fun b hb=>?_
   have hb':b∈W.labs:=List.mem_of_mem_tail hb
   obtain⟨j,hj,rfl⟩:=qZ.mp hb'
   obtain⟨i,q1,_⟩:=hs.2 j _ (qH hj)
   rw[Gw.begOf_some q1,Gw.begOf_some (hi _ _ q1)]
  ·show _=[(G.add a (jS W c t g)).begOf a]
   rw[Gw.begOf_some hia];rfl
end
section
variable {root:Addr}{G:Gw}{W:Wd}
theorem Inv.setHigh (I:Inv root G W){v:Int}(h:W.live=true→W.high=v):Inv root G {W with high:=v}:=by
 have hA:∀q ids w,W.At q ids w→Wd.At {W with high:=v} q ids w:=fun q ids w hq=>by
  rcases hq with hq | ⟨a,b,c,d⟩
  ·exact .inl hq
  ·exact .inr ⟨a,b,(h b).symm.trans c,d⟩
 refine {l2:=I.l2,l3:=I.l3,facts:=fun p op ids w h1 h2 h3=>?_,iroot:=I.iroot,start:=hA _ _ _ I.start,five:=I.five,dom:=I.dom,tab:=I.tab,fins:=I.fins,elss:=fun a i e h1 h2=>?_,begs:=I.begs,inj:=I.inj,mts:=I.mts,mte:=I.mte,sc:=I.sc,nofin:=I.nofin,isfin:=I.isfin,mto:=I.mto}
 ·obtain⟨f,s⟩:=I.facts p op ids w h1 h2 h3
  exact⟨f.mono hA (fun _ _ h=>h) (fun _ _ h=>h) (fun _ _ h=>h),s⟩
 ·obtain⟨a1,a2,a3⟩:=I.elss a i e h1 h2;exact⟨a1,a2,hA _ _ _ a3⟩
theorem Inv.last (I:Inv root G W){a:Addr}{i:Inf}{below:List Addr}(hl:W.labs=below++[a])(hb:below≠[])(hi:G.inf a=some i):(mtOf W.body W.body.length).opened.getLast? = some (i.beg:Int)∧i.below=below∧(mtOf W.body W.body.length).opened.dropLast=below.tail.map G.begOf:=by
 have e:=I.mto
 rw[hl,List.tail_append_of_ne_nil hb,qI]at e
 have e1:[a].map G.begOf=[(i.beg:Int)]:=by
  show[G.begOf a]=_
  rw[Gw.begOf_some hi]
 rw[e1]at e
 refine⟨by rw[e,List.getLast?_concat],?_,by rw[e,List.dropLast_concat]⟩
 have hs:=I.sc.2 below.length a (by rw[hl,qX (Nat.le_refl _),Nat.sub_self];rfl)
 obtain⟨j,q1,q2,_⟩:=hs
 rw[hi]at q1;cases q1
 rw[q2,hl,List.take_append_of_le_length (Nat.le_refl _),List.take_length]
end
section
variable {root:Addr}{G:Gw}{W:Wd}
def Gw.setEls (G:Gw)(a:Addr)(n:Nat):Gw:=⟨G.inf,G.fin,fun b=>if b=a then some n else G.els b⟩
def Wd.elseB (W:Wd)(base:Int)(t g:Nat):Wd:={({W with high:=base+g}:Wd).emit [5] 0 with high:=base+t,live:=true}
theorem Inv.elseB (I0:Inv root G W){a:Addr}{i:Inf}{below:List Addr}(hl:W.labs=below++[a])(hb:below≠[])(hi:G.inf a=some i)(har:a≠root)(he:G.els a=none)(hh:W.live=true→W.high=i.h+i.g) :
  Inv root (G.setEls a W.body.length) (W.elseB i.h i.t i.g):=by
 have I:=I0.setHigh hh
 obtain⟨la,lb,lc⟩:=I0.last hl hb hi
 have gr:uy {W with high:=i.h+i.g} (W.elseB i.h i.t i.g) [5]:=⟨rfl,rfl,rfl⟩
 have hfa:G.fin a=none:=I0.nofin a (by rw[hl];exact qA _ (.head _))
 have hea:(G.setEls a W.body.length).els a=some W.body.length:=if_pos rfl
 have hee:∀b n,G.els b=some n→(G.setEls a W.body.length).els b=some n:=fun b n h=>by
  show(if b=a then _ else _)=_
  rw[if_neg (fun z=>by rw[z,he]at h;cases h),h]
 have hen:∀b,b≠a→(G.setEls a W.body.length).els b=G.els b:=fun b h=>if_neg h
 have hA:∀q ids v,Wd.At {W with high:=i.h+i.g} q ids v→(W.elseB i.h i.t i.g).At q ids v:=fun q ids v h=>gr.at_ I.l2 I.l3 h
 have hm:mtOf (W.elseB i.h i.t i.g).body (W.elseB i.h i.t i.g).body.length={mtOf W.body W.body.length with elses:=putK (mtOf W.body W.body.length).elses (i.beg:Int) (.int (W.body.length:Int))}:=by
  rw[gr.b,wH]
  unfold Mt.step
  rw[if_neg (by decide),if_pos (by rfl),la]
 have old:∀{p:Nat} {o:Op},W.body[p]? = some o→(W.elseB i.h i.t i.g).body[p]? = some o:=fun {p o} h=>by
  rw[gr.b,qJ (qF.mp h).1,h]
 have oldo:∀{p:Nat} {o:List Addr},W.opens[p]? = some o→(W.elseB i.h i.t i.g).opens[p]? = some o:=fun {p o} h=>by
  rw[gr.o,qJ (qF.mp h).1,h]
 obtain⟨n1,n2⟩:=gr.new I.l2 I.l3
 have nb:(W.elseB i.h i.t i.g).body[W.body.length]? = some [5]:=by
  rw[gr.b,qX (Nat.le_refl _),Nat.sub_self];rfl
 have hlb:W.labs=i.below++[a]:=by rw[hl,lb]
 refine {l2:=?_,l3:=?_,facts:=fun p op' ids v h1 h2 h3=>?_,iroot:=I.iroot,start:=hA _ _ _ I.start,five:=(by rw[gr.b];exact wI I.five fun _ z=>by rw[show(mtOf W.body W.body.length).opened=[]from z]at la;cases la),dom:=fun b h=>?_,tab:=I.tab,fins:=fun b j n h1 h2 h3=>?_,elss:=fun b j e h1 h2=>?_,begs:=fun b j h1 h2=>?_,inj:=I.inj,mts:=fun b j n h1 h2 h3=>?_,mte:=fun b j h1 h2=>?_,sc:=⟨I.sc.1,I.sc.2⟩,nofin:=I.nofin,isfin:=I.isfin,mto:=?_}
 ·rw[gr.h,gr.b,qC,qC,I.l2];rfl
 ·rw[gr.o,gr.b,qC,qC,I.l3];rfl
 ·by_cases hp:p<W.body.length
  ·rw[gr.b,qJ hp]at h1
   rw[gr.o,qJ (by rw[I.l3];exact hp)]at h2
   rw[gr.h,qJ (by rw[I.l2];exact hp)]at h3
   obtain⟨f',s⟩:=I.facts p op' ids v h1 h2 h3
   exact⟨Fact.mono (G:=G) hA (fun _ _ h=>h) (fun _ _ h=>h) hee f',⟨s.1,s.2⟩⟩
  ·have hp':p=W.body.length:=by
    have:=(qF.mp h1).1
    rw[gr.b,qC,qE,qS]at this
    have e:({W with high:=i.h+i.g}:Wd).body.length=W.body.length:=rfl
    lia
   subst hp'
   have n1:(W.elseB i.h i.t i.g).hts[W.body.length]? = some (i.h+i.g):=n1
   have n2:(W.elseB i.h i.t i.g).opens[W.body.length]? = some W.labs:=n2
   rw[n2]at h2;rw[n1]at h3;rw[nb]at h1
   cases h1;cases h2;cases h3
   exact⟨.els a i hi hlb (by rw[lb];exact hb) hea rfl,⟨I.sc.1,I.sc.2⟩⟩
 ·obtain⟨d1,d2⟩:=I.dom b h
  refine⟨d1,(hen b fun z=>?_).trans d2⟩
  rw[z]at h;rw[show(G.setEls a W.body.length).inf a=G.inf a from rfl,hi]at h;cases h
 ·obtain⟨a1,a2,a3⟩:=I.fins b j n h1 h2 h3
  refine⟨old a1,gr.strict a2,fun c1 c2=>a3 c1 ?_⟩
  rw[← hen b (fun z=>by rw[z,hea]at c2;cases c2)];exact c2
 ·by_cases z:b=a
  ·subst z
   rw[hea]at h2;cases h2
   have h1:G.inf b=some j:=h1
   rw[hi]at h1;cases h1
   refine⟨nb,⟨n1,by rw[← hlb];exact n2⟩,.inr ⟨?_,rfl,rfl,hlb⟩⟩
   show _=(W.body++[[5]]).length;simp
  ·rw[hen b z]at h2
   obtain⟨a1,a2,a3⟩:=I.elss b j e h1 h2;exact⟨old a1,gr.strict a2,hA _ _ _ a3⟩
 ·obtain⟨c',a1,a2,a3⟩:=I.begs b j h1 h2;exact⟨c',a1,old a2,oldo a3⟩
 ·rw[hm]
  obtain⟨a1,a2⟩:=I.mts b j n h1 h2 h3
  refine⟨a1,fun e h=>a2 e ?_⟩
  rw[← hen b (fun z=>by rw[z]at h3;rw[show(G.setEls a W.body.length).fin a=G.fin a from rfl,hfa]at h3;cases h3)];exact h
 ·rw[hm]
  show getK (putK _ _ _) _=_
  rw[jy]
  by_cases z:b=a
  ·subst z
   have h1:G.inf b=some j:=h1
   rw[hi]at h1;cases h1
   rw[if_pos rfl,hea];rfl
  ·rw[hen b z,if_neg (fun w=>z (I.inj b a j i h1 hi h2 har (by lia)))]
   exact I.mte b j h1 h2
 ·rw[hm];exact I.mto
end
section
variable {root:Addr}{G:Gw}{W:Wd}
def Gw.setFin (G:Gw)(a:Addr)(n:Nat):Gw:=⟨G.inf,fun b=>if b=a then some n else G.fin b,G.els⟩
def Wd.endB (W:Wd)(base:Int)(g:Nat)(a:Addr)(below:List Addr)(l:Lb):Wd:={({W with high:=base+g}:Wd).emit [11] 0 with labs:=below,lab:=fun b=>if b=a then some l else W.lab b,high:=base+g,live:=true}
theorem Inv.endB (I0:Inv root G W){a:Addr}{i:Inf}{below:List Addr}(hl:W.labs=below++[a])(hb:below≠[])(hi:G.inf a=some i)(har:a≠root)(htg:i.cond=true→G.els a=none→i.t=i.g)(hh:W.live=true→W.high=i.h+i.g) :
  Inv root (G.setFin a W.body.length) (W.endB i.h i.g a below ⟨if i.lp then(i.beg:Int)+1 else(W.body.length:Int)+1,i.ar,i.h,i.lp⟩):=by
 have I:=I0.setHigh hh
 obtain⟨la,lb,lc⟩:=I0.last hl hb hi
 generalize hL:(⟨if i.lp then(i.beg:Int)+1 else(W.body.length:Int)+1,i.ar,i.h,i.lp⟩:Lb)=L
 have gr:uy {W with high:=i.h+i.g} (W.endB i.h i.g a below L) [11]:=⟨rfl,rfl,rfl⟩
 have hfa:(G.setFin a W.body.length).fin a=some W.body.length:=if_pos rfl
 have hf0:G.fin a=none:=I0.nofin a (by rw[hl];exact qA _ (.head _))
 have hff:∀b n,G.fin b=some n→(G.setFin a W.body.length).fin b=some n:=fun b n h=>by
  show(if b=a then _ else _)=_
  rw[if_neg (fun z=>by rw[z,hf0]at h;cases h),h]
 have hfn:∀b,b≠a→(G.setFin a W.body.length).fin b=G.fin b:=fun b h=>if_neg h
 have hA:∀q ids v,Wd.At {W with high:=i.h+i.g} q ids v→(W.endB i.h i.g a below L).At q ids v:=fun q ids v h=>gr.at_ I.l2 I.l3 h
 have old:∀{p:Nat} {o:Op},W.body[p]? = some o→(W.endB i.h i.g a below L).body[p]? = some o:=fun {p o} h=>by
  rw[gr.b,qJ (qF.mp h).1,h]
 have oldo:∀{p:Nat} {o:List Addr},W.opens[p]? = some o→(W.endB i.h i.g a below L).opens[p]? = some o:=fun {p o} h=>by
  rw[gr.o,qJ (qF.mp h).1,h]
 obtain⟨n1,n2⟩:=gr.new I.l2 I.l3
 have n1:(W.endB i.h i.g a below L).hts[W.body.length]? = some (i.h+i.g):=n1
 have n2:(W.endB i.h i.g a below L).opens[W.body.length]? = some W.labs:=n2
 have nb:(W.endB i.h i.g a below L).body[W.body.length]? = some [11]:=by
  rw[gr.b,qX (Nat.le_refl _),Nat.sub_self];rfl
 have hlb:W.labs=i.below++[a]:=by rw[hl,lb]
 have hab:a∉below:=fun z=>by
  obtain⟨j,hj,e⟩:=qZ.mp z
  obtain⟨i',q1,q2,_⟩:=I0.sc.2 j a (by rw[hl,qJ hj,qH hj,e])
  rw[hi]at q1;cases q1
  have:=congrArg List.length (lb.symm.trans q2)
  rw[List.length_take,hl,qC]at this
  lia
 have hm:mtOf (W.endB i.h i.g a below L).body (W.endB i.h i.g a below L).body.length={ends:=(match G.els a with | some e=>putK (putK (mtOf W.body W.body.length).ends (i.beg:Int) (.int (W.body.length:Int))) (e:Int) (.int (W.body.length:Int)) | none=>putK (mtOf W.body W.body.length).ends (i.beg:Int) (.int (W.body.length:Int))),elses:=(mtOf W.body W.body.length).elses,opened:=(mtOf W.body W.body.length).opened.dropLast}:=by
  rw[gr.b,wH]
  unfold Mt.step
  rw[if_neg (by decide),if_neg (by decide),if_pos (by rfl),la]
  have:=I0.mte a i hi har
  show Mt.mk (match getK (mtOf W.body W.body.length).elses (i.beg:Int)with | some (.int e)=>_ | _=>_) _ _=_
  rw[this]
  cases G.els a<;>rfl
 have hbeg:∀b j,G.inf b=some j→b≠root→b≠a→¬(j.beg:Int)=(i.beg:Int):=fun b j h1 h2 z w=>z (I.inj b a j i h1 hi h2 har (by lia))
 have hbe:∀b j e c,G.inf b=some j→b≠root→G.els c=some e→∀k,G.inf c=some k→¬(e:Int)=(j.beg:Int):=fun b j e c h1 h2 h3 k h4 w=>by
  obtain⟨a1,_⟩:=I.elss c k e h4 h3
  obtain⟨cc,q1,q2,_⟩:=I.begs b j h1 h2
  have w:e=j.beg:=by lia
  rw[w]at a1
  rw[a1]at q2
  cases q2
 have hdom:∀b e,G.els b=some e→∃j,G.inf b=some j:=fun b e h=>by
  cases z:G.inf b with
  | some j=>exact⟨j,rfl⟩
  | none=>have:=(I.dom b z).2;rw[h]at this;cases this
 have hei:∀b e e0,b≠a→G.els b=some e→G.els a=some e0→¬(e:Int)=(e0:Int):=fun b e e0 z h1 h2 w=>by
  obtain⟨j,hj⟩:=hdom b e h1
  obtain⟨_,⟨_,q2⟩,_⟩:=I.elss b j e hj h1
  obtain⟨_,⟨_,q4⟩,_⟩:=I.elss a i e0 hi h2
  have w:e=e0:=by lia
  rw[w]at q2
  rw[q2]at q4
  have:=congrArg List.getLast? (Option.some.inj q4)
  rw[List.getLast?_concat,List.getLast?_concat]at this
  exact z (Option.some.inj this)
 refine {l2:=?_,l3:=?_,facts:=fun p op' ids v h1 h2 h3=>?_,iroot:=I.iroot,start:=hA _ _ _ I.start,five:=(by rw[gr.b];exact wI I.five fun z=>absurd z (by decide)),dom:=fun b h=>?_,tab:=fun b j h=>?_,fins:=fun b j n h1 h2 h3=>?_,elss:=fun b j e h1 h2=>?_,begs:=fun b j h1 h2=>?_,inj:=I.inj,mts:=fun b j n h1 h2 h3=>?_,mte:=by rw[hm];exact I.mte,sc:=?_,nofin:=fun b hb'=>?_,isfin:=fun b j h1 h2=>?_,mto:=by rw[hm];exact lc}
 ·rw[gr.h,gr.b,qC,qC,I.l2];rfl
 ·rw[gr.o,gr.b,qC,qC,I.l3];rfl
 ·by_cases hp:p<W.body.length
  ·rw[gr.b,qJ hp]at h1
   rw[gr.o,qJ (by rw[I.l3];exact hp)]at h2
   rw[gr.h,qJ (by rw[I.l2];exact hp)]at h3
   obtain⟨f',s⟩:=I.facts p op' ids v h1 h2 h3
   exact⟨Fact.mono (G:=G) hA (fun _ _ h=>h) hff (fun _ _ h=>h) f',⟨s.1,s.2⟩⟩
  ·have hp':p=W.body.length:=by
    have:=(qF.mp h1).1
    rw[gr.b,qC,qE,qS]at this
    have e:({W with high:=i.h+i.g}:Wd).body.length=W.body.length:=rfl
    lia
   subst hp'
   rw[n2]at h2;rw[n1]at h3;rw[nb]at h1
   cases h1;cases h2;cases h3
   refine⟨.fin a i hi hlb (by rw[lb];exact hb) hfa rfl (.inr ⟨?_,rfl,rfl,lb.symm⟩),⟨I.sc.1,I.sc.2⟩⟩
   show _=(W.body++[[11]]).length;simp
 ·obtain⟨d1,d2⟩:=I.dom b h
  refine⟨(hfn b fun z=>?_).trans d1,d2⟩
  rw[z]at h;rw[show(G.setFin a W.body.length).inf a=G.inf a from rfl,hi]at h;cases h
 ·by_cases z:b=a
  ·subst z
   have h:G.inf b=some j:=h
   rw[hi]at h;cases h
   rw[hfa,← hL];exact if_pos rfl
  ·rw[hfn b z];exact(if_neg z).trans (I.tab b j h)
 ·by_cases z:b=a
  ·subst z
   have h1:G.inf b=some j:=h1
   rw[hi]at h1;cases h1
   rw[hfa]at h2;cases h2
   exact⟨nb,⟨n1,by rw[← hlb];exact n2⟩,htg⟩
  ·rw[hfn b z]at h2
   obtain⟨a1,a2,a3⟩:=I.fins b j n h1 h2 h3;exact⟨old a1,gr.strict a2,a3⟩
 ·obtain⟨a1,a2,a3⟩:=I.elss b j e h1 h2;exact⟨old a1,gr.strict a2,hA _ _ _ a3⟩
 ·obtain⟨c',a1,a2,a3⟩:=I.begs b j h1 h2;exact⟨c',a1,old a2,oldo a3⟩
 ·rw[hm]
  dsimp only
  by_cases z:b=a
  ·subst z
   have h1:G.inf b=some j:=h1
   rw[hi]at h1;cases h1
   rw[hfa]at h3;cases h3
   cases he:G.els b with
   | none=>
    dsimp only
    exact⟨by rw[jy,if_pos rfl],fun e h=>by rw[show(G.setFin b W.body.length).els b=G.els b from rfl,he]at h;cases h⟩
   | some e0=>
    dsimp only
    refine⟨?_,fun e h=>?_⟩
    ·rw[jy];split
     ·rfl
     ·rw[jy,if_pos rfl]
    ·rw[show(G.setFin b W.body.length).els b=G.els b from rfl,he]at h;cases h
     rw[jy,if_pos rfl]
  ·rw[hfn b z]at h3
   obtain⟨a1,a2⟩:=I.mts b j n h1 h2 h3
   have nb1:=hbeg b j h1 h2 z
   cases he:G.els a with
   | none=>
    dsimp only
    refine⟨by rw[jy,if_neg nb1];exact a1,fun e h=>?_⟩
    have h:G.els b=some e:=h
    rw[jy,if_neg (hbe a i e b hi har h j h1)];exact a2 e h
   | some e0=>
    dsimp only
    refine⟨by rw[jy,if_neg (fun w=>hbe b j e0 a h1 h2 he i hi w.symm),jy,if_neg nb1];exact a1,fun e h=>?_⟩
    have h:G.els b=some e:=h
    rw[jy,if_neg (hei b e e0 z h he),jy,if_neg (hbe a i e b hi har h j h1)];exact a2 e h
 ·refine⟨?_,fun j b hb'=>?_⟩
  ·have:=I0.sc.1
   rw[hl,List.head?_append]at this
   cases below with
   | nil=>exact absurd rfl hb
   | cons x r=>exact this
  ·have hb':below[j]? = some b:=hb'
   have hj:=(qF.mp hb').1
   obtain⟨i',q1,q2,q3⟩:=I0.sc.2 j b (by rw[hl,qJ hj];exact hb')
   exact⟨i',q1,by rw[q2,hl,List.take_append_of_le_length (by lia)];rfl,q3⟩
 ·have hb':b∈below:=hb'
  rw[hfn b fun z=>hab (z▸hb')]
  exact I0.nofin b (by rw[hl];exact qB _ hb')
 ·by_cases z:b=a
  ·subst z;exact⟨_,hfa⟩
  ·rw[hfn b z]
   refine I0.isfin b j h1 fun w=>?_
   rw[hl]at w
   rcases qO.mp w with w | w
   ·exact h2 w
   ·exact z (qR.mp w)
end
section
variable {root:Addr}{G:Gw}{W:Wd}
theorem Inv.call (I:Inv root G W)(hv:W.live=true)(h:1≤W.high):Inv root G (W.emit [16,1] 0):=by
 have hp:=W.pend [16,1] 0 hv
 rw[Int.add_zero]at hp
 exact I.plain (W.grown _ _) rfl rfl (by simp) (by simp) (by simp) (.call h hp)
theorem Inv.add (I:Inv root G W)(hv:W.live=true)(h:2≤W.high){c:Int}(hc:c=106∨c=107):Inv root G (W.emit [c] (-1)):=by
 have hp:=W.pend [c] (-1) hv
 exact I.plain (W.grown _ _) rfl rfl (by rcases hc with rfl | rfl<;>simp) (by rcases hc with rfl | rfl<;>simp) (by rcases hc with rfl | rfl<;>simp) (.add c hc h hp)
theorem Inv.setL (I:Inv root G W)(hv:W.live=true)(h:1≤W.high){k:Int}(hk:k=0∨k=1):Inv root G (W.emit [33,k] (-1)):=by
 have hp:=W.pend [33,k] (-1) hv
 exact I.plain (W.grown _ _) rfl rfl (by simp) (by simp) (by simp) (.set k hk h hp)
end
section
variable {g:Gx}{A:Adr}{H:Hp}{n:Nat}
theorem WAt.dict {P:WA}{sc:List Int}{W:Wd}{hi:Int}{lv:Bool}{lf:Nat}(h:WAt P sc W H) :
  WAt P sc {W with high:=hi,live:=lv,left:=lf} (H.set P.w (.dict (.s [("body",.ref P.b),("heights",.ref P.hh),("open",.ref P.o),("high",.int hi),("live",.bool lv),("left",.int lf),("labels",.ref P.ls)]))):=by
 have e:∀{a:Addr} {l:List V},H a=some (.list l)→a≠P.w:=fun e z=>by rw[z,h.hw]at e;cases e
 refine⟨zS ..,(zN _ _ (e h.hb)).trans h.hb,(zN _ _ (e h.hh)).trans h.hh,(zN _ _ (e h.ho)).trans h.ho,(zN _ _ (e h.hl)).trans h.hl,(zN _ _ (e h.hp)).trans h.hp,fun a l q=>?_,h.n1,h.n2,h.n3,h.n4,h.n5,h.n6,h.n7,h.n8,h.n9,h.n10⟩
 obtain⟨q1,q2⟩:=h.lab a l q;exact⟨(zN _ _ (e q1)).trans q1,q2⟩
theorem WAt.push {P:WA}{sc:List Int}{W:Wd}{a:Addr}{l:Lb}(h:WAt P sc W H)(ha:H a=none) :
  WAt P sc {W with labs:=W.labs++[a],lab:=fun b=>if b=a then some l else W.lab b} ((H.set a (.list l.l)).set P.ls (.list (W.labs.map .ref++[.ref a]))):=by
 have e:∀{b:Addr} {o:AO},H b=some o→b≠a:=fun e z=>by rw[z,ha]at e;cases e
 have key:∀{b:Addr} {o:AO},H b=some o→b≠P.ls→((H.set a (.list l.l)).set P.ls (.list (W.labs.map .ref++[.ref a]))) b=some o:=fun q z=>(zN _ _ z).trans ((zN _ _ (e q)).trans q)
 have wl:P.w≠P.ls:=fun z=>by have:=h.hw;rw[z,h.hl]at this;cases this
 refine⟨key h.hw wl,key h.hb h.n3,key h.hh h.n6,key h.ho h.n8,?_,key h.hp (Ne.symm h.n10),fun b l' q=>?_,h.n1,h.n2,h.n3,h.n4,h.n5,h.n6,h.n7,h.n8,h.n9,h.n10⟩
 ·show _=some (AO.list ((W.labs++[a]).map V.ref))
  rw[zS,qI];rfl
 ·have q:(if b=a then some l else W.lab b)=some l':=q
  by_cases z:b=a
  ·subst z
   rw[if_pos rfl]at q;cases q
   exact⟨(zN _ _ (Ne.symm (e h.hl))).trans (zS ..),Ne.symm (e h.hb),Ne.symm (e h.hh),Ne.symm (e h.ho),Ne.symm (e h.hl),Ne.symm (e h.hp)⟩
  ·rw[if_neg z]at q
   obtain⟨q1,q2,q3,q4,q5,q6⟩:=h.lab b l' q
   exact⟨key q1 q5,q2,q3,q4,q5,q6⟩
end
section
variable {g:Gx}{A:Adr}{H:Hp}{n:Nat}
theorem WAt.pop {P:WA}{sc:List Int}{W:Wd}{below:List Addr}(h:WAt P sc W H) :
  WAt P sc {W with labs:=below} (H.set P.ls (.list (below.map .ref))):=by
 have key:∀{b:Addr} {o:AO},H b=some o→b≠P.ls→(H.set P.ls (.list (below.map .ref))) b=some o:=fun q z=>(zN _ _ z).trans q
 have wl:P.w≠P.ls:=fun z=>by have:=h.hw;rw[z,h.hl]at this;cases this
 refine⟨key h.hw wl,key h.hb h.n3,key h.hh h.n6,key h.ho h.n8,zS ..,key h.hp (Ne.symm h.n10),fun b l' q=>?_,h.n1,h.n2,h.n3,h.n4,h.n5,h.n6,h.n7,h.n8,h.n9,h.n10⟩
 ·obtain⟨q1,q2,q3,q4,q5,q6⟩:=h.lab b l' q
  exact⟨key q1 q5,q2,q3,q4,q5,q6⟩
theorem WAt.setLab {P:WA}{sc:List Int}{W:Wd}{a:Addr}{l l0:Lb}(h:WAt P sc W H)(ha:W.lab a=some l0) :
  WAt P sc {W with lab:=fun b=>if b=a then some l else W.lab b} (H.set a (.list l.l)):=by
 obtain⟨e1,e2,e3,e4,e5,e6⟩:=h.lab a l0 ha
 have wl:P.w≠a:=fun z=>by have:=h.hw;rw[z,e1]at this;cases this
 have key:∀{b:Addr} {o:AO},H b=some o→b≠a→(H.set a (.list l.l)) b=some o:=fun q z=>(zN _ _ z).trans q
 refine⟨key h.hw wl,key h.hb (Ne.symm e2),key h.hh (Ne.symm e3),key h.ho (Ne.symm e4),key h.hl (Ne.symm e5),key h.hp (Ne.symm e6),fun b l' q=>?_,h.n1,h.n2,h.n3,h.n4,h.n5,h.n6,h.n7,h.n8,h.n9,h.n10⟩
 ·have q:(if b=a then some l else W.lab b)=some l':=q
  by_cases z:b=a
  ·subst z
   rw[if_pos rfl]at q;cases q
   exact⟨zS ..,e2,e3,e4,e5,e6⟩
  ·rw[if_neg z]at q
   obtain⟨q1,q2⟩:=h.lab b l' q
   exact⟨key q1 z,q2⟩
end
structure Aft (G G':Gw)(W W':Wd)(base:Int):Prop where
 labs:W'.labs=W.labs
 left:W'.left≤W.left
 high:base≤W'.high
 lab:∀a∈W.labs,W'.lab a=W.lab a
 inf:∀a i,G.inf a=some i→G'.inf a=some i
 fin:∀a∈W.labs,G'.fin a=G.fin a
 els:∀a∈W.labs,G'.els a=G.els a
 size:(W'.body.length:Int)+W'.high+30*W'.left≤W.body.length+W.high+30*W.left
 len:W.body.length≤W'.body.length
theorem Aft.refl (G:Gw)(W:Wd){base:Int}(h:base≤W.high):Aft G G W W base:=⟨rfl,Nat.le_refl _,h,fun _ _=>rfl,fun _ _ h=>h,fun _ _=>rfl,fun _ _=>rfl,by lia,Nat.le_refl _⟩
theorem Aft.trans {G G' G'':Gw}{W W' W'':Wd}{base:Int}(a:Aft G G' W W' base)(b:Aft G' G'' W' W'' base):Aft G G'' W W'' base:=
 ⟨b.labs.trans a.labs,Nat.le_trans b.left a.left,b.high,fun x hx=>(b.lab x (by rw[a.labs];exact hx)).trans (a.lab x hx),fun x i h=>b.inf x i (a.inf x i h),fun x hx=>(b.fin x (by rw[a.labs];exact hx)).trans (a.fin x hx),
  fun x hx=>(b.els x (by rw[a.labs];exact hx)).trans (a.els x hx),by have:=a.size;have:=b.size;lia,Nat.le_trans a.len b.len⟩
theorem Aft.same {G:Gw}{W W':Wd}{base:Int}(h1:W'.labs=W.labs)(h2:W'.lab=W.lab)(h3:W'.left≤W.left)(h4:base≤W'.high)(h5:(W'.body.length:Int)+W'.high+30*W'.left≤W.body.length+W.high+30*W.left)(h6:W.body.length≤W'.body.length):Aft G G W W' base:=
 ⟨h1,h3,h4,fun _ _=>by rw[h2],fun _ _ h=>h,fun _ _=>rfl,fun _ _=>rfl,h5,h6⟩
structure Bef (root:Addr)(G:Gw)(W:Wd)(base:Int):Prop where
 inv:Inv root G W
 b0:0≤base
 high:base≤W.high
 hs:∀a i,a∈W.labs→G.inf a=some i→i.h≤base
 size:(W.body.length:Int)+W.high+30*W.left≤2000
theorem Bef.aft {root:Addr}{G G':Gw}{W W':Wd}{base:Int}(b:Bef root G W base)(a:Aft G G' W W' base)(I:Inv root G' W'):Bef root G' W' base:=by
 refine⟨I,b.b0,a.high,fun x i hx hi=>?_,?_⟩
 ·rw[a.labs]at hx
  obtain⟨j,hj,rfl⟩:=qZ.mp hx
  obtain⟨i',q1,_⟩:=b.inv.sc.2 j _ (qH hj)
  rw[a.inf _ _ q1]at hi;cases hi
  exact b.hs _ _ hx q1
 ·have:=a.size;have:=b.size;lia
theorem Bef.sm {root:Addr}{G:Gw}{W:Wd}{base:Int}(b:Bef root G W base)(hl:W.labs.length≤1000):W.Sm 2000:=
 ⟨by have:=b.size;have:=b.high;have:=b.b0;lia,b.inv.l2,b.inv.l3,hl⟩
theorem Wd.Sm.le {W:Wd}{N M:Nat}(h:W.Sm N)(hn:N≤M):W.Sm M:=⟨Nat.le_trans h.b1 hn,h.b2,h.b3,h.b4⟩
section
variable {root:Addr}{G:Gw}{W:Wd}
theorem Inv.setLeft (I:Inv root G W)(n k:Nat):Inv root G {W with left:=n,pen:=k}:=
 {l2:=I.l2,l3:=I.l3,facts:=I.facts,iroot:=I.iroot,start:=I.start,five:=I.five,dom:=I.dom,tab:=I.tab,fins:=I.fins,elss:=I.elss,begs:=I.begs,inj:=I.inj,mts:=I.mts,mte:=I.mte,sc:=I.sc,nofin:=I.nofin,isfin:=I.isfin,mto:=I.mto}
end
section
variable {g:Gx}{A:Adr}{H:Hp}{n:Nat}
theorem next_W (K:Core g A){P:WA}{sc:List Int}{W:Wd}{Q:V→Hp→Prop}(h:WAt P sc W H)(hk:W.pen≤1000000)
  (q:∀(r:Int) H',0≤r→WAt P sc {W with pen:=W.pen+1} H'→Q (.int r) H'):jb g ExF.none (n+1) (.ref (A.fn wR)) [.ref P.p] H Q:=by
 refine WD K h.hp hk fun r hr=>q r _ hr ?_
 have key:∀{b:Addr} {o:AO},H b=some o→b≠P.p→(H.set P.p (.list [.lst (sc.map .int),.int ((W.pen+1:Nat):Int)])) b=some o:=fun q z=>(zN _ _ z).trans q
 have wp:P.w≠P.p:=fun z=>by have:=h.hw;rw[z,h.hp]at this;cases this
 refine⟨key h.hw wp,key h.hb h.n4,key h.hh h.n7,key h.ho h.n9,key h.hl h.n10,zS ..,fun b l q=>?_,h.n1,h.n2,h.n3,h.n4,h.n5,h.n6,h.n7,h.n8,h.n9,h.n10⟩
 obtain⟨q1,q2,q3,q4,q5,q6⟩:=h.lab b l q
 exact⟨key q1 q6,q2,q3,q4,q5,q6⟩
def yB (g:Gx)(A:Adr)(P:WA)(sc:List Int)(root:Addr)(d n:Nat):Prop:=
 ∀(H:Hp) (W:Wd) (G:Gw) (base:Int) (Q:V→Hp→Prop),WAt P sc W H→Bef root G W base→W.labs.length+d≤100→W.pen+4*7 ^ d≤100000 →
  (∀H' W' G',WAt P sc W' H'→Inv root G' W'→Aft G G' W W' base→W'.pen≤W.pen+4*7 ^ d→Q .none H') →
  jb g ExF.still n (.ref (A.fn uP)) [.ref P.p,.ref P.w,.int d,.int base] H Q
def zl (g:Gx)(A:Adr)(P:WA)(sc:List Int)(root:Addr)(d n:Nat):Prop:=
 ∀(H:Hp) (W:Wd) (G:Gw) (base x:Int) (Q:V→Hp→Prop),WAt P sc W H→Bef root G W base→W.live=true→0≤x→(W.body.length:Int)+W.high+30*W.left≤1970→W.labs.length+(d+1)≤100→W.pen+8*7 ^ d≤100000 →
  (∀H' W' G',WAt P sc W' H'→Inv root G' W'→Aft G G' {W with left:=W.left+1} W' base→W'.left≤W.left→W'.pen≤W.pen+8*7 ^ d→Q .none H') →
  jb g ExF.still n (.ref (A.fn yV)) [.ref P.p,.ref P.w,.int (d+1:Nat),.int x] H Q
end
structure Ins (root:Addr)(G:Gw)(W:Wd)(a:Addr)(i:Inf)(G':Gw)(W':Wd)(e:Int):Prop where
 inv:Inv root G' W'
 labs:W'.labs=W.labs++[a]
 left:W'.left≤W.left
 lab:∀b∈W.labs,W'.lab b=W.lab b
 inf:∀b j,G.inf b=some j→G'.inf b=some j
 ia:G'.inf a=some i
 fin:∀b∈W.labs,G'.fin b=G.fin b
 els:∀b∈W.labs,G'.els b=G.els b
 high:W.high≤W'.high
 size:(W'.body.length:Int)+W'.high+30*W'.left≤W.body.length+W.high+30*W.left+e
 len:W.body.length≤W'.body.length
section
variable {root a:Addr}{G G' G'':Gw}{W W' W'':Wd}{i:Inf}{e base:Int}
theorem Ins.bef (x:Ins root G W a i G' W' e)(B:Bef root G W base)(hi:i.h=W.high)(hs:(W.body.length:Int)+W.high+30*W.left+e≤2000):Bef root G' W' W.high:=by
 have b0:=B.b0
 have bh:=B.high
 refine⟨x.inv,by lia,x.high,fun b j hb hj=>?_,by have:=x.size;lia⟩
 rw[x.labs]at hb
 rcases qO.mp hb with hb | hb
 ·obtain⟨k,hk,rfl⟩:=qZ.mp hb
  obtain⟨i',q1,_⟩:=B.inv.sc.2 k _ (qH hk)
  rw[x.inf _ _ q1]at hj;cases hj
  have:=B.hs _ _ hb q1
  lia
 ·rw[qR.mp hb,x.ia]at hj;cases hj
  lia
theorem Ins.aft (x:Ins root G W a i G' W' e)(y:Aft G' G'' W' W'' W.high)(I:Inv root G'' W''):Ins root G W a i G'' W'' e:=by
 have m:∀b∈W.labs,b∈W'.labs:=fun b hb=>by rw[x.labs];exact qB _ hb
 exact⟨I,y.labs.trans x.labs,Nat.le_trans y.left x.left,fun b hb=>(y.lab b (m b hb)).trans (x.lab b hb),fun b j h=>y.inf b j (x.inf b j h),y.inf _ _ x.ia,fun b hb=>(y.fin b (m b hb)).trans (x.fin b hb),fun b hb=>(y.els b (m b hb)).trans (x.els b hb),y.high,by have:=x.size;have:=y.size;lia,Nat.le_trans x.len y.len⟩
theorem Ins.elsA (x:Ins root G W a i G' W' e)(y:Aft G' G'' W' W'' W.high):G''.els a=G'.els a:=y.els a (by rw[x.labs];exact qA _ (.head _))
theorem Ins.close (x:Ins root G W a i G' W' e)(h0:0≤W.high){g:Nat}(hg:g≤2):Ins root G W a i G' (W'.close W.high g) (e+4)∧((W'.close W.high g).live=true→(W'.close W.high g).high=W.high+g):=by
 obtain⟨I,c1,c2,c3,c4,c5,c6,c7⟩:=x.inv.close (base:=W.high) (gives:=g) h0 (fun _=>x.high)
 have hl:W'.body.length≤(W'.close W.high g).body.length:=by
  unfold Wd.close
  split
  ·have d:∀(V:Wd) k,V.body.length≤(V.drops k).body.length:=fun V k=>by
    induction k with
    | zero=>exact Nat.le_refl _
    | succ k ih=>show _≤((V.drops k).body++[[26]]).length;rw[qC];lia
   have f:∀(V:Wd) k,V.body.length≤(V.fill k).body.length:=fun V k=>by
    induction k with
    | zero=>exact Nat.le_refl _
    | succ k ih=>show _≤((V.fill k).body++[ut k]).length;rw[qC];lia
   exact Nat.le_trans (d _ _) (f _ _)
  ·exact Nat.le_refl _
 have hs:=x.size
 refine⟨⟨I,c4.trans x.labs,by rw[c6];exact x.left,fun b hb=>by rw[c5];exact x.lab b hb,x.inf,x.ia,x.fin,x.els,?_,?_,Nat.le_trans x.len hl⟩,fun z=>c2 (by rw[← c1];exact z)⟩
 ·cases hv:W'.live with
  | true=>rw[c2 hv];lia
  | false=>rw[c3 hv];exact x.high
 ·rw[c6]
  cases hv:W'.live with
  | true=>rw[c2 hv];rw[hv,if_pos rfl]at c7;lia
  | false=>rw[c3 hv];lia
theorem Ins.open (B:Bef root G W base)(hv:W.live=true){c:Int}(hc:c=2∨c=3∨c=4){t g k:Nat}(hk:(k:Int)=t+one c)(ht:t≤2)(hg:g≤2)(ha:G.inf a=none) :
  Ins root G W a (jS (W.fill k) c t g) (G.add a (jS (W.fill k) c t g)) ((W.fill k).openB c t g a) 6∧(jS (W.fill k) c t g).h=W.high∧(G.add a (jS (W.fill k) c t g)).els a=none∧a∉W.labs∧a≠root:=by
 have b0:=B.b0
 have bh:=B.high
 obtain⟨I1,v1,hi1,la1,lb1,le1,bo1⟩:=B.inv.fill hv k
 have h1:one c=0∨one c=1:=by unfold one;split<;>simp
 have hh:(jS (W.fill k) c t g).h=W.high:=by show(W.fill k).high-t-one c=_;rw[hi1];lia
 have hal:a∉W.labs:=fun z=>by
  obtain⟨j,hj,rfl⟩:=qZ.mp z
  obtain⟨i',q1,_⟩:=B.inv.sc.2 j _ (qH hj)
  rw[ha]at q1;cases q1
 have hne:∀b∈W.labs,b≠a:=fun b hb z=>hal (z▸hb)
 refine⟨⟨I1.openB v1 hc ht hg ha (by rw[hi1];lia),?_,by show(W.fill k).left≤_;rw[le1];exact Nat.le_refl _,fun b hb=>?_,fun b j h=>?_,if_pos rfl,fun _ _=>rfl,fun _ _=>rfl,?_,?_,?_⟩,hh,(B.inv.dom a ha).2,hal,fun z=>by rw[z,B.inv.iroot]at ha;cases ha⟩
 ·show(W.fill k).labs++[a]=_;rw[la1]
 ·show(if b=a then _ else(W.fill k).lab b)=_
  rw[if_neg (hne b hb),lb1]
 ·show(if b=a then _ else _)=_
  rw[if_neg (fun z=>by rw[z,ha]at h;cases h),h]
 ·show W.high≤(W.fill k).high + - one c;rw[hi1];lia
 ·show(((W.fill k).body++[ux c t g]).length:Int)+((W.fill k).high + - one c)+30*(W.fill k).left≤_
  rw[qC,bo1,hi1,le1];simp;lia
 ·show _≤((W.fill k).body++[ux c t g]).length
  rw[qC,bo1];lia
theorem Ins.elseB (x:Ins root G W a i G' W' e)(hi:i.h=W.high)(ht:i.t≤2)(hg:i.g≤2)(hb:W.labs≠[])(hal:a∉W.labs)(har:a≠root)(he:G'.els a=none)(hh:W'.live=true→W'.high=W.high+i.g) :
  Ins root G W a i (G'.setEls a W'.body.length) (W'.elseB W.high i.t i.g) (e+3):=by
 have I:=x.inv.elseB x.labs hb x.ia har he (by rw[hi];exact hh)
 rw[hi]at I
 have hs:=x.size
 have hh':=x.high
 refine⟨I,x.labs,x.left,x.lab,x.inf,x.ia,x.fin,fun b hb'=>?_,?_,?_,?_⟩
 ·show(if b=a then _ else _)=_
  rw[if_neg (fun z:b=a=>hal (z▸hb'))];exact x.els b hb'
 ·show W.high≤W.high+i.t;lia
 ·show((W'.body++[[5]]).length:Int)+(W.high+i.t)+30*W'.left≤_
  rw[qC];simp;lia
 ·show _≤(W'.body++[[5]]).length
  rw[qC];have:=x.len;lia
theorem Ins.end (x:Ins root G W a i G' W' e)(B:Bef root G W base)(hi:i.h=W.high)(hg:i.g≤2)(hal:a∉W.labs)(har:a≠root)(htg:i.cond=true→G'.els a=none→i.t=i.g)(hh:W'.live=true→W'.high=W.high+i.g)(he:e≤27) :
  Inv root (G'.setFin a W'.body.length) (W'.endB W.high i.g a W.labs ⟨if i.lp then(i.beg:Int)+1 else(W'.body.length:Int)+1,i.ar,W.high,i.lp⟩) ∧
  Aft G (G'.setFin a W'.body.length) {W with left:=W.left+1} (W'.endB W.high i.g a W.labs ⟨if i.lp then(i.beg:Int)+1 else(W'.body.length:Int)+1,i.ar,W.high,i.lp⟩) base:=by
 have hb:W.labs≠[]:=fun z=>by have:=B.inv.sc.1;rw[z]at this;cases this
 have I:=x.inv.endB x.labs hb x.ia har htg (by rw[hi];exact hh)
 rw[hi]at I
 have hs:=x.size
 have hh':=x.high
 have bh:=B.high
 have hne:∀b∈W.labs,b≠a:=fun b hb z=>hal (z▸hb)
 refine⟨I,rfl,by show W'.left≤W.left+1;have:=x.left;lia,by show base≤W.high+i.g;lia,fun b hb'=>?_,x.inf,fun b hb'=>?_,x.els,?_,?_⟩
 ·show(if b=a then _ else W'.lab b)=_
  rw[if_neg (hne b hb')];exact x.lab b hb'
 ·show(if b=a then _ else _)=_
  rw[if_neg (hne b hb')];exact x.fin b hb'
 ·show((W'.body++[[11]]).length:Int)+(W.high+i.g)+30*W'.left≤W.body.length+W.high+30*((W.left+1:Nat):Int)
  rw[qC];simp;lia
 ·show _≤(W'.body++[[11]]).length
  rw[qC];have:=x.len;show W.body.length≤_;lia
end
section
variable {g:Gx}{A:Adr}{n:Nat}
theorem WAt.fresh {P:WA}{sc:List Int}{W W':Wd}{H:Hp}{root a:Addr}{G:Gw}(h:WAt P sc W' H)(I:Inv root G W)(e:W'.lab=W.lab)(ha:H a=none):G.inf a=none:=by
 cases hi:G.inf a with
 | none=>rfl
 | some i=>have:=(h.lab a _ (by rw[e];exact I.tab a i hi)).1;rw[ha]at this;cases this
theorem WAt.openB {P:WA}{sc:List Int}{W:Wd}{H:Hp}{c m:Int}{t g:Nat}{a:Addr}{l:Lb}(h:WAt P sc (W.emit (ux c t g) m) H)(ha:H a=none)(hm:m = - one c)(hl:l=⟨if c=3 then(W.body.length:Int)+1 else -1,if c=3 then t else g,W.high-t-one c,decide (c=3)⟩) :
  WAt P sc (W.openB c t g a) ((H.set a (.list [.int l.t,.int l.a,.int l.h,.bool l.lp])).set P.ls (.list (W.labs.map .ref++[.ref a]))):=by subst hm hl;exact h.push ha
end
section
variable {g:Gx}{A:Adr}{n:Nat}
def PS.drop:Nat→PS→PS
 | 0,s=>s
 | k+1,.cons _ r=>r.drop k
 | _+1,s=>s
theorem Wd.fill_pen (W:Wd):∀k,(W.fill k).pen=W.pen
 | 0=>rfl
 | k+1=>Wd.fill_pen W k
theorem Wd.drops_pen (W:Wd):∀k,(W.drops k).pen=W.pen
 | 0=>rfl
 | k+1=>Wd.drops_pen W k
theorem Wd.close_pen (W:Wd)(b:Int)(k:Nat):(W.close b k).pen=W.pen:=by
 unfold Wd.close
 split
 ·rw[Wd.fill_pen,Wd.drops_pen]
 ·rfl
theorem XC (K:Core g A){P:WA}{sc:List Int}{root a:Addr}{W W₄:Wd}{G G₄:Gw}{i:Inf}{base c:Int}{e:Int}{F:Fx}{v1 v2 v3 v4:V}{H:Hp}{Q:V→Hp→Prop}(hF:F.hd=none)(h:WAt P sc W₄ H)(X:Ins root G W a i G₄ W₄ e)(B:Bef root G W base)
  (hi:i.h=W.high) (hg:i.g≤2) (hlp:i.lp=decide (c=3)) (hal:a∉W.labs) (har:a≠root) (htg:i.cond=true→G₄.els a=none→i.t=i.g) (hh:W₄.live=true→W₄.high=W.high+i.g) (he:e≤27) (hs:(W.body.length:Int)+W.high+30*W.left≤1970) (hlb:W.labs.length≤100)
  (q:∀H' W' G',WAt P sc W' H'→Inv root G' W'→Aft G G' {W with left:=W.left+1} W' base→W'.left≤W.left→W'.pen=W₄.pen→Q .none H') :
  vss (PS.drop 10 jz.body) (Cx.of g F ExF.still ExF.still (n+3) (mkR A) jz.ns) [some (.ref P.p),some (.ref P.w),some v1,some v2,some (.int c),some v3,some (.int i.g),some v4,some (.int W.high),some (.ref a)] H (fun fl _ H'=>Q (match fl with | .ret x=>x | _=>.none) H'):=by
 obtain⟨I,A₅⟩:=X.end B hi hg hal har htg hh he
 have hf:G₄.fin a=none:=X.inv.nofin a (by rw[X.labs];exact qA _ (.head _))
 have ht:=X.inv.tab a i X.ia
 rw[hf]at ht
 dsimp only at ht
 have hw:=h.hw
 have hsz:=X.size
 have b0:=B.b0
 have bh:=B.high
 have xh:=X.high
 have hll:W₄.labs.length≤101:=by rw[X.labs,qC];simp;lia
 have l2:=X.inv.l2
 have l3:=X.inv.l3
 dsimp only[PS.drop,jz]
 ac_rfl
 refine(jE K (op:=[11]) (m:=0) (W:={W₄ with high:=W.high+i.g,live:=W₄.live,left:=W₄.left}) h.dict (by show W₄.body.length≤_;lia) (by show W₄.hts.length≤_;lia) (by show W₄.opens.length≤_;lia) (by show W₄.labs.length≤_;lia) fun H₅ h₅=>?_).calm
 have hw₅:=h₅.hw
 have hb₅:=h₅.hb
 have hl₅:H₅ P.ls=some (.list (W.labs.map .ref++[.ref a])):=by
  have e:W₄.labs.map V.ref=W.labs.map .ref++[.ref a]:=by rw[X.labs,qI];rfl
  rw[← e];exact h₅.hl
 have n3:=h₅.n3
 obtain⟨hla,e1,e2,e3,e4,e5⟩:=h₅.lab a _ ht
 unfold Lb.l at hla
 dsimp only at hla
 ac_rfl
 ·have hc:c≠3:=by assumption
  have hl:i.lp=false:=by rw[hlp];exact decide_eq_false hc
  have eL:(⟨if i.lp then(i.beg:Int)+1 else(W₄.body.length:Int)+1,i.ar,W.high,i.lp⟩:Lb)=⟨(List.map opV (W₄.body++[[11]])).length,i.ar,i.h,i.lp⟩:=by
   rw[hi,hl];simp
  rw[eL]at I A₅
  exact q _ _ _ (((h₅.pop (below:=W.labs)).setLab ht).dict.dict) I A₅ X.left rfl
 ·have hc:c=3:=by lia
  have hl:i.lp=true:=by rw[hlp];exact decide_eq_true hc
  have eF:(fun b=>if b=a then some (⟨if i.lp then(i.beg:Int)+1 else(W₄.body.length:Int)+1,i.ar,W.high,i.lp⟩:Lb)else W₄.lab b)=W₄.lab:=by
   funext b
   by_cases z:b=a
   ·subst z;rw[if_pos rfl,ht,hl,hi];rfl
   ·exact if_neg z
  unfold Wd.endB at I A₅
  rw[eF]at I A₅
  exact q _ _ _ ((h₅.pop (below:=W.labs)).dict.dict) I A₅ X.left rfl
end
def PS.hd:PS→PS
 | .cons s _=>s
 | s=>s
section
variable {g:Gx}{A:Adr}{n:Nat}
theorem Yv (K:Core g A){P:WA}{sc:List Int}{root a:Addr}{d:Nat}(L:yB g A P sc root d (n+3)){W W₄:Wd}{G G₄:Gw}{i:Inf}{base c x:Int}{F:Fx}{v4:V}{H:Hp}{Q:jD}{R:PS}(hF:F.hd=none)(h:WAt P sc W₄ H)(X:Ins root G W a i G₄ W₄ 10)(B:Bef root G W base)
  (hc:c=2∨c=3∨c=4) (hcd:i.cond=decide (c=4))
  (hi:i.h=W.high) (ht:i.t≤2) (hg:i.g≤2) (hal:a∉W.labs) (har:a≠root) (hea:G₄.els a=none) (hh:W₄.live=true→W₄.high=W.high+i.g) (hs:(W.body.length:Int)+W.high+30*W.left≤1970) (hlb:W.labs.length+(d+1)≤100) (hpen:W₄.pen+4*7 ^ d≤100000)
  (T:∀H' W' G' e',WAt P sc W' H'→Ins root G W a i G' W' e'→e'≤27→(i.cond=true→G'.els a=none→i.t=i.g)→(W'.live=true→W'.high=W.high+i.g)→W'.pen≤W₄.pen+4*7 ^ d →
   vss R (Cx.of g F ExF.still ExF.still (n+3) (mkR A) jz.ns) [some (.ref P.p),some (.ref P.w),some (.int (d+1:Nat)),some (.int x),some (.int c),some (.int i.t),some (.int i.g),some v4,some (.int W.high),some (.ref a)] H' Q) :
  vss (.cons (PS.hd (PS.drop 9 jz.body)) R) (Cx.of g F ExF.still ExF.still (n+3) (mkR A) jz.ns) [some (.ref P.p),some (.ref P.w),some (.int (d+1:Nat)),some (.int x),some (.int c),some (.int i.t),some (.int i.g),some v4,some (.int W.high),some (.ref a)] H Q:=by
 have hw:=h.hw
 have hsz:=X.size
 have b0:=B.b0
 have bh:=B.high
 have xh:=X.high
 have hll:W₄.labs.length≤101:=by rw[X.labs,qC];simp;lia
 have l2:=X.inv.l2
 have l3:=X.inv.l3
 have hbl:W.labs≠[]:=fun z=>by have:=B.inv.sc.1;rw[z]at this;cases this
 have hd1:((d+1:Nat):Int)-1=d:=by lia
 have skip:(c=4→i.t=i.g)→vss R (Cx.of g F ExF.still ExF.still (n+3) (mkR A) jz.ns) [some (.ref P.p),some (.ref P.w),some (.int (d+1:Nat)),some (.int x),some (.int c),some (.int i.t),some (.int i.g),some v4,some (.int W.high),some (.ref a)] H Q:=fun z=>
  T H W₄ G₄ 10 h X (by lia) (fun k _=>z (by rw[hcd]at k;exact jB k)) hh (by lia)
 have other:c=4→∀H₅,WAt P sc (W₄.elseB W.high i.t i.g) H₅→jb g ExF.still (n+3) (.ref (A.fn uP)) [.ref P.p,.ref P.w,.int ((d+1:Nat)-1:Int),.int W.high] H₅ (fun _ H₆=>jb g ExF.still (n+3) (.ref (A.fn uu)) [.ref P.w,.int W.high,.int i.g] H₆ fun _ H₇=>
   vss R (Cx.of g F ExF.still ExF.still (n+3) (mkR A) jz.ns) [some (.ref P.p),some (.ref P.w),some (.int (d+1:Nat)),some (.int x),some (.int c),some (.int i.t),some (.int i.g),some v4,some (.int W.high),some (.ref a)] H₇ Q):=fun h4 H₅ h₅=>by
  rw[hd1]
  have Y:=X.elseB hi ht hg hbl hal har hea hh
  have he₅:(G₄.setEls a W₄.body.length).els a=some W₄.body.length:=if_pos rfl
  refine L _ _ _ _ _ h₅ (Y.bef B hi (by lia)) (by rw[Y.labs,qC];simp;lia) hpen fun H₆ W₆ G₆ h₆ I₆ A₆ p₆=>?_
  have Z:=Y.aft A₆ I₆
  have hz:=Z.size
  have zh:=Z.high
  obtain⟨Z',hh'⟩:=Z.close (by lia) hg
  refine Kr K h₆ ⟨by lia,I₆.l2,I₆.l3,by rw[Z.labs,qC];simp;lia⟩ (by lia) (by lia) fun H₇ h₇=>T _ _ _ _ h₇ Z' (by lia) (fun _ k=>?_) hh' (by rw[Wd.close_pen];exact p₆)
  rw[Y.elsA A₆,he₅]at k;cases k
 dsimp only[PS.drop,PS.hd,jz]
 rcases hc with rfl | rfl | rfl
 ·ac_rfl
  exact skip (fun z=>by lia)
 ·ac_rfl
  exact skip (fun z=>by lia)
 ·have other:=other rfl
  have last:∀lv,WAt P sc {W₄ with high:=W.high+i.g,live:=lv,left:=W₄.left} (H.set P.w (.dict (.s [("body",.ref P.b),("heights",.ref P.hh),("open",.ref P.o),("high",.int (W.high+i.g)),("live",.bool lv),("left",.int W₄.left),("labels",.ref P.ls)]))):=fun lv=>h.dict
  cases hl:W₄.live with
  | true=>
   rw[hl,hh hl]at hw
   ac_rfl
   rotate_right
   ·exact skip (fun _=>by have z:=‹¬_≠_›;lia)
   all_goals
    refine(jE K (op:=[5]) (m:=0) (last true) (by show W₄.body.length≤_;lia) (by show W₄.hts.length≤_;lia) (by show W₄.opens.length≤_;lia) (by show W₄.labs.length≤_;lia) fun H₅ h₅=>?_).calm
    have hw₅:=h₅.hw
    ac_rfl
    refine(other _ ((h₅.dict (hi:=W.high+i.t) (lv:=true) (lf:=W₄.left)).dict (hi:=W.high+i.t) (lv:=true) (lf:=W₄.left))).mono fun _ H₆ hk=>?_
    ac_rfl
    refine hk.mono fun _ H₇ hv=>?_
    ac_rfl
    exact hv
  | false=>
   rw[hl]at hw
   ac_rfl
   rotate_right
   ·exact skip (fun _=>by have z:=‹¬_≠_›;lia)
   all_goals
    refine(jE K (op:=[5]) (m:=0) (last false) (by show W₄.body.length≤_;lia) (by show W₄.hts.length≤_;lia) (by show W₄.opens.length≤_;lia) (by show W₄.labs.length≤_;lia) fun H₅ h₅=>?_).calm
    have hw₅:=h₅.hw
    ac_rfl
    refine(other _ ((h₅.dict (hi:=W.high+i.t) (lv:=false) (lf:=W₄.left)).dict (hi:=W.high+i.t) (lv:=true) (lf:=W₄.left))).mono fun _ H₆ hk=>?_
    ac_rfl
    refine hk.mono fun _ H₇ hv=>?_
    ac_rfl
    exact hv
end
section
variable {g:Gx}{A:Adr}{n:Nat}
theorem Ks (K:Core g A){P:WA}{sc:List Int}{root:Addr}{d:Nat}(L:yB g A P sc root d (n+3)):zl g A P sc root d (n+4):=by
 intro H W G base x Q h B hlive hx hsz hlb hpen q
 obtain⟨t,ht,ht2⟩:∃t:Nat,(x.fdiv 3).fmod 3=t∧t≤2:=⟨((x.fdiv 3).fmod 3).toNat,by rw[qT _ (by decide)];lia,by rw[qT _ (by decide)];lia⟩
 obtain⟨gv,hg,hg2⟩:∃t:Nat,(x.fdiv 9).fmod 3=t∧t≤2:=⟨((x.fdiv 9).fmod 3).toNat,by rw[qT _ (by decide)];lia,by rw[qT _ (by decide)];lia⟩
 obtain⟨j,c,hj,hy,hc⟩:∃j c,Idx (x.fmod 3) [V.int 2,V.int 3,V.int 4].length j∧[V.int 2,V.int 3,V.int 4][j]? = some (.int c)∧(c=2∨c=3∨c=4):=by
  have:x.fmod 3=0∨x.fmod 3=1∨x.fmod 3=2:=by rw[qT _ (by decide)];lia
  rcases this with e | e | e<;>rw[e]
  ·exact⟨0,2,⟨by decide,.inl rfl⟩,rfl,.inl rfl⟩
  ·exact⟨1,3,⟨by decide,.inl rfl⟩,rfl,.inr (.inl rfl)⟩
  ·exact⟨2,4,⟨by decide,.inl rfl⟩,rfl,.inr (.inr rfl)⟩
 have hsm:=B.sm (by lia)
 have b0:=B.b0
 have bh:=B.high
 have hm3:IntMulOk 3 (t:Int):=.of_le (m:=2) (n:=64) (intBits_le_iff.mpr (by decide)) (intBits_cast_le (by rw[sizeLine_eq];lia)) (by decide)
 have hp1:1≤7 ^ d:=Nat.one_le_pow _ _ (by decide)
 have hd1:((d+1:Nat):Int)-1=d:=by lia
 have rest:∀(F:Fx),F.hd=none→∀(c:Int),c=2∨c=3∨c=4→∀k:Nat,(k:Int)=t+one c→∀(a:Addr) (H₃:Hp) (bv:V),G.inf a=none→WAt P sc ((W.fill k).openB c t gv a) H₃ →
   jb g ExF.still (n+3) (.ref (A.fn uP)) [.ref P.p,.ref P.w,.int ((d+1:Nat)-1:Int),.int W.high] H₃ (fun _ H₄=>jb g ExF.still (n+3) (.ref (A.fn uu)) [.ref P.w,.int W.high,.int gv] H₄ fun _ H₅=>
    vss (PS.drop 9 jz.body) (Cx.of g F ExF.still ExF.still (n+3) (mkR A) jz.ns) [some (.ref P.p),some (.ref P.w),some (.int (d+1:Nat)),some (.int x),some (.int c),some (.int t),some (.int gv),some bv,some (.int W.high),some (.ref a)] H₅ (fun fl _ H'=>Q (match fl with | .ret x=>x | _=>.none) H')):=by
  intro F hF c hc k hk a H₃ bv ha h₃
  obtain⟨X,hih,hea,hal,har⟩:=Ins.open B hlive hc hk ht2 hg2 ha
  rw[hd1]
  have hp:((W.fill k).openB c t gv a).pen=W.pen:=Wd.fill_pen W k
  refine L _ _ _ _ _ h₃ (X.bef B hih (by lia)) (by rw[X.labs,qC];simp;lia) (by rw[hp];lia) fun H₄ W₄ G₄ h₄ I₄ A₄ p₄=>?_
  have Y:=X.aft A₄ I₄
  have hys:=Y.size
  have yh:=Y.high
  rw[hp]at p₄
  have w0:0≤W.high:=Int.le_trans b0 bh
  obtain⟨Z,hh⟩:=Y.close w0 hg2
  have hlen:W₄.labs.length≤1000:=by rw[Y.labs,qC];simp;lia
  refine Kr K h₄ ⟨by lia,I₄.l2,I₄.l3,hlen⟩ (by lia) (by lia) fun H₅ h₅=>?_
  have p₅:(W₄.close W.high gv).pen≤W.pen+4*7 ^ d:=by rw[Wd.close_pen];exact p₄
  refine Yv (i:=jS (W.fill k) c t gv) (R:=PS.drop 10 jz.body) K L hF h₅ Z B hc rfl hih ht2 hg2 hal har ((Y.elsA (Aft.refl _ _ Y.high)).trans ((X.elsA A₄).trans hea)) hh hsz hlb (by lia) ?_
  intro H₆ W₆ G₆ e₆ h₆ X₆ he₆ htg hh₆ p₆
  exact XC (i:=jS (W.fill k) c t gv) K hF h₆ X₆ B hih hg2 rfl hal har htg hh₆ he₆ hsz (by lia) fun H' W' G' w1 w2 w3 w4 w5=>q H' W' G' w1 w2 w3 w4 (by lia)
 refine jj K.G K.Rk K.k_law_block rfl fun F ok hh=>?_
 ac_rfl
 refine jt j hj hy ?_
 rcases hc with rfl | rfl | rfl
 ·ac_rfl
  rw[ht,hg,show((t:Int)+0)=((t+0:Nat):Int)from rfl]
  refine um K h (hsm.le (by lia)) (by lia) fun H₁ h₁=>?_
  have hw₁:=h₁.hw
  have hb₁:=h₁.hb
  obtain⟨s1,s2,s3,s4⟩:=hsm.fill (t+0)
  obtain⟨I1,v1,hi1,la1,lb1,le1,bo1⟩:=B.inv.fill hlive (t+0)
  ac_rfl
  refine(jE K (op:=ux 2 t gv) (m:=0) h₁ (by lia) (by lia) (by lia) (by lia) fun H₂ h₂=>?_).calm
  have hw₂:=h₂.hw
  have hl₂:=h₂.hl
  have hq:(List.map V.ref ((W.fill (t+0)).emit (ux 2 t gv) (0)).labs).length≤16000000:=by
   rw[qD];show(W.fill (t+0)).labs.length≤_;rw[la1];lia
  ac_rfl
  have hfr:H₂ d_1=none:=by nofun
  have h₃:=h₂.openB (l:=⟨-1,gv,(W.fill (t+0)).high-t-0,false⟩) hfr rfl rfl
  have hbase:(W.fill (t+0)).high-(t:Int)-0=W.high:=by rw[hi1];lia
  have hbl:((List.map opV (W.fill (t+0)).body).length:Int)=((W.fill (t+0)).body.length:Int):=by rw[qD]
  dsimp only at h₃
  rw[hbase]at h₃ ⊢
  rw[hbl]
  refine(rest F hh 2 (.inl rfl) (t+0) rfl d_1 _ (.int ((W.fill (t+0)).body.length:Int)) (h₂.fresh B.inv lb1 hfr) h₃).mono fun _ H₄ k₄=>?_
  ac_rfl
  exact k₄.mono fun _ H₅ k₅=>k₅
 ·ac_rfl
  rw[ht,hg,show((t:Int)+0)=((t+0:Nat):Int)from rfl]
  refine um K h (hsm.le (by lia)) (by lia) fun H₁ h₁=>?_
  have hw₁:=h₁.hw
  have hb₁:=h₁.hb
  obtain⟨s1,s2,s3,s4⟩:=hsm.fill (t+0)
  obtain⟨I1,v1,hi1,la1,lb1,le1,bo1⟩:=B.inv.fill hlive (t+0)
  ac_rfl
  refine(jE K (op:=ux 3 t gv) (m:=0) h₁ (by lia) (by lia) (by lia) (by lia) fun H₂ h₂=>?_).calm
  have hw₂:=h₂.hw
  have hl₂:=h₂.hl
  have hq:(List.map V.ref ((W.fill (t+0)).emit (ux 3 t gv) (0)).labs).length≤16000000:=by
   rw[qD];show(W.fill (t+0)).labs.length≤_;rw[la1];lia
  ac_rfl
  have hfr:H₂ d_1=none:=by nofun
  have h₃:=h₂.openB (l:=⟨((W.fill (t+0)).body.length:Int)+1,t,(W.fill (t+0)).high-t-0,true⟩) hfr rfl rfl
  have hbase:(W.fill (t+0)).high-(t:Int)-0=W.high:=by rw[hi1];lia
  have hbl:((List.map opV (W.fill (t+0)).body).length:Int)=((W.fill (t+0)).body.length:Int):=by rw[qD]
  dsimp only at h₃
  rw[hbase]at h₃ ⊢
  rw[hbl]
  refine(rest F hh 3 (.inr (.inl rfl)) (t+0) rfl d_1 _ (.int ((W.fill (t+0)).body.length:Int)) (h₂.fresh B.inv lb1 hfr) h₃).mono fun _ H₄ k₄=>?_
  ac_rfl
  exact k₄.mono fun _ H₅ k₅=>k₅
 ·ac_rfl
  rw[ht,hg,show((t:Int)+1)=((t+1:Nat):Int)from rfl]
  refine um K h (hsm.le (by lia)) (by lia) fun H₁ h₁=>?_
  have hw₁:=h₁.hw
  have hb₁:=h₁.hb
  obtain⟨s1,s2,s3,s4⟩:=hsm.fill (t+1)
  obtain⟨I1,v1,hi1,la1,lb1,le1,bo1⟩:=B.inv.fill hlive (t+1)
  ac_rfl
  refine(jE K (op:=ux 4 t gv) (m:=-1) h₁ (by lia) (by lia) (by lia) (by lia) fun H₂ h₂=>?_).calm
  have hw₂:=h₂.hw
  have hl₂:=h₂.hl
  have hq:(List.map V.ref ((W.fill (t+1)).emit (ux 4 t gv) (-1)).labs).length≤16000000:=by
   rw[qD];show(W.fill (t+1)).labs.length≤_;rw[la1];lia
  ac_rfl
  have hfr:H₂ d_1=none:=by nofun
  have h₃:=h₂.openB (l:=⟨-1,gv,(W.fill (t+1)).high-t-1,false⟩) hfr rfl rfl
  have hbase:(W.fill (t+1)).high-(t:Int)-1=W.high:=by rw[hi1];lia
  have hbl:((List.map opV (W.fill (t+1)).body).length:Int)=((W.fill (t+1)).body.length:Int):=by rw[qD]
  dsimp only at h₃
  rw[hbase]at h₃ ⊢
  rw[hbl]
  refine(rest F hh 4 (.inr (.inr rfl)) (t+1) rfl d_1 _ (.int ((W.fill (t+1)).body.length:Int)) (h₂.fresh B.inv lb1 hfr) h₃).mono fun _ H₄ k₄=>?_
  ac_rfl
  exact k₄.mono fun _ H₅ k₅=>k₅
end
section
variable {g:Gx}{A:Adr}{n:Nat}
structure Lst (P:WA)(sc:List Int)(root:Addr)(W:Wd)(G:Gw)(base:Int)(pn:Nat)(H:Hp):Prop where
 ex:∃W' G',WAt P sc W' H∧Inv root G' W'∧Aft G G' W W' base∧W'.pen≤pn
theorem Lst.step {P:WA}{sc:List Int}{root:Addr}{W W' W'':Wd}{G G':Gw}{base:Int}{pn:Nat}{H:Hp}(h:WAt P sc W'' H)(I:Inv root G' W'')(a:Aft G G' W W' base)
  (h1:W''.labs=W'.labs) (h2:W''.lab=W'.lab) (h3:W''.left+1=W'.left) (h4:base≤W''.high) (h5:(W''.body.length:Int)+W''.high≤W'.body.length+W'.high+30) (h6:W'.body.length≤W''.body.length) (hp:W''.pen≤pn):Lst P sc root W G base pn H:=
 ⟨W'',G',h,I,a.trans (.same h1 h2 (by lia) h4 (by lia) h6),hp⟩
theorem JJ (K:Core g A){P:WA}{sc:List Int}{root:Addr}{d:Nat}(Bk:∀d',d=d'+1→zl g A P sc root d' (n+3)):yB g A P sc root d (n+4):=by
 intro H W G base Q h B hlb hpen q
 obtain⟨c,hc1,hc2,hc3⟩:∃c:Nat,1≤c∧1+3*c≤4*7 ^ d∧∀d',d=d'+1→1+8*7 ^ d'≤c:=by
  cases d with
  | zero=>exact⟨1,by lia,by decide,fun d' e=>by lia⟩
  | succ d=>
   have:1≤7 ^ d:=Nat.one_le_pow _ _ (by decide)
   refine⟨1+8*7 ^ d,by lia,by rw[Nat.pow_succ];lia,fun d' e=>?_⟩
   obtain rfl:d=d':=by lia
   lia
 have b0:=B.b0
 refine jj K.G K.Rk K.k_law_list rfl fun F ok hh=>?_
 ac_rfl
 refine(next_W K h (by lia) fun r H₁ hr h₁=>?_).calm
 ac_rfl
 have er:r.fmod 3=r % 3:=qT _ (by decide)
 refine⟨_,_,.rng _ _ (by lia) (by lia),trivial,fun k σ H'=>∃y y5 y6,σ=[some (.ref P.p),some (.ref P.w),some (.int d),some (.int base),y,y5,y6]∧Lst P sc root W G base (W.pen+1+k*c) H',⟨_,_,_,rfl,⟨_,G,h₁,B.inv.setLeft _ _,.same rfl rfl (Nat.le_refl _) B.high (by show(W.body.length:Int)+W.high+30*W.left≤_;lia) (Nat.le_refl _),by show W.pen+1≤_;lia⟩⟩,?_,?_⟩
 ·rintro σ H' ⟨y,y5,y6,rfl,⟨W',G',h',I',A',p'⟩⟩ _
  ac_rfl
  refine q _ _ _ h' I' A' ?_
  rw[qD,List.length_range]at p'
  have:((1+r.fmod 3:Int)-0).toNat*c≤3*c:=Nat.mul_le_mul_right _ (by lia)
  lia
 ·rintro k σ H' y hy ⟨y4,y5,y6,rfl,⟨W',G',h',I',A',p'⟩⟩ _
  have hk:k<3:=by
   have:=(qF.mp hy).1
   rw[qD,List.length_range]at this
   lia
  have hkc:(k+1)*c≤3*c:=Nat.mul_le_mul_right _ (by lia)
  have hkc':(k+1)*c=k*c+c:=Nat.succ_mul ..
  ac_rfl
  refine(next_W K h' (by lia) fun x H₂ hx h₂=>?_).calm
  have hw₂:H₂ P.w=some (.dict (.s [("body",.ref P.b),("heights",.ref P.hh),("open",.ref P.o),("high",.int W'.high),("live",.bool W'.live),("left",.int W'.left),("labels",.ref P.ls)])):=h₂.hw
  have B':=B.aft A' I'
  have hsz:=B'.size
  have bh:=B'.high
  have e12:x.fdiv 12=x / 12:=Int.fdiv_eq_ediv_of_nonneg _ (by decide)
  have m12:x.fmod 12=x % 12:=qT _ (by decide)
  have m2:(x.fdiv 12).fmod 2=(x / 12) % 2:=by rw[e12];exact qT _ (by decide)
  have hx12:0≤x.fdiv 12:=by lia
  cases hl:W'.live with
  | false=>
   rw[hl]at hw₂
   ac_rfl
   exact q _ _ _ h₂ (I'.setLeft _ _) (A'.trans (.same rfl rfl (Nat.le_refl _) bh (by show(W'.body.length:Int)+W'.high+30*W'.left≤_;lia) (Nat.le_refl _))) (by show W'.pen+1≤_;lia)
  | true=>
   rw[hl]at hw₂
   by_cases hl0:(W'.left:Int)=0
   ·ac_rfl
    exact q _ _ _ h₂ (I'.setLeft _ _) (A'.trans (.same rfl rfl (Nat.le_refl _) bh (by show(W'.body.length:Int)+W'.high+30*W'.left≤_;lia) (Nat.le_refl _))) (by show W'.pen+1≤_;lia)
   have ecast:((W'.left:Int)-1)=((W'.left-1:Nat):Int):=by lia
   obtain⟨W₁,c1,c2,c3,c4,c5,c6,c7,h₃,I₁⟩:∃W₁:Wd,W₁.body=W'.body∧W₁.high=W'.high∧W₁.live=true∧W₁.left+1=W'.left∧W₁.pen=W'.pen+1∧W₁.labs=W'.labs∧W₁.lab=W'.lab ∧
     WAt P sc W₁ (H₂.set P.w (.dict (.s [("body",.ref P.b),("heights",.ref P.hh),("open",.ref P.o),("high",.int W'.high),("live",.bool true),("left",.int (W'.left-1:Nat)),("labels",.ref P.ls)])))∧Inv root G' W₁:=by
    have I₁:=I'.setLeft (W'.left-1) (W'.pen+1)
    rw[hl]at I₁
    exact⟨{W' with high:=W'.high,live:=true,left:=W'.left-1,pen:=W'.pen+1},rfl,rfl,rfl,by show W'.left-1+1=W'.left;lia,rfl,rfl,rfl,h₂.dict,I₁⟩
   have hlb':W₁.labs.length+d≤100:=by rw[c6,A'.labs];exact hlb
   have hb₁:W₁.body.length=W'.body.length:=by rw[c1]
   have B₁:Bef root G' W₁ base:=⟨I₁,b0,by rw[c2];exact bh,fun a i ha hi=>B'.hs a i (by rw[← c6];exact ha) hi,by lia⟩
   have s₁:=B₁.sm (by lia)
   have fill:∀m:Nat,m≤2→jb g ExF.still (n+3) (.ref (A.fn wS)) [.ref P.w,.int m] (H₂.set P.w (.dict (.s [("body",.ref P.b),("heights",.ref P.hh),("open",.ref P.o),("high",.int W'.high),("live",.bool true),("left",.int (W'.left-1:Nat)),("labels",.ref P.ls)]))) (fun _ H₅=>Lst P sc root W G base (W.pen+1+(k+1)*c) H₅∧WAt P sc (W₁.fill m) H₅):=fun m hm=>by
    obtain⟨I₂,v2,hi2,la2,lb2,le2,bo2⟩:=I₁.fill c3 m
    exact um K h₃ (s₁.le (by lia)) (by lia) fun H₅ h₅=>⟨.step h₅ I₂ A' (la2.trans c6) (lb2.trans c7) (by lia) (by lia) (by lia) (by lia) (by rw[Wd.fill_pen];lia),h₅⟩
   have emit:∀op:Op,Inv root G' (W₁.emit op (-1))→base+1≤W₁.high→jb g ExF.still (n+3) (.ref (A.fn wT)) [.ref P.w,opV op,.int (-1)] (H₂.set P.w (.dict (.s [("body",.ref P.b),("heights",.ref P.hh),("open",.ref P.o),("high",.int W'.high),("live",.bool true),("left",.int (W'.left-1:Nat)),("labels",.ref P.ls)]))) (fun _ H₅=>Lst P sc root W G base (W.pen+1+(k+1)*c) H₅):=fun op I₂ hb=>by
    have eb:(W₁.emit op (-1)).body.length=W₁.body.length+1:=by show(W₁.body++[op]).length=_;simp
    exact(jE K h₃ (by have:=s₁.b1;lia) (by have:=s₁.b1;have:=s₁.b2;lia) (by have:=s₁.b1;have:=s₁.b3;lia) (by have:=s₁.b4;lia) fun H₅ h₅=>.step h₅ I₂ A' c6 c7 c4 (by show base≤W₁.high + -1;lia) (by show((W₁.emit op (-1)).body.length:Int)+(W₁.high + -1)≤_;lia) (by lia) (by show W₁.pen≤_;lia)).calm
   ac_rfl
   all_goals rw[ecast]
   ·obtain⟨k',hk',hkl⟩:∃k':Nat,(x.fdiv 12).fmod W₁.labs.length=k'∧k'<W₁.labs.length:=by
     have h0:0<W₁.labs.length:=List.length_pos_iff.mpr fun z=>by have:=I₁.sc.1;rw[z]at this;cases this
     have:=Int.emod_nonneg (x.fdiv 12) (b:=W₁.labs.length) (by lia)
     have:=Int.emod_lt_of_pos (x.fdiv 12) (b:=W₁.labs.length) (by lia)
     refine⟨((x.fdiv 12) % W₁.labs.length).toNat,?_,by lia⟩
     rw[qT _ (by lia)];lia
    obtain⟨a,ha⟩:∃a,W₁.labs[W₁.labs.length-1-k']? = some a:=⟨_,qH (by lia)⟩
    obtain⟨i,hi,hib,hi0,hia⟩:=I₁.sc.2 _ _ ha
    have hp:x.fmod 12=8∨x.fmod 12=9∨x.fmod 12=10∨x.fmod 12=11:=by lia
    have hih:=B₁.hs a i (qW ha) hi
    have J:=I₁.jump c3 hp hx12 hkl ha hi (by lia) (by lia)
    refine jump_ok K (many:=if x.fmod 12=11 then 1 else i.ar) h₃ (s₁.le (by lia)) hp hkl hk' ha (I₁.tab a i hi) (fun z=>by rw[if_neg z]) (fun z=>if_pos z) (by split<;>lia) fun H₅ h₅=>?_
    ac_rfl
    generalize hmn:(if x.fmod 12=11 then 1 else i.ar)=many at *
    have hmn':many≤2:=by rw[← hmn];split<;>lia
    obtain⟨_,v2,hi2,la2,lb2,le2,bo2⟩:=I₁.fill c3 many
    have e1:(W₁.pre (x.fmod 12) many (x.fdiv 12)).labs=W₁.labs∧(W₁.pre (x.fmod 12) many (x.fdiv 12)).lab=W₁.lab∧(W₁.pre (x.fmod 12) many (x.fdiv 12)).left=W₁.left∧(W₁.pre (x.fmod 12) many (x.fdiv 12)).pen=W₁.pen ∧
      W₁.body.length≤(W₁.pre (x.fmod 12) many (x.fdiv 12)).body.length∧(W₁.pre (x.fmod 12) many (x.fdiv 12)).body.length≤W₁.body.length+3∧(W₁.pre (x.fmod 12) many (x.fdiv 12)).high≤W₁.high+3∧W₁.high+(if x.fmod 12=8 then 1 else 0)≤(W₁.pre (x.fmod 12) many (x.fdiv 12)).high:=by
     unfold Wd.pre
     split
     ·have e:((W₁.fill many).emit (uh (x.fdiv 12)) 1).body.length=(W₁.fill many).body.length+1:=by show((W₁.fill many).body++[_]).length=_;simp
      refine⟨la2,lb2,le2,Wd.fill_pen _ _,by lia,by lia,?_,?_⟩
      ·show(W₁.fill many).high+1≤_;lia
      ·show _≤(W₁.fill many).high+1;split<;>lia
     ·refine⟨la2,lb2,le2,Wd.fill_pen _ _,by lia,by lia,by lia,?_⟩
      rw[if_neg (by lia)];lia
    obtain⟨d1,d2,d3,d4,d5,d6,d7,d8⟩:=e1
    have e2:(W₁.jump (x.fmod 12) k' many (x.fdiv 12)).body.length=(W₁.pre (x.fmod 12) many (x.fdiv 12)).body.length+1:=by show((W₁.pre (x.fmod 12) many (x.fdiv 12)).body++[_]).length=_;simp
    have e3:(W₁.jump (x.fmod 12) k' many (x.fdiv 12)).high=(W₁.pre (x.fmod 12) many (x.fdiv 12)).high+(if x.fmod 12=8 then -1 else 0):=rfl
    have e4:W₁.high≤(W₁.jump (x.fmod 12) k' many (x.fdiv 12)).high∧(W₁.jump (x.fmod 12) k' many (x.fdiv 12)).high≤W₁.high+3:=by
     rw[e3]
     by_cases z:x.fmod 12=8
     ·rw[if_pos z]at d8 ⊢;lia
     ·rw[if_neg z]at d8 ⊢;lia
    exact⟨_,Hp.Sub.refl _,⟨_,_,_,rfl,.step h₅ J A' (d1.trans c6) (d2.trans c7) (by show(W₁.pre (x.fmod 12) many (x.fdiv 12)).left+1=_;lia) (by lia) (by lia) (by lia) (by show(W₁.pre (x.fmod 12) many (x.fdiv 12)).pen≤_;lia)⟩,trivial⟩
   ·obtain⟨d',rfl⟩:∃d',d=d'+1:=⟨d-1,by lia⟩
    have:=hc3 d' rfl
    refine Bk d' rfl _ _ _ _ _ _ h₃ B₁ c3 hx12 (by lia) hlb' (by lia) fun H₅ W₅ G₅ h₅ I₅ A₅ l₅ p₅=>?_
    ac_rfl
    have y0:Aft G' G' W' {W₁ with left:=W₁.left+1} base:=.same c6 c7 (by show W₁.left+1≤_;lia) (by show base≤W₁.high;lia) (by show(W₁.body.length:Int)+W₁.high+30*((W₁.left+1:Nat):Int)≤_;lia) (by show _≤W₁.body.length;lia)
    exact⟨_,Hp.Sub.refl _,⟨_,_,_,rfl,⟨W₅,G₅,h₅,I₅,A'.trans (y0.trans A₅),by lia⟩⟩,trivial⟩
   ·obtain⟨m,hm,hm2⟩:∃m:Nat,1+(x.fdiv 12).fmod 2=m∧m≤2:=⟨(1+(x.fdiv 12).fmod 2).toNat,by lia,by lia⟩
    rw[hm]
    refine(fill m hm2).mono fun _ H₅ h₅=>?_
    ac_rfl
    exact⟨_,Hp.Sub.refl _,⟨_,_,_,rfl,h₅.1⟩,trivial⟩
   ·refine(fill 1 (by decide)).mono fun _ H₅ h₅=>?_
    ac_rfl
    obtain⟨I₂,v2,hi2,la2,lb2,le2,bo2⟩:=I₁.fill c3 1
    refine(jE K (op:=[16,1]) (m:=0) h₅.2 (by have:=s₁.b1;lia) (by rw[I₂.l2];have:=s₁.b1;lia) (by rw[I₂.l3];have:=s₁.b1;lia) (by rw[la2];lia) fun H₆ h₆=>?_).calm
    ac_rfl
    have eb:((W₁.fill 1).emit [16,1] 0).body.length=(W₁.fill 1).body.length+1:=by show((W₁.fill 1).body++[_]).length=_;simp
    exact⟨_,Hp.Sub.refl _,⟨_,_,_,rfl,.step h₆ (I₂.call v2 (by lia)) A' (la2.trans c6) (lb2.trans c7) (by show(W₁.fill 1).left+1=_;lia) (by show base≤(W₁.fill 1).high+0;lia) (by show(((W₁.fill 1).emit [16,1] 0).body.length:Int)+((W₁.fill 1).high+0)≤_;lia) (by lia) (by show(W₁.fill 1).pen≤_;rw[Wd.fill_pen];lia)⟩,trivial⟩
   ·refine(emit [106+(x.fdiv 12).fmod 2] (I₁.add c3 (by lia) (by lia)) (by lia)).mono fun _ H₅ h₅=>?_
    ac_rfl
    exact⟨_,Hp.Sub.refl _,⟨_,_,_,rfl,h₅⟩,trivial⟩
   ·obtain⟨m,hm,hm2⟩:∃m:Nat,1+(x.fdiv 12).fmod 2=m∧m≤2:=⟨(1+(x.fdiv 12).fmod 2).toNat,by lia,by lia⟩
    rw[hm]
    refine(fill m hm2).mono fun _ H₅ h₅=>?_
    ac_rfl
    exact⟨_,Hp.Sub.refl _,⟨_,_,_,rfl,h₅.1⟩,trivial⟩
   ·refine(emit [33,(x.fdiv 12).fmod 2] (I₁.setL c3 (by lia) (by lia)) (by lia)).mono fun _ H₅ h₅=>?_
    ac_rfl
    exact⟨_,Hp.Sub.refl _,⟨_,_,_,rfl,h₅⟩,trivial⟩
   ·refine(emit [26] (I₁.drop1 c3 (by lia)) (by lia)).mono fun _ H₅ h₅=>?_
    ac_rfl
    exact⟨_,Hp.Sub.refl _,⟨_,_,_,rfl,h₅⟩,trivial⟩
   ·obtain⟨m,hm,hm2⟩:∃m:Nat,1+(x.fdiv 12).fmod 2=m∧m≤2:=⟨(1+(x.fdiv 12).fmod 2).toNat,by lia,by lia⟩
    rw[hm]
    refine(fill m hm2).mono fun _ H₅ h₅=>?_
    ac_rfl
    exact⟨_,Hp.Sub.refl _,⟨_,_,_,rfl,h₅.1⟩,trivial⟩
   ·obtain⟨m,hm,hm2⟩:∃m:Nat,1+(x.fdiv 12).fmod 2=m∧m≤2:=⟨(1+(x.fdiv 12).fmod 2).toNat,by lia,by lia⟩
    rw[hm]
    refine(fill m hm2).mono fun _ H₅ h₅=>?_
    ac_rfl
    exact⟨_,Hp.Sub.refl _,⟨_,_,_,rfl,h₅.1⟩,trivial⟩
end
section
variable {g:Gx}{A:Adr}{n:Nat}
theorem UH (K:Core g A){P:WA}{sc:List Int}{root:Addr}:yB g A P sc root 3 (n+10):=by
 have l0:yB g A P sc root 0 (n+4):=JJ K fun d' e=>by lia
 have b0:zl g A P sc root 0 (n+5):=Ks (n:=n+1) K l0
 have l1:yB g A P sc root 1 (n+6):=JJ (n:=n+2) K fun d' e=>by cases Nat.succ.inj e;exact b0
 have b1:zl g A P sc root 1 (n+7):=Ks (n:=n+3) K l1
 have l2:yB g A P sc root 2 (n+8):=JJ (n:=n+4) K fun d' e=>by cases Nat.succ.inj e;exact b1
 have b2:zl g A P sc root 2 (n+9):=Ks (n:=n+5) K l2
 exact JJ (n:=n+6) K fun d' e=>by cases Nat.succ.inj e;exact b2
end
def Wd.Fin (W:Wd)(q:Nat)(ids:List Addr)(v:Int):Prop:=W.StrictAt q ids v∧(q+1=W.body.length→v=1)
structure Cert (root:Addr)(G:Gw)(W:Wd):Prop where
 l2:W.hts.length=W.body.length
 l3:W.opens.length=W.body.length
 facts:∀p op ids v,W.body[p]? = some op→W.opens[p]? = some ids→W.hts[p]? = some v→(p+1=W.body.length→v=1)→Fact W.Fin G p ids v op∧Stk G root ids
 stk:∀ids∈W.opens,Stk G root ids
 start:W.Fin 0 [root] 0
 five:∀k,k<W.body.length→qr W.body k=5→(mtOf W.body k).opened≠[]
 iroot:G.inf root=some ⟨1,0,false,[],0,1,0,false⟩
 froot:∃n,G.fin root=some n∧n+1=W.body.length∧W.body[n]? = some [11]
 inj:∀a b i j,G.inf a=some i→G.inf b=some j→a≠root→b≠root→i.beg=j.beg→a=b
 tab:∀a i,G.inf a=some i→∃n,G.fin a=some n∧W.lab a=some ⟨if i.lp then(i.beg:Int)+1 else(n:Int)+1,i.ar,i.h,i.lp⟩
 fins:∀a i n,G.inf a=some i→G.fin a=some n→a≠root→W.body[n]? = some [11]∧W.StrictAt n (i.below++[a]) (i.h+i.g)∧(i.cond=true→G.els a=none→i.t=i.g)∧n+1<W.body.length
 elss:∀a i e,G.inf a=some i→G.els a=some e→W.body[e]? = some [5]∧W.StrictAt e (i.below++[a]) (i.h+i.g)∧W.Fin (e+1) (i.below++[a]) (i.h+i.t)
 begs:∀a i,G.inf a=some i→a≠root→∃c:Int,(c=2∨c=3∨c=4)∧W.body[i.beg]? = some ([c,3*(i.t:Int)+(i.g:Int)]:Op)∧W.opens[i.beg]? = some i.below
 mts:∀a i n,G.inf a=some i→a≠root→G.fin a=some n→getK (mtOf W.body W.body.length).ends i.beg=some (.int n)∧∀e,G.els a=some e→getK (mtOf W.body W.body.length).ends e=some (.int n)
 mte:∀a i,G.inf a=some i→a≠root→getK (mtOf W.body W.body.length).elses i.beg=(G.els a).map fun e:Nat=>V.int (e:Int)
def Wd.last (W:Wd)(root:Addr):Wd:={W.emit [11] 0 with lab:=fun b=>if b=root then some ⟨(W.body.length:Int)+1,1,0,false⟩else W.lab b}
theorem Inv.finish {root:Addr}{G:Gw}{W:Wd}(I:Inv root G W)(hl:W.labs=[root])(hh:W.live=true→W.high=1):Cert root (G.setFin root W.body.length) (W.last root):=by
 have gr:uy W (W.last root) [11]:=⟨rfl,rfl,rfl⟩
 have hlen:(W.last root).body.length=W.body.length+1:=by rw[gr.b,qC];rfl
 have hA:∀q ids v,W.At q ids v→(W.last root).Fin q ids v:=fun q ids v h=>by
  refine⟨?_,fun e=>?_⟩
  ·rcases h with h | ⟨rfl,_,rfl,rfl⟩
   ·exact gr.strict h
   ·exact gr.new I.l2 I.l3
  ·rw[hlen]at e
   rcases h with h | ⟨_,hv,rfl,_⟩
   ·have:=(qF.mp h.1).1
    rw[I.l2]at this;lia
   ·exact hh hv
 have hf0:G.fin root=none:=I.nofin root (by rw[hl];exact .head _)
 have hfr:(G.setFin root W.body.length).fin root=some W.body.length:=if_pos rfl
 have hff:∀b n,G.fin b=some n→(G.setFin root W.body.length).fin b=some n:=fun b n h=>by
  show(if b=root then _ else _)=_
  rw[if_neg (fun z=>by rw[z,hf0]at h;cases h),h]
 have hfn:∀b,b≠root→(G.setFin root W.body.length).fin b=G.fin b:=fun b h=>if_neg h
 have hm:mtOf (W.last root).body (W.last root).body.length=mtOf W.body W.body.length:=by
  have e:=I.mto
  rw[hl]at e
  rw[gr.b,wH]
  unfold Mt.step
  rw[if_neg (by decide),if_neg (by decide),if_pos (by rfl),show(mtOf W.body W.body.length).opened=[]from e]
  rfl
 have old:∀{p:Nat} {o:Op},W.body[p]? = some o→(W.last root).body[p]? = some o:=fun {p o} h=>by
  rw[gr.b,qJ (qF.mp h).1,h]
 have oldo:∀{p:Nat} {o:List Addr},W.opens[p]? = some o→(W.last root).opens[p]? = some o:=fun {p o} h=>by
  rw[gr.o,qJ (qF.mp h).1,h]
 obtain⟨n1,n2⟩:=gr.new I.l2 I.l3
 have nb:(W.last root).body[W.body.length]? = some [11]:=by
  rw[gr.b,qX (Nat.le_refl _),Nat.sub_self];rfl
 refine {l2:=?_,l3:=?_,facts:=fun p op ids v h1 h2 h3 h4=>?_,stk:=fun ids hids=>?_,iroot:=I.iroot,start:=hA _ _ _ I.start,five:=(by rw[gr.b];exact wI I.five fun z=>absurd z (by decide)),froot:=⟨_,hfr,hlen.symm,nb⟩,inj:=I.inj,tab:=fun b j h=>?_,fins:=fun b j n h1 h2 h3=>?_,elss:=fun b j e h1 h2=>?_,begs:=fun b j h1 h2=>?_,mts:=fun b j n h1 h2 h3=>?_,mte:=by rw[hm];exact I.mte}
 ·rw[gr.h,gr.b,qC,qC,I.l2];rfl
 ·rw[gr.o,gr.b,qC,qC,I.l3];rfl
 ·by_cases hp:p<W.body.length
  ·rw[gr.b,qJ hp]at h1
   rw[gr.o,qJ (by rw[I.l3];exact hp)]at h2
   rw[gr.h,qJ (by rw[I.l2];exact hp)]at h3
   obtain⟨f',s⟩:=I.facts p op ids v h1 h2 h3
   exact⟨Fact.mono (G:=G) hA (fun _ _ h=>h) hff (fun _ _ h=>h) f',⟨s.1,s.2⟩⟩
  ·have hp':p=W.body.length:=by
    have:=(qF.mp h1).1
    rw[hlen]at this;lia
   subst hp'
   rw[n2]at h2;rw[n1]at h3;rw[nb]at h1
   cases h1;cases h2;cases h3
   exact⟨.last root hl hfr (h4 hlen.symm),⟨I.sc.1,I.sc.2⟩⟩
 ·rw[gr.o]at hids
  rcases qO.mp hids with hids | hids
  ·obtain⟨p,hp,rfl⟩:=qZ.mp hids
   have hp':p<W.body.length:=by rw[← I.l3];exact hp
   obtain⟨_,s⟩:=I.facts p _ _ _ (qH hp') (qH hp) (qH (by rw[I.l2];exact hp'))
   exact⟨s.1,s.2⟩
  ·rw[qR.mp hids];exact⟨I.sc.1,I.sc.2⟩
 ·by_cases z:b=root
  ·subst z
   have h:G.inf b=some j:=h
   rw[I.iroot]at h;cases h
   exact⟨_,hfr,if_pos rfl⟩
  ·have h:G.inf b=some j:=h
   obtain⟨n,hn⟩:=I.isfin b j h (by rw[hl];simpa using z)
   refine⟨n,(hfn b z).trans hn,(if_neg z).trans ?_⟩
   rw[I.tab b j h,hn]
 ·rw[hfn b h3]at h2
  obtain⟨a1,a2,a3⟩:=I.fins b j n h1 h2 h3
  refine⟨old a1,gr.strict a2,a3,?_⟩
  have:=(qF.mp a1).1
  rw[hlen];lia
 ·obtain⟨a1,a2,a3⟩:=I.elss b j e h1 h2;exact⟨old a1,gr.strict a2,hA _ _ _ a3⟩
 ·obtain⟨c',a1,a2,a3⟩:=I.begs b j h1 h2;exact⟨c',a1,old a2,oldo a3⟩
 ·rw[hm];rw[hfn b h2]at h3;exact I.mts b j n h1 h2 h3
def Gw.zero (root:Addr):Gw:=⟨fun b=>if b=root then some ⟨1,0,false,[],0,1,0,false⟩else none,fun _=>none,fun _=>none⟩
theorem Inv.zero (root:Addr){pen:Nat}{lab:Addr→Option Lb}(hl:lab root=some ⟨-1,1,0,false⟩):Inv root (Gw.zero root) ⟨[],[],[],0,true,12,pen,[root],lab⟩:=by
 have hr:(Gw.zero root).inf root=some ⟨1,0,false,[],0,1,0,false⟩:=if_pos rfl
 have hi:∀b i,(Gw.zero root).inf b=some i→b=root∧i=⟨1,0,false,[],0,1,0,false⟩:=fun b i h=>by
  by_cases z:b=root
  ·subst z;rw[hr]at h;cases h;exact⟨rfl,rfl⟩
  ·have:(Gw.zero root).inf b=none:=if_neg z
   rw[this]at h;cases h
 refine {l2:=rfl,l3:=rfl,facts:=fun p op ids v h1 h2 h3=>(by cases h1),iroot:=hr,start:=.inr ⟨rfl,rfl,rfl,rfl⟩,five:=fun k hk=>absurd hk (Nat.not_lt_zero k),dom:=fun b h=>⟨rfl,rfl⟩,tab:=fun b i h=>?_,fins:=fun b j n h1 h2 h3=>(by cases h2),elss:=fun b j e h1 h2=>(by cases h2),begs:=fun b j h1 h2=>absurd (hi b j h1).1 h2,inj:=fun a b i j h1 h2 h3=>absurd (hi a i h1).1 h3,mts:=fun b j n h1 h2 h3=>(by cases h3),mte:=fun b j h1 h2=>absurd (hi b j h1).1 h2,sc:=⟨rfl,fun j a h=>?_⟩,nofin:=fun a h=>rfl,isfin:=fun a i h1 h2=>?_,mto:=rfl}
 ·obtain⟨rfl,rfl⟩:=hi b i h;exact hl
 ·cases j with
  | zero=>cases h;exact⟨_,hr,rfl,by decide,by decide⟩
  | succ j=>cases h
 ·obtain⟨rfl,_⟩:=hi a i h1;exact absurd (.head _) h2
section
variable {H:Hp}{a w C:Addr}{xs:List V}{o o':AO}
theorem frz_go {K:AO→AO→Prop}(hk:∀o,K o o)(ha:H a=none)(hw:w≠a)(h:K o o')(b:Addr)(q:AO)(e:H.set w o' b=some q)(p:AO):b≠a∧∃r,(H.set a p).set w o b=some r∧K r q:=by
 by_cases z:b=w
 ·subst z
  rw[zS]at e;cases e
  exact⟨hw,o,zS ..,h⟩
 ·rw[zN _ _ z]at e
  have hb:b≠a:=fun y=>by rw[y,ha]at e;cases e
  exact⟨hb,q,(zN _ _ z).trans ((zN _ _ hb).trans e),hk q⟩
theorem Kk (ha:H a=none)(hw:w≠a)(h:AO.Fr a (.lst xs) o o'):Frz ((H.set a (.list xs)).set w o) (H.set w o'):=
 .list a xs ((zN _ _ (Ne.symm hw)).trans (zS ..)) fun b q e=>frz_go .refl ha hw h b q e _
end
def labL (W:Wd)(a:Addr):List V:=match W.lab a with | some l=>l.l | none=>[]
def tl (W:Wd)(D:List Addr)(a:Addr):V:=if a∈D then .lst (labL W a)else .ref a
def Wd.dv (W:Wd)(P:WA)(b hh o:V):AO:=.dict (.s [("body",b),("heights",hh),("open",o),("high",.int W.high),("live",.bool W.live),("left",.int W.left),("labels",.ref P.ls)])
def yg (W:Wd)(D:List Addr):List V:=W.opens.map fun ids=>.lst (ids.map (tl W D))
def stg (P:WA)(W:Wd)(D:List Addr):Hp:=fun b=>
 if b=P.w then some (W.dv P (.ref P.b) (.ref P.hh) (.ref P.o))else if b=P.b then some (.list (W.body.map opV))else if b=P.hh then some (.list (W.hts.map .int)) else
 if b=P.o then some (.list (yg W D))else if b∈D then none else(W.lab b).map fun l=>.list l.l
theorem stg_step {P:WA}{W:Wd}{D:List Addr}{a:Addr}{l:Lb}(hl:W.lab a=some l)(h1:a≠P.w)(h2:a≠P.b)(h3:a≠P.hh)(h4:a≠P.o):Frz (stg P W D) (stg P W (a::D)):=by
 have hL:labL W a=l.l:=by unfold labL;rw[hl]
 by_cases hd:a∈D
 ·have e:stg P W (a::D)=stg P W D:=by
   have m:∀b,(b∈a::D)=(b∈D):=fun b=>propext ⟨fun z=>(qL.mp z).elim (fun y=>y▸hd) id,fun z=>.tail _ z⟩
   have t:tl W (a::D)=tl W D:=funext fun b=>by unfold tl;simp only[m b]
   unfold stg yg
   rw[t]
   funext b
   simp only[m b]
  rw[e];exact .sub (Hp.Sub.refl _)
 ·refine .list a l.l (by unfold stg;rw[if_neg h1,if_neg h2,if_neg h3,if_neg h4,if_neg hd,hl];rfl) fun b q e=>?_
  unfold stg at e ⊢
  by_cases k1:b=P.w
  ·rw[if_pos k1]at e ⊢;exact⟨fun z=>h1 (z.symm.trans k1),_,e,.refl _⟩
  rw[if_neg k1]at e ⊢
  by_cases k2:b=P.b
  ·rw[if_pos k2]at e ⊢;exact⟨fun z=>h2 (z.symm.trans k2),_,e,.refl _⟩
  rw[if_neg k2]at e ⊢
  by_cases k3:b=P.hh
  ·rw[if_pos k3]at e ⊢;exact⟨fun z=>h3 (z.symm.trans k3),_,e,.refl _⟩
  rw[if_neg k3]at e ⊢
  by_cases k4:b=P.o
  ·rw[if_pos k4]at e ⊢
   cases e
   refine⟨fun z=>h4 (z.symm.trans k4),_,rfl,.list ?_⟩
   unfold yg
   have f2:∀ids:List Addr,V.Frs a (.lst l.l) (ids.map (tl W D)) (ids.map (tl W (a::D))):=fun ids=>by
    induction ids with
    | nil=>exact .nil
    | cons x ids ih=>
     refine .cons ?_ ih
     unfold tl
     by_cases hx:x∈D
     ·rw[if_pos hx,if_pos (.tail _ hx)];exact .refl _
     ·rw[if_neg hx]
      by_cases hxa:x=a
      ·subst hxa;rw[if_pos (.head _),hL];exact .put
      ·rw[if_neg (fun z=>(qL.mp z).elim hxa hx)];exact .refl _
   generalize W.opens=os
   induction os with
   | nil=>exact .nil
   | cons ids os ih=>exact .cons (.lst (f2 ids)) ih
  ·rw[if_neg k4]at e ⊢
   have hb:b∉a::D:=fun z=>by rw[if_pos z]at e;cases e
   rw[if_neg hb]at e
   have hb':b∉D:=fun z=>hb (List.mem_cons_of_mem _ z)
   rw[if_neg hb']
   exact⟨fun z=>hb (z ▸ .head _),q,e,.refl _⟩
def Hp.emp:Hp:=fun _=>none
theorem XI {P:WA}{sc:List Int}{W:Wd}{H:Hp}(h:WAt P sc W H)(hlab:∀ids∈W.opens,∀a∈ids,∃l,W.lab a=some l) :
  Frz H (Hp.emp.set P.w (W.dv P (.lst (W.body.map opV)) (.lst (W.hts.map .int)) (.lst (W.opens.map fun ids=>.lst (ids.map fun a=>.lst (labL W a)))))):=by
 have e:∀{a:Addr} {l:List V},H a=some (.list l)→a≠P.w:=fun e z=>by rw[z,h.hw]at e;cases e
 have s0:Frz H (stg P W []):=.sub fun b q z=>by
  unfold stg at z
  by_cases k1:b=P.w
  ·rw[if_pos k1]at z;rw[k1];cases z;exact h.hw
  rw[if_neg k1]at z
  by_cases k2:b=P.b
  ·rw[if_pos k2]at z;rw[k2];cases z;exact h.hb
  rw[if_neg k2]at z
  by_cases k3:b=P.hh
  ·rw[if_pos k3]at z;rw[k3];cases z;exact h.hh
  rw[if_neg k3]at z
  by_cases k4:b=P.o
  ·rw[if_pos k4]at z;rw[k4];cases z;exact h.ho
  rw[if_neg k4,if_neg (by simp)]at z
  cases y:W.lab b with
  | none=>rw[y]at z;cases z
  | some l=>rw[y]at z;cases z;exact(h.lab b l y).1
 have s1:∀L D:List Addr,(∀a∈L,∃l,W.lab a=some l)→Frz (stg P W D) (stg P W (L.reverse++D)):=fun L=>by
  induction L with
  | nil=>intro D _;exact .sub (Hp.Sub.refl _)
  | cons a L ih=>
   intro D hL
   obtain⟨l,hl⟩:=hL a (.head _)
   obtain⟨q1,q2,q3,q4,q5,q6⟩:=h.lab a l hl
   rw[List.reverse_cons,List.append_assoc]
   exact .trans (stg_step hl (e q1) q2 q3 q4) (ih (a::D) fun b hb=>hL b (.tail _ hb))
 have hfl:∀a∈W.opens.flatten,∃l,W.lab a=some l:=fun a ha=>by
  obtain⟨ids,h1,h2⟩:=List.mem_flatten.mp ha
  exact hlab ids h1 a h2
 have t1:yg W (W.opens.flatten.reverse++[])=W.opens.map fun ids=>.lst (ids.map fun a=>.lst (labL W a)):=by
  unfold yg
  refine List.map_congr_left fun ids hids=>?_
  congr 1
  refine List.map_congr_left fun a ha=>?_
  unfold tl
  rw[if_pos]
  rw[List.append_nil,List.mem_reverse]
  exact List.mem_flatten.mpr ⟨ids,hids,ha⟩
 have wb:=e h.hb
 have wh:=e h.hh
 have wo:=e h.ho
 refine .trans s0 (.trans (s1 _ [] hfl) (.trans (H':=(((Hp.emp.set P.o (.list (yg W (W.opens.flatten.reverse++[])))).set P.hh (.list (W.hts.map .int))).set P.b (.list (W.body.map opV))).set P.w (W.dv P (.ref P.b) (.ref P.hh) (.ref P.o))) (.sub fun b q z=>?_) ?_))
 ·unfold stg
  by_cases k1:b=P.w
  ·rw[k1,zS]at z;rw[if_pos k1];exact z
  rw[zN _ _ k1]at z;rw[if_neg k1]
  by_cases k2:b=P.b
  ·rw[k2,zS]at z;rw[if_pos k2];exact z
  rw[zN _ _ k2]at z;rw[if_neg k2]
  by_cases k3:b=P.hh
  ·rw[k3,zS]at z;rw[if_pos k3];exact z
  rw[zN _ _ k3]at z;rw[if_neg k3]
  by_cases k4:b=P.o
  ·rw[k4,zS]at z;rw[if_pos k4];exact z
  rw[zN _ _ k4]at z;cases z
 ·rw[← t1]
  generalize yg W (W.opens.flatten.reverse++[])=os
  have kk:∀{a:Addr} {w u v u' v' b b':V},V.Fr a w u u'→V.Fr a w v v'→V.Fr a w b b'→AO.Fr a w (W.dv P b u v) (W.dv P b' u' v'):=fun h1 h2 h3=>.dictS rfl (.cons h3 (.cons h1 (.cons h2 (.refl _))))
  have c1:((Hp.emp.set P.o (.list os)).set P.hh (.list (W.hts.map .int))) P.b=none:=(zN _ _ h.n1).trans (zN _ _ h.n2)
  have c2:(Hp.emp.set P.o (.list os)) P.hh=none:=zN _ _ h.n5
  exact .trans (Kk c1 (Ne.symm wb) (kk (.refl _) (.refl _) .put)) (.trans (Kk c2 (Ne.symm wh) (kk .put (.refl _) (.refl _))) (Kk rfl (Ne.symm wo) (kk (.refl _) .put (.refl _))))
structure Zs where
 ks:List V
 bd:List Op
 wv:AO
 hks:∀t g:Nat,t≤2→g≤2→ks[3*t+g]? = some (.tup [.tup (List.replicate t (.int (-1))),.tup (List.replicate g (.int (-1)))])
 hwv:AO.kind wv=2
def bd1:List Op:=[[1],[32,0],[11]]
def Zs.inst (Z:Zs)(A:Adr):V:=.obj (A.cls jc) [.lst Z.ks,.lst [.int 0,.int 1]]
def Zs.fns (Z:Zs)(A:Adr):List V:=[fnV A [.int (-1)] [.int (-1)] (Z.inst A) (.int 4) [.int (-1)] (Z.bd.map opV),fnV A [.int (-1)] [.int (-1)] (Z.inst A) (.int 4) [] (bd1.map opV)]
def Zs.st (Z:Zs)(A:Adr):V:=.obj (A.cls jh) [.lst (Z.fns A)]
def Zs.ends (Z:Zs):List (Int×V):=(mtOf Z.bd Z.bd.length).ends
def Zs.elses (Z:Zs):List (Int×V):=(mtOf Z.bd Z.bd.length).elses
structure OA where
 r:Addr
 m:Addr
 f:Addr
 fs:Addr
 s:Addr
 b:Addr
 l:Addr
 e:Addr
 el:Addr
 kn:Addr
 w:Addr
structure OV where
 xs:List Int
 ls:List Int
 lb:List Lb
 at_:Int
 sp:Int
 pk:Int
 kv:List (Int×V)
 br:Bool
abbrev rO (A:Adr)(Z:Zs)(m s fs:Addr)(br:Bool):AO:=.inst (A.cls jd) [.ref m,Z.st A,.int 0,.ref s,.ref fs,.bool br]
abbrev mO (A:Adr)(Z:Zs)(sp pk:Int)(kn:Addr):AO:=.inst (A.cls jg) [Z.st A,.int 120,.int 3,.int sp,.int pk,.int 0,.ref kn]
abbrev fO (A:Adr)(Z:Zs)(e el l b:Addr)(at_:Int):AO:=.inst (A.cls jl) [.int 0,Z.inst A,.lst (Z.bd.map opV),.int 1,.ref e,.ref el,.ref l,.int 0,.int at_,.ref b]
structure OAt (A:Adr)(Z:Zs)(o:OA)(v:OV)(frs:List V)(H:Hp):Prop where
 hr:H o.r=some (rO A Z o.m o.s o.fs v.br)
 hm:H o.m=some (mO A Z v.sp v.pk o.kn)
 hs:H o.s=some (.list (v.xs.map .int))
 hfs:H o.fs=some (.list frs)
 hf:H o.f=some (fO A Z o.e o.el o.l o.b v.at_)
 hl:H o.l=some (.list (v.ls.map .int))
 hb:H o.b=some (.list (v.lb.map (Lb.v A)))
 he:H o.e=some (.dict (.i Z.ends))
 hel:H o.el=some (.dict (.i Z.elses))
 hk:H o.kn=some (.dict (.i v.kv))
 hw:H o.w=some Z.wv
 n1:o.s≠o.fs
 n2:o.s≠o.b
 n3:o.s≠o.l
 n4:o.fs≠o.b
 n5:o.fs≠o.l
 n6:o.b≠o.l
 n7:o.r≠o.m
 n8:o.r≠o.f
 n9:o.m≠o.f
 n10:o.kn≠o.e
 n11:o.kn≠o.el
 n12:o.kn≠o.w
theorem ne_k {H:Hp}{a b:Addr}{o o':AO}(ha:H a=some o)(hb:H b=some o')(h:o.kind≠o'.kind):a≠b:=fun z=>by
 rw[z,hb]at ha;cases ha;exact h rfl
section
variable {A:Adr}{Z:Zs}{o:OA}{v:OV}{frs:List V}{H:Hp}
theorem OAt.keep (h:OAt A Z o v frs H){a:Addr}{x y:AO}(ha:H a=some x)(hx:x.kind=0∨x.kind=3):(H.set a y) o.r=H o.r∧(H.set a y) o.m=H o.m∧(H.set a y) o.f=H o.f∧(H.set a y) o.e=H o.e∧(H.set a y) o.el=H o.el∧(H.set a y) o.kn=H o.kn∧(H.set a y) o.w=H o.w:=by
 have k:∀{b:Addr} {q:AO},H b=some q→q.kind=1∨q.kind=2→(H.set a y) b=H b:=fun hb hq=>zN _ _ (ne_k hb ha (by lia))
 exact⟨k h.hr (.inl rfl),k h.hm (.inl rfl),k h.hf (.inl rfl),k h.he (.inr rfl),k h.hel (.inr rfl),k h.hk (.inr rfl),k h.hw (.inr Z.hwv)⟩
theorem OAt.setS (h:OAt A Z o v frs H)(xs:List Int):OAt A Z o {v with xs:=xs} frs (H.set o.s (.list (xs.map .int))):=by
 obtain⟨k1,k2,k3,k4,k5,k6,k7⟩:=h.keep (y:=.list (xs.map .int)) h.hs (.inl rfl)
 exact {h with hr:=k1.trans h.hr,hm:=k2.trans h.hm,hs:=zS ..,hfs:=(zN _ _ (Ne.symm h.n1)).trans h.hfs,hf:=k3.trans h.hf,hl:=(zN _ _ (Ne.symm h.n3)).trans h.hl,hb:=(zN _ _ (Ne.symm h.n2)).trans h.hb,he:=k4.trans h.he,hel:=k5.trans h.hel,hk:=k6.trans h.hk,hw:=k7.trans h.hw}
theorem OAt.setL (h:OAt A Z o v frs H)(xs:List Int):OAt A Z o {v with ls:=xs} frs (H.set o.l (.list (xs.map .int))):=by
 obtain⟨k1,k2,k3,k4,k5,k6,k7⟩:=h.keep (y:=.list (xs.map .int)) h.hl (.inl rfl)
 exact {h with hr:=k1.trans h.hr,hm:=k2.trans h.hm,hl:=zS ..,hfs:=(zN _ _ h.n5).trans h.hfs,hf:=k3.trans h.hf,hs:=(zN _ _ h.n3).trans h.hs,hb:=(zN _ _ h.n6).trans h.hb,he:=k4.trans h.he,hel:=k5.trans h.hel,hk:=k6.trans h.hk,hw:=k7.trans h.hw}
theorem OAt.setB (h:OAt A Z o v frs H)(lb:List Lb):OAt A Z o {v with lb:=lb} frs (H.set o.b (.list (lb.map (Lb.v A)))):=by
 obtain⟨k1,k2,k3,k4,k5,k6,k7⟩:=h.keep (y:=.list (lb.map (Lb.v A))) h.hb (.inl rfl)
 exact {h with hr:=k1.trans h.hr,hm:=k2.trans h.hm,hb:=zS ..,hfs:=(zN _ _ h.n4).trans h.hfs,hf:=k3.trans h.hf,hs:=(zN _ _ h.n2).trans h.hs,hl:=(zN _ _ (Ne.symm h.n6)).trans h.hl,he:=k4.trans h.he,hel:=k5.trans h.hel,hk:=k6.trans h.hk,hw:=k7.trans h.hw}
theorem OAt.setFs (h:OAt A Z o v frs H)(fr:List V):OAt A Z o v fr (H.set o.fs (.list fr)):=by
 obtain⟨k1,k2,k3,k4,k5,k6,k7⟩:=h.keep (y:=.list fr) h.hfs (.inl rfl)
 exact {h with hr:=k1.trans h.hr,hm:=k2.trans h.hm,hfs:=zS ..,hs:=(zN _ _ h.n1).trans h.hs,hf:=k3.trans h.hf,hl:=(zN _ _ (Ne.symm h.n5)).trans h.hl,hb:=(zN _ _ (Ne.symm h.n4)).trans h.hb,he:=k4.trans h.he,hel:=k5.trans h.hel,hk:=k6.trans h.hk,hw:=k7.trans h.hw}
theorem OAt.keepI (h:OAt A Z o v frs H){a:Addr}{x y:AO}(ha:H a=some x)(hx:x.kind=1):(H.set a y) o.s=H o.s∧(H.set a y) o.fs=H o.fs∧(H.set a y) o.l=H o.l∧(H.set a y) o.b=H o.b∧(H.set a y) o.e=H o.e∧(H.set a y) o.el=H o.el∧(H.set a y) o.kn=H o.kn∧(H.set a y) o.w=H o.w:=by
 have k:∀{b:Addr} {q:AO},H b=some q→q.kind=0∨q.kind=2→(H.set a y) b=H b:=fun hb hq=>zN _ _ (ne_k hb ha (by lia))
 exact⟨k h.hs (.inl rfl),k h.hfs (.inl rfl),k h.hl (.inl rfl),k h.hb (.inl rfl),k h.he (.inr rfl),k h.hel (.inr rfl),k h.hk (.inr rfl),k h.hw (.inr Z.hwv)⟩
theorem OAt.setR (h:OAt A Z o v frs H)(br:Bool):OAt A Z o {v with br:=br} frs (H.set o.r (rO A Z o.m o.s o.fs br)):=by
 obtain⟨k1,k2,k3,k4,k5,k6,k7,k8⟩:=h.keepI (y:=rO A Z o.m o.s o.fs br) h.hr rfl
 exact {h with hr:=zS ..,hm:=(zN _ _ (Ne.symm h.n7)).trans h.hm,hs:=k1.trans h.hs,hfs:=k2.trans h.hfs,hf:=(zN _ _ (Ne.symm h.n8)).trans h.hf,hl:=k3.trans h.hl,hb:=k4.trans h.hb,he:=k5.trans h.he,hel:=k6.trans h.hel,hk:=k7.trans h.hk,hw:=k8.trans h.hw}
theorem OAt.setM (h:OAt A Z o v frs H)(sp pk:Int):OAt A Z o {v with sp:=sp,pk:=pk} frs (H.set o.m (mO A Z sp pk o.kn)):=by
 obtain⟨k1,k2,k3,k4,k5,k6,k7,k8⟩:=h.keepI (y:=mO A Z sp pk o.kn) h.hm rfl
 exact {h with hm:=zS ..,hr:=(zN _ _ h.n7).trans h.hr,hs:=k1.trans h.hs,hfs:=k2.trans h.hfs,hf:=(zN _ _ (Ne.symm h.n9)).trans h.hf,hl:=k3.trans h.hl,hb:=k4.trans h.hb,he:=k5.trans h.he,hel:=k6.trans h.hel,hk:=k7.trans h.hk,hw:=k8.trans h.hw}
theorem OAt.setF (h:OAt A Z o v frs H)(at_:Int):OAt A Z o {v with at_:=at_} frs (H.set o.f (fO A Z o.e o.el o.l o.b at_)):=by
 obtain⟨k1,k2,k3,k4,k5,k6,k7,k8⟩:=h.keepI (y:=fO A Z o.e o.el o.l o.b at_) h.hf rfl
 exact {h with hf:=zS ..,hr:=(zN _ _ h.n8).trans h.hr,hs:=k1.trans h.hs,hfs:=k2.trans h.hfs,hm:=(zN _ _ h.n9).trans h.hm,hl:=k3.trans h.hl,hb:=k4.trans h.hb,he:=k5.trans h.he,hel:=k6.trans h.hel,hk:=k7.trans h.hk,hw:=k8.trans h.hw}
theorem OAt.keepN (h:OAt A Z o v frs H){a:Addr}{y:AO}(ha:H a=none):OAt A Z o v frs (H.set a y):=by
 have k:∀{b:Addr} {q:AO},H b=some q→(H.set a y) b=some q:=fun hb=>(zN _ _ (uH hb ha)).trans hb
 exact {h with hr:=k h.hr,hm:=k h.hm,hs:=k h.hs,hfs:=k h.hfs,hf:=k h.hf,hl:=k h.hl,hb:=k h.hb,he:=k h.he,hel:=k h.hel,hk:=k h.hk,hw:=k h.hw}
theorem OAt.newS (h:OAt A Z o v frs H){d:Addr}(xs:List Int)(hd:H d=none):OAt A Z {o with s:=d} {v with xs:=xs} frs ((H.set d (.list (xs.map .int))).set o.r (rO A Z o.m d o.fs v.br)):=by
 have g:=h.keepN (y:=.list (xs.map .int)) hd
 obtain⟨k1,k2,k3,k4,k5,k6,k7,k8⟩:=g.keepI (y:=rO A Z o.m d o.fs v.br) g.hr rfl
 have dr:d≠o.r:=qm h.hr hd
 exact {g with hr:=zS ..,hm:=(zN _ _ (Ne.symm h.n7)).trans g.hm,hs:=(zN _ _ dr).trans (zS ..),hfs:=k2.trans g.hfs,hf:=(zN _ _ (Ne.symm h.n8)).trans g.hf,hl:=k3.trans g.hl,hb:=k4.trans g.hb,he:=k5.trans g.he,hel:=k6.trans g.hel,hk:=k7.trans g.hk,hw:=k8.trans g.hw,n1:=qm h.hfs hd,n2:=qm h.hb hd,n3:=qm h.hl hd}
theorem OAt.newB (h:OAt A Z o v frs H){d:Addr}(lb:List Lb)(at_:Int)(hd:H d=none):OAt A Z {o with b:=d} {v with lb:=lb,at_:=at_} frs ((H.set d (.list (lb.map (Lb.v A)))).set o.f (fO A Z o.e o.el o.l d at_)):=by
 have g:=h.keepN (y:=.list (lb.map (Lb.v A))) hd
 obtain⟨k1,k2,k3,k4,k5,k6,k7,k8⟩:=g.keepI (y:=fO A Z o.e o.el o.l d at_) g.hf rfl
 have dr:d≠o.f:=qm h.hf hd
 exact {g with hf:=zS ..,hr:=(zN _ _ h.n8).trans g.hr,hb:=(zN _ _ dr).trans (zS ..),hfs:=k2.trans g.hfs,hm:=(zN _ _ h.n9).trans g.hm,hl:=k3.trans g.hl,hs:=k1.trans g.hs,he:=k5.trans g.he,hel:=k6.trans g.hel,hk:=k7.trans g.hk,hw:=k8.trans g.hw,n2:=uH h.hs hd,n4:=uH h.hfs hd,n6:=qm h.hl hd}
end
section
variable {g:Gx}{A:Adr}{n:Nat}{Z:Zs}{o:OA}{v:OV}{H:Hp}{QR:Hp→Prop}
def jX (A:Adr)(Z:Zs)(o:OA)(QR:Hp→Prop)(H':Hp):Prop:=
 ∃s' fl fl',H' o.r=some (rO A Z o.m s' o.fs true)∧H' o.fs=some (.list fl)∧fl.length≤1000∧Pops A H' fl fl'∧QR ((H'.set o.r (rO A Z o.m s' o.fs false)).set o.fs (.list fl'))
theorem jX.stay {o':OA}{v':OV}{H':Hp}(h:OAt A Z o' v' [.ref o'.f] H')(h1:o'.r=o.r)(h2:o'.m=o.m)(h3:o'.fs=o.fs)(hbr:v'.br=true)(hat:v'.at_<Z.bd.length)(q:∀H'',OAt A Z o' {v' with br:=false} [.ref o'.f] H''→QR H''):jX A Z o QR H':=by
 obtain⟨xs,ls,lb,at_,sp,pk,kv,br⟩:=v'
 cases hbr
 refine⟨o'.s,[.ref o'.f],[.ref o'.f],by rw[← h1,← h2,← h3];exact h.hr,by rw[← h3];exact h.hfs,by simp,Pops.stay (lo:=[]) h.hf (by rw[qD];exact hat),?_⟩
 rw[← h1,← h2,← h3]
 exact q _ ((h.setR false).setFs _)
theorem jX.done {o':OA}{v':OV}{H':Hp}(h:OAt A Z o' v' [.ref o'.f] H')(h1:o'.r=o.r)(h2:o'.m=o.m)(h3:o'.fs=o.fs)(hbr:v'.br=true)(hat:(Z.bd.length:Int)≤v'.at_)(q:∀H'',OAt A Z o' {v' with br:=false} [] H''→QR H''):jX A Z o QR H':=by
 obtain⟨xs,ls,lb,at_,sp,pk,kv,br⟩:=v'
 cases hbr
 refine⟨o'.s,[.ref o'.f],[],by rw[← h1,← h2,← h3];exact h.hr,by rw[← h3];exact h.hfs,by simp,Pops.pop (lo:=[]) h.hf (by rw[qD];exact hat) .nil,?_⟩
 rw[← h1,← h2,← h3]
 exact q _ ((h.setR false).setFs _)
theorem ostep (K:Core g A){QX:Addr→V→Hp→Prop}{p:Nat}{op:Op}(h:OAt A Z o v [.ref o.f] H)(hbr:v.br=false)(hat:v.at_=p)(hp:Z.bd[p]? = some op)
  (hx:120≤v.sp→QX (A.cls jG) (.str "fuel") H)
  (hdo:v.sp<120→∀H₁,OAt A Z o {v with at_:=p+1,sp:=v.sp+1,br:=true} [.ref o.f] H₁→jb g ExF.still (n+4) (.ref (A.fn jL)) [.ref o.r,.ref o.f,.int p,opV op] H₁ (fun _ H'=>jX A Z o QR H')) :
  jb g (jR g QX) (n+5) (.ref (A.fn jI)) [.ref o.r] H (fun _ H'=>QR H'):=by
 obtain⟨xs,ls,lb,at_,sp,pk,kv,br⟩:=v
 cases hbr
 have hat:at_=p:=hat
 subst hat
 have hpl:p<Z.bd.length:=(qF.mp hp).1
 refine Wy K h.hr rfl (lo:=[]) h.hfs (by decide) h.hm h.hf (j:=p) ⟨by rw[qD];exact hpl,.inl rfl⟩ (by rw[qV,hp];rfl) hx fun hlt=>?_
 refine(hdo hlt _ (((h.setM (sp+1) pk).setF (p+1)).setR true)).mono ?_
 rintro x H' ⟨s',fl,fl',a,b,c,d,e⟩
 exact⟨s',fl,fl',a,b,c,d,e⟩
end
section
variable {g:Gx}{A:Adr}{n:Nat}{Z:Zs}{o:OA}{v:OV}{frs:List V}{H:Hp}{R:Hp→Prop}{p:Int}
abbrev Does (g:Gx)(A:Adr)(n:Nat)(r f:Addr)(p:Int)(op:Op)(H:Hp)(R:Hp→Prop):Prop:=jb g ExF.still n (.ref (A.fn jL)) [.ref r,.ref f,.int p,opV op] H (fun _ H'=>R H')
theorem qc (xs:List Int)(x:Int):(xs++[x]).map V.int=xs.map .int++[.int x]:=by rw[qI];rfl
theorem Xu (K:Core g A)(h:OAt A Z o v frs H)(hb:v.xs.length≤1000){k:Int}(q:∀H',OAt A Z o {v with xs:=v.xs++[u32 k]} frs H'→R H'):Does g A (n+30) o.r o.f p [65,k] H R:=
 do_const (n:=n+28) K h.hr h.hs (by rw[qD];lia) (by have t:=h.setS (v.xs++[u32 k]);rw[qc]at t;exact q _ t)
theorem does_get (K:Core g A)(h:OAt A Z o v frs H)(hb:v.xs.length≤1000){k:Nat}{y:Int}(hy:v.ls[k]? = some y)(q:∀H',OAt A Z o {v with xs:=v.xs++[y]} frs H'→R H'):Does g A (n+30) o.r o.f p [32,k] H R:=
 KK (n:=n+29) K (by decide) (by decide) (KG (n:=n+28) K h.hr h.hs (by rw[qD];lia) h.hf h.hl (j:=k) ⟨by rw[qD];exact(qF.mp hy).1,.inl rfl⟩ (by rw[qV,hy];rfl) (by have t:=h.setS (v.xs++[y]);rw[qc]at t;exact q _ t)).calm h.hr
theorem does_set (K:Core g A){xs:List Int}{x:Int}(h:OAt A Z o {v with xs:=xs++[x]} frs H)(hb:xs.length≤1000){k:Nat}(hy:k<v.ls.length)(q:∀H',OAt A Z o {v with xs:=xs,ls:=v.ls.set k x} frs H'→R H'):Does g A (n+30) o.r o.f p [33,k] H R:=by
 have hs:=h.hs
 rw[qc]at hs
 refine KK (n:=n+29) K (by decide) (by decide) (Xj (n:=n+28) K h.hr hs (by rw[qD];lia) h.hf h.hl (Ne.symm h.n3) (j:=k) ⟨by rw[qD];exact hy,.inl rfl⟩ ?_).calm h.hr
 have t:=(h.setS xs).setL (v.ls.set k x)
 rw[List.map_set]at t
 exact q _ t
theorem Yj (K:Core g A){xs:List Int}{x:Int}(h:OAt A Z o {v with xs:=xs++[x]} frs H)(hb:xs.length≤1000)(q:∀H',OAt A Z o {v with xs:=xs} frs H'→R H'):Does g A (n+30) o.r o.f p [26] H R:=by
 have hs:=h.hs
 rw[qc]at hs
 exact KK (n:=n+29) K (by decide) (by decide) (Xk (n:=n+28) K h.hr hs (by rw[qD];lia) (q _ (h.setS xs))).calm h.hr
theorem does_num (K:Core g A){xs:List Int}{x y c:Int}(hc:c=106∨c=107)(h:OAt A Z o {v with xs:=xs++[x]++[y]} frs H)(hb:xs.length≤1000)(q:∀H',OAt A Z o {v with xs:=xs++[u32 (if c=106 then x+y else x-y)]} frs H'→R H'):Does g A (n+30) o.r o.f p [c] H R:=by
 have hs:=h.hs
 rw[qc,qc]at hs
 refine do_num (n:=n+29) K hc (XS (n:=n+16) K hc h.hr hs (by rw[qD];lia) ?_).calm h.hr
 have t:=h.setS (xs++[u32 (if c=106 then x+y else x-y)])
 rw[qc]at t
 exact q _ t
theorem Ki {Z:Zs}{t g:Nat}(ht:t≤2)(hg:g≤2):Idx (3*(t:Int)+g) Z.ks.length (3*t+g):=⟨(qF.mp (Z.hks t g ht hg)).1,.inl (by lia)⟩
theorem KD (l:List Lb)(x:Lb):(l++[x]).map (Lb.v A)=l.map (Lb.v A)++[x.v A]:=by rw[qI];rfl
theorem Yh (K:Core g A)(h:OAt A Z o v frs H)(hb:v.lb.length≤1000){t gv:Nat}(ht:t≤2)(hg:gv≤2)(q:∀H',OAt A Z o {v with lb:=v.lb++[⟨p+1,t,v.xs.length-t,true⟩]} frs H'→R H'):Does g A (n+30) o.r o.f p [3,3*t+gv] H R:=by
 refine qy (n:=n+29) K (by decide) (Ua (n:=n+28) K (.inr rfl) h.hr (Uq (n:=n+22) K h.hr h.hs h.hf h.hb (by rw[qD];lia) (by lia) (Ki ht hg) (Z.hks t gv ht hg) ?_)) h.hr
 rw[List.length_replicate,qD]
 have t:=h.setB (v.lb++[⟨p+1,t,v.xs.length-t,true⟩])
 rw[KD]at t
 exact q _ t
theorem Xv (K:Core g A)(h:OAt A Z o v frs H)(hb:v.lb.length≤1000){t gv:Nat}(ht:t≤2)(hg:gv≤2){e:Int}(he:getK Z.ends p=some (.int e))(q:∀H',OAt A Z o {v with lb:=v.lb++[⟨e+1,gv,v.xs.length-t,false⟩]} frs H'→R H'):Does g A (n+30) o.r o.f p [2,3*t+gv] H R:=by
 refine qy (n:=n+29) K (by decide) (Ua (n:=n+28) K (.inl rfl) h.hr (wA (n:=n+22) K (.inl rfl) h.hr h.hs h.hf h.hb (by rw[qD];lia) h.he he (by lia) (Ki ht hg) (Z.hks t gv ht hg) ?_)) h.hr
 rw[List.length_replicate,List.length_replicate,qD]
 have t:=h.setB (v.lb++[⟨e+1,gv,v.xs.length-t,false⟩])
 rw[KD]at t
 exact q _ t
theorem does_if (K:Core g A){xs:List Int}{x:Int}(h:OAt A Z o {v with xs:=xs++[x]} frs H)(hbx:xs.length≤1000)(hb:v.lb.length≤1000){t gv:Nat}(ht:t≤2)(hg:gv≤2){e:Int}{eo:Option Int}(he:getK Z.ends p=some (.int e))(hel:getK Z.elses p=eo.map V.int)
  (q1:x≠0→∀H',OAt A Z o {v with xs:=xs,lb:=v.lb++[⟨e+1,gv,xs.length-t,false⟩]} frs H'→R H') (q2:x=0→∀H',OAt A Z o {v with xs:=xs,lb:=v.lb++[⟨e+1,gv,xs.length-t,false⟩],at_:=optTo eo e} frs H'→R H'):Does g A (n+30) o.r o.f p [4,3*t+gv] H R:=by
 have hs:=h.hs
 rw[qc]at hs
 have t1:=(h.setS xs).setB (v.lb++[⟨e+1,gv,xs.length-t,false⟩])
 have t2:=t1.setF (optTo eo e)
 rw[KD]at t1 t2
 refine qy (n:=n+29) K (by decide) (ctl_if (n:=n+28) K h.hr (Yp (n:=n+21) K h.hr hs (by rw[qD];lia) h.hf h.hb (by rw[qD];show v.lb.length≤_;lia) (Ne.symm h.n2) h.he h.hel he hel (by lia) (Ki ht hg) (Z.hks t gv ht hg) (fun z=>?_) (fun z=>?_))) h.hr
 all_goals rw[List.length_replicate,List.length_replicate,qD]
 ·exact q1 z _ t1
 ·exact q2 z _ t2
theorem Yi (K:Core g A)(h:OAt A Z o v frs H){e:Int}(he:getK Z.ends p=some (.int e))(q:∀H',OAt A Z o {v with at_:=e} frs H'→R H'):Does g A (n+30) o.r o.f p [5] H R:=
 qy (n:=n+29) K (by decide) (ctl_else (n:=n+28) K h.hr h.hf h.he he (q _ (h.setF e))) h.hr
theorem UX (K:Core g A){lb:List Lb}{l:Lb}(h:OAt A Z o {v with lb:=lb++[l]} frs H)(hb:lb.length≤1000)(q:∀H',OAt A Z o {v with lb:=lb} frs H'→R H'):Does g A (n+30) o.r o.f p [11] H R:=by
 have hb':=h.hb
 rw[KD]at hb'
 exact qy (n:=n+29) K (by decide) (WU (n:=n+28) K h.hf hb' (by rw[qD];lia) (q _ (h.setB lb))) h.hr
end
section
variable {g:Gx}{A:Adr}{n:Nat}{Z:Zs}{o:OA}{v:OV}{frs:List V}{H:Hp}{R:Hp→Prop}{p:Int}
def low (xs:List Int)(h a:Int):List Int:=xs.take h.toNat++xs.drop (xs.length-a).toNat
theorem Qm (xs:List Int)(h a:Int):(xs.map V.int).take h.toNat++(xs.map V.int).drop (((xs.map V.int).length:Int)-a).toNat=(low xs h a).map .int:=by
 unfold low;rw[qI,List.map_take,List.map_drop,qD]
theorem Qn {xs:List Int}{h a:Int}(h0:0≤h)(h1:0≤a)(h2:h+a≤xs.length):((low xs h a).length:Int)=h+a:=by
 unfold low;rw[qC,List.length_take,List.length_drop];lia
theorem JI {xs:List Int}{h a:Int}{P:Int→Prop}(hP:∀x∈xs,P x):∀x∈low xs h a,P x:=fun x hx=>by
 rcases qO.mp hx with z | z
 ·exact hP x (List.mem_of_mem_take z)
 ·exact hP x (List.mem_of_mem_drop z)
theorem OAt.branch (h:OAt A Z o v frs H){xs:List Int}{lb:List Lb}{at_:Int}{d d':Addr}(hd:H d=none)(hd':H d'=none)(hn:d≠d') :
  OAt A Z {o with s:=d,b:=d'} {v with xs:=xs,lb:=lb,at_:=at_} frs ((((H.set d (.list (xs.map .int))).set o.r (rO A Z o.m d o.fs v.br)).set d' (.list (lb.map (Lb.v A)))).set o.f (fO A Z o.e o.el o.l d' at_)):=
 (h.newS xs hd).newB lb at_ ((zN _ _ (qm h.hr hd')).trans ((zN _ _ (Ne.symm hn)).trans hd'))
theorem goes (K:Core g A)(h:OAt A Z o v frs H)(hb:v.xs.length≤1000){pre post:List Lb}{gl:Lb}(hl:v.lb=pre++gl::post)(hlb:v.lb.length≤1000){k:Nat}(hk:k=post.length)(h0:0≤gl.h)(h1:0≤gl.a)(h2:gl.h+gl.a≤v.xs.length)
  (q:∀(s' b':Addr) H',OAt A Z {o with s:=s',b:=b'} {v with xs:=low v.xs gl.h gl.a,lb:=if gl.lp then pre++[gl]else pre,at_:=gl.t} frs H'→R H') :
  jb g ExF.none (n+2) (.ref (A.fn jT)) [.ref o.r,.ref o.f,.int k] H (fun _ H'=>R H'):=by
 have hb':=h.hb
 rw[hl]at hb' hlb
 rw[qC,qE]at hlb
 refine Jt K h.hr h.hs (by rw[qD];lia) h.hf hb' (by lia) (Ne.symm h.n2) (by lia) h0 h1 (by rw[qD];lia) fun d d' hd hd' hn=>?_
 rw[Qm]
 exact q _ _ _ (h.branch hd hd' hn)
theorem does_br (K:Core g A)(h:OAt A Z o v frs H)(hb:v.xs.length≤1000){pre post:List Lb}{gl:Lb}(hl:v.lb=pre++gl::post)(hlb:v.lb.length≤1000){k:Nat}(hk:k=post.length)(h0:0≤gl.h)(h1:0≤gl.a)(h2:gl.h+gl.a≤v.xs.length)
  (q:∀(s' b':Addr) H',OAt A Z {o with s:=s',b:=b'} {v with xs:=low v.xs gl.h gl.a,lb:=if gl.lp then pre++[gl]else pre,at_:=gl.t} frs H'→R H'):Does g A (n+30) o.r o.f p [12,k] H R:=
 qy (n:=n+29) K (by decide) (ctl_br (n:=n+28) K h.hr (goes (n:=n+26) K h hb hl hlb hk h0 h1 h2 q)) h.hr
theorem Yl (K:Core g A){xs:List Int}{x:Int}(h:OAt A Z o {v with xs:=xs++[x]} frs H)(hb:xs.length≤1000){pre post:List Lb}{gl:Lb}(hl:v.lb=pre++gl::post)(hlb:v.lb.length≤1000){k:Nat}(hk:k=post.length)(h0:0≤gl.h)(h1:0≤gl.a)(h2:gl.h+gl.a≤xs.length)
  (q:∀(s' b':Addr) H',OAt A Z {o with s:=s',b:=b'} {v with xs:=low xs gl.h gl.a,lb:=if gl.lp then pre++[gl]else pre,at_:=gl.t} frs H'→R H')
  (q':∀H',OAt A Z o {v with xs:=xs} frs H'→R H'):Does g A (n+30) o.r o.f p [13,k] H R:=by
 have hs:=h.hs
 rw[qc]at hs
 exact qy (n:=n+29) K (by decide) (ctl_brif (n:=n+28) K h.hr hs (by rw[qD];lia) (fun _=>goes (n:=n+26) (v:={v with xs:=xs}) K (h.setS xs) hb hl hlb hk h0 h1 h2 q) (fun _=>q' _ (h.setS xs))) h.hr
theorem Xt (K:Core g A){xs:List Int}{x:Int}(h:OAt A Z o {v with xs:=xs++[x]} frs H)(hb:xs.length≤1000)(hx:0≤x){pre post:List Lb}{gl:Lb}(hl:v.lb=pre++gl::post)(hlb:v.lb.length≤1000){k:Nat}(hk:k=post.length)(h0:0≤gl.h)(h1:0≤gl.a)(h2:gl.h+gl.a≤xs.length)
  (q:∀(s' b':Addr) H',OAt A Z {o with s:=s',b:=b'} {v with xs:=low xs gl.h gl.a,lb:=if gl.lp then pre++[gl]else pre,at_:=gl.t} frs H'→R H'):Does g A (n+30) o.r o.f p [14,k,k] H R:=by
 have hs:=h.hs
 rw[qc]at hs
 have hb':=h.hb
 rw[show({v with xs:=xs++[x]}:OV).lb=pre++gl::post from hl]at hb'
 rw[hl,qC,qE]at hlb
 have h':=h.setS xs
 refine qy (n:=n+29) K (by decide) (Yo (n:=n+28) K h.hr (table_ok (n:=n+25) K h.hr hs (by rw[qD];lia) hx h.hf hb' (by lia) (Ne.symm h.n2) (by lia) h0 h1 (by rw[qD];lia) fun d d' hd hd' hn=>?_)) h.hr
 rw[Qm]
 have f:∀{c:Addr},H c=none→(H.set o.s (.list (xs.map .int))) c=none:=fun hc=>(zN _ _ (qm h.hs hc)).trans hc
 exact q _ _ _ (h'.branch (xs:=low xs gl.h gl.a) (f hd) (f hd') hn)
theorem does_ret (K:Core g A)(h:OAt A Z o v frs H)(hb:v.xs.length≤1000)(h2:1≤v.xs.length)
  (q:∀(s' b':Addr) H',OAt A Z {o with s:=s',b:=b'} {v with xs:=low v.xs 0 1,lb:=[],at_:=Z.bd.length} frs H'→R H'):Does g A (n+30) o.r o.f p [15] H R:=by
 refine qy (n:=n+29) K (by decide) (ctl_ret (n:=n+28) K h.hr (UO (n:=n+26) K h.hr h.hs (by rw[qD];lia) h.hf (by decide) (by decide) (by rw[qD];lia) fun d d' hd hd' hn=>?_)) h.hr
 rw[Qm,qD]
 exact q _ _ _ (h.branch (lb:=[]) hd hd' hn)
end
structure IA where
 f:Addr
 l:Addr
 b:Addr
 e:Addr
 el:Addr
structure IV where
 at_:Int
 z:Int
 base:Int
 lb:List Lb
abbrev iO (A:Adr)(Z:Zs)(i:IA)(base at_:Int):AO:=.inst (A.cls jl) [.int 1,Z.inst A,.lst (bd1.map opV),.int 1,.ref i.e,.ref i.el,.ref i.l,.int base,.int at_,.ref i.b]
structure IAt (A:Adr)(Z:Zs)(o:OA)(v:OV)(i:IA)(u:IV)(H:Hp):Prop where
 t:OAt A Z o v [.ref o.f,.ref i.f] H
 hf:H i.f=some (iO A Z i u.base u.at_)
 hl:H i.l=some (.list [.int u.z])
 hb:H i.b=some (.list (u.lb.map (Lb.v A)))
 n1:i.f≠o.f
 n2:i.f≠o.r
 n3:i.f≠o.m
 l1:i.l≠o.s
 l2:i.l≠o.fs
 l3:i.l≠o.b
 l4:i.l≠o.l
 b1:i.b≠o.s
 b2:i.b≠o.fs
 b3:i.b≠o.b
 b4:i.b≠o.l
 lb:i.l≠i.b
section
variable {g:Gx}{A:Adr}{n:Nat}{Z:Zs}{o:OA}{v:OV}{i:IA}{u:IV}{frs:List V}{H:Hp}{R:Hp→Prop}{p:Int}
theorem IAt.setM (h:IAt A Z o v i u H)(sp pk:Int):IAt A Z o {v with sp:=sp,pk:=pk} i u (H.set o.m (mO A Z sp pk o.kn)):=
 {h with t:=h.t.setM sp pk,hf:=(zN _ _ h.n3).trans h.hf,hl:=(zN _ _ (uk h.hl h.t.hm rfl)).trans h.hl,hb:=(zN _ _ (uk h.hb h.t.hm rfl)).trans h.hb}
theorem IAt.setR (h:IAt A Z o v i u H)(br:Bool):IAt A Z o {v with br:=br} i u (H.set o.r (rO A Z o.m o.s o.fs br)):=
 {h with t:=h.t.setR br,hf:=(zN _ _ h.n2).trans h.hf,hl:=(zN _ _ (uk h.hl h.t.hr rfl)).trans h.hl,hb:=(zN _ _ (uk h.hb h.t.hr rfl)).trans h.hb}
theorem IAt.setS (h:IAt A Z o v i u H)(xs:List Int):IAt A Z o {v with xs:=xs} i u (H.set o.s (.list (xs.map .int))):=
 {h with t:=h.t.setS xs,hf:=(zN _ _ (uk h.hf h.t.hs rfl)).trans h.hf,hl:=(zN _ _ h.l1).trans h.hl,hb:=(zN _ _ h.b1).trans h.hb}
theorem OAt.other (h:OAt A Z o v frs H){a:Addr}{y:AO}(h1:a≠o.r)(h2:a≠o.m)(h3:a≠o.f){x:AO}(ha:H a=some x)(hx:x.kind=1):OAt A Z o v frs (H.set a y):=by
 obtain⟨k1,k2,k3,k4,k5,k6,k7,k8⟩:=h.keepI (y:=y) ha hx
 exact {h with hr:=(zN _ _ (Ne.symm h1)).trans h.hr,hm:=(zN _ _ (Ne.symm h2)).trans h.hm,hf:=(zN _ _ (Ne.symm h3)).trans h.hf,hs:=k1.trans h.hs,hfs:=k2.trans h.hfs,hl:=k3.trans h.hl,hb:=k4.trans h.hb,he:=k5.trans h.he,hel:=k6.trans h.hel,hk:=k7.trans h.hk,hw:=k8.trans h.hw}
theorem OAt.otherL (h:OAt A Z o v frs H){a:Addr}{y:AO}(h1:a≠o.s)(h2:a≠o.fs)(h3:a≠o.b)(h4:a≠o.l){x:AO}(ha:H a=some x)(hx:x.kind=0∨x.kind=3):OAt A Z o v frs (H.set a y):=by
 obtain⟨k1,k2,k3,k4,k5,k6,k7⟩:=h.keep (y:=y) ha hx
 exact {h with hr:=k1.trans h.hr,hm:=k2.trans h.hm,hf:=k3.trans h.hf,hs:=(zN _ _ (Ne.symm h1)).trans h.hs,hfs:=(zN _ _ (Ne.symm h2)).trans h.hfs,hb:=(zN _ _ (Ne.symm h3)).trans h.hb,hl:=(zN _ _ (Ne.symm h4)).trans h.hl,he:=k4.trans h.he,hel:=k5.trans h.hel,hk:=k6.trans h.hk,hw:=k7.trans h.hw}
theorem IAt.setF (h:IAt A Z o v i u H)(at_:Int):IAt A Z o v i {u with at_:=at_} (H.set i.f (iO A Z i u.base at_)):=
 {h with t:=h.t.other h.n2 h.n3 h.n1 h.hf rfl,hf:=zS ..,hl:=(zN _ _ (uk h.hl h.hf rfl)).trans h.hl,hb:=(zN _ _ (uk h.hb h.hf rfl)).trans h.hb}
theorem IAt.setB (h:IAt A Z o v i u H)(lb:List Lb):IAt A Z o v i {u with lb:=lb} (H.set i.b (.list (lb.map (Lb.v A)))):=
 {h with t:=h.t.otherL h.b1 h.b2 h.b3 h.b4 h.hb (.inl rfl),hf:=(zN _ _ (uk h.hf h.hb rfl)).trans h.hf,hl:=(zN _ _ h.lb).trans h.hl,hb:=zS .. }
theorem OAt.setK (h:OAt A Z o v frs H)(kv:List (Int×V)):OAt A Z o {v with kv:=kv} frs (H.set o.kn (.dict (.i kv))):=by
 have k:∀{b:Addr} {q:AO},H b=some q→q.kind=0∨q.kind=1→(H.set o.kn (.dict (.i kv))) b=some q:=fun hb hq=>(zN _ _ (ne_k hb h.hk (by show _≠2;lia))).trans hb
 exact {h with hr:=k h.hr (.inr rfl),hm:=k h.hm (.inr rfl),hs:=k h.hs (.inl rfl),hfs:=k h.hfs (.inl rfl),hf:=k h.hf (.inr rfl),hl:=k h.hl (.inl rfl),hb:=k h.hb (.inl rfl),he:=(zN _ _ (Ne.symm h.n10)).trans h.he,hel:=(zN _ _ (Ne.symm h.n11)).trans h.hel,hk:=zS ..,hw:=(zN _ _ (Ne.symm h.n12)).trans h.hw}
def KvOk (kv:List (Int×V)):Prop:=kv.length≤10∧((getK kv 1=none∧kv.length≤1)∨∃e el,getK kv 1=some (.tup [.ref e,.ref el]))
theorem Yk (K:Core g A){hkv:List (Int×V)}(hB:jU g (A.bd jv) (.i hkv)){xs:List Int}{z:Int}(h:OAt A Z o {v with xs:=xs++[z]} [.ref o.f] H)(hb:xs.length≤1000)(hk:KvOk v.kv)
  (q:∀(s':Addr) (pk:Int) kv i H',KvOk kv→IAt A Z {o with s:=s'} {v with xs:=xs,pk:=pk,kv:=kv} i ⟨0,z,xs.length,[⟨3,1,xs.length,false⟩]⟩ H'→R H'):Does g A (n+30) o.r o.f p [16,1] H R:=by
 have hs:=h.hs
 have hm:=h.hm
 have hfs:=h.hfs
 have hkn:=h.hk
 have hr:=h.hr
 have hf:=h.hf
 have hlc:=h.hl
 have hbl:=h.hb
 have xn1:=h.n1
 have xn7:=h.n7
 have xn8:=h.n8
 have xn9:=h.n9
 have xn2:=h.n2
 have xn4:=h.n4
 have e1:((xs++[z]).map V.int).take (((xs++[z]).map V.int).length-1)=xs.map .int:=by simp
 have e2:((xs++[z]).map V.int).drop (((xs++[z]).map V.int).length-1)=[.int z]:=by simp
 have e3:((((xs++[z]).map V.int).length:Int)-([V.int (-1)].length:Nat))=xs.length:=by simp
 refine qy (n:=n+29) K (by decide) (ctl_call (n:=n+28) K h.hr h.hf (j:=1) (y:=.int 1) ⟨by decide,.inl rfl⟩ rfl (go_ok (n:=n+26) K h.hr ?_)) h.hr
 have hxl:((xs++[z]).map V.int).length≤8000000:=by rw[qD,qC,qE,qS];lia
 have h1l:1≤((xs++[z]).map V.int).length:=by rw[qD,qC];simp
 obtain⟨hkl,⟨hk1,hk2⟩ | ⟨e,el,hk1⟩⟩:=hk
 ·refine yZ (n:=n+6) (ops:=bd1) (lk:=[]) (ad:=1) (kp:=[.int (-1)]) (kr:=[.int (-1)]) K hr hs hfs hm hkn hk1 (by show v.kv.length≤_;lia) (by decide) (by decide) (fun k hk' e5=>?_) (fun k b w hw=>?_) (j:=1) ⟨by show 1<2;decide,.inl rfl⟩ rfl hB (fun c hc=>by cases hc) rfl (by show(1:Int)<3;decide) h1l hxl (by decide) (by show 1≤1000;decide) ?_
  ·exfalso
   have:k=0∨k=1∨k=2:=by have:bd1.length=3:=rfl;lia
   rcases this with rfl | rfl | rfl<;>exact absurd e5 (by decide)
  ·obtain⟨x,a1,_⟩:=(mt_lt bd1 k).li b w hw;exact⟨x,a1⟩
  ·intro s' l b fr e el q1 q2 q3 q4 q5 q6 q7 q8 q9 q10 q11 q12 q13 q14 q15 q16 q17 q18 q19 q20 q21
   simp only[qE,qS,Nat.zero_add]at e3 ⊢
   rw[e1,e2,e3]
   have t0:=h.keepN (a:=e) (y:=.dict (.i (mtOf bd1 bd1.length).ends)) q5
   have t1:=t0.keepN (a:=el) (y:=.dict (.i (mtOf bd1 bd1.length).elses)) (by nofun)
   have t2:=t1.setK (putK v.kv 1 (.tup [.ref e,.ref el]))
   have t3:=t2.keepN (a:=l) (y:=.list ([.int z]++List.replicate 0 (.int 0))) (by nofun)
   have t4:=t3.newS (d:=s') xs (by nofun)
   have t5:=t4.keepN (a:=b) (y:=.list [Lb.v A ⟨3,1,xs.length,false⟩]) (by nofun)
   have t6:=t5.keepN (a:=fr) (y:=iO A Z ⟨fr,l,b,e,el⟩ xs.length 0) (by nofun)
   have t7:=(t6.setFs [.ref o.f,.ref fr]).setM v.sp (max v.pk (1+1))
   have kl:=yX v.kv 1 (.tup [.ref e,.ref el])
   refine q s' _ _ ⟨fr,l,b,e,el⟩ _ ⟨by lia,.inr ⟨e,el,QP ..⟩⟩ {t:=t7,hf:=?_,hl:=?_,hb:=?_,n1:=?_,n2:=?_,n3:=?_,l1:=?_,l2:=?_,l3:=?_,l4:=?_,b1:=?_,b2:=?_,b3:=?_,b4:=?_,lb:=?_}
   all_goals dsimp only
   all_goals nofun
 ·refine Qj (n:=n+6) (lk:=[]) (ad:=1) (kp:=[.int (-1)]) (kr:=[.int (-1)]) K hr hs hfs hm hkn hk1 (j:=1) ⟨by show 1<2;decide,.inl rfl⟩ rfl hB (fun c hc=>by cases hc) rfl (by show(1:Int)<3;decide) h1l hxl (by decide) (by show 1≤1000;decide) ?_
  intro s' l b fr q1 q2 q3 q4 q7 q8 q9 q12 q13 q16
  simp only[qE,qS,Nat.zero_add]at e3 ⊢
  rw[e1,e2,e3]
  have t3:=h.keepN (a:=l) (y:=.list ([.int z]++List.replicate 0 (.int 0))) q2
  have t4:=t3.newS (d:=s') xs (by nofun)
  have t5:=t4.keepN (a:=b) (y:=.list [Lb.v A ⟨3,1,xs.length,false⟩]) (by nofun)
  have t6:=t5.keepN (a:=fr) (y:=iO A Z ⟨fr,l,b,e,el⟩ xs.length 0) (by nofun)
  have t7:=(t6.setFs [.ref o.f,.ref fr]).setM v.sp (max v.pk (1+1))
  refine q s' _ v.kv ⟨fr,l,b,e,el⟩ _ ⟨hkl,.inr ⟨e,el,hk1⟩⟩ {t:=t7,hf:=?_,hl:=?_,hb:=?_,n1:=?_,n2:=?_,n3:=?_,l1:=?_,l2:=?_,l3:=?_,l4:=?_,b1:=?_,b2:=?_,b3:=?_,b4:=?_,lb:=?_}
  all_goals dsimp only
  all_goals nofun
end
def jn (W:Wd)(a:Addr):Lb:=(W.lab a).getD ⟨0,0,0,false⟩
section
variable {root a:Addr}{G:Gw}{W:Wd}{i:Inf}
theorem Cert.lab (C:Cert root G W)(hi:G.inf a=some i):∃n,G.fin a=some n∧jn W a=⟨if i.lp then(i.beg:Int)+1 else(n:Int)+1,i.ar,i.h,i.lp⟩:=by
 obtain⟨n,h1,h2⟩:=C.tab a i hi
 exact⟨n,h1,by unfold jn;rw[h2];rfl⟩
theorem Cert.labRoot (C:Cert root G W):jn W root=⟨W.body.length,1,0,false⟩:=by
 obtain⟨n,h1,h2⟩:=C.lab C.iroot
 obtain⟨n',h3,h4,_⟩:=C.froot
 rw[h1]at h3;cases h3
 rw[h2,← h4];rfl
theorem Cert.opens (C:Cert root G W)(hi:G.inf a=some i)(ha:a≠root):i.ar=(if i.lp then i.t else i.g)∧W.Fin (i.beg+1) (i.below++[a]) (i.h+i.t)∧i.t≤2∧i.g≤2∧0≤i.h:=by
 obtain⟨c,hc,hb,ho⟩:=C.begs a i hi ha
 have hl:=(qF.mp hb).1
 obtain⟨v,hv⟩:∃v,W.hts[i.beg]? = some v:=⟨_,qH (by rw[C.l2];exact hl)⟩
 obtain⟨f,s⟩:=C.facts _ _ _ _ hb ho hv fun e=>by
  obtain⟨n,_,h2,h3⟩:=C.froot
  rw[show n=i.beg from by lia,hb]at h3
  cases h3
 generalize hop:([c,3*(i.t:Int)+(i.g:Int)]:Op)=op at f
 cases f with
 | opens a' i' c' h1 h2 h3 h4 h5 h6 h7 h8 h9 h10 h11 h12=>
  have hne:a'≠root:=fun z=>by
   rw[z,C.iroot]at h1;cases h1
   have:=s.1
   rw[← h3]at this;cases this
  obtain rfl:=C.inj a a' i i' hi h1 ha hne h2.symm
  rw[hi]at h1;cases h1
  exact⟨h7,by rw[show i.h+i.t=v-(if c'=4 then 1 else 0)from by lia];exact h12,h8,h9,h11⟩
 | const k _=>cases hop;lia
 | get k _ _=>cases hop;lia
 | drop _ _=>cases hop
 | set k _ _ _=>cases hop;lia
 | add c' _ _ _=>cases hop
 | call _ _=>have:=(List.cons.inj hop).1;lia
 | els _ _ _ _ _ _ _=>cases hop
 | fin _ _ _ _ _ _ _ _=>cases hop
 | last _ _ _ _=>cases hop
 | br k _ _ _ _ _ _=>cases hop;lia
 | table k _ _ _ _ _ _=>cases hop
 | brif k _ _ _ _ _ _ _=>cases hop;lia
 | ret _=>cases hop
theorem Cert.ends (C:Cert root G W)(hi:G.inf a=some i)(ha:a≠root){n:Nat}(hf:G.fin a=some n):W.Fin (n+1) i.below (i.h+i.g)∧W.Fin n (i.below++[a]) (i.h+i.g):=by
 obtain⟨hb,hs,_,hl⟩:=C.fins a i n hi hf ha
 obtain⟨f,s⟩:=C.facts _ _ _ _ hb hs.2 hs.1 fun e=>by lia
 refine⟨?_,hs,fun e=>by lia⟩
 generalize hop:([11]:Op)=op at f
 generalize hids:i.below++[a]=ids at f s
 generalize hv:i.h+(i.g:Int)=v at f ⊢
 cases f with
 | fin a' i' h1 h2 h3 h4 h5 h6=>
  obtain⟨e1,e2⟩:=List.append_inj' (hids.trans h2) rfl
  cases e2
  rw[hi]at h1;cases h1
  exact h6
 | last a' h1 h2 h3=>
  have e:=hids.trans h1
  have:=List.append_inj' (s₁:=i.below) (s₂:=[]) e rfl
  have hr:=s.1
  rw[h1]at hr
  cases this.2;cases hr
  exact absurd rfl ha
 | opens _ _ _ _ _ _ _ _ _ _ _ _ _ _ _=>cases hop
 | const k _=>cases hop
 | get k _ _=>cases hop
 | drop _ _=>cases hop
 | set k _ _ _=>cases hop
 | add c' _ _ _=>cases hop;lia
 | call _ _=>cases hop
 | els _ _ _ _ _ _ _=>cases hop
 | br k _ _ _ _ _ _=>cases hop
 | table k _ _ _ _ _ _=>cases hop
 | brif k _ _ _ _ _ _ _=>cases hop
 | ret _=>cases hop
end
structure OvOk (v:OV):Prop where
 xs:∀x∈v.xs,0≤x
 ls:∀x∈v.ls,0≤x
 l2:v.ls.length=2
 kv:KvOk v.kv
 xl:(v.xs.length:Int)≤v.sp+1
 ll:(v.lb.length:Int)≤v.sp+1
 s0:0≤v.sp
 s1:v.sp≤120
inductive qe (A:Adr)(Z:Zs)(W:Wd)(r m w:Addr)(sp:Int)(H:Hp):Prop
 | outer (o:OA) (v:OV) (p:Nat) (ids:List Addr) (hv:Int):o.r=r→o.m=m→o.w=w→OAt A Z o v [.ref o.f] H→v.br=false→v.sp=sp→v.at_=p→W.Fin p ids hv→(v.xs.length:Int)=hv→v.lb=ids.map (jn W)→OvOk v→qe A Z W r m w sp H
 | inner (o:OA) (v:OV) (i:IA) (u:IV) (p:Nat) (ids:List Addr) (hv:Int):o.r=r→o.m=m→o.w=w→IAt A Z o v i u H→v.br=false→v.sp=sp→v.at_=p+1→W.hts[p]? = some hv→W.Fin (p+1) ids hv→u.base=hv-1→0≤u.z→((u.at_=0∨u.at_=1)∧(v.xs.length:Int)=u.base∨u.at_=2∧(v.xs.length:Int)=u.base+1)→u.lb=[⟨3,1,u.base,false⟩]→v.lb=ids.map (jn W)→OvOk v→qe A Z W r m w sp H
 | done (o:OA) (v:OV):o.r=r→o.m=m→o.w=w→OAt A Z o v [] H→v.br=false→v.sp=sp→v.xs.length=1→OvOk v→qe A Z W r m w sp H
theorem u32_nn (x:Int):0≤u32 x:=(bitAnd_range x (by decide)).1
theorem uI {xs:List Int}(h:1≤xs.length):∃ys y,xs=ys++[y]:=by
 rcases List.eq_nil_or_concat xs with rfl | ⟨ys,y,e⟩
 ·simp at h
 ·exact⟨ys,y,by rw[e,List.concat_eq_append]⟩
section
variable {g:Gx}{A:Adr}{n:Nat}{Z:Zs}{W:Wd}{G:Gw}{root:Addr}{H:Hp}{QR:Hp→Prop}{r m w:Addr}{sp:Int}
theorem Wd.Fin.lt {q:Nat}{ids:List Addr}{v:Int}(h:W.Fin q ids v)(C:Cert root G W):q<W.body.length:=by
 rw[← C.l2];exact(qF.mp h.1.1).1
theorem nxt (C:Cert root G W)(hZ:Z.bd=W.body){o o':OA}{v':OV}{H':Hp}{p':Nat}{ids':List Addr}{hv':Int}(q:∀H',qe A Z W o.r o.m o.w sp H'→QR H')(h:OAt A Z o' v' [.ref o'.f] H')(h1:o'.r=o.r)(h2:o'.m=o.m)(h3:o'.fs=o.fs)(h4:o'.w=o.w)(hbr:v'.br=true)(hsp:v'.sp=sp)(hat:v'.at_=p')
  (hF:W.Fin p' ids' hv') (hx:(v'.xs.length:Int)=hv') (hl:v'.lb=ids'.map (jn W)) (hV:OvOk v'):jX A Z o QR H':=by
 have:=hF.lt C
 exact jX.stay h h1 h2 h3 hbr (by rw[hZ,hat];lia) fun H'' h''=>q _ (.outer o' _ p' ids' hv' h1 h2 h4 h'' rfl hsp hat hF hx hl ⟨hV.xs,hV.ls,hV.l2,hV.kv,hV.xl,hV.ll,hV.s0,hV.s1⟩)
theorem nxtD (hZ:Z.bd=W.body){o o':OA}{v':OV}{H':Hp}(q:∀H',qe A Z W o.r o.m o.w sp H'→QR H')(h:OAt A Z o' v' [.ref o'.f] H')(h1:o'.r=o.r)(h2:o'.m=o.m)(h3:o'.fs=o.fs)(h4:o'.w=o.w)(hbr:v'.br=true)(hsp:v'.sp=sp)(hat:v'.at_=W.body.length)(hx:v'.xs.length=1)(hV:OvOk v'):jX A Z o QR H':=
 jX.done h h1 h2 h3 hbr (by rw[hZ,hat];lia) fun H'' h''=>q _ (.done o' _ h1 h2 h4 h'' rfl hsp hx ⟨hV.xs,hV.ls,hV.l2,hV.kv,hV.xl,hV.ll,hV.s0,hV.s1⟩)
theorem nxtB (C:Cert root G W)(hZ:Z.bd=W.body){o o':OA}{ls:List Int}{pk:Int}{kv:List (Int×V)}{xs:List Int}{H':Hp}{ids:List Addr}{a:Addr}{i:Inf}{k:Nat}(q:∀H',qe A Z W o.r o.m o.w sp H'→QR H')(hs:Stk G root ids)(hk:k<ids.length)(ha:ids[ids.length-1-k]? = some a)(hi:G.inf a=some i)(hh:i.h+i.ar≤xs.length)
  (h:OAt A Z o' ⟨low xs (jn W a).h (jn W a).a,ls,if (jn W a).lp then(ids.take (ids.length-1-k)).map (jn W)++[jn W a] else(ids.take (ids.length-1-k)).map (jn W),(jn W a).t,sp,pk,kv,true⟩ [.ref o'.f] H')
  (h1:o'.r=o.r) (h2:o'.m=o.m) (h3:o'.fs=o.fs) (h4:o'.w=o.w) (hV:OvOk ⟨xs,ls,ids.map (jn W),0,sp,pk,kv,true⟩):jX A Z o QR H':=by
 obtain⟨i',hi',hb,h0,_⟩:=hs.2 _ _ ha
 rw[hi]at hi';cases hi'
 have hx:=hV.xl
 have hll:=hV.ll
 dsimp only at hx hll
 rw[qD]at hll
 by_cases hr:a=root
 ·subst hr
  rw[C.iroot]at hi;cases hi
  rw[C.labRoot]at h
  dsimp only at h
  have hl:=Qn (xs:=xs) (h:=0) (a:=1) (by decide) (by decide) (by simpa using hh)
  refine nxtD hZ q h h1 h2 h3 h4 rfl rfl rfl (by show(low xs 0 1).length=1;lia) ⟨JI hV.xs,hV.ls,hV.l2,hV.kv,?_,?_,hV.s0,hV.s1⟩
  ·show((low xs 0 1).length:Int)≤sp+1
   have:=hV.s0;dsimp only at this;lia
  ·show(((ids.take (ids.length-1-k)).map (jn W)).length:Int)≤sp+1
   rw[qD,List.length_take];lia
 ·obtain⟨har,hop,ht,hg,hh0⟩:=C.opens hi hr
  obtain⟨nf,hf,hlab⟩:=C.lab hi
  obtain⟨he1,he2⟩:=C.ends hi hr hf
  have hl:=Qn (xs:=xs) (h:=i.h) (a:=i.ar) h0 (by lia) hh
  rw[hlab]at h
  dsimp only at h
  have hlen:∀l:List Lb,l.length≤ids.length→(l.length:Int)≤sp+1:=fun l hl=>by lia
  cases hlp:i.lp with
  | true=>
   rw[hlp,if_pos rfl]at har
   rw[hlp]at h
   refine nxt C hZ (p':=i.beg+1) (ids':=i.below++[a]) (hv':=i.h+i.t) q h h1 h2 h3 h4 rfl rfl (by show(i.beg:Int)+1=((i.beg+1:Nat):Int);lia) hop (by show((low xs i.h i.ar).length:Int)=_;rw[hl,har]) ?_ ⟨JI hV.xs,hV.ls,hV.l2,hV.kv,by show((low xs i.h i.ar).length:Int)≤sp+1;lia,?_,hV.s0,hV.s1⟩
   ·show _++[_]=_
    rw[hb,qI,jA,List.map_nil,hlab,hlp]
   ·refine hlen _ ?_
    show((ids.take (ids.length-1-k)).map (jn W)++[_]).length≤_
    rw[qC,qD,List.length_take];simp;lia
  | false=>
   rw[hlp,if_neg (by decide)]at har
   rw[hlp]at h
   refine nxt C hZ (p':=nf+1) (ids':=i.below) (hv':=i.h+i.g) q h h1 h2 h3 h4 rfl rfl (by show(nf:Int)+1=((nf+1:Nat):Int);lia) he1 (by show((low xs i.h i.ar).length:Int)=_;rw[hl,har]) (by rw[hb];rfl) ⟨JI hV.xs,hV.ls,hV.l2,hV.kv,by show((low xs i.h i.ar).length:Int)≤sp+1;lia,?_,hV.s0,hV.s1⟩
   refine hlen _ ?_
   show((ids.take (ids.length-1-k)).map (jn W)).length≤_
   rw[qD,List.length_take];lia
end
theorem OvOk.nx {v v':OV}(hV:OvOk v)(hlt:v.sp<120)(h1:∀x∈v'.xs,0≤x)(h2:v'.xs.length≤v.xs.length+1)(h3:v'.ls=v.ls)(h4:v'.lb.length≤v.lb.length+1)(h5:v'.sp=v.sp+1)(h6:v'.kv=v.kv):OvOk v':=by
 have:=hV.xl
 have:=hV.ll
 have:=hV.s0
 exact⟨h1,by rw[h3];exact hV.ls,by rw[h3];exact hV.l2,by rw[h6];exact hV.kv,by lia,by lia,by lia,by lia⟩
theorem Jy {xs:List Int}{x:Int}(h:∀y∈xs,0≤y)(hx:0≤x):∀y∈xs++[x],0≤y:=fun y hy=>by
 rcases qO.mp hy with hy | hy
 ·exact h y hy
 ·rw[qR.mp hy];exact hx
theorem uK {xs:List Int}{x:Int}(h:∀y∈xs++[x],0≤y):(∀y∈xs,0≤y)∧0≤x:=⟨fun y hy=>h y (qB _ hy),h x (qA _ (.head _))⟩
section
variable {g:Gx}{A:Adr}{n:Nat}{Z:Zs}{o o':OA}{v':OV}{i:IA}{u:IV}{H':Hp}{QR:Hp→Prop}
theorem jX.istay (h:IAt A Z o' v' i u H')(h1:o'.r=o.r)(h2:o'.m=o.m)(h3:o'.fs=o.fs)(hbr:v'.br=true)(hat:u.at_<3)(q:∀H'',IAt A Z o' {v' with br:=false} i u H''→QR H''):jX A Z o QR H':=by
 obtain⟨xs,ls,lb,at_,sp,pk,kv,br⟩:=v'
 cases hbr
 refine⟨o'.s,[.ref o'.f,.ref i.f],[.ref o'.f,.ref i.f],by rw[← h1,← h2,← h3];exact h.t.hr,by rw[← h3];exact h.t.hfs,by simp,Pops.stay (lo:=[.ref o'.f]) h.hf hat,?_⟩
 rw[← h1,← h2,← h3]
 have g:=h.setR false
 rw[Hp.set_same g.t.hfs]
 exact q _ g
theorem jX.ipop (h:IAt A Z o' v' i u H')(h1:o'.r=o.r)(h2:o'.m=o.m)(h3:o'.fs=o.fs)(hbr:v'.br=true)(hat:3≤u.at_)(hat':v'.at_<Z.bd.length)(q:∀H'',OAt A Z o' {v' with br:=false} [.ref o'.f] H''→QR H''):jX A Z o QR H':=by
 obtain⟨xs,ls,lb,at_,sp,pk,kv,br⟩:=v'
 cases hbr
 refine⟨o'.s,[.ref o'.f,.ref i.f],[.ref o'.f],by rw[← h1,← h2,← h3];exact h.t.hr,by rw[← h3];exact h.t.hfs,by simp,Pops.pop (lo:=[.ref o'.f]) h.hf hat (Pops.stay (lo:=[]) h.t.hf (by rw[qD];exact hat')),?_⟩
 rw[← h1,← h2,← h3]
 exact q _ ((h.t.setR false).setFs _)
end
section
variable {g:Gx}{A:Adr}{n:Nat}{Z:Zs}{W:Wd}{G:Gw}{root:Addr}{H:Hp}{QR:Hp→Prop}{sp:Int}
theorem zr (l:List Addr)(a:Addr):(l++[a]).map (jn W)=l.map (jn W)++[jn W a]:=by rw[qI];rfl
theorem JY {ids:List Addr}{k:Nat}{a:Addr}(hk:k<ids.length)(ha:ids[ids.length-1-k]? = some a):ids.map (jn W)=(ids.take (ids.length-1-k)).map (jn W)++jn W a::(ids.drop (ids.length-k)).map (jn W)∧k=((ids.drop (ids.length-k)).map (jn W)).length:=by
 have hj:ids.length-1-k<ids.length:=by lia
 rw[qH hj]at ha
 have ha:=Option.some.inj ha
 refine⟨?_,by rw[qD,List.length_drop];lia⟩
 have e:ids=ids.take (ids.length-1-k)++a::ids.drop (ids.length-k):=by
  conv=>lhs;rw[← List.take_append_drop (ids.length-1-k) ids,List.drop_eq_getElem_cons hj,ha]
  rw[show ids.length-1-k+1=ids.length-k from by lia]
 conv=>lhs;rw[e]
 rw[qI,jA]
theorem Xf (K:Core g A){hkv:List (Int×V)}(hB:jU g (A.bd jv) (.i hkv))(C:Cert root G W)(hZ:Z.bd=W.body){QX:Addr→V→Hp→Prop}{o:OA}{xs ls:List Int}{pk:Int}{kv:List (Int×V)}{p:Nat}{ids:List Addr}{hv:Int}
  (h:OAt A Z o ⟨xs,ls,ids.map (jn W),p,sp,pk,kv,false⟩ [.ref o.f] H) (hF:W.Fin p ids hv) (hxl:(xs.length:Int)=hv) (hV:OvOk ⟨xs,ls,ids.map (jn W),p,sp,pk,kv,false⟩)
  (hx:120≤sp→QX (A.cls jG) (.str "fuel") H) (q:∀H',qe A Z W o.r o.m o.w (sp+1) H'→QR H'):jb g (jR g QX) (n+31) (.ref (A.fn jI)) [.ref o.r] H (fun _ H'=>QR H'):=by
 have hpl:=hF.lt C
 have hp:W.body[p]? = some W.body[p]:=qH hpl
 generalize W.body[p]=op at hp
 obtain⟨f,s⟩:=C.facts p op ids hv hp hF.1.2 hF.1.1 hF.2
 refine ostep (n:=n+26) K h rfl rfl (by rw[hZ];exact hp) hx fun hlt H₁ h₁=>?_
 have hlt:sp<120:=hlt
 have vx:=hV.xs
 have vl:=hV.ls
 have v2:=hV.l2
 have vxl:=hV.xl
 have vll:=hV.ll
 have v0:=hV.s0
 dsimp only at vx vl v2 vxl vll v0
 show Does g A (n+30) o.r o.f p op H₁ (jX A Z o QR)
 have hb:xs.length≤1000:=by lia
 have hbl:(ids.map (jn W)).length≤1000:=by lia
 have nn:=hV.nx (v':=⟨xs,ls,ids.map (jn W),p,sp+1,pk,kv,false⟩) hlt vx (by simp) rfl (by simp) rfl rfl
 cases f with
 | const k h1=>
  exact Xu K h₁ hb fun H' h'=>nxt C hZ q h' rfl rfl rfl rfl rfl rfl rfl h1 (by show((xs++[u32 k]).length:Int)=_;rw[qC];simp;lia) rfl (hV.nx hlt (Jy vx (u32_nn k)) (by simp) rfl (by simp) rfl rfl)
 | get k hk h1=>
  obtain⟨j,rfl,hj⟩:∃j:Nat,k=j∧j<ls.length:=⟨k.toNat,by lia,by lia⟩
  exact does_get K h₁ hb (qH hj) fun H' h'=>nxt C hZ q h' rfl rfl rfl rfl rfl rfl rfl h1 (by show((xs++[_]).length:Int)=_;rw[qC];simp;lia) rfl (hV.nx hlt (Jy vx (vl _ (List.getElem_mem hj))) (by simp) rfl (by simp) rfl rfl)
 | drop h0 h1=>
  obtain⟨ys,y,rfl⟩:=uI (xs:=xs) (by lia)
  rw[qC,qE,qS]at hxl vxl hb
  have ynn:=uK vx
  exact Yj (v:=⟨ys,ls,ids.map (jn W),p+1,sp+1,pk,kv,true⟩) K h₁ (by lia) fun H' h'=>nxt C hZ q h' rfl rfl rfl rfl rfl rfl rfl h1 (by show(ys.length:Int)=_;lia) rfl (hV.nx hlt ynn.1 (by simp;lia) rfl (by simp) rfl rfl)
 | set k hk h0 h1=>
  obtain⟨ys,y,rfl⟩:=uI (xs:=xs) (by lia)
  rw[qC,qE,qS]at hxl vxl hb
  have ynn:=uK vx
  obtain⟨j,rfl,hj⟩:∃j:Nat,k=j∧j<ls.length:=⟨k.toNat,by lia,by lia⟩
  refine does_set (v:=⟨ys,ls,ids.map (jn W),p+1,sp+1,pk,kv,true⟩) K h₁ (by lia) hj fun H' h'=>nxt C hZ q h' rfl rfl rfl rfl rfl rfl rfl h1 (by show(ys.length:Int)=_;lia) rfl ⟨ynn.1,fun x hx=>?_,by show(ls.set j y).length=2;rw[List.length_set];exact v2,hV.kv,by show(ys.length:Int)≤sp+1+1;lia,nn.ll,nn.s0,nn.s1⟩
  rcases List.mem_or_eq_of_mem_set hx with hx | rfl
  ·exact vl _ hx
  ·exact ynn.2
 | add c hc h0 h1=>
  obtain⟨ys,y,rfl⟩:=uI (xs:=xs) (by lia)
  rw[qC,qE,qS]at hxl vxl hb
  have ynn:=uK vx
  obtain⟨zs,z,rfl⟩:=uI (xs:=ys) (by lia)
  rw[qC,qE,qS]at hxl vxl hb
  exact does_num (v:=⟨zs,ls,ids.map (jn W),p+1,sp+1,pk,kv,true⟩) K hc h₁ (by lia) fun H' h'=>nxt C hZ q h' rfl rfl rfl rfl rfl rfl rfl h1 (by show((zs++[_]).length:Int)=_;rw[qC];simp;lia) rfl (hV.nx hlt (Jy (uK ynn.1).1 (u32_nn _)) (by simp) rfl (by simp) rfl rfl)
 | call h0 h1=>
  obtain⟨ys,y,rfl⟩:=uI (xs:=xs) (by lia)
  rw[qC,qE,qS]at hxl vxl hb
  have ynn:=uK vx
  refine Yk (v:=⟨ys,ls,ids.map (jn W),p+1,sp+1,pk,kv,true⟩) K hB h₁ (by lia) hV.kv fun s' pk' kv' i H' hk' h'=>?_
  refine jX.istay h' rfl rfl rfl rfl (by show(0:Int)<3;decide) fun H'' h''=>q _ (.inner {o with s:=s'} ⟨ys,ls,ids.map (jn W),p+1,sp+1,pk',kv',false⟩ i ⟨0,y,ys.length,[⟨3,1,ys.length,false⟩]⟩ p ids hv rfl rfl rfl h'' rfl rfl rfl hF.1.1 h1 (by show(ys.length:Int)=_;lia) ynn.2 (.inl ⟨.inl rfl,rfl⟩) rfl rfl ⟨ynn.1,nn.ls,nn.l2,hk',by show(ys.length:Int)≤sp+1+1;lia,nn.ll,nn.s0,nn.s1⟩)
 | opens a i c h1 h2 h3 h4 h5 h6 h7 h8 h9 h10 h11 h12=>
  have har:a≠root:=fun z=>by
   rw[z,C.iroot]at h1;cases h1
   have:=s.1
   rw[← h3]at this;cases this
  obtain⟨nf,hf,hlab⟩:=C.lab h1
  obtain⟨he,_⟩:=C.mts a i nf h1 har hf
  have hel:=C.mte a i h1 har
  rw[h2]at he hel
  rcases h4 with rfl | rfl | rfl
  ·have hlp:i.lp=false:=h5
   rw[hlp,if_neg (by decide)]at h7
   rw[if_neg (by decide)]at h10 h12
   have eL:(⟨(nf:Int)+1,i.g,(xs.length:Int)-i.t,false⟩:Lb)=jn W a:=by rw[hlab,hlp,h7,h10,hxl];simp
   refine Xv K h₁ hbl h8 h9 (e:=nf) (by unfold Zs.ends;rw[hZ];exact he) fun H' h'=>?_
   dsimp only at h'
   rw[eL,← zr]at h'
   exact nxt C hZ q h' rfl rfl rfl rfl rfl rfl rfl h12 (by show(xs.length:Int)=_;lia) rfl (hV.nx hlt vx (by simp) rfl (by simp) rfl rfl)
  ·have hlp:i.lp=true:=h5
   rw[hlp,if_pos rfl]at h7
   rw[if_neg (by decide)]at h10 h12
   have eL:(⟨(p:Int)+1,i.t,(xs.length:Int)-i.t,true⟩:Lb)=jn W a:=by rw[hlab,hlp,h7,h10,hxl,h2];simp
   refine Yh K h₁ hbl h8 h9 fun H' h'=>?_
   dsimp only at h'
   rw[eL,← zr]at h'
   exact nxt C hZ q h' rfl rfl rfl rfl rfl rfl rfl h12 (by show(xs.length:Int)=_;lia) rfl (hV.nx hlt vx (by simp) rfl (by simp) rfl rfl)
  ·have hlp:i.lp=false:=h5
   rw[hlp,if_neg (by decide)]at h7
   rw[if_pos rfl]at h10 h12
   obtain⟨ys,y,rfl⟩:=uI (xs:=xs) (by lia)
   rw[qC,qE,qS]at hxl vxl hb
   have ynn:=uK vx
   have eL:(⟨(nf:Int)+1,i.g,(ys.length:Int)-i.t,false⟩:Lb)=jn W a:=by
    have:(ys.length:Int)-i.t=i.h:=by lia
    rw[hlab,hlp,h7,this];simp
   refine does_if (v:=⟨ys,ls,ids.map (jn W),p+1,sp+1,pk,kv,true⟩) K h₁ (by lia) hbl h8 h9 (e:=nf) (eo:=(G.els a).map fun e:Nat=>(e:Int)) (by unfold Zs.ends;rw[hZ];exact he) (by unfold Zs.elses;rw[hZ,hel,Option.map_map];rfl) (fun _ H' h'=>?_) (fun _ H' h'=>?_)
   all_goals
    dsimp only at h'
    rw[eL,← zr]at h'
   ·exact nxt C hZ q h' rfl rfl rfl rfl rfl rfl rfl h12 (by show(ys.length:Int)=_;lia) rfl (hV.nx hlt ynn.1 (by simp;lia) rfl (by simp) rfl rfl)
   ·cases hels:G.els a with
    | some e=>
     rw[hels]at h'
     have hE:=(C.elss a i e h1 hels).2.2
     rw[h3]at hE
     exact nxt C hZ (p':=e+1) q h' rfl rfl rfl rfl rfl rfl rfl hE (by show(ys.length:Int)=_;lia) rfl (hV.nx hlt ynn.1 (by simp;lia) rfl (by simp) rfl rfl)
    | none=>
     rw[hels]at h'
     have hE:=(C.ends h1 har hf).2
     have htg:=(C.fins a i nf h1 hf har).2.2.1 h6 hels
     rw[h3]at hE
     exact nxt C hZ (p':=nf) q h' rfl rfl rfl rfl rfl rfl rfl hE (by show(ys.length:Int)=_;lia) rfl (hV.nx hlt ynn.1 (by simp;lia) rfl (by simp) rfl rfl)
 | els a i h1 h2 h5 h3 h4=>
  have har:a≠root:=fun z=>by
   rw[z,C.iroot]at h1;cases h1
   exact h5 rfl
  obtain⟨nf,hf,hlab⟩:=C.lab h1
  have he:=(C.mts a i nf h1 har hf).2 p h3
  have hE:=(C.ends h1 har hf).2
  rw[← h2,← h4]at hE
  exact Yi K h₁ (e:=nf) (by unfold Zs.ends;rw[hZ];exact he) fun H' h'=>nxt C hZ q h' rfl rfl rfl rfl rfl rfl rfl hE hxl rfl (hV.nx hlt vx (by simp) rfl (by simp) rfl rfl)
 | fin a i h1 h2 h3 h4 h5 h6=>
  subst h2
  rw[zr]at h₁ vll hbl
  rw[qC,qE,qS]at vll hbl
  exact UX (v:=⟨xs,ls,i.below.map (jn W),p+1,sp+1,pk,kv,true⟩) K h₁ (by lia) fun H' h'=>nxt C hZ q h' rfl rfl rfl rfl rfl rfl rfl h6 hxl rfl (hV.nx hlt vx (by simp) rfl (by simp;lia) rfl rfl)
 | last a h1 h2 h3=>
  subst h1
  have hlen:p+1=W.body.length:=by
   obtain⟨nf,e1,e2,_⟩:=C.froot
   have:=s.1
   cases this
   rw[e1]at h2;cases h2;exact e2
  exact UX (lb:=[]) (v:=⟨xs,ls,[],p+1,sp+1,pk,kv,true⟩) K h₁ (by decide) fun H' h'=>nxtD hZ q h' rfl rfl rfl rfl rfl rfl (by show(p:Int)+1=_;lia) (by show xs.length=1;lia) (hV.nx hlt vx (by simp) rfl (by simp) rfl rfl)
 | br k a i h1 h2 h3 h4=>
  obtain⟨i',hi',hb',h0,_⟩:=s.2 _ _ h2
  rw[h3]at hi';cases hi'
  obtain⟨e1,e2⟩:=JY h1 h2
  obtain⟨nf,hf,hlab⟩:=C.lab h3
  refine does_br K h₁ hb e1 hbl e2 (by rw[hlab];exact h0) (by rw[hlab];show(0:Int)≤(i.ar:Int);lia) (by rw[hlab];show i.h+i.ar≤(xs.length:Int);lia) fun s' b' H' h'=>nxtB C hZ q s h1 h2 h3 (xs:=xs) (by lia) h' rfl rfl rfl rfl ⟨nn.xs,nn.ls,nn.l2,nn.kv,nn.xl,nn.ll,nn.s0,nn.s1⟩
 | table k a i h1 h2 h3 h4=>
  obtain⟨i',hi',hb',h0,_⟩:=s.2 _ _ h2
  rw[h3]at hi';cases hi'
  obtain⟨e1,e2⟩:=JY h1 h2
  obtain⟨nf,hf,hlab⟩:=C.lab h3
  obtain⟨ys,y,rfl⟩:=uI (xs:=xs) (by lia)
  rw[qC,qE,qS]at hxl vxl hb
  have ynn:=uK vx
  exact Xt (v:=⟨ys,ls,ids.map (jn W),p+1,sp+1,pk,kv,true⟩) K h₁ (by lia) ynn.2 e1 hbl e2 (by rw[hlab];exact h0) (by rw[hlab];show(0:Int)≤(i.ar:Int);lia) (by rw[hlab];show i.h+i.ar≤_;lia) fun s' b' H' h'=>nxtB C hZ q s h1 h2 h3 (by lia) h' rfl rfl rfl rfl ⟨ynn.1,nn.ls,nn.l2,nn.kv,by show(ys.length:Int)≤sp+1+1;lia,nn.ll,nn.s0,nn.s1⟩
 | brif k a i h1 h2 h3 h4 h5=>
  obtain⟨i',hi',hb',h0,_⟩:=s.2 _ _ h2
  rw[h3]at hi';cases hi'
  obtain⟨e1,e2⟩:=JY h1 h2
  obtain⟨nf,hf,hlab⟩:=C.lab h3
  obtain⟨ys,y,rfl⟩:=uI (xs:=xs) (by lia)
  rw[qC,qE,qS]at hxl vxl hb
  have ynn:=uK vx
  exact Yl (v:=⟨ys,ls,ids.map (jn W),p+1,sp+1,pk,kv,true⟩) K h₁ (by lia) e1 hbl e2 (by rw[hlab];exact h0) (by rw[hlab];show(0:Int)≤(i.ar:Int);lia) (by rw[hlab];show i.h+i.ar≤_;lia) (fun s' b' H' h'=>nxtB C hZ q s h1 h2 h3 (by lia) h' rfl rfl rfl rfl ⟨ynn.1,nn.ls,nn.l2,nn.kv,by show(ys.length:Int)≤sp+1+1;lia,nn.ll,nn.s0,nn.s1⟩)
   fun H' h'=>nxt C hZ q h' rfl rfl rfl rfl rfl rfl rfl h5 (by show(ys.length:Int)=_;lia) rfl (hV.nx hlt ynn.1 (by simp;lia) rfl (by simp) rfl rfl)
 | ret h0=>
  have hl:=Qn (xs:=xs) (h:=0) (a:=1) (by decide) (by decide) (by lia)
  exact does_ret K h₁ hb (by show 1≤xs.length;lia) fun s' b' H' h'=>nxtD hZ q h' rfl rfl rfl rfl rfl rfl (by show(Z.bd.length:Int)=_;rw[hZ]) (by show(low xs 0 1).length=1;lia) (hV.nx hlt (JI vx) (by show(low xs 0 1).length≤xs.length+1;lia) rfl (by simp) rfl rfl)
end
section
variable {g:Gx}{A:Adr}{n:Nat}{Z:Zs}{W:Wd}{G:Gw}{root:Addr}{H:Hp}{QR:Hp→Prop}{sp:Int}
theorem ctl_nop (K:Core g A){r f:Addr}{here:V}{Q:V→Hp→Prop}(q:Q .none H):jb g ExF.still (n+1) (.ref (A.fn jq)) [.ref r,.ref f,here,.tup [.int 1]] H Q:=by
 refine jj K.G K.Rk K.k_CoreRun_control rfl fun F ok hh=>?_
 ac_rfl
 exact q
theorem istep (K:Core g A){QX:Addr→V→Hp→Prop}{o:OA}{v:OV}{i:IA}{u:IV}{j:Nat}{op:Op}(h:IAt A Z o v i u H)(hbr:v.br=false)(hat:u.at_=j)(hp:bd1[j]? = some op)
  (hx:120≤v.sp→QX (A.cls jG) (.str "fuel") H)
  (hdo:v.sp<120→∀H₁,IAt A Z o {v with sp:=v.sp+1,br:=true} i {u with at_:=j+1} H₁→jb g ExF.still (n+4) (.ref (A.fn jL)) [.ref o.r,.ref i.f,.int j,opV op] H₁ (fun _ H'=>jX A Z o QR H')) :
  jb g (jR g QX) (n+5) (.ref (A.fn jI)) [.ref o.r] H (fun _ H'=>QR H'):=by
 obtain⟨xs,ls,lb,at_,sp,pk,kv,br⟩:=v
 cases hbr
 obtain⟨at1,z,base,lb1⟩:=u
 have hat:at1=j:=hat
 subst hat
 have hpl:j<bd1.length:=(qF.mp hp).1
 refine Wy K h.t.hr rfl (lo:=[.ref o.f]) h.t.hfs (by simp) h.t.hm h.hf (j:=j) ⟨by rw[qD];exact hpl,.inl rfl⟩ (by rw[qV,hp];rfl) hx fun hlt=>?_
 refine(hdo hlt _ (((h.setM (sp+1) pk).setF (j+1)).setR true)).mono ?_
 rintro x H' ⟨s',fl,fl',a,b,c,d,e⟩
 exact⟨s',fl,fl',a,b,c,d,e⟩
theorem Xq (K:Core g A)(C:Cert root G W)(hZ:Z.bd=W.body){QX:Addr→V→Hp→Prop}{o:OA}{xs ls:List Int}{pk:Int}{kv:List (Int×V)}{i:IA}{at1 z:Int}{p:Nat}{ids:List Addr}{hv:Int}
  (h:IAt A Z o ⟨xs,ls,ids.map (jn W),p+1,sp,pk,kv,false⟩ i ⟨at1,z,hv-1,[⟨3,1,hv-1,false⟩]⟩ H) (hp:W.hts[p]? = some hv) (hF:W.Fin (p+1) ids hv) (hz:0≤z) (hxl:(at1=0∨at1=1)∧(xs.length:Int)=hv-1∨at1=2∧(xs.length:Int)=hv-1+1) (hV:OvOk ⟨xs,ls,ids.map (jn W),p+1,sp,pk,kv,false⟩)
  (hx:120≤sp→QX (A.cls jG) (.str "fuel") H) (q:∀H',qe A Z W o.r o.m o.w (sp+1) H'→QR H'):jb g (jR g QX) (n+31) (.ref (A.fn jI)) [.ref o.r] H (fun _ H'=>QR H'):=by
 have vx:=hV.xs
 have vxl:=hV.xl
 dsimp only at vx vxl
 have hV':∀xs':List Int,sp<120→(∀x∈xs',0≤x)→xs'.length≤xs.length+1→OvOk ⟨xs',ls,ids.map (jn W),p+1,sp+1,pk,kv,false⟩:=fun xs' hlt h1 h2=>hV.nx hlt h1 h2 rfl (by simp) rfl rfl
 rcases hxl with⟨rfl | rfl,hl⟩ | ⟨rfl,hl⟩
 ·refine istep (n:=n+26) (j:=0) K h rfl rfl rfl hx fun hlt H₁ h₁=>qy (n:=n+29) K (by decide) (ctl_nop K ?_) h₁.t.hr
  exact jX.istay h₁ rfl rfl rfl rfl (by show(0:Int)+1<3;decide) fun H'' h''=>q _ (.inner o _ i _ p ids hv rfl rfl rfl h'' rfl rfl rfl hp hF rfl hz (.inl ⟨.inr rfl,hl⟩) rfl rfl (hV' xs hlt vx (by lia)))
 ·refine istep (n:=n+26) (j:=1) K h rfl rfl rfl hx fun hlt H₁ h₁=>KK (n:=n+29) K (by decide) (by decide) (KG (n:=n+28) K h₁.t.hr h₁.t.hs (by rw[qD];have:sp<120:=hlt;show xs.length≤_;lia) h₁.hf h₁.hl (j:=0) (k:=0) ⟨Nat.one_pos,.inl rfl⟩ rfl ?_).calm h₁.t.hr
  have t:=h₁.setS (xs++[z])
  rw[qc]at t
  exact jX.istay t rfl rfl rfl rfl (by show(1:Int)+1<3;decide) fun H'' h''=>q _ (.inner o _ i _ p ids hv rfl rfl rfl h'' rfl rfl rfl hp hF rfl hz (.inr ⟨rfl,by show((xs++[z]).length:Int)=_;rw[qC];simp;lia⟩) rfl rfl (hV' (xs++[z]) hlt (Jy vx hz) (by simp)))
 ·have hplt:=hF.lt C
  refine istep (n:=n+26) (j:=2) K h rfl rfl rfl hx fun hlt H₁ h₁=>qy (n:=n+29) K (by decide) (WU (n:=n+28) (lbs:=[]) K h₁.hf h₁.hb (by decide) ?_) h₁.t.hr
  have t:=h₁.setB []
  exact jX.ipop t rfl rfl rfl rfl (by show 3≤(2:Int)+1;decide) (by rw[hZ];show(p:Int)+1<_;lia) fun H'' h''=>q _ (.outer o _ (p+1) ids hv rfl rfl rfl h'' rfl rfl rfl hF (by show(xs.length:Int)=_;lia) rfl (hV' xs hlt vx (by lia)))
theorem run_step (K:Core g A){hkv:List (Int×V)}(hB:jU g (A.bd jv) (.i hkv))(C:Cert root G W)(hZ:Z.bd=W.body){QX:Addr→V→Hp→Prop}{r m w:Addr}(R:qe A Z W r m w sp H)(hne:∀s fs br,H r=some (rO A Z m s fs br)→H fs≠some (.list []))
  (hx:120≤sp→QX (A.cls jG) (.str "fuel") H) (q:∀H',qe A Z W r m w (sp+1) H'→QR H'):jb g (jR g QX) (n+31) (.ref (A.fn jI)) [.ref r] H (fun _ H'=>QR H'):=by
 cases R with
 | outer o v p ids hv h1 h2 h3 h hbr hsp hat hF hxl hlb hV=>
  obtain⟨xs,ls,lb,at_,sp',pk,kv,br⟩:=v
  dsimp only at hbr hsp hat hlb
  subst hbr hsp hat hlb h1 h2 h3
  exact Xf K hB C hZ h hF hxl hV hx q
 | inner o v i u p ids hv h1 h2 h3 h hbr hsp hat hp hF hb hz hxl hul hlb hV=>
  obtain⟨xs,ls,lb,at_,sp',pk,kv,br⟩:=v
  obtain⟨at1,z,base,lb1⟩:=u
  dsimp only at hbr hsp hat hlb hb hz hxl hul
  subst hbr hsp hat hlb h1 h2 h3 hul hb
  exact Xq K C hZ h hp hF hz hxl hV hx q
 | done o v h1 h2 h3 h hbr hsp hxl hV=>
  subst h1 h2 h3
  exact absurd h.hfs (hne _ _ _ h.hr)
end
def Wd.told (W:Wd)(P:WA):AO:=W.dv P (.lst (W.body.map opV)) (.lst (W.hts.map .int)) (.lst (W.opens.map fun ids=>.lst (ids.map fun a=>.lst (labL W a))))
section
variable {g:Gx}{A:Adr}{n:Nat}{Z:Zs}{W:Wd}{P:WA}{H:Hp}{Q:V→Hp→Prop}{frs:List V}
theorem QS (K:Core g A)(hw:Z.wv=W.told P){o:OA}{v:OV}{p:Nat}{ids:List Addr}{more:List V}{out:List V}(h:OAt A Z o v (.ref o.f::more) H)(hat:v.at_=p)(hids:W.opens[p]? = some ids)(hidl:ids.length≤1000)(hll:v.ls.length≤1000)(hml:more.length≤1)
  (h0:more=[]→out=[.tup [.int 0,.int p,.tup (v.ls.map .int),.tup (ids.map fun a=>.tup (labL W a))]])
  (h1:∀f1,more=[.ref f1]→0<p∧∃(l1:Addr) (ls1:List V) (at1 hv:Int) (ad ins bd ar e el ba b:V),H f1=some (.inst (A.cls jl) [ad,ins,bd,ar,e,el,.ref l1,ba,.int at1,b])∧H l1=some (.list ls1)∧ls1.length≤1000∧W.hts[p-1]? = some hv ∧
   out=[.tup [.int 0,.int p,.tup (v.ls.map .int),.tup (ids.map fun a=>.tup (labL W a))],.tup [.int 1,.int at1,.tup ls1,.tup [.tup [.int 3,.int 1,.int (hv-1),.bool false]]]])
  (hm:∀x∈more,∃f1,x = .ref f1)
  (q:Q (.tup out) H):jb g ExF.still (n+6) (.ref (A.fn uQ)) [.ref o.r,.ref o.w] H Q:=by
 refine jb.pure (v:=.tup out) ?_ q
 have hr:H o.r=some (.inst (A.cls jd) [.ref o.m,Z.st A,.int 0,.ref o.s,.ref o.fs,.bool v.br]):=h.hr
 have hf:H o.f=some (.inst (A.cls jl) [.int 0,Z.inst A,.lst (Z.bd.map opV),.int 1,.ref o.e,.ref o.el,.ref o.l,.int 0,.int v.at_,.ref o.b]):=h.hf
 have hfs:=h.hfs
 have hl:=h.hl
 have hww:H o.w=some (.dict (.s [("body",.lst (W.body.map opV)),("heights",.lst (W.hts.map .int)),("open",.lst (W.opens.map fun ids=>.lst (ids.map fun a=>.lst (labL W a)))),("high",.int W.high),("live",.bool W.live),("left",.int W.left),("labels",.ref P.ls)])):=by rw[h.hw,hw];rfl
 rw[hat]at hf
 have hj:Idx (p:Int) (W.opens.map fun ids=>V.lst (ids.map fun a=>.lst (labL W a))).length p:=⟨by rw[qD];exact(qF.mp hids).1,.inl rfl⟩
 have hy:(W.opens.map fun ids=>V.lst (ids.map fun a=>.lst (labL W a)))[p]? = some (.lst (ids.map fun a=>.lst (labL W a))):=by rw[qV,hids];rfl
 refine jj K.G K.Rk K.k_law_frames rfl fun F ok hh=>?_
 ac_rfl
 refine jt p hj hy ?_
 refine⟨ids.map fun a=>.lst (labL W a),_,.list _ _,.inl rfl,by rw[qD];lia,fun i ys H'=>ys=(ids.take i).map (fun a=>.tup (labL W a))∧H'=H.set d (.list []),⟨rfl,rfl⟩,?_,?_⟩
 ·rintro ys H' a ⟨rfl,rfl⟩ ha
  obtain⟨ha',hna⟩:=uA ha
  rw[qD,List.take_length]
  have hll':(List.map V.int v.ls).length≤16000000:=by rw[qD];lia
  cases more with
  | nil=>
   obtain rfl:=h0 rfl
   ac_rfl
   walk_at "sub"
  | cons x more=>
   obtain rfl:more=[]:=by
    cases more with
    | nil=>rfl
    | cons y more=>simp at hml
   obtain⟨f1,rfl⟩:=hm x (.head _)
   obtain⟨hp0,l1,ls1,at1,hv,ad,ins,bd,ar,e,el,ba,b,hf1,hl1,hll1,hv1,rfl⟩:=h1 f1 rfl
   have hj1:Idx ((p:Int)-1) (W.hts.map V.int).length (p-1):=⟨by rw[qD];exact(qF.mp hv1).1,.inl (by lia)⟩
   have hy1:(W.hts.map V.int)[p-1]? = some (.int hv):=by rw[qV,hv1];rfl
   ac_rfl
   refine jt (p-1) hj1 hy1 ?_
   ac_rfl
   walk_at "sub"
 ·rintro f' a C i y ys H' hy ⟨rfl,rfl⟩ hL ha hC hne hd
  obtain⟨b,hb,rfl⟩:∃b,ids[i]? = some b∧y = .lst (labL W b):=by
   rw[qV,Option.map_eq_some_iff]at hy
   obtain⟨b,h1,h2⟩:=hy
   exact⟨b,h1,h2.symm⟩
  have ht:(ids.take i).map (fun a=>V.tup (labL W a))++[.tup (labL W b)]=(ids.take (i+1)).map fun a=>.tup (labL W a):=by
   rw[List.take_add_one,hb,qI];rfl
  have hlb:(labL W b).length≤16000000:=by
   unfold labL;split
   ·exact(by decide:4≤16000000)
   ·exact Nat.zero_le _
  ac_rfl
  exact⟨_,_,rfl,Hp.Sub.refl _,ha,hC,⟨ht,rfl⟩,hL⟩
end
section
variable {g:Gx}{A:Adr}{n:Nat}{Z:Zs}{W:Wd}{G:Gw}{root:Addr}{P:WA}{H:Hp}{r m w:Addr}{sp:Int}
structure View (g:Gx)(A:Adr)(Z:Zs)(W:Wd)(P:WA)(r m w:Addr)(sp:Int)(H:Hp)(n:Nat) where
 s:Addr
 fs:Addr
 kn:Addr
 f:Addr
 pk:Int
 more:List V
 xs:List Int
 xf:List Fr
 pn:Nat
 fr:List V
 hr:H r=some (.inst (A.cls jd) [.ref m,Z.st A,.int 0,.ref s,.ref fs,.bool false])
 hm:H m=some (.inst (A.cls jg) [Z.st A,.int 120,.int 3,.int sp,.int pk,.int 0,.ref kn])
 hs:H s=some (.list (xs.map .int))
 hxl:xs.length≤1000
 hfs:H fs=some (.list (.ref f::more))
 hml:more.length≤1
 hlen:(V.ref f::more).length=xf.length
 hat:∀(i:Nat) v x,(V.ref f::more)[i]? = some v→xf[i]? = some x→Fr.at' A H v x
 frames:∀Q:V→Hp→Prop,Q (.tup (xf.map Fr.p)) H→jb g ExF.still (n+6) (.ref (A.fn uQ)) [.ref r,.ref w] H Q
 hf:∃ins bd ar e el l ba b,H f=some (.inst (A.cls jl) [.int 0,ins,bd,ar,e,el,l,ba,.int pn,b])
 one:more=[]→W.hts[pn]? = some (xs.length:Int)
 vok:VOk 8 (.tup [.tup (xs.map .int),.tup (xf.map Fr.p)])
 hw:H w=some Z.wv
 s0:0≤sp
 s1:sp≤120
theorem lb_p {ids:List Addr}(C:Cert root G W)(s:Stk G root ids):(ids.map (jn W)).map Lb.p=ids.map fun a=>.tup (labL W a):=by
 rw[List.map_map]
 refine List.map_congr_left fun a ha=>?_
 obtain⟨j,hj,rfl⟩:=qZ.mp ha
 obtain⟨i,h1,_⟩:=s.2 j _ (qH hj)
 obtain⟨nf,_,h2⟩:=C.tab _ i h1
 show(jn W _).p = .tup (labL W _)
 unfold jn labL
 rw[h2];rfl
theorem WN (n:Nat)(xs:List Int):∀x∈xs.map V.int,VOk n x:=fun x hx=>by
 obtain⟨y,_,rfl⟩:=qG.mp hx
 cases n<;>trivial
theorem lbs_ok (ls:List Lb):∀x∈ls.map Lb.p,VOk 4 x:=fun x hx=>by
 obtain⟨y,_,rfl⟩:=qG.mp hx
 intro z hz
 rcases qL.mp hz with rfl | hz
 ·trivial
 rcases qL.mp hz with rfl | hz
 ·trivial
 rcases qL.mp hz with rfl | hz
 ·trivial
 rw[qR.mp hz];trivial
theorem fr_ok {x:Fr}{a:Int}{ls:List Int}(h1:x.ad = .int a)(h2:x.ls=ls.map .int):VOk 6 x.p:=by
 intro z hz
 rcases qL.mp hz with rfl | hz
 ·rw[h1];trivial
 rcases qL.mp hz with rfl | hz
 ·trivial
 rcases qL.mp hz with rfl | hz
 ·rw[h2];exact WN 4 ls
 rw[qR.mp hz];exact lbs_ok x.lbs
theorem Qo {xs:List Int}{xf:List Fr}(h:∀x∈xf,VOk 6 x.p):VOk 8 (.tup [.tup (xs.map .int),.tup (xf.map Fr.p)]):=by
 intro z hz
 rcases qL.mp hz with rfl | hz
 ·exact WN 6 xs
 rw[qR.mp hz]
 intro y hy
 obtain⟨x,hx,rfl⟩:=qG.mp hy
 exact h x hx
theorem qe.view (K:Core g A)(C:Cert root G W)(hZ:Z.bd=W.body)(hwv:Z.wv=W.told P)(R:qe A Z W r m w sp H) :
  Nonempty (View g A Z W P r m w sp H n)∨∃(o:OA) (v:OV),o.r=r∧o.m=m∧o.w=w∧OAt A Z o v [] H∧v.br=false∧v.sp=sp∧v.xs.length=1∧OvOk v:=by
 cases R with
 | outer o v p ids hv h1 h2 h3 h hbr hsp hat hF hxl hlb hV=>
  obtain⟨xs,ls,lb,at_,sp',pk,kv,br⟩:=v
  dsimp only at hbr hsp hat hlb hxl
  subst hbr hsp hat hlb h1 h2 h3
  have vxl:=hV.xl
  have vll:=hV.ll
  have v2:=hV.l2
  have vs1:=hV.s1
  dsimp only at vxl vll v2 vs1
  rw[qD]at vll
  obtain⟨_,st⟩:=C.facts p _ ids hv (qH (hF.lt C)) hF.1.2 hF.1.1 hF.2
  refine .inl ⟨⟨o.s,o.fs,o.kn,o.f,pk,[],xs,[⟨.int 0,p,ls.map .int,ids.map (jn W)⟩],p,[],h.hr,h.hm,h.hs,by lia,h.hfs,by decide,rfl,?_,?_,⟨_,_,_,_,_,_,_,_,h.hf⟩,fun _=>by rw[hxl];exact hF.1.1,Qo ?_,h.hw,hV.s0,hV.s1⟩⟩
  ·intro i v x hv hx
   cases i with
   | succ i=>cases hv
   | zero=>
    cases hv;cases hx
    exact⟨rfl,by show(ids.map _).length≤_;rw[qD];lia,by show(ls.map _).length≤_;rw[qD];lia,_,_,_,_,_,_,_,_,_,rfl,h.hf,h.hl,h.hb⟩
  ·intro Q q
   refine QS K hwv (p:=p) (ids:=ids) (more:=[]) h rfl hF.1.2 (by lia) (by show ls.length≤_;lia) (by decide) (fun _=>rfl) (fun _ z=>by cases z) (fun x hx=>by cases hx) ?_
   rw[← lb_p C st];exact q
  ·intro x hx
   rw[qR.mp hx]
   exact fr_ok (a:=0) (ls:=ls) rfl rfl
 | inner o v i u p ids hv h1 h2 h3 h hbr hsp hat hp hF hb hz hxl hul hlb hV=>
  obtain⟨xs,ls,lb,at_,sp',pk,kv,br⟩:=v
  obtain⟨at1,z,base,lb1⟩:=u
  dsimp only at hbr hsp hat hlb hb hz hxl hul
  subst hbr hsp hat hlb h1 h2 h3 hul hb
  have vxl:=hV.xl
  have vll:=hV.ll
  have v2:=hV.l2
  have vs1:=hV.s1
  dsimp only at vxl vll v2 vs1
  rw[qD]at vll
  obtain⟨_,st⟩:=C.facts (p+1) _ ids hv (qH (hF.lt C)) hF.1.2 hF.1.1 hF.2
  refine .inl ⟨⟨o.s,o.fs,o.kn,o.f,pk,[.ref i.f],xs,[⟨.int 0,p+1,ls.map .int,ids.map (jn W)⟩,⟨.int 1,at1,[.int z],[⟨3,1,hv-1,false⟩]⟩],p+1,[],h.t.hr,h.t.hm,h.t.hs,by lia,h.t.hfs,by simp,rfl,?_,?_,⟨_,_,_,_,_,_,_,_,h.t.hf⟩,(fun z=>by cases z),Qo ?_,h.t.hw,hV.s0,hV.s1⟩⟩
  ·intro j v x hv hx
   cases j with
   | succ j=>
    cases j with
    | succ j=>cases hv
    | zero=>
     cases hv;cases hx
     exact⟨rfl,by show 1≤100000;decide,by show 1≤100000;decide,_,_,_,_,_,_,_,_,_,rfl,h.hf,h.hl,h.hb⟩
   | zero=>
    cases hv;cases hx
    exact⟨rfl,by show(ids.map _).length≤_;rw[qD];lia,by show(ls.map _).length≤_;rw[qD];lia,_,_,_,_,_,_,_,_,_,rfl,h.t.hf,h.t.hl,h.t.hb⟩
  ·intro Q q
   refine QS K hwv (p:=p+1) (ids:=ids) (more:=[.ref i.f]) h.t rfl hF.1.2 (by lia) (by show ls.length≤_;lia) (by simp) (fun z=>by cases z) (fun f1 z=>?_) (fun x hx=>⟨_,qR.mp hx⟩) q
   cases z
   refine⟨by lia,i.l,[.int z],at1,hv,_,_,_,_,_,_,_,_,h.hf,h.hl,by show 1≤1000;decide,hp,?_⟩
   rw[← lb_p C st];rfl
  ·intro x hx
   rcases qL.mp hx with rfl | hx
   ·exact fr_ok (a:=0) (ls:=ls) rfl rfl
   ·rw[qR.mp hx]
    exact fr_ok (a:=1) (ls:=[z]) rfl rfl
 | done o v h1 h2 h3 h hbr hsp hxl hV=>exact .inr ⟨o,v,h1,h2,h3,h,hbr,hsp,hxl,hV⟩
end
def PS.dropG:PS→Nat→PS
 | s,0=>s
 | .cons _ r,k+1=>r.dropG k
 | .gho r,k+1=>r.dropG (k+1)
 | s,_+1=>s
section
variable {g:Gx}{A:Adr}{n:Nat}{Z:Zs}{W:Wd}{G:Gw}{root:Addr}{P:WA}{H:Hp}{r m w:Addr}
theorem qe.rf {sp:Int}(R:qe A Z W r m w sp H):(∃(s' fs' br' m' st' ah':V) (f5:Addr) (xs:List V),fs' = .ref f5∧H r=some (.inst (A.cls jd) [m',st',ah',s',.ref f5,br'])∧H f5=some (.list xs))∧∃(pk:Int) (kn:Addr),H m=some (.inst (A.cls jg) [Z.st A,.int 120,.int 3,.int sp,.int pk,.int 0,.ref kn])∧sp≤120:=by
 cases R with
 | outer o v p ids hv h1 h2 h3 h hbr hsp hat hF hxl hlb hV=>subst h1 h2 hsp;exact⟨⟨_,_,_,_,_,_,_,_,rfl,h.hr,h.hfs⟩,_,_,h.hm,hV.s1⟩
 | inner o v i u p ids hv h1 h2 h3 h hbr hsp hat hp hF hb hz hxl hul hlb hV=>subst h1 h2 hsp;exact⟨⟨_,_,_,_,_,_,_,_,rfl,h.t.hr,h.t.hfs⟩,_,_,h.t.hm,hV.s1⟩
 | done o v h1 h2 h3 h hbr hsp hxl hV=>subst h1 h2 hsp;exact⟨⟨_,_,_,_,_,_,_,_,rfl,h.hr,h.hfs⟩,_,_,h.hm,hV.s1⟩
def PS.wbody:PS→PS
 | .whl _ b=>b
 | s=>s
theorem law_try (K:Core g A){hkv:List (Int×V)}(hB:jU g (A.bd jv) (.i hkv))(hxg:qx g.K (A.cls jG) "why" = true)(C:Cert root G W)(hZ:Z.bd=W.body){f:Fx}(hh:f.hd=none)(ho:f.outer=[])(ok:Fx.Ok g f (n+40)){v0 v1 v2 v4 v5 v10:Option V}{many:Nat}(hmany:many≤120)(R:qe A Z W r m w many H)
  {s fs f1:Addr} {more:List V} {xs:List Int} {xf:List Fr} (hr:H r=some (.inst (A.cls jd) [.ref m,Z.st A,.int 0,.ref s,.ref fs,.bool false])) (hs:H s=some (.list (xs.map .int))) (hxl:xs.length≤1000) (hfs:H fs=some (.list (.ref f1::more))) (hml:more.length≤1)
  (hlen:(V.ref f1::more).length=xf.length) (hat:∀(i:Nat) v x,(V.ref f1::more)[i]? = some v→xf[i]? = some x→Fr.at' A H v x) (hvok:VOk 8 (.tup [.tup (xs.map .int),.tup (xf.map Fr.p)])) {Q:jD}
  (q1:many<120→∀H',qe A Z W r m w (many+1:Nat) H'→Q .next [v0,v1,v2,some (.ref w),v4,v5,some (.ref m),some (.ref r),some (.int (many+1:Nat)),some (.tup [.tup (xs.map .int),.tup (xf.map Fr.p)]),v10] H') (q2:∀σ',Q (.ret (.bool true)) σ' H) :
  vss ((PS.dropG jm.body 12).hd.wbody.dropG 3) (Cx.of g f ExF.still ExF.still (n+40) (mkR A) jm.ns) [v0,v1,v2,some (.ref w),v4,v5,some (.ref m),some (.ref r),some (.int many),some (.tup [.tup (xs.map .int),.tup (xf.map Fr.p)]),v10] H Q:=by
 dsimp only[PS.dropG,jm,PS.hd,PS.wbody]
 ac_rfl
 refine⟨fun C x H'=>C=(mkR A).cls 2∧x = .str "fuel" ∧ H'=H∧many=120,fun _ _ _ z=>z.1,?_,?_⟩
 ·ac_rfl
  refine Xr (n:=n+39) K hr hfs (by simp) ?_
  refine run_step (n:=n+8) (sp:=many) K hB C hZ R (fun s' fs' br' e e'=>?_) (fun h=>⟨rfl,rfl,rfl,by lia⟩) fun H' R'=>?_
  ·rw[hr]at e
   cases e
   rw[hfs]at e';cases e'
  ·obtain⟨⟨s',fs',br',m',st',ah',f5,xs5,e5,hr',hfs'⟩,pk',kn',hm',hle⟩:=R'.rf
   refine⟨?_,s',f5,br',m',st',ah',xs5,hr',hfs'⟩
   ac_rfl
   run_tac Mine.Drv.call ``left_ok
   exact q1 (by lia) H' R'
 ·rintro e x H' ⟨_,rfl,rfl,hm120⟩
  have hd:decide ((many:Int)=120)=true:=by rw[hm120];rfl
  ac_rfl
  refine uD (n:=n+34) K hr hs (by rw[qD];lia) hfs (by show more.length+1≤_;lia) hlen hat ?_
  ac_rfl
  have ok':Fx.Ok g {f with hd:=some (.ref e),xc:=some (e,(mkR A).cls 2,.str "fuel")} (n+40):=⟨ok.below,ok.kind0,ok.kind,ok.dp,ok.un⟩
  refine JW (n:=n+31) K.G ok' (.val hvok) (.val hvok) ?_
  rw[RD.refl (H:=H') (.val hvok)]
  exact⟨⟨_,rfl⟩,q2 _⟩
theorem law_loop (K:Core g A){hkv:List (Int×V)}(hB:jU g (A.bd jv) (.i hkv))(hxg:qx g.K (A.cls jG) "why" = true)(C:Cert root G W)(hZ:Z.bd=W.body)(hwv:Z.wv=W.told P){f:Fx}(hh:f.hd=none)(ho:f.outer=[])(ok:Fx.Ok g f (n+40)){v0 v1 v2 v4 v5 v9 v10:Option V}(R:qe A Z W r m w 0 H) :
  vss (PS.dropG jm.body 12) (Cx.of g f ExF.still ExF.still (n+40) (mkR A) jm.ns) [v0,v1,v2,some (.ref w),v4,v5,some (.ref m),some (.ref r),some (.int 0),v9,v10] H (fun fl _ _=>fl = .ret (.bool true)):=by
 dsimp only[PS.dropG,jm]
 ac_rfl
 refine⟨fun k σ H=>∃(many:Nat) (v9 v10:Option V),k=121-many∧many≤120∧σ=[v0,v1,v2,some (.ref w),v4,v5,some (.ref m),some (.ref r),some (.int many),v9,v10]∧qe A Z W r m w many H,121,⟨0,_,_,rfl,by decide,rfl,R⟩,?_⟩
 rintro k σ H ⟨many,v9,v10,rfl,hmany,rfl,R⟩
 obtain⟨T,hT⟩:∃T,T=(PS.dropG jm.body 12).hd.wbody.dropG 3:=⟨_,rfl⟩
 have hT':=hT
 dsimp only[PS.dropG,jm,PS.hd,PS.wbody]at hT'
 rw[← hT']
 clear hT'
 rcases R.view (n:=n+34) K C hZ hwv with⟨⟨s,fs,kn,f1,pk,more,xs,xf,pn,_,hr,hm,hs,hxl,hfs,hml,hlen,hat,hframes,hf,hone,hvok,hww,s0,s1⟩⟩ | ⟨o,v,rfl,rfl,rfl,h,hbr,hsp,hx1,hV⟩
 ·have hnd:¬(decide ((((V.ref f1::more).length:Nat):Int)=0)=true):=by simp;lia
  rw[hwv]at hww
  have hww:H w=some (.dict (.s [("body",.lst (W.body.map opV)),("heights",.lst (W.hts.map .int)),("open",.lst (W.opens.map fun ids=>.lst (ids.map fun a=>.lst (labL W a)))),("high",.int W.high),("live",.bool W.live),("left",.int W.left),("labels",.ref P.ls)])):=hww
  ac_rfl
  run_tac Mine.Drv.call ``zv
  refine(uD (n:=n+34) K hr hs (by rw[qD];lia) hfs (by show more.length+1≤_;lia) hlen hat ?_).calm
  ac_rfl
  refine hframes _ ?_
  ac_rfl
  refine JV (n:=n+31) K.G ok (.val hvok) (.val hvok) ?_
  rw[RD.refl (H:=H) (.val hvok)]
  ac_rfl
  obtain⟨fins,fbd,far,fe,fel,fl,fba,fb,hf⟩:=hf
  run_tac Mine.Drv.call ``wy
  have z:(((V.ref f1::more).length:Nat):Int)=1:=by assumption
  have hm0:more=[]:=by
   cases more with
   | nil=>rfl
   | cons y ys=>have z:((ys.length+1+1:Nat):Int)=1:=z;lia
  have hp:=hone hm0
  ac_rfl
  refine jt pn ⟨by rw[qD];exact(qF.mp hp).1,.inl rfl⟩ (by rw[qV,hp];rfl) ?_
  have hlx:((List.map V.int xs).length:Int)=xs.length:=by rw[qD]
  ac_rfl
  all_goals
   rw[hT]
   refine law_try K hB hxg C hZ hh ho ok hmany R hr hs hxl hfs hml hlen hat hvok ?_ ?_
   ·exact fun hlt H' R'=>⟨121-(many+1),H',by lia,Hp.Sub.refl _,many+1,_,_,rfl,by lia,rfl,R'⟩
   ·exact fun σ'=>rfl
 ·have hxx:(v.xs.map V.int).length=1:=by rw[qD];exact hx1
  have hr:H o.r=some (.inst (A.cls jd) [.ref o.m,Z.st A,.int 0,.ref o.s,.ref o.fs,.bool v.br]):=h.hr
  have hs:=h.hs
  have hfs:=h.hfs
  ac_rfl
  run_tac Mine.Drv.call ``zv
  have hvok:VOk 8 (.tup [.tup (v.xs.map .int),.tup []]):=Qo (xf:=[]) fun x hx=>by cases hx
  have hev:PyData.eqv (vd (.tup [.tup (v.xs.map .int),.tup (([]:List Fr).map Fr.p)])) (vd (.tup [.tup (v.xs.map .int),.tup []]))=true:=RD.refl (H:=H) (.val hvok)
  refine(uD (n:=n+34) (xf:=[]) K hr hs (by lia) hfs (by decide) rfl (fun i v x e=>by cases e) ?_).calm
  ac_rfl
  refine JW (n:=n+31) K.G ok (.val hvok) (.val hvok) ?_
  rw[hev]
  have hxx':decide ((((v.xs.map V.int).length:Nat):Int)=1)=true:=by rw[hxx];rfl
  ac_rfl
  run_tac Mine.Drv.call ``wy
end
section
variable {g:Gx}{A:Adr}{n:Nat}
theorem law_A (K:Core g A){f:Fx}(hh:f.hd=none){sc:List Int}{Q:jD}
  (q:∀(P:WA) (W:Wd) (G:Gw) (root:Addr) (first:Int) (H:Hp),Cert root G W→WAt P sc W H→0≤first→W.body.length≤10000 →
   vss (PS.dropG jm.body 8) (Cx.of g f ExF.still ExF.still (n+40) (mkR A) jm.ns) [some (.lst (sc.map .int)),some (.ref P.p),some (.int first),some (.ref P.w),none,none,none,none,none,none,none] H Q) :
  vss jm.body (Cx.of g f ExF.still ExF.still (n+40) (mkR A) jm.ns) (σ0 jm [.lst (sc.map .int)]) Hp.emp Q:=by
 dsimp only[jm,σ0]
 ac_rfl
 refine(WD (k:=0) K (by nofun) (by decide) fun r hr=>?_).calm
 ac_rfl
 have h:WAt ⟨d_1,d_2,d_3,d_4,d_6,d⟩ sc ⟨[],[],[],0,true,12,1,[d_5],fun b=>if b=d_5 then some ⟨-1,1,0,false⟩else none⟩ (((((((((Hp.emp.set d (AO.list [V.lst (List.map V.int sc),V.int 0])).set d (AO.list [V.lst (List.map V.int sc),V.int ((0+1:Nat):Int)])).set d_1 (AO.dict (DV.s []))).set d_2 (AO.list [])).set d_3 (AO.list [])).set d_4 (AO.list [])).set d_5 (AO.list [V.int (-1),V.int 1,V.int 0,V.bool false])).set d_6 (AO.list [V.ref d_5])).set d_1
   (AO.dict (DV.s (["body", "heights", "open", "high", "live", "left", "labels"].zip [V.ref d_2,V.ref d_3,V.ref d_4,V.int 0,V.bool true,V.int 12,V.ref d_6])))):=by
  refine⟨?_,?_,?_,?_,?_,?_,fun b l q=>?_,?_,?_,?_,?_,?_,?_,?_,?_,?_,?_⟩
  rotate_left 6
  ·have q:(if b=d_5 then some _ else none)=some l:=q
   by_cases z:b=d_5
   ·rw[if_pos z]at q;cases q;subst z
    refine⟨?_,?_,?_,?_,?_,?_⟩
    all_goals dsimp only[Lb.l]
    all_goals nofun
   ·rw[if_neg z]at q;cases q
  all_goals dsimp only
  all_goals nofun
 obtain⟨P,hP⟩:∃P:WA,P=⟨d_1,d_2,d_3,d_4,d_6,d⟩:=⟨_,rfl⟩
 obtain⟨W0,hW⟩:∃W0:Wd,W0=⟨[],[],[],0,true,12,1,[d_5],fun b=>if b=d_5 then some ⟨-1,1,0,false⟩else none⟩:=⟨_,rfl⟩
 rw[← hP,← hW]at h
 have e1:d=P.p:=by rw[hP]
 have e2:d_1=P.w:=by rw[hP]
 have I0:Inv d_5 (Gw.zero d_5) W0:=by rw[hW];exact Inv.zero d_5 (if_pos rfl)
 have l0:W0.labs=[d_5]:=by rw[hW]
 have p0:W0.pen=1:=by rw[hW]
 have B0:Bef d_5 (Gw.zero d_5) W0 0:=by
  refine⟨I0,by decide,by rw[hW];exact Int.le_refl 0,fun a i ha hi=>?_,by rw[hW];exact(by decide:((0:Nat):Int)+0+30*((12:Nat):Int)≤2000)⟩
  rw[l0]at ha
  rw[qR.mp ha,I0.iroot]at hi;cases hi
  decide
 clear hP hW
 rw[e1,e2]at h ⊢
 refine UH (n:=n+30) (root:=d_5) K _ W0 (Gw.zero d_5) 0 _ h B0 (by rw[l0];show 1+3≤100;decide) (by rw[p0];decide) fun H₁ W₁ G₁ h₁ I₁ A₁ p₁=>?_
 have B₁:=B0.aft A₁ I₁
 ac_rfl
 refine UH (n:=n+30) (root:=d_5) K _ W₁ G₁ 0 _ h₁ B₁ (by rw[A₁.labs,l0];show 1+3≤100;decide) (by rw[p0]at p₁;lia) fun H₂ W₂ G₂ h₂ I₂ A₂ p₂=>?_
 have B₂:=B₁.aft A₂ I₂
 ac_rfl
 have hs₂:=B₂.sm (by rw[A₂.labs,A₁.labs,l0];show 1≤1000;decide)
 have hsz:=B₂.size
 have hb2:=B₂.high
 obtain⟨I₃,v₃,hi₃,hd₃,la₃,lb₃,le₃,bo₃⟩:=I₂.close (base:=0) (gives:=1) (by decide) (fun _=>hb2)
 refine Kr (n:=n+37) (base:=0) (gives:=1) K h₂ (hs₂.le (by lia)) (by lia) (by lia) fun H₃ h₃=>?_
 generalize W₂.close 0 1=W₃ at *
 have l₃:W₃.labs=[d_5]:=la₃.trans (A₂.labs.trans (A₁.labs.trans l0))
 have len₃:W₃.body.length≤5000:=by split at bo₃<;>lia
 ac_rfl
 refine(jE (n:=n+39) K (op:=[11]) (m:=0) h₃ (by lia) (by rw[I₃.l2];lia) (by rw[I₃.l3];lia) (by rw[l₃];show 1≤100000;decide) fun H₄ h₄=>?_).calm
 have hw₄:=h₄.hw
 have hb₄:=h₄.hb
 have hl₄:H₄ P.ls=some (.list [.ref d_5]):=by
  have:=h₄.hl
  rw[show(W₃.emit [11] 0).labs=[d_5]from l₃]at this
  exact this
 have hla:=I₃.tab d_5 _ I₃.iroot
 rw[I₃.nofin d_5 (by rw[l₃];exact .head _)]at hla
 obtain⟨hr₄,k1,k2,k3,k4,k5⟩:=h₄.lab d_5 _ hla
 unfold Lb.l at hr₄
 dsimp only[Bool.false_eq_true,if_false]at hr₄
 ac_rfl
 have C:=I₃.finish l₃ fun z=>by rw[hi₃ (by rw[← v₃];exact z)];decide
 have h₅:=h₄.setLab (l:=⟨(W₃.body.length:Int)+1,1,0,false⟩) hla
 have el:((List.map opV (W₃.emit [11] 0).body).length:Int)=(W₃.body.length:Int)+1:=by
  rw[qD]
  show((W₃.body++[[11]]).length:Int)=_
  rw[qC];simp
 rw[el]
 exact q P (W₃.last d_5) _ d_5 r _ C h₅ hr (by show(W₃.body++[[11]]).length≤_;rw[qC];simp;lia)
end
section
variable {g:Gx}{A:Adr}{n:Nat}{W:Wd}{G:Gw}{root:Addr}{P:WA}{H:Hp}
theorem Cert.known (C:Cert root G W):∀ids∈W.opens,∀a∈ids,∃l,W.lab a=some l:=fun ids hids a ha=>by
 obtain⟨j,hj,rfl⟩:=qZ.mp ha
 obtain⟨i,h1,_⟩:=(C.stk ids hids).2 j _ (qH hj)
 obtain⟨n,_,h2⟩:=C.tab _ i h1
 exact⟨_,h2⟩
def yE (k:Nat):V:=.tup [.int ((k / 3:Nat):Int),.int ((k % 3:Nat):Int)]
def zt (k:Nat):V:=.tup [.tup (List.replicate (k / 3) (.int (-1))),.tup (List.replicate (k % 3) (.int (-1)))]
def Jb:List V:=(List.range 9).map zt
theorem law_B (K:Core g A){f:Fx}(hh:f.hd=none){sc:List Int}{v2:Option V}{Q:jD}(C:Cert root G W)(h:WAt P sc W H)
  (q:∀kl H',H' P.w=some (W.told P)→H' kl=some (.list Jb)→vss (PS.dropG jm.body 9) (Cx.of g f ExF.still ExF.still (n+40) (mkR A) jm.ns) [some (.lst (sc.map .int)),some (.ref P.p),v2,some (.ref P.w),some (.ref kl),none,none,none,none,none,none] H' Q) :
  vss (PS.dropG jm.body 8) (Cx.of g f ExF.still ExF.still (n+40) (mkR A) jm.ns) [some (.lst (sc.map .int)),some (.ref P.p),v2,some (.ref P.w),none,none,none,none,none,none,none] H Q:=by
 obtain⟨T,hT⟩:∃T,T=PS.dropG jm.body 9:=⟨_,rfl⟩
 have hT':=hT
 dsimp only[PS.dropG,jm]at hT'
 rw[← hT]at q
 dsimp only[jm,PS.dropG]
 rw[← hT']
 clear hT hT'
 refine⟨_,XI h C.known,?_⟩
 rw[show W.dv P (.lst (W.body.map opV)) (.lst (W.hts.map .int)) (.lst (W.opens.map fun ids=>.lst (ids.map fun a=>.lst (labL W a))))=W.told P from rfl]
 ac_rfl
 refine⟨_,_,.rng _ _ (by decide) (by decide),trivial,by decide,fun i ys H'=>ys=(List.range i).map yE∧H'=Hp.emp.set P.w (W.told P),⟨rfl,rfl⟩,?_,?_⟩
 ·rintro ys H' a ⟨rfl,rfl⟩ ha
  obtain⟨_,hna⟩:=uA ha
  rw[qD,List.length_range]
  refine⟨(List.range 9).map yE,_,.list _ _,.inr ⟨a,rfl,by nofun⟩,by decide,fun i ys H'=>ys=(List.range i).map zt∧H'=(Hp.emp.set P.w (W.told P)).set a (.list ((List.range 9).map yE)),⟨rfl,rfl⟩,?_,?_⟩
  ·rintro ys H' b ⟨rfl,rfl⟩ hb
   obtain⟨hb1,hb2⟩:=uA hb
   obtain⟨_,hb3⟩:=uA hb1
   rw[qD,List.length_range]
   ac_rfl
   exact q b _ (by nofun) (zS ..)
  ·rintro f' c D i y ys H' hy ⟨rfl,rfl⟩ hL hc hD hne hd
   obtain⟨hi,rfl⟩:i<9∧y=yE i:=by
    rw[qV,Option.map_eq_some_iff]at hy
    obtain⟨j,hj,rfl⟩:=hy
    have h1:=(qF.mp hj).1
    rw[List.length_range]at h1
    rw[List.getElem?_range h1]at hj
    cases hj;exact⟨h1,rfl⟩
   unfold yE
   have k1:(List.replicate ((i / 3:Nat):Int).toNat [V.int (-1)]).flatten=List.replicate (i / 3) (.int (-1)):=by rw[List.flatten_replicate_singleton];rfl
   have k2:(List.replicate ((i % 3:Nat):Int).toNat [V.int (-1)]).flatten=List.replicate (i % 3) (.int (-1)):=by rw[List.flatten_replicate_singleton];rfl
   have ht:(List.range i).map zt++[zt i]=(List.range (i+1)).map zt:=by rw[List.range_succ,qI];rfl
   ac_rfl
   rw[k1,k2]
   exact⟨_,_,rfl,Hp.Sub.refl _,hc,hD,⟨ht,rfl⟩,hL⟩
 ·rintro f' c D i y ys H' hy ⟨rfl,rfl⟩ hL hc hD hne hd
  obtain⟨hi,rfl⟩:i<9∧y = .int ((i:Nat):Int):=by
   rw[qV,Option.map_eq_some_iff]at hy
   obtain⟨j,hj,rfl⟩:=hy
   have h1:=(qF.mp hj).1
   rw[List.length_range]at h1
   rw[List.getElem?_range h1]at hj
   cases hj;exact⟨by lia,by rw[Int.zero_add]⟩
  have ht:(List.range i).map yE++[yE i]=(List.range (i+1)).map yE:=by rw[List.range_succ,qI];rfl
  ac_rfl
  have e1:(i:Int).fdiv 3=((i / 3:Nat):Int):=by rw[Int.fdiv_eq_ediv_of_nonneg _ (by decide)];lia
  have e2:(i:Int).fmod 3=((i % 3:Nat):Int):=by rw[qT _ (by decide)];lia
  rw[e1,e2]
  exact⟨_,_,rfl,Hp.Sub.refl _,hc,hD,⟨ht,rfl⟩,trivial⟩
end
section
variable {H:Hp}{a w w' C:Addr}{xs:List V}{o o' p p':AO}
theorem frzL (ha:H a=some (.list xs))(hw:H w=some o)(hn:w≠a)(h:AO.Fr a (.lst xs) o o'):Frz H ((H.del a).set w o'):=
 .list a xs ha fun b q e=>by
  by_cases z:b=w
  ·subst z;rw[zS]at e;cases e;exact⟨hn,o,hw,h⟩
  ·rw[zN _ _ z]at e
   unfold Hp.del at e
   split at e
   ·cases e
   ·exact⟨by assumption,q,e,.refl _⟩
theorem frzO (ha:H a=some (.inst C xs))(hw:H w=some o)(hn:w≠a)(h:AO.Fr a (.obj C xs) o o'):Frz H ((H.del a).set w o'):=
 .inst a C xs ha fun b q e=>by
  by_cases z:b=w
  ·subst z;rw[zS]at e;cases e;exact⟨hn,o,hw,h⟩
  ·rw[zN _ _ z]at e
   unfold Hp.del at e
   split at e
   ·cases e
   ·exact⟨by assumption,q,e,.refl _⟩
theorem frzO2 (ha:H a=some (.inst C xs))(hw:H w=some o)(hw':H w'=some p)(hn:w≠a)(hn':w'≠a)(h:AO.Fr a (.obj C xs) o o')(h':AO.Fr a (.obj C xs) p p'):Frz H (((H.del a).set w o').set w' p'):=
 .inst a C xs ha fun b q e=>by
  by_cases z':b=w'
  ·subst z';rw[zS]at e;cases e;exact⟨hn',p,hw',h'⟩
  ·rw[zN _ _ z']at e
   by_cases z:b=w
   ·subst z;rw[zS]at e;cases e;exact⟨hn,o,hw,h⟩
   ·rw[zN _ _ z]at e
    unfold Hp.del at e
    split at e
    ·cases e
    ·exact⟨by assumption,q,e,.refl _⟩
end
def PS.unG:PS→PS
 | .gho r=>r
 | s=>s
def Zs.of (W:Wd)(P:WA):Zs where
 ks:=Jb
 bd:=W.body
 wv:=W.told P
 hks:=fun t g ht hg=>by
  have:t=0∨t=1∨t=2:=by lia
  have:g=0∨g=1∨g=2:=by lia
  rcases ‹t=0∨_› with rfl | rfl | rfl<;>rcases ‹g=0∨_› with rfl | rfl | rfl<;>rfl
 hwv:=rfl
section
variable {g:Gx}{A:Adr}{n:Nat}{W:Wd}{G:Gw}{root:Addr}{P:WA}{H:Hp}
theorem XK (K:Core g A){w k m s sl c e i a b fl kl d:Addr}{kd:V}{wv:AO}{bd bd' ks fns:List V}{H0:Hp}
  (hw:H0 w=some (wv)) (hk:H0 k=some (.dict (.i []))) (hm:H0 m=some (.inst (A.cls jg) [.ref s,.int 120,.int 3,.int 0,.int 0,.int 0,.ref k])) (hs:H0 s=some (.inst (A.cls jh) [.ref sl])) (hsl:H0 sl=some (.list [.ref c,.ref e])) (hc:H0 c=some (.inst (A.cls jf) [kd,.ref i,.ref a])) (he:H0 e=some (.inst (A.cls jf) [kd,.ref i,.ref b])) (hi:H0 i=some (.inst (A.cls jc) [.ref kl,.ref fl])) (ha:H0 a=some (.inst (A.cls jo) [.int 4,.tup [.int (-1)],.lst bd])) (hb:H0 b=some (.inst (A.cls jo) [.int 4,.tup [],.ref d])) (hfl:H0 fl=some (.list fns)) (hkl:H0 kl=some (.list ks)) (hd:H0 d=some (.list bd'))
  (hwv:AO.kind wv=2) (n1:kl≠d) (n2:fl≠d) (n3:sl≠d) (n4:fl≠kl) (n5:sl≠kl) (n6:a≠b) (n7:k≠w) (n8:c≠e) (n9:sl≠fl) {R:Hp→Prop}
  (q:∀H':Hp,H' w=some wv→H' k=some (.dict (.i []))→H' m=some (.inst (A.cls jg) [.obj (A.cls jh) [.lst [.obj (A.cls jf) [kd,.obj (A.cls jc) [.lst ks,.lst fns],.obj (A.cls jo) [.int 4,.tup [.int (-1)],.lst bd]],.obj (A.cls jf) [kd,.obj (A.cls jc) [.lst ks,.lst fns],.obj (A.cls jo) [.int 4,.tup [],.lst bd']]]],.int 120,.int 3,.int 0,.int 0,.int 0,.ref k])→R H') :
  ∃H',Frz H0 H'∧R H':=by
 have wd:w≠d:=ne_k hw hd (by rw[hwv];exact(by decide:2≠0))
 have wfl:w≠fl:=ne_k hw hfl (by rw[hwv];exact(by decide:2≠0))
 have wkl:w≠kl:=ne_k hw hkl (by rw[hwv];exact(by decide:2≠0))
 have wi:w≠i:=ne_k hw hi (by rw[hwv];exact(by decide:2≠1))
 have wa:w≠a:=ne_k hw ha (by rw[hwv];exact(by decide:2≠1))
 have wb:w≠b:=ne_k hw hb (by rw[hwv];exact(by decide:2≠1))
 have wc:w≠c:=ne_k hw hc (by rw[hwv];exact(by decide:2≠1))
 have we:w≠e:=ne_k hw he (by rw[hwv];exact(by decide:2≠1))
 have wsl:w≠sl:=ne_k hw hsl (by rw[hwv];exact(by decide:2≠0))
 have ws:w≠s:=ne_k hw hs (by rw[hwv];exact(by decide:2≠1))
 have wm:w≠m:=ne_k hw hm (by rw[hwv];exact(by decide:2≠1))
 obtain⟨H1,z1,hw,hk,hm,hs,hsl,hc,he,hi,ha,hb,hfl,hkl⟩:∃H1,Frz H0 H1∧H1 w=some (wv)∧H1 k=some (.dict (.i []))∧H1 m=some (.inst (A.cls jg) [.ref s,.int 120,.int 3,.int 0,.int 0,.int 0,.ref k])∧H1 s=some (.inst (A.cls jh) [.ref sl])∧H1 sl=some (.list [.ref c,.ref e])∧H1 c=some (.inst (A.cls jf) [kd,.ref i,.ref a])∧H1 e=some (.inst (A.cls jf) [kd,.ref i,.ref b])∧H1 i=some (.inst (A.cls jc) [.ref kl,.ref fl])∧H1 a=some (.inst (A.cls jo) [.int 4,.tup [.int (-1)],.lst bd])∧H1 b=some (.inst (A.cls jo) [.int 4,.tup [],.lst bd'])∧H1 fl=some (.list fns)∧H1 kl=some (.list ks):=⟨_,frzL (w:=b) (o':=.inst (A.cls jo) [.int 4,.tup [],.lst bd']) hd hb (by nofun) (.inst (.cons (.refl _) (.cons (.refl _) (.cons .put .nil)))),by nofun,by nofun,by nofun,by nofun,by nofun,by nofun,by nofun,by nofun,by nofun,by nofun,by nofun,by nofun⟩
 obtain⟨H2,z2,hw,hk,hm,hs,hsl,hc,he,hi,ha,hb,hkl⟩:∃H2,Frz H1 H2∧H2 w=some (wv)∧H2 k=some (.dict (.i []))∧H2 m=some (.inst (A.cls jg) [.ref s,.int 120,.int 3,.int 0,.int 0,.int 0,.ref k])∧H2 s=some (.inst (A.cls jh) [.ref sl])∧H2 sl=some (.list [.ref c,.ref e])∧H2 c=some (.inst (A.cls jf) [kd,.ref i,.ref a])∧H2 e=some (.inst (A.cls jf) [kd,.ref i,.ref b])∧H2 i=some (.inst (A.cls jc) [.ref kl,.lst fns])∧H2 a=some (.inst (A.cls jo) [.int 4,.tup [.int (-1)],.lst bd])∧H2 b=some (.inst (A.cls jo) [.int 4,.tup [],.lst bd'])∧H2 kl=some (.list ks):=⟨_,frzL (w:=i) (o':=.inst (A.cls jc) [.ref kl,.lst fns]) hfl hi (by nofun) (.inst (.cons (.refl _) (.cons .put .nil))),by nofun,by nofun,by nofun,by nofun,by nofun,by nofun,by nofun,by nofun,by nofun,by nofun,by nofun⟩
 obtain⟨H3,z3,hw,hk,hm,hs,hsl,hc,he,hi,ha,hb⟩:∃H3,Frz H2 H3∧H3 w=some (wv)∧H3 k=some (.dict (.i []))∧H3 m=some (.inst (A.cls jg) [.ref s,.int 120,.int 3,.int 0,.int 0,.int 0,.ref k])∧H3 s=some (.inst (A.cls jh) [.ref sl])∧H3 sl=some (.list [.ref c,.ref e])∧H3 c=some (.inst (A.cls jf) [kd,.ref i,.ref a])∧H3 e=some (.inst (A.cls jf) [kd,.ref i,.ref b])∧H3 i=some (.inst (A.cls jc) [.lst ks,.lst fns])∧H3 a=some (.inst (A.cls jo) [.int 4,.tup [.int (-1)],.lst bd])∧H3 b=some (.inst (A.cls jo) [.int 4,.tup [],.lst bd']):=⟨_,frzL (w:=i) (o':=.inst (A.cls jc) [.lst ks,.lst fns]) hkl hi (by nofun) (.inst (.cons .put (.cons (.refl _) .nil))),by nofun,by nofun,by nofun,by nofun,by nofun,by nofun,by nofun,by nofun,by nofun,by nofun⟩
 obtain⟨H4,z4,hw,hk,hm,hs,hsl,hc,he,ha,hb⟩:∃H4,Frz H3 H4∧H4 w=some (wv)∧H4 k=some (.dict (.i []))∧H4 m=some (.inst (A.cls jg) [.ref s,.int 120,.int 3,.int 0,.int 0,.int 0,.ref k])∧H4 s=some (.inst (A.cls jh) [.ref sl])∧H4 sl=some (.list [.ref c,.ref e])∧H4 c=some (.inst (A.cls jf) [kd,.obj (A.cls jc) [.lst ks,.lst fns],.ref a])∧H4 e=some (.inst (A.cls jf) [kd,.obj (A.cls jc) [.lst ks,.lst fns],.ref b])∧H4 a=some (.inst (A.cls jo) [.int 4,.tup [.int (-1)],.lst bd])∧H4 b=some (.inst (A.cls jo) [.int 4,.tup [],.lst bd']):=⟨_,frzO2 (w:=c) (w':=e) (o':=.inst (A.cls jf) [kd,.obj (A.cls jc) [.lst ks,.lst fns],.ref a]) (p':=.inst (A.cls jf) [kd,.obj (A.cls jc) [.lst ks,.lst fns],.ref b]) hi hc he (by nofun) (by nofun) (.inst (.cons (.refl _) (.cons .put (.cons (.refl _) .nil)))) (.inst (.cons (.refl _) (.cons .put (.cons (.refl _) .nil)))),by nofun,by nofun,by nofun,by nofun,by nofun,by nofun,by nofun,by nofun,by nofun⟩
 obtain⟨H5,z5,hw,hk,hm,hs,hsl,hc,he,hb⟩:∃H5,Frz H4 H5∧H5 w=some (wv)∧H5 k=some (.dict (.i []))∧H5 m=some (.inst (A.cls jg) [.ref s,.int 120,.int 3,.int 0,.int 0,.int 0,.ref k])∧H5 s=some (.inst (A.cls jh) [.ref sl])∧H5 sl=some (.list [.ref c,.ref e])∧H5 c=some (.inst (A.cls jf) [kd,.obj (A.cls jc) [.lst ks,.lst fns],.obj (A.cls jo) [.int 4,.tup [.int (-1)],.lst bd]])∧H5 e=some (.inst (A.cls jf) [kd,.obj (A.cls jc) [.lst ks,.lst fns],.ref b])∧H5 b=some (.inst (A.cls jo) [.int 4,.tup [],.lst bd']):=⟨_,frzO (w:=c) (o':=.inst (A.cls jf) [kd,.obj (A.cls jc) [.lst ks,.lst fns],.obj (A.cls jo) [.int 4,.tup [.int (-1)],.lst bd]]) ha hc (by nofun) (.inst (.cons (.refl _) (.cons (.refl _) (.cons .put .nil)))),by nofun,by nofun,by nofun,by nofun,by nofun,by nofun,by nofun,by nofun⟩
 obtain⟨H6,z6,hw,hk,hm,hs,hsl,hc,he⟩:∃H6,Frz H5 H6∧H6 w=some (wv)∧H6 k=some (.dict (.i []))∧H6 m=some (.inst (A.cls jg) [.ref s,.int 120,.int 3,.int 0,.int 0,.int 0,.ref k])∧H6 s=some (.inst (A.cls jh) [.ref sl])∧H6 sl=some (.list [.ref c,.ref e])∧H6 c=some (.inst (A.cls jf) [kd,.obj (A.cls jc) [.lst ks,.lst fns],.obj (A.cls jo) [.int 4,.tup [.int (-1)],.lst bd]])∧H6 e=some (.inst (A.cls jf) [kd,.obj (A.cls jc) [.lst ks,.lst fns],.obj (A.cls jo) [.int 4,.tup [],.lst bd']]):=⟨_,frzO (w:=e) (o':=.inst (A.cls jf) [kd,.obj (A.cls jc) [.lst ks,.lst fns],.obj (A.cls jo) [.int 4,.tup [],.lst bd']]) hb he (by nofun) (.inst (.cons (.refl _) (.cons (.refl _) (.cons .put .nil)))),by nofun,by nofun,by nofun,by nofun,by nofun,by nofun,by nofun⟩
 obtain⟨H7,z7,hw,hk,hm,hs,hsl,he⟩:∃H7,Frz H6 H7∧H7 w=some (wv)∧H7 k=some (.dict (.i []))∧H7 m=some (.inst (A.cls jg) [.ref s,.int 120,.int 3,.int 0,.int 0,.int 0,.ref k])∧H7 s=some (.inst (A.cls jh) [.ref sl])∧H7 sl=some (.list [.obj (A.cls jf) [kd,.obj (A.cls jc) [.lst ks,.lst fns],.obj (A.cls jo) [.int 4,.tup [.int (-1)],.lst bd]],.ref e])∧H7 e=some (.inst (A.cls jf) [kd,.obj (A.cls jc) [.lst ks,.lst fns],.obj (A.cls jo) [.int 4,.tup [],.lst bd']]):=⟨_,frzO (w:=sl) (o':=.list [.obj (A.cls jf) [kd,.obj (A.cls jc) [.lst ks,.lst fns],.obj (A.cls jo) [.int 4,.tup [.int (-1)],.lst bd]],.ref e]) hc hsl (by nofun) (.list (.cons .put (.cons (.refl _) .nil))),by nofun,by nofun,by nofun,by nofun,by nofun,by nofun⟩
 obtain⟨H8,z8,hw,hk,hm,hs,hsl⟩:∃H8,Frz H7 H8∧H8 w=some (wv)∧H8 k=some (.dict (.i []))∧H8 m=some (.inst (A.cls jg) [.ref s,.int 120,.int 3,.int 0,.int 0,.int 0,.ref k])∧H8 s=some (.inst (A.cls jh) [.ref sl])∧H8 sl=some (.list [.obj (A.cls jf) [kd,.obj (A.cls jc) [.lst ks,.lst fns],.obj (A.cls jo) [.int 4,.tup [.int (-1)],.lst bd]],.obj (A.cls jf) [kd,.obj (A.cls jc) [.lst ks,.lst fns],.obj (A.cls jo) [.int 4,.tup [],.lst bd']]]):=⟨_,frzO (w:=sl) (o':=.list [.obj (A.cls jf) [kd,.obj (A.cls jc) [.lst ks,.lst fns],.obj (A.cls jo) [.int 4,.tup [.int (-1)],.lst bd]],.obj (A.cls jf) [kd,.obj (A.cls jc) [.lst ks,.lst fns],.obj (A.cls jo) [.int 4,.tup [],.lst bd']]]) he hsl (by nofun) (.list (.cons (.refl _) (.cons .put .nil))),by nofun,by nofun,by nofun,by nofun,by nofun⟩
 obtain⟨H9,z9,hw,hk,hm,hs⟩:∃H9,Frz H8 H9∧H9 w=some (wv)∧H9 k=some (.dict (.i []))∧H9 m=some (.inst (A.cls jg) [.ref s,.int 120,.int 3,.int 0,.int 0,.int 0,.ref k])∧H9 s=some (.inst (A.cls jh) [.lst [.obj (A.cls jf) [kd,.obj (A.cls jc) [.lst ks,.lst fns],.obj (A.cls jo) [.int 4,.tup [.int (-1)],.lst bd]],.obj (A.cls jf) [kd,.obj (A.cls jc) [.lst ks,.lst fns],.obj (A.cls jo) [.int 4,.tup [],.lst bd']]]]):=⟨_,frzL (w:=s) (o':=.inst (A.cls jh) [.lst [.obj (A.cls jf) [kd,.obj (A.cls jc) [.lst ks,.lst fns],.obj (A.cls jo) [.int 4,.tup [.int (-1)],.lst bd]],.obj (A.cls jf) [kd,.obj (A.cls jc) [.lst ks,.lst fns],.obj (A.cls jo) [.int 4,.tup [],.lst bd']]]]) hsl hs (by nofun) (.inst (.cons .put .nil)),by nofun,by nofun,by nofun,by nofun⟩
 obtain⟨H10,z10,hw,hk,hm⟩:∃H10,Frz H9 H10∧H10 w=some (wv)∧H10 k=some (.dict (.i []))∧H10 m=some (.inst (A.cls jg) [.obj (A.cls jh) [.lst [.obj (A.cls jf) [kd,.obj (A.cls jc) [.lst ks,.lst fns],.obj (A.cls jo) [.int 4,.tup [.int (-1)],.lst bd]],.obj (A.cls jf) [kd,.obj (A.cls jc) [.lst ks,.lst fns],.obj (A.cls jo) [.int 4,.tup [],.lst bd']]]],.int 120,.int 3,.int 0,.int 0,.int 0,.ref k]):=⟨_,frzO (w:=m) (o':=.inst (A.cls jg) [.obj (A.cls jh) [.lst [.obj (A.cls jf) [kd,.obj (A.cls jc) [.lst ks,.lst fns],.obj (A.cls jo) [.int 4,.tup [.int (-1)],.lst bd]],.obj (A.cls jf) [kd,.obj (A.cls jc) [.lst ks,.lst fns],.obj (A.cls jo) [.int 4,.tup [],.lst bd']]]],.int 120,.int 3,.int 0,.int 0,.int 0,.ref k]) hs hm (by nofun) (.inst (.cons .put (.refl _))),by nofun,by nofun,by nofun⟩
 exact⟨_,.trans z1 (.trans z2 (.trans z3 (.trans z4 (.trans z5 (.trans z6 (.trans z7 (.trans z8 (.trans z9 (z10))))))))),q _ hw hk hm⟩
theorem law_C (K:Core g A){f:Fx}(hh:f.hd=none){v0 v1 v2:Option V}{kl:Addr}{Q:jD}(hw:H P.w=some (W.told P))(hk:H kl=some (.list Jb))
  (q:∀s m k H',H' P.w=some (W.told P)→H' m=some (.inst (A.cls jg) [(Zs.of W P).st A,.int 120,.int 3,.int 0,.int 0,.int 0,.ref k])→H' k=some (.dict (.i []))→k≠P.w →
   vss (PS.dropG jm.body 11).unG (Cx.of g f ExF.still ExF.still (n+40) (mkR A) jm.ns) [v0,v1,v2,some (.ref P.w),some (.ref kl),some (.ref s),some (.ref m),none,none,none,none] H' Q) :
  vss (PS.dropG jm.body 9) (Cx.of g f ExF.still ExF.still (n+40) (mkR A) jm.ns) [v0,v1,v2,some (.ref P.w),some (.ref kl),none,none,none,none,none,none] H Q:=by
 obtain⟨T,hT⟩:∃T,T=(PS.dropG jm.body 11).unG:=⟨_,rfl⟩
 have hT':=hT
 dsimp only[PS.dropG,jm,PS.unG]at hT'
 rw[← hT]at q
 dsimp only[jm,PS.dropG]
 rw[← hT']
 clear hT hT'
 have hww:H P.w=some (.dict (.s [("body",.lst (W.body.map opV)),("heights",.lst (W.hts.map .int)),("open",.lst (W.opens.map fun ids=>.lst (ids.map fun a=>.lst (labL W a)))),("high",.int W.high),("live",.bool W.live),("left",.int W.left),("labels",.ref P.ls)])):=hw
 ac_rfl
 refine(Xa (n:=n+38) K ?_).calm
 ac_rfl
 refine(Xa (n:=n+38) K ?_).calm
 ac_rfl
 refine Un (n:=n+34) K (ks:=Jb) (kd:=zt 4) (by nofun) rfl (by nofun) (by nofun) (by nofun) ?_
 ac_rfl
 refine(QD (n:=n+38) K ?_).calm
 ac_rfl
 refine XK K (kd:=zt 4) (wv:=W.told P) (bd:=W.body.map opV) (bd':=bd1.map opV) (ks:=Jb) (fns:=[.int 0,.int 1]) (w:=P.w) (k:=k5) (m:=m5) (s:=s) (sl:=sl) (c:=c) (e:=d_2) (i:=i) (a:=f5) (b:=f5_1) (fl:=fl) (kl:=kl) (d:=d) ?_ ?_ ?_ ?_ ?_ ?_ ?_ ?_ ?_ ?_ ?_ ?_ ?_ rfl ?_ ?_ ?_ ?_ ?_ ?_ ?_ ?_ ?_ (fun H' y1 y2 y3=>q s m5 k5 H' y1 y3 y2 ?_)
 all_goals nofun
end
section
variable {g:Gx}{A:Adr}{n:Nat}{W:Wd}{G:Gw}{root:Addr}{P:WA}{H:Hp}
theorem Cert.nonempty (C:Cert root G W):∀o∈W.body,o≠[]:=fun o ho z=>by
 obtain⟨p,hp,rfl⟩:=qZ.mp ho
 have hb:=qH hp
 rw[z]at hb
 obtain⟨f,_⟩:=C.facts p _ _ _ hb (qH (by rw[C.l3];exact hp)) (qH (by rw[C.l2];exact hp)) fun e=>by
  obtain⟨n,_,h2,h3⟩:=C.froot
  rw[show n=p from by lia,hb]at h3
  cases h3
 cases f
theorem law_D (K:Core g A){hkv:List (Int×V)}(hB:jU g (A.bd jv) (.i hkv))(hN:getK hkv (-1)=none)(hxg:qx g.K (A.cls jG) "why" = true)(C:Cert root G W)(hbl:W.body.length≤10000){f:Fx}(hh:f.hd=none)(ho:f.outer=[])(ok:Fx.Ok g f (n+40)){v0 v1 v4 v5:Option V}{first:Int}(h0:0≤first){m k:Addr}
  (hw:H P.w=some (W.told P)) (hm:H m=some (.inst (A.cls jg) [(Zs.of W P).st A,.int 120,.int 3,.int 0,.int 0,.int 0,.ref k])) (hk:H k=some (.dict (.i []))) (hkw:k≠P.w) :
  vss (PS.dropG jm.body 11).unG (Cx.of g f ExF.still ExF.still (n+40) (mkR A) jm.ns) [v0,v1,some (.int first),some (.ref P.w),v4,v5,some (.ref m),none,none,none,none] H (fun fl _ _=>fl = .ret (.bool true)):=by
 obtain⟨T,hT⟩:∃T,T=PS.dropG jm.body 12:=⟨_,rfl⟩
 have hT':=hT
 dsimp only[PS.dropG,jm]at hT'
 dsimp only[jm,PS.dropG,PS.unG]
 rw[← hT']
 clear hT'
 have e4:first.fmod 4=first % 4:=qT _ (by decide)
 have hplain:((Zs.of W P).st A).plain=true:=rfl
 ac_rfl
 refine begun_ok (n:=n+26) (j:=0) (kp:=[]) (body:=[]) (lk:=.none) K (by nofun) (by nofun) ⟨by show 0<2;decide,.inl rfl⟩ rfl (by decide) (by show(0:Int)<2;decide) hB hN (by lia) (by lia) ?_
 refine XE (n:=n+36) K (by nofun) hplain (by nofun) (by show 1≤1000;decide) ?_
 ac_rfl
 refine yZ (n:=n+16) (bb:=false) (ad:=0) (j:=0) (ops:=W.body) (lk:=[-1]) (kp:=[.int (-1)]) (kr:=[.int (-1)]) (KV:=[]) K (by nofun) (by nofun) (by nofun) (by nofun) (by nofun) rfl (by decide) (by lia) C.nonempty C.five (fun k b w hw=>by obtain⟨x,a1,_⟩:=(mt_lt W.body k).li b w hw;exact⟨x,a1⟩)
  ⟨by show 0<2;decide,.inl rfl⟩ rfl hB (fun c hc=>by rw[qR.mp hc];exact hN) rfl (by show(0:Int)<3;decide) (by show 1≤1;decide) (by show 1≤8000000;decide) (by decide) (by decide) ?_
 ac_rfl
 rw[hT]
 have hlab:[(⟨W.body.length,1,0,false⟩:Lb)]=[root].map (jn W):=by show _=[jn W root];rw[C.labRoot]
 refine law_loop (Z:=Zs.of W P) (v2:=some (.int first)) (v9:=none) (v10:=none) K hB hxg C rfl rfl hh ho ok (.outer ⟨r,m,fr,fs,s',b,l,e_4,el,k,P.w⟩ ⟨[],[first.fmod 4,0],[⟨W.body.length,1,0,false⟩],0,0,1,putK [] 0 (.tup [.ref e_4,.ref el]),false⟩ 0 [root] 0 rfl rfl rfl ?_ rfl rfl rfl C.start rfl hlab ?_)
 ·rw[show(W.body.length:Int)=((List.map opV W.body).length:Int)from by rw[qD]]
  refine⟨?_,?_,?_,?_,?_,?_,?_,?_,?_,?_,?_,?_,?_,?_,?_,?_,?_,?_,?_,?_,?_,?_,?_⟩
  all_goals dsimp only
  all_goals nofun
 ·refine⟨fun x hx=>(by cases hx),fun x hx=>?_,rfl,⟨by show 1≤10;decide,.inl ⟨rfl,by show 1≤1;decide⟩⟩,by show(0:Int)≤0+1;decide,by show(1:Int)≤0+1;decide,by show(0:Int)≤0;decide,by show(0:Int)≤120;decide⟩
  rcases qL.mp hx with rfl | hx
  ·lia
  ·rw[qR.mp hx];exact Int.le_refl 0
theorem law_vss (K:Core g A){hkv:List (Int×V)}(hB:jU g (A.bd jv) (.i hkv))(hN:getK hkv (-1)=none)(hxg:qx g.K (A.cls jG) "why" = true){f:Fx}(hh:f.hd=none)(ho:f.outer=[])(ok:Fx.Ok g f (n+40)){sc:List Int} :
  vss jm.body (Cx.of g f ExF.still ExF.still (n+40) (mkR A) jm.ns) (σ0 jm [.lst (sc.map .int)]) Hp.emp (fun fl _ _=>fl = .ret (.bool true)):=
 law_A K hh fun P W G root first H C h h0 hbl=>law_B K hh C h fun kl H' hw hk=>law_C K hh hw hk fun s m k H'' y1 y2 y3 y4=>law_D K hB hN hxg C hbl hh ho ok h0 y1 y2 y3 y4
end
section
def clsA:List Nat:=[38,51,63,75,426,447,468,503,536,687,765,793]
def fnA:List Nat:=[21,35,84,91,98,105,112,119,126,133,140,147,154,161,168,175,182,189,196,203,210,217,224,231,238,245,252,259,266,273,280,287,294,301,308,315,325,332,339,346,353,360,367,376,383,390,397,404,409,423,444,465,479,493,500,521,528,533,554,561,568,573,581,588,595,602,609,616,623,630,637,644,651,658,665,672,679,684,706,713,720,727,734,741,748,755,762,783,790,804,811,818,825,832,839,846,851,856]
def bsA:List Nat:=[316,318,317,369,368]
def A01:Adr:=⟨fun j=>clsA.getD j 38,fun j=>fnA.getD j 21,fun j=>bsA.getD j 0⟩
def ft01 (a:Addr):List String:=match (List.range 12).find? (fun c=>clsA.getD c 38==a) with
 | some c=>(yb.getD c []).map fun k=>anL.getD k ""
 | none=>[]
def Bi.name:Bi→String
 | .len => "len" | .abs => "abs" | .max => "max" | .min => "min" | .tuple => "tuple" | .list => "list" | .range => "range" | .isinstance => "isinstance"
 | .divmod => "divmod" | .enumerate => "enumerate" | .zip => "zip" | .all => "all" | .sum => "sum" | .int_ => "int" | .bool_ => "bool" | .exc => "Exception"
def Bi.value:Bi→Value
 | .len=>.builtin "len" | .abs=>.builtin "abs" | .max=>.builtin "max" | .min=>.builtin "min" | .tuple=>.type "tuple" | .list=>.type "list" | .range=>.type "range" | .isinstance=>.builtin "isinstance"
 | .divmod=>.builtin "divmod" | .enumerate=>.type "enumerate" | .zip=>.type "zip" | .all=>.builtin "all" | .sum=>.builtin "sum" | .int_=>.type "int" | .bool_=>.type "bool" | .exc=>.type "Exception"
theorem Bi.boot (b:Bi):bootOf b.name b.v:=by
 refine⟨b.value,?_,by cases b<;>decide,fun P R=>by cases b<;>exact rfl⟩
 cases b<;>kernel_rfl
end
section
def gchk (K:Frag)(p:String×GK):Bool:=match p.2 with
 | .fn j=>nsIn K mainGlobals (Str.ofString p.1)==some (some (.ref (A01.fn j)))
 | .cls j=>nsIn K mainGlobals (Str.ofString p.1)==some (some (.ref (A01.cls j)))
 | .val (.int i)=>(match nsIn K mainGlobals (Str.ofString p.1)with | some (some (.int i' _))=>decide (i'=i) | _=>false)
 | .val (.str s)=>(match nsIn K mainGlobals (Str.ofString p.1)with | some (some (.str s' _))=>s'==Str.ofString s | _=>false)
 | .val _=>false
 | .bs j=>nsIn K mainGlobals (Str.ofString p.1)==some (some (.ref (A01.bd j)))&&Nat.blt j 5
 | .bi b=>nsIn K mainGlobals (Str.ofString p.1)==some none&&p.1==b.name
def tupAt (K:Frag)(a:Addr)(l:List Addr):Prop:=∃n,K.lookup a=some (tupO (l.map .ref) n)
structure Row (K:Frag):Prop where
 g:gL.all (gchk K)=true
 t0:tupAt K 316 [119,126,133]
 t1:tupAt K 318 [140,147,154,168,175,182,189,196,203,210,217,224,231,238,245]
 t2:tupAt K 317 [252,259,266,273,280,287,294,301,308,315]
 d3:∃t1 t2 v1 v2 s1 s2 n,K.lookup 369=some {cls:=.type "dict",data:=.dict #[⟨-16,.int (-16) t1,.str (Str.ofString v1) s1⟩,⟨-17,.int (-17) t2,.str (Str.ofString v2) s2⟩] n}
 kF:fnA.all (fun a=>keepIn K (.ref a))=true
 kC:clsA.all (fun a=>keepIn K (.ref a))=true
 fld:(List.range 12).all (fun c=>(yb.getD c []).all fun k=>zk K (A01.cls c) (anL.getD k "")&&setOk K (A01.cls c))=true
 ini:(List.range 12).all (fun c=>match iniL.getD c none with | some j=>clsOk K (A01.cls c) (A01.fn j) | none=>true)=true
 mth:(List.range 12).all (fun c=>(methL.getD c []).all fun p=>UF K (A01.cls c) (anL.getD p.1 "") (A01.fn p.2))=true
 exc:(List.range 12).all (fun c=>!excL.getD c false||(zJ K (A01.cls c) 35 "Exception.__new__" && uN K (A01.cls c) "why" && qx K (A01.cls c) "why"))=true
theorem Kj {α:Type}{p:α→Bool}{d:α}:∀(l:List α) (i:Nat),l.all p=true→p d=true→p (l.getD i d)=true
 | [],_,_,hd=>hd
 | x::l,0,h,_=>by rw[List.all_cons,qM]at h;exact h.1
 | x::l,i+1,h,hd=>by rw[List.all_cons,qM]at h;exact Kj l i h.2 hd
theorem qt {n c:Nat}{p:Nat→Bool}(h:(List.range n).all p=true)(hc:c<n):p c=true:=qQ.mp h c (List.mem_range.mpr hc)
theorem UE:∀(l:List Nat) (k j i:Nat),nthN l k j=some i→j≤i∧l[i-j]? = some k
 | [],_,_,_,h=>by cases h
 | x::l,k,j,i,h=>by
  unfold nthN at h
  split at h
  ·cases h
   rename_i e
   exact⟨Nat.le_refl _,by rw[Nat.sub_self];exact congrArg some e⟩
  ·obtain⟨h1,h2⟩:=UE l k (j+1) i h
   exact⟨by lia,by rw[show i-j=(i-(j+1))+1 from by lia];exact h2⟩
theorem QK:∀(l:List (Nat×Nat)) (k j:Nat),KF l k=some j→(k,j)∈l
 | [],_,_,h=>by cases h
 | (x,y)::l,k,j,h=>by
  unfold KF at h
  split at h
  ·cases h;rename_i e;subst e;exact .head _
  ·exact .tail _ (QK l k j h)
end
section
theorem Uw {P:Cf}{R:Rig}:∀l:List Addr,Dens P R (l.map V.ref) (l.map Value.ref)
 | []=>rfl
 | a::l=>⟨_,_,rfl,rfl,Uw l⟩
theorem Qh {g:Gx}(G:g.Ok){a:Addr}{l:List Addr}(h:tupAt g.K a l)(hl:l.length≤100)(fz:List (Addr×Obj)):DenG g fz (.tup (l.map .ref)) (.ref a):=by
 obtain⟨n,e⟩:=h
 exact⟨a,_,n,rfl,.inl (G.X _ _ e),Uw l,by rw[qD];lia⟩
theorem gfact {g:Gx}(G:g.Ok)(r:Row g.K){x:String}{k:GK}(h:gchk g.K (x,k)=true):GFact g x (k.v (mkR A01)):=by
 cases k with
 | fn j=>exact .inl ⟨_,beq_iff_eq.mp h,fun fz=>rfl⟩
 | cls j=>exact .inl ⟨_,beq_iff_eq.mp h,fun fz=>rfl⟩
 | val v=>
  cases v with
  | int i=>
   have h:(match nsIn g.K mainGlobals (Str.ofString x)with | some (some (.int i' _))=>decide (i'=i) | _=>false)=true:=h
   split at h
   ·rename_i i' t e
    exact .inl ⟨_,e,fun fz=>⟨t,by rw[jB h]⟩⟩
   ·cases h
  | str s=>
   have h:(match nsIn g.K mainGlobals (Str.ofString x)with | some (some (.str s' _))=>s'==Str.ofString s | _=>false)=true:=h
   split at h
   ·rename_i s' t e
    exact .inl ⟨_,e,fun fz=>⟨t,by rw[beq_iff_eq.mp h]⟩⟩
   ·cases h
  | _=>cases h
 | bs j=>
  have h:(nsIn g.K mainGlobals (Str.ofString x)==some (some (.ref (A01.bd j)))&&Nat.blt j 5)=true:=h
  rw[qM]at h
  refine .inl ⟨_,beq_iff_eq.mp h.1,fun fz=>?_⟩
  have hj:j<5:=by simpa using h.2
  have:j=0∨j=1∨j=2∨j=3∨j=4:=by lia
  rcases this with rfl | rfl | rfl | rfl | rfl
  ·exact Qh G r.t0 (by decide) fz
  ·exact Qh G r.t1 (by decide) fz
  ·exact Qh G r.t2 (by decide) fz
  ·rfl
  ·rfl
 | bi b=>
  have h:(nsIn g.K mainGlobals (Str.ofString x)==some none&&x==b.name)=true:=h
  rw[qM]at h
  obtain⟨h1,h2⟩:=h
  rw[beq_iff_eq]at h1 h2
  subst h2
  exact .inr ⟨h1,b.boot⟩
theorem ft01_cls:∀c,c<12→ft01 (A01.cls c)=(yb.getD c []).map fun k=>anL.getD k "" := fun c hc=>by
 have h:(List.range 12).all (fun c=>ft01 (A01.cls c)==(yb.getD c []).map fun k=>anL.getD k "")=true:=by decide +kernel
 exact beq_iff_eq.mp (qt h hc)
theorem rtok {g:Gx}(hft:g.ft=ft01)(G:g.Ok)(r:Row g.K)(root:∃r:wW g,r.Ok∧r.fI=35):RtOk g (mkR A01) where
 glob i x k h:=gfact G r (qQ.mp r.g _ (qW h))
 clsG i x cid h:=beq_iff_eq.mp (qQ.mp r.g _ (qW h))
 keepF j:=Kj fnA j r.kF (qQ.mp r.kF 21 (.head _))
 keepC j:=Kj clsA j r.kC (qQ.mp r.kC 38 (.head _))
 fld cid k i h:=by
  have h:nthN (yb.getD cid []) k 0=some i:=h
  by_cases hc:cid<12
  ·obtain⟨_,e⟩:=UE _ _ _ _ h
   rw[Nat.sub_zero]at e
   have q:=qQ.mp (qt r.fld hc) k (qW e)
   rw[qM]at q
   have hl:(List.range 12).all (fun c=>decide ((ft01 (A01.cls c)).Nodup)&&decide ((ft01 (A01.cls c)).length≤900))=true:=by decide +kernel
   have hl:=qt hl hc
   rw[qM]at hl
   refine⟨q.1,q.2,?_,?_,?_⟩
   ·rw[hft]
    show(ft01 (A01.cls cid))[i]? = some (anL.getD k "")
    rw[ft01_cls cid hc,qV,e];rfl
   ·rw[hft];exact jB hl.1
   ·rw[hft];exact jB hl.2
  ·rw[qP,List.getElem?_eq_none (by show 12≤cid;lia)]at h
   cases h
 exc:=by
  obtain⟨x,hx,hf⟩:=root
  refine⟨x,hx,fun cid h=>?_⟩
  have h:excL.getD cid false=true:=h
  by_cases hc:cid<12
  ·have q:=qt r.exc hc
   rw[h,Bool.not_true,Bool.false_or,qM,qM]at q
   rw[hf];exact⟨q.1.1,q.1.2,q.2⟩
  ·rw[qP,List.getElem?_eq_none (by show 12≤cid;lia)]at h
   cases h
 ini cid j h:=by
  have h:iniL.getD cid none=some j:=h
  by_cases hc:cid<12
  ·have q:=qt r.ini hc
   rw[h]at q;exact q
  ·rw[qP,List.getElem?_eq_none (by show 12≤cid;lia)]at h
   cases h
 cinj i j hi hj h:=by
  have hi:i<12:=hi
  have hj:j<12:=hj
  have q:((List.range 12).all fun i=>(List.range 12).all fun j=>!Nat.beq (A01.cls i) (A01.cls j)||Nat.beq i j)=true:=by decide +kernel
  have q:=qQ.mp (qQ.mp q i (List.mem_range.mpr hi)) j (List.mem_range.mpr hj)
  have h':A01.cls i=A01.cls j:=h
  rw[h',Nat.beq_refl,Bool.not_true,Bool.false_or]at q
  exact Nat.eq_of_beq_eq_true q
 mth cid k j h:=by
  have h:KF (methL.getD cid []) k=some j:=h
  by_cases hc:cid<12
  ·have e:=QK _ _ _ h
   have q0:=qQ.mp (qt r.mth hc) (k,j) e
   dsimp only at q0
   refine⟨q0,?_⟩
   rw[hft]
   show anL.getD k "" ∉ ft01 (A01.cls cid)
   have q:(List.range 12).all (fun c=>(methL.getD c []).all fun p=>!(ft01 (A01.cls c)).contains (anL.getD p.1 ""))=true:=by decide +kernel
   have q:=qQ.mp (qt q hc) _ e
   simpa using q
  ·rw[qP,List.getElem?_eq_none (by show 12≤cid;lia)]at h
   cases h
theorem Yd {g:Gx}(r:Row g.K):∃v1 v2,jU g (A01.bd jv) (.i [(-16,.str v1),(-17,.str v2)]):=by
 obtain⟨t1,t2,v1,v2,s1,s2,n,e⟩:=r.d3
 refine⟨v1,v2,_,e,rfl,[.str (Str.ofString v1) s1,.str (Str.ofString v2) s2],⟨_,_,rfl,⟨s1,rfl⟩,_,_,rfl,⟨s2,rfl⟩,rfl⟩,⟨_,_,⟨rfl,rfl,rfl⟩,rfl,?_,.cons (intKind_is ..) rfl (.cons (intKind_is ..) rfl .nil),by show[(-16:Int),-17].Nodup;decide⟩,by show 2≤16000000;decide⟩
 intro x hx
 have hx:x∈[_,_]:=Array.mem_def.mp hx
 rcases qL.mp hx with rfl | hx
 ·exact⟨-16,intKind_is ..,rfl⟩
 ·rw[qR.mp hx];exact⟨-17,intKind_is ..,rfl⟩
end
def fnChk (K:Frag)(A:Adr)(p:Nat×Def):Bool:=match K.lookup (A.fn p.1) with
 | some ⟨_,_,.func fd,_⟩=>(match fd.body with | .stmts b=>(iss p.2.body).L ⟨p.2.ns,p.2.gs,mkR A,true⟩ fd.scope b | _=>false)&&fd.closure.isEmpty&&Nat.beq fd.globals mainGlobals&&Nat.beq fd.builtins builtinsNs&&codeIn K fd.code fd.qualname&&zM (mkR A) p.2 fd.scope&&p.2.dv.isEmpty
 | _=>false
def fdAt (K:Frag)(a:Addr):FuncData:=match K.lookup a with
 | some ⟨_,_,.func fd,_⟩=>fd
 | _=>{name := "",qualname := "",params:=⟨[],[],none,[],[],none,[]⟩,body:=.stmts [],scope:=default,globals:=0,closure:=[],defaults:=.none,kwdefaults:=.none}
def ofN (n:Nat):List (Nat×Def):=dL.filter fun p=>Nat.beq p.2.ps.length n
abbrev bnds (K:Frag)(S:Setting)(vs:List Value):Prop:=((ofN vs.length).map fun p=>peek K S (bindArgs (fdAt K (A01.fn p.1)) ⟨vs,[]⟩))=(ofN vs.length).map fun p=>some (p.2.ps.zip vs)
structure RowF (K:Frag):Prop where
 chk:dL.all (fnChk K A01)=true
 b1:∀S a,bnds K S [a]
 b2:∀S a b,bnds K S [a,b]
 b3:∀S a b c,bnds K S [a,b,c]
 b4:∀S a b c d,bnds K S [a,b,c,d]
 b5:∀S a b c d e,bnds K S [a,b,c,d,e]
 b6:∀S a b c d e f,bnds K S [a,b,c,d,e,f]
theorem RowF.bnd {K:Frag}(r:RowF K)(S:Setting):∀vs:List Value,1≤vs.length→vs.length≤6→bnds K S vs
 | [a],_,_=>r.b1 S a
 | [a,b],_,_=>r.b2 S a b
 | [a,b,c],_,_=>r.b3 S a b c
 | [a,b,c,d],_,_=>r.b4 S a b c d
 | [a,b,c,d,e],_,_=>r.b5 S a b c d e
 | [a,b,c,d,e,f],_,_=>r.b6 S a b c d e f
 | [],h,_=>absurd h (by decide)
 | _::_::_::_::_::_::_::_,_,h=>absurd h (by simp only[qE];lia)
theorem DAll.of {g:Gx}{A:Adr}:∀l:List (Nat×Def),(∀p∈l,ji g (mkR A) (A.fn p.1) p.2)→DAll g A l
 | [],_=>trivial
 | p::l,h=>⟨h p (.head _),DAll.of l fun q hq=>h q (.tail _ hq)⟩
theorem arity:dL.all (fun p=>Nat.ble 1 p.2.ps.length&&Nat.ble p.2.ps.length 6)=true:=by decide +kernel
theorem defAll {g:Gx}(G:g.Ok)(r:RowF g.K):DAll g A01 dL:=DAll.of _ fun p hp=>by
 have h:=qQ.mp r.chk p hp
 have ar:=qQ.mp arity p hp
 unfold fnChk at h
 split at h
 ·rename_i oc od fd osl ho
  cases hb:fd.body with
  | expr b=>rw[hb]at h;simp at h
  | stmts body=>
   rw[hb]at h
   simp only[qM]at h ar
   obtain⟨⟨⟨⟨⟨⟨h1,h2⟩,h3⟩,h4⟩,h5⟩,h6⟩,h7⟩:=h
   have hdv:p.2.dv=[]:=by simpa using h7
   have hfd:fdAt g.K (A01.fn p.1)=fd:=by unfold fdAt;rw[ho]
   have e:fd=fnOf fd.name fd.qualname fd.params body fd.scope fd.defaults fd.kwdefaults fd.doc fd.pyModule fd.annotations fd.code fd.closureTuple:=by
    have c1:fd.closure=[]:=by simpa using h2
    have c2:=Nat.eq_of_beq_eq_true h3
    have c3:=Nat.eq_of_beq_eq_true h4
    obtain⟨nm,q,ps,bd,sc,gl,cl,df,kd,dc,pm,an,cd,ct,bi⟩:=fd
    dsimp only at hb c1 c2 c3
    subst hb c1 c2 c3
    rfl
   refine⟨fd.name,fd.qualname,fd.params,body,fd.scope,fd.defaults,fd.kwdefaults,fd.doc,fd.pyModule,fd.code,fd.closureTuple,oc,fd.annotations,od,osl,[],?_,h5,fun vals s X hl=>?_,fun fz=>by rw[hdv];rfl,h6,h1⟩
   ·rw[← e];exact ho
   ·rw[← e,List.append_nil]
    rw[hdv,qS,Nat.add_zero]at hl
    refine kp_binds X fun S=>?_
    have q:=r.bnd S vals (by rw[hl];exact Nat.le_of_ble_eq_true ar.1) (by rw[hl];exact Nat.le_of_ble_eq_true ar.2)
    unfold bnds at q
    rw[List.map_inj_left]at q
    rw[← hfd]
    exact q p (qN.mpr ⟨hp,by rw[hl];exact Nat.beq_refl _⟩)
 ·cases h
theorem UM {P:Cf}{R:Rig}:∀{vs:List Value} {sc:List Int},IntsAre vs sc→Dens P R (sc.map .int) vs
 | _,_,.nil=>rfl
 | _,_,.cons n t h=>⟨_,_,rfl,⟨t,rfl⟩,UM h⟩
theorem XU {g:Gx}{n:Nat}(K:Core g A01){hkv:List (Int×V)}(hB:jU g (A01.bd jv) (.i hkv))(hN:getK hkv (-1)=none)(hxg:qx g.K (A01.cls jG) "why" = true)
  {f:Fx} (hh:f.hd=none) (ho:f.outer=[]) (hbk:f.bk=none) (ok:Fx.Ok g f (n+40)) {body:List Stmt} (hdef:zM (mkR A01) jm f.scope=true) (his:(iss jm.body).L ⟨jm.ns,jm.gs,mkR A01,true⟩ f.scope body=true)
  {s:Shared} {m:Str→Option Value} {a:Addr} {vs:List Value} {sc:List Int} (F:PyProof.Rows.Fr f.h₀ f.L s.heap m) (N:News f.h₀ f.L s.heap []) (hm:m "script" = some (.ref a)) (hl:g.base.IsList a vs.toArray) (hi:IntsAre vs sc) (hsc:sc.length≤1000)
  {Pq:Flow→Shared→Prop} {E:Value→Shared→Prop} (q:∀h tk m',PyProof.Rows.Fr f.h₀ f.L h m'→Pq (.ret (.bool true)) {s with heap:=h,toks:=tk}):wpAny (model g.prog g.w) f.A (execs body f.env0) Pq E s:=by
 have henv:f.env.scope=f.scope:=by rw[Fx.env_none hbk];rfl
 unfold zM at hdef
 obtain⟨hok,k8⟩:=andT hdef
 obtain⟨hok,k7⟩:=andT hok
 obtain⟨hok,k6⟩:=andT hok
 obtain⟨hok,k5⟩:=andT hok
 obtain⟨hok,k4⟩:=andT hok
 obtain⟨hok,k3⟩:=andT hok
 obtain⟨k1,k2⟩:=andT hok
 have oks:(Cx.of g f ExF.still ExF.still (n+40) (mkR A01) jm.ns).OkS ⟨jm.ns,jm.gs,mkR A01,true⟩ f.scope:=by
  refine⟨⟨K.G,K.Rk,rfl,ok,.inr hh,fun _=>rfl,.inr hh,fun i x hx pos σ H Q q=>?_,fun i hi=>by rw[henv];exact qQ.mp k3 i hi,fun _=>hbk⟩,hbk,jB k2,rfl,fun i x hx=>by rw[henv];exact qQ.mp k1 x (qW hx),rfl,henv⟩
  have hlx:=qQ.mp k1 x (qW hx)
  unfold lOk at hlx
  obtain⟨l1,l2⟩:=andT hlx
  have q':locV (nthL σ i) (fun v=>Q v H):=q
  cases hv:nthL σ i with
  | none=>rw[hv]at q';exact q'.elim
  | some v=>
   rw[hv]at q'
   exact ym ok hbk hx (by rw[henv];exact beq_iff_eq.mp l1) (by simpa using l2) (yj hv) q'
 have J:=(snds jm.body).L oks his (law_vss K hB hN hxg hh ho ok (sc:=sc))
 have S:St g f s.heap m Hp.emp [] [] (fun _=>0):=by
  refine⟨by rw[Fx.mo_none hbk];exact F,⟨N,List.nodup_nil,fun a xs e=>(by cases e),fun a C xs e=>(by cases e),fun a d e=>(by cases e),fun a ps e=>(by cases e),fun a b C xs C' xs' e=>(by cases e),fun a C xs e=>(by cases e)⟩⟩
 have lo:Locs g f [] jm.ns (σ0 jm [.lst (sc.map .int)]) m:=by
  refine⟨fun i x hx v hv=>?_,fun e C x h=>absurd hh h,.inl hh⟩
  cases i with
  | zero=>
   cases hx;cases hv
   obtain⟨⟨c,dd,dt,sl⟩,h1,h2,n,h3⟩:=hl
   dsimp only at h2 h3
   subst h2 h3
   exact⟨_,hm,a,vs,n,dd,sl,rfl,.inl h1,UM hi,by rw[qD];lia⟩
  | succ i=>
   have hv:(jm.ns.drop 1 |>.map fun _=>(none:Option V))[i]? = some (some v):=hv
   rw[qV,Option.map_eq_some_iff]at hv
   obtain⟨_,_,h⟩:=hv
   cases h
 have hE:=J s m [] [] (fun _=>0) S lo Pq E (fun v h tk mu' fz' D' H' m' x σ' st le d lo' hx=>?_) (fun m' e s' h=>h.elim)
 ·rw[Fx.env_none hbk]at hE;exact hE
 ·subst hx
  obtain⟨u,rfl,rfl⟩:=d
  exact q h tk _ st.fr
theorem no_cells {l:List (Str×NameKind)}(h:l.all (fun x=>decide (x.2≠.cell))=true):∀x∈l,x.2≠.cell:=fun x hx=>jB (qQ.mp h x hx)
theorem law_fin {prog:Program}{w:World}{K:Frag}{p:Program}{loose:List Str}{mean:ExcName→Option Value}{mg mb:Str→Option Value}{base:Heap}(KX:K.In base)(T:Top p loose mean mg mb base)(r1:Row K)(r2:RowF K)
  (r3:∃x:wW ⟨prog,w,K,p,loose,mean,mg,mb,base,ft01⟩,x.Ok∧x.fI=35) {fa L:Addr} {scope:Scope} {name:Str} {cd:Value} {body:List Stmt} (hdef:zM (mkR A01) jm scope=true) (his:(iss jm.body).L ⟨jm.ns,jm.gs,mkR A01,true⟩ scope body=true)
  {s:Shared} {m:Str→Option Value} {a:Addr} {vs:List Value} {sc:List Int} (F:PyProof.Rows.Fr base L s.heap m) (N:News base L s.heap []) (hm:m "script" = some (.ref a)) (hl:base.IsList a vs.toArray) (hi:IntsAre vs sc) (hsc:¬(63:Int)<sc.length)
  {Pq:Flow→Shared→Prop} {E:Value→Shared→Prop} (q:∀h tk m',PyProof.Rows.Fr base L h m'→Pq (.ret (.bool true)) {s with heap:=h,toks:=tk}):wpAny (model prog w) (callerA.deeper (envOf name scope L fa cd)) (execs body (envOf name scope L fa cd)) Pq E s:=by
 have G:Gx.Ok ⟨prog,w,K,p,loose,mean,mg,mb,base,ft01⟩:=⟨KX,T⟩
 have C:Core ⟨prog,w,K,p,loose,mean,mg,mb,base,ft01⟩ A01:=⟨G,rtok rfl G r1 r3,defAll G r2⟩
 obtain⟨v1,v2,hB⟩:=Yd (g:=⟨prog,w,K,p,loose,mean,mg,mb,base,ft01⟩) r1
 have hkd:scope.kind = .function:=by
  unfold zM at hdef
  obtain⟨hok,k8⟩:=andT hdef
  obtain⟨hok,k7⟩:=andT hok
  obtain⟨hok,k6⟩:=andT hok
  exact beq_iff_eq.mp k6
 have hx:qx K (A01.cls jG) "why" = true:=by
  have q:=qt r1.exc (show 2<12 by decide)
  rw[show excL.getD 2 false=true from rfl,Bool.not_true,Bool.false_or,qM]at q
  exact q.2
 exact XU (n:=10) (g:=⟨prog,w,K,p,loose,mean,mg,mb,base,ft01⟩) (f:=⟨none,callerA.depth+1,callerA.units+3,callerA.guards,name,scope,L,fa,cd,[],callerA,base,none,none⟩) C hB rfl hx rfl rfl rfl
  ⟨below_caller base,hkd,hkd,(by show callerA.depth+1+2*(10+40)<recursionLimit;decide),(by show callerA.units+3+8*(10+40)<cLine;decide)⟩ hdef his F N hm hl hi (by lia) q
end
end Mine
set_option maxHeartbeats 0 in
theorem PySem.Challenge.cw_nm0159_01_holds : PySem.Challenge.rw_nm0159_01.Holds := by
  run_tac Mine.Cse.a
  w_on; o_law; k_head; (case hw => w_witness2)
  k_go0
  rename_i w s₀ s₁ mg mb G Y fa o pm doc kV ho hg KX X V GL T B TE TW w9 w8 M w7 w6 hcd w5 hs hlay0 hL1 hr1 hl2 w4 w3 w2 w1 w0 hL ra w1' r0 hI hr hcond1 hcond K0 hD h₁ F N0
  refine Mine.law_fin KX T ⟨by kernel_rfl, ⟨_, rfl⟩, ⟨_, rfl⟩, ⟨_, rfl⟩, ⟨_, _, _, _, _, _, _, rfl⟩, by kernel_rfl, by kernel_rfl, by kernel_rfl, by kernel_rfl, by kernel_rfl, by kernel_rfl⟩
    ⟨by kernel_rfl, fun _ _ => by kernel_rfl, fun _ _ _ => by kernel_rfl, fun _ _ _ _ => by kernel_rfl, fun _ _ _ _ _ => by kernel_rfl, fun _ _ _ _ _ _ => by kernel_rfl, fun _ _ _ _ _ _ _ => by kernel_rfl⟩
    ⟨⟨35, _, _, _, _, _, _, _, _, _, _, _, _, _, _, _, _, _, _, _, _, _, _, _, _⟩, ⟨rfl, rfl, by kernel_rfl, fun a b s => BindsTo.of_eq rfl, rfl, rfl, rfl, by kernel_rfl, rfl, rfl, rfl, Mine.no_cells (by kernel_rfl), by kernel_rfl, fun env => ⟨_, rfl⟩⟩, rfl⟩
    (by kernel_rfl) (by kernel_rfl) F N0 rfl hL hI hcond1 fun h tk m' F' => ?_
  (show GoodW _ _ _ _ _ (.ok (.ret (.bool _))) _)
  refine goodW_bool F' hg (raisesW_false ?_) ?_
  · wrow_none_raised
  · wrow_post
  run_tac Mine.Gc.last
