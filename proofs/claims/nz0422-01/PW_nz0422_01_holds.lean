import PyProof.Rows.All
import Wide.All
import OpenK.AllK
import Wide.FinOn
import PySem.Challenge.RW_nz0422_01
set_option Elab.async false
set_option bootstrap.genMatcherCode false
set_option genSizeOf false
set_option genInjectivity false
set_option genSizeOfSpec false
set_option linter.all false
set_option maxRecDepth 100000
set_option maxHeartbeats 0
namespace La
noncomputable section
inductive E where
 | lit (k:Nat)|var (i:Nat)|add (x y:E)|sub (x y:E)|neg (x:E)|ml (k:Nat) (x:E)|mr (x:E) (k:Nat)|cast (x:E)
noncomputable def nth{α:Type}(d:α):List α→Nat→α
 | [],_=>d
 | x::_,0=>x
 | _::l,i+1=>nth d l i
noncomputable def valN(ns:List Nat):E→Nat
 | .lit k=>k
 | .var i=>nth 0 ns i
 | .add x y=>valN ns x+valN ns y
 | .ml k x=>k*valN ns x
 | .mr x k=>valN ns x*k
 | .sub _ _=>0
 | .neg _=>0
 | .cast _=>0
noncomputable def iH(xs:List Int)(ns:List Nat):E→Int
 | .lit k=>Int.ofNat k
 | .var i=>nth 0 xs i
 | .add x y=>iH xs ns x+iH xs ns y
 | .sub x y=>iH xs ns x-iH xs ns y
 | .neg x=>- iH xs ns x
 | .ml k x=>Int.ofNat k*iH xs ns x
 | .mr x k=>iH xs ns x*Int.ofNat k
 | .cast x=>(valN ns x:Int)
noncomputable def parse:Nat→Nat→E×Nat
  | 0,c=>(.lit 0,c)
  | f+1,c=>match c%64 with
    | 0=>(.lit (c/64%64),c/4096)
    | 1=>(.lit (c/64%18446744073709551616),c/1180591620717411303424)
    | 2=>let p:=parse f (c/64);let q:=parse f p.2;(.add p.1 q.1,q.2)
    | 3=>let p:=parse f (c/64);let q:=parse f p.2;(.sub p.1 q.1,q.2)
    | 4=>let p:=parse f (c/64);(.neg p.1,p.2)
    | 5=>let p:=parse f (c/4096);(.ml (c/64%64) p.1,p.2)
    | 6=>let p:=parse f (c/4096);(.mr p.1 (c/64%64),p.2)
    | 7=>let p:=parse f (c/64);(.cast p.1,p.2)
    | 8=>let p:=parse f (c/1180591620717411303424);(.ml (c/64%18446744073709551616) p.1,p.2)
    | 9=>let p:=parse f (c/1180591620717411303424);(.mr p.1 (c/64%18446744073709551616),p.2)
    | 10=>(.lit (c/64%340282366920938463463374607431768211456),c/21778071482940061661655974875633165533184)
    | i+11=>(.var i,c/64)
noncomputable def rel(xs:List Int)(ns:List Nat)(a b:E):Nat→Prop
 | 0=>iH xs ns a≤iH xs ns b
 | 1=>iH xs ns a<iH xs ns b
 | 2=>iH xs ns a=iH xs ns b
 | 3=>¬ iH xs ns a≤iH xs ns b
 | 4=>¬ iH xs ns a<iH xs ns b
 | 5=>valN ns a≤valN ns b
 | 6=>valN ns a<valN ns b
 | 7=>valN ns a=valN ns b
 | 8=>¬ valN ns a≤valN ns b
 | 9=>¬ valN ns a<valN ns b
 | _=>False
noncomputable def den(xs:List Int)(ns:List Nat)(c:Nat):Prop:=rel xs ns (parse 99 (c/16)).1 (parse 99 (parse 99 (c/16)).2).1 (c%16)
noncomputable def add:List Int→List Int→List Int
 | [],b=>b
 | x::a,[]=>x::a
 | x::a,y::b=>(x+y)::add a b
noncomputable def smul(k:Int):List Int→List Int
 | []=>[]
 | x::a=>(k*x)::smul k a
noncomputable def unit:Nat→List Int
 | 0=>[1]
 | n+1=>0::unit n
noncomputable def jj:E→List Int
 | .lit k=>[Int.ofNat k]
 | .var i=>unit (i+i+2)
 | .add x y=>add (jj x) (jj y)
 | .ml k x=>smul (Int.ofNat k) (jj x)
 | .mr x k=>smul (Int.ofNat k) (jj x)
 | .sub _ _=>[]
 | .neg _=>[]
 | .cast _=>[]
noncomputable def lin:E→List Int
 | .lit k=>[Int.ofNat k]
 | .var i=>unit (i+i+1)
 | .add x y=>add (lin x) (lin y)
 | .sub x y=>add (lin x) (smul (-1) (lin y))
 | .neg x=>smul (-1) (lin x)
 | .ml k x=>smul (Int.ofNat k) (lin x)
 | .mr x k=>smul (Int.ofNat k) (lin x)
 | .cast x=>jj x
noncomputable def lt(x y:List Int):List Int:=add y (add (smul (-1) x) [-1])
noncomputable def le(x y:List Int):List Int:=add y (smul (-1) x)
noncomputable def form(a b:E):Nat→List Int
 | 0=>le (lin a) (lin b)
 | 1=>lt (lin a) (lin b)
 | 2=>le (lin a) (lin b)
 | 3=>lt (lin b) (lin a)
 | 4=>le (lin b) (lin a)
 | 5=>le (jj a) (jj b)
 | 6=>lt (jj a) (jj b)
 | 7=>le (jj a) (jj b)
 | 8=>lt (jj b) (jj a)
 | 9=>le (jj b) (jj a)
 | _=>[]
noncomputable def WQ:Nat→Nat
 | 0=>3
 | 1=>4
 | 3=>0
 | 4=>1
 | 5=>8
 | 6=>9
 | 8=>5
 | 9=>6
 | _=>10
noncomputable def isEq:Nat→Bool
 | 2=>true
 | 7=>true
 | _=>false
noncomputable def ev(ρ:Nat→Int):Nat→List Int→Int
 | _,[]=>0
 | j,c::l=>c*ρ j+ev ρ (j+1) l
theorem jx(ρ:Nat→Int):∀ (a b:List Int) (j:Nat),ev ρ j (add a b)=ev ρ j a+ev ρ j b
  | [],b,j=>(Int.zero_add _).symm
  | x::a,[],j=>(Int.add_zero _).symm
  | x::a,y::b,j=>by
    show(x+y)*ρ j+ev ρ (j+1) (add a b)=(x*ρ j+ev ρ (j+1) a)+(y*ρ j+ev ρ (j+1) b)
    rw[jx ρ a b,Int.add_mul];ac_rfl
theorem iD(ρ:Nat→Int)(k:Int):∀ (a:List Int) (j:Nat),ev ρ j (smul k a)=k*ev ρ j a
  | [],j=>(Int.mul_zero k).symm
  | x::a,j=>by
    show k*x*ρ j+ev ρ (j+1) (smul k a)=k*(x*ρ j+ev ρ (j+1) a)
    rw[iD ρ k a,Int.mul_add,Int.mul_assoc]
theorem wK(ρ:Nat→Int):∀ (n j:Nat),ev ρ j (unit n)=ρ (j+n)
  | 0,j=>by
    show 1*ρ j+0=ρ j
    rw[Int.one_mul,Int.add_zero]
  | n+1,j=>by
    show 0*ρ j+ev ρ (j+1) (unit n)=ρ (j+(n+1))
    rw[Int.zero_mul,Int.zero_add,wK ρ n,Nat.add_assoc,Nat.add_comm 1 n]
noncomputable def env(xs:List Int)(ns:List Nat):Nat→Int
 | 0=>1
 | j+1=>if j%2=0 then nth 0 xs (j/2) else((nth 0 ns (j/2):Nat):Int)
section
variable(xs:List Int)(ns:List Nat)
theorem Ba(k:Int):ev (env xs ns) 0 [k]=k:=by
 show k*1+0=k
 rw[Int.mul_one,Int.add_zero]
theorem cN:∀ e,ev (env xs ns) 0 (jj e)=(valN ns e:Int)
  | .lit k=>Ba xs ns _
  | .var i=>by
    show ev _ 0 (unit (i+i+1+1))=((nth 0 ns i:Nat):Int)
    rw[wK,Nat.zero_add]
    show(if(i+i+1)%2=0 then nth 0 xs ((i+i+1)/2) else((nth 0 ns ((i+i+1)/2):Nat):Int))=_
    rw[if_neg (by omega),show(i+i+1)/2=i from by omega]
  | .add x y=>(jx _ _ _ _).trans (by rw[cN x,cN y];exact(Int.natCast_add _ _).symm)
  | .ml k x=>(iD _ _ _ _).trans (by rw[cN x];exact(Int.natCast_mul _ _).symm)
  | .mr x k=>(iD _ _ _ _).trans (by rw[cN x,Int.mul_comm];exact(Int.natCast_mul _ _).symm)
  | .sub _ _=>rfl
  | .neg _=>rfl
  | .cast _=>rfl
theorem ur{l:List Int}{v:Int}(h:ev (env xs ns) 0 l=v):ev (env xs ns) 0 (smul (-1) l) = -v:=by
 rw[iD,h,Int.neg_one_mul]
theorem cU:∀ e,ev (env xs ns) 0 (lin e)=iH xs ns e
  | .lit k=>Ba xs ns _
  | .var i=>by
    show ev _ 0 (unit (i+i+1))=nth 0 xs i
    rw[wK,Nat.zero_add]
    show(if(i+i)%2=0 then nth 0 xs ((i+i)/2) else((nth 0 ns ((i+i)/2):Nat):Int))=_
    rw[if_pos (by omega),show(i+i)/2=i from by omega]
  | .add x y=>(jx _ _ _ _).trans (by rw[cU x,cU y];rfl)
  | .sub x y=>(jx _ _ _ _).trans (by rw[cU x,ur xs ns (cU y)];exact Int.sub_eq_add_neg.symm)
  | .neg x=>ur xs ns (cU x)
  | .ml k x=>(iD _ _ _ _).trans (by rw[cU x];rfl)
  | .mr x k=>(iD _ _ _ _).trans (by rw[cU x,Int.mul_comm];rfl)
  | .cast x=>cN xs ns x
theorem Mf{l r:List Int}{u v:Int}(h:ev (env xs ns) 0 l=u)(h':ev (env xs ns) 0 r=v):ev (env xs ns) 0 (le l r)=v-u:=by
 unfold le;rw[jx,ur xs ns h,h'];exact Int.sub_eq_add_neg.symm
theorem UJ{l r:List Int}{u v:Int}(h:ev (env xs ns) 0 l=u)(h':ev (env xs ns) 0 r=v):ev (env xs ns) 0 (lt l r)=v+(-u + -1):=by
 unfold lt;rw[jx,jx,ur xs ns h,h',Ba]
theorem Ju{l r:List Int}{u v:Int}(h:ev (env xs ns) 0 l=u)(h':ev (env xs ns) 0 r=v)(q:u≤v):0≤ev (env xs ns) 0 (le l r):=by
 rw[Mf xs ns h h'];omega
theorem Qx{l r:List Int}{u v:Int}(h:ev (env xs ns) 0 l=u)(h':ev (env xs ns) 0 r=v)(q:u<v):0≤ev (env xs ns) 0 (lt l r):=by
 rw[UJ xs ns h h'];omega
theorem eqP{l r:List Int}{u v:Int}(h:ev (env xs ns) 0 l=u)(h':ev (env xs ns) 0 r=v)(q:u=v):ev (env xs ns) 0 (le l r)=0:=by
 rw[Mf xs ns h h'];omega
theorem iC(a b:E):∀ k,rel xs ns a b k→0≤ev (env xs ns) 0 (form a b k)∧(isEq k=true→ev (env xs ns) 0 (form a b k)=0)
 | 0,h=>⟨Ju xs ns (cU _ _ a) (cU _ _ b) h,nofun⟩
 | 1,h=>⟨Qx xs ns (cU _ _ a) (cU _ _ b) h,nofun⟩
 | 2,h=>⟨Ju xs ns (cU _ _ a) (cU _ _ b) (Int.le_of_eq h),λ_=>eqP xs ns (cU _ _ a) (cU _ _ b) h⟩
 | 3,h=>⟨Qx xs ns (cU _ _ b) (cU _ _ a) (Int.not_le.mp h),nofun⟩
 | 4,h=>⟨Ju xs ns (cU _ _ b) (cU _ _ a) (Int.not_lt.mp h),nofun⟩
 | 5,h=>⟨Ju xs ns (cN _ _ a) (cN _ _ b) (Int.ofNat_le.mpr h),nofun⟩
 | 6,h=>⟨Qx xs ns (cN _ _ a) (cN _ _ b) (Int.ofNat_lt.mpr h),nofun⟩
 | 7,h=>⟨Ju xs ns (cN _ _ a) (cN _ _ b) (Int.ofNat_le.mpr (Nat.le_of_eq h)),λ_=>eqP xs ns (cN _ _ a) (cN _ _ b) (congrArg Int.ofNat h)⟩
 | 8,h=>⟨Qx xs ns (cN _ _ b) (cN _ _ a) (Int.ofNat_lt.mpr (Nat.not_le.mp h)),nofun⟩
 | 9,h=>⟨Ju xs ns (cN _ _ b) (cN _ _ a) (Int.ofNat_le.mpr (Nat.not_lt.mp h)),nofun⟩
 | n+10,h=>h.elim
theorem Qq(a b:E):∀ k,isEq k=false→¬ rel xs ns a b k→0≤ev (env xs ns) 0 (form a b (WQ k))
 | 0,_,h=>(iC xs ns a b 3 h).1
 | 1,_,h=>(iC xs ns a b 4 h).1
 | 2,e,_=>nomatch e
 | 3,_,h=>(iC xs ns a b 0 (Classical.not_not.mp h)).1
 | 4,_,h=>(iC xs ns a b 1 (Classical.not_not.mp h)).1
 | 5,_,h=>(iC xs ns a b 8 h).1
 | 6,_,h=>(iC xs ns a b 9 h).1
 | 7,e,_=>nomatch e
 | 8,_,h=>(iC xs ns a b 5 (Classical.not_not.mp h)).1
 | 9,_,h=>(iC xs ns a b 6 (Classical.not_not.mp h)).1
 | n+10,_,_=>Int.le_refl 0
end
noncomputable def zig(m:Nat):Int:=match m%2 with
 | 0=>Int.ofNat (m/2)
 | _=>Int.negSucc (m/2)
noncomputable def sign(k:Nat)(z:Int):List Int→List Int→List Int
  | f,l=>match z with
    | .ofNat m=>add l (smul (.ofNat m) f)
    | .negSucc m=>match isEq k with
      | true=>add l (smul (.negSucc m) f)
      | false=>l
noncomputable def fm(c:Nat):List Int:=form (parse 99 (c/16)).1 (parse 99 (parse 99 (c/16)).2).1 (c%16)
noncomputable def gm(c:Nat):List Int:=form (parse 99 (c/16)).1 (parse 99 (parse 99 (c/16)).2).1 (WQ (c%16))
noncomputable def sum:List Nat→Nat→List Int→List Int
 | [],_,l=>l
 | c::fs,t,l=>sum fs (t/64) (sign (c%16) (zig (t%64)) (fm c) l)
noncomputable def fin:Bool→List Int→Bool
  | _,[]=>true
  | true,x::l=>match x with
    | .ofNat 0=>fin false l
    | _=>false
  | false,x::l=>match x with
    | .ofNat (_+1)=>false
    | _=>fin true l
noncomputable def bad:List Int→Bool
 | .negSucc _::l=>fin true l
 | _=>false
noncomputable def Bk(fs:List Nat)(g t:Nat):Bool:=match isEq (g%16) with
 | true=>false
 | false=>bad (sum fs (t/64) (smul (.ofNat (t%64)) (gm g)))
section
variable(xs:List Int)(ns:List Nat)
theorem KN{k:Nat}{f l:List Int}(h:0≤ev (env xs ns) 0 f)(h':isEq k=true→ev (env xs ns) 0 f=0)(hl:0≤ev (env xs ns) 0 l):∀ z,0≤ev (env xs ns) 0 (sign k z f l)
  | .ofNat m=>by
    show 0≤ev _ 0 (add l (smul (.ofNat m) f))
    rw[jx,iD];exact Int.add_nonneg hl (Int.mul_nonneg (Int.natCast_nonneg m) h)
  | .negSucc m=>by
    show 0≤ev _ 0 (match isEq k with|true=>add l (smul (.negSucc m) f)|false=>l)
    cases q:isEq k with
    | false=>exact hl
    | true=>
      show 0≤ev _ 0 (add l (smul (.negSucc m) f))
      rw[jx,iD,h' q,Int.mul_zero,Int.add_zero];exact hl
theorem uy:∀ (b:Bool) (j:Nat) (l:List Int),(j%2=0↔b=true)→fin b l=true→ev (env xs ns) (j+1) l≤0
  | _,j,[],_,_=>Int.le_refl 0
  | true,j,.ofNat 0::l,hb,h=>by
    show 0*_+ev (env xs ns) (j+1+1) l≤0
    rw[Int.zero_mul,Int.zero_add];exact uy false (j+1) l (by simp at hb⊢;omega) h
  | true,_,.ofNat (_+1)::_,_,h=>nomatch h
  | true,_,.negSucc _::_,_,h=>nomatch h
  | false,_,.ofNat (_+1)::_,_,h=>nomatch h
  | false,j,.ofNat 0::l,hb,h=>by
    show 0*_+ev (env xs ns) (j+1+1) l≤0
    rw[Int.zero_mul,Int.zero_add];exact uy true (j+1) l (by simp at hb⊢;omega) h
  | false,j,.negSucc m::l,hb,h=>by
    show .negSucc m*(if j%2=0 then nth 0 xs (j/2) else((nth 0 ns (j/2):Nat):Int))+ev (env xs ns) (j+1+1) l≤0
    rw[if_neg (by simp at hb;omega)]
    have h1:=uy true (j+1) l (by simp at hb⊢;omega) h
    have h2:=Int.mul_nonneg (Int.natCast_nonneg (m+1)) (Int.natCast_nonneg (nth 0 ns (j/2)))
    rw[show Int.negSucc m = -((m+1:Nat):Int) from rfl,Int.neg_mul];omega
theorem RT:∀ l:List Int,bad l=true→¬ 0≤ev (env xs ns) 0 l
  | .negSucc m::l,h,q=>by
    have h1:=uy xs ns true 0 l (by simp) h
    have q:0≤.negSucc m*1+ev (env xs ns) 1 l:=q
    rw[Int.mul_one] at q
    have h1:ev (env xs ns) 1 l≤0:=h1
    omega
  | [],h,_=>nomatch h
  | .ofNat _::_,h,_=>nomatch h
noncomputable def imp(g:Nat):List Nat→Prop
 | []=>den xs ns g
 | c::fs=>den xs ns c→imp g fs
theorem Ia(g:Nat):∀ (fs:List Nat) (t:Nat) (l:List Int),bad (sum fs t l)=true→(¬ den xs ns g→0≤ev (env xs ns) 0 l)→imp xs ns g fs
  | [],_,l,h,hl=>Decidable.byContradiction (dec:=Classical.propDecidable _) λq=>RT xs ns l h (hl q)
  | c::fs,t,l,h,hl=>λhc=>Ia g fs (t/64) _ h λq=>
    have h1:=iC xs ns _ _ _ hc
    KN xs ns h1.1 h1.2 (hl q) _
theorem main(fs:List Nat)(g t:Nat)(h:Bk fs g t=true):imp xs ns g fs:=by
  unfold Bk at h
  cases q:isEq (g%16) with
  | true=>rw[q] at h;cases h
  | false=>
    rw[q] at h
    exact Ia xs ns g fs _ _ h λz=>by
      rw[iD];exact Int.mul_nonneg (Int.natCast_nonneg _) (Qq xs ns _ _ _ q z)
end
section
variable(xs:List Int)(ns:List Nat){a b c d e f p q:Nat}(g t:Nat)
theorem L0(h:Bk [] g t=true):den xs ns g:=main xs ns [] g t h
theorem L1(a:Nat)(h:Bk [a] g t=true)(ha:den xs ns a):den xs ns g:=main xs ns [a] g t h ha
theorem L2(a b:Nat)(h:Bk [a,b] g t=true)(ha:den xs ns a)(hb:den xs ns b):den xs ns g:=main xs ns [a,b] g t h ha hb
theorem L3(a b c:Nat)(h:Bk [a,b,c] g t=true)(ha:den xs ns a)(hb:den xs ns b)(hc:den xs ns c):den xs ns g:=main xs ns [a,b,c] g t h ha hb hc
theorem L4(a b c d:Nat)(h:Bk [a,b,c,d] g t=true)(ha:den xs ns a)(hb:den xs ns b)(hc:den xs ns c)(hd:den xs ns d):den xs ns g:=main xs ns [a,b,c,d] g t h ha hb hc hd
theorem L5(a b c d e:Nat)(h:Bk [a,b,c,d,e] g t=true)(ha:den xs ns a)(hb:den xs ns b)(hc:den xs ns c)(hd:den xs ns d)(he:den xs ns e):den xs ns g:=main xs ns [a,b,c,d,e] g t h ha hb hc hd he
theorem k6(a b c d e f:Nat)(h:Bk [a,b,c,d,e,f] g t=true)(ha:den xs ns a)(hb:den xs ns b)(hc:den xs ns c)(hd:den xs ns d)(he:den xs ns e)(hf:den xs ns f):den xs ns g:=main xs ns [a,b,c,d,e,f] g t h ha hb hc hd he hf
end
end
end La
namespace Nz
open PySem PySem.W PySem.Calls PyProof.Rows
open La (L0 L1 L2 L3 L4 L5)
theorem sC(n m:Nat)(h:m≤n):n-m+m=n:=Nat.sub_add_cancel h
theorem sZ(n m:Nat)(h:n≤m):n-m=0:=Nat.sub_eq_zero_of_le h
theorem nA{n m:Nat}(h:n≤m)(k:m≤n):n=m:=Nat.le_antisymm h k
theorem iA{n m:Int}(h:n≤m)(k:m≤n):n=m:=Int.le_antisymm h k
theorem gD{α:Type _}{l:List α}{i:Nat}{a:α}:l.getD i a=l[i]?.getD a:=List.getD_eq_getElem?_getD
theorem gE{α:Type _}{l:List α}{i:Nat}(h:i<l.length):l[i]?=some l[i]:=List.getElem?_eq_getElem h
theorem lA{α:Type _}{a b:List α}:(a++b).length=a.length+b.length:=List.length_append
theorem aA{α:Type _}(a b c:List α):a++b++c=a++(b++c):=List.append_assoc a b c
theorem bI{a b:Bool}(h:(a&&b)=true):a=true∧b=true:=Bool.and_eq_true_iff.mp h
theorem nR(n:Nat):n≤n:=Nat.le_refl n
theorem aN{α:Type _}(l:List α):l++[]=l:=List.append_nil l
theorem lT{α:Type _}{i:Nat}{l:List α}:(l.take i).length=min i l.length:=List.length_take
theorem mM{α:Type _}{β:Type _}{f:α→β}{l:List α}{b:β}(h:b∈l.map f):∃ a,a∈l∧f a=b:=List.mem_map.mp h
theorem oI{α:Type _}{a b:α}(h:some a=some b):a=b:=Option.some.inj h
theorem mA{α:Type _}{a:α}{s t:List α}(h:a∈s++t):a∈s∨a∈t:=List.mem_append.mp h
theorem uA{P Q:Prop}{C:Prop}(k:P→Q→C):(P∧Q)→C:=λh=>k h.1 h.2
theorem bw{A:Sort _}{B:Sort _}{P Q:A→B→Prop}{C:Prop}(k:∀ a b,P a b→Q a b→C):(∃ a b,P a b∧Q a b)→C:=λh=>h.elim λa h1=>h1.elim λb h2=>k a b h2.1 h2.2
theorem uO{A:Sort _}{P:Prop}{Q R S:A→Prop}{C:Prop}(k:P→∀ a,Q a→R a→S a→C):(P∧∃ a,Q a∧R a∧S a)→C:=λh=>h.2.elim λa h1=>k h.1 a h1.1 h1.2.1 h1.2.2
theorem gZ{A:Sort _}{B:Sort _}{P Q R:A→B→Prop}{C:Prop}(k:∀ a b,P a b→Q a b→R a b→C):(∃ a b,P a b∧Q a b∧R a b)→C:=λh=>h.elim λa h1=>h1.elim λb h2=>k a b h2.1 h2.2.1 h2.2.2
theorem HY{A:Sort _}{P:Prop}{Q R:A→Prop}{C:Prop}(k:P→∀ a,Q a→R a→C):(P∧∃ a,Q a∧R a)→C:=λh=>h.2.elim λa h1=>k h.1 a h1.1 h1.2
theorem lO{A:Sort _}{B:Sort _}{P Q R S:A→B→Prop}{C:Prop}(k:∀ a b,P a b→Q a b→R a b→S a b→C):(∃ a b,P a b∧Q a b∧R a b∧S a b)→C:=λh=>h.elim λa h1=>h1.elim λb h2=>k a b h2.1 h2.2.1 h2.2.2.1 h2.2.2.2
theorem gB{A:Sort _}{B:Sort _}{D:Sort _}{P Q R S:A→B→D→Prop}{C:Prop}(k:∀ a b c,P a b c→Q a b c→R a b c→S a b c→C):(∃ a b c,P a b c∧Q a b c∧R a b c∧S a b c)→C:=λh=>h.elim λa h1=>h1.elim λb h2=>h2.elim λc h3=>k a b c h3.1 h3.2.1 h3.2.2.1 h3.2.2.2
theorem zN{A:Sort _}{B:Sort _}{P:Prop}{Q:A→Prop}{R S:A→B→Prop}{C:Prop}(k:P→∀ a,Q a→∀ b,R a b→S a b→C):(P∧∃ a,Q a∧∃ b,R a b∧S a b)→C:=λh=>h.2.elim λa h1=>h1.2.elim λb h2=>k h.1 a h1.1 b h2.1 h2.2
theorem zM{A:Sort _}{B:Sort _}{D:Sort _}{P:A→B→Prop}{Q R:A→B→D→Prop}{C:Prop}(k:∀ a b,P a b→∀ c,Q a b c→R a b c→C):(∃ a b,P a b∧∃ c,Q a b c∧R a b c)→C:=λh=>h.elim λa h1=>h1.elim λb h2=>h2.2.elim λc h3=>k a b h2.1 c h3.1 h3.2
theorem Bw{A:Sort _}{B:Sort _}{D:Sort _}{P Q:A→B→Prop}{R S:A→B→D→Prop}{C:Prop}(k:∀ a b,P a b→Q a b→∀ c,R a b c→S a b c→C):(∃ a b,P a b∧Q a b∧∃ c,R a b c∧S a b c)→C:=λh=>h.elim λa h1=>h1.elim λb h2=>h2.2.2.elim λc h3=>k a b h2.1 h2.2.1 c h3.1 h3.2
theorem uE{A:Sort _}{P:A→Prop}{C:Prop}(k:∀ a,P a→C):(∃ a,P a)→C:=λh=>h.elim λa h1=>k a h1
theorem fV{A:Sort _}{B:Sort _}{D:Sort _}{P Q R:A→B→D→Prop}{C:Prop}(k:∀ a b c,P a b c→Q a b c→R a b c→C):(∃ a b c,P a b c∧Q a b c∧R a b c)→C:=λh=>h.elim λa h1=>h1.elim λb h2=>h2.elim λc h3=>k a b c h3.1 h3.2.1 h3.2.2
theorem BK{A:Sort _}{B:Sort _}{P:Prop}{Q R S T:A→B→Prop}{C:Prop}(k:P→∀ a b,Q a b→R a b→S a b→T a b→C):(P∧∃ a b,Q a b∧R a b∧S a b∧T a b)→C:=λh=>h.2.elim λa h1=>h1.elim λb h2=>k h.1 a b h2.1 h2.2.1 h2.2.2.1 h2.2.2.2
theorem uN{A:Sort _}{B:Sort _}{D:Sort _}{E:Sort _}{P Q:A→B→Prop}{R S T:A→B→D→E→Prop}{C:Prop}(k:∀ a b,P a b→Q a b→∀ c d,R a b c d→S a b c d→T a b c d→C):(∃ a b,P a b∧Q a b∧∃ c d,R a b c d∧S a b c d∧T a b c d)→C:=λh=>h.elim λa h1=>h1.elim λb h2=>h2.2.2.elim λc h3=>h3.elim λd h4=>k a b h2.1 h2.2.1 c d h4.1 h4.2.1 h4.2.2
theorem g8{A:Sort _}{B:Sort _}{D:Sort _}{E:Sort _}{F:Sort _}{G:Sort _}{H:Sort _}{P:Prop}{Q R S:A→B→D→E→F→G→Prop}{T U V W X:A→B→D→E→F→G→H→Prop}{C:Prop}(k:P→∀ a b c d e f,Q a b c d e f→R a b c d e f→S a b c d e f→∀ g,T a b c d e f g→U a b c d e f g→V a b c d e f g→W a b c d e f g→X a b c d e f g→C):(P∧∃ a b c d e f,Q a b c d e f∧R a b c d e f∧S a b c d e f∧∃ g,T a b c d e f g∧U a b c d e f g∧V a b c d e f g∧W a b c d e f g∧X a b c d e f g)→C:=λh=>h.2.elim λa h1=>h1.elim λb h2=>h2.elim λc h3=>h3.elim λd h4=>h4.elim λe h5=>h5.elim λf h6=>h6.2.2.2.elim λg h7=>k h.1 a b c d e f h6.1 h6.2.1 h6.2.2.1 g h7.1 h7.2.1 h7.2.2.1 h7.2.2.2.1 h7.2.2.2.2
theorem gJ{P Q R:Prop}{C:Prop}(k:P→Q→R→C):(P∧Q∧R)→C:=λh=>k h.1 h.2.1 h.2.2
theorem dZ{P Q R S:Prop}{C:Prop}(k:P→Q→R→S→C):(P∧Q∧R∧S)→C:=λh=>k h.1 h.2.1 h.2.2.1 h.2.2.2
theorem Ft{A:Sort _}{P Q:Prop}{R S:A→Prop}{C:Prop}(k:P→Q→∀ a,R a→S a→C):(P∧Q∧∃ a,R a∧S a)→C:=λh=>h.2.2.elim λa h1=>k h.1 h.2.1 a h1.1 h1.2
theorem rC{A:Sort _}{B:Sort _}{D:Sort _}{E:Sort _}{F:Sort _}{G:Sort _}{H:Sort _}{P:Prop}{Q R S:A→B→D→E→F→G→Prop}{T U V W:A→B→D→E→F→G→H→Prop}{C:Prop}(k:P→∀ a b c d e f,Q a b c d e f→R a b c d e f→S a b c d e f→∀ g,T a b c d e f g→U a b c d e f g→V a b c d e f g→W a b c d e f g→C):(P∧∃ a b c d e f,Q a b c d e f∧R a b c d e f∧S a b c d e f∧∃ g,T a b c d e f g∧U a b c d e f g∧V a b c d e f g∧W a b c d e f g)→C:=λh=>h.2.elim λa h1=>h1.elim λb h2=>h2.elim λc h3=>h3.elim λd h4=>h4.elim λe h5=>h5.elim λf h6=>h6.2.2.2.elim λg h7=>k h.1 a b c d e f h6.1 h6.2.1 h6.2.2.1 g h7.1 h7.2.1 h7.2.2.1 h7.2.2.2
theorem aD{A:Sort _}{P Q:A→Prop}{C:Prop}(k:∀ a,P a→Q a→C):(∃ a,P a∧Q a)→C:=λh=>h.elim λa h1=>k a h1.1 h1.2
theorem sU{A:Sort _}{P Q R:A→Prop}{C:Prop}(k:∀ a,P a→Q a→R a→C):(∃ a,P a∧Q a∧R a)→C:=λh=>h.elim λa h1=>k a h1.1 h1.2.1 h1.2.2
theorem Pu{A:Sort _}{B:Sort _}{P:A→B→Prop}{C:Prop}(k:∀ a b,P a b→C):(∃ a b,P a b)→C:=λh=>h.elim λa h1=>h1.elim λb h2=>k a b h2
theorem dO{A:Sort _}{B:Sort _}{D:Sort _}{P:A→B→D→Prop}{C:Prop}(k:∀ a b c,P a b c→C):(∃ a b c,P a b c)→C:=λh=>h.elim λa h1=>h1.elim λb h2=>h2.elim λc h3=>k a b c h3
theorem jD{A:Sort _}{B:Sort _}{D:Sort _}{P Q:A→B→D→Prop}{C:Prop}(k:∀ a b c,P a b c→Q a b c→C):(∃ a b c,P a b c∧Q a b c)→C:=λh=>h.elim λa h1=>h1.elim λb h2=>h2.elim λc h3=>k a b c h3.1 h3.2
theorem Ku{A:Sort _}{B:Sort _}{D:Sort _}{E:Sort _}{P:A→B→D→E→Prop}{C:Prop}(k:∀ a b c d,P a b c d→C):(∃ a b c d,P a b c d)→C:=λh=>h.elim λa h1=>h1.elim λb h2=>h2.elim λc h3=>h3.elim λd h4=>k a b c d h4
theorem mU{A:Sort _}{B:Sort _}{D:Sort _}{E:Sort _}{F:Sort _}{P Q R S T U V W X:A→B→D→E→F→Prop}{C:Prop}(k:∀ a b c d e,P a b c d e→Q a b c d e→R a b c d e→S a b c d e→T a b c d e→U a b c d e→V a b c d e→W a b c d e→X a b c d e→C):(∃ a b c d e,P a b c d e∧Q a b c d e∧R a b c d e∧S a b c d e∧T a b c d e∧U a b c d e∧V a b c d e∧W a b c d e∧X a b c d e)→C:=λh=>h.elim λa h1=>h1.elim λb h2=>h2.elim λc h3=>h3.elim λd h4=>h4.elim λe h5=>k a b c d e h5.1 h5.2.1 h5.2.2.1 h5.2.2.2.1 h5.2.2.2.2.1 h5.2.2.2.2.2.1 h5.2.2.2.2.2.2.1 h5.2.2.2.2.2.2.2.1 h5.2.2.2.2.2.2.2.2
theorem rA{A:Sort _}{B:Sort _}{D:Sort _}{E:Sort _}{F:Sort _}{G:Sort _}{H:Sort _}{P Q R:A→B→D→E→F→G→Prop}{S T U V W:A→B→D→E→F→G→H→Prop}{C:Prop}(k:∀ a b c d e f,P a b c d e f→Q a b c d e f→R a b c d e f→∀ g,S a b c d e f g→T a b c d e f g→U a b c d e f g→V a b c d e f g→W a b c d e f g→C):(∃ a b c d e f,P a b c d e f∧Q a b c d e f∧R a b c d e f∧∃ g,S a b c d e f g∧T a b c d e f g∧U a b c d e f g∧V a b c d e f g∧W a b c d e f g)→C:=λh=>h.elim λa h1=>h1.elim λb h2=>h2.elim λc h3=>h3.elim λd h4=>h4.elim λe h5=>h5.elim λf h6=>h6.2.2.2.elim λg h7=>k a b c d e f h6.1 h6.2.1 h6.2.2.1 g h7.1 h7.2.1 h7.2.2.1 h7.2.2.2.1 h7.2.2.2.2
theorem Fv{P Q R S T:Prop}{C:Prop}(k:P→Q→R→S→T→C):(P∧Q∧R∧S∧T)→C:=λh=>k h.1 h.2.1 h.2.2.1 h.2.2.2.1 h.2.2.2.2
theorem H7{P Q R S T U:Prop}{C:Prop}(k:P→Q→R→S→T→U→C):(P∧Q∧R∧S∧T∧U)→C:=λh=>k h.1 h.2.1 h.2.2.1 h.2.2.2.1 h.2.2.2.2.1 h.2.2.2.2.2
theorem pG{A:Sort _}{P Q R S:A→Prop}{C:Prop}(k:∀ a,P a→Q a→R a→S a→C):(∃ a,P a∧Q a∧R a∧S a)→C:=λh=>h.elim λa h1=>k a h1.1 h1.2.1 h1.2.2.1 h1.2.2.2
theorem BJ{A:Sort _}{P Q R S T U:A→Prop}{C:Prop}(k:∀ a,P a→Q a→R a→S a→T a→U a→C):(∃ a,P a∧Q a∧R a∧S a∧T a∧U a)→C:=λh=>h.elim λa h1=>k a h1.1 h1.2.1 h1.2.2.1 h1.2.2.2.1 h1.2.2.2.2.1 h1.2.2.2.2.2
theorem Bx{A:Sort _}{B:Sort _}{P Q:A→Prop}{R S T U V W:A→B→Prop}{C:Prop}(k:∀ a,P a→Q a→∀ b,R a b→S a b→T a b→U a b→V a b→W a b→C):(∃ a,P a∧Q a∧∃ b,R a b∧S a b∧T a b∧U a b∧V a b∧W a b)→C:=λh=>h.elim λa h1=>h1.2.2.elim λb h2=>k a h1.1 h1.2.1 b h2.1 h2.2.1 h2.2.2.1 h2.2.2.2.1 h2.2.2.2.2.1 h2.2.2.2.2.2
theorem Px{A:Sort _}{B:Sort _}{D:Sort _}{P:A→Prop}{Q R:A→B→D→Prop}{C:Prop}(k:∀ a,P a→∀ b c,Q a b c→R a b c→C):(∃ a,P a∧∃ b c,Q a b c∧R a b c)→C:=λh=>h.elim λa h1=>h1.2.elim λb h2=>h2.elim λc h3=>k a h1.1 b c h3.1 h3.2
theorem jC{A:Sort _}{B:Sort _}{D:Sort _}{E:Sort _}{P Q R:A→B→D→E→Prop}{C:Prop}(k:∀ a b c d,P a b c d→Q a b c d→R a b c d→C):(∃ a b c d,P a b c d∧Q a b c d∧R a b c d)→C:=λh=>h.elim λa h1=>h1.elim λb h2=>h2.elim λc h3=>h3.elim λd h4=>k a b c d h4.1 h4.2.1 h4.2.2
theorem rB{A:Sort _}{B:Sort _}{D:Sort _}{E:Sort _}{P Q R S:A→B→D→E→Prop}{C:Prop}(k:∀ a b c d,P a b c d→Q a b c d→R a b c d→S a b c d→C):(∃ a b c d,P a b c d∧Q a b c d∧R a b c d∧S a b c d)→C:=λh=>h.elim λa h1=>h1.elim λb h2=>h2.elim λc h3=>h3.elim λd h4=>k a b c d h4.1 h4.2.1 h4.2.2.1 h4.2.2.2
theorem Ks{A:Sort _}{B:Sort _}{D:Sort _}{E:Sort _}{F:Sort _}{P Q:A→B→D→E→F→Prop}{C:Prop}(k:∀ a b c d e,P a b c d e→Q a b c d e→C):(∃ a b c d e,P a b c d e∧Q a b c d e)→C:=λh=>h.elim λa h1=>h1.elim λb h2=>h2.elim λc h3=>h3.elim λd h4=>h4.elim λe h5=>k a b c d e h5.1 h5.2
theorem fU{A:Sort _}{B:Sort _}{D:Sort _}{E:Sort _}{F:Sort _}{G:Sort _}{H:Sort _}{P:A→B→D→E→F→G→H→Prop}{C:Prop}(k:∀ a b c d e f g,P a b c d e f g→C):(∃ a b c d e f g,P a b c d e f g)→C:=λh=>h.elim λa h1=>h1.elim λb h2=>h2.elim λc h3=>h3.elim λd h4=>h4.elim λe h5=>h5.elim λf h6=>h6.elim λg h7=>k a b c d e f g h7
theorem xO{A:Sort _}{B:Sort _}{D:Sort _}{E:Sort _}{F:Sort _}{G:Sort _}{H:Sort _}{P Q R S T:A→B→D→E→F→G→H→Prop}{C:Prop}(k:∀ a b c d e f g,P a b c d e f g→Q a b c d e f g→R a b c d e f g→S a b c d e f g→T a b c d e f g→C):(∃ a b c d e f g,P a b c d e f g∧Q a b c d e f g∧R a b c d e f g∧S a b c d e f g∧T a b c d e f g)→C:=λh=>h.elim λa h1=>h1.elim λb h2=>h2.elim λc h3=>h3.elim λd h4=>h4.elim λe h5=>h5.elim λf h6=>h6.elim λg h7=>k a b c d e f g h7.1 h7.2.1 h7.2.2.1 h7.2.2.2.1 h7.2.2.2.2
theorem cY{A:Sort _}{B:Sort _}{D:Sort _}{E:Sort _}{F:Sort _}{G:Sort _}{H:Sort _}{I:Sort _}{J:Sort _}{K:Sort _}{L:Sort _}{M:Sort _}{N:Sort _}{O:Sort _}{P:A→B→D→E→F→G→H→I→J→K→L→M→N→O→Prop}{C:Prop}(k:∀ a b c d e f g i j l m n o p,P a b c d e f g i j l m n o p→C):(∃ a b c d e f g i j l m n o p,P a b c d e f g i j l m n o p)→C:=λh=>h.elim λa h1=>h1.elim λb h2=>h2.elim λc h3=>h3.elim λd h4=>h4.elim λe h5=>h5.elim λf h6=>h6.elim λg h7=>h7.elim λi h8=>h8.elim λj h9=>h9.elim λl h10=>h10.elim λm h11=>h11.elim λn h12=>h12.elim λo h13=>h13.elim λp h14=>k a b c d e f g i j l m n o p h14
theorem Py{A:Sort _}{P Q R S T:A→Prop}{C:Prop}(k:∀ a,P a→Q a→R a→S a→T a→C):(∃ a,P a∧Q a∧R a∧S a∧T a)→C:=λh=>h.elim λa h1=>k a h1.1 h1.2.1 h1.2.2.1 h1.2.2.2.1 h1.2.2.2.2
theorem Fq{A:Sort _}{B:Sort _}{D:Sort _}{E:Sort _}{P Q:A→B→Prop}{R:A→B→D→Prop}{S T:A→B→D→E→Prop}{C:Prop}(k:∀ a b,P a b→Q a b→∀ c,R a b c→∀ d,S a b c d→T a b c d→C):(∃ a b,P a b∧Q a b∧∃ c,R a b c∧∃ d,S a b c d∧T a b c d)→C:=λh=>h.elim λa h1=>h1.elim λb h2=>h2.2.2.elim λc h3=>h3.2.elim λd h4=>k a b h2.1 h2.2.1 c h3.1 d h4.1 h4.2
theorem Bv{A:Sort _}{B:Sort _}{D:Sort _}{E:Sort _}{F:Sort _}{P Q:A→B→Prop}{R:A→B→D→Prop}{S T:A→B→D→E→F→Prop}{C:Prop}(k:∀ a b,P a b→Q a b→∀ c,R a b c→∀ d e,S a b c d e→T a b c d e→C):(∃ a b,P a b∧Q a b∧∃ c,R a b c∧∃ d e,S a b c d e∧T a b c d e)→C:=λh=>h.elim λa h1=>h1.elim λb h2=>h2.2.2.elim λc h3=>h3.2.elim λd h4=>h4.elim λe h5=>k a b h2.1 h2.2.1 c h3.1 d e h5.1 h5.2
theorem Fp{A:Sort _}{B:Sort _}{D:Sort _}{E:Sort _}{F:Sort _}{P Q R S:A→B→D→E→F→Prop}{C:Prop}(k:∀ a b c d e,P a b c d e→Q a b c d e→R a b c d e→S a b c d e→C):(∃ a b c d e,P a b c d e∧Q a b c d e∧R a b c d e∧S a b c d e)→C:=λh=>h.elim λa h1=>h1.elim λb h2=>h2.elim λc h3=>h3.elim λd h4=>h4.elim λe h5=>k a b c d e h5.1 h5.2.1 h5.2.2.1 h5.2.2.2
theorem Ja{A:Sort _}{B:Sort _}{D:Sort _}{P Q R S T:A→B→D→Prop}{C:Prop}(k:∀ a b c,P a b c→Q a b c→R a b c→S a b c→T a b c→C):(∃ a b c,P a b c∧Q a b c∧R a b c∧S a b c∧T a b c)→C:=λh=>h.elim λa h1=>h1.elim λb h2=>h2.elim λc h3=>k a b c h3.1 h3.2.1 h3.2.2.1 h3.2.2.2.1 h3.2.2.2.2
theorem nsA{α:Type _}{a:α}{C:Prop}(h:none=some a):C:=nomatch h
theorem jN{C:Prop}(h:false=true):C:=nomatch h
theorem j5{c:Prop}[Decidable c]{A B R:Prop}(k:c→A→R)(e:B→R)(h:if c then A else B):R:=by
 by_cases q:c
 ·rw[if_pos q] at h;exact k q h
 ·rw[if_neg q] at h;exact e h
theorem Y4{a0:Nat}(h0:(a0%2)=0):((a0+1)%2)=1:=by rw[Nat.add_mod,h0]
theorem Y0{a0:Nat}(h0:(a0%2)=1):((a0+1)%2)=0:=by rw[Nat.add_mod,h0]
theorem om2{a0:Nat}(h0:¬(a0=0)):¬(((a0:Nat):Int)=0):=by exact λq=>Or.elim (Nat.lt_or_gt_of_ne h0) (λz2=>L2 [] [_] 10 8256 11378 182 rfl q z2) (λz2=>L2 [] [_] 10 8320 11378 720902 rfl q z2)
theorem om3{a0:Nat}{a1:Int}(h0:a1≤1000)(h1:(((a0:Nat):Int)*a1)≤(64*a1)):(((a0:Nat):Int)*a1)≤(2^27):=Int.le_trans h1 (Int.le_trans (Int.mul_le_mul_of_nonneg_left h0 (by decide)) (by decide))
theorem om4{a0:Int}(h0:0<a0)(h1:a0<(2^32)):(Int.natAbs a0)<(2^64):=Int.ofNat_lt.mp (by rw[Int.natAbs_of_nonneg (Int.le_of_lt h0)];exact Int.lt_trans h1 (by decide))
theorem om5{a0 a1:Int}(h0:0≤a0)(h1:0≤a1):(-(2^60))≤((a0+(40123*(a1+1)))+29):=by show(-1152921504606846976:Int)≤_;omega
theorem om6{a0 a1:Int}(h0:a0<2147483648)(h1:a1≤100000):((a0+(40123*(a1+1)))+29)≤(2^60):=by show _≤(1152921504606846976:Int);omega
theorem om7{a0 a1:Int}(h0:0≤a1)(h1:0≤a0):(-(2^60))≤(a0+(92959*(a1+1))):=by show(-1152921504606846976:Int)≤_;omega
theorem om8{a0 a1:Int}(h0:a1≤100000)(h1:a0<2147483647):(a0+(92959*(a1+1)))≤(2^60):=by show _≤(1152921504606846976:Int);omega
theorem om9{a0 a1 a2:Nat}(h0:a2<a1)(h1:a0<a2):a0<a1:=L2 [] [_,_,_] 12470 8321 12502 13494 rfl h0 h1
theorem SM{a0 a1 a2:Nat}(h0:(a0+(32*a2))<9000)(h1:a1=9900):(a0+64)<a1:=L2 [] [_,_,_] 928455029464035206442855462 4225 9895625454070822 648807623 rfl h0 h1
theorem SJ{a0 a1 a2 a3:Nat}(h0:((a0+(4*(a2+1)))<900)∧((a3+(32*(a2+1)))<9000))(h1:a1=1000):a0<a1:=L2 [] [_,_,_] 12470 4225 259411912728804404262 65537223 rfl h0.1 h1
theorem YZ:(0+1)≤(16777216+1):=L0 [] [] 70368748438533 1 rfl
theorem YX{a0 a1 a2 a3:Nat}(h0:((a0+(4*a3))<900)∧((a2+(32*a3))<9000))(h1:a1≤a3):((a0+(4*a1))<900)∧((a2+(32*a1))<9000):=⟨Nat.lt_of_le_of_lt (Nat.add_le_add_left (Nat.mul_le_mul_left 4 h1) a0) h0.1,Nat.lt_of_le_of_lt (Nat.add_le_add_left (Nat.mul_le_mul_left 32 h1) a2) h0.2⟩
theorem YW{a0 a1 a2:Nat}(h0:((a0+(4*(a1+1)))<900)∧((a2+(32*(a1+1)))<9000)):(((a0+1)+(4*a1))<900)∧(((a2+3)+(32*a1))<9000):=by exact⟨L1 [] [_,_] 259412691045313087526 129 259411912711624535078 rfl h0.1,L1 [] [_,_] 2594078768661040662566 129 2594077959540607101990 rfl h0.2⟩
theorem YT{a0 a1:Int}(h0:a0<a1):(max a0 a1)=a1:=iA (L1 [_,_] [] 12464 129 12466 rfl (Int.max_eq_right (a:=a0) (b:=a1) (L1 [_,_] [] 12464 129 12465 rfl h0))) (L1 [_,_] [] 12464 65 11458 rfl (Int.max_eq_right (a:=a0) (b:=a1) (L1 [_,_] [] 12464 129 12465 rfl h0)))
theorem YS{a0 a1:Int}(h0:¬(a0<a1)):(max a0 a1)=a0:=iA (L1 [_,_] [] 12464 129 12466 rfl (Int.max_eq_left (a:=a0) (b:=a1) (L1 [_,_] [] 12464 129 11460 rfl h0))) (L1 [_,_] [] 12464 65 11458 rfl (Int.max_eq_left (a:=a0) (b:=a1) (L1 [_,_] [] 12464 129 11460 rfl h0)))
theorem YQ{a0 a1:Int}(h0:a1<a0):(min a0 a1)=a1:=iA (L1 [_,_] [] 12464 129 12466 rfl (Int.min_eq_right (a:=a0) (b:=a1) (L1 [_,_] [] 12464 129 12465 rfl h0))) (L1 [_,_] [] 12464 65 11458 rfl (Int.min_eq_right (a:=a0) (b:=a1) (L1 [_,_] [] 12464 129 12465 rfl h0)))
theorem YM{a0 a1:Int}(h0:¬(a1<a0)):(min a0 a1)=a0:=iA (L1 [_,_] [] 12464 129 12466 rfl (Int.min_eq_left (a:=a0) (b:=a1) (L1 [_,_] [] 12464 129 11460 rfl h0))) (L1 [_,_] [] 12464 65 11458 rfl (Int.min_eq_left (a:=a0) (b:=a1) (L1 [_,_] [] 12464 129 11460 rfl h0)))
theorem YL{a0:Int}(h0:a0<0):(((Int.natAbs a0):Nat):Int)=(-a0):=Int.ofNat_natAbs_of_nonpos (Int.le_of_lt h0)
theorem YK{a0:Int}(h0:¬(a0<0)):(((Int.natAbs a0):Nat):Int)=a0:=Int.natAbs_of_nonneg (Int.not_lt.mp h0)
theorem Sy{a0 a1:Nat}(h0:a1≤a0):¬(a0<a1):=L1 [] [_,_] 12473 129 11461 rfl h0
theorem YJ{a0:Int}(h0:0≤a0)(h1:a0<256):(¬(a0<0))∧(¬(256≤a0)):=by exact⟨L1 [_] [] 180 129 720896 rfl h0,L1 [_] [] 207784125246264389664787 129 16778417 rfl h1⟩
theorem YH{a0:Int}(h0:a0<256):((Int.toNat a0)%256)=(Int.toNat a0):=by
 rcases Int.le_total 0 a0 with p|p
 ·exact Nat.mod_eq_of_lt ((Int.toNat_lt p).mpr h0)
 ·rw[Int.toNat_eq_zero.mpr p]
theorem YG{a0:Int}(h0:(0≤a0)∧(a0<256)):((Int.toNat a0)%256)=(Int.toNat a0):=Nat.mod_eq_of_lt ((Int.toNat_lt h0.1).mpr h0.2)
theorem YF{a1 a2:Nat}{a0:Int}(h0:(-((a2:Nat):Int))≤a0)(h1:a0<0)(h2:a1=a2):(Int.toNat (a0+((a1:Nat):Int)))<a1:=by subst h2;exact(Int.toNat_lt (by exact L1 [_] [_] 190903877632 129 46865472 rfl h0)).mpr (by exact L1 [_] [_] 190904216609 129 177 rfl h1)
theorem YD{a0:Nat}:(Int.toNat ((((((a0:Nat):Int)-1)-(-1))-(-1))-1))=a0:=by rw[show((a0:Int)-1 - -1 - -1-1)=(a0:Int) by exact iA (L0 [] [_] 901319388643343780318972542651440 1 rfl) (L0 [] [_] 81149464873680301328644624821360 1 rfl),Int.toNat_natCast]
theorem YC{a0 a1:Nat}:(Int.toNat ((((a0:Nat):Int)-1)+((-1)*((a1:Nat):Int))))=((a0-1)-a1):=by rw[show((a0:Int)-1 + -1*(a1:Int))=(a0:Int)-((1+a1:Nat):Int) by omega,Int.toNat_sub,Nat.sub_sub]
theorem YB{a0:Nat}(h0:8≤a0):(8+(8*((a0-8)/8)))=(8*(a0/8)):=by obtain⟨k,rfl⟩:=Nat.exists_eq_add_of_le h0;rw[Nat.add_sub_cancel_left,Nat.add_div_left _ (by decide),Nat.mul_succ,Nat.add_comm]
theorem Yz{a0:Nat}(h0:(a0%8)=0):((a0-8)%8)=0:=by
 rcases Nat.le_total 8 a0 with q|q
 ·exact(Nat.mod_eq_sub_mod q).symm.trans h0
 ·rw[Nat.sub_eq_zero_of_le q]
theorem Yy{a0:Nat}(h0:(a0%8)=0)(h1:¬(8≤a0)):a0=0:=(Nat.mod_eq_of_lt (Nat.lt_of_not_le h1)).symm.trans h0
theorem Lj{a0:Nat}:((min (8*(a0/8)) a0)%8)=0:=by rw[Nat.min_eq_left (Nat.mul_div_le a0 8),Nat.mul_mod_right]
theorem Yx{a0:Nat}:(a0-(8*(a0/8)))<8:=by rw[←Nat.mod_def];exact Nat.mod_lt a0 (by decide)
theorem Yw{a0 a1 a2:Nat}(h0:(8*a1)=((a0+1)+a2)):a0<(8*a1):=L1 [] [_,_,_] 50861238 65 58617353424609367 rfl h0
theorem Yv{a0 a1 a2:Nat}(h0:(a0+a1)=((a2+0)*(2^0)))(h1:32≤a1)(h2:a2=(Int.toNat 1)):False:=L4 [] [_,_,_,_] 10 34087040 14328305298471 819205 14551 4208754 rfl h0 h1 h2 (Int.toNat_of_nonneg (a:=1) (L0 [] [] 4194304 1 rfl))
theorem Yu{a0 a1 a2 a3:Nat}{a4:Int}(h0:a0<a1)(h1:a2≤a1)(h2:(a3+a1)=((a2+0)*(2^0)))(h3:¬(a4=((a1:Nat):Int)))(h4:a2=(Int.toNat a4)):False:=by
 rw[Nat.pow_zero,Nat.mul_one] at h2
 rcases Int.le_total 0 a4 with p|p
 ·refine h3 ?_;have:=Int.toNat_of_nonneg p;exact iA (L3 [_] [_,_,_] 728240 266369 11461 13511 734322 rfl h1 h4 (Int.toNat_of_nonneg (a:=a4) (L2 [_] [_,_] 720896 8321 12471 733298 rfl h4 this))) (L3 [_] [_,_,_,_] 732272 532609 3498782759 14551 735346 rfl h2 h4 (Int.toNat_of_nonneg (a:=a4) (L2 [_] [_,_] 720896 8321 12471 733298 rfl h4 this)))
 ·rw[Int.toNat_eq_zero.mpr p] at h4;exact L3 [] [_,_,_,_] 10 532608 12470 3767284775 231 rfl h0 h2 h4
theorem Yt{a0 a1 a2:Nat}(h0:a0≤(6*a2))(h1:a1≤6):(a0+a1)≤(6*(a2+1)):=by rw[Nat.mul_add];exact Nat.add_le_add h0 h1
theorem Ys{a0 a1 a2:Nat}(h0:a0<(a1+a2))(h1:a1≤a0):(a0-a1)<a2:=L2 [] [_,_,_,_] 12470 8321 51251414 55454759 rfl h0 (sC a0 a1 (L1 [] [_,_] 12469 129 12469 rfl h1))
theorem Yr{a0 a1:Nat}:¬((a0+a1)<a1):=L0 [] [_,_] 51129385 1 rfl
theorem Yq{a0 a1:Nat}(h0:a0≤a1):(a0+(a1-a0))=a1:=nA (L1 [] [_,_,_] 55323685 129 55259175 rfl (sC a1 a0 (L1 [] [_,_] 12469 129 12469 rfl h0))) (L1 [] [_,_,_] 55314613 65 46937127 rfl (sC a1 a0 (L1 [] [_,_] 12469 129 12469 rfl h0)))
theorem Yp{a0 a1:Nat}(h0:((a0+1)+1)≤(a1+1)):(a0+1)≤a1:=L1 [] [_,_] 3225431077 129 18500929106507139109 rfl h0
theorem Sx{a0 a1:Nat}:a0≤(a0+a1):=L0 [] [_,_] 51054773 1 rfl
theorem Yo{a0:Nat}(h0:2≤a0):a0=((a0-2)+2):=nA (L1 [] [_,_] 537659573 65 2961190951 rfl (sC a0 2 (L1 [] [_] 722949 129 722949 rfl h0))) (L1 [] [_,_] 3229625381 129 3229625383 rfl (sC a0 2 (L1 [] [_] 722949 129 722949 rfl h0)))
theorem Yn{a0 a1:Nat}(h0:a0=(a1+2)):(a0-2)=a1:=nA (L2 [] [_,_,_] 12469 8321 537659607 3498060839 rfl h0 (sC a0 2 (L1 [] [_,_] 722949 65 537659575 rfl h0))) (L2 [] [_,_,_] 12469 4161 537594071 3498061863 rfl h0 (sC a0 2 (L1 [] [_,_] 722949 65 537659575 rfl h0)))
theorem Ym{a0 a1:Nat}(h0:a0=(a1+2)):(a0-1)=(a1+1):=nA (L2 [] [_,_,_] 269224117 8321 537659607 3493866535 rfl h0 (sC a0 1 (L1 [] [_,_] 721925 65 537659575 rfl h0))) (L2 [] [_,_,_] 3225431077 4161 537594071 3493867559 rfl h0 (sC a0 1 (L1 [] [_,_] 721925 65 537659575 rfl h0)))
theorem Yl{a0 a1:Nat}(h0:a1=(a0+2)):a0<a1:=L1 [] [_,_] 12470 65 537594055 rfl h0
theorem Yk{a0 a1:Nat}(h0:a1=(a0+2)):(a0+1)<a1:=L1 [] [_,_] 3225431078 65 537594055 rfl h0
theorem Yj{a0 a1:Nat}(h0:a0=(a1+2)):a0≤((a1+1)+1):=L1 [] [_,_] 70385974511797 129 537659575 rfl h0
theorem Sw{a0:Nat}(h0:2≤a0):(a0-1)<a0:=L1 [] [_,_] 12470 129 3225431079 rfl (sC a0 1 (L1 [] [_] 721925 129 722949 rfl h0))
theorem Sv{a0:Nat}(h0:2≤a0):(a0-2)<a0:=L1 [] [_,_] 12470 129 3229625383 rfl (sC a0 2 (L1 [] [_] 722949 129 722949 rfl h0))
theorem Yi{a0:Nat}(h0:a0=5):a0≤6:=L1 [] [_] 393397 129 327863 rfl h0
theorem Yh{a0:Nat}(h0:a0=6):a0≤6:=L1 [] [_] 393397 129 393399 rfl h0
theorem Yg{a0 a1 a2:Nat}(h0:2≤a2)(h1:a0≤(6*(min (a2-2) a2)))(h2:a1≤6):((a0+a1)+a1)≤(6*a2):=L4 [] [_,_,_,_,_] 921479915702309 204488833 59118773 393413 15589 3498064935 rfl h1 h2 (Nat.min_le_left (a2-2) a2) (sC a2 2 (L1 [] [_] 722949 129 722949 rfl h0))
theorem Ye{a0:Nat}:(min (a0-2) a0)=(a0-2):=Nat.min_eq_left (Nat.sub_le _ _)
theorem Yd{a0 a1 a2:Nat}(h0:2≤a2)(h1:a2≤a1)(h2:a0=(a2-2)):(a0+1)≤(a1-1):=by obtain⟨k,rfl⟩:=Nat.exists_eq_add_of_le h0;rw[h2,Nat.add_sub_cancel_left];exact Nat.le_sub_of_add_le (by exact L1 [] [_,_] 845524710918181 129 3267493925 rfl h1)
theorem Yc{a0 a1:Nat}:(a0+a1)≤((a0+a1)+a1):=L0 [] [_,_] 857808594283557 1 rfl
theorem Yb{a0 a1:Nat}:¬(((a0+a1)+a1)<(2*a1)):=L0 [] [_,_] 846713125013545 1 rfl
theorem X8{a0 a1:Nat}:(((a0+a1)+a1)-(2*a1))=a0:=by rw[Nat.add_assoc,←Nat.two_mul,Nat.add_sub_cancel]
theorem X7{a0:Int}(h0:(-1)≤a0)(h1:¬(a0=(-1))):((((Int.toNat a0)+0):Nat):Int)=a0:=Int.toNat_of_nonneg (Int.lt_iff_le_and_ne.mpr ⟨h0,λe=>h1 e.symm⟩)
theorem X6{a0 a1 a2 a3:Nat}(h0:a3=(a0-a1)):((a0-1)-(a1+a2))=((a3-1)-a2):=by rw[h0,Nat.sub_sub,Nat.sub_sub,Nat.sub_sub,Nat.add_left_comm]
theorem X5:0<(Int.toNat 1):=by decide
theorem X4{a0:Int}(h0:(-1)≤a0)(h1:¬(a0=0))(h2:¬(a0=(-1))):0<(Int.toNat a0):=Int.lt_toNat.mpr (Int.lt_iff_le_and_ne.mpr ⟨Int.lt_iff_le_and_ne.mpr ⟨h0,λe=>h2 e.symm⟩,λe=>h1 e.symm⟩)
theorem X3{a0:Int}(h0:0≤a0):0≤(1+a0):=L1 [_] [] 189247127552 129 720896 rfl h0
theorem XS{a0 a1:Int}(h0:(-1)≤a0)(h1:0≤a1)(h2:¬(a0=(-1))):0≤(a0+a1):=Int.add_nonneg (Int.lt_iff_le_and_ne.mpr ⟨h0,λe=>h2 e.symm⟩) h1
theorem XQ:(0:Int)<(1:Int):=L0 [] [] 4194305 1 rfl
theorem XM{a0:Int}(h0:(-1)≤a0)(h1:¬(a0=0))(h2:¬(a0=(-1))):0<a0:=Int.lt_iff_le_and_ne.mpr ⟨Int.lt_iff_le_and_ne.mpr ⟨h0,λe=>h2 e.symm⟩,λe=>h1 e.symm⟩
theorem XK{a0 a1:Nat}(h0:a0<a1):(a0+1)≤a1:=L1 [] [_,_] 3225431077 129 12470 rfl h0
theorem XJ:1=(((Int.toNat 1):Nat):Int):=rfl
theorem XH{a1 a2 a3:Nat}{a0:Int}(h0:a1<a2)(h1:a1<a3)(h2:(-1)≤a0)(h3:¬(a0=(-1))):a0=(((Int.toNat a0):Nat):Int):=(Int.toNat_of_nonneg (Int.lt_iff_le_and_ne.mpr ⟨h2,λe=>h3 e.symm⟩)).symm
theorem XF{a0 a1 a2:Nat}(h0:a1<8)(h1:a0=((8*(a2-1))+a1)):(a0%8)=a1:=by rw[h1,Nat.mul_add_mod,Nat.mod_eq_of_lt h0]
theorem XD{a0 a1 a2 a3:Nat}(h0:a2=((8*(a3-1))+a0))(h1:a2<a1)(h2:a1<(8*a3)):(a0+1)≤(a1%8):=by
  cases a3 with
  | zero=>exact absurd h2 (Nat.not_lt_zero _)
  | succ k=>
    rw[Nat.add_sub_cancel] at h0
    obtain⟨c,rfl⟩:=Nat.exists_eq_add_of_le (show 8*k≤a1 by exact L2 [] [_,_,_,_] 51060821 4225 12502 243504842967 rfl h1 h0)
    rw[Nat.mul_add_mod,Nat.mod_eq_of_lt (by exact L1 [] [_,_] 524470 129 18500936891722372134 rfl h2)];exact id (L2 [] [_,_,_,_] 3225431077 8257 192770541783 209950410966 rfl h0 h1)
theorem XC{a0 a1 a2:Nat}(h0:a0=(8*a1))(h1:a2<(8*a1)):((a0-1)-(((8*a1)-1)-a2))=a2:=by rw[h0];exact Nat.sub_sub_self (Nat.le_sub_one_of_lt h1)
theorem Xz{a0 a1 a2 a3:Nat}(h0:a1=(8*a3))(h1:a2<(((8*a3)-1)-a0)):a0<((a1-1)-a2):=by rw[h0];exact Nat.lt_sub_of_add_lt (by rw[Nat.add_comm];exact Nat.add_lt_of_lt_sub h1)
theorem Xy{a0 a1 a2:Nat}(h0:a0=(8*a1))(h1:a2<(8*a1)):(a0-((((8*a1)-1)-a2)+1))=a2:=by rw[h0,Nat.sub_right_comm,Nat.sub_add_cancel (Nat.sub_pos_of_lt h1),Nat.sub_sub_self (Nat.le_of_lt h1)]
theorem Xx{a0:Nat}:(a0%2)=(((a0+1)+1)%2):=(Nat.add_mod_right a0 2).symm
theorem Xw{a0 a1 a2:Nat}(h0:a2=(a1+2))(h1:a0=a2):(((((a0:Nat):Int)-1)-2)+1)=((a1:Nat):Int):=by subst h1 h0;exact iA (L0 [] [_] 220048680047726415118025821216 1 rfl) (L0 [] [_] 19816713216291859277784689776 1 rfl)
theorem Xv{a0:Nat}(h0:(((a0+1)+a0)%2)=0):False:=by rw[show a0+1+a0=1+2*a0 by exact nA (L0 [] [_] 13024846973907600345125 1 rfl) (L0 [] [_] 13005004254687183044645 1 rfl),Nat.add_mul_mod_self_left] at h0;exact absurd h0 (by decide)
theorem Xu{a0 a1:Nat}(h0:a1<a0):(((a0-1)-a1)%2)=(((a0+1)+a1)%2):=by obtain⟨k,rfl⟩:=Nat.exists_eq_add_of_lt h0;rw[Nat.add_sub_cancel,Nat.add_sub_cancel_left,show a1+k+1+1+a1=k+2*(a1+1) by exact nA (L0 [] [_,_] 5206281273276390069536649304475685 1 rfl) (L0 [] [_,_] 62388711801974995880168908157955109 1 rfl),Nat.add_mul_mod_self_left]
theorem Xr{a0 a1 a2 a3:Nat}(h0:a2=(a1+2))(h1:a0=a2)(h2:a3<a1):((((a0:Nat):Int)-1)-2)=(((a1-1):Nat):Int):=by
 subst h1 h0
 cases a1 with
 | zero=>exact absurd h2 (Nat.not_lt_zero _)
 | succ k=>show _=((k:Nat):Int);exact id (iA (L0 [] [_] 220053514570701412924700167216 1 rfl) (L0 [] [_] 39618919321882875415905905776 1 rfl))
theorem Xq{a0:Nat}:0≤((a0:Nat):Int):=L0 [] [_] 46596096 1 rfl
theorem Xp{a0:Nat}(h0:(a0=5)∨(a0=6)):((a0:Nat):Int)≤1000000:=by rcases h0 with rfl|rfl<;>decide
theorem Xo{a0 a1:Nat}(h0:a1≤64)(h1:(1≤a0)∧(a0<(2*a1))):(Int.natAbs ((a0:Nat):Int))<(2^64):=by rw[Int.natAbs_natCast];exact Nat.lt_of_lt_of_le h1.2 (Nat.le_trans (Nat.mul_le_mul_left 2 h0) (by decide))
theorem Xn{a0:Nat}:((((((a0:Nat):Int)-0)-1)/8)+1)=((((a0+7)/8):Nat):Int):=by rw[Int.natCast_ediv,show(((a0+7:Nat)):Int)=((a0:Int)-0-1)+1*8 by exact iA (L0 [] [_] 158461160735009407479854073968 1 rfl) (L0 [] [_] 138702636663472887515201080352 1 rfl)];exact(Int.add_mul_ediv_right _ _ (by decide)).symm
theorem Xm{a0:Nat}(h0:¬(0<((a0:Nat):Int))):0=((((a0+7)/8):Nat):Int):=by
 obtain rfl:a0=0:=nA (L1 [] [_] 181 129 46596100 rfl h0) (L0 [] [_] 720901 1 rfl)
 rfl
theorem Xl{a0:Nat}(h0:a0<8):(7+(((a0:Nat):Int)*(-1)))=(((7-a0):Nat):Int):=by rw[Int.ofNat_sub (Nat.le_of_lt_succ h0)];omega
theorem Ss{a0 a1:Nat}(h0:((a0+a1)%2)=0):((a0-a1)%2)=0:=by
 rcases Nat.le_total a1 a0 with q|q
 ·obtain⟨k,rfl⟩:=Nat.exists_eq_add_of_le q;rw[show a1+k+a1=k+2*a1 by exact nA (L0 [] [_,_] 3179906412147574821 1 rfl) (L0 [] [_,_] 3509150771264695333 1 rfl),Nat.add_mul_mod_self_left] at h0;rw[Nat.add_sub_cancel_left];exact h0
 ·rw[Nat.sub_eq_zero_of_le q]
theorem Sq{a0 a1:Nat}(h0:a1≤a0)(h1:((a0+a1)%2)=1):((a0-a1)%2)=1:=by
 obtain⟨k,rfl⟩:=Nat.exists_eq_add_of_le h0;rw[show a1+k+a1=k+2*a1 by exact nA (L0 [] [_,_] 3179906412147574821 1 rfl) (L0 [] [_,_] 3509150771264695333 1 rfl),Nat.add_mul_mod_self_left] at h1;rw[Nat.add_sub_cancel_left];exact h1
theorem Xk{a0 a1:Nat}(h0:((a0+a1)%2)=0):((a0+(a1+1))%2)=1:=Y4 (a0:=a0+a1) h0
theorem Xj{a0 a1:Nat}(h0:((a0+a1)%2)=1):((a0+(a1+1))%2)=0:=Y0 (a0:=a0+a1) h0
theorem Xi{a0 a1 a2:Nat}(h0:a2=(a1+2))(h1:a0=a2):((((a0:Nat):Int)-1)+1)=(((a1+2):Nat):Int):=by subst h1 h0;exact iA (L0 [] [_] 39667433391515259206306827296 1 rfl) (L0 [] [_] 19811878696207821601472448624 1 rfl)
theorem Xh{a0:Nat}(h0:(((a0+1)+(a0+2))%2)=0):False:=by rw[show a0+1+(a0+2)=1+2*(a0+1) by exact nA (L0 [] [_] 81348144881917603961711941584933 1 rfl) (L0 [] [_] 162477778094874493761134824325157 1 rfl),Nat.add_mul_mod_self_left] at h0;exact absurd h0 (by decide)
theorem Xg{a0 a1 a2:Nat}(h0:a2=(a1+2))(h1:a0=a2):(((a0:Nat):Int)-1)=(((a1+1):Nat):Int):=by subst h1 h0;exact iA (L0 [] [_] 75761385967077973695536 1 rfl) (L0 [] [_] 75594806902143522113648 1 rfl)
theorem Xf{a0 a1:Nat}(h0:a1≤1000)(h1:a0≤a1):a0≤1000000:=L2 [] [_,_] 65536001205 8321 65537221 12469 rfl h0 h1
theorem Xe{a0 a1:Nat}(h0:a1≤1000)(h1:a0≤(a1+1)):a0≤1000000:=L2 [] [_,_] 65536001205 8321 65537221 269224117 rfl h0 h1
theorem Xd{a0:Nat}(h0:a0≤90000):(a0+a0)≤1000000:=L1 [] [_] 268435460926501 257 5898241205 rfl h0
theorem Xc{a1:Nat}{a0 a2:Int}(h0:0≤a2)(h1:(a2+a0)=((a1:Nat):Int)):a0≤((a1:Nat):Int):=L2 [_,_] [_] 728240 8321 786432 2982883362 rfl h0 h1
theorem Xb{a0 a1 a2:Nat}(h0:(a1+1)≤a0)(h1:¬(((a0-1)-a2)=a1)):¬(((((a0-1)-a1):Nat):Int)=((a2:Nat):Int)):=λq=>h1 (by rw[←Int.ofNat_inj.mp q];exact Nat.sub_sub_self (Nat.le_sub_of_add_le h0))
theorem Sg{a0 a1:Nat}(h0:¬(a0=a1)):¬(((a0:Nat):Int)=((a1:Nat):Int)):=mt Int.ofNat_inj.mp h0
theorem Xa{a0 a2 a3:Nat}{a1:Int}(h0:(a2=32)∨(a2=64))(h1:a3≤a2)(h2:(a0+(Int.toNat a1))≤a3):(a0+(Int.toNat a1))≤1000000:=Nat.le_trans h2 (Nat.le_trans h1 (by rcases h0 with rfl|rfl<;>decide))
theorem Uk{a0:Nat}:(((Int.toNat (2+((a0:Nat):Int))):Nat):Int)=(((2+a0):Nat):Int):=(Int.toNat_of_nonneg (by exact L0 [] [_] 12215423991808 1 rfl)).trans (Int.natCast_add 2 a0).symm
theorem Uj{a0 a1 a2:Nat}(h0:a1≤12)(h1:a2≤(6*a1))(h2:((8*a0)<((a2+1)+8))∧((a2+1)≤(8*a0))):a0≤100000:=L3 [] [_,_,_] 6553601205 533256 786629 50730197 2305913601842159702 rfl h0 h1 h2.1
theorem Ui{a0:Nat}(h0:a0<2):(a0=0)∨(a0=1):=Nat.le_one_iff_eq_zero_or_eq_one.mp (Nat.le_of_lt_succ h0)
theorem Uh{a0 a1:Nat}(h0:a0≤a1):a0<(a1+1):=L1 [] [_,_] 269224118 129 12469 rfl h0
theorem Ug{a0 a1:Nat}(h0:¬(((a0:Nat):Int)<((a1:Nat):Int))):¬(a0<a1):=L1 [] [_,_] 12473 129 50801780 rfl h0
theorem Ue{a0 a1:Nat}(h0:a0<a1):a0<(2*a1):=L1 [] [_,_] 50468022 129 12470 rfl h0
theorem Ud{a0 a1:Nat}(h0:(a0-a1)<a1):a0<(2*a1):=L2 [] [_,_,_] 50468022 8321 12502 51185845 rfl h0 (Nat.le_add_of_sub_le (nR (a0-a1)))
theorem Uc{a0 a1 a2:Nat}(h0:a0<a1)(h1:a1≤64)(h2:(2*a2)≤((a0+a1)/(2^6)))(h3:0<a2):False:=by have:(a0+a1)/2^6<2:=Nat.div_lt_of_lt_mul (show a0+a1<64*2 by exact L2 [] [_,_] 34364730406 16513 12470 4195525 rfl h0 h1);exact id (L3 [] [_,_] 10 540800 51054677 720902 131270 rfl h2 h3 this)
noncomputable def isDec:Code→Bool
 | .builtin id _=>Builtin.Bytes.decodersThatHold.contains id
 | _=>false
noncomputable def oh(Γ:Ctx):Prop:=∀ q∈Γ.below,isDec q.1=false
noncomputable def bH{α:Type}(b:Bool)(M:Model)(A:Around)(t:Sem α)(Q:α→Shared→Prop)(E:Value→Shared→Prop)(s:Shared):Prop:=
 ∀ Γ p,Γ.In A→(b=true→oh Γ∧isDec Γ.code=false)→Sem.wp M Γ t (λa _ s'=>Q a s') (λe _ s'=>E e s') p s
noncomputable def bV(b:Bool)(M:Model)(A:Around)(c:Code)(R:Result→Shared→Prop)(s:Shared):Prop:=
 ∀ Γ p,Γ.code=c→Γ.Below A→(b=true→oh Γ)→wpCode M Γ R p s
section
variable{α β:Type}{b:Bool}{M:Model}{A:Around}{E:Value→Shared→Prop}{s:Shared}
theorem bH.of{t:Sem α}{Q:α→Shared→Prop}(h:wpAny M A t Q E s):bH b M A t Q E s:=λΓ p hΓ _=>h Γ p hΓ
theorem bH.any{t:Sem α}{Q:α→Shared→Prop}(h:bH false M A t Q E s):wpAny M A t Q E s:=λΓ p hΓ=>h Γ p hΓ λq=>by exact jN q
theorem bV.of{c:Code}{R:Result→Shared→Prop}(h:codeAny M A c R s):bV b M A c R s:=λΓ p hc hΓ _=>h Γ p hc hΓ
theorem bV.any{c:Code}{R:Result→Shared→Prop}(h:bV false M A c R s):codeAny M A c R s:=λΓ p hc hΓ=>h Γ p hc hΓ λq=>by exact jN q
theorem bV.weak{c:Code}{R:Result→Shared→Prop}(h:bV false M A c R s):bV b M A c R s:=.of h.any
theorem aJ{a:α}{Q:α→Shared→Prop}(h:Q a s):bH b M A (pure a) Q E s:=.of (wpAny_pure h)
theorem aV{t:Sem α}{Q Q':α→Shared→Prop}{E':Value→Shared→Prop}(h:bH b M A t Q E s)(hQ:∀ a s,Q a s→Q' a s)(hE:∀ e s,E e s→E' e s):bH b M A t Q' E' s:=
 λΓ p hΓ c=>Sem.wp_mono M Γ t (λa _ s=>hQ a s) (λe _ s=>hE e s) p s (h Γ p hΓ c)
theorem ak{m:Sem α}{f:α→Sem β}{Q:β→Shared→Prop}(h:bH b M A m (λa s'=>bH b M A (f a) Q E s') E s):bH b M A (m >>= f) Q E s:=λΓ p hΓ c=>by
 rw[Sem.wp_bind']
 exact Sem.wp_mono M Γ m (λa p' s' h'=>h' Γ p' hΓ c) (λ_ _ _ h'=>h') p s (h Γ p hΓ c)
theorem jk{m:Sem α}{k:Value→Sem Unit}{Q:α→Shared→Prop}(h:bH b M A m Q (λe s'=>bH b M A (k e) (λ_ s''=>E e s'') E s') s):bH b M A (m.onRaise k) Q E s:=λΓ p hΓ c=>by
 rw[Sem.wp_onRaise]
 exact Sem.wp_mono M Γ m (λ_ _ _ h'=>h') (λe p' s' h'=>h' Γ p' hΓ c) p s (h Γ p hΓ c)
theorem cG{vs:List Value}{m:Sem α}{Q:α→Shared→Prop}(h:bH b M A m Q E s):bH b M A (holding vs m) Q E s:=λΓ p hΓ c=>by rw[Sem.wp_holding];exact h Γ p hΓ c
theorem lN{vs:List Value}{m:Sem Value}{Q:Value→Shared→Prop}(h:bH b M A m Q E s):bH b M A (operate vs m) Q E s:=λΓ p hΓ c=>by rw[Sem.wp_operate];exact h Γ p hΓ c
theorem gY{pos:Pos}{Q:Unit→Shared→Prop}(h:Q () s):bH b M A (standAt pos) Q E s:=.of (wpAny_standAt h)
theorem yr{tag:String}{Q:Unit→Shared→Prop}(h:Q () s):bH b M A (PySem.rule tag) Q E s:=.of (wpAny_rule h)
theorem uH{Q:Unit→Shared→Prop}(h:Q () s):bH b M A point Q E s:=.of (wpAny_point h)
theorem dK{c:Code}{R R':Result→Shared→Prop}(h:bV b M A c R s)(hR:∀ r s,R r s→R' r s):bV b M A c R' s:=λΓ p hc hΓ d=>wpCode_mono hR (h Γ p hc hΓ d)
theorem oh.enter{Γ:Ctx}(c:Code)(h:Option Value)(p:Pos)(n:oh Γ∧isDec Γ.code=false):oh (Γ.enter c h p):=λq hq=>by
 have hq:q∈(Γ.code,p)::Γ.below:=hq
 rcases List.mem_cons.mp hq with rfl|hq
 ·exact n.2
 ·exact n.1 q hq
theorem Kh{c:Code}{h:Option Value}{Q:Flow→Shared→Prop}(hc:bV b M (A.mark h) c (λr s'=>match r with|.ok f=>Q f s'|.error e=>E e s') s)(hnb:h≠some byPass:=by intro x;cases x):bH b M A (run c h) Q E s:=
 λΓ p hΓ d=>by rw[Sem.wp_run];exact hc _ p rfl (hΓ.enter c h p hnb) λq=>oh.enter c h p (d q)
theorem oV{c:Code}{Q:Value→Shared→Prop}(hc:bV b M A c (λr s'=>match r with|.ok (.ret v)=>Q v s'|.ok _=>False|.error e=>E e s') s):bH b M A (runValue c) Q E s:=
 λΓ p hΓ d=>by rw[Sem.wp_runValue];exact hc _ p rfl (hΓ.enter c none p (by intro x;exact nsA x)) λq=>oh.enter c none p (d q)
theorem dF{f:Value}{pos:List Value}{kw:List (Str×Value)}{Q:Value→Shared→Prop}(hc:bV b M A (.call f ⟨pos,kw⟩) (λr s'=>match r with|.ok (.ret v)=>Q v s'|.ok _=>False|.error e=>E e s') s) :
  bH b M A (call f pos kw) Q E s:=oV hc
theorem bG{c:Code}{R:Result→Shared→Prop}(hd:isDec c=false)
  (h:bH b M (A.under c) (M.den c) (λfin s'=>match fin with|.done f=>R (.ok f) s'|.again c'=>c'.quiet=true∧bV b M A c' R s') (λe s'=>R (.error e) s') s):bV b M A c R s:=λΓ p hc hΓ d=>by
 rw[wpCode_iff_wp,hc]
 refine Sem.wp_mono M Γ _ (λfin p' s' h'=>?_) (λ_ _ _ h'=>h') p s (h Γ p (hc▸hΓ.in) λq=>⟨d q,hc▸hd⟩)
 cases fin with
 | done f=>exact h'
 | again c'=>exact⟨h'.1,h'.2 (Γ.goto c') p' rfl (hΓ.goto c') d⟩
theorem tH{c:Code}{R:Result→Shared→Prop}(hd:isDec c=false)(hq:c.quiet=true)(I:Nat→Shared→Prop)
    (turn:∀ n s,I n s→bH b M (A.under c) (M.den c)
      (λfin s'=>match fin with|.done f=>R (.ok f) s'|.again c'=>(c'=c∧∃ m,m<n∧I m s')∨(c'.quiet=true∧bV b M A c' R s')) (λe s'=>R (.error e) s') s)
    (n:Nat)(h:I n s):bV b M A c R s:=by
  induction n using Nat.strongRecOn generalizing s with
  | ind n ih=>
    refine bG hd (aV (turn n s h) (λfin s' hf=>?_) λ_ _ h'=>h')
    cases fin with
    | done f=>exact hf
    | again c'=>
      rcases hf with⟨rfl,m,hm,hI⟩|hf
      · exact⟨hq,ih m hm hI⟩
      · exact hf
theorem xM {f:Code×Pos→Bool}{Q:Bool→Shared→Prop}(hg:A.guards=some [])(hf:∀ c p,c.isGuard=false→isDec c=false→f (c,p)=false)(h:Q false s) :
    bH true M A (do return (←stack).any f) Q E s:=λΓ p hΓ d=>by
  show Q (((Γ.code,p)::Γ.below).any f) s
  have hgs:guardsOf ((Γ.code,p)::Γ.below)=[]:=by rw[guardsOf_cons];exact hΓ.2.2.2.1 [] hg
  have:((Γ.code,p)::Γ.below).any f=false:=by
    rw[List.any_eq_false]
    intro q hq
    have hgq:q.1.isGuard=false:=by
      cases z:q.1.isGuard with
      | false=>rfl
      | true=>
        have:q.1∈guardsOf ((Γ.code,p)::Γ.below):=by
          unfold guardsOf
          exact List.mem_filter.mpr ⟨List.mem_map_of_mem hq,z⟩
        rw[hgs] at this;cases this
    have hdq:isDec q.1=false:=by
      rcases List.mem_cons.mp hq with rfl|hq
      · exact(d rfl).2
      · exact(d rfl).1 q hq
    rw[hf q.1 q.2 hgq hdq];decide
  rw[this];exact h
end
section
variable{b:Bool}{w:World}{A:Around}{E:Value→Shared→Prop}{R:Result→Shared→Prop}{s:Shared}
theorem tK{body env} (h:bH b (model Pr w) (A.deeper env) (execs body env) (λf s'=>R (.ok (.ret (match f with|.ret v=>v|_=>.none))) s')
   (λe s'=>bH b (model Pr w) (A.deeper env) (leaving env e) (λ_ s''=>R (.error e) s'') (λe' s''=>R (.error e') s'') s') s):bV b (model Pr w) A (.func body env) R s:=by
 refine bG rfl ?_
 show bH b _ (A.deeper env) (do point;match ←(execs body env).onRaise (leaving env) with|.ret v=>ret v|_=>ret .none) _ _ s
 refine ak (uH (ak (jk (aV h (λf s' h'=>?_) λ_ _ h'=>h'))))
 cases f<;>exact aJ h'
theorem tZ {a:Addr}{o:Obj}{fd:FuncData}{body:List Stmt}{args:Args}{binds:List (Str×Value)}
    (hroom:A.depth<recursionLimit)(ho:s.heap.get? a=some o)(hdata:o.data=.func fd)(hlim:s.heap.NoLimit)(hcd:s.heap.CodeRec fd.code fd.qualname)
    (hbody:fd.body=.stmts body)(hbind:BindsTo s fd args binds)
    (hcell:∀ x∈fd.scope.names,x.2≠.cell)(hloc:∀ x∈binds,fd.scope.names.lookup x.1=some .local)
    (h:∀ h₀,h₀.Ns s.heap.objs.size (λx=>binds.reverse.lookup x)→(∀ b o,s.heap.get? b=some o→h₀.get? b=some o)→
      bH b (model Pr w) (A.deeper (callEnv fd s.heap.objs.size a)) (execs body (callEnv fd s.heap.objs.size a)) (λf s'=>R (.ok (.ret (match f with|.ret v=>v|_=>.none))) s')
        (λe s'=>bH b (model Pr w) (A.deeper (callEnv fd s.heap.objs.size a)) (leaving (callEnv fd s.heap.objs.size a) e) (λ_ s''=>R (.error e) s'') (λe' s''=>R (.error e') s'') s')
        { s with heap:=h₀,toks:=s.toks+binds.length })
    (hco:fd.scope.isCoroutine=false)(hgen:fd.scope.isGenerator=false)(hk:fd.scope.kind=.function) :
    bV b (model Pr w) A (.call (.ref a) args) R s:=by
  refine bG rfl ?_
  show bH b _ A.in1 (callAny (.ref a) args) _ _ s
  simp only[callAny]
  refine ak (.of (wpAny_load ho ?_))
  refine rB (λc oc vs tq hc hoc hdc hq=>?_) hcd
  have lim:s.heap.NoLimit:=hlim
  simp only[hdata,callFunction,hco,hgen,hbody,hc]
  refine ak (m:=field (.ref c) 1) (.of (wpAny_field hoc hdc hq ?_))
  dsimp only
  refine ak (aJ ?_)
  refine ak (.of (hbind _ _ _ _ ?_))
  refine ak (.of ?_)
  rw[←hc]
  refine wpAny_newFunctionEnv hcell hloc (λh₀ hns₀ hsb₀=>?_) hk
  refine ak (.of (wpAny_enterFrame (lim.fresh _ hsb₀) hroom ?_))
  refine aJ ⟨rfl,tK ?_⟩
  exact h h₀ hns₀ λb o e=>hsb₀.extBut b o (Nat.ne_of_lt (Heap.lt_size e)) (Heap.get?_push_of_some _ e)
end
noncomputable abbrev Γc:Ctx:=⟨.builtin "claim.caller" {},none,none,[],none⟩
theorem xU:oh Γc∧isDec Γc.code=false:=⟨(λq hq=>by cases hq),(by decide)⟩
theorem El{prog:Program}{w:World}{t:Sem PySem.Fin}{s:Shared}{R:Result→Shared→Prop}(hreg:s.asleep)
    (h:bH true (model prog w) callerA t (λfin s'=>∃ f,fin=.done f∧(R (.ok f) s'∧leftWithCleanup s'.gens=false)) (λe s'=>R (.error e) s'∧leftWithCleanup s'.gens=false) s) :
    ∃ n r s' s'',runN (denote table) prog w n s ⟨t,.builtin "claim.caller" {},default,[]⟩=.halted (outcomeOf r) s'∧
      schedN (denote table) prog w n (.single s ⟨t,.builtin "claim.caller" {},default,[]⟩)=.halted (outcomeOf r) s'∧s'.forget=s''.forget∧R r s'':=by
  have h1:Sem.wp (model prog w) Γc t (Sem.finPost (model prog w) Γc λr s'=>R r s'∧leftWithCleanup s'.gens=false) (λe _ s'=>R (.error e) s'∧leftWithCleanup s'.gens=false) default s:=by
    refine Sem.wp_mono _ _ t (λfin p' s' h'=>?_) (λ_ _ _ h'=>h') default s (h Γc default caller_in λ_=>xU)
    refine aD (λf kj hf=>?_) h';subst kj
    exact hf
  refine rB (λn r s₁ s₂ hs hn hfo hR=>?_) (wp_halts_full (M:=model prog w) (R:=R) hreg h1)
  exact⟨n,r,s₂,s₁,hn,hs,hfo,hR⟩
noncomputable abbrev OD(q:Program)(loose:List Str)(XP:(Str→Option Value)→Heap→Prop)(YP:World→Heap→Prop)(r:RowW)(d:DefRec)(kwd:List (Str×Expr)):Prop:=
  ∀ (w:World) (s₀ s₁:Shared) (mg mb:Str→Option Value),Ground q loose r.records XP w s₀ mg mb s₁.heap→YP w s₁.heap→∀ (a:Addr) (o:Obj) (pm cd doc dV kV:Value),s₁.heap.get? a=some o→
    o.data=.func { docDef d.name d.params d.body d.scope pm cd doc with defaults:=dV,kwdefaults:=kV }→s₁.heap.CodeRec cd d.name→Dflts mg s₁.heap d.params kwd dV kV→mg d.name=some (.ref a)→s₁.gens = #[]→
    ∀ (args:List WData) (vals:List Value) (as:List Addr),r.claim.pre args=true→WData.layableAll args=true→ReadsAllW r.records (classAt s₀.heap) s₁.heap vals args as→WellAll w.params s₁.heap vals args→(∀ a∈as,(a == sysModules)=false)→
      bH true (model r.prog w) callerA (call (.ref a) vals) (λv s'=>GoodWG r.claim (classAt s₀.heap) (ExcName.means s₀.heap) args s₁ (.ok (.ret v)) s')
        (λe s'=>GoodWG r.claim (classAt s₀.heap) (ExcName.means s₀.heap) args s₁ (.error e) s') s₁
theorem Es{c:ClaimW}{tree:List Value→Sem PySem.Fin}{w:World}{s s₁:Shared}{kept:Heap→Prop}{ord:List DictEntry→List DictEntry}{args:List WData}{vs:List Value}(hz:s.asleep)
    (hlaid:layAllW c.records (classAt s.heap) w.params ord args s=some (vs,s₁))
    (hcode:bH true (model c.prog w) callerA (tree vs) (λfin s'=>∃ f,fin=.done f∧(c.Ends s args vs s₁ (.ok f) s'∧s'.os=s.os∧AllBare s'.gens∧kept s'.heap))
          (λe s'=>c.Ends s args vs s₁ (.error e) s'∧s'.os=s.os∧AllBare s'.gens∧kept s'.heap) s₁) :
    ∃ n r s',schedN (denote table) c.prog w n (.single s₁ ⟨tree vs,.builtin "claim.caller" {},default,[]⟩)=.halted (outcomeOf r) s'∧s'.heap.life=s.heap.life∧
      c.Ends s args vs s₁ r s'∧s'.os=s.os∧kept s'.heap:=by
  have hal:=layAllW_rest _ _ _ hlaid
  obtain⟨k,r,s',s'',hrun,hsched,hfo,hcase,hos,hkp⟩:=El (prog:=c.prog) (w:=w) (t:=tree vs) (s:=s₁) (R:=λr s'=>c.Ends s args vs s₁ r s'∧s'.os=s.os∧kept s'.heap) (Shared.asleep_of_life hal.2.2.2 hz)
    (aV hcode (λfin s'=>Py λf e h1 h2 h3 h4=>⟨f,e,⟨h1,h2,h4⟩,leftWithCleanup_false_of_bare h3⟩) λe s'=>dZ λh1 h2 h3 h4=>⟨⟨h1,h2,h4⟩,leftWithCleanup_false_of_bare h3⟩)
  refine Fv (λeh _ _ eo _=>?_) (Shared.forget_eq hfo)
  exact⟨k,r,s',hsched,(runN_life _ _ _ hrun).trans hal.2.2.2,hcase.congr eh,eo.trans hos,by rw[eh];exact hkp⟩
theorem Gz{r:OpenRow}{q:Program}{loose:List Str}{Xt:Shared→Bool}{XP:(Str→Option Value)→Heap→Prop}{α:Type}{Yf:Shared→α}{Ya:World→α}{YP:World→Heap→Prop}{d:DefRec}{kwd:List (Str×Expr)}{N:Nat}
  (left:LeftO r.prog q loose Xt Yf Ya N)(hY:∀ w s,Yf s=Ya w→YP w s.heap)(hYk:∀ w h h',YP w h→(∀ b o,h.get? b=some o→h'.get? b=some o)→YP w h')
  (hX:∀ s,Xt s=true→XP (s.heap.nsMap mainGlobals) s.heap)(hXk:∀ mg h h',XP mg h→(∀ b o,h.get? b=some o→h'.get? b=some o)→XP mg h')
  (hdef:defOf q r.name=some (d,kwd))(hp:r.prog.theDef r.name=some (d.params,d.body,d.scope))(hk:kwWritten? d.params.kwonlyargs d.params.kw_defaults=some kwd)(hRf:∀ s,Xt s=true→RecFacts r.records s.heap)(hwr:(!r.writes||r.records.isEmpty)=true)
  (k1:r.wellSaid=true)(ok:(chainsOk q&&opensWell r.prog&&(frees r.toRowW&&r.within.isEmpty))=true)(hb:r.prog.bare)(hw:r.toRowW.promised)
  (call:OD q loose XP YP r.toRowW d kwd):r.Holds:=by
 obtain⟨ok1,k6⟩:=bI ok
 obtain⟨hch,o1⟩:=bI ok1
 obtain⟨k5,k7⟩:=bI k6
 refine Fv (λhsame hu ha hap hm=>?_) (frees_parts k5)
 have hi:=ident_freeW hu ha hap
 have hwi:r.toRowW.claim.within=[]:=List.isEmpty_iff.mp k7
 refine⟨k1,hw,⟨hb,o1,?_⟩,hw.witness,λw=>?_⟩
 ·show r.toRowW.makers.map _=[]
  rw[hm];rfl
 have B:=left.behind (XP:=λmg h=>XP mg h∧RecFacts r.records h) (λs hs=>⟨hX s hs,hRf s hs⟩) hch w
 refine⟨B.1,λs' hs'=>?_⟩
 refine Bx (λs₀ hf hg0 s hT hz hgens hg G00 y=>?_) (B.2 s' hs')
 have G0:Ground q loose [] XP w s (s.heap.nsMap mainGlobals) (s.heap.nsMap builtinsNs) s.heap:=⟨G00.T,G00.B,G00.D,G00.TE,G00.TD,G00.W,G00.X.1,G00.cls,G00.has,G00.apart,G00.once,G00.K⟩
 have RF:=G00.X.2
 refine⟨s₀,hf,hg0,s,hT,λn hn=>?_,RF.1,RF.2.1,λargs hpre hlay ord hord=>?_⟩
 ·obtain rfl:n=r.name:=by split at hn<;>simp_all
  exact pinned_of_view hg G0 hdef hp hk
 have hgens:s.gens = #[]:=Array.eq_empty_of_size_eq_zero (beq_iff_eq.mp hgens)
 have G:Ground q loose r.records XP w s _ _ s.heap:=RF.ground G0
 obtain⟨⟨vs,s₁⟩,hlaid⟩:=Option.isSome_iff_exists.mp (layAllW_isSome (P:=w.params) (ord:=ord) G.has args r.args s (pre_splitW (r:=r.toRowW) hpre).1)
 have keeps:=layAllW_keeps _ _ _ hlaid
 have hal:=layAllW_rest _ _ _ hlaid
 refine sU (λas hrd hin hold=>?_) (reads_layAllW hord _ _ _ hlaid hlay s₁.heap (λ_ _ e=>e))
 have L:Laid r.records w s s₁ args vs as:=⟨⟨ord,hord,hlaid⟩,hrd,hin,hold,keeps,hal.1.trans hgens,hal.2.2.1⟩
 have G₁:=G.keeps hXk keeps
 refine xO (λa o pm cd doc dV kV h1 h2 h3 h4 h5=>?_) (G₁.fn hdef)
 have Vj:=call w s s₁ _ _ G₁ (hYk _ _ _ (hY w s y) keeps) a o pm cd doc dV kV h2 h3 h4 h5 (defOf_name hdef▸h1) L.gens args vs as hpre hlay L.reads L.well (L.low G.low)
 have good:∀ (r':Result) (s':Shared),GoodWG r.toRowW.claim (classAt s.heap) (ExcName.means s.heap) args s₁ r' s'→r.toRowW.claim.Ends s args vs s₁ r' s'∧s'.os=s.os∧AllBare s'.gens∧
   (r.writes=true→namesKept r.toRowW.claim.prog r.keeps s.heap s'.heap∧∀ x∈r.toRowW.claim.records,∀ a,classAt s.heap x.1=some a→recordClass s'.heap a x.1 (x.2.map (·.1))=true):=λr' s' g=>by
  have z:=g.laid (c:=r.toRowW.claim) hsame hwi hi L
  exact⟨z.1,z.2.1,z.2.2,λq=>⟨namesKept_of hT hg r.keeps keeps g.2.1.old,noTable hwr q⟩⟩
 refine Ja (λk r' s' hsched hlife hcase hos hkp=>?_) (Es (c:=r.toRowW.claim) (w:=w) (kept:=λh'=>r.writes=true→namesKept r.toRowW.claim.prog r.keeps s.heap h'∧∀ x∈r.toRowW.claim.records,∀ a,classAt s.heap x.1=some a→recordClass h' a x.1 (x.2.map (·.1))=true)
  (tree:=λvs=>do match ←nsGet mainNs r.name with|some f=>do ret (←PySem.call f vs)|none=>unsupported "claim.caller:no-such-global") hz hlaid
  (ak (.of (wpAny_nsGet G₁.T.g (by rw[h1];exact ak (aV Vj (λv s' g=>aJ ⟨_,rfl,good _ _ g⟩) λe s' g=>good _ _ g))))))
 refine⟨vs,s₁,hlaid,k,_,s',hsched,?_,(λ_ i x hx=>by rw[hgens] at hx;simp at hx),hkp,by rw[hlife],Shared.rest_eq hos⟩
 rcases hcase with⟨v,rfl,d1,d2,d3,d4,d5⟩|⟨e,ob,cls,rfl,d1,d2,d3,d4,d5⟩
 ·exact .inl ⟨v,rfl,d1,d2,d3,λb o y _=>d4 b o y,d5⟩
 ·exact .inr ⟨e,ob,cls,rfl,d1,d2,d3,d4,λb o y _=>d5 b o y⟩
noncomputable abbrev TP:OpenLaw:=PySem.Challenge.rw_nz0422_01
noncomputable abbrev zV:RowW:=OpenRow.toRowW (OpenLaw.row TP)
noncomputable abbrev pE:Program:=zV.prog
noncomputable abbrev bE:List Stmt:=behindTheImports pE
namespace Hd
noncomputable def st(i:Nat):Stmt:=bE.getD i (.Pass ⟨0,0,0,0⟩)
noncomputable def V5:Stmt→Arguments
 | .FunctionDef _ a _ _ _ _ _ _ _ _=>a
 | _=>⟨[],[],none,[],[],none,[]⟩
noncomputable def Rm:Stmt→List Stmt
 | .FunctionDef _ _ b _ _ _ _ _ _ _=>b
 | .ClassDef _ _ _ b _ _ _ _ _ _ _=>b
 | _=>[]
noncomputable def V4:Stmt→Scope
 | .FunctionDef _ _ _ _ _ _ s _ _ _=>s
 | _=>⟨.function,[],false,false,[]⟩
noncomputable def me(i j:Nat):Stmt:=(Rm (st i)).getD j (.Pass ⟨0,0,0,0⟩)
noncomputable def i(n:Nat):Value:=.int (Int.ofNat n) 0
noncomputable def it(n t:Nat):Value:=.int (Int.ofNat n) t
noncomputable def s(x:String)(t:Nat):Value:=.str (Str.ofString x) t
noncomputable def r(n:Nat):Value:=.ref n
noncomputable def t(x:String):Value:=.type x
noncomputable def bi(x:String):Value:=.builtin x
noncomputable def N:Value:=.none
noncomputable def tp(l:List Value):Obj:=⟨.type "tuple",none,.seq ⟨l⟩,⟨[]⟩⟩
noncomputable def fo(c:Value)(l:List Value):Obj:=⟨c,none,.fields ⟨l⟩,⟨[]⟩⟩
noncomputable def fl(l:List Value):Obj:=⟨.none,none,.fields ⟨l⟩,⟨[]⟩⟩
noncomputable def pl(c:Value)(l:List (Option Value)):Obj:=⟨c,none,.plain,⟨l⟩⟩
noncomputable def di(P:Params)(l:List (String×Nat×Value))(n:Nat):Obj:=⟨.type "dict",none,.dict ⟨l.map λe=>⟨PyData.keyHash P (Str.ofString e.1),.str (Str.ofString e.1) e.2.1,e.2.2⟩⟩ n,⟨[]⟩⟩
noncomputable def f0(nm ql:String)(x:Stmt):Obj:=⟨.none,none,.func ⟨Str.ofString nm,Str.ofString ql,V5 x,.stmts (Rm x),V4 x,0,[],.none,.none,.none,.none,none,.none,.none,0⟩,⟨[]⟩⟩
noncomputable def f1(nm ql:String)(x:Stmt)(g:Nat)(dV pm cdv:Value):Obj:=⟨.type "function",none,.func ⟨Str.ofString nm,Str.ofString ql,V5 x,.stmts (Rm x),V4 x,g,[],dV,.none,.none,pm,none,cdv,.none,0⟩,⟨[]⟩⟩
noncomputable def kl(sl:List (Option Value))(nm:String)(bs mro:List Value)(d:Nat)(sub:List Value):Obj:=⟨.type "type",none,.cls ⟨Str.ofString nm,bs,mro,d,Str.ofString nm,true,[],sub,false,none,false⟩,⟨sl⟩⟩
noncomputable def cd(nm ql:String)(k k2:Nat)(l:List Value)(ln:Value):Obj:=⟨.type "code",none,.fields ⟨s nm k::s ql (k+1)::s "/claim/cut.py" (k+2)::(l++[i k2,ln,s "/claim/cut.py" (k2+1)])⟩,⟨[]⟩⟩
noncomputable def cA(nm ql:String)(k d l a n:Nat):Obj:=cd nm ql k (k+d) [i l,i a,i 0,i 0,i 3,r n,.bool true,i 181,r (n+1),N,r (n+2),r (n+3),r (n+4)] (i l)
noncomputable def cB(nm ql:String)(k l n:Nat):Obj:=cd nm ql k (k+3) [i l,i 0,i 0,i 0,i 0,r n,.bool false,i 181,r (n+1),N,N,N,N] (i l)
noncomputable def cC(nm ql:String)(k l a n:Nat):Obj:=cd nm ql k (k+3) [i l,i a,i 0,i 0,i 3,r n,.bool true,i 181,r (n+1),N,N,N,r (n+2)] (i l)
noncomputable def mE:Value:=s "threepress.errors" 194
noncomputable def mB:Value:=s "threepress.bits" 272
noncomputable def mF:Value:=s "threepress.fse" 505
noncomputable def mL:Value:=s "law_nz0422_01" 773
noncomputable def fP:Obj:=fo (t "builtin_function_or_method") [bi "type.__prepare__",t "type"]
noncomputable def md:List (String×Nat×Value):=[("__name__",165,mL),("__doc__",166,N),("__package__",167,N),("__loader__",168,bi "__main__.__loader__#opaque"),("__spec__",169,N),("__annotations__",170,r 6),("__builtins__",171,r 4),("__file__",173,s "/claim/cut.py" 172),("__cached__",174,N),("_wall",193,r 21),("PressError",223,r 39),("CutShort",239,r 52),("BadTable",255,r 64),("BadArgument",271,r 76),("need_count",280,r 85),("need_value",288,r 92),("gathered",302,r 99),("LowWriter",388,r 165),("BackReader",452,r 214),("BackWriter",504,r 256),("LEAST_LOG",508,it 5 507),("MOST_LOG",510,it 20 509),("places_of",517,r 267),("high_bit",524,r 274),("counts_fault",530,r 279),("spread",536,r 284),("FseTable",597,r 320),("FseReader",657,r 369),("FseWriter",723,r 418),("pack_symbols",734,r 429),("unpack_symbols",746,r 436),("pack_turns",758,r 443),("unpack_turns",772,r 450),("_law_cell",782,r 457),("_law_box",789,r 464),("_law_take",799,r 471),("_law_drawn",814,r 478),("_law_spread",820,r 483),("_law_cells",834,r 490),("_law_bytes",840,r 495),("_law_low",846,r 500),("_law_ahead",856,r 507),("_law_least",862,r 512),("_law_one",875,r 519),("_law_two",888,r 526),("_law_digits",894,r 531),("_law_number",905,r 538),("_law_single",922,r 545),("_law_turns",939,r 552),("_law_told",949,r 559),("_law_bent",955,r 564),("_law_read_right",966,r 571),("law",972,r 576)]
noncomputable def mc:List Value:=[i 1,i 0,r 20,i 5,i 0,r 27,i 10,i 0,r 48,i 12,i 0,r 60,i 14,i 0,r 72,i 17,i 0,r 84,i 20,i 0,r 91,i 24,i 0,r 98,i 32,i 0,r 105,i 68,i 0,r 175,i 96,i 0,r 224,i 116,i 0,r 266,i 118,i 0,r 273,i 120,i 0,r 278,i 128,i 0,r 283,i 146,i 0,r 290,i 173,i 0,r 330,i 189,i 0,r 379,i 210,i 0,r 428,i 218,i 0,r 435,i 229,i 0,r 442,i 240,i 0,r 449,i 252,i 0,r 456,i 254,i 0,r 463,i 256,i 0,r 470,i 264,i 0,r 477,i 273,i 0,r 482,i 288,i 0,r 489,i 299,i 0,r 494,i 302,i 0,r 499,i 304,i 0,r 506,i 309,i 0,r 511,i 311,i 0,r 518,i 317,i 0,r 525,i 326,i 0,r 530,i 333,i 0,r 537,i 338,i 0,r 544,i 351,i 0,r 551,i 366,i 0,r 558,i 373,i 0,r 563,i 384,i 0,r 570,i 388,i 0,r 575]
noncomputable def nG(P:Params):List Obj:=[
 boot_o_0 P,
 boot_o_1 P,
 boot_o_2 P,
 di P md 53,
 boot_o_4 P,
 boot_o_5 P,
 boot_o_6 P,
 boot_o_7 P,
 boot_o_8 P,
 boot_o_9 P,
 boot_o_10 P,
 tp [],
 fl mc,
 cB "<module>" "<module>" 182 1 11,
 pl (t "frame") [some (r 13),some (r 3),some (r 3),none,some (s "__main__" 164),none,some (r 0)],
 tp [],
 fl [],
 tp [s "k" 190],
 tp [],
 f0 "_wall" "_wall" (st 0),
 cA "_wall" "_wall" 187 4 1 1 15,
 f1 "_wall" "_wall" (st 0) 3 N (s "__main__" 164) (r 20),
 tp [t "ValueError"],
 fP,
 di P [("__module__",203,mE),("__qualname__",205,s "PressError" 204),("__firstlineno__",207,it 5 206),("__init__",216,r 36),("__static_attributes__",218,r 37)] 5,
 tp [],
 fl [i 7,i 4,r 35],
 cB "PressError" "PressError" 198 5 25,
 pl (t "frame") [some (r 27),some (r 3),some (r 24),none,some mE,none,some (r 0)],
 tp [s "" 208],
 tp [],
 fl [],
 tp [s "self" 212,s "reason" 213],
 tp [],
 f0 "__init__" "PressError.__init__" (me 2 0),
 cA "__init__" "PressError.__init__" 209 5 7 2 30,
 f1 "__init__" "PressError.__init__" (me 2 0) 3 (r 29) mE (r 35),
 tp [s "reason" 217],
 di P [("__module__",203,mE),("__firstlineno__",207,it 5 206),("__init__",216,r 36),("__static_attributes__",218,r 37),("__weakref__",220,r 40),("__doc__",221,N)] 3,
 kl [some (r 22),none,some (s "PressError" 196),some (s "PressError" 204),some (bi "ValueError.__new__"),some (.bool true)] "PressError" [t "ValueError"] [r 39,t "ValueError",t "Exception",t "BaseException",t "object"] 38 [r 52,r 64,r 76],
 fo (t "getset_descriptor") [s "__weakref__" 219,r 39,bi "ExceptionGroup.__weakref__",N],
 fo (t "super") [r 39,r 39,r 39],
 fo (t "builtin_function_or_method") [bi "object.__init_subclass__",r 39],
 tp [r 39],
 fP,
 di P [("__module__",231,mE),("__qualname__",233,s "CutShort" 232),("__firstlineno__",235,it 10 234),("__static_attributes__",236,r 50)] 4,
 tp [],
 fl [],
 cB "CutShort" "CutShort" 226 10 46,
 pl (t "frame") [some (r 48),some (r 3),some (r 45),none,some mE,none,some (r 0)],
 tp [],
 di P [("__module__",231,mE),("__firstlineno__",235,it 10 234),("__static_attributes__",236,r 50),("__doc__",237,N)] 2,
 kl [some (r 43),none,some (s "CutShort" 224),some (s "CutShort" 232),some (bi "ValueError.__new__"),some (.bool true)] "CutShort" [r 39] [r 52,r 39,t "ValueError",t "Exception",t "BaseException",t "object"] 51 [],
 fo (t "super") [r 52,r 52,r 52],
 fo (t "builtin_function_or_method") [bi "object.__init_subclass__",r 52],
 tp [r 39],
 fP,
 di P [("__module__",247,mE),("__qualname__",249,s "BadTable" 248),("__firstlineno__",251,it 12 250),("__static_attributes__",252,r 62)] 4,
 tp [],
 fl [],
 cB "BadTable" "BadTable" 242 12 58,
 pl (t "frame") [some (r 60),some (r 3),some (r 57),none,some mE,none,some (r 0)],
 tp [],
 di P [("__module__",247,mE),("__firstlineno__",251,it 12 250),("__static_attributes__",252,r 62),("__doc__",253,N)] 2,
 kl [some (r 55),none,some (s "BadTable" 240),some (s "BadTable" 248),some (bi "ValueError.__new__"),some (.bool true)] "BadTable" [r 39] [r 64,r 39,t "ValueError",t "Exception",t "BaseException",t "object"] 63 [],
 fo (t "super") [r 64,r 64,r 64],
 fo (t "builtin_function_or_method") [bi "object.__init_subclass__",r 64],
 tp [r 39],
 fP,
 di P [("__module__",263,mE),("__qualname__",265,s "BadArgument" 264),("__firstlineno__",267,it 14 266),("__static_attributes__",268,r 74)] 4,
 tp [],
 fl [],
 cB "BadArgument" "BadArgument" 258 14 70,
 pl (t "frame") [some (r 72),some (r 3),some (r 69),none,some mE,none,some (r 0)],
 tp [],
 di P [("__module__",263,mE),("__firstlineno__",267,it 14 266),("__static_attributes__",268,r 74),("__doc__",269,N)] 2,
 kl [some (r 67),none,some (s "BadArgument" 256),some (s "BadArgument" 264),some (bi "ValueError.__new__"),some (.bool true)] "BadArgument" [r 39] [r 76,r 39,t "ValueError",t "Exception",t "BaseException",t "object"] 75 [],
 fo (t "super") [r 76,r 76,r 76],
 fo (t "builtin_function_or_method") [bi "object.__init_subclass__",r 76],
 tp [],
 fl [],
 tp [s "count" 277],
 tp [],
 f0 "need_count" "need_count" (st 7),
 cA "need_count" "need_count" 274 4 17 1 79,
 f1 "need_count" "need_count" (st 7) 3 N mB (r 84),
 tp [],
 fl [],
 tp [s "value" 284,s "size" 285],
 tp [],
 f0 "need_value" "need_value" (st 8),
 cA "need_value" "need_value" 281 5 20 2 86,
 f1 "need_value" "need_value" (st 8) 3 N mB (r 91),
 tp [],
 fl [],
 tp [s "octets" 292,s "low" 293,s "count" 294,s "stop" 295,s "value" 296,s "got" 297,s "place" 298,s "inside" 299],
 tp [],
 f0 "gathered" "gathered" (st 9),
 cA "gathered" "gathered" 289 11 24 4 93,
 f1 "gathered" "gathered" (st 9) 3 N mB (r 98),
 tp [],
 fP,
 di P [("__module__",310,mB),("__qualname__",312,s "LowWriter" 311),("__firstlineno__",314,it 32 313),("__init__",321,r 113),("bits",330,r 120),("bit",338,r 127),("code",347,r 134),("align",354,r 141),("octets",362,r 148),("size",369,r 155),("done",377,r 162),("__static_attributes__",381,r 163)] 12,
 tp [],
 fl [i 34,i 4,r 112,i 39,i 4,r 119,i 48,i 4,r 126,i 51,i 4,r 133,i 54,i 4,r 140,i 58,i 4,r 147,i 62,i 4,r 154,i 65,i 4,r 161],
 cB "LowWriter" "LowWriter" 305 32 103,
 pl (t "frame") [some (r 105),some (r 3),some (r 102),none,some mB,none,some (r 0)],
 tp [],
 fl [],
 tp [s "self" 318],
 tp [],
 f0 "__init__" "LowWriter.__init__" (me 10 0),
 cA "__init__" "LowWriter.__init__" 315 4 34 1 107,
 f1 "__init__" "LowWriter.__init__" (me 10 0) 3 N mB (r 112),
 tp [],
 fl [],
 tp [s "self" 325,s "value" 326,s "count" 327],
 tp [],
 f0 "bits" "LowWriter.bits" (me 10 1),
 cA "bits" "LowWriter.bits" 322 6 39 3 114,
 f1 "bits" "LowWriter.bits" (me 10 1) 3 N mB (r 119),
 tp [],
 fl [],
 tp [s "self" 334,s "value" 335],
 tp [],
 f0 "bit" "LowWriter.bit" (me 10 2),
 cA "bit" "LowWriter.bit" 331 5 48 2 121,
 f1 "bit" "LowWriter.bit" (me 10 2) 3 N mB (r 126),
 tp [],
 fl [],
 tp [s "self" 342,s "code" 343,s "count" 344],
 tp [],
 f0 "code" "LowWriter.code" (me 10 3),
 cA "code" "LowWriter.code" 339 6 51 3 128,
 f1 "code" "LowWriter.code" (me 10 3) 3 N mB (r 133),
 tp [],
 fl [],
 tp [s "self" 351],
 tp [],
 f0 "align" "LowWriter.align" (me 10 4),
 cA "align" "LowWriter.align" 348 4 54 1 135,
 f1 "align" "LowWriter.align" (me 10 4) 3 N mB (r 140),
 tp [],
 fl [],
 tp [s "self" 358,s "data" 359],
 tp [],
 f0 "octets" "LowWriter.octets" (me 10 5),
 cA "octets" "LowWriter.octets" 355 5 58 2 142,
 f1 "octets" "LowWriter.octets" (me 10 5) 3 N mB (r 147),
 tp [],
 fl [],
 tp [s "self" 366],
 tp [],
 f0 "size" "LowWriter.size" (me 10 6),
 cA "size" "LowWriter.size" 363 4 62 1 149,
 f1 "size" "LowWriter.size" (me 10 6) 3 N mB (r 154),
 tp [],
 fl [],
 tp [s "self" 373,s "rest" 374],
 tp [],
 f0 "done" "LowWriter.done" (me 10 7),
 cA "done" "LowWriter.done" 370 5 65 1 156,
 f1 "done" "LowWriter.done" (me 10 7) 3 N mB (r 161),
 tp [s "held" 378,s "held_bits" 379,s "made" 380],
 di P [("__module__",310,mB),("__firstlineno__",314,it 32 313),("__init__",321,r 113),("bits",330,r 120),("bit",338,r 127),("code",347,r 134),("align",354,r 141),("octets",362,r 148),("size",369,r 155),("done",377,r 162),("__static_attributes__",381,r 163),("__dict__",383,r 166),("__weakref__",385,r 167),("__doc__",386,N)] 4,
 kl [none,none,some (s "LowWriter" 303),some (s "LowWriter" 311),some (bi "object.__new__"),some (.bool true)] "LowWriter" [t "object"] [r 165,t "object"] 164 [],
 fo (t "getset_descriptor") [s "__dict__" 382,r 165,bi "function.__dict__",bi "function.__dict__#set"],
 fo (t "getset_descriptor") [s "__weakref__" 384,r 165,bi "ExceptionGroup.__weakref__",N],
 fo (t "super") [r 165,r 165,r 165],
 fo (t "builtin_function_or_method") [bi "object.__init_subclass__",r 165],
 tp [],
 fP,
 di P [("__module__",396,mB),("__qualname__",398,s "BackReader" 397),("__firstlineno__",400,it 68 399),("__init__",408,r 183),("left",415,r 190),("peek",425,r 197),("skip",433,r 204),("bits",442,r 211),("__static_attributes__",445,r 212)] 9,
 tp [],
 fl [i 70,i 4,r 182,i 76,i 4,r 189,i 79,i 4,r 196,i 85,i 4,r 203,i 89,i 4,r 210],
 cB "BackReader" "BackReader" 391 68 173,
 pl (t "frame") [some (r 175),some (r 3),some (r 172),none,some mB,none,some (r 0)],
 tp [],
 fl [],
 tp [s "self" 404,s "octets" 405],
 tp [],
 f0 "__init__" "BackReader.__init__" (me 11 0),
 cA "__init__" "BackReader.__init__" 401 5 70 2 177,
 f1 "__init__" "BackReader.__init__" (me 11 0) 3 N mB (r 182),
 tp [],
 fl [],
 tp [s "self" 412],
 tp [],
 f0 "left" "BackReader.left" (me 11 1),
 cA "left" "BackReader.left" 409 4 76 1 184,
 f1 "left" "BackReader.left" (me 11 1) 3 N mB (r 189),
 tp [],
 fl [],
 tp [s "self" 419,s "count" 420,s "here" 421,s "value" 422],
 tp [],
 f0 "peek" "BackReader.peek" (me 11 2),
 cA "peek" "BackReader.peek" 416 7 79 2 191,
 f1 "peek" "BackReader.peek" (me 11 2) 3 N mB (r 196),
 tp [],
 fl [],
 tp [s "self" 429,s "count" 430],
 tp [],
 f0 "skip" "BackReader.skip" (me 11 3),
 cA "skip" "BackReader.skip" 426 5 85 2 198,
 f1 "skip" "BackReader.skip" (me 11 3) 3 N mB (r 203),
 tp [],
 fl [],
 tp [s "self" 437,s "count" 438,s "value" 439],
 tp [],
 f0 "bits" "BackReader.bits" (me 11 4),
 cA "bits" "BackReader.bits" 434 6 89 2 205,
 f1 "bits" "BackReader.bits" (me 11 4) 3 N mB (r 210),
 tp [s "data" 443,s "position" 444],
 di P [("__module__",396,mB),("__firstlineno__",400,it 68 399),("__init__",408,r 183),("left",415,r 190),("peek",425,r 197),("skip",433,r 204),("bits",442,r 211),("__static_attributes__",445,r 212),("__dict__",447,r 215),("__weakref__",449,r 216),("__doc__",450,N)] 4,
 kl [none,none,some (s "BackReader" 389),some (s "BackReader" 397),some (bi "object.__new__"),some (.bool true)] "BackReader" [t "object"] [r 214,t "object"] 213 [],
 fo (t "getset_descriptor") [s "__dict__" 446,r 214,bi "function.__dict__",bi "function.__dict__#set"],
 fo (t "getset_descriptor") [s "__weakref__" 448,r 214,bi "ExceptionGroup.__weakref__",N],
 fo (t "super") [r 214,r 214,r 214],
 fo (t "builtin_function_or_method") [bi "object.__init_subclass__",r 214],
 tp [],
 fP,
 di P [("__module__",460,mB),("__qualname__",462,s "BackWriter" 461),("__firstlineno__",464,it 96 463),("__init__",471,r 232),("bits",480,r 239),("size",487,r 246),("done",495,r 253),("__static_attributes__",497,r 254)] 8,
 tp [],
 fl [i 98,i 4,r 231,i 101,i 4,r 238,i 104,i 4,r 245,i 107,i 4,r 252],
 cB "BackWriter" "BackWriter" 455 96 222,
 pl (t "frame") [some (r 224),some (r 3),some (r 221),none,some mB,none,some (r 0)],
 tp [],
 fl [],
 tp [s "self" 468],
 tp [],
 f0 "__init__" "BackWriter.__init__" (me 12 0),
 cA "__init__" "BackWriter.__init__" 465 4 98 1 226,
 f1 "__init__" "BackWriter.__init__" (me 12 0) 3 N mB (r 231),
 tp [],
 fl [],
 tp [s "self" 475,s "value" 476,s "count" 477],
 tp [],
 f0 "bits" "BackWriter.bits" (me 12 1),
 cA "bits" "BackWriter.bits" 472 6 101 3 233,
 f1 "bits" "BackWriter.bits" (me 12 1) 3 N mB (r 238),
 tp [],
 fl [],
 tp [s "self" 484],
 tp [],
 f0 "size" "BackWriter.size" (me 12 2),
 cA "size" "BackWriter.size" 481 4 104 1 240,
 f1 "size" "BackWriter.size" (me 12 2) 3 N mB (r 245),
 tp [],
 fl [],
 tp [s "self" 491,s "whole" 492],
 tp [],
 f0 "done" "BackWriter.done" (me 12 3),
 cA "done" "BackWriter.done" 488 5 107 1 247,
 f1 "done" "BackWriter.done" (me 12 3) 3 N mB (r 252),
 tp [s "under" 496],
 di P [("__module__",460,mB),("__firstlineno__",464,it 96 463),("__init__",471,r 232),("bits",480,r 239),("size",487,r 246),("done",495,r 253),("__static_attributes__",497,r 254),("__dict__",499,r 257),("__weakref__",501,r 258),("__doc__",502,N)] 4,
 kl [none,none,some (s "BackWriter" 453),some (s "BackWriter" 461),some (bi "object.__new__"),some (.bool true)] "BackWriter" [t "object"] [r 256,t "object"] 255 [],
 fo (t "getset_descriptor") [s "__dict__" 498,r 256,bi "function.__dict__",bi "function.__dict__#set"],
 fo (t "getset_descriptor") [s "__weakref__" 500,r 256,bi "ExceptionGroup.__weakref__",N],
 fo (t "super") [r 256,r 256,r 256],
 fo (t "builtin_function_or_method") [bi "object.__init_subclass__",r 256],
 tp [],
 fl [],
 tp [s "count" 514],
 tp [],
 f0 "places_of" "places_of" (st 16),
 cA "places_of" "places_of" 511 4 116 1 261,
 f1 "places_of" "places_of" (st 16) 3 N mF (r 266),
 tp [],
 fl [],
 tp [s "number" 521],
 tp [],
 f0 "high_bit" "high_bit" (st 17),
 cA "high_bit" "high_bit" 518 4 118 1 268,
 f1 "high_bit" "high_bit" (st 17) 3 N mF (r 273),
 tp [],
 fl [],
 f0 "counts_fault" "counts_fault" (st 18),
 cC "counts_fault" "counts_fault" 525 120 2 275,
 f1 "counts_fault" "counts_fault" (st 18) 3 N mF (r 278),
 tp [],
 fl [],
 f0 "spread" "spread" (st 19),
 cC "spread" "spread" 531 128 2 280,
 f1 "spread" "spread" (st 19) 3 N mF (r 283),
 tp [],
 fP,
 di P [("__module__",544,mF),("__qualname__",546,s "FseTable" 545),("__firstlineno__",548,it 146 547),("__init__",554,r 296),("has",562,r 303),("first_state",570,r 310),("ahead",582,r 317),("__static_attributes__",590,r 318)] 8,
 tp [],
 fl [i 148,i 4,r 295,i 162,i 4,r 302,i 165,i 4,r 309,i 168,i 4,r 316],
 cB "FseTable" "FseTable" 539 146 288,
 pl (t "frame") [some (r 290),some (r 3),some (r 287),none,some mF,none,some (r 0)],
 tp [],
 fl [],
 f0 "__init__" "FseTable.__init__" (me 20 0),
 cC "__init__" "FseTable.__init__" 549 148 3 292,
 f1 "__init__" "FseTable.__init__" (me 20 0) 3 N mF (r 295),
 tp [],
 fl [],
 tp [s "self" 558,s "symbol" 559],
 tp [],
 f0 "has" "FseTable.has" (me 20 1),
 cA "has" "FseTable.has" 555 5 162 2 297,
 f1 "has" "FseTable.has" (me 20 1) 3 N mF (r 302),
 tp [],
 fl [],
 tp [s "self" 566,s "symbol" 567],
 tp [],
 f0 "first_state" "FseTable.first_state" (me 20 2),
 cA "first_state" "FseTable.first_state" 563 5 165 2 304,
 f1 "first_state" "FseTable.first_state" (me 20 2) 3 N mF (r 309),
 tp [],
 fl [],
 tp [s "self" 574,s "symbol" 575,s "state" 576,s "own" 577,s "whole" 578,s "bits" 579],
 tp [],
 f0 "ahead" "FseTable.ahead" (me 20 3),
 cA "ahead" "FseTable.ahead" 571 9 168 3 311,
 f1 "ahead" "FseTable.ahead" (me 20 3) 3 N mF (r 316),
 tp [s "bases" 583,s "bits" 584,s "counts" 585,s "log" 586,s "size" 587,s "states" 588,s "symbols" 589],
 di P [("__module__",544,mF),("__firstlineno__",548,it 146 547),("__init__",554,r 296),("has",562,r 303),("first_state",570,r 310),("ahead",582,r 317),("__static_attributes__",590,r 318),("__dict__",592,r 321),("__weakref__",594,r 322),("__doc__",595,N)] 4,
 kl [none,none,some (s "FseTable" 537),some (s "FseTable" 545),some (bi "object.__new__"),some (.bool true)] "FseTable" [t "object"] [r 320,t "object"] 319 [],
 fo (t "getset_descriptor") [s "__dict__" 591,r 320,bi "function.__dict__",bi "function.__dict__#set"],
 fo (t "getset_descriptor") [s "__weakref__" 593,r 320,bi "ExceptionGroup.__weakref__",N],
 fo (t "super") [r 320,r 320,r 320],
 fo (t "builtin_function_or_method") [bi "object.__init_subclass__",r 320],
 tp [],
 fP,
 di P [("__module__",605,mF),("__qualname__",607,s "FseReader" 606),("__firstlineno__",609,it 173 608),("__init__",617,r 338),("start",625,r 345),("symbol",632,r 352),("needs",639,r 359),("step",647,r 366),("__static_attributes__",650,r 367)] 9,
 tp [],
 fl [i 175,i 4,r 337,i 178,i 4,r 344,i 181,i 4,r 351,i 184,i 4,r 358,i 187,i 4,r 365],
 cB "FseReader" "FseReader" 600 173 328,
 pl (t "frame") [some (r 330),some (r 3),some (r 327),none,some mF,none,some (r 0)],
 tp [],
 fl [],
 tp [s "self" 613,s "table" 614],
 tp [],
 f0 "__init__" "FseReader.__init__" (me 21 0),
 cA "__init__" "FseReader.__init__" 610 5 175 2 332,
 f1 "__init__" "FseReader.__init__" (me 21 0) 3 N mF (r 337),
 tp [],
 fl [],
 tp [s "self" 621,s "back" 622],
 tp [],
 f0 "start" "FseReader.start" (me 21 1),
 cA "start" "FseReader.start" 618 5 178 2 339,
 f1 "start" "FseReader.start" (me 21 1) 3 N mF (r 344),
 tp [],
 fl [],
 tp [s "self" 629],
 tp [],
 f0 "symbol" "FseReader.symbol" (me 21 2),
 cA "symbol" "FseReader.symbol" 626 4 181 1 346,
 f1 "symbol" "FseReader.symbol" (me 21 2) 3 N mF (r 351),
 tp [],
 fl [],
 tp [s "self" 636],
 tp [],
 f0 "needs" "FseReader.needs" (me 21 3),
 cA "needs" "FseReader.needs" 633 4 184 1 353,
 f1 "needs" "FseReader.needs" (me 21 3) 3 N mF (r 358),
 tp [],
 fl [],
 tp [s "self" 643,s "back" 644],
 tp [],
 f0 "step" "FseReader.step" (me 21 4),
 cA "step" "FseReader.step" 640 5 187 2 360,
 f1 "step" "FseReader.step" (me 21 4) 3 N mF (r 365),
 tp [s "state" 648,s "table" 649],
 di P [("__module__",605,mF),("__firstlineno__",609,it 173 608),("__init__",617,r 338),("start",625,r 345),("symbol",632,r 352),("needs",639,r 359),("step",647,r 366),("__static_attributes__",650,r 367),("__dict__",652,r 370),("__weakref__",654,r 371),("__doc__",655,N)] 4,
 kl [none,none,some (s "FseReader" 598),some (s "FseReader" 606),some (bi "object.__new__"),some (.bool true)] "FseReader" [t "object"] [r 369,t "object"] 368 [],
 fo (t "getset_descriptor") [s "__dict__" 651,r 369,bi "function.__dict__",bi "function.__dict__#set"],
 fo (t "getset_descriptor") [s "__weakref__" 653,r 369,bi "ExceptionGroup.__weakref__",N],
 fo (t "super") [r 369,r 369,r 369],
 fo (t "builtin_function_or_method") [bi "object.__init_subclass__",r 369],
 tp [],
 fP,
 di P [("__module__",665,mF),("__qualname__",667,s "FseWriter" 666),("__firstlineno__",669,it 189 668),("__init__",677,r 387),("check",685,r 394),("start",693,r 401),("step",705,r 408),("end",713,r 415),("__static_attributes__",716,r 416)] 9,
 tp [],
 fl [i 191,i 4,r 386,i 194,i 4,r 393,i 198,i 4,r 400,i 202,i 4,r 407,i 208,i 4,r 414],
 cB "FseWriter" "FseWriter" 660 189 377,
 pl (t "frame") [some (r 379),some (r 3),some (r 376),none,some mF,none,some (r 0)],
 tp [],
 fl [],
 tp [s "self" 673,s "table" 674],
 tp [],
 f0 "__init__" "FseWriter.__init__" (me 22 0),
 cA "__init__" "FseWriter.__init__" 670 5 191 2 381,
 f1 "__init__" "FseWriter.__init__" (me 22 0) 3 N mF (r 386),
 tp [],
 fl [],
 tp [s "self" 681,s "symbol" 682],
 tp [],
 f0 "check" "FseWriter.check" (me 22 1),
 cA "check" "FseWriter.check" 678 5 194 2 388,
 f1 "check" "FseWriter.check" (me 22 1) 3 N mF (r 393),
 tp [],
 fl [],
 tp [s "self" 689,s "symbol" 690],
 tp [],
 f0 "start" "FseWriter.start" (me 22 2),
 cA "start" "FseWriter.start" 686 5 198 2 395,
 f1 "start" "FseWriter.start" (me 22 2) 3 N mF (r 400),
 tp [],
 fl [],
 tp [s "self" 697,s "back" 698,s "symbol" 699,s "state" 700,s "value" 701,s "count" 702],
 tp [],
 f0 "step" "FseWriter.step" (me 22 3),
 cA "step" "FseWriter.step" 694 9 202 3 402,
 f1 "step" "FseWriter.step" (me 22 3) 3 N mF (r 407),
 tp [],
 fl [],
 tp [s "self" 709,s "back" 710],
 tp [],
 f0 "end" "FseWriter.end" (me 22 4),
 cA "end" "FseWriter.end" 706 5 208 2 409,
 f1 "end" "FseWriter.end" (me 22 4) 3 N mF (r 414),
 tp [s "state" 714,s "table" 715],
 di P [("__module__",665,mF),("__firstlineno__",669,it 189 668),("__init__",677,r 387),("check",685,r 394),("start",693,r 401),("step",705,r 408),("end",713,r 415),("__static_attributes__",716,r 416),("__dict__",718,r 419),("__weakref__",720,r 420),("__doc__",721,N)] 4,
 kl [none,none,some (s "FseWriter" 658),some (s "FseWriter" 666),some (bi "object.__new__"),some (.bool true)] "FseWriter" [t "object"] [r 418,t "object"] 417 [],
 fo (t "getset_descriptor") [s "__dict__" 717,r 418,bi "function.__dict__",bi "function.__dict__#set"],
 fo (t "getset_descriptor") [s "__weakref__" 719,r 418,bi "ExceptionGroup.__weakref__",N],
 fo (t "super") [r 418,r 418,r 418],
 fo (t "builtin_function_or_method") [bi "object.__init_subclass__",r 418],
 tp [],
 fl [],
 tp [s "symbols" 727,s "table" 728,s "back" 729,s "writer" 730,s "symbol" 731],
 tp [],
 f0 "pack_symbols" "pack_symbols" (st 23),
 cA "pack_symbols" "pack_symbols" 724 8 210 2 423,
 f1 "pack_symbols" "pack_symbols" (st 23) 3 N mF (r 428),
 tp [],
 fl [],
 tp [s "octets" 738,s "table" 739,s "count" 740,s "back" 741,s "reader" 742,s "found" 743],
 tp [],
 f0 "unpack_symbols" "unpack_symbols" (st 24),
 cA "unpack_symbols" "unpack_symbols" 735 9 218 3 430,
 f1 "unpack_symbols" "unpack_symbols" (st 24) 3 N mF (r 435),
 tp [],
 fl [],
 tp [s "symbols" 750,s "table" 751,s "back" 752,s "writers" 753,s "last" 754,s "place" 755],
 tp [],
 f0 "pack_turns" "pack_turns" (st 25),
 cA "pack_turns" "pack_turns" 747 9 229 2 437,
 f1 "pack_turns" "pack_turns" (st 25) 3 N mF (r 442),
 tp [],
 fl [],
 tp [s "octets" 762,s "table" 763,s "most" 764,s "back" 765,s "readers" 766,s "found" 767,s "reader" 768,s "other" 769],
 tp [],
 f0 "unpack_turns" "unpack_turns" (st 26),
 cA "unpack_turns" "unpack_turns" 759 11 240 3 444,
 f1 "unpack_turns" "unpack_turns" (st 26) 3 N mF (r 449),
 tp [],
 fl [],
 tp [s "script" 778,s "k" 779],
 tp [],
 f0 "_law_cell" "_law_cell" (st 28),
 cA "_law_cell" "_law_cell" 775 5 252 2 451,
 f1 "_law_cell" "_law_cell" (st 28) 3 N mL (r 456),
 tp [],
 fl [],
 tp [s "cell" 786],
 tp [],
 f0 "_law_box" "_law_box" (st 29),
 cA "_law_box" "_law_box" 783 4 254 1 458,
 f1 "_law_box" "_law_box" (st 29) 3 N mL (r 463),
 tp [],
 fl [],
 tp [s "box" 793,s "many" 794,s "digit" 795,s "blend" 796],
 tp [],
 f0 "_law_take" "_law_take" (st 30),
 cA "_law_take" "_law_take" 790 7 256 2 465,
 f1 "_law_take" "_law_take" (st 30) 3 N mL (r 470),
 tp [],
 fl [],
 tp [s "box" 803,s "log" 804,s "many" 805,s "left" 806,s "found" 807,s "k" 808,s "most" 809,s "way" 810,s "part" 811],
 tp [],
 f0 "_law_drawn" "_law_drawn" (st 31),
 cA "_law_drawn" "_law_drawn" 800 12 264 3 472,
 f1 "_law_drawn" "_law_drawn" (st 31) 3 N mL (r 477),
 tp [],
 fl [],
 f0 "_law_spread" "_law_spread" (st 32),
 cC "_law_spread" "_law_spread" 815 273 2 479,
 f1 "_law_spread" "_law_spread" (st 32) 3 N mL (r 482),
 tp [],
 fl [],
 tp [s "symbols" 824,s "log" 825,s "size" 826,s "seen" 827,s "found" 828,s "symbol" 829,s "wide" 830,s "rank" 831],
 tp [],
 f0 "_law_cells" "_law_cells" (st 33),
 cA "_law_cells" "_law_cells" 821 11 288 2 484,
 f1 "_law_cells" "_law_cells" (st 33) 3 N mL (r 489),
 tp [],
 fl [],
 f0 "_law_bytes" "_law_bytes" (st 34),
 cC "_law_bytes" "_law_bytes" 835 299 1 491,
 f1 "_law_bytes" "_law_bytes" (st 34) 3 N mL (r 494),
 tp [],
 fl [],
 f0 "_law_low" "_law_low" (st 35),
 cC "_law_low" "_law_low" 841 302 2 496,
 f1 "_law_low" "_law_low" (st 35) 3 N mL (r 499),
 tp [],
 fl [],
 tp [s "cells" 850,s "symbol" 851,s "state" 852,s "place" 853],
 tp [],
 f0 "_law_ahead" "_law_ahead" (st 36),
 cA "_law_ahead" "_law_ahead" 847 7 304 3 501,
 f1 "_law_ahead" "_law_ahead" (st 36) 3 N mL (r 506),
 tp [],
 fl [],
 f0 "_law_least" "_law_least" (st 37),
 cC "_law_least" "_law_least" 857 309 2 508,
 f1 "_law_least" "_law_least" (st 37) 3 N mL (r 511),
 tp [],
 fl [],
 tp [s "cells" 866,s "log" 867,s "row" 868,s "state" 869,s "digits" 870,s "symbol" 871,s "more" 872],
 tp [],
 f0 "_law_one" "_law_one" (st 38),
 cA "_law_one" "_law_one" 863 10 311 3 513,
 f1 "_law_one" "_law_one" (st 38) 3 N mL (r 518),
 tp [],
 fl [],
 tp [s "cells" 879,s "log" 880,s "row" 881,s "digits" 882,s "states" 883,s "at" 884,s "more" 885],
 tp [],
 f0 "_law_two" "_law_two" (st 39),
 cA "_law_two" "_law_two" 876 10 317 3 520,
 f1 "_law_two" "_law_two" (st 39) 3 N mL (r 525),
 tp [],
 fl [],
 f0 "_law_digits" "_law_digits" (st 40),
 cC "_law_digits" "_law_digits" 889 326 1 527,
 f1 "_law_digits" "_law_digits" (st 40) 3 N mL (r 530),
 tp [],
 fl [],
 tp [s "digits" 898,s "at" 899,s "count" 900,s "value" 901,s "bit" 902],
 tp [],
 f0 "_law_number" "_law_number" (st 41),
 cA "_law_number" "_law_number" 895 8 333 3 532,
 f1 "_law_number" "_law_number" (st 41) 3 N mL (r 537),
 tp [],
 fl [],
 tp [s "cells" 909,s "log" 910,s "octets" 911,s "many" 912,s "digits" 913,s "found" 914,s "at" 915,s "wide" 916,s "base" 917,s "k" 918,s "state" 919],
 tp [],
 f0 "_law_single" "_law_single" (st 42),
 cA "_law_single" "_law_single" 906 14 338 4 539,
 f1 "_law_single" "_law_single" (st 42) 3 N mL (r 544),
 tp [],
 fl [],
 tp [s "cells" 926,s "log" 927,s "octets" 928,s "most" 929,s "digits" 930,s "states" 931,s "at" 932,s "found" 933,s "symbol" 934,s "wide" 935,s "base" 936],
 tp [],
 f0 "_law_turns" "_law_turns" (st 43),
 cA "_law_turns" "_law_turns" 923 14 351 4 546,
 f1 "_law_turns" "_law_turns" (st 43) 3 N mL (r 551),
 tp [],
 fl [],
 tp [s "call" 943,s "octets" 944,s "table" 945,s "many" 946],
 tp [],
 f0 "_law_told" "_law_told" (st 44),
 cA "_law_told" "_law_told" 940 7 366 4 553,
 f1 "_law_told" "_law_told" (st 44) 3 N mL (r 558),
 tp [],
 fl [],
 f0 "_law_bent" "_law_bent" (st 45),
 cC "_law_bent" "_law_bent" 950 373 2 560,
 f1 "_law_bent" "_law_bent" (st 45) 3 N mL (r 563),
 tp [],
 fl [],
 tp [s "cells" 959,s "log" 960,s "table" 961,s "octets" 962,s "many" 963],
 tp [],
 f0 "_law_read_right" "_law_read_right" (st 46),
 cA "_law_read_right" "_law_read_right" 956 8 384 5 565,
 f1 "_law_read_right" "_law_read_right" (st 46) 3 N mL (r 570),
 tp [],
 fl [],
 f0 "law" "law" (st 47),
 cC "law" "law" 967 388 1 572,
 f1 "law" "law" (st 47) 3 N mL (r 575)]
noncomputable def jH(x:BT)(n:Nat):List Obj→BT
 | []=>x
 | o::l=>jH (x.ins n o) (n+1) l
noncomputable def pat(x:BT):List (Nat×Obj)→BT
 | []=>x
 | p::l=>pat (x.ins p.1 p.2) l
noncomputable def T0(P:Params):BT:=pat (jH BT.nil 0 (((nG P).drop 0).take 15)) [(3,boot_o_3 P),(12,fl (mc.take 0))]
noncomputable def T1(P:Params):BT:=pat (jH (T0 P) 15 (((nG P).drop 15).take 28)) [(3,di P ((md.take 11).set 0 ("__name__",165,(s "threepress.errors" 194))) 11),(12,fl (mc.take 6)),(39,kl [(some (r 22)),none,(some (s "PressError" 196)),(some (s "PressError" 204)),(some (bi "ValueError.__new__")),(some (.bool true))] "PressError" [(t "ValueError")] [(r 39),(t "ValueError"),(t "Exception"),(t "BaseException"),(t "object")] 38 [])]
noncomputable def T2(P:Params):BT:=pat (jH (T1 P) 43 (((nG P).drop 43).take 12)) [(3,di P ((md.take 12).set 0 ("__name__",165,(s "threepress.errors" 194))) 12),(12,fl (mc.take 9)),(39,kl [(some (r 22)),none,(some (s "PressError" 196)),(some (s "PressError" 204)),(some (bi "ValueError.__new__")),(some (.bool true))] "PressError" [(t "ValueError")] [(r 39),(t "ValueError"),(t "Exception"),(t "BaseException"),(t "object")] 38 [(r 52)])]
noncomputable def T3(P:Params):BT:=pat (jH (T2 P) 55 (((nG P).drop 55).take 12)) [(3,di P ((md.take 13).set 0 ("__name__",165,(s "threepress.errors" 194))) 13),(12,fl (mc.take 12)),(39,kl [(some (r 22)),none,(some (s "PressError" 196)),(some (s "PressError" 204)),(some (bi "ValueError.__new__")),(some (.bool true))] "PressError" [(t "ValueError")] [(r 39),(t "ValueError"),(t "Exception"),(t "BaseException"),(t "object")] 38 [(r 52),(r 64)])]
noncomputable def T4(P:Params):BT:=pat (jH (T3 P) 67 (((nG P).drop 67).take 33)) [(3,di P ((md.take 17).set 0 ("__name__",165,(s "threepress.bits" 272))) 17),(12,fl (mc.take 24)),(39,kl [(some (r 22)),none,(some (s "PressError" 196)),(some (s "PressError" 204)),(some (bi "ValueError.__new__")),(some (.bool true))] "PressError" [(t "ValueError")] [(r 39),(t "ValueError"),(t "Exception"),(t "BaseException"),(t "object")] 38 [(r 52),(r 64),(r 76)])]
noncomputable def T5(P:Params):BT:=pat (jH (T4 P) 100 (((nG P).drop 100).take 70)) [(3,di P ((md.take 18).set 0 ("__name__",165,(s "threepress.bits" 272))) 18),(12,fl (mc.take 27))]
noncomputable def T6(P:Params):BT:=pat (jH (T5 P) 170 (((nG P).drop 170).take 49)) [(3,di P ((md.take 19).set 0 ("__name__",165,(s "threepress.bits" 272))) 19),(12,fl (mc.take 30))]
noncomputable def T7(P:Params):BT:=pat (jH (T6 P) 219 (((nG P).drop 219).take 49)) [(3,di P ((md.take 23).set 0 ("__name__",165,(s "threepress.fse" 505))) 23),(12,fl (mc.take 36))]
noncomputable def T8(P:Params):BT:=pat (jH (T7 P) 268 (((nG P).drop 268).take 17)) [(3,di P ((md.take 26).set 0 ("__name__",165,(s "threepress.fse" 505))) 26),(12,fl (mc.take 45))]
noncomputable def T9(P:Params):BT:=pat (jH (T8 P) 285 (((nG P).drop 285).take 40)) [(3,di P ((md.take 27).set 0 ("__name__",165,(s "threepress.fse" 505))) 27),(12,fl (mc.take 48))]
noncomputable def Wj(P:Params):BT:=pat (jH (T9 P) 325 (((nG P).drop 325).take 49)) [(3,di P ((md.take 28).set 0 ("__name__",165,(s "threepress.fse" 505))) 28),(12,fl (mc.take 51))]
noncomputable def Wi(P:Params):BT:=pat (jH (Wj P) 374 (((nG P).drop 374).take 56)) [(3,di P ((md.take 30).set 0 ("__name__",165,(s "threepress.fse" 505))) 30),(12,fl (mc.take 57))]
noncomputable def Wh(P:Params):BT:=pat (jH (Wi P) 430 (((nG P).drop 430).take 78)) [(3,di P (md.take 42) 42),(12,fl (mc.take 93))]
noncomputable def T13(P:Params):BT:=pat (jH (Wh P) 508 (((nG P).drop 508).take 69)) [(3,di P md 53),(12,fl mc)]
noncomputable def Gq:Life:={}
noncomputable def H0(P:Params):Heap:=⟨⟨((((nG P).take 15).set 3 (boot_o_3 P)).set 12 (fl (mc.take 0)))⟩,Gq⟩
noncomputable def H1(P:Params):Heap:=⟨⟨nG P⟩,Gq⟩
noncomputable def num(n:Nat):List Obj→Frag
 | []=>[]
 | o::l=>(n,o)::num (n+1) l
end Hd
open Hd in
noncomputable def KF(P:Params):Frag:=num 0 (nG P)
namespace Hd
noncomputable def Ei:Env:={ scope:=(Program.main pE).scope,locals:=mainNs,globals:=mainNs,cells:=[],code:=.ref 13,frame:=some 14 }
noncomputable abbrev cE:Code:=.body bE Ei
noncomputable abbrev p0:Pos:=⟨0,0,0,0⟩
noncomputable abbrev B0:List Frame:=[topFrame p0]
noncomputable abbrev tR:Option Value:=some (.ref 6)
noncomputable abbrev Ke(x:BT)(n k:Nat)(os:OsState):SharedT:=⟨x,n,Gq,⟨[]⟩,⟨0,0,0,0⟩,k,os⟩
noncomputable abbrev Sh(h:Heap)(k:Nat)(os:OsState):Shared:=⟨h,⟨[]⟩,⟨0,0,0,0⟩,k,os⟩
noncomputable def sts(a n:Nat):List Stmt:=(bE.drop a).take n
noncomputable def Leaf(sg:(String→Option Builtin)→Program→World→Nat→Option Value→Nat→Nat→SharedT→Thread→Option (Flow×SharedT×Code×Pos))(tb:String→Option Builtin)
  (x:Params→BT)(n k:Nat)(p:Pos)(a m steps:Nat)(y:Params→BT)(n' k':Nat)(p':Pos):Prop:=
 ∀ w:World,(λos=>sg tb pE w 11 tR 1 steps (Ke (x w.params) n k os) (piecesOf (sts a m) Ei cE p B0))=λos=>some (.next,Ke (y w.params) n' k' os,cE,p')
theorem Leaf.of{x n k p a m steps y n' k' p'} (h:Leaf Fast.tw10110043849684766642 Fast.tw14364793385576792824 x n k p a m steps y n' k' p'):Leaf segRunT treeTable x n k p a m steps y n' k' p':=by
 rw[Fast.te10110043849684766642,Fast.te14364793385576792824];exact h
theorem Leaf.run{x n k p a m steps y n' k' p'} (h:Leaf segRunT treeTable x n k p a m steps y n' k' p') {w:World}{os:OsState}{rest:List Stmt}{N:Nat}{r:Shared} (z:topRun treeTable pE w 11 tR N (Ke (y w.params) n' k' os).abs (restOf rest Ei cE p' B0)=some r) :
  topRun treeTable pE w 11 tR (steps+N) (Ke (x w.params) n k os).abs (restOf (sts a m++rest) Ei cE p B0)=some r:=
 piece_app (segRun_of (congrFun (h w) os)) z
theorem Vb:Leaf segRunT treeTable T0 15 187 ⟨0,0,0,0⟩ 0 3 259 T1 43 224 ⟨5,0,9,28⟩:=.of λw=>by kernel_rfl
theorem Va:Leaf segRunT treeTable T1 43 224 ⟨5,0,9,28⟩ 3 1 214 T2 55 240 ⟨10,0,11,8⟩:=.of λw=>by kernel_rfl
theorem U9:Leaf segRunT treeTable T2 55 240 ⟨10,0,11,8⟩ 4 1 214 T3 67 256 ⟨12,0,13,8⟩:=.of λw=>by kernel_rfl
theorem U8:Leaf segRunT treeTable T3 67 256 ⟨12,0,13,8⟩ 5 5 318 T4 100 303 ⟨24,0,31,35⟩:=.of λw=>by kernel_rfl
theorem U7:Leaf segRunT treeTable T4 100 303 ⟨24,0,31,35⟩ 10 1 448 T5 170 389 ⟨32,0,67,45⟩:=.of λw=>by kernel_rfl
theorem U6:Leaf segRunT treeTable T5 170 389 ⟨32,0,67,45⟩ 11 1 354 T6 219 453 ⟨68,0,95,20⟩:=.of λw=>by kernel_rfl
theorem U5:Leaf segRunT treeTable T6 219 453 ⟨68,0,95,20⟩ 12 5 374 T7 268 518 ⟨116,0,117,38⟩:=.of λw=>by kernel_rfl
theorem U4:Leaf segRunT treeTable T7 268 518 ⟨116,0,117,38⟩ 17 3 82 T8 285 537 ⟨128,0,145,18⟩:=.of λw=>by kernel_rfl
theorem U3:Leaf segRunT treeTable T8 285 537 ⟨128,0,145,18⟩ 20 1 325 T9 325 598 ⟨146,0,172,79⟩:=.of λw=>by kernel_rfl
theorem U0:Leaf segRunT treeTable T9 325 598 ⟨146,0,172,79⟩ 21 1 350 Wj 374 658 ⟨173,0,188,75⟩:=.of λw=>by kernel_rfl
theorem QG:Leaf segRunT treeTable Wj 374 658 ⟨173,0,188,75⟩ 22 2 389 Wi 430 735 ⟨210,0,217,22⟩:=.of λw=>by kernel_rfl
theorem QF:Leaf segRunT treeTable Wi 430 735 ⟨210,0,217,22⟩ 24 13 388 Wh 508 857 ⟨304,0,308,15⟩:=.of λw=>by kernel_rfl
theorem QD:Leaf segRunT treeTable Wh 508 857 ⟨304,0,308,15⟩ 37 11 351 T13 577 973 ⟨388,0,409,15⟩:=.of λw=>by kernel_rfl
noncomputable def Pre(tg:(String→Option Builtin)→Program→World→Nat→Option Value→Nat→Shared→Thread→Option (Shared×Thread))(tb:String→Option Builtin)(dn:(String→Option Builtin)→Code→Sem PySem.Fin):Prop:=
 ∀ w:World,(λos=>tg tb pE w 11 tR 12 ⟨boot_heap w.params,⟨[]⟩,boot_drawn,boot_toks,os⟩ (topStub pE))=λos=>some (Sh (H0 w.params) 187 os,⟨dn tb cE,cE,p0,B0⟩)
theorem pre:Pre topGo treeTable denote:=by
 rw[Fast.te15667345088766844465,Fast.te14364793385576792824,Fast.te11892475500146522536]
 exact λw=>by kernel_rfl
noncomputable def Blk(sg:(String→Option Builtin)→Program→World→Nat→Option Value→Nat→Nat→Shared→Thread→Option (Flow×Shared×Code×Pos))(tb:String→Option Builtin):Prop:=
 ∀ w:World,(λos=>sg tb pE w 11 tR 1 1 (Sh (H0 w.params) 187 os) (blockOf bE Ei cE p0 B0))=λos=>some (.next,(Ke (T0 w.params) 15 187 os).abs,cE,p0)
theorem blk:Blk segRun treeTable:=by
 rw[Fast.te14374325043358763698,Fast.te14364793385576792824]
 exact λw=>by kernel_rfl
noncomputable def Las(tr:(String→Option Builtin)→Program→World→Nat→Option Value→Nat→Shared→Thread→Option Shared)(tb:String→Option Builtin):Prop:=
 ∀ w:World,(λos=>tr tb pE w 11 tR 2 (Ke (T13 w.params) 577 973 os).abs ⟨doneF .next,cE,⟨388,0,409,15⟩,B0⟩)=λos=>some (Sh (H1 w.params) 973 os)
theorem las:Las topRun treeTable:=by
 rw[Fast.te14082659384304107361,Fast.te14364793385576792824]
 exact λw=>by kernel_rfl
theorem cut:bE=(sts 0 3++(sts 3 1++(sts 4 1++(sts 5 5++(sts 10 1++(sts 11 1++(sts 12 5++(sts 17 3++(sts 20 1++(sts 21 1++(sts 22 2++(sts 24 13++(sts 37 11++[]))))))))))))):=by kernel_rfl
theorem run(w:World)(os:OsState):topRun treeTable pE w 11 tR (12+(1+(259+(214+(214+(318+(448+(354+(374+(82+(325+(350+(389+(388+(351+2))))))))))))))) ⟨boot_heap w.params,⟨[]⟩,boot_drawn,boot_toks,os⟩ (topStub pE)=some (Sh (H1 w.params) 973 os):=
 go_top (congrFun (pre w) os) (piece_block (congrFun (blk w) os) (by rw[cut];exact(Vb.run (Va.run (U9.run (U8.run (U7.run (U6.run (U5.run (U4.run (U3.run (U0.run (QG.run (QF.run (QD.run (congrFun (las w) os))))))))))))))))
theorem size(w:World):((boot_heap w.params).isNs mainGlobals&&(⟨[]⟩:Array GenState).size == 0,(boot_heap w.params).objs.size,(boot_heap w.params).nsMap mainGlobals "__annotations__")=(true,11,tR):=by kernel_rfl
noncomputable def vw:Program:={ pE with main:={ (Program.main pE) with body:=([0,2,3,4,5,7,8,9,10,11,12,14,15,16,17,18,19,20,21,22,23,24,25,26,28,29,30,31,32,33,34,35,36,37,38,39,40,41,42,43,44,45,46,47]:List Nat).map st } }
noncomputable def KA:List Addr:=List.range 577
noncomputable def hook:Hook:=kHook KF KA λ_=>by kernel_rfl
theorem looks:∀ w:World,(λos=>((staticsOk (importedModules (Program.main pE).body) (boot_heap w.params) (H1 w.params)&&namesBound pE (H1 w.params)&&gensDone (Sh (H1 w.params) 973 os)&&laidKept (boot_heap w.params) (H1 w.params)),
  openSeen vw ["PressError"] (importedModules (Program.main pE).body) (λs=>xlAt vw [] s&&recOk zV.records s) true (Sh (H1 w.params) 973 os),hook.obs (Sh (H1 w.params) 973 os)))=λ_=>(true,openGood vw ["PressError"],hook.val w):=λw=>by kernel_rfl
theorem left:LeftO pE vw ["PressError"] (λs=>xlAt vw [] s&&recOk zV.records s) hook.obs hook.val 100000 true:=
 LeftO.of_pieces (boot_open (by kernel_rfl) (by decide) λ_=>by kernel_rfl) size run (by decide) looks
noncomputable def Dn:DefRec:=⟨Str.ofString "law",V5 (st 47),Rm (st 47),V4 (st 47),⟨388,0,409,15⟩⟩
theorem said:TP.wellSaid=true:=by decide +kernel
theorem okq:(chainsOk vw&&opensWell pE&&(frees zV&&zV.within.isEmpty))=true:=by decide +kernel
theorem bare:pE.bare:=⟨rfl,rfl,rfl,rfl,rfl,by decide +kernel⟩
theorem promised:zV.promised:=⟨[.list []],by decide +kernel,by decide +kernel⟩
theorem named:defOf vw zV.name=some (Dn,[]):=by kernel_rfl
theorem WD:pE.theDef zV.name=some (Dn.params,Dn.body,Dn.scope):=by kernel_rfl
end Hd
open Hd in
theorem head(walk:OD vw ["PressError"] (XL vw []) hook.says zV Dn []):TP.Holds:=
 holds_law said λsaid=>Gz left hook.of hook.keeps (λs e=>xl_of s (bI e).1) XL.keeps named WD (by kernel_rfl) (λs e=>recFacts_of (bI e).2) (by kernel_rfl) said okq bare promised walk
noncomputable abbrev Pr:Program:=PySem.Challenge.pw_nz0422_01
noncomputable abbrev KK(w:World):Frag:=KF w.params
inductive AV where
 | none|bool (b:Bool)|int (i:Int)|str (s:Str)|bytes (l:List Nat)|ref (a:Addr)|typ (n:String)|bi (n:String)
inductive Rv:AV→Value→Prop
 | none:Rv .none .none
 | bool (b:Bool):Rv (.bool b) (.bool b)
 | int (i:Int) (t:Tok):Rv (.int i) (.int i t)
 | str (s:Str) (t:Tok):Rv (.str s) (.str s t)
 | bytes (b:Array UInt8) (t:Tok) (l:List Nat) (h:b.toList.map UInt8.toNat=l):Rv (.bytes l) (.bytes b t)
 | ref (a:Addr):Rv (.ref a) (.ref a)
 | typ (n:String):Rv (.typ n) (.type n)
 | bi (n:String):Rv (.bi n) (.builtin n)
inductive bF:List AV→List Value→Prop
 | nil:bF [] []
 | cons {a v as vs}:Rv a v→bF as vs→bF (a::as) (v::vs)
noncomputable def RvI:AV→Value→Prop
 | .none,v=>v=.none
 | .bool b,v=>v=.bool b
 | .int i,v=>∃ t,v=.int i t
 | .str i,v=>∃ t,v=.str i t
 | .bytes l,v=>∃ b t,b.toList.map UInt8.toNat=l∧v=.bytes b t
 | .ref a,v=>v=.ref a
 | .typ a,v=>v=.type a
 | .bi a,v=>v=.builtin a
theorem Rv.inv{a v} (h:Rv a v):RvI a v:=by
 cases h with
 | none=>exact rfl
 | bool b=>exact rfl
 | int i t=>exact⟨_,rfl⟩
 | str s t=>exact⟨_,rfl⟩
 | bytes b t l h=>exact⟨_,_,h,rfl⟩
 | ref a=>exact rfl
 | typ a=>exact rfl
 | bi a=>exact rfl
theorem Rv.noneE{motive:∀ v,Rv .none v→Prop}(mk:motive _ .none) {v} (h:Rv .none v):motive v h:=by obtain rfl:=h.inv;exact mk
theorem Rv.sE{b}{motive:∀ v,Rv (.bool b) v→Prop} (mk:motive _ (.bool b)) {v} (h:Rv (.bool b) v):motive v h:=by obtain rfl:=h.inv;exact mk
theorem Rv.aR{i}{motive:∀ v,Rv (.int i) v→Prop} (mk:∀ t,motive _ (.int i t)) {v} (h:Rv (.int i) v):motive v h:=by refine uE (λt Lb=>?_) (h.inv);subst Lb;exact mk _
theorem Rv.Ib{i}{motive:∀ v,Rv (.str i) v→Prop} (mk:∀ t,motive _ (.str i t)) {v} (h:Rv (.str i) v):motive v h:=by refine uE (λt Ld=>?_) (h.inv);subst Ld;exact mk _
theorem Rv.gH{l}{motive:∀ v,Rv (.bytes l) v→Prop} (mk:∀ b t h,motive _ (.bytes b t l h)) {v} (h:Rv (.bytes l) v):motive v h:=by refine bw (λb t q1 Le=>?_) (h.inv);subst Le;exact mk b t q1
theorem Rv.bJ{a}{motive:∀ v,Rv (.ref a) v→Prop} (mk:motive _ (.ref a)) {v} (h:Rv (.ref a) v):motive v h:=by obtain rfl:=h.inv;exact mk
theorem Rv.lg{a}{motive:∀ v,Rv (.typ a) v→Prop} (mk:motive _ (.typ a)) {v} (h:Rv (.typ a) v):motive v h:=by obtain rfl:=h.inv;exact mk
theorem Rv.qb{a}{motive:∀ v,Rv (.bi a) v→Prop} (mk:motive _ (.bi a)) {v} (h:Rv (.bi a) v):motive v h:=by obtain rfl:=h.inv;exact mk
theorem bF.jX{motive:∀ v,bF [] v→Prop}(mk:motive _ .nil) {v} (h:bF [] v):motive v h:=by cases h;exact mk
theorem bF.cV{a as}{motive:∀ v,bF (a::as) v→Prop} (mk:∀ {v vs} h1 h2,motive (v::vs) (.cons h1 h2)) {v} (h:bF (a::as) v):motive v h:=by cases h with|cons h1 h2=>exact mk h1 h2
inductive gq (P:Params):List (Str×AV)→List DictEntry→Prop
 | nil:gq P [] []
 | cons {x a v t fs es}:Rv a v→gq P fs es→gq P ((x,a)::fs) (⟨PyData.keyHash P x,.str x t,v⟩::es)
inductive jQ:List (Int×AV)→List (Int×Value)→Prop
 | nil:jQ [] []
 | cons {i a v ps qs}:Rv a v→jQ ps qs→jQ ((i,a)::ps) ((i,v)::qs)
inductive AO where
 | list (xs:List AV)|tuple (xs:List AV)|bytearray (l:List Nat)|inst (C d:Addr)|ns (fs:List (Str×AV))|cell (v:Option AV)|raw (o:Obj)
 | dict (kvs:List (Int×AV))|bh (l:Addr) (i:Nat)|range (a b c:Int)|eF (x left step:Int)|slice (l u s:Option Int)
 | cJ (it:Addr) (k:Nat)|fM (l:List Nat) (i:Nat)|exc (C:Addr) (fresh:Bool)
inductive At (w:World):AO→Obj→Prop
 | list {xs vs n}:bF xs vs→At w (.list xs) (listOf vs.toArray n)
 | tuple {xs vs n}:bF xs vs→At w (.tuple xs) { cls:=.type "tuple",data:=.seq vs.toArray n }
 | bytearray {l b n}:b.toList.map UInt8.toNat=l→n=0→At w (.bytearray l) { cls:=.type "bytearray",data:=.bytearray b n }
 | inst {C d}:At w (.inst C d) (instObj C d)
 | ns {fs es n}:gq w.params fs es→(fs.map (·.1)).Nodup→At w (.ns fs) (dictOf es n)
 | cell {a v o}:o.data=.cell (some v)→Rv a v→At w (.cell (some a)) o
 | Hw {o}:o.data=.cell none→At w (.cell none) o
 | raw {o}:At w (.raw o) o
 | dict {kvs qs o}:jQ kvs qs→Obj.IsDictOf (intKind Pr w) o qs→At w (.dict kvs) o
 | bh {l i o}:o.cls=.type "list_iterator"→o.data=.fields #[.ref l,.int i 0]→At w (.bh l i) o
 | range {a b c t u v}:At w (.range a b c) { cls:=.type "range",data:=.fields #[.int a t,.int b u,.int c v] }
 | eF {x left step}:At w (.eF x left step) { cls:=.type "range_iterator",data:=.fields #[rawInt x,rawInt left,rawInt step] }
 | cJ {it k old}:At w (.cJ it k) { cls:=.type "enumerate",data:=.fields #[.none,.bool false,.ref it,rawInt (k:Int),.none,old] }
 | fM {l i o b t}:o.cls=.type "bytes_iterator"→o.data=.fields #[.bytes b t,.int (i:Nat) 0]→b.toList.map UInt8.toNat=l→At w (.fM l i) o
 | exc {C a0 od sl fr}:(fr=true→od=none)→At w (.exc C fr) { cls:=.ref C,dict:=od,data:=.fields #[.ref a0,.none,.none,.none,.bool false,.none],slots:=sl }
 | slice {l u s vl vu vs}:IsPart vl l→IsPart vu u→IsPart vs s→At w (.slice l u s) { cls:=.type "slice",data:=.fields #[vl,vu,vs] }
noncomputable abbrev Led:=List (Addr×AO)
noncomputable abbrev au:=List (Str×Option AV)
inductive bA (P:World):Led→List (Addr×Obj)→Prop
 | nil:bA P [] []
 | cons {a ao o σ news}:At P ao o→bA P σ news→bA P ((a,ao)::σ) ((a,o)::news)
noncomputable def AtI(w:World):AO→Obj→Prop
 | .list xs,o=>∃ vs n,bF xs vs∧o=listOf vs.toArray n
 | .tuple xs,o=>∃ vs n,bF xs vs∧o={ cls:=.type "tuple",data:=.seq vs.toArray n }
 | .bytearray l,o=>∃ b n,b.toList.map UInt8.toNat=l∧n=0∧o={ cls:=.type "bytearray",data:=.bytearray b n }
 | .inst C d,o=>o=instObj C d
 | .ns fs,o=>∃ es n,gq w.params fs es∧(fs.map (·.1)).Nodup∧o=dictOf es n
 | .cell (some a),o=>∃ v,o.data=.cell (some v)∧Rv a v
 | .raw r,o=>o=r
 | .bh l i,o=>o.cls=.type "list_iterator"∧o.data=.fields #[.ref l,.int i 0]
 | .range a b c,o=>∃ t u v,o={ cls:=.type "range",data:=.fields #[.int a t,.int b u,.int c v] }
 | .eF x left step,o=>o={ cls:=.type "range_iterator",data:=.fields #[rawInt x,rawInt left,rawInt step] }
 | .cJ it k,o=>∃ old,o={ cls:=.type "enumerate",data:=.fields #[.none,.bool false,.ref it,rawInt (k:Int),.none,old] }
 | .fM l i,o=>∃ b t,o.cls=.type "bytes_iterator"∧o.data=.fields #[.bytes b t,.int (i:Nat) 0]∧b.toList.map UInt8.toNat=l
 | .slice l u s,o=>∃ vl vu vs,IsPart vl l∧IsPart vu u∧IsPart vs s∧o={ cls:=.type "slice",data:=.fields #[vl,vu,vs] }
 | _,_=>True
theorem At.inv{w ao o} (h:At w ao o):AtI w ao o:=by
 cases h with
 | list h=>exact⟨_,_,h,rfl⟩
 | tuple h=>exact⟨_,_,h,rfl⟩
 | bytearray h h2=>exact⟨_,_,h,h2,rfl⟩
 | inst=>exact rfl
 | ns h h2=>exact⟨_,_,h,h2,rfl⟩
 | cell h h2=>exact⟨_,h,h2⟩
 | Hw h=>exact trivial
 | raw=>exact rfl
 | dict h h2=>exact trivial
 | bh h h2=>exact⟨h,h2⟩
 | range=>exact⟨_,_,_,rfl⟩
 | eF=>exact rfl
 | cJ=>exact⟨_,rfl⟩
 | fM h h2 h3=>exact⟨_,_,h,h2,h3⟩
 | exc h=>exact trivial
 | slice h h2 h3=>exact⟨_,_,_,h,h2,h3,rfl⟩
theorem At.Ci{w r}{motive:∀ o,At w (.raw r) o→Prop} (mk:motive _ .raw) {o} (h:At w (.raw r) o):motive o h:=by obtain rfl:=h.inv;exact mk
theorem At.uz{w a k}{motive:∀ o,At w (.cJ a k) o→Prop} (mk:∀ old,motive _ (.cJ (old:=old))) {o} (h:At w (.cJ a k) o):motive o h:=by refine uE (λold Lf=>?_) (h.inv);subst Lf;exact mk _
theorem At.zW{w a k s}{motive:∀ o,At w (.eF a k s) o→Prop} (mk:motive _ .eF) {o} (h:At w (.eF a k s) o):motive o h:=by obtain rfl:=h.inv;exact mk
theorem bA.jX{P}{motive:∀ o,bA P [] o→Prop} (mk:motive _ .nil) {o} (h:bA P [] o):motive o h:=by cases h;exact mk
theorem bA.cV{P a ao σ}{motive:∀ o,bA P ((a,ao)::σ) o→Prop} (mk:∀ {o news} h1 h2,motive ((a,o)::news) (.cons h1 h2)) {o} (h:bA P ((a,ao)::σ) o):motive o h:=by cases h with|cons h1 h2=>exact mk h1 h2
theorem At.listE{w xs}{motive:∀ o,At w (.list xs) o→Prop} (mk:∀ {vs n} h,motive _ (.list (vs:=vs) (n:=n) h)) {o} (h:At w (.list xs) o):motive o h:=by refine bw (λ_ _ q1 Lg=>?_) (h.inv);subst Lg;exact mk q1
theorem At.zP{w xs}{motive:∀ o,At w (.tuple xs) o→Prop} (mk:∀ {vs n} h,motive _ (.tuple (vs:=vs) (n:=n) h)) {o} (h:At w (.tuple xs) o):motive o h:=by refine bw (λ_ _ q1 Cq=>?_) (h.inv);subst Cq;exact mk q1
theorem At.Eu{w xs}{motive:∀ o,At w (.bytearray xs) o→Prop} (mk:∀ {b n} h h2,motive _ (.bytearray (b:=b) (n:=n) h h2)) {o} (h:At w (.bytearray xs) o):motive o h:=by refine gZ (λ_ _ q1 q2 Cr=>?_) (h.inv);subst Cr;exact mk q1 q2
theorem At.nsE{w fs}{motive:∀ o,At w (.ns fs) o→Prop} (mk:∀ {es n} h h2,motive _ (.ns (es:=es) (n:=n) h h2)) {o} (h:At w (.ns fs) o):motive o h:=by refine gZ (λ_ _ q1 q2 Cu=>?_) (h.inv);subst Cu;exact mk q1 q2
theorem At.zU{w l u s}{motive:∀ o,At w (.slice l u s) o→Prop} (mk:∀ {vl vu vs} h1 h2 h3,motive _ (.slice (vl:=vl) (vu:=vu) (vs:=vs) h1 h2 h3)) {o} (h:At w (.slice l u s) o):motive o h:=by refine gB (λ_ _ _ q1 q2 q3 Cv=>?_) (h.inv);subst Cv;exact mk q1 q2 q3
theorem At.Bp{w l i}{motive:∀ o,At w (.fM l i) o→Prop} (mk:∀ {o b t} h1 h2 h3,motive o (.fM (b:=b) (t:=t) h1 h2 h3)) {o} (h:At w (.fM l i) o):motive o h:=by refine gZ (λ_ _ q1 q2 q3=>?_) (h.inv);exact mk q1 q2 q3
theorem At.QC{w l i}{motive:∀ o,At w (.bh l i) o→Prop} (mk:∀ {o} h1 h2,motive o (.bh h1 h2)) {o} (h:At w (.bh l i) o):motive o h:=by refine uA (λq1 q2=>?_) (h.inv);exact mk q1 q2
theorem At.Qn{w x y z}{motive:∀ o,At w (.range x y z) o→Prop} (mk:∀ {t u v},motive _ (.range (t:=t) (u:=u) (v:=v))) {o} (h:At w (.range x y z) o):motive o h:=by refine dO (λ_ _ _ Lh=>?_) (h.inv);subst Lh;exact mk
theorem At.Ve{w x y}{motive:∀ o,At w (.inst x y) o→Prop} (mk:motive _ .inst) {o} (h:At w (.inst x y) o):motive o h:=by obtain rfl:=h.inv;exact mk
structure RelV(m:au)(M:Str→Option Value):Prop where
 nd:(m.map (·.1)).Nodup
 at_:∀ x a,(x,some a)∈m→∃ v,M x=some v∧Rv a v
theorem bA.keys{P σ news} (h:bA P σ news):news.map (·.1)=σ.map (·.1):=by
 induction h with
 | nil=>rfl
 | cons _ _ ih=>simp[ih]
theorem bA.mem{P σ news} (h:bA P σ news) {a ao} (hm:(a,ao)∈σ):∃ o,(a,o)∈news∧At P ao o:=by
  induction h with
  | nil=>cases hm
  | cons ha _ ih=>
    rcases List.mem_cons.mp hm with q|q
    · cases q;exact⟨_,.head _,ha⟩
    · refine aD (λo h1 h2=>?_) (ih q);exact⟨o,.tail _ h1,h2⟩
theorem bA.append{P σ σ' news news'} (h:bA P σ news) (h':bA P σ' news'):bA P (σ++σ') (news++news'):=by
 induction h with
 | nil=>exact h'
 | cons ha _ ih=>exact .cons ha ih
theorem bA.split{P}{σ σ':Led}:∀ {news},bA P (σ++σ') news→∃ n1 n2,news=n1++n2∧bA P σ n1∧bA P σ' n2:=by
  induction σ with
  | nil=>exact λ{news} h=>⟨[],news,rfl,.nil,h⟩
  | cons p σ ih=>
    intro news h
    change bA P ((p.1,p.2)::(σ++σ')) news at h
    cases h using bA.cV with
    | mk ha h=>exact gZ (λn1 n2 e h1 h2=>⟨_::n1,n2,congrArg (_ :: ·) e,.cons ha h1,h2⟩) (ih h)
theorem bA.perm{P σ σ' news} (h:bA P σ news) (p:σ.Perm σ'):∃ news',news.Perm news'∧bA P σ' news':=by
 induction p generalizing news with
 | nil=>cases h using bA.jX;exact⟨[],.nil,.nil⟩
 | cons x _ ih=>cases h using bA.cV with|mk ha h=>refine aD (λn p r=>?_) (ih h);exact⟨_::n,p.cons _,.cons ha r⟩
 | swap x y l=>cases h using bA.cV with|mk ha h=>cases h using bA.cV with|mk hb h=>exact⟨_,.swap _ _ _,.cons hb (.cons ha h)⟩
 | trans _ _ ih1 ih2=>refine aD (λn1 p1 r1=>?_) (ih1 h);refine aD (λn2 p2 r2=>?_) (ih2 r1);exact⟨n2,p1.trans p2,r2⟩
theorem bF.length{as vs} (h:bF as vs):vs.length=as.length:=by
 induction h with
 | nil=>rfl
 | cons _ _ ih=>simp[ih]
theorem bF.get{as vs} (h:bF as vs) {i:Nat}{a:AV} (e:as[i]?=some a):∃ v,vs[i]?=some v∧Rv a v:=by
  induction h generalizing i with
  | nil=>simp at e
  | cons ha _ ih=>
    cases i with
    | zero=>simp at e;subst e;exact⟨_,rfl,ha⟩
    | succ i=>simp at e;refine aD (λv h1 h2=>?_) (ih e);exact⟨v,by simpa using h1,h2⟩
theorem bF.append{as vs bs ws} (h:bF as vs) (h':bF bs ws):bF (as++bs) (vs++ws):=by
 induction h with
 | nil=>exact h'
 | cons ha _ ih=>exact .cons ha ih
structure Fx where
 A:Around
 env:Env
 base:Heap
 rest:List Env
 frs:List Env
 g0:Heap
 os:OsState
 fz:Led
 cl:Bool
noncomputable def bk(l:List Env)(h h':Heap):Prop:=∀ e∈l,∀ L o,e.frame=some L→h.get? L=some o→∃ sl,h'.get? L=some { o with slots:=sl }
theorem bk.trans{l h1 h2 h3} (a:bk l h1 h2) (b:bk l h2 h3):bk l h1 h3:=λe he L o hf ho=>by
 refine uE (λsl h=>?_) (a e he L o hf ho)
 refine uE (λsl' h'=>?_) (b e he L _ hf h)
 exact⟨sl',h'⟩
theorem bk.of_stays{l h h'} (k:Heap.StaysIn h h'):bk l h h':=λ_ _ L o _ ho=>⟨o.slots,k L o ho⟩
theorem bk.tail{e l h h'} (k:bk (e::l) h h'):bk l h h':=λe he=>k e (.tail _ he)
theorem bk.of_slots{l h h' base} (ff:h.FunFrames base l) (k:h.UpToSlots h'):bk l h h':=λe he L o hf ho=>by
 refine k L o ho λvs q=>?_
 have hm:L∈l.filterMap (·.frame):=List.mem_filterMap.mpr ⟨e,he,hf⟩
 refine HY (λ_ o' ho' hd=>?_) (ff.mem hm)
 rw[ho] at ho';cases ho'
 exact hd vs q
theorem bk.ff{l h h' base} (ff:h.FunFrames base l) (k:bk l h h'):h'.FunFrames base l:=by
  induction l with
  | nil=>trivial
  | cons env rest ih=>
    refine gJ (λhk WR hr=>?_) ff;refine lO (λL o hf hn ho hd=>?_) WR
    refine uE (λsl h1=>?_) (k env (.head _) L o hf ho)
    exact⟨hk,⟨L,_,hf,hn,h1,hd⟩,ih hr k.tail⟩
structure tU(h:Heap):Prop where
 ex:∃ mg mb,h.Ns mainGlobals mg∧h.Ns builtinsNs mb∧∀ x:Str,x≠ "__name__"→mb x=bootBuiltins x
 nolimit:h.NoLimit
theorem tU.keeps{h h'} (T:tU h) (k:Heap.StaysIn h h'):tU h':=by
 obtain⟨⟨mg,mb,a,b,c⟩,n⟩:=T
 exact⟨⟨mg,mb,a.keeps k,b.keeps k,c⟩,n.keeps k⟩
noncomputable def oE(A:Around)(n:Nat):Prop:=A.depth+4*n<900∧A.units+32*n<9000
structure aC(w:World)(n:Nat)(fx:Fx):Prop where
 lD:(KK w).In fx.base
 top:tU fx.base
 own:fx.A.frames=some fx.frs
 cases:fx.frs=fx.rest∨(fx.frs=fx.env::fx.rest∧fx.env.frame=some fx.env.locals)
 hand:fx.A.handled=none
 kind:fx.env.scope.kind=.function
 glob:fx.env.globals=mainGlobals
 bi:fx.env.builtins=builtinsNs
 ff:fx.g0.FunFrames fx.base fx.rest
 Bm:oE fx.A n
 gd:fx.cl=true→fx.A.guards=some []
structure gF(w:World)(fx:Fx)(m:au)(σ:Led)(s:Shared)(g:Heap)(M:Str→Option Value)(news:List (Addr×Obj)):Prop where
 stays:fx.base.StaysIn g
 keep:bk fx.rest fx.g0 g
 F:Fr g fx.env.locals s.heap M
 N:News g fx.env.locals s.heap news
 vars:RelV m M
 led:bA w (σ++fx.fz) news
 nd:((σ++fx.fz).map (·.1)).Nodup
 gens:s.gens = #[]
 os:s.os=fx.os
noncomputable def Holds(w:World)(fx:Fx)(m:au)(σ:Led)(s:Shared):Prop:=∃ g M news,gF w fx m σ s g M news
structure xG(w:World)(fx:Fx)(X:Value→Prop)(s:Shared)(ea:Addr)(cls a0:Value):Prop where
 ok:X cls
 ns:∃ M,s.heap.Ns fx.env.locals M
 above:∀ b o,fx.base.get? b=some o→b<fx.env.locals
 Az:∀ e∈fx.rest,∀ b,e.frame=some b→b<fx.env.locals
 keep:bk fx.rest fx.g0 s.heap
 gens:s.gens = #[]
 os:s.os=fx.os
 stays:fx.base.StaysIn s.heap
 new:fx.base.get? ea=none
 loc:fx.base.get? fx.env.locals=none
 frames:s.heap.FunFrames fx.base fx.frs
 tr:(∃ fl,(fl=Value.none∨∃ L,fx.env.frame=some L∧fl=rawInt L)∧s.heap.TracedAtW fx.base ea cls a0 fl)∨
  (∃ oe vs,s.heap.get? ea=some oe∧oe.cls=cls∧oe.data=.fields vs∧vs[1]?=some .none∧vs[0]?=some a0)
noncomputable def XR(w:World)(fx:Fx)(X:Value→Prop)(e:Value)(s:Shared):Prop:=∃ ea cls a0,e=.ref ea∧xG w fx X s ea cls a0
noncomputable def bN:Value→Prop:=λ_=>False
noncomputable def WP{α:Type}(w:World)(fx:Fx)(t:Sem α)(m:au)(σ:Led)(Q:α→au→Led→Prop)(X:Value→Prop):Prop:=
 ∀ s,Holds w fx m σ s→bH fx.cl (model Pr w) fx.A t (λv s'=>∃ m' σ',Holds w fx m' σ' s'∧Q v m' σ') (XR w fx X) s
section
variable{α β:Type}{w:World}{fx:Fx}{m:au}{σ:Led}{X:Value→Prop}{n:Nat}
theorem WP.pure{a:α}{Q:α→au→Led→Prop}(h:Q a m σ):WP w fx (pure a) m σ Q X:=λ_ H=>aJ ⟨m,σ,H,h⟩
theorem WP.bind{t:Sem α}{f:α→Sem β}{Q:β→au→Led→Prop}(h:WP w fx t m σ (λa m' σ'=>WP w fx (f a) m' σ' Q X) X):WP w fx (t >>= f) m σ Q X:=
 λs H=>ak (aV (h s H) (λ_ s'=>bw λ_ _ H' q=>q s' H') λ_ _ e=>e)
theorem WP.mono{t:Sem α}{Q Q':α→au→Led→Prop}(h:WP w fx t m σ Q X)(k:∀ a m' σ',Q a m' σ'→Q' a m' σ'):WP w fx t m σ Q' X:=
 λs H=>aV (h s H) (λ_ _=>bw λm' σ' H' q=>⟨m',σ',H',k _ _ _ q⟩) λ_ _ e=>e
theorem WP.holding{vs:List Value}{t:Sem α}{Q:α→au→Led→Prop}(h:WP w fx t m σ Q X):WP w fx (holding vs t) m σ Q X:=λs H=>cG (h s H)
theorem WP.standAt{pos:Pos}{Q:Unit→au→Led→Prop}(h:Q () m σ):WP w fx (standAt pos) m σ Q X:=λ_ H=>gY ⟨m,σ,H,h⟩
theorem WP.rule{tag:String}{Q:Unit→au→Led→Prop}(h:Q () m σ):WP w fx (PySem.rule tag) m σ Q X:=λ_ H=>yr ⟨m,σ,H,h⟩
theorem WP.congr{t t':Sem α}{Q:α→au→Led→Prop}(e:t=t')(h:WP w fx t' m σ Q X):WP w fx t m σ Q X:=e▸h
theorem bA.drop{P}{σ σ' r:Led}{news} (h:bA P σ news) (p:σ.Perm (σ'++r)):∃ n',bA P σ' n'∧∀ q∈n',q∈news:=by
 refine aD (λn1 p1 r1=>?_) (h.perm p)
 refine gZ (λa b WT ha hb=>?_) (r1.split);subst WT
 exact⟨a,ha,λq hq=>p1.symm.subset (List.mem_append_left _ hq)⟩
theorem Holds.weaken{s}{m':au}{σ':Led} (H:Holds w fx m σ s) (hm:∀ x a,(x,some a)∈m'→(x,some a)∈m) (hnd:(m'.map (·.1)).Nodup) {r:Led} (p:σ.Perm (σ'++r)):Holds w fx m' σ' s:=by
 refine dO (λg M news h=>?_) H
 have p':(σ++fx.fz).Perm ((σ'++fx.fz)++r):=by
  refine(p.append_right _).trans ?_
  rw[aA,aA]
  exact List.perm_append_comm.append_left _
 refine aD (λn' h1 h2=>?_) (h.led.drop p')
 refine⟨g,M,n',h.stays,h.keep,h.F,λq hq=>h.N q (h2 q hq),⟨hnd,λx a hx=>h.vars.at_ x a (hm x a hx)⟩,h1,?_,h.gens,h.os⟩
 have:=h.nd
 have:=(p'.map (·.1)).nodup_iff.mp this
 rw[List.map_append] at this
 exact(List.nodup_append.mp this).1
end
theorem cH(l:List Addr)(h:Heap)(b:Addr)(o:Obj):(hideAll h l).get? b=some o↔h.get? b=some o∧b∉l:=by
 constructor
 ·intro e
  refine⟨of_hideAll l e,λhm=>?_⟩
  rw[hideAll_none l hm] at e;exact nsA e
 ·intro ⟨e,hm⟩;exact hideAll_get l e hm
noncomputable def trunc(L:Nat)(h:Heap):Heap:=⟨h.objs.extract 0 L,h.life⟩
theorem gV(L:Nat)(h:Heap):(trunc L h).objs.size≤L:=by
 show(h.objs.extract 0 L).size≤L
 simp;exact id (L1 [] [_,_] 12469 129 12469 rfl (Nat.min_le_left L (h.objs.size)))
theorem uP{L:Nat}{h:Heap}{b:Addr}(hb:b<L):(trunc L h).get? b=h.get? b:=by
 unfold Heap.get? trunc
 have:(h.objs.extract 0 L)[b]?=h.objs[b]?:=by
  rw[Array.getElem?_extract]
  simp only[Nat.zero_add,Nat.sub_zero]
  split
  ·rfl
  ·rename_i h1
   have hb':@LT.lt Nat _ b L:=hb
   rw[Array.getElem?_eq_none]
   exact Or.elim (Nat.le_total L (h.objs.size)) (λz2=>L3 [] [_,_,_,_] 12469 270464 13513 14534 14551 rfl h1 hb' (Nat.min_eq_left (a:=L) (b:=h.objs.size) (L1 [] [_,_] 12469 129 12469 rfl z2))) (λz2=>L2 [] [_,_,_] 12469 4225 13513 11479 rfl h1 (Nat.min_eq_right (a:=L) (b:=h.objs.size) (L1 [] [_,_] 12469 129 12469 rfl z2)))
 simp only[this]
theorem bQ(L:Nat)(h:Heap)(b:Addr)(o:Obj):(trunc L h).get? b=some o↔h.get? b=some o∧b<L:=by
 constructor
 ·intro e
  have:b<L:=Nat.lt_of_lt_of_le (Heap.lt_size e) (gV L h)
  rw[uP this] at e
  exact⟨e,this⟩
 ·intro ⟨e,hb⟩;rw[uP hb];exact e
noncomputable def bW(w:World)(base:Heap)(a:Addr)(ao:AO):Prop:=∃ o,base.get? a=some o∧At w ao o
theorem bW.keeps{w base base' a ao} (h:bW w base a ao) (k:Heap.StaysIn base base'):bW w base' a ao:=let ⟨o,h1,h2⟩:=h;⟨o,k _ _ h1,h2⟩
noncomputable def Wv(w:World)(base:Heap)(frs:List Env)(g:Heap)(os:OsState)(Q:AV→Led→Prop)(X:Value→Prop)(r:Result)(s':Shared):Prop:=
 s'.gens = #[]∧s'.os=os∧match r with
  | .ok (.ret v)=>∃ g' a μ' news',base.StaysIn g'∧bk frs g g'∧g'.StaysIn s'.heap∧Rv a v∧(∀ p∈news',s'.heap.get? p.1=some p.2∧g'.get? p.1=none)∧bA w μ' news'∧(μ'.map (·.1)).Nodup∧Q a μ'
  | .ok _=>False
  | .error e=>bk frs g s'.heap∧∃ ea cls a0,e=.ref ea∧X cls∧Heap.FlyingW base frs ea cls a0 s'.heap
noncomputable def CALL(w:World)(b:Bool)(n:Nat)(base:Heap)(c:Code)(μ:Led)(Q:AV→Led→Prop)(X:Value→Prop):Prop:=
  ∀ (A:Around) (frs:List Env) (g:Heap) (s:Shared) (news:List (Addr×Obj)),
    oE A n→A.frames=some frs→A.handled=none→(b=true→A.guards=some [])→(KK w).In base→tU base→base.StaysIn g→g.FunFrames base frs→g.StaysIn s.heap→
    (∀ p∈news,s.heap.get? p.1=some p.2∧g.get? p.1=none)→bA w μ news→(μ.map (·.1)).Nodup→s.gens = #[]→
    bV b (model Pr w) A c (Wv w base frs g s.os Q X) s
theorem CALL.weak{w b n base c μ}{Q:AV→Led→Prop}{X:Value→Prop} (h:CALL w false n base c μ Q X):CALL w b n base c μ Q X:=
 λA frs g s news h1 h2 h3 hg h4 h5 h6 h7 h8 h9 h10 h11 h12=>(h A frs g s news h1 h2 h3 (λq=>by exact jN q) h4 h5 h6 h7 h8 h9 h10 h11 h12).weak
theorem CALL.mono{w b n base c μ}{Q Q':AV→Led→Prop}{X X':Value→Prop} (h:CALL w b n base c μ Q X) (k:∀ a μ',Q a μ'→Q' a μ') (kx:∀ c,X c→X' c):CALL w b n base c μ Q' X':=by
  intro A frs g s news h1 h2 h3 hg h4 h5 h6 h7 h8 h9 h10 h11 h12
  refine dK (h A frs g s news h1 h2 h3 hg h4 h5 h6 h7 h8 h9 h10 h11 h12) λr s' hr=>?_
  refine gJ (λa b c=>?_) hr
  refine⟨a,b,?_⟩
  cases r with
  | error e=>exact uA (λx1=>fV (λea cls a0 x2 x3 x4=>⟨x1,ea,cls,a0,x2,kx _ x3,x4⟩)) c
  | ok f=>cases f with
    | ret v=>exact Ku (λg' a μ' news' x=>⟨g',a,μ',news',x.imp_right (And.imp_right (And.imp_right (And.imp_right (And.imp_right (And.imp_right (And.imp_right (k _ _)))))))⟩) c
    | _=>exact c
theorem oE.le{A n n'} (h:oE A n) (hn:n'≤n):oE A n':=by unfold oE at *;exact YX h hn
theorem gF.frames{w n fx m σ s g M news} (ok:aC w n fx) (H:gF w fx m σ s g M news):s.heap.FunFrames fx.base fx.frs:=by
 have h1:g.FunFrames fx.base fx.rest:=H.keep.ff ok.ff
 have h2:s.heap.FunFrames fx.base fx.rest:=h1.of_keeps λb o e _=>⟨o,H.F.keep b o e,rfl⟩
 rcases ok.cases with q|⟨q,hf⟩
 ·rw[q];exact h2
 ·rw[q]
  refine .cons (by rw[ok.kind];decide) hf H.F.ns ?_ h2
  cases hq:fx.base.get? fx.env.locals with
  | none=>rfl
  | some o=>exact absurd (Nat.lt_of_lt_of_le (Heap.lt_size (H.stays _ o hq)) H.F.above) (Nat.lt_irrefl _)
theorem gF.oK{w fx m σ s g M news} (H:gF w fx m σ s g M news):g.get? fx.env.locals=none:=by
 cases hq:g.get? fx.env.locals with
 | none=>rfl
 | some o=>exact absurd (Nat.lt_of_lt_of_le (Heap.lt_size hq) H.F.above) (Nat.lt_irrefl _)
theorem fB{base g:Heap}(k:base.StaysIn g){b:Addr}(e:g.get? b=none):base.get? b=none:=by
 cases q:base.get? b with
 | none=>rfl
 | some o=>have:=k b o q;rw[e] at this;exact nsA this
noncomputable def Wu(w:World)(fx:Fx)(m:au)(Q:AV→Led→Prop)(X:Value→Prop)(r:Result)(s':Shared):Prop:=match r with
 | .ok (.ret v)=>∃ σ',Holds w fx m σ' s'∧∃ a,Rv a v∧Q a σ'
 | .ok _=>False
 | .error e=>XR w fx X e s'
theorem Holds.code {w:World}{fx:Fx}{b:Bool}{n n':Nat}{c:Code}{m:au}{μ ρ:Led}{Q:AV→Led→Prop}{X:Value→Prop}{s:Shared}{A':Around}(ok:aC w n fx)(H:Holds w fx m (μ++ρ) s)
    (hA:A'.frames=some fx.frs)(hh:A'.handled=none)(hgd:b=true→A'.guards=some [])(hb:oE A' n')
    (h:∀ base',fx.base.StaysIn base'→(∀ p∈ρ++fx.fz,bW w base' p.1 p.2)→CALL w b n' base' c μ (λa μ'=>Q a (μ'++ρ)) X) :
    bV b (model Pr w) A' c (Wu w fx m Q X) s:=by
  refine dO (λg M news H=>?_) H
  have Tg:=H.led
  have hnd:=H.nd
  rw[aA] at Tg hnd
  refine gZ (λnμ nρ WW rμ rρ=>?_) (Tg.split);subst WW
  have hff:=H.frames ok
  rw[List.map_append] at hnd
  refine gJ (λnd1 UG nd3=>?_) (List.nodup_append.mp hnd)
  have kμ:nμ.map (·.1)=μ.map (·.1):=rμ.keys
  have kρ:nρ.map (·.1)=(ρ++fx.fz).map (·.1):=rρ.keys
  let L:=fx.env.locals
  have hL0:=H.oK
  refine fV (λoL es ep hL hLd MF=>?_) (H.F.ns)
  have Lμ:L∉nμ.map (·.1):=λq=>by
    refine aD (λp hp e=>?_) (mM q)
    exact(H.N p (List.mem_append_left _ hp)).2.1 e
  have nM:g.FunFrames fx.base fx.rest:=H.keep.ff ok.ff
  have frg:∀ e∈fx.frs,∀ b,e.frame=some b→(∃ o,g.get? b=some o)∨b=L:=λe he b hb=>by
    rcases ok.cases with q|⟨q,hf⟩
    · rw[q] at he
      refine bw (λL' o h1 h2=>?_) (funFrames_in nM e he)
      rw[hb] at h1;cases h1;exact .inl ⟨o,h2⟩
    · rw[q] at he
      rcases List.mem_cons.mp he with rfl|he
      · rw[hb] at hf;exact .inr (oI hf)
      · refine bw (λL' o h1 h2=>?_) (funFrames_in nM e he)
        rw[hb] at h1;cases h1;exact .inl ⟨o,h2⟩
  have Rh:∀ e∈fx.frs,∀ b,e.frame=some b→∀ p∈nμ++nρ,p.1≠b:=λe he b hb p hp q=>by
    rcases frg e he b hb with⟨o,ho⟩|r
    · rw[←q,(H.N p hp).2.2] at ho;exact nsA ho
    · exact(H.N p hp).2.1 (q.trans r)
  let hid:=nμ.map (·.1)++fx.frs.filterMap (·.frame)
  let base':=hideAll s.heap hid
  let g':=hideAll s.heap (nμ.map (·.1))
  have Vt:base'.StaysIn g':=λb o e=>by
    refine uA (λe1 e2=>?_) ((cH _ _ _ _).mp e)
    exact(cH _ _ _ _).mpr ⟨e1,λq=>e2 (List.mem_append_left _ q)⟩
  have ff1:s.heap.FunFrames base' fx.frs:=funFrames_hide hff λenv he b hb=>List.mem_append_right _ (List.mem_filterMap.mpr ⟨env,he,hb⟩)
  have ff2:g'.FunFrames base' fx.frs:=funFrames_hideAll ff1 λenv he b hb hf=>by
    refine aD (λp hp e=>?_) (mM hb)
    exact Rh env he b hf p (List.mem_append_left _ hp) e
  have gg':g.StaysIn g':=λb o e=>(cH _ _ _ _).mpr ⟨H.F.keep b o e,λq=>by
    refine aD (λp hp e2=>?_) (mM q)
    have:=(H.N p (List.mem_append_left _ hp)).2.2
    rw[e2,e] at this;exact nsA this.symm⟩
  have bb':fx.base.StaysIn base':=λb o e=>(cH _ _ _ _).mpr ⟨H.F.keep b o (H.stays b o e),λq=>by
    rcases mA q with q|q
    · refine aD (λp hp e2=>?_) (mM q)
      have:=(H.N p (List.mem_append_left _ hp)).2.2
      rw[e2,H.stays b o e] at this;exact nsA this.symm
    · rw[(hff.mem q).1] at e;exact nsA e⟩
  have ρb:∀ p∈nρ,base'.get? p.1=some p.2:=λp hp=>(cH _ _ _ _).mpr ⟨(H.N p (List.mem_append_right _ hp)).1,λq=>by
    rcases mA q with q|q
    · rw[kμ] at q
      exact nd3 _ q _ (kρ▸List.mem_map_of_mem hp) rfl
    · refine aD (λenv he hf=>?_) (List.mem_filterMap.mp q)
      exact Rh env he p.1 hf p (List.mem_append_right _ hp) rfl⟩
  have ρOn:∀ p∈ρ++fx.fz,bW w base' p.1 p.2:=λp hp=>by
    refine aD (λo h1 h2=>?_) (rρ.mem (a:=p.1) (ao:=p.2) hp)
    exact⟨o,ρb (p.1,o) h1,h2⟩
  refine(dK (h base' bb' ρOn A' fx.frs g' s nμ hb hA hh hgd (ok.lD.keeps bb') (ok.top.keeps bb') Vt ff2 (λb o e=>of_hideAll _ e)
    (λp hp=>⟨(H.N p (List.mem_append_left _ hp)).1,hideAll_none _ (List.mem_map_of_mem hp)⟩) rμ nd1 H.gens) λr s' hr=>?_)
  refine gJ (λhgens hos hr=>?_) hr
  have CJ:∀ G:Heap,base'.StaysIn G→bk fx.frs g' G→∃ o',G.get? L=some o'∧o'.data=oL.data:=λG k1 k2=>by
    have ZK:g'.get? L=some oL:=(cH _ _ _ _).mpr ⟨hL,Lμ⟩
    rcases ok.cases with q|⟨q,hf⟩
    · refine⟨oL,k1 L oL ((cH _ _ _ _).mpr ⟨hL,λz=>?_⟩),rfl⟩
      rcases mA z with z|z
      · exact Lμ z
      · rw[q] at z
        refine aD (λo ho _=>?_) ((nM.mem z).2)
        rw[hL0] at ho;exact nsA ho
    · refine uE (λsl h1=>?_) (k2 fx.env (by rw[q];exact .head _) L oL hf ZK)
      exact⟨_,h1,rfl⟩
  have yG:∀ G:Heap,bk fx.frs g' G→bk fx.rest fx.g0 G:=λG k=>by
    refine(H.keep.trans (bk.of_stays gg')).trans ?_
    rcases ok.cases with q|⟨q,_⟩
    · rw[q] at k;exact k
    · rw[q] at k;exact k.tail
  cases r with
  | error e=>
    refine uA (λhk=>fV (λea cls a0 he hX hfl=>?_)) hr
    subst he
    refine⟨ea,cls,a0,rfl,?_⟩
    have hfl':=flyingW_base bb' hfl
    refine aD (λo' ho' hd'=>?_) (CJ s'.heap hfl.1 hk)
    exact⟨hX,⟨M,o',es,ep,ho',hd'.trans hLd,MF⟩,(λb o e=>Nat.lt_of_lt_of_le (Heap.lt_size (H.stays b o e)) H.F.above),(λe he b hb=>by
        refine bw (λL' o2 h2 h3=>?_) (funFrames_in nM e he)
        rw[hb] at h2;cases h2
        exact Nat.lt_of_lt_of_le (Heap.lt_size h3) H.F.above),yG _ hk,hgens,hos.trans H.os,hfl'.1,hfl'.2.1,fB H.stays hL0,hfl'.2.2.1,.inl ⟨_,.inl rfl,hfl'.2.2.2⟩⟩
  | ok f => cases f with
    | ret v =>
      refine Ku (λG a μ' news'=>Fv λk1 k2 k3 hv=>dZ λhn' hr' hnd' hq=>?_) hr
      refine⟨μ'++ρ,?_,a,hv,hq⟩
      refine aD (λo' ho' hd'=>?_) (CJ G k1 k2)
      let G':=trunc L (hideAll G (nρ.map (·.1)))
      have Ly:∀ b o,g.get? b=some o→b<L:=λb o e=>Nat.lt_of_lt_of_le (Heap.lt_size e) H.F.above
      have G'G:∀ b o,G'.get? b=some o→G.get? b=some o:=λb o e=>of_hideAll _ ((bQ _ _ _ _).mp e).1
      refine⟨G',M,news'++nρ,⟨λb o e=>?_,λe he b o hf ho=>?_,⟨⟨o',es,ep,k3 _ _ ho',hd'.trans hLd,MF⟩,λb o e=>k3 _ _ (G'G _ _ e),gV _ _⟩,λp hp=>?_,H.vars,by rw[aA];exact hr'.append rρ,?_,hgens,hos.trans H.os⟩⟩
      · refine(bQ _ _ _ _).mpr ⟨(cH _ _ _ _).mpr ⟨k1 b o (bb' b o e),λq=>?_⟩,Ly b o (H.stays b o e)⟩
        refine aD (λp hp e2=>?_) (mM q)
        have:=(H.N p (List.mem_append_right _ hp)).2.2
        rw[e2,H.stays b o e] at this;exact nsA this.symm
      · refine uE (λsl h1=>?_) (yG G k2 e he b o hf ho)
        refine⟨sl,(bQ _ _ _ _).mpr ⟨(cH _ _ _ _).mpr ⟨h1,λq=>?_⟩,?_⟩⟩
        · refine aD (λp hp e2=>?_) (mM q)
          refine bw (λL' o2 h2 h3=>?_) (funFrames_in nM e he)
          rw[hf] at h2;cases h2
          have:=(H.N p (List.mem_append_right _ hp)).2.2
          rw[e2,h3] at this;exact nsA this.symm
        · refine bw (λL' o2 h2 h3=>?_) (funFrames_in nM e he)
          rw[hf] at h2;cases h2
          exact Ly _ _ h3
      · rcases mA hp with hp|hp
        · refine⟨(hn' p hp).1,λq=>?_,?_⟩
          · have:=(hn' p hp).2;rw[q] at this;rw[ho'] at this;exact nsA this.symm
          · cases z:G'.get? p.1 with
            | none=>rfl
            | some o=>have:=G'G _ _ z;rw[(hn' p hp).2] at this;exact nsA this
        · refine⟨k3 _ _ (k1 _ _ (ρb p hp)),(H.N p (List.mem_append_right _ hp)).2.1,?_⟩
          cases z:G'.get? p.1 with
          | none=>rfl
          | some o=>exact absurd (List.mem_map_of_mem hp) ((cH _ _ _ _).mp ((bQ _ _ _ _).mp z).1).2
      · rw[aA,List.map_append]
        refine List.nodup_append.mpr ⟨hnd',UG,λa ha b hb e=>?_⟩
        subst e
        rw[←hr'.keys] at ha
        rw[←kρ] at hb
        refine aD (λp hp e1=>?_) (mM ha)
        refine aD (λq hq' e2=>?_) (mM hb)
        have h1:=(hn' p hp).2
        have h2:=k1 _ _ (ρb q hq')
        rw[e1] at h1;rw[e2,h1] at h2;exact nsA h2
    | _=>exact(hr:False).elim
theorem WP.runValue{w:World}{fx:Fx}{n n':Nat}{c:Code}{m:au}{μ ρ:Led}{Q:AV→Led→Prop}{X:Value→Prop}(ok:aC w n fx)(hn:n'≤n)
  (h:∀ base',fx.base.StaysIn base'→(∀ p∈ρ++fx.fz,bW w base' p.1 p.2)→CALL w fx.cl n' base' c μ (λa μ'=>Q a (μ'++ρ)) X) :
  WP w fx (runValue c) m (μ++ρ) (λv m' σ'=>m'=m∧∃ a,Rv a v∧Q a σ') X:=λs H=>
 oV (dK (H.code ok ok.own ok.hand ok.gd (ok.Bm.le hn) h) λr s' hr=>by
  match r,hr with
  | .error e,hr=>exact hr
  | .ok (.ret v),⟨σ',H',a,ha,q⟩=>exact⟨m,σ',H',rfl,a,ha,q⟩)
section
variable{M:Model}{A:Around}{E:Value→Shared→Prop}{s:Shared}
theorem BZ{base:Heap}{l:List Env}{e:Addr}{cls a0 fl:Value}{fr:Option Addr}{Q:Unit→Shared→Prop}
  (hkb:base.StaysIn s.heap)(hl:s.heap.FunFrames base l)(ht:s.heap.TracedAtW base e cls a0 fl)
  (h:∀ h',base.StaysIn h'→h'.FunFrames base l→h'.TracedAtW base e cls a0 (fr.elim Value.none λf=>rawInt f)→(∀ b o,s.heap.get? b=some o→(∀ vs,o.data≠.fields vs)→h'.get? b=some o)→Q () { s with heap:=h' }) :
  wpAny M A (setFlight (.ref e) fr) Q E s:=by
 refine mU (λoe vs T oT ts he hcls hd h1 hnT hTe hT hdT h3=>?_) ht
 have hsz3:3<ts.size:=(Array.getElem?_eq_some_iff.mp h3).1
 have other:∀ b,b≠T→(s.heap.update T (Obj.mapFields (·.setIfInBounds 3 (fr.elim Value.none λf=>rawInt f)))).get? b=s.heap.get? b:=
  λb hb=>Heap.get?_update_other _ _ (Ne.symm hb)
 have noRecord:∀ b o,s.heap.get? b=some o→(∀ vs,o.data≠.fields vs)→b≠T:=λb o hb hnf q=>by
  rw[q,hT] at hb;injection hb with hb;subst hb;exact hnf ts hdT
 unfold setFlight
 refine wpAny_bind (wpAny_field he hd h1 ?_)
 rw[if_pos (show(Value.ref T != Value.none)=true from by simp)]
 refine wpAny_setField hT hdT hsz3 (h _ (λb o hbo=>(other b λq=>by rw[q,hnT] at hbo;exact nsA hbo).trans (hkb b o hbo))
  (hl.of_keeps λb o hb hnf=>⟨o,(other b (noRecord b o hb hnf)).trans hb,rfl⟩) ?_ λb o hb hnf=>(other b (noRecord b o hb hnf)).trans hb)
 exact⟨oe,vs,T,_,_,(other e (Ne.symm hTe)).trans he,hcls,hd,h1,hnT,hTe,Heap.get?_update_self _ hT (Obj.isFreed_of_fields (Obj.data_mapFields hdT _)),Obj.data_mapFields hdT _,by simp[hsz3]⟩
end
noncomputable def bU(fx:Fx):Prop:=fx.frs=fx.env::fx.rest∧fx.env.frame=some fx.env.locals
theorem xG.over{w fx X s ea cls a0 n} (ok:aC w n fx) (H:xG w fx X s ea cls a0) {h':Heap} (k1:fx.base.StaysIn h') (k2:h'.FunFrames fx.base fx.frs) (k4:s.heap.UpToSlots h')
  (tr:(∃ fl,(fl=Value.none∨∃ L,fx.env.frame=some L∧fl=rawInt L)∧h'.TracedAtW fx.base ea cls a0 fl)):xG w fx X { s with heap:=h' } ea cls a0:=by
 refine uE (λM hM=>?_) (H.ns)
 have hr:s.heap.FunFrames fx.base fx.rest:=by
  rcases ok.cases with q|⟨q,_⟩
  ·rw[←q];exact H.frames
  ·have:=H.frames;rw[q] at this;exact this.2.2
 exact⟨H.ok,⟨M,k4.ns hM⟩,H.above,H.Az,H.keep.trans (bk.of_slots hr k4),H.gens,H.os,k1,H.new,H.loc,k2,.inl tr⟩
theorem XR.noted{w n fx X e s} (ok:aC w n fx) (ow:bU fx) (H:XR w fx X e s) {E:Value→Shared→Prop}{Q:Unit→Shared→Prop}
  (h:∀ s',(∃ ea cls a0,e=.ref ea∧xG w fx X s' ea cls a0∧s'.heap.TracedAtW fx.base ea cls a0 (rawInt fx.env.locals))→Q () s') :
  wpAny (model Pr w) fx.A (noteFrame e fx.env) Q E s:=by
 obtain⟨ea,cls,a0,rfl,H⟩:=H
 have hfr:fx.A.frames=some (fx.env::fx.rest):=ow.1▸ok.own
 have hff:s.heap.FunFrames fx.base (fx.env::fx.rest):=ow.1▸H.frames
 rcases H.tr with⟨fl,hfl,ht⟩|⟨oe,vs,h1,h2,h3,h4,h5⟩
 ·rcases hfl with rfl|⟨L,hL,rfl⟩
  ·refine wpAny_noteFrame_onW hfr hff ow.2 ht H.stays H.new λh' hN=>?_
   obtain⟨k1,k2,k3,k4⟩:=hN
   exact h _ ⟨ea,cls,a0,rfl,H.over ok k1 (ow.1▸k2) k4 ⟨_,.inr ⟨_,ow.2,rfl⟩,k3⟩,k3⟩
  ·obtain rfl:L=fx.env.locals:=by rw[ow.2] at hL;exact(oI hL).symm
   exact wpAny_noteFrame_againW ow.2 ht (h s ⟨ea,cls,a0,rfl,H,ht⟩)
 ·unfold noteFrame
  simp only[ow.2]
  refine wpAny_bind (wpAny_field h1 h3 h4 ?_)
  rw[if_neg (by decide)]
  subst h2
  refine wpAny_entryW hfr hff ow.2 h1 H.stays H.new h3 (Array.getElem?_eq_some_iff.mp h4).1 h5 λh' hN=>?_
  obtain⟨k1,k2,k3,k4⟩:=hN
  exact h _ ⟨ea,_,a0,rfl,H.over ok k1 (ow.1▸k2) k4 ⟨_,.inr ⟨_,ow.2,rfl⟩,k3⟩,k3⟩
theorem XR.passes{w n fx X} (ok:aC w n fx) (ow:bU fx):PassesOwn (model Pr w) fx.A fx.env (XR w fx X):=λe s H=>by
 refine XR.noted ok ow H λs' h=>?_
 refine fV (λea cls a0 WX H' ht=>?_) h;subst WX
 show wpAny _ _ _ _ _ _
 have ht':=ht
 refine mU (λoe vs T oT ts he hcls hd h1 hnT hTe hT hdT h3=>?_) ht'
 refine wpAny_bind (wpAny_field he hd h1 ?_)
 rw[if_neg (by simp)]
 show wpAny _ _ (setFlight _ _) _ _ _
 rw[ow.2]
 refine BZ H'.stays H'.frames ht λh' k1 k2 k3 k4=>?_
 exact⟨ea,cls,a0,rfl,H'.over ok k1 k2 (λb o hb hn=>⟨o.slots,k4 b o hb hn⟩) ⟨_,.inr ⟨_,ow.2,rfl⟩,k3⟩⟩
theorem XR.none{w fx e s} (H:XR w fx bN e s):False:=let ⟨_,_,_,_,h⟩:=H;h.ok
theorem XR.leaving{w n fx X e s} (ok:aC w n fx) (ow:bU fx) (H:XR w fx X e s) {E:Value→Shared→Prop}{Q:Unit→Shared→Prop}
  (h:∀ h',bk fx.rest fx.g0 h'→(∃ ea cls a0,e=.ref ea∧X cls∧Heap.FlyingW fx.base fx.rest ea cls a0 h')→Q () { s with heap:=h' }) :
  wpAny (model Pr w) fx.A (leaving fx.env e) Q E s:=by
 obtain⟨ea,cls,a0,rfl,H⟩:=H
 have hfr:fx.A.frames=some (fx.env::fx.rest):=ow.1▸ok.own
 have hff:s.heap.FunFrames fx.base (fx.env::fx.rest):=ow.1▸H.frames
 rcases H.tr with⟨fl,hfl,ht⟩|⟨oe,vs,h1,h2,h3,h4,h5⟩
 ·rcases hfl with rfl|⟨L,hL,rfl⟩
  ·refine wpAny_leaves_onW hfr ow.2 ⟨H.stays,H.new,hff,ht⟩ λh' k1 k2=>?_
   exact h h' (H.keep.trans (bk.of_slots hff.2.2 k2)) ⟨ea,cls,a0,rfl,H.ok,k1⟩
  ·obtain rfl:L=fx.env.locals:=by rw[ow.2] at hL;exact(oI hL).symm
   unfold PySem.leaving
   refine wpAny_bind (wpAny_noteFrame_againW ow.2 ht ?_)
   refine wpAny_landsW (L:=fx.env.locals) ⟨H.stays,H.new,hff,ht⟩ λh' hfl k2=>?_
   obtain⟨k1,k3,⟨_,_,k4⟩,k5⟩:=hfl
   exact h h' (H.keep.trans (bk.of_slots hff.2.2 k2)) ⟨ea,cls,a0,rfl,H.ok,k1,k3,k4,k5⟩
 ·subst h2
  refine wpAny_leaving_firstW hfr hff ow.2 h1 H.stays H.new h3 h4 h5 λh' hL=>?_
  obtain⟨k1,⟨_,_,k2⟩,k3,k4⟩:=hL
  exact h h' (H.keep.trans (bk.of_slots hff.2.2 k4)) ⟨ea,_,a0,rfl,H.ok,k1,H.new,k2,k3⟩
noncomputable def Te(Q:AV→Led→Prop)(f:Flow)(_:au)(σ:Led):Prop:=∃ a,Rv a (match f with|.ret v=>v|_=>.none)∧Q a σ
theorem oE.deeper{A env n} (h:oE A (n+1)):oE (A.deeper env) n:=by
 unfold oE at *
 show A.depth+1+4*n<900∧A.units+3+32*n<9000
 exact YW h
theorem CALL.def{w:World}{b:Bool}{n:Nat}{base:Heap}{f:Addr}{μ:Led}{Q:AV→Led→Prop}{X:Value→Prop}
  {name qual:Str}{params:Arguments}{body:List Stmt}{scope:Scope}{dV kV doc pm cdv ct oc:Value}{an od:Option Addr}{osl:Array (Option Value)}{args:Args}{binds:List (Str×Value)}{m0:au}
  (ho:(KK w).lookup f=some ⟨oc,od,.func (fnX name qual params body scope [] dV kV doc pm an cdv ct),osl⟩)(hcd:codeIn (KK w) cdv qual=true)
  (hbind:∀ s:Shared,(KK w).In s.heap→BindsTo s (fnX name qual params body scope [] dV kV doc pm an cdv ct) args binds)(hloc:∀ y∈binds,scope.names.lookup y.1=some .local)
  (hcell:∀ x∈scope.names,x.2≠.cell)(hm:RelV m0 (λy=>binds.reverse.lookup y))
  (hco:scope.isCoroutine=false)(hgen:scope.isGenerator=false)(hk:scope.kind=.function)
  (h:∀ fx,aC w n fx→bU fx→fx.cl=b→fx.base=base→fx.fz=[]→(∃ L,fx.env=envX qual scope L f cdv [])→WP w fx (execs body fx.env) m0 μ (Te Q) X) :
  CALL w b (n+1) base (.call (.ref f) args) μ Q X:=by
 intro A frs g s news h1 h2 h3 hg h4 h5 h6 h7 h8 h9 h10 h11 h12
 have bs:base.StaysIn s.heap:=λb o e=>h8 b o (h6 b o e)
 have X₀:=h4.keeps bs
 refine tZ (fd:=fnX name qual params body scope [] dV kV doc pm an cdv ct) (body:=body) (binds:=binds) (by unfold oE at h1;have:recursionLimit=1000:=rfl;exact SJ h1 this) (X₀ _ _ ho) rfl (h5.keeps bs).nolimit (codeRec_of X₀ hcd) rfl (hbind s X₀) hcell hloc (λh₁ hns hk₁=>?_) hco hgen hk
 let L:=s.heap.objs.size
 let env:=envX qual scope L f cdv []
 let fx:Fx:=⟨A.deeper env,env,base,frs,env::frs,g,s.os,[],b⟩
 have ow:bU fx:=⟨rfl,rfl⟩
 have ok:aC w n fx:=⟨h4,h5,Around.frames_deeper h2,.inr ow,by show A.handled=none;exact h3,hk,rfl,rfl,h7,h1.deeper,hg⟩
 have Jr:∀ b o,g.get? b=some o→b<L:=λb o e=>Heap.lt_size (h8 b o e)
 have gT:∀ b o,g.get? b=some o→(trunc L g).get? b=some o:=λb o e=>(bQ _ _ _ _).mpr ⟨e,Jr b o e⟩
 have H:Holds w fx m0 μ { s with heap:=h₁,toks:=s.toks+binds.length }:=by
  refine⟨trunc L g,_,news,λb o e=>gT b o (h6 b o e),bk.of_stays gT,⟨hns,λb o e=>hk₁ b o (h8 b o ((bQ _ _ _ _).mp e).1),gV _ _⟩,λp hp=>⟨hk₁ _ _ (h9 p hp).1,Nat.ne_of_lt (Heap.lt_size (h9 p hp).1),?_⟩,hm,by show bA _ (μ++[]) _;rw[aN];exact h10,by show((μ++[]).map _).Nodup;rw[aN];exact h11,h12,rfl⟩
  cases z:(trunc L g).get? p.1 with
  | none=>rfl
  | some o=>have:=((bQ _ _ _ _).mp z).1;rw[(h9 p hp).2] at this;exact nsA this
 refine aV (h fx ok ow rfl rfl rfl ⟨L,rfl⟩ _ H) (λfl s' hl=>?_) λe s' he=>?_
 ·refine zM (λm' σ' WY a ha hq=>?_) hl;refine dO (λg' M news' H'=>?_) WY
  exact⟨H'.gens,H'.os,g',a,σ',news',H'.stays,H'.keep,H'.F.keep,ha,λp hp=>⟨(H'.N p hp).1,(H'.N p hp).2.2⟩,by have:=H'.led;rwa [show fx.fz=[] from rfl,aN] at this,by have:=H'.nd;rwa [show fx.fz=[] from rfl,aN] at this,hq⟩
 ·have he':=he
  refine jD (λea cls a0 _ hx=>?_) he'
  refine .of (XR.leaving ok ow he λh' k1 k2=>?_)
  exact⟨hx.gens,hx.os,k1,k2⟩
section
variable{w:World}{fx:Fx}{m m':au}{σ:Led}{X:Value→Prop}{n:Nat}
theorem Holds.eqv{s s':Shared}(H:Holds w fx m σ s)(h1:s'.heap=s.heap)(h2:s'.gens=s.gens)(h3:s'.os=s.os):Holds w fx m σ s':=by
 refine dO (λg M news h=>?_) H
 exact⟨g,M,news,h.stays,h.keep,h1▸h.F,h1▸h.N,h.vars,h.led,h.nd,h2▸h.gens,h3▸h.os⟩
theorem Holds.toks{s:Shared}{k:Nat}(H:Holds w fx m σ s):Holds w fx m σ { s with toks:=k }:=H.eqv rfl rfl rfl
theorem Holds.stays{s:Shared}(H:Holds w fx m σ s):fx.base.StaysIn s.heap:=let ⟨_,_,_,h⟩:=H;λb o e=>h.F.keep _ _ (h.stays _ _ e)
theorem Holds.lD{s:Shared}(ok:aC w n fx)(H:Holds w fx m σ s):(KK w).In s.heap:=ok.lD.keeps H.stays
theorem Holds.R8{s:Shared}(ok:aC w n fx)(H:Holds w fx m σ s):tU s.heap:=ok.top.keeps H.stays
theorem Holds.mem{s:Shared}(H:Holds w fx m σ s){a:Addr}{ao:AO}(hm:(a,ao)∈σ):∃ o,s.heap.get? a=some o∧At w ao o:=by
 refine dO (λg M news h=>?_) H
 refine aD (λo h1 h2=>?_) (h.led.mem (List.mem_append_left _ hm))
 exact⟨o,(h.N _ h1).1,h2⟩
noncomputable def Has(w:World)(fx:Fx)(σ:Led)(a:Addr)(ao:AO):Prop:=(a,ao)∈σ∨(a,ao)∈fx.fz∨bW w fx.base a ao
theorem Holds.has{s:Shared}(H:Holds w fx m σ s){a:Addr}{ao:AO}(h:Has w fx σ a ao):∃ o,s.heap.get? a=some o∧At w ao o:=by
 rcases h with h|h|⟨o,h1,h2⟩
 ·exact H.mem h
 ·refine dO (λg M news H=>?_) H
  refine aD (λo h1 h2=>?_) (H.led.mem (List.mem_append_right _ h))
  exact⟨o,(H.N _ h1).1,h2⟩
 ·exact⟨o,H.stays _ _ h1,h2⟩
noncomputable def V1(w:World)(fx:Fx)(t:Sem Value)(m:au)(σ:Led)(Q:AV→Led→Prop)(X:Value→Prop):Prop:=
 WP w fx t m σ (λv m' σ'=>m'=m∧∃ a,Rv a v∧Q a σ') X
noncomputable def B1(w:World)(fx:Fx)(t:Sem Bool)(m:au)(σ:Led)(Q:Bool→Led→Prop)(X:Value→Prop):Prop:=
 WP w fx t m σ (λv m' σ'=>m'=m∧Q v σ') X
noncomputable def O4(w:World)(t:Sem Value)(a:AV):Prop:=
 ∀ A E s (Q':Value→Shared→Prop),A.handled=none→(∀ v h' k,s.heap.StaysIn h'→Rv a v→Q' v { s with heap:=h',toks:=k })→wpAny (model Pr w) A t Q' E s
noncomputable def Wm(w:World)(t:Sem Bool)(a:Bool):Prop:=
 ∀ A E s (Q':Bool→Shared→Prop),A.handled=none→(∀ h' k,s.heap.StaysIn h'→Q' a { s with heap:=h',toks:=k })→wpAny (model Pr w) A t Q' E s
theorem Holds.keeps{s:Shared}{h':Heap}{k:Nat}(H:Holds w fx m σ s)(kp:s.heap.StaysIn h'):Holds w fx m σ { s with heap:=h',toks:=k }:=by
 refine dO (λg M news h=>?_) H
 exact⟨g,M,news,h.stays,h.keep,⟨h.F.ns.keeps kp,λb o e=>kp _ _ (h.F.keep b o e),h.F.above⟩,λp hp=>⟨kp _ _ (h.N p hp).1,(h.N p hp).2⟩,h.vars,h.led,h.nd,h.gens,h.os⟩
theorem V1.of_pure{t:Sem Value}{a:AV}{Q:AV→Led→Prop}(ok:aC w n fx)(h:O4 w t a)(hq:Q a σ):V1 w fx t m σ Q X:=λs H=>
 .of (h _ _ _ _ ok.hand λv h' k kp hv=>⟨m,σ,H.keeps kp,rfl,a,hv,hq⟩)
theorem B1.of_pure{t:Sem Bool}{a:Bool}{Q:Bool→Led→Prop}(ok:aC w n fx)(h:Wm w t a)(hq:Q a σ):B1 w fx t m σ Q X:=λs H=>
 .of (h _ _ _ _ ok.hand λh' k kp=>⟨m,σ,H.keeps kp,rfl,hq⟩)
theorem Holds.new{s:Shared}{h':Heap}{k:Nat}{a:Addr}{o:Obj}{ao:AO}(H:Holds w fx m σ s)(kp:s.heap.StaysIn h')(hn:s.heap.get? a=none)(ho:h'.get? a=some o)(ha:At w ao o) :
  Holds w fx m ((a,ao)::σ) { s with heap:=h',toks:=k }:=by
 refine dO (λg M news h=>?_) H
 refine⟨g,M,(a,o)::news,h.stays,h.keep,⟨h.F.ns.keeps kp,λb o e=>kp _ _ (h.F.keep b o e),h.F.above⟩,λp hp=>?_,h.vars,.cons ha h.led,?_,h.gens,h.os⟩
 ·rcases List.mem_cons.mp hp with rfl|hp
  ·refine⟨ho,λq=>?_,fB h.F.keep hn⟩
   refine jD (λoL es ep hL _=>?_) (h.F.ns)
   rw[←q,hn] at hL;exact nsA hL
  ·exact⟨kp _ _ (h.N p hp).1,(h.N p hp).2⟩
 ·rw[List.cons_append,List.map_cons]
  refine List.nodup_cons.mpr ⟨λq=>?_,h.nd⟩
  rw[←h.led.keys] at q
  refine aD (λp hp e=>?_) (mM q)
  have:=(h.N p hp).1
  rw[e,hn] at this;exact nsA this
theorem Holds.push{s:Shared}{k:Nat}{o:Obj}{ao:AO}(H:Holds w fx m σ s)(ha:At w ao o)(hf:o.isFreed=false:=by rfl) :
  Holds w fx m ((s.heap.objs.size,ao)::σ) { s with heap:=s.heap.push o,toks:=k }:=
 H.new (λb o e=>Heap.get?_push_of_some _ e) (Heap.get?_none_of_le (nR _)) (Heap.get?_push_size _ hf) ha
theorem bA.upd{P}{a:Addr}{ao dB:AO}{o':Obj}{pre post:Led}:∀ {news},bA P (pre++(a,ao)::post) news→At P dB o'→
    ∃ n1 o n2,news=n1++(a,o)::n2∧At P ao o∧bA P (pre++(a,dB)::post) (n1++(a,o')::n2):=by
  induction pre with
  | nil=>
    intro news h h'
    change bA P ((a,ao)::post) news at h
    cases h using bA.cV with
    | mk ha h=>exact⟨[],_,_,rfl,ha,.cons h' h⟩
  | cons p pre ih=>
    intro news h h'
    change bA P ((p.1,p.2)::(pre++(a,ao)::post)) news at h
    cases h using bA.cV with
    | mk ha h=>exact fV (λn1 o n2 e h1 h2=>⟨_::n1,o,n2,congrArg (_ :: ·) e,h1,.cons ha h2⟩) (ih h h')
theorem gF.zL{s:Shared}{g M news}{a:Addr}{ao:AO}{pre post:Led} (H:gF w fx m (pre++(a,ao)::post) s g M news) {dB:AO}{o':Obj} (h':At w dB o') :
  ∃ n1 o n2,news=n1++(a,o)::n2∧At w ao o∧bA w ((pre++(a,dB)::post)++fx.fz) (n1++(a,o')::n2):=by
 have h1:=H.led
 rw[aA,List.cons_append] at h1⊢
 exact h1.upd h'
theorem Holds.upd {s:Shared}{h':Heap}{k:Nat}{a:Addr}{o':Obj}{ao dB:AO}{pre post:Led}(H:Holds w fx m (pre++(a,ao)::post) s)(hs:∀ b,b≠a→h'.get? b=s.heap.get? b)(ho:h'.get? a=some o')(ha:At w dB o') :
    Holds w fx m (pre++(a,dB)::post) { s with heap:=h',toks:=k }:=by
  refine dO (λg M news h=>?_) H
  refine fV (λn1 o n2 W0 h1 h2=>?_) (h.zL ha);subst W0
  have hm:=h.N (a,o) (by simp)
  have nd:(n1.map (·.1)++a::n2.map (·.1)).Nodup:=by have:=h.nd;rw[←h.led.keys] at this;simpa using this
  refine⟨g,M,_,h.stays,h.keep,⟨?_,λb ob e=>?_,h.F.above⟩,λp hp=>?_,h.vars,h2,?_,h.gens,h.os⟩
  · refine jD (λoL es ep hL r=>?_) (h.F.ns)
    exact⟨oL,es,ep,(hs _ (Ne.symm hm.2.1)).trans hL,r⟩
  · refine(hs b λq=>?_).trans (h.F.keep b ob e)
    rw[q,hm.2.2] at e;exact nsA e
  · refine gJ (λd1 d2 d3=>?_) (List.nodup_append.mp nd)
    refine uA (λd4 d5=>?_) (List.nodup_cons.mp d2)
    rcases mA hp with hp|hp
    · have:=h.N p (List.mem_append_left _ hp)
      exact⟨(hs _ λq=>d3 _ (List.mem_map_of_mem hp) _ (.head _) q).trans this.1,this.2⟩
    · rcases List.mem_cons.mp hp with rfl|hp
      · exact⟨ho,hm.2⟩
      · have:=h.N p (List.mem_append_right _ (.tail _ hp))
        exact⟨(hs _ λq=>d4 (q▸List.mem_map_of_mem hp)).trans this.1,this.2⟩
  · simpa using h.nd
theorem V1.mono{t:Sem Value}{Q Q':AV→Led→Prop}(h:V1 w fx t m σ Q X)(k:∀ a σ',Q a σ'→Q' a σ'):V1 w fx t m σ Q' X:=
 WP.mono h λ_ _ _=>HY λe a hv hq=>⟨e,a,hv,k _ _ hq⟩
theorem B1.mono{t:Sem Bool}{Q Q':Bool→Led→Prop}(h:B1 w fx t m σ Q X)(k:∀ a σ',Q a σ'→Q' a σ'):B1 w fx t m σ Q' X:=
 WP.mono h λ_ _ _=>uA λe hq=>⟨e,k _ _ hq⟩
theorem V1.aY{α:Type}{t:Sem Value}{f:Value→Sem α}{Q:α→au→Led→Prop}(h:V1 w fx t m σ (λa σ'=>∀ v,Rv a v→WP w fx (f v) m σ' Q X) X):WP w fx (t >>= f) m σ Q X:=
 WP.bind (WP.mono h λv m' σ'=>HY λe a hv hq=>e▸hq v hv)
theorem WP.operate{vs:List Value}{t:Sem Value}{Q:Value→au→Led→Prop}(h:WP w fx t m σ Q X):WP w fx (operate vs t) m σ Q X:=λs H=>lN (h s H)
theorem V1.holding{vs:List Value}{t:Sem Value}{Q:AV→Led→Prop}(h:V1 w fx t m σ Q X):V1 w fx (holding vs t) m σ Q X:=WP.holding h
noncomputable def EV(w:World)(fx:Fx)(e:Expr)(m:au)(σ:Led)(Q:AV→Led→Prop)(X:Value→Prop):Prop:=V1 w fx (eval e fx.env) m σ Q X
noncomputable def TS(w:World)(fx:Fx)(e:Expr)(m:au)(σ:Led)(Q:Bool→Led→Prop)(X:Value→Prop):Prop:=B1 w fx (isTrue e fx.env (eval e fx.env)) m σ Q X
noncomputable def O2(w:World)(fx:Fx)(op:Operator)(a b:AV)(m:au)(σ:Led)(Q:AV→Led→Prop)(X:Value→Prop):Prop:=∀ va vb,Rv a va→Rv b vb→V1 w fx (binaryOp op va vb) m σ Q X
noncomputable def I2(w:World)(fx:Fx)(op:Operator)(a b:AV)(m:au)(σ:Led)(Q:AV→Led→Prop)(X:Value→Prop):Prop:=∀ va vb,Rv a va→Rv b vb→V1 w fx (inplaceOp op va vb) m σ Q X
noncomputable def C2(w:World)(fx:Fx)(op:CmpOp)(a b:AV)(m:au)(σ:Led)(Q:Bool→Led→Prop)(X:Value→Prop):Prop:=∀ va vb,Rv a va→Rv b vb→V1 w fx (compareOp op va vb) m σ (λc σ'=>∃ b,c=.bool b∧Q b σ') X
noncomputable def T1(w:World)(fx:Fx)(a:AV)(m:au)(σ:Led)(Q:Bool→Led→Prop)(X:Value→Prop):Prop:=∀ va,Rv a va→B1 w fx (truthy va) m σ Q X
noncomputable def U1(w:World)(fx:Fx)(op:UnaryOp)(a:AV)(m:au)(σ:Led)(Q:AV→Led→Prop)(X:Value→Prop):Prop:=∀ va,Rv a va→V1 w fx (unaryOp op va) m σ Q X
noncomputable def iZ(fx:Fx)(names:List (Str×NameKind)):Prop:=∀ p∈names,fx.env.kindOf p.1=some p.2∧(p.1 == ("__debug__" : Str))=false
noncomputable def GL(w:World)(x:Str)(a:AV):Prop:=∃ v,Rv a v∧(nsIn (KK w) mainGlobals x=some (some v)∨(nsIn (KK w) mainGlobals x=some none∧bootBuiltins x=some v∧x≠ "__name__"))
theorem Bb{i:Int}{k pos}{Q:AV→Led→Prop} (h:Q (.int i) σ):EV w fx (.Constant (.int i) k pos) m σ Q X:=
 λ_ H=>.of (wpAny_Constant_int ⟨m,σ,H.toks,rfl,_,.int _ _,h⟩)
theorem Np{k pos}{Q:AV→Led→Prop} (h:Q .none σ):EV w fx (.Constant .none k pos) m σ Q X:=
 λ_ H=>.of (wpAny_Constant_none ⟨m,σ,H,rfl,_,.none,h⟩)
theorem Ny{b k pos}{Q:AV→Led→Prop} (h:Q (.bool b) σ):EV w fx (.Constant (.bool b) k pos) m σ Q X:=
 λ_ H=>.of (wpAny_Constant_bool ⟨m,σ,H,rfl,_,.bool _,h⟩)
theorem Ro{x:Str}{k pos}{Q:AV→Led→Prop} (h:Q (.str x) σ):EV w fx (.Constant (.str x) k pos) m σ Q X:=
 λ_ H=>.of (wpAny_Constant_str ⟨m,σ,H.toks,rfl,_,.str _ _,h⟩)
theorem Rp{x:Str}{pos}{a:AV}{names}{Q:AV→Led→Prop} (ok:aC w n fx) (hk:iZ fx names) (h1:(x,NameKind.local)∈names) (h2:(x,some a)∈m) (h:Q a σ):EV w fx (.Name x pos) m σ Q X:=λs H=>by
 have H':=H
 refine dO (λg M news H=>?_) H
 refine aD (λv hv ha=>?_) (H.vars.at_ x a h2)
 exact .of (wpAny_Name (wpAny_loadName_local ok.kind (hk _ h1).1 H.F.ns hv ⟨m,σ,H',rfl,a,ha,h⟩) (hk _ h1).2)
theorem Nr{x:Str}{pos}{a:AV}{names}{Q:AV→Led→Prop} (ok:aC w n fx) (hk:iZ fx names) (h1:(x,NameKind.globalImplicit)∈names) (h2:GL w x a) (h:Q a σ):EV w fx (.Name x pos) m σ Q X:=λs H=>by
 refine aD (λv hv hg=>?_) h2
 obtain⟨⟨mg,mb,n1,n2,n3⟩,_⟩:=H.R8 ok
 refine .of (Name_function_global ok.kind (hk _ h1).1 ?_ (hk _ h1).2)
 rcases hg with hg|⟨hg,hb,hne⟩
 ·exact loadGlobal_global (by rw[ok.glob];exact n1) (mg_of (H.lD ok) n1 hg) ⟨m,σ,H,rfl,a,hv,h⟩
 ·exact loadGlobal_builtin (by rw[ok.glob];exact n1) (mg_none_of (H.lD ok) n1 hg) (by rw[ok.bi];exact n2) ((n3 x hne).trans hb) ⟨m,σ,H,rfl,a,hv,h⟩
theorem Nx{x:Str}{pos}{a:AV}{c:Addr}{names}{Q:AV→Led→Prop} (ok:aC w n fx) (hk:iZ fx names) (h1:(x,NameKind.cell)∈names) (hc:fx.env.cells.lookup x=some c) (h2:(c,AO.cell (some a))∈σ) (h:Q a σ):EV w fx (.Name x pos) m σ Q X:=λs H=>by
 refine aD (λo ho ha=>?_) (H.mem h2)
 cases ha with|cell hd hv=>exact .of (wpAny_Name (wpAny_loadName_cell ok.kind (hk _ h1).1 hc ⟨_,ho,hd⟩ ⟨m,σ,H,rfl,a,hv,h⟩) (hk _ h1).2)
theorem JW{l op r pos}{Q:AV→Led→Prop} (h:EV w fx l m σ (λa σ₁=>EV w fx r m σ₁ (λb σ₂=>O2 w fx op a b m σ₂ Q X) X) X):EV w fx (.BinOp l op r pos) m σ Q X:=by
 show WP w fx (eval l fx.env >>= _) m σ _ X
 refine V1.aY (V1.mono h λa σ₁ h₁ va hva=>?_)
 refine WP.bind (WP.holding (WP.mono h₁ λvb m' σ₂=>HY λe b hvb h₂=>?_))
 subst e
 exact WP.bind (WP.standAt (WP.operate (h₂ va vb hva hvb)))
end
section
variable{w:World}{fx:Fx}{m m':au}{σ:Led}{X:Value→Prop}{n:Nat}{x y:Int}{Q:AV→Led→Prop}{QB:Bool→Led→Prop}
theorem aH(h:Heap):h.StaysIn h:=λ_ _ e=>e
theorem Ut(ok:aC w n fx)(h:Q (.int (x+y)) σ):O2 w fx .Add (.int x) (.int y) m σ Q X:=λva vb ha hb=>by
 cases ha using Rv.aR;cases hb using Rv.aR;exact V1.of_pure ok (λA E s Q' _ k=>add_int (k _ _ _ (aH _) (.int _ _))) h
theorem Um(ok:aC w n fx)(h:Q (.int (x-y)) σ):O2 w fx .Sub (.int x) (.int y) m σ Q X:=λva vb ha hb=>by
 cases ha using Rv.aR;cases hb using Rv.aR;exact V1.of_pure ok (λA E s Q' _ k=>sub_int (k _ _ _ (aH _) (.int _ _))) h
theorem Ur(ok:aC w n fx)(hm:IntMulOk x y)(h:Q (.int (x*y)) σ):O2 w fx .Mult (.int x) (.int y) m σ Q X:=λva vb ha hb=>by
 cases ha using Rv.aR;cases hb using Rv.aR;exact V1.of_pure ok (λA E s Q' _ k=>mul_int (k _ _ _ (aH _) (.int _ _)) hm) h
theorem Lp(ok:aC w n fx)(hm:y≠0)(h:Q (.int (x.fmod y)) σ):O2 w fx .Mod (.int x) (.int y) m σ Q X:=λva vb ha hb=>by
 cases ha using Rv.aR;cases hb using Rv.aR;exact V1.of_pure ok (λA E s Q' _ k=>mod_int' hm (k _ _ _ (aH _) (.int _ _))) h
theorem SN {x y:Int}(hy:y.natAbs<2^64):Builtin.divisionGoesByPylong x y=false:=by
  unfold Builtin.divisionGoesByPylong
  have:¬(300<(if y == 0 then 0 else y.natAbs.log2/30+1)):=by
    split
    · exact L0 [] [] 307225 1 rfl
    · have:y.natAbs.log2<64:=by
        rcases Nat.eq_zero_or_pos y.natAbs with h|h
        · rw[h];decide
        · exact(Nat.log2_lt (by exact λq=>L2 [] [_] 10 8320 720902 183 rfl h q)).mpr hy
      exact L2 [] [_,_,_] 4965096120089144977680281625 8350 4195526 209696199719 rfl this (Nat.div_add_mod (y.natAbs.log2) 30)
  simp only[this,decide_false,Bool.false_and,gt_iff_lt]
theorem Lq(ok:aC w n fx)(hm:y≠0)(hy:y.natAbs<2^64)(h:Q (.int (x.fdiv y)) σ):O2 w fx .FloorDiv (.int x) (.int y) m σ Q X:=λva vb ha hb=>by
 cases ha using Rv.aR;cases hb using Rv.aR;exact V1.of_pure ok (λA E s Q' _ k=>floordiv_int hm (k _ _ _ (aH _) (.int _ _)) (.inl (SN hy))) h
theorem Uo(ok:aC w n fx)(hy:0≤y)(hy2:y≤1000000)(hx:x.natAbs<2^64)(h:Q (.int (x*2^y.toNat)) σ):O2 w fx .LShift (.int x) (.int y) m σ Q X:=λva vb ha hb=>by
 cases ha using Rv.aR;cases hb using Rv.aR;exact V1.of_pure ok (λA E s Q' _ k=>lshift_int_small hy hy2 hx (k _ _ _ (aH _) (.int _ _))) h
theorem Un(ok:aC w n fx)(hy:0≤y)(h:Q (.int (x.fdiv (2^y.toNat))) σ):O2 w fx .RShift (.int x) (.int y) m σ Q X:=λva vb ha hb=>by
 cases ha using Rv.aR;cases hb using Rv.aR;exact V1.of_pure ok (λA E s Q' _ k=>rshift_int hy (k _ _ _ (aH _) (.int _ _))) h
theorem Us(ok:aC w n fx)(h:Q (.int (Builtin.bitAnd x y)) σ):O2 w fx .BitAnd (.int x) (.int y) m σ Q X:=λva vb ha hb=>by
 cases ha using Rv.aR;cases hb using Rv.aR;exact V1.of_pure ok (λA E s Q' _ k=>and_int (k _ _ _ (aH _) (.int _ _))) h
theorem Y7(ok:aC w n fx)(h:Q (.int (Builtin.bitOr x y)) σ):O2 w fx .BitOr (.int x) (.int y) m σ Q X:=λva vb ha hb=>by
 cases ha using Rv.aR;cases hb using Rv.aR;exact V1.of_pure ok (λA E s Q' _ k=>or_int (k _ _ _ (aH _) (.int _ _))) h
theorem Uq(ok:aC w n fx)(hy:0≤y)(hsz:(Builtin.Int.intBits x:Int)*y≤2^27)(h:Q (.int (x^y.toNat)) σ):O2 w fx .Pow (.int x) (.int y) m σ Q X:=λva vb ha hb=>by
 cases ha using Rv.aR;cases hb using Rv.aR;exact V1.of_pure ok (λA E s Q' _ k=>pow_int hy hsz (k _ _ _ (aH _) (.int _ _))) h
theorem Vh(ok:aC w n fx)(h:Q (.int (x+y)) σ):I2 w fx .Add (.int x) (.int y) m σ Q X:=λva vb ha hb=>by
 cases ha using Rv.aR;cases hb using Rv.aR;exact V1.of_pure ok (λA E s Q' _ k=>iadd_int (k _ _ _ (aH _) (.int _ _))) h
theorem Vf(ok:aC w n fx)(h:Q (.int (x-y)) σ):I2 w fx .Sub (.int x) (.int y) m σ Q X:=λva vb ha hb=>by
 cases ha using Rv.aR;cases hb using Rv.aR;exact V1.of_pure ok (λA E s Q' _ k=>isub_int (k _ _ _ (aH _) (.int _ _))) h
theorem Zf(ok:aC w n fx)(h:Q (.int (Builtin.bitOr x y)) σ):I2 w fx .BitOr (.int x) (.int y) m σ Q X:=λva vb ha hb=>by
 cases ha using Rv.aR;cases hb using Rv.aR;exact V1.of_pure ok (λA E s Q' _ k=>ior_int (k _ _ _ (aH _) (.int _ _))) h
theorem Vg(ok:aC w n fx)(hy:0≤y)(h:Q (.int (x.fdiv (2^y.toNat))) σ):I2 w fx .RShift (.int x) (.int y) m σ Q X:=λva vb ha hb=>by
 cases ha using Rv.aR;cases hb using Rv.aR;exact V1.of_pure ok (λA E s Q' _ k=>irshift_int hy (k _ _ _ (aH _) (.int _ _))) h
theorem C2.of{op:CmpOp}{a b:AV}{r:Bool}(ok:aC w n fx)(h:∀ va vb,Rv a va→Rv b vb→O4 w (compareOp op va vb) (.bool r))(hq:QB r σ):C2 w fx op a b m σ QB X:=λva vb ha hb=>by
 exact V1.of_pure ok (h va vb ha hb) ⟨r,rfl,hq⟩
theorem Z7(ok:aC w n fx)(h:QB (decide (x<y)) σ):C2 w fx .Lt (.int x) (.int y) m σ QB X:=C2.of ok (λva vb ha hb=>by
 cases ha using Rv.aR;cases hb using Rv.aR;exact λA E s Q' _ k=>PySem.P.lt_int (k _ _ _ (aH _) (.bool _))) h
theorem S8(ok:aC w n fx)(h:QB (decide (x≤y)) σ):C2 w fx .LtE (.int x) (.int y) m σ QB X:=C2.of ok (λva vb ha hb=>by
 cases ha using Rv.aR;cases hb using Rv.aR;exact λA E s Q' _ k=>PySem.P.le_int (k _ _ _ (aH _) (.bool _))) h
theorem Z9(ok:aC w n fx)(h:QB (decide (x>y)) σ):C2 w fx .Gt (.int x) (.int y) m σ QB X:=C2.of ok (λva vb ha hb=>by
 cases ha using Rv.aR;cases hb using Rv.aR;exact λA E s Q' _ k=>PySem.P.gt_int (k _ _ _ (aH _) (.bool _))) h
theorem aac(ok:aC w n fx)(h:QB (decide (x ≥ y)) σ):C2 w fx .GtE (.int x) (.int y) m σ QB X:=C2.of ok (λva vb ha hb=>by
 cases ha using Rv.aR;cases hb using Rv.aR;exact λA E s Q' _ k=>PySem.P.ge_int (k _ _ _ (aH _) (.bool _))) h
theorem aad(ok:aC w n fx)(h:QB (x == y) σ):C2 w fx .Eq (.int x) (.int y) m σ QB X:=C2.of ok (λva vb ha hb=>by
 cases ha using Rv.aR;cases hb using Rv.aR;exact λA E s Q' _ k=>PySem.P.eq_int (k _ _ _ (aH _) (.bool _))) h
theorem Z6(ok:aC w n fx)(h:QB (x != y) σ):C2 w fx .NotEq (.int x) (.int y) m σ QB X:=C2.of ok (λva vb ha hb=>by
 cases ha using Rv.aR;cases hb using Rv.aR;exact λA E s Q' _ k=>PySem.P.ne_int (k _ _ _ (aH _) (.bool _))) h
noncomputable def AV.isNone:AV→Bool|.none=>true|_=>false
theorem Rv.isNone{a v} (h:Rv a v):(v == .none)=a.isNone:=by cases h<;>rfl
theorem Z8(ok:aC w n fx){a:AV}(h:QB a.isNone σ):C2 w fx .Is a .none m σ QB X:=C2.of ok (λva vb ha hb=>by
 cases hb using Rv.noneE;exact λA E s Q' _ k=>is_none (k _ _ _ (aH _) (by rw[ha.isNone];exact .bool _))) h
theorem Od(ok:aC w n fx){a:AV}(h:QB (!a.isNone) σ):C2 w fx .IsNot a .none m σ QB X:=C2.of ok (λva vb ha hb=>by
 cases hb using Rv.noneE;exact λA E s Q' _ k=>isNot_none (k _ _ _ (aH _) (by rw[ha.isNone];exact .bool _))) h
theorem PX(b:Bool)(h:QB b σ):T1 w fx (.bool b) m σ QB X:=λva ha=>by
 cases ha using Rv.sE;exact λs H=>.of (wpAny_truthy_bool ⟨m,σ,H,rfl,h⟩)
theorem Tt(ok:aC w n fx)(h:QB (x != 0) σ):T1 w fx (.int x) m σ QB X:=λva ha=>by
 cases ha using Rv.aR;exact B1.of_pure ok (λA E s Q' _ k=>truthy_int (k _ _ (aH _))) h
theorem Tn(ok:aC w n fx)(h:Q (.int (-x)) σ):U1 w fx .USub (.int x) m σ Q X:=λva ha=>by
 cases ha using Rv.aR;exact V1.of_pure ok (λA E s Q' _ k=>neg_int (k _ _ _ (aH _) (.int _ _))) h
theorem JL{op:UnaryOp}{e:Expr}{pos} (h:EV w fx e m σ (λa σ₁=>U1 w fx op a m σ₁ Q X) X):EV w fx (.UnaryOp op e pos) m σ Q X:=by
 show WP w fx (eval (.UnaryOp op e pos) fx.env) m σ _ X
 rw[show eval (.UnaryOp op e pos) fx.env=(do let v ←eval e fx.env;standAt pos;holding [v] (unaryOp op v)) from rfl]
 exact V1.aY (V1.mono h λa σ₁ h₁ va hva=>WP.bind (WP.standAt (WP.holding (h₁ va hva))))
theorem Nv{l op r pos} (hm:behindInMarks op r=false) (h:EV w fx l m σ (λa σ₁=>EV w fx r m σ₁ (λb σ₂=>C2 w fx op a b m σ₂ (λc σ₃=>Q (.bool c) σ₃) X) X) X):EV w fx (.Compare l [op] [r] pos) m σ Q X:=by
 show V1 w fx (eval _ fx.env) m σ Q X
 rw[eval_Compare1,markedBehindIn_of_false hm]
 exact V1.aY (V1.mono h λa σ₁ h₁ va ha=>V1.aY (V1.holding (V1.mono h₁ λb σ₂ h₂ vb hb=>WP.bind (WP.standAt (WP.operate (WP.mono (h₂ va vb ha hb) λvc m' σ'=>zN λe c hc b e4 q=>⟨e,c,hc,e4▸q⟩))))))
theorem Kw{l op r pos} (hm:behindInMarks op r=false) (h:EV w fx l m σ (λa σ₁=>EV w fx r m σ₁ (λb σ₂=>C2 w fx op a b m σ₂ QB X) X) X):TS w fx (.Compare l [op] [r] pos) m σ QB X:=by
 show B1 w fx (isTrue _ fx.env _) m σ QB X
 rw[isTrue_Compare1,markedBehindIn_of_false hm]
 exact V1.aY (V1.mono h λa σ₁ h₁ va ha=>V1.aY (V1.holding (V1.mono h₁ λb σ₂ h₂ vb hb=>WP.bind (WP.standAt (WP.bind (WP.operate (WP.mono (h₂ va vb ha hb) λvc m' σ'=>zN λe c hc b e4 q=>by
  subst e e4;cases hc using Rv.sE;exact WP.holding λs H=>.of (wpAny_truthy_bool ⟨_,_,H,rfl,q⟩))))))))
theorem PN{e pos} (h:TS w fx e m σ (λb σ₁=>QB (!b) σ₁) X):TS w fx (.UnaryOp .Not e pos) m σ QB X:=by
 show B1 w fx (isTrue _ fx.env _) m σ QB X
 rw[arm_isTrue_UnaryOp]
 exact WP.bind (WP.mono h λb m' σ'=>uA λe q=>WP.pure ⟨e,q⟩)
theorem H8{e:Expr}(he:∀ whole,isTrue e fx.env whole=(do let v ←whole;standAt e.pos;PySem.holding [v] (truthy v)))(h:EV w fx e m σ (λa σ₁=>T1 w fx a m σ₁ QB X) X):TS w fx e m σ QB X:=by
 show WP w fx (isTrue e fx.env (eval e fx.env)) m σ _ X
 rw[he]
 exact V1.aY (V1.mono h λa σ₁ h₁ va hva=>WP.bind (WP.standAt (WP.holding (h₁ va hva))))
theorem V7{t b o pos} (h:TS w fx t m σ (λc σ₁=>if c=true then EV w fx b m σ₁ Q X else EV w fx o m σ₁ Q X) X):EV w fx (.IfExp t b o pos) m σ Q X:=by
 show V1 w fx (eval _ fx.env) m σ Q X
 rw[arm_eval_IfExp]
 exact WP.bind (WP.mono h λc m' σ'=>uA λe q=>by subst e;cases c<;>exact q)
noncomputable def BO(w:World)(fx:Fx)(op:BoolOp)(es:List Expr)(m:au)(σ:Led)(QB:Bool→Led→Prop)(X:Value→Prop):Prop:=B1 w fx (allTrue op es fx.env) m σ QB X
theorem Ey(h:QB true σ):BO w fx .And [] m σ QB X:=λs H=>.of (wpAny_allTrue_And_nil ⟨m,σ,H,rfl,h⟩)
theorem HB(h:QB false σ):BO w fx .Or [] m σ QB X:=λs H=>.of (wpAny_allTrue_Or_nil ⟨m,σ,H,rfl,h⟩)
theorem RN{e:Expr}{r} (h:TS w fx e m σ (λb σ₁=>if b=true then BO w fx .And r m σ₁ QB X else QB false σ₁) X):BO w fx .And (e::r) m σ QB X:=by
 show B1 w fx (isTrue e fx.env (eval e fx.env) >>= λt=>match BoolOp.And,t with|.And,false=>pure false|.Or,true=>pure true|_,_=>allTrue .And r fx.env) m σ QB X
 refine WP.bind (WP.mono h λb m' σ'=>uA λe q=>?_)
 subst e
 cases b
 ·exact WP.pure ⟨rfl,q⟩
 ·exact q
theorem Wa{e:Expr}{r} (h:TS w fx e m σ (λb σ₁=>if b=true then QB true σ₁ else BO w fx .Or r m σ₁ QB X) X):BO w fx .Or (e::r) m σ QB X:=by
 show B1 w fx (isTrue e fx.env (eval e fx.env) >>= λt=>match BoolOp.Or,t with|.And,false=>pure false|.Or,true=>pure true|_,_=>allTrue .Or r fx.env) m σ QB X
 refine WP.bind (WP.mono h λb m' σ'=>uA λe q=>?_)
 subst e
 cases b
 ·exact q
 ·exact WP.pure ⟨rfl,q⟩
theorem Ky{op:BoolOp}{es pos} (h:BO w fx op es m σ QB X):TS w fx (.BoolOp op es pos) m σ QB X:=by
 show B1 w fx (isTrue _ fx.env _) m σ QB X
 rw[arm_isTrue_BoolOp];exact h
theorem NP{a b:Expr}{pos} (h:EV w fx a m σ (λv σ₁=>T1 w fx v m σ₁ (λt σ₂=>if t=true then EV w fx b m σ₂ Q X else Q v σ₂) X) X):EV w fx (.BoolOp .And [a,b] pos) m σ Q X:=by
 show WP w fx (eval a fx.env >>= λv=>standAt pos >>= λ_=>PySem.holding [v] (truthy v) >>= λt=>match BoolOp.And,t with|.And,false|.Or,true=>pure v|_,_=>boolOp pos .And [eval b fx.env]) m σ _ X
 refine V1.aY (V1.mono h λv σ₁ h₁ va hv=>WP.bind (WP.standAt (WP.bind (WP.holding (WP.mono (h₁ va hv) λt m' σ'=>uA λe q=>?_)))))
 subst e
 cases t
 ·exact WP.pure ⟨rfl,v,hv,q⟩
 ·exact q
end
section
variable{w:World}{fx:Fx}{m m':au}{σ:Led}{X:Value→Prop}{n:Nat}{x y:Int}{Q:AV→Led→Prop}{QB:Bool→Led→Prop}{N:au→Led→Prop}{R:AV→Led→Prop}
noncomputable def O9(N:au→Led→Prop)(R:AV→Led→Prop)(f:Flow)(m':au)(σ':Led):Prop:=match f with|.next=>N m' σ'|.ret v=>∃ a,Rv a v∧R a σ'|_=>False
noncomputable def ST(w:World)(fx:Fx)(t:Sem Flow)(m:au)(σ:Led)(N:au→Led→Prop)(R:AV→Led→Prop)(X:Value→Prop):Prop:=WP w fx t m σ (O9 N R) X
noncomputable def S1(w:World)(fx:Fx)(st:Stmt)(m:au)(σ:Led)(N:au→Led→Prop)(R:AV→Led→Prop)(X:Value→Prop):Prop:=ST w fx (exec st fx.env) m σ N R X
noncomputable def SS(w:World)(fx:Fx)(sts:List Stmt)(m:au)(σ:Led)(N:au→Led→Prop)(R:AV→Led→Prop)(X:Value→Prop):Prop:=ST w fx (execs sts fx.env) m σ N R X
theorem Qd(h:N m σ):SS w fx [] m σ N R X:=WP.pure h
theorem qt{st rest} (h:S1 w fx st m σ (λm' σ'=>SS w fx rest m' σ' N R X) R X):SS w fx (st::rest) m σ N R X:=by
 show WP w fx (execs (st::rest) fx.env) m σ _ X
 rw[execs_cons]
 refine WP.bind (WP.mono h λf m' σ' q=>?_)
 cases f with
 | next=>exact q
 | ret v=>exact WP.pure q
 | brk=>exact q.elim
 | cont=>exact q.elim
theorem uU{sts}{Q:AV→Led→Prop} (h:SS w fx sts m σ (λ_ σ'=>Q .none σ') Q X):WP w fx (execs sts fx.env) m σ (Te Q) X:=WP.mono h λf m' σ' q=>by
 cases f with
 | next=>exact⟨_,.none,q⟩
 | ret v=>exact q
 | brk=>exact q.elim
 | cont=>exact q.elim
theorem SS.mono{sts}{N':au→Led→Prop}{R':AV→Led→Prop} (h:SS w fx sts m σ N R X) (k:∀ m' σ',N m' σ'→N' m' σ') (r:∀ a σ',R a σ'→R' a σ'):SS w fx sts m σ N' R' X:=WP.mono h λf m' σ' q=>by
 cases f with
 | next=>exact k _ _ q
 | ret v=>refine aD (λa ha q=>?_) q;exact⟨a,ha,r _ _ q⟩
 | brk=>exact q.elim
 | cont=>exact q.elim
theorem TG{e pos} (h:EV w fx e m σ R X):S1 w fx (.Return (some e) pos) m σ N R X:=by
 show WP w fx (exec _ fx.env) m σ _ X
 rw[exec_Return_some]
 exact WP.bind (WP.standAt (V1.aY (V1.mono h λa σ' q v hv=>WP.pure ⟨a,hv,q⟩)))
theorem Sd{t b o pos} (h:TS w fx t m σ (λc σ₁=>if c=true then SS w fx b m σ₁ N R X else SS w fx o m σ₁ N R X) X):S1 w fx (.If t b o pos) m σ N R X:=by
 show WP w fx (exec _ fx.env) m σ _ X
 rw[exec_If]
 exact WP.bind (WP.standAt (WP.bind (WP.mono h λc m' σ'=>uA λe q=>by subst e;cases c<;>exact q)))
theorem Qj{e pos} (hi:interactive fx.env=false) (hs:swapsWith e none pos.line fx.env=pure false) (h:EV w fx e m σ (λa σ'=>a=.none∧N m σ') X):S1 w fx (.Expr e pos) m σ N R X:=by
 show WP w fx (exec _ fx.env) m σ _ X
 rw[exec_Expr fx.env e pos hi hs]
 refine WP.bind (WP.standAt (V1.aY (V1.mono h λa σ'=>uA λea q=>λv hv=>?_)))
 subst ea;cases hv using Rv.noneE
 rw[dropValue_plain (λa q=>by cases q)]
 exact WP.pure q
inductive Put (x:Str) (a:AV):au→au→Prop
 | here {o r}:Put x a ((x,o)::r) ((x,some a)::r)
 | there {p r r'}:Put x a r r'→Put x a (p::r) (p::r')
theorem Put.keys{x a}{m m':au} (h:Put x a m m'):m'.map (·.1)=m.map (·.1):=by
 induction h with
 | here=>rfl
 | there _ ih=>exact congrArg (_ :: ·) ih
theorem Put.key{x a}{m m':au} (h:Put x a m m'):x∈m.map (·.1):=by
 induction h with
 | here=>exact .head _
 | there _ ih=>exact .tail _ ih
theorem Put.mem{x a}{m m':au} (h:Put x a m m'):(m.map (·.1)).Nodup→∀ y b,(y,some b)∈m'→(y=x∧b=a)∨(y≠x∧(y,some b)∈m):=by
  induction h with
  | here=>
    intro nd y b h
    rcases List.mem_cons.mp h with h2|h2
    · cases h2;exact .inl ⟨rfl,rfl⟩
    · refine .inr ⟨λq=>(List.nodup_cons.mp nd).1 (List.mem_map.mpr ⟨_,h2,q⟩),.tail _ h2⟩
  | there hp ih=>
    intro nd y b h
    rcases List.mem_cons.mp h with h2|h2
    · refine .inr ⟨λq=>(List.nodup_cons.mp nd).1 ?_,h2▸.head _⟩
      rw[←h2]
      exact(show y=x from q)▸hp.key
    · exact(ih (List.nodup_cons.mp nd).2 y b h2).imp id λq=>⟨q.1,.tail _ q.2⟩
theorem Holds.set{s:Shared}{h':Heap}{k:Nat}{x:Str}{a:AV}{v:Value}(H:Holds w fx m σ s)(hp:Put x a m m')(hv:Rv a v)
  (hn:∀ M,s.heap.Ns fx.env.locals M→h'.Ns fx.env.locals (λy=>if y=x then some v else M y))(hs:Heap.SameBut fx.env.locals s.heap h'):Holds w fx m' σ { s with heap:=h',toks:=k }:=by
 refine dO (λg M news h=>?_) H
 refine⟨g,_,news,h.stays,h.keep,h.F.set (hn M h.F.ns) hs,h.N.set hs,⟨hp.keys▸h.vars.nd,λy b hb=>?_⟩,h.led,h.nd,h.gens,h.os⟩
 rcases hp.mem h.vars.nd y b hb with⟨rfl,rfl⟩|⟨q1,q2⟩
 ·exact⟨v,if_pos rfl,hv⟩
 ·refine aD (λv' h1 h2=>?_) (h.vars.at_ y b q2)
  exact⟨v',(if_neg q1).trans h1,h2⟩
noncomputable def BN(w:World)(fx:Fx)(x:Str)(a:AV)(m:au)(σ:Led)(N:au→Led→Prop)(X:Value→Prop):Prop:=∀ v,Rv a v→WP w fx (bindName fx.env x v) m σ (λ_ m' σ'=>N m' σ') X
theorem IW{x:Str}{a:AV}{names} (ok:aC w n fx) (hk:iZ fx names) (h1:(x,NameKind.local)∈names) (hp:Put x a m m') (h:N m' σ):BN w fx x a m σ N X:=λv hv s H=>by
 have H':=H
 refine dO (λg M news H=>?_) H
 refine .of (wpAny_bindName (wpAny_storeName_local (hk _ h1).1 H.F.ns (λh' hn hs=>⟨m',σ,H'.set hp hv (λM' hM'=>?_) hs,h⟩) ?_))
 ·refine gB (λo es ep a1 a2 a3 a4=>?_) hn
  refine⟨o,es,ep,a1,a2,a3,λy=>?_⟩
  rw[a4]
  have:∀ y,M y=M' y:=λy=>by
   refine gB (λo es ep b1 b2 b3 b4=>?_) (H.F.ns)
   refine gB (λo' es' ep' c1 c2 c3 c4=>?_) hM'
   rw[b1] at c1;cases c1
   rw[b2] at c2;cases c2
   rw[←b4,←c4]
  simp only[this]
 ·show(fx.env.scope.kind == .class||(fx.env.scope.kind == .module&&fx.env.locals != fx.env.globals))=false
  rw[ok.kind];rfl
theorem Oi{x:Str}{a:AV}{c:Addr}{v0:Option AV}{pre post:Led}{names} (ok:aC w n fx) (hk:iZ fx names) (h1:(x,NameKind.cell)∈names) (hc:fx.env.cells.lookup x=some c)
  (h:N m (pre++(c,.cell (some a))::post)):BN w fx x a m (pre++(c,.cell v0)::post) N X:=λv hv s H=>by
 refine aD (λo ho ha=>?_) (H.mem (a:=c) (ao:=.cell v0) (by simp))
 have hcell:∃ Ww,s.heap.IsCell c Ww:=by
  cases ha with
  | cell hd hv=>exact⟨_,_,ho,hd⟩
  | Hw hd=>exact⟨_,_,ho,hd⟩
 refine uE (λWw hcell=>?_) hcell
 refine .of (wpAny_bindName (wpAny_storeName_cell ok.kind (hk _ h1).1 hc hcell λh' hv' hs=>?_))
 refine aD (λo' ho' hd'=>?_) hv'
 exact⟨m,_,H.upd (k:=s.toks) (λb hb=>hs.2 b hb) ho' (.cell hd' hv),h⟩
noncomputable def AS(w:World)(fx:Fx)(t:Expr)(a:AV)(m:au)(σ:Led)(N:au→Led→Prop)(X:Value→Prop):Prop:=∀ v,Rv a v→WP w fx (assign t fx.env v) m σ (λ_ m' σ'=>N m' σ') X
theorem Fd{x:Str}{a:AV}{p} (h:BN w fx x a m σ N X):AS w fx (.Name x p) a m σ N X:=λv hv=>
 WP.bind (m:=m) (t:=standAt p) (f:=λ_=>bindName fx.env x v) (WP.standAt (h v hv))
end
section
variable{w:World}{fx:Fx}{m m':au}{σ:Led}{X:Value→Prop}{n n':Nat}{x y:Int}{Q:AV→Led→Prop}{QB:Bool→Led→Prop}{N:au→Led→Prop}{R:AV→Led→Prop}{QL:List AV→Led→Prop}
noncomputable def oA(w:World)(fx:Fx)(pos:Pos)(es:List Expr)(m:au)(σ:Led)(QL:List AV→Led→Prop)(X:Value→Prop):Prop:=
 WP w fx (spliced (backTo pos (starEach es fx.env))) m σ (λvs m' σ'=>m'=m∧∃ as,bF as vs∧as.length=es.length∧QL as σ') X
theorem Nm{pos} (h:QL [] σ):oA w fx pos [] m σ QL X:=λs H=>.of (wpAny_items_nil ⟨m,σ,H,rfl,[],.nil,rfl,h⟩)
theorem JK{pos e rest} (he:starEach (e::rest) fx.env=(false,eval e fx.env)::starEach rest fx.env) (h:EV w fx e m σ (λa σ₁=>oA w fx pos rest m σ₁ (λas σ₂=>QL (a::as) σ₂) X) X):oA w fx pos (e::rest) m σ QL X:=by
 show WP w fx (spliced (backTo pos (starEach (e::rest) fx.env))) m σ _ X
 rw[he]
 show WP w fx (eval e fx.env >>= λv=>(pure [v]:Sem (List Value)) >>= λhere=>PySem.holding here (spliced (backTo pos (starEach rest fx.env))) >>= λvs=>(pure (here++vs):Sem (List Value))) m σ _ X
 exact V1.aY (V1.mono h λa σ₁ h₁ v hv=>WP.bind (WP.pure (WP.bind (WP.holding (WP.mono h₁ λvs m' σ'=>uO λe2 as has hl q=>WP.pure ⟨e2,_,.cons hv has,by simp[hl],q⟩)))))
theorem rU{es k pos} (hz:es.length≤1000) (h:oA w fx pos es m σ (λas σ'=>∀ t,Q (.ref t) ((t,.tuple as)::σ')) X):EV w fx (.Tuple es k pos) m σ Q X:=by
 show WP w fx (standAt pos >>= λ_=>spliced (backTo pos (starEach es fx.env)) >>= λvs=>newTuple vs) m σ _ X
 refine WP.bind (WP.standAt (WP.bind (WP.mono h λvs m1 σ₁=>uO λe1 as has hl q=>λs₁ H₁=>.of ?_)))
 refine wpAny_newObj_type (s:=s₁) ⟨m1,_,H₁.push (k:=s₁.toks) (.tuple (n:=0) has),e1,_,.ref _,q _⟩ ?_
 show vs.toArray.size≤sizeLine
 rw[List.size_toArray,has.length,hl,sizeLine_eq];exact id (L1 [] [_] 1099511628981 129 65537205 rfl hz)
theorem Nq{es pos} (hz:es.length≤1000) (h:oA w fx pos es m σ (λas σ'=>∀ t,Q (.ref t) ((t,.list as)::σ')) X):EV w fx (.List es pos) m σ Q X:=by
 show WP w fx (standAt pos >>= λ_=>spliced (backTo pos (starEach es fx.env)) >>= λvs=>newList vs) m σ _ X
 refine WP.bind (WP.standAt (WP.bind (WP.mono h λvs m1 σ₁=>uO λe1 as has hl q=>λs₁ H₁=>.of ?_)))
 refine wpAny_newObj_type (s:=s₁) ⟨m1,_,H₁.push (k:=s₁.toks) (.list (n:=0) has),e1,_,.ref _,q _⟩ ?_
 show vs.toArray.size≤sizeLine
 rw[List.size_toArray,has.length,hl,sizeLine_eq];exact id (L1 [] [_] 1099511628981 129 65537205 rfl hz)
noncomputable def CL(w:World)(fx:Fx)(f:AV)(as:List AV)(m:au)(σ:Led)(Q:AV→Led→Prop)(X:Value→Prop):Prop:=∀ vf vs,Rv f vf→bF as vs→V1 w fx (call vf vs) m σ Q X
noncomputable def gn(w:World):AV→Prop
 | .bi _=>True
 | .typ _=>True
 | .ref a=>keepIn (KK w) (.ref a)=true
 | _=>False
theorem Mi(w:World){f:AV}(hk:gn w f) {vf} (hf:Rv f vf) (h:Heap) (X:(KK w).In h):∃ k,(k=Keeper.frame∨k=Keeper.machine∨k=Keeper.boundFrame)∧Looks (model Pr w) h (keeperOf vf) k:=by
 cases hf with
 | ref a=>exact keeps_K hk h X
 | typ n=>exact⟨.machine,.inr (.inl rfl),Looks.of_pure rfl⟩
 | bi n=>exact⟨.machine,.inr (.inl rfl),Looks.of_pure rfl⟩
 | _=>exact hk.elim
theorem I6{α:Type}{b:Bool}{M:Model}{A:Around}{E:Value→Shared→Prop}{s:Shared}{vs:List Value}{t:Sem α}{Q:α→Shared→Prop}(h:bH b M A t Q E s):bH b M A (t.keep vs) Q E s:=
 λΓ p hΓ c=>by rw[Sem.wp_keep];exact h Γ p hΓ c
theorem wY{pos:Pos}{vf:Value}{f:AV}{first:List Value}{args:List (Bool×Sem Value)}(ok:aC w n fx)(hk:gn w f)(hf:Rv f vf)(hplain:args.any (·.1)=false)
  (h:WP w fx (evalArgs vf true args []) m σ (λa m' σ'=>V1 w fx (call vf (first++a.pos) a.kw) m' σ' Q X∧m'=m) X):V1 w fx (callWith pos vf first args []) m σ Q X:=by
 show WP w fx _ m σ _ X
 unfold callWith
 refine WP.bind (WP.holding (WP.mono h λa m' σ'=>uA λhc e=>WP.bind (WP.standAt λs H=>?_)))
 subst e
 refine aD (λk hk' L=>?_) (Mi w hk hf _ (H.lD ok))
 simp only[hplain,List.any_nil,Bool.or_false]
 refine ak (.of (L.here ?_))
 have tail:∀ {t:Sem Value},bH fx.cl (model Pr w) fx.A t (λv s'=>∃ m2 σ2,Holds w fx m2 σ2 s'∧m2=m'∧∃ a,Rv a v∧Q a σ2) (XR w fx X) s→
   bH fx.cl (model Pr w) fx.A (t >>= λr=>PySem.holding [r] point >>= λ_=>pure r) (λv s'=>∃ m2 σ2,Holds w fx m2 σ2 s'∧m2=m'∧∃ a,Rv a v∧Q a σ2) (XR w fx X) s:=
  λht=>ak (aV ht (λr s₂ hr=>ak (cG (uH (aJ hr)))) λ_ _ x=>x)
 have go:=hc s H
 have marked (mk:Value):bH fx.cl (model Pr w) fx.A (callMarked mk vf (first++a.pos) a.kw) (λv s'=>∃ m2 σ2,Holds w fx m2 σ2 s'∧m2=m'∧∃ a,Rv a v∧Q a σ2) (XR w fx X) s:=by
  unfold callMarked;exact I6 go
 rcases hk' with rfl|rfl|rfl<;>dsimp only<;>first|exact tail go|(split<;>first|exact tail go|exact tail (marked _))
theorem w5{pos:Pos}{vf:Value}{f:AV}{first:List Value}{fa:List AV}(ok:aC w n fx)(hk:gn w f)(hf:Rv f vf)(hfirst:bF fa first)
  (h:CL w fx f fa m σ Q X):V1 w fx (callWith pos vf first (backTo pos (starEach [] fx.env)) []) m σ Q X:=by
 refine wY ok hk hf rfl λs H=>.of (evalArgs_nil3 ⟨m,σ,H,?_,rfl⟩)
 show V1 w fx (call vf (first++[]) []) _ _ _ _
 rw[aN]
 exact h vf first hf hfirst
theorem wZ{pos:Pos}{vf:Value}{f:AV}{first:List Value}{fa:List AV}{e:Expr}{r:List Expr}(ok:aC w n fx)(hk:gn w f)(hf:Rv f vf)(hfirst:bF fa first)
  (he:starEach (e::r) fx.env=(false,eval e fx.env)::starEach r fx.env)(hp:(backTo pos (starEach r fx.env)).any (·.1)=false)
  (h:oA w fx pos (e::r) m σ (λas σ'=>CL w fx f (fa++as) m σ' Q X) X):V1 w fx (callWith pos vf first (backTo pos (starEach (e::r) fx.env)) []) m σ Q X:=by
 unfold oA at h
 rw[he] at h⊢
 refine wY ok hk hf ?_ ?_
 ·show(false||(backTo pos (starEach r fx.env)).any (·.1))=false
  rw[hp];rfl
 ·unfold evalArgs
  show WP w fx (spliced ((false,_)::backTo pos (starEach r fx.env)) >>= _) m σ _ X
  refine WP.bind (WP.mono h λvs m1 σ₁=>uO λe1 as has hl q=>?_)
  subst e1
  refine WP.holding (WP.bind (WP.pure (WP.bind (WP.pure (WP.pure ⟨?_,rfl⟩)))))
  exact q vf _ hf (hfirst.append has)
theorem JV{func:Expr}{pos} (ok:aC w n fx) (hs:eval (.Call func [] [] pos) fx.env=(do callWith pos (←eval func fx.env) [] (backTo pos (starEach [] fx.env)) []))
  (h:EV w fx func m σ (λf σ₁=>gn w f∧CL w fx f [] m σ₁ Q X) X):EV w fx (.Call func [] [] pos) m σ Q X:=by
 show V1 w fx (eval _ fx.env) m σ Q X
 rw[hs]
 exact V1.aY (V1.mono h λf σ₁ h₁ vf hf=>w5 ok h₁.1 hf .nil h₁.2)
theorem JT{func:Expr}{e r pos} (ok:aC w n fx) (hs:eval (.Call func (e::r) [] pos) fx.env=(do callWith pos (←eval func fx.env) [] (backTo pos (starEach (e::r) fx.env)) []))
  (he:starEach (e::r) fx.env=(false,eval e fx.env)::starEach r fx.env)(hp:(backTo pos (starEach r fx.env)).any (·.1)=false)
  (h:EV w fx func m σ (λf σ₁=>gn w f∧oA w fx pos (e::r) m σ₁ (λas σ₂=>CL w fx f as m σ₂ Q X) X) X):EV w fx (.Call func (e::r) [] pos) m σ Q X:=by
 show V1 w fx (eval _ fx.env) m σ Q X
 rw[hs]
 exact V1.aY (V1.mono h λf σ₁ h₁ vf hf=>wZ ok h₁.1 hf .nil he hp h₁.2)
noncomputable def GM(w:World)(fx:Fx)(o:AV)(name:Str)(m:au)(σ:Led)(K:AV→List AV→Led→Prop)(X:Value→Prop):Prop:=
 ∀ vo pl,Rv o vo→WP w fx (getMethod vo name pl) m σ (λr m' σ'=>m'=m∧∃ f fa,Rv f r.1∧bF fa r.2∧K f fa σ') X
theorem JQ{o:Expr}{name:Str}{apos pos} (ok:aC w n fx)
  (hs:eval (.Call (.Attribute o name apos) [] [] pos) fx.env=(do
   let ov ←eval o fx.env
   standAt apos.atName
   methodCall o name apos pos fx.env ov 0 (backTo pos (starEach [] fx.env)) []))
  (hl:(apos.endLine == pos.line)=true)
  (h:EV w fx o m σ (λov σ₁=>GM w fx ov name m σ₁ (λf fa σ₂=>gn w f∧CL w fx f fa m σ₂ Q X) X) X):EV w fx (.Call (.Attribute o name apos) [] [] pos) m σ Q X:=by
 show V1 w fx (eval _ fx.env) m σ Q X
 rw[hs]
 refine V1.aY (V1.mono h λov σ₁ h₁ vo ho=>WP.bind (WP.standAt ?_))
 unfold methodCall
 refine WP.bind (WP.holding (WP.mono (h₁ vo _ ho) λr m' σ'=>BK λe f fa hf hfa hk q=>?_))
 subst e
 refine WP.bind ?_
 show WP w fx (methodCallPos true o fx.env apos pos) _ _ _ X
 unfold methodCallPos
 rw[if_pos (by rw[hl];rfl)]
 exact WP.pure (w5 ok hk hf hfa q)
theorem JN{o:Expr}{name:Str}{apos pos e r} (ok:aC w n fx)
  (hs:eval (.Call (.Attribute o name apos) (e::r) [] pos) fx.env=(do
   let ov ←eval o fx.env
   standAt apos.atName
   methodCall o name apos pos fx.env ov (e::r).length (backTo pos (starEach (e::r) fx.env)) []))
  (hl:(apos.endLine == pos.line)=true)(hm:methodCallForm (e::r).length (backTo pos (starEach (e::r) fx.env)) []=true)
  (he:starEach (e::r) fx.env=(false,eval e fx.env)::starEach r fx.env)(hp:(backTo pos (starEach r fx.env)).any (·.1)=false)
  (h:EV w fx o m σ (λov σ₁=>GM w fx ov name m σ₁ (λf fa σ₂=>gn w f∧oA w fx pos (e::r) m σ₂ (λas σ₃=>CL w fx f (fa++as) m σ₃ Q X) X) X) X):EV w fx (.Call (.Attribute o name apos) (e::r) [] pos) m σ Q X:=by
 show V1 w fx (eval _ fx.env) m σ Q X
 rw[hs]
 refine V1.aY (V1.mono h λov σ₁ h₁ vo ho=>WP.bind (WP.standAt ?_))
 unfold methodCall
 rw[hm]
 refine WP.bind (WP.holding (WP.mono (h₁ vo _ ho) λr m' σ'=>BK λe f fa hf hfa hk q=>?_))
 subst e
 refine WP.bind ?_
 unfold methodCallPos
 rw[if_pos (by rw[hl];rfl)]
 exact WP.pure (wZ ok hk hf hfa he hp q)
theorem rM{x' x:Str}{t:Tok}(h:x'≠x):(Value.str x' t).isStr x=false:=by
 show(x' == x)=false
 exact beq_eq_false_iff_ne.mpr h
theorem Ek{P}{x:Str}{a:AV}{fs:List (Str×AV)}{es:List DictEntry} (h:gq P fs es):(fs.map (·.1)).Nodup→(x,a)∈fs→∃ e,es.find? (·.key.isStr x)=some e∧Rv a e.val:=by
  induction h with
  | nil=>exact λ_ h=>absurd h List.not_mem_nil
  | @cons x' _ _ t _ _ hv h ih=>
    intro nd hm
    rcases List.mem_cons.mp hm with q|q
    · cases q
      exact⟨_,by rw[List.find?_cons];simp only[Value.isStr,beq_self_eq_true];rfl,hv⟩
    · have:(Value.str x' t).isStr x=false:=rM λz=>(List.nodup_cons.mp nd).1 (List.mem_map.mpr ⟨_,q,z.symm⟩)
      rw[List.find?_cons]
      simp only[this];exact ih (List.nodup_cons.mp nd).2 q
theorem Hi{P}{fs:List (Str×AV)}{es:List DictEntry}{x:Str}{a:AV} (h:gq P fs es) (nd:(fs.map (·.1)).Nodup) (hm:(x,a)∈fs):∃ v,getL x es=some (some v)∧Rv a v:=by
 refine aD (λe h1 h2=>?_) (Ek h nd hm)
 exact⟨e.val,by unfold getL;rw[h1],h2⟩
theorem qT{P}{fs:List (Str×AV)}{es:List DictEntry} (h:gq P fs es):es.any (·.refKey)=false:=by
 induction h with
 | nil=>rfl
 | cons _ _ ih=>rw[List.any_cons,ih];rfl
theorem gq.jX{P}{motive:∀ o,gq P [] o→Prop} (mk:motive _ .nil) {o} (h:gq P [] o):motive o h:=by cases h;exact mk
theorem gq.cV{P x a fs}{motive:∀ o,gq P ((x,a)::fs) o→Prop} (mk:∀ {v t es} h1 h2,motive (⟨PyData.keyHash P x,.str x t,v⟩::es) (.cons h1 h2)) {o} (h:gq P ((x,a)::fs) o):motive o h:=by cases h with|cons h1 h2=>exact mk h1 h2
theorem Ej{P}{x:Str}{fs:List (Str×AV)}{es:List DictEntry} (h:gq P fs es):x∉fs.map (·.1)→es.find? (·.key.isStr x)=none:=by
  induction h with
  | nil=>exact λ_=>rfl
  | @cons x' _ _ t _ _ hv h ih=>
    intro hn
    have:(Value.str x' t).isStr x=false:=rM λz=>hn (z▸.head _)
    rw[List.find?_cons]
    simp only[this];exact ih λz=>hn (.tail _ z)
theorem Hh{P}{fs:List (Str×AV)}{es:List DictEntry}{x:Str} (h:gq P fs es) (hn:x∉fs.map (·.1)):getL x es=some none:=by
 unfold getL
 rw[Ej h hn,qT h];rfl
inductive lM (x:Str) (a:AV):List (Str×AV)→List (Str×AV)→Prop
 | here {o r}:lM x a ((x,o)::r) ((x,a)::r)
 | there {p r r'}:p.1≠x→lM x a r r'→lM x a (p::r) (p::r')
 | new:lM x a [] [(x,a)]
theorem lM.keys{x a}{m m':List (Str×AV)} (h:lM x a m m'):∀ k,k∈m'.map (·.1)→k=x∨k∈m.map (·.1):=by
  induction h with
  | here=>exact λk h=>by simpa using h
  | there _ _ ih=>
    intro k hk
    rcases List.mem_cons.mp hk with q|q
    · exact .inr (q▸.head _)
    · exact(ih k q).imp id λz=>.tail _ z
  | new=>exact λk h=>by simpa using h
theorem lM.nd{x a}{m m':List (Str×AV)} (h:lM x a m m'):(m.map (·.1)).Nodup→(m'.map (·.1)).Nodup:=by
 induction h with
 | here=>exact id
 | there hp h ih=>exact λnd=>List.nodup_cons.mpr ⟨λq=>(h.keys _ q).elim hp (List.nodup_cons.mp nd).1,ih (List.nodup_cons.mp nd).2⟩
 | new=>exact λ_=>by simp
theorem zp{P}{x:Str}{a:AV}{v:Value}{tk:Tok} (ha:Rv a v) {fs fs':List (Str×AV)} (h:lM x a fs fs'):∀ {es:List DictEntry},gq P fs es→gq P fs' (putL x (PyData.keyHash P x) (.str x tk) v es):=by
  induction h with
  | here=>
    intro es h
    cases h using gq.cV with
    | mk hv h=>
      rename_i t _
      unfold putL
      rw[if_pos (show(Value.str x t).isStr x=true by simp[Value.isStr])]
      exact .cons ha h
  | @there p _ _ hp _ ih=>
    intro es h
    obtain⟨x',b⟩:=p
    cases h using gq.cV with
    | mk hv h=>
      rename_i t _
      unfold putL
      rw[if_neg (show ¬(Value.str x' t).isStr x=true by rw[rM hp];decide)]
      exact .cons hv (ih h)
  | new=>
    intro es h
    cases h using gq.jX
    exact .cons ha .nil
noncomputable def Pg(w:World)(C:Addr)(name:Str):Prop:=plainGet (KK w) C name=true∧hasDictIn (KK w) C=true∧findIn (KK w) (.ref C) name=some none
noncomputable def Td(w:World)(C:Addr)(name:Str):Prop:=findIn (KK w) (.ref C) "__setattr__"= some (some (.builtin "object.__setattr__"))∧plainOver (KK w) C=true∧takerIn (KK w) C name=some none∧hasDictIn (KK w) C=true
noncomputable def O5(w:World)(C:Addr)(name:Str)(f:Addr):Prop:=plainGet (KK w) C name=true∧findIn (KK w) (.ref C) name=some (some (.ref f))∧isFn (KK w) (.ref f)=true
noncomputable def O6(w:World)(C f:Addr):Prop:=makesIn (KK w) C=true∧findIn (KK w) (.ref C) "__init__"= some (some (.ref f))∧typeIn (KK w) (.ref f)=some (.type "function")
noncomputable def AV.Gi:AV→Bool|.bi _=>false|_=>true
noncomputable def GA(w:World)(fx:Fx)(o:AV)(name:Str)(m:au)(σ:Led)(Q:AV→Led→Prop)(X:Value→Prop):Prop:=∀ vo,Rv o vo→V1 w fx (getAttr vo name true) m σ Q X
theorem NK{value:Expr}{attr:Str}{pos} (hs:eval (.Attribute value attr pos) fx.env=(do
   let o ←eval value fx.env
   standAt pos.atName
   let r ←PySem.holding [o] (getAttr o attr true)
   letTemporaryGo value o r
   pure r)) (h:EV w fx value m σ (λo σ₁=>GA w fx o attr m σ₁ Q X) X):EV w fx (.Attribute value attr pos) m σ Q X:=by
 show V1 w fx (eval _ fx.env) m σ Q X
 rw[hs]
 refine V1.aY (V1.mono h λo σ₁ h₁ vo ho=>WP.bind (WP.standAt (V1.aY (V1.holding (V1.mono (h₁ vo ho) λa σ₂ q v hv=>?_)))))
 exact λs H=>.of (wpAny_bind (wpAny_letTemporaryGo (wpAny_pure ⟨m,σ₂,H,rfl,a,hv,q⟩)))
theorem pL{s:Shared}{P}{x C d:Addr}{o1 o2:Obj} (h1:s.heap.get? x=some o1) (a1:At P (.inst C d) o1) (h2:s.heap.get? d=some o2):InstAt s.heap x (instObj C d) C (some o2):=by
 cases a1 using At.Ve;exact⟨h1,rfl,rfl,h2⟩
theorem Q7{x C d:Addr}{name:Str}{fs:List (Str×AV)}{a:AV}(ok:aC w n fx)(hk:Pg w C name)(h1:Has w fx σ x (.inst C d))(h2:Has w fx σ d (.ns fs))(hm:(name,a)∈fs)(hb:a.Gi=true)(h:Q a σ) :
    GA w fx (.ref x) name m σ Q X:=λvo ho s H=>by
  cases ho using Rv.bJ
  refine aD (λo1 e1 a1=>?_) (H.has h1)
  refine aD (λo2 e2 a2=>?_) (H.has h2)
  have I:=pL e1 a1 e2
  cases a2 using At.nsE with
  | mk he nd=>
    refine aD (λv g1 g2=>?_) (Hi he nd hm)
    refine .of (get_value (H.lD ok) I (plainGet_of hk.1).1 (findObj_own hk.2.1 hk.2.2 rfl g1) ?_ ⟨m,σ,H.toks,rfl,a,g2,h⟩)
    cases g2<;>first|rfl|cases hb
noncomputable def SA(w:World)(fx:Fx)(o:AV)(name:Str)(a:AV)(m:au)(σ:Led)(N:au→Led→Prop)(X:Value→Prop):Prop:=∀ vo v,Rv o vo→Rv a v→WP w fx (setAttr vo name v) m σ (λ_ m' σ'=>N m' σ') X
theorem Kq{d:Addr}{o o':Obj}:∀ {n1 n2:List (Addr×Obj)},((n1++(d,o)::n2).map (·.1)).Nodup→Upd d o o' (n1++(d,o)::n2) (n1++(d,o')::n2)
 | [],n2,nd=>.head λp hp q=>(List.nodup_cons.mp nd).1 (List.mem_map.mpr ⟨p,hp,q⟩)
 | p::n1,n2,nd=>.tail (λq=>(List.nodup_cons.mp nd).1 (List.mem_map.mpr ⟨(d,o),List.mem_append_right _ (.head _),q.symm⟩)) (Kq (List.nodup_cons.mp nd).2)
theorem Bc{P fs es} (h:gq P fs es):es.length=fs.length:=by
 induction h with
 | nil=>rfl
 | cons _ _ ih=>simp[ih]
theorem lM.length{x a}{m m':List (Str×AV)} (h:lM x a m m'):m'.length≤m.length+1:=by
 induction h with
 | here=>exact Nat.le_succ _
 | there _ _ ih=>exact Nat.succ_le_succ ih
 | new=>exact nR _
theorem Qe{x C d:Addr}{name:Str}{fs fs':List (Str×AV)}{a:AV}{pre post:Led}(ok:aC w n fx)(hk:Td w C name)(h1:Has w fx (pre++(d,.ns fs)::post) x (.inst C d))(hp:lM name a fs fs')(hz:fs.length≤100)
    (h:N m (pre++(d,.ns fs')::post)):SA w fx (.ref x) name a m (pre++(d,.ns fs)::post) N X:=λvo v ho hv s H=>by
  cases ho using Rv.bJ
  have H':=H
  refine aD (λo1 e1 a1=>?_) (H.has h1)
  refine aD (λo2 e2 a2=>?_) (H.mem (a:=d) (ao:=.ns fs) (by simp))
  have I:=pL e1 a1 e2
  cases a2 using At.nsE with
  | mk he nd=>
    rename_i es ep
    refine dO (λg M news H=>?_) H
    have ats:At w (.ns fs') (dictOf (putL name (PyData.keyHash w.params name) (.str name (s.toks+1)) v es) (putN name es ep)):=.ns (zp hv hp he) (hp.nd nd)
    refine fV (λn1 o n2 W2 b1 b2=>?_) (H.zL ats);subst W2
    have hN:=H.N (d,o) (by simp)
    obtain rfl:o=dictOf es ep:=by have:=hN.1;rw[e2] at this;exact(oI this).symm
    have nd':((n1++(d,dictOf es ep)::n2).map (·.1)).Nodup:=by rw[H.led.keys];exact H.nd
    have gl:(getL name es).isSome=true:=by
      unfold getL;rw[qT he];split<;>rfl
    have hlen:(putL name (PyData.keyHash w.params name) (.str name (s.toks+1)) v es).length≤1000:=by
      rw[Bc (zp hv hp he)];have:=hp.length;exact L2 [] [_,_] 65537205 8321 6554821 269224117 rfl hz this
    refine .of (set_dict (news':=n1++(d,dictOf (putL name (PyData.keyHash w.params name) (.str name (s.toks+1)) v es) (putN name es ep))::n2) H.F (ok.lD.keeps H.stays) H.N I rfl hk.1 hk.2.1 hk.2.2.1 hk.2.2.2 gl rfl (Kq nd') hlen λh' F' N'=>?_)
    exact⟨m,_,⟨g,M,_,H.stays,H.keep,F',N',H.vars,b2,by have:=H.nd;simpa using this,H.gens,H.os⟩,h⟩
end
inductive zG (a:Addr) (ao:AO):Led→Led→Prop
 | here {r}:zG a ao ((a,ao)::r) r
 | there {p r r'}:zG a ao r r'→zG a ao (p::r) (p::r')
inductive lK:Led→Led→Led→Prop
 | nil {σ}:lK σ [] σ
 | cons {a ao σ σ' r ρ}:zG a ao σ σ'→lK σ' r ρ→lK σ ((a,ao)::r) ρ
inductive fO (a:Addr) (ao dB:AO):Led→Led→Prop
 | here {r}:fO a ao dB ((a,ao)::r) ((a,dB)::r)
 | there {p r r'}:fO a ao dB r r'→fO a ao dB (p::r) (p::r')
theorem zG.perm{a ao}{σ σ':Led} (h:zG a ao σ σ'):σ.Perm ((a,ao)::σ'):=by
 induction h with
 | here=>exact .refl _
 | there _ ih=>exact(ih.cons _).trans (.swap _ _ _)
theorem lK.perm{σ μ ρ:Led}(h:lK σ μ ρ):σ.Perm (μ++ρ):=by
 induction h with
 | nil=>exact .refl _
 | cons e _ ih=>exact e.perm.trans (ih.cons _)
theorem fO.split{a ao dB}{σ σ':Led} (h:fO a ao dB σ σ'):∃ pre post,σ=pre++(a,ao)::post∧σ'=pre++(a,dB)::post:=by
 induction h with
 | here=>exact⟨[],_,rfl,rfl⟩
 | there _ ih=>exact bw (λpre post e1 e2=>⟨_::pre,post,congrArg (_ :: ·) e1,congrArg (_ :: ·) e2⟩) ih
section
variable{w:World}{fx:Fx}{m m':au}{σ σ':Led}{X:Value→Prop}{n n':Nat}{x y:Int}{Q:AV→Led→Prop}{QB:Bool→Led→Prop}{N:au→Led→Prop}{R:AV→Led→Prop}{QL:List AV→Led→Prop}
theorem Holds.perm{s} (H:Holds w fx m σ s) (p:σ.Perm σ'):Holds w fx m σ' s:=by
 have hnd:(m.map (·.1)).Nodup:=let ⟨_,_,_,h⟩:=H;h.vars.nd
 exact H.weaken (r:=[]) (λ_ _ h=>h) hnd (by rw[aN];exact p)
theorem Holds.sel{s}{μ ρ:Led} (H:Holds w fx m σ s) (p:lK σ μ ρ):Holds w fx m μ s:=by
 have hnd:(m.map (·.1)).Nodup:=let ⟨_,_,_,h⟩:=H;h.vars.nd
 exact H.weaken (r:=ρ) (λ_ _ h=>h) hnd p.perm
theorem WP.perm{α}{t:Sem α}{Q:α→au→Led→Prop} (p:σ.Perm σ') (h:WP w fx t m σ' Q X):WP w fx t m σ Q X:=λs H=>h s (H.perm p)
theorem Holds.Wz{s}{ρ:Led} (H:Holds w fx m (σ++ρ) s):Holds w { fx with fz:=ρ++fx.fz } m σ s:=by
 refine dO (λg M news h=>?_) H
 exact⟨g,M,news,h.stays,h.keep,h.F,h.N,h.vars,by have:=h.led;rwa [aA] at this,by have:=h.nd;rwa [aA] at this,h.gens,h.os⟩
theorem Holds.Y5{s}{ρ:Led} (H:Holds w { fx with fz:=ρ++fx.fz } m σ s):Holds w fx m (σ++ρ) s:=by
 refine dO (λg M news h=>?_) H
 exact⟨g,M,news,h.stays,h.keep,h.F,h.N,h.vars,by have:=h.led;rw[aA];exact this,by have:=h.nd;rw[aA];exact this,h.gens,h.os⟩
theorem aC.fz{ρ:Led}(ok:aC w n fx):aC w n { fx with fz:=ρ }:=⟨ok.lD,ok.top,ok.own,ok.cases,ok.hand,ok.kind,ok.glob,ok.bi,ok.ff,ok.Bm,ok.gd⟩
theorem Has.b{a ao} (h:bW w fx.base a ao):Has w fx σ a ao:=.inr (.inr h)
structure Reads(w:World)(fx:Fx)(ρ:Led)(base':Heap):Prop where
 keep:fx.base.StaysIn base'
 at_:∀ p∈ρ++fx.fz,bW w base' p.1 p.2
theorem Has.on{ρ:Led}{base':Heap}{a ao} (h:Has w fx ρ a ao) (r:Reads w fx ρ base'):bW w base' a ao:=by
 rcases h with h|h|h
 ·exact r.at_ _ (List.mem_append_left _ h)
 ·exact r.at_ _ (List.mem_append_right _ h)
 ·exact h.keeps r.keep
noncomputable def FN(w:World)(b:Bool)(n:Nat)(f:Addr)(base:Heap)(as:List AV)(μ:Led)(Q:AV→Led→Prop)(X:Value→Prop):Prop:=∀ vs,bF as vs→CALL w b n base (.call (.ref f) ⟨vs,[]⟩) μ Q X
theorem Q5{x C d f:Addr}{name:Str}{fs:List (Str×AV)}{K:AV→List AV→Led→Prop}(ok:aC w n fx)(hk:O5 w C name f)(h1:Has w fx σ x (.inst C d))(h2:Has w fx σ d (.ns fs))(hm:name∉fs.map (·.1))(h:K (.ref f) [.ref x] σ) :
    GM w fx (.ref x) name m σ K X:=λvo pl ho s H=>by
  cases ho using Rv.bJ
  refine aD (λo1 e1 a1=>?_) (H.has h1)
  refine aD (λo2 e2 a2=>?_) (H.has h2)
  have I:=pL e1 a1 e2
  cases a2 using At.nsE with
  | mk he nd=>
    refine .of (method_fn (H.lD ok) I (plainGet_of hk.1).1 (plainGet_of hk.1).2 hk.2.1 (beq_iff_eq.mp hk.2.2) (by show(lookIn name _).map _=_;rw[lookIn_dict,Hh he hm];rfl) ?_)
    exact⟨m,σ,H,rfl,_,_,.ref f,.cons (.ref x) .nil,h⟩
theorem sS{b:Bool}{M:Model}{A:Around}{E:Value→Shared→Prop}{s:Shared}{env:Env}{c:Code}{Q:Flow→Shared→Prop}
  (hc:bV b M A c (λr s'=>match r with|.ok f=>Q f s'|.error e=>cameBackBy M A env E e s') s):bH b M A (runOwn c env) Q E s:=by
 unfold runOwn
 exact jk (aV (Kh (E:=cameBackBy M A env E) hc) (λ_ _ q=>q) λe s' h=>.of h)
theorem uI{α:Type}{b:Bool}{M:Model}{A:Around}{E:Value→Shared→Prop}{s:Shared}{env:Env}{t:Sem α}{Q:α→Shared→Prop}(h:bH b M A t Q (notedBy M A env E) s):bH b M A (t.onRaise λx=>do noteFrame x env;theTreesLotGoes x) Q E s:=
 jk (aV h (λ_ _ q=>q) λ_ _ hx=>.of (wpAny_bind (wpAny_mono hx (λ_ _ e=>wpAny_theTreesLotGoes e) λ_ _ e=>e)))
theorem KZ{test:Expr}{body:List Stmt}{pos} (ok:aC w n fx) (ow:bU fx) (I:Nat→au→Led→Prop)
    (turn:∀ k m σ,I k m σ→TS w fx test m σ (λb σ₁=>if b=true then SS w fx body m σ₁ (λm' σ'=>∃ k',k'<k∧I k' m' σ') R X else N m σ₁) X)
    (k:Nat)(h:I k m σ):S1 w fx (.While test body [] pos) m σ N R X:=λs H=>by
  have hP:=XR.passes (X:=X) ok ow
  rw[exec_While]
  refine ak (gY (sS (tH rfl rfl (λk s=>∃ m σ,Holds w fx m σ s∧I k m σ) (λk s=>bw λm σ H hI=>?_) k ⟨m,σ,H,h⟩)))
  show bH _ _ fx.A ((whileTurn test body [] fx.env).onRaise (λx=>do noteFrame x fx.env;theTreesLotGoes x)) _ _ s
  refine uI ?_
  simp only[whileTurn]
  refine ak (aV (turn k m σ hI s H) (λb s₂=>gZ λm' σ' H' e q=>?_) hP)
  subst e
  cases b with
  | false=>
    rw[if_neg (by decide)] at q⊢
    exact ak (aJ (a:=Flow.next) (aJ ⟨m',σ',H',q⟩))
  | true=>
    rw[if_pos rfl] at q⊢
    refine ak (aV (q s₂ H') (λf s₃=>bw λm3 σ3 H3 q3=>?_) hP)
    cases f with
    | next=>refine aD (λk' hk' hI'=>?_) q3;exact aJ (.inl ⟨rfl,k',hk',m3,σ3,H3,hI'⟩)
    | ret v=>exact aJ ⟨m3,σ3,H3,q3⟩
    | brk=>exact q3.elim
    | cont=>exact q3.elim
noncomputable def LN(w:World)(fx:Fx)(x:Str)(m:au)(σ:Led)(Q:AV→Led→Prop)(X:Value→Prop):Prop:=V1 w fx (loadName fx.env x) m σ Q X
theorem Qz{x:Str}{a:AV}{names} (ok:aC w n fx) (hk:iZ fx names) (h1:(x,NameKind.local)∈names) (h2:(x,some a)∈m) (h:Q a σ):LN w fx x m σ Q X:=λs H=>by
 have H':=H
 refine dO (λg M news H=>?_) H
 refine aD (λv hv ha=>?_) (H.vars.at_ x a h2)
 exact .of (wpAny_loadName_local ok.kind (hk _ h1).1 H.F.ns hv ⟨m,σ,H',rfl,a,ha,h⟩)
theorem TJ{x:Str}{npos op value pos} (h:LN w fx x m σ (λold σ₁=>EV w fx value m σ₁ (λb σ₂=>I2 w fx op old b m σ₂ (λr σ₃=>BN w fx x r m σ₃ N X) X) X) X) :
  S1 w fx (.AugAssign (.Name x npos) op value pos) m σ N R X:=by
 show WP w fx (exec _ fx.env) m σ _ X
 rw[exec_AugAssign_Name]
 exact WP.bind (WP.standAt (V1.aY (V1.mono h λa σ₁ h₁ old ha=>V1.aY (V1.holding (V1.mono h₁ λb σ₂ h₂ vb hb=>WP.bind (WP.standAt (V1.aY (V1.mono (λs H=>lN (h₂ old vb ha hb s H)) λc σ₃ h₃ r hc=>
  WP.bind (WP.standAt (WP.bind (WP.mono (h₃ r hc) λ_ m' σ' q=>WP.pure q)))))))))))
theorem FZ {o value:Expr}{attr:Str}{tpos pos:Pos}{op:Operator}(h:EV w fx o m σ (λov σ₁=>GA w fx ov attr m σ₁ (λold σ₂=>EV w fx value m σ₂ (λb σ₃=>I2 w fx op old b m σ₃ (λr σ₄=>SA w fx ov attr r m σ₄ N X) X) X) X) X) :
    S1 w fx (.AugAssign (.Attribute o attr tpos) op value pos) m σ N R X:=by
  have e:exec (.AugAssign (.Attribute o attr tpos) op value pos) fx.env=(do
      standAt pos
      let ov ←eval o fx.env
      let new ←PySem.holding [ov] do
        standAt tpos.atName
        let old ←getAttr ov attr true
        let v ←PySem.holding [old] (eval value fx.env)
        standAt pos
        operate [old,v] (inplaceOp op old v)
      standAt tpos.atName
      PySem.holding [new,ov] (setAttr ov attr new)
      release [new,ov] []
      pure .next):=rfl
  show WP w fx (exec _ fx.env) m σ _ X
  rw[e]
  refine WP.bind (WP.standAt (V1.aY (V1.mono h λov σ₁ h₁ vo ho=>?_)))
  have t1:V1 w fx (PySem.holding [vo] do
        standAt tpos.atName
        let old ←getAttr vo attr true
        let v ←PySem.holding [old] (eval value fx.env)
        standAt pos
        operate [old,v] (inplaceOp op old v)) m σ₁ (λc σ4=>SA w fx ov attr c m σ4 N X) X:=
    V1.holding (WP.bind (WP.standAt (V1.aY (V1.mono (h₁ vo ho) λa σ₂ h₂ old ha=>V1.aY (V1.holding (V1.mono h₂ λb σ₃ h₃ vb hb=>WP.bind (WP.standAt (WP.operate (h₃ old vb ha hb)))))))))
  refine V1.aY (V1.mono t1 λc σ₄ h₄ v hv=>WP.bind (WP.standAt (WP.bind (WP.holding (WP.mono (h₄ vo v ho hv) λ_ m' σ' q=>?_)))))
  exact λs H=>ak (.of (wpAny_release (aJ ⟨m',σ',H,q⟩)))
theorem jA{t value:Expr}{pos} (h1:swapsWithSole [t] value pos.line fx.env=pure false) (h2:swappedStores [t] value fx.env=pure none) (he:assignEach [t] fx.env=[(false,assign t fx.env)])
  (h:EV w fx value m σ (λa σ'=>AS w fx t a m σ' N X) X):S1 w fx (.Assign [t] value pos) m σ N R X:=by
 have e:exec (.Assign [t] value pos) fx.env=(do
  standAt pos
  if ←swapsWithSole [t] value pos.line fx.env then do
   evalThenUse value fx.env λv=>assignAll v ((assignEach [t] fx.env).map (·.2))
   pure .next
  else do
   let v ←eval value fx.env
   assignStores fx.env v (←swappedStores [t] value fx.env) ((assignEach [t] fx.env).map (·.2))):=rfl
 show WP w fx (exec _ fx.env) m σ _ X
 rw[e,h1,h2,he]
 refine WP.bind (WP.standAt ?_)
 show WP w fx (eval value fx.env >>= λv=>(assign t fx.env v >>= λ_=>(pure Flow.next:Sem Flow))) m σ _ X
 exact V1.aY (V1.mono h λa σ' h' v hv=>WP.bind (WP.mono (h' v hv) λ_ m' eU q=>WP.pure q))
theorem Ou{o:Expr}{attr:Str}{pos}{a:AV} (h:EV w fx o m σ (λov σ₁=>SA w fx ov attr a m σ₁ N X) X):AS w fx (.Attribute o attr pos) a m σ N X:=λv hv=>by
 show WP w fx (do
  let ov ←PySem.holding [v] (eval o fx.env)
  standAt pos.atName
  PySem.holding [v,ov] (setAttr ov attr v)
  release [v,ov] []) m σ _ X
 refine V1.aY (V1.holding (V1.mono h λov σ₁ h₁ vo ho=>WP.bind (WP.standAt (WP.bind (WP.holding (WP.mono (h₁ vo v ho hv) λ_ m' σ' q=>?_))))))
 exact λs H=>.of (wpAny_release ⟨m',σ',H,q⟩)
noncomputable def SI(w:World)(fx:Fx)(o i a:AV)(m:au)(σ:Led)(N:au→Led→Prop)(X:Value→Prop):Prop:=∀ vo vi v,Rv o vo→Rv i vi→Rv a v→WP w fx (setItem vo vi v) m σ (λ_ m' σ'=>N m' σ') X
theorem xu(o i:Expr)(pos:Pos)(env:Env)(v:Value):∃ l:Value→Value→List Value,assign (.Subscript o i pos) env v=(do
  let ov ←PySem.holding [v] (eval o env)
  let iv ←PySem.holding [v,ov] (eval i env)
  standAt pos
  PySem.holding [v,ov,iv] (setItem ov iv v)
  release (l ov iv) []):=⟨λov iv=>match i with|.Slice _ _ none _=>[iv,v,ov]|_=>[v,ov,iv],rfl⟩
theorem RZ{o i:Expr}{pos}{a:AV} (h:EV w fx o m σ (λov σ₁=>EV w fx i m σ₁ (λiv σ₂=>SI w fx ov iv a m σ₂ N X) X) X):AS w fx (.Subscript o i pos) a m σ N X:=λv hv=>by
 refine uE (λl e=>?_) (xu o i pos fx.env v)
 rw[e]
 refine V1.aY (V1.holding (V1.mono h λov σ₁ h₁ vo ho=>V1.aY (V1.holding (V1.mono h₁ λiv σ₂ h₂ vi hi=>WP.bind (WP.standAt (WP.bind (WP.holding (WP.mono (h₂ vo vi v ho hi hv) λ_ m' σ' q=>?_))))))))
 exact λs H=>.of (wpAny_release ⟨m',σ',H,q⟩)
noncomputable def AI(w:World)(fx:Fx)(ts:List Expr)(as:List AV)(m:au)(σ:Led)(N:au→Led→Prop)(X:Value→Prop):Prop:=∀ vs,bF as vs→WP w fx (assignInOrder ((assignEach ts fx.env).map (·.2)) vs) m σ (λ_ m' σ'=>N m' σ') X
theorem R2(h:N m σ):AI w fx [] [] m σ N X:=λvs hv=>by cases hv using bF.jX;exact WP.pure h
theorem Ox{t:Expr}{ts a as} (he:assignEach (t::ts) fx.env=(false,assign t fx.env)::assignEach ts fx.env) (h:AS w fx t a m σ (λm' σ'=>AI w fx ts as m' σ' N X) X):AI w fx (t::ts) (a::as) m σ N X:=λvs hv=>by
  cases hv using bF.cV with
  | mk ha has=>
    rw[he]
    exact WP.bind (WP.holding (WP.mono (h _ ha) λ_ m' σ' q=>q _ has))
theorem as_tuple{elts:List Expr}{k pos}{t:Addr}{as:List AV} (ok:aC w n fx) (hm:Has w fx σ t (.tuple as)) (hl:elts.length=as.length) (hn:(assignEach elts fx.env).length=elts.length) (hst:(assignEach elts fx.env).findIdx? (·.1)=none)
    (h:AI w fx elts as m σ N X):AS w fx (.Tuple elts k pos) (.ref t) m σ N X:=λv hv=>by
  cases hv using Rv.bJ
  show WP w fx (do standAt pos;unpack (.ref t) (assignEach elts fx.env)) m σ _ X
  refine WP.bind (WP.standAt λs H=>?_)
  refine aD (λo ho ha=>?_) (H.has hm)
  cases ha using At.zP with
  | mk hvs=>
    rename_i vs n0
    unfold unpack
    rw[hst]
    have e1:(assignEach elts fx.env).length=vs.toArray.size:=by rw[hn,hl,List.size_toArray,hvs.length]
    rw[e1]
    refine ak (.of (wpAny_holding (wpAny_unpackItems_tuple ok.hand (items:=vs.toArray) ⟨_,ho,rfl,n0,rfl⟩ λh' hx=>?_)))
    exact h vs hvs _ (H.keeps (k:=s.toks) λb o e=>hx b o (Nat.ne_of_lt (Heap.lt_size e)) e)
theorem dh{P xs o}{h:Heap}{a:Addr} (ho:h.get? a=some o) (ha:At P (.list xs) o):∃ vs,bF xs vs∧h.IsList a vs.toArray:=by
 cases ha using At.listE with|mk hv=>exact⟨_,hv,_,ho,rfl,_,rfl⟩
theorem yW{P xs o}{h:Heap}{a:Addr} (ho:h.get? a=some o) (ha:At P (.tuple xs) o):∃ vs,bF xs vs∧IsTup h a vs.toArray:=by
 cases ha using At.zP with|mk hv=>exact⟨_,hv,_,ho,rfl,_,rfl⟩
noncomputable def GI(w:World)(fx:Fx)(value slice:Expr)(o i:AV)(m:au)(σ:Led)(Q:AV→Led→Prop)(X:Value→Prop):Prop:=∀ vo vi,Rv o vo→Rv i vi→V1 w fx (subscriptTail value slice vo vi) m σ Q X
theorem Rn{value slice:Expr}{pos} (h:EV w fx value m σ (λo σ₁=>EV w fx slice m σ₁ (λi σ₂=>GI w fx value slice o i m σ₂ Q X) X) X):EV w fx (.Subscript value slice pos) m σ Q X:=by
 show V1 w fx (eval _ fx.env) m σ Q X
 rw[eval_Subscript]
 exact V1.aY (V1.mono h λo σ₁ h₁ vo ho=>V1.aY (V1.holding (V1.mono h₁ λi σ₂ h₂ vi hi=>WP.bind (WP.standAt (h₂ vo vi ho hi)))))
noncomputable def cZ(slice:Expr):Prop:=∀ o i,subscripted slice false o i=operate [o,i] (getItem o i)
theorem DR{value slice:Expr}{l:Addr}{xs:List AV}{k:Int}{a:AV}(ok:aC w n fx)(hs:cZ slice)(hl:Has w fx σ l (.list xs))(h0:0≤k)(hf:k<2^63)(hx:xs[k.toNat]?=some a)(h:Q a σ) :
  GI w fx value slice (.ref l) (.int k) m σ Q X:=λvo vi ho hi s H=>by
 cases ho using Rv.bJ;cases hi using Rv.aR
 refine aD (λo ho ha=>?_) (H.has hl)
 refine aD (λvs hv hL=>?_) (dh ho ha)
 refine aD (λv h1 h2=>?_) (hv.get hx)
 exact .of (tail_any hL.typeIs slot_list_getitem.lookup (wpAny_getItem_list hL h0 hf (by simpa using h1) ⟨m,σ,H,rfl,a,h2,h⟩) (hs _ _))
theorem Jy{value slice:Expr}{l:Addr}{xs:List AV}{k:Int}{a:AV}(ok:aC w n fx)(hs:cZ slice)(hl:Has w fx σ l (.list xs))(h0:k<0)(h1 : -(xs.length:Int)≤k)(hf : -(2^63)≤k)(hx:xs[(k+xs.length).toNat]?=some a)(h:Q a σ) :
  GI w fx value slice (.ref l) (.int k) m σ Q X:=λvo vi ho hi s H=>by
 cases ho using Rv.bJ;cases hi using Rv.aR
 refine aD (λo ho ha=>?_) (H.has hl)
 refine aD (λvs hv hL=>?_) (dh ho ha)
 refine aD (λv h3 h2=>?_) (hv.get hx)
 exact .of<|tail_any hL.typeIs slot_list_getitem.lookup (wpAny_getItem_list_neg hL h0 (by rw[List.size_toArray,hv.length];exact h1) hf (by rw[List.size_toArray,hv.length];simpa using h3) ⟨m,σ,H,rfl,a,h2,h⟩) (hs _ _)
theorem qw:typeLookup (.type "tuple") "__getitem__"= pure (some (.builtin "tuple.__getitem__")):=by rw[typeLookup_type,builtinLookup_eq_fast];kernel_rfl
theorem Q6{value slice:Expr}{l:Addr}{xs:List AV}{k:Int}{a:AV}(ok:aC w n fx)(hs:cZ slice)(hl:Has w fx σ l (.tuple xs))(h0:0≤k)(hf:k<2^63)(hx:xs[k.toNat]?=some a)(h:Q a σ) :
  GI w fx value slice (.ref l) (.int k) m σ Q X:=λvo vi ho hi s H=>by
 cases ho using Rv.bJ;cases hi using Rv.aR
 refine aD (λo ho ha=>?_) (H.has hl)
 refine aD (λvs hv hL=>?_) (yW ho ha)
 refine aD (λv h1 h2=>?_) (hv.get hx)
 have hlt:k.toNat<vs.length:=by
  rcases Nat.lt_or_ge k.toNat vs.length with q|q
  ·exact q
  ·rw[List.getElem?_eq_none q] at h1;exact nsA h1
 have hT:s.TypeIs (.ref l) "tuple":=by
  refine sU (λo a1 a2 _=>?_) hL
  exact⟨o,a1,a2⟩
 refine .of (tail_any hT qw (getItem_tuple hL (by exact L1 [_] [] 13902646925568235509122112 129 720896 rfl h0) hf (j:=k.toNat) ?_ (by simpa using h1) ⟨m,σ,H,rfl,a,h2,h⟩) (hs _ _))
 unfold seqIndex?
 rw[List.size_toArray]
 have e1:¬ k<0:=L1 [_] [] 180 129 720896 rfl h0
 have e2:k<(vs.length:Int):=L2 [_] [_,_] 728241 4225 11462 733298 rfl hlt (Int.toNat_of_nonneg (a:=k) (L1 [_] [] 720896 129 720896 rfl h0))
 simp only[e1,if_false,h0,e2,decide_true,Bool.and_self,if_true]
theorem bF.set{as vs} (h:bF as vs) {i:Nat}{a v} (ha:Rv a v):bF (as.set i a) (vs.set i v):=by
  induction h generalizing i with
  | nil=>exact .nil
  | cons h1 h2 ih=>
    cases i with
    | zero=>exact .cons ha h2
    | succ i=>exact .cons h1 ih
theorem KQ{l:Addr}{xs:List AV}{k:Int}{a:AV}(hu:fO l (.list xs) (.list (xs.set k.toNat a)) σ σ')(h0:0≤k)(hf:k<2^63)(hn:k.toNat<xs.length)(h:N m σ') :
    SI w fx (.ref l) (.int k) a m σ N X:=λvo vi v ho hi hv s H=>by
  cases ho using Rv.bJ;cases hi using Rv.aR
  refine bw (λpre post W4 W3=>?_) (hu.split);subst W4;subst W3
  refine aD (λo ho ha=>?_) (H.mem (a:=l) (ao:=.list xs) (by simp))
  cases ha using At.listE with
  | mk hvs=>
    rename_i vs c
    refine .of (ki_setAt ho h0 hf (by rw[List.size_toArray,hvs.length];exact L2 [_] [_,_] 728241 4225 11462 733298 rfl hn (Int.toNat_of_nonneg (a:=k) (L1 [_] [] 720896 129 720896 rfl h0))) ?_)
    refine⟨m,_,H.upd (k:=s.toks) (λb hb=>Heap.get?_update_ne _ _ _ _ hb) (Heap.get?_update_self _ ho rfl) ?_,h⟩
    have e:Obj.mapSeq (·.setIfInBounds k.toNat v) (listOf vs.toArray c)=listOf (vs.set k.toNat v).toArray c:=by
      simp[Obj.mapSeq]
    rw[e]
    exact .list (hvs.set hv)
theorem GQ{l:Addr}{xs:List AV}{K:AV→List AV→Led→Prop}(hl:Has w fx σ l (.list xs))(h:K (.bi "list.append") [.ref l] σ):GM w fx (.ref l) "append" m σ K X:=λvo pl ho s H=>by
 cases ho using Rv.bJ
 refine aD (λo ho ha=>?_) (H.has hl)
 cases ha using At.listE with
 | mk hv=>exact .of (Calls.getMethod_list_append ho rfl rfl ⟨m,σ,H,rfl,_,_,.bi _,.cons (.ref l) .nil,h⟩)
theorem CL.qF{f:AV}{a:AV}(h:∀ vf v,Rv f vf→Rv a v→V1 w fx (call vf [v]) m σ Q X):CL w fx f [a] m σ Q X:=λvf vs hf hv=>by
 cases hv using bF.cV with|mk h1 h2=>cases h2 using bF.jX;exact h vf _ hf h1
theorem CL.of2{f:AV}{a b:AV}(h:∀ vf v u,Rv f vf→Rv a v→Rv b u→V1 w fx (call vf [v,u]) m σ Q X):CL w fx f [a,b] m σ Q X:=λvf vs hf hv=>by
 cases hv using bF.cV with|mk h1 h2=>cases h2 using bF.cV with|mk h3 h4=>cases h4 using bF.jX;exact h vf _ _ hf h1 h3
theorem CL.Y6{f:AV}{a b c:AV}(h:∀ vf v u t,Rv f vf→Rv a v→Rv b u→Rv c t→V1 w fx (call vf [v,u,t]) m σ Q X):CL w fx f [a,b,c] m σ Q X:=λvf vs hf hv=>by
 cases hv using bF.cV with|mk h1 h2=>cases h2 using bF.cV with|mk h3 h4=>cases h4 using bF.cV with|mk h5 h6=>cases h6 using bF.jX;exact h vf _ _ _ hf h1 h3 h5
theorem Hu{l:Addr}{xs:List AV}{a:AV}(hu:fO l (.list xs) (.list (xs++[a])) σ σ')(hz:xs.length≤1000000)(h:Q .none σ'):CL w fx (.bi "list.append") [.ref l,a] m σ Q X:=CL.of2 λvf v u hf hv h3 s H=>by
  cases hf using Rv.qb;cases hv using Rv.bJ
  refine bw (λpre post W6 W5=>?_) (hu.split);subst W6;subst W5
  refine aD (λo ho ha=>?_) (H.mem (a:=l) (ao:=.list xs) (by simp))
  cases ha using At.listE with
  | mk hvs=>
    rename_i vs c
    refine .of (append_at ho (λh' hs hd=>?_) (by rw[List.size_toArray,hvs.length,sizeLine_eq];exact L1 [] [_] 1099511628981 129 65536001205 rfl hz))
    refine⟨m,_,H.upd (k:=s.toks) (λb hb=>hs.2 b hb) hd ?_,rfl,_,.none,h⟩
    rw[List.push_toArray]
    exact .list (hvs.append (.cons h3 .nil))
theorem Bg{l:Addr}{xs:List AV}(hl:Has w fx σ l (.list xs))(hz:xs.length≤1000000)(h:Q (.int xs.length) σ):CL w fx (.bi "len") [.ref l] m σ Q X:=CL.qF λvf v hf hv s H=>by
 cases hf using Rv.qb;cases hv using Rv.bJ
 refine aD (λo ho ha=>?_) (H.has hl)
 refine aD (λvs hvs hL=>?_) (dh ho ha)
 refine .of (call_len_list hL (by rw[List.size_toArray,hvs.length];exact L1 [] [_] 38685626227668133590674545 129 65536001205 rfl hz) ?_)
 rw[List.size_toArray,hvs.length]
 exact⟨m,σ,H.toks,rfl,_,.int _ _,h⟩
theorem Ry(ok:aC w n fx)(h:Q (.int (max x y)) σ):CL w fx (.bi "max") [.int x,.int y] m σ Q X:=CL.of2 λvf v u hf hv hu=>by
 cases hf using Rv.qb;cases hv using Rv.aR;cases hu using Rv.aR
 refine V1.of_pure (a:=.int (max x y)) ok (λA E s Q' hh k=>max_two_ints hh λh' tk kp=>k _ _ _ kp ?_) h
 split
 ·rw[show max x y=y by exact YT (by assumption)];exact .int _ _
 ·rw[show max x y=x by exact YS (by assumption)];exact .int _ _
theorem Rx(ok:aC w n fx)(h:Q (.int (min x y)) σ):CL w fx (.bi "min") [.int x,.int y] m σ Q X:=CL.of2 λvf v u hf hv hu=>by
 cases hf using Rv.qb;cases hv using Rv.aR;cases hu using Rv.aR
 refine V1.of_pure (a:=.int (min x y)) ok (λA E s Q' hh k=>min_two_ints hh λh' tk kp=>k _ _ _ kp ?_) h
 split
 ·rw[show min x y=y by exact YQ (by assumption)];exact .int _ _
 ·rw[show min x y=x by exact YM (by assumption)];exact .int _ _
theorem Rz(ok:aC w n fx)(h:Q (.int x) σ):CL w fx (.typ "int") [.int x] m σ Q X:=CL.qF λvf v hf hv=>by
 cases hf using Rv.lg;cases hv using Rv.aR
 exact V1.of_pure ok (λA E s Q' hh k=>call_int_int (k _ _ _ (aH _) (.int _ _))) h
theorem Oa(ok:aC w n fx){b:Bool}(h:Q (.int (if b then 1 else 0)) σ):CL w fx (.typ "int") [.bool b] m σ Q X:=CL.qF λvf v hf hv=>by
 cases hf using Rv.lg;cases hv using Rv.sE
 exact V1.of_pure ok (λA E s Q' hh k=>call_int_bool (k _ _ _ (aH _) (.int _ _))) h
theorem RD(ok:aC w n fx)(h:Q (.int (x.natAbs:Int)) σ):CL w fx (.bi "abs") [.int x] m σ Q X:=CL.qF λvf v hf hv=>by
 cases hf using Rv.qb;cases hv using Rv.aR
 refine V1.of_pure (a:=.int (x.natAbs:Int)) ok (λA E s Q' hh k=>call_abs_int λu tk=>k _ _ _ (aH _) ?_) h
 rw[show(x.natAbs:Int)=if x<0 then -x else x by split<;>(first|exact YL (by assumption)|exact YK (by assumption))]
 exact .int _ _
theorem GP(ok:aC w n fx){K:AV→List AV→Led→Prop}(h:K (.bi "int.bit_length") [.int x] σ):GM w fx (.int x) "bit_length" m σ K X:=λvo pl ho s H=>by
 cases ho using Rv.aR
 exact .of (getMethod_int_bit_length ⟨m,σ,H,rfl,_,_,.bi _,.cons (.int _ _) .nil,h⟩)
theorem Ht(ok:aC w n fx)(h:Q (.int (Builtin.Int.intBits x)) σ):CL w fx (.bi "int.bit_length") [.int x] m σ Q X:=CL.qF λvf v hf hv=>by
 cases hf using Rv.qb;cases hv using Rv.aR
 exact V1.of_pure ok (λA E s Q' hh k=>call_int_bit_length (k _ _ _ (aH _) (.int _ _))) h
theorem J1(ok:aC w n fx)(h:Q (.bool true) σ):CL w fx (.bi "isinstance") [.int x,.typ "int"] m σ Q X:=CL.of2 λvf v u hf hv hu=>by
 cases hf using Rv.qb;cases hv using Rv.aR;cases hu using Rv.lg
 exact V1.of_pure ok (λA E s Q' hh k=>PySem.IsiPair.int_int (k _ _ _ (aH _) (.bool _))) h
theorem Hr(ok:aC w n fx)(h:Q (.bool false) σ):CL w fx (.bi "isinstance") [.int x,.typ "bool"] m σ Q X:=CL.of2 λvf v u hf hv hu=>by
 cases hf using Rv.qb;cases hv using Rv.aR;cases hu using Rv.lg
 exact V1.of_pure ok (λA E s Q' hh k=>PySem.IsiPair.int_bool (k _ _ _ (aH _) (.bool _))) h
end
noncomputable def jr:List Str→Bool
 | []=>true
 | x::r=>!r.any (λy=>x == y)&&jr r
theorem cW:∀ {l:List Str},jr l=true→l.Nodup
  | [],_=>List.nodup_nil
  | x::r,h=>by
    unfold jr at h
    refine uA (λh1 h2=>?_) (bI h)
    refine List.nodup_cons.mpr ⟨λq=>?_,cW h2⟩
    have:r.any (λy=>x == y)=true:=List.any_eq_true.mpr ⟨x,q,beq_self_eq_true x⟩
    rw[this] at h1;cases h1
noncomputable def kindB(names:List (Str×NameKind))(ps:List Str):Bool:=ps.all λp=>names.lookup p == some .local
noncomputable def zq(ps rest:List Str)(names:List (Str×NameKind)):Bool:=
 jr (ps++rest)&&jr (names.map (·.1))&&names.all (λp=>!(p.1 == ("__debug__" : Str)))&&kindB names ps&&names.all (λp=>p.2 != .cell)
theorem gC{α β:Type} [BEq α] [LawfulBEq α] {l:List (α×β)}:(l.map (·.1)).Nodup→∀ {p},p∈l→l.lookup p.1=some p.2:=by
  induction l with
  | nil=>exact λ_ {p} h=>absurd h List.not_mem_nil
  | cons q r ih=>
    intro nd p h
    rw[List.lookup_cons]
    rcases List.mem_cons.mp h with e|h
    · subst e;rw[beq_self_eq_true]
    · have:(p.1 == q.1)=false:=beq_eq_false_iff_ne.mpr λe=>(List.nodup_cons.mp nd).1 (List.mem_map.mpr ⟨p,h,e⟩)
      rw[this];exact ih (List.nodup_cons.mp nd).2 h
theorem Kf {ps:List Str}{as:List AV}{vs:List Value}(h:bF as vs)(hl:ps.length=as.length){x:Str}{a:AV}(hm:(x,some a)∈ps.zip (as.map some)):∃ v,(x,v)∈ps.zip vs∧Rv a v:=by
  induction h generalizing ps with
  | nil=>simp at hm
  | cons ha _ ih=>
    cases ps with
    | nil=>simp at hm
    | cons p ps=>
      simp only[List.map_cons,List.zip_cons_cons,List.mem_cons] at hm
      rcases hm with q|q
      · cases q;exact⟨_,by simp,ha⟩
      · refine aD (λv h1 h2=>?_) (ih (by simpa using hl) q)
        exact⟨v,by simp[h1],h2⟩
theorem u0{ps rest:List Str}{as:List AV}{vs:List Value}(h:bF as vs)(hl:ps.length=as.length)(nd:(ps++rest).Nodup) :
  RelV (ps.zip (as.map some)++rest.map λx=>(x,none)) (λy=>(ps.zip vs).reverse.lookup y):=by
 have e:(ps.zip (as.map some)++rest.map λx=>(x,(none:Option AV))).map (·.1)=ps++rest:=by
  rw[List.map_append,List.map_map]
  have:(ps.zip (as.map some)).map (·.1)=ps:=List.map_fst_zip (by simp[hl])
  rw[this]
  rw[show((λx:Str×Option AV=>x.1) ∘ λx=>(x,(none:Option AV)))=id from rfl,List.map_id]
 refine⟨e▸nd,λx a hm=>?_⟩
 rcases mA hm with q|q
 ·refine aD (λv h1 h2=>?_) (Kf h hl q)
  refine⟨v,?_,h2⟩
  have UG:((ps.zip vs).reverse.map (·.1)).Nodup:=by
   rw[List.map_reverse]
   refine(List.reverse_perm _).nodup_iff.mpr ?_
   rw[List.map_fst_zip (by rw[h.length,hl];exact nR _)]
   exact(List.nodup_append.mp nd).1
  exact gC (p:=(x,v)) UG (List.mem_reverse.mpr h1)
 ·refine aD (λy _ hy=>?_) (mM q)
  cases hy
theorem FN.def{w:World}{b:Bool}{n:Nat}{base:Heap}{f:Addr}{as:List AV}{μ:Led}{Q:AV→Led→Prop}{X:Value→Prop}
  {name qual:Str}{params:Arguments}{body:List Stmt}{names:List (Str×NameKind)}{dV kV doc pm cdv ct oc:Value}{an od:Option Addr}{osl:Array (Option Value)}{more:List (Str×Const)}(ps rest:List Str)
  (ho:(KK w).lookup f=some ⟨oc,od,.func (fnX name qual params body ⟨.function,names,false,false,more⟩ [] dV kV doc pm an cdv ct),osl⟩)(hcd:codeIn (KK w) cdv qual=true)
  (hl:ps.length=as.length)
  (hbind:∀ vs:List Value,bF as vs→bindArgs (fnX name qual params body ⟨.function,names,false,false,more⟩ [] dV kV doc pm an cdv ct) ⟨vs,[]⟩=pure (ps.zip vs))
  (hchk:zq ps rest names=true)
  (h:∀ fx,aC w n fx→bU fx→iZ fx names→fx.cl=b→fx.base=base→fx.fz=[]→(∃ L,fx.env=envX qual ⟨.function,names,false,false,more⟩ L f cdv [])→SS w fx body (ps.zip (as.map some)++rest.map λx=>(x,none)) μ (λ_ σ=>Q .none σ) Q X) :
  FN w b (n+1) f base as μ Q X:=λvs hv=>by
 unfold zq at hchk
 simp only[Bool.and_eq_true] at hchk
 refine uA (λW7 c5=>?_) hchk;refine uA (λnD c4=>?_) W7;obtain⟨⟨c1,c2⟩,c3⟩:=nD
 have nd:=cW c1
 have hloc:∀ y∈ps.zip vs,names.lookup y.1=some .local:=λy hy=>by
  have:=List.all_eq_true.mp c4 y.1 (List.of_mem_zip hy).1
  exact beq_iff_eq.mp this
 refine CALL.def ho hcd (λs _=>BindsTo.of_eq (hbind vs hv)) hloc (λx hx q=>?_) (u0 hv hl nd) rfl rfl rfl λfx ok ow hcl hb hfz=>uE λL he=>?_
 ·have:=List.all_eq_true.mp c5 x hx
  rw[q] at this;cases this
 ·refine uU (h fx ok ow (λp hp=>?_) hcl hb hfz ⟨L,he⟩)
  constructor
  ·rw[he];exact gC (cW c2) hp
  ·have:=List.all_eq_true.mp c3 p hp
   cases hq:(p.1 == ("__debug__" : Str)) with
   | false=>rfl
   | true=>rw[hq] at this;cases this
structure xH(w:World)(t:Expr)(I:Addr)(cnt:Nat)(own:Nat→Led)(item:Nat→AV→Led→Prop)(pre:Fx→Led→Prop):Prop where
 next:∀ (fx:Fx) (n:Nat),aC w n fx→∀ k,k<cnt→∀ (m:au) (σ:Led) (X:Value→Prop),pre fx σ→WP w fx (pyNext (.ref I)) m (own k++σ) (λr m1 σ1=>∃ v,r=some v∧
  WP w fx (letOwnedTupleGo t (.ref I) v) m1 σ1 (λ_ m' σ'=>m'=m∧∃ a ex,Rv a v∧item k a ex∧σ'=own (k+1)++(ex++σ)) X) X
 done:∀ (fx:Fx) (n:Nat),aC w n fx→∀ (m:au) (σ:Led) (X:Value→Prop),pre fx σ→WP w fx (pyNext (.ref I)) m (own cnt++σ) (λr m' σ'=>m'=m∧σ'=σ∧r=none) X
 self:∀ (fx:Fx) (n:Nat),aC w n fx→∀ (m:au) (σ:Led) (X:Value→Prop),WP w fx (pyIter (.ref I)) m (own 0++σ) (λr m' σ'=>m'=m∧σ'=own 0++σ∧r=.ref I) X
 mono:∀ (fx lE:Fx) (σ σ':Led),pre fx σ→lE.base=fx.base→(∀ p∈fx.fz,p∈lE.fz)→(∀ p∈σ,p∈σ')→pre lE σ'
noncomputable def jh(f:Nat→AV)(k:Nat)(a:AV)(ex:Led):Prop:=a=f k∧ex=[]
noncomputable def cP(t:Expr):Prop:=∀ it v,letOwnedTupleGo t it v=pure ()
section
variable{w:World}{fx:Fx}{m m':au}{σ σ':Led}{X:Value→Prop}{n n':Nat}{x y:Int}{Q:AV→Led→Prop}{QB:Bool→Led→Prop}{N:au→Led→Prop}{R:AV→Led→Prop}{QL:List AV→Led→Prop}
theorem Holds.tailOf{s}{p:Addr×AO} (H:Holds w fx m (p::σ) s):Holds w fx m σ s:=H.sel (μ:=σ) (ρ:=[p])<|by
 obtain⟨a,ao⟩:=p
 have:∀ (l:Led),lK ((a,ao)::l) l [(a,ao)]:=λl=>by
  induction l with
  | nil=>exact .nil
  | cons q r ih=>exact .cons (.there .here) ih
 exact this σ
noncomputable def PIT(w:World)(fx:Fx)(a:AV)(m:au)(σ:Led)(t:Expr)(K:Addr→Nat→(Nat→Led)→(Nat→AV→Led→Prop)→(Fx→Led→Prop)→Led→Prop)(X:Value→Prop):Prop:=
 ∀ va,Rv a va→WP w fx (pyIter va) m σ (λr m' σ'=>m'=m∧∃ I cnt own item pre σ2,r=.ref I∧σ'=own 0++σ2∧xH w t I cnt own item pre∧K I cnt own item pre σ2) X
theorem fD{l i o}{h:Heap}{a:Addr} (ho:h.get? a=some o) (ha:At w (.bh l i) o):h.IsListIter a l i:=by
 cases ha using At.QC with|mk h1 h2=>exact⟨_,ho,h1,h2⟩
theorem qM{p:Addr×AO}{s:Shared}{h':Heap}{k:Nat}{a:Addr}{ao dB:AO}{o':Obj}(H:Holds w fx m ((a,ao)::σ) s)(hs:∀ b,b≠a→h'.get? b=s.heap.get? b)(ho:h'.get? a=some o')(ha:At w dB o'):Holds w fx m ((a,dB)::σ) { s with heap:=h',toks:=k }:=
 Holds.upd (pre:=[]) H hs ho ha
theorem Holds.lG {s:Shared}{h':Heap}{k:Nat}{a:Addr}{ao:AO}(H:Holds w fx m ((a,ao)::σ) s)(hs:∀ b o,b≠a→s.heap.get? b=some o→h'.get? b=some o):Holds w fx m σ { s with heap:=h',toks:=k }:=by
  refine dO (λg M news h=>?_) H
  cases news with
  | nil=>cases h.led
  | cons q news=>
    have hl:=h.led
    cases hl with
    | cons ha hl=>
      have hq:=h.N (a,_) (.head _)
      have nd:=h.nd
      rw[List.cons_append,List.map_cons] at nd
      refine uA (λn1 n2=>?_) (List.nodup_cons.mp nd)
      refine⟨g,M,news,h.stays,h.keep,⟨?_,λb o e=>hs b o (λz=>?_) (h.F.keep b o e),h.F.above⟩,λp hp=>?_,h.vars,hl,n2,h.gens,h.os⟩
      · refine jD (λoL es ep hL r=>?_) (h.F.ns)
        exact⟨oL,es,ep,hs _ _ (Ne.symm hq.2.1) hL,r⟩
      · rw[z,hq.2.2] at e;exact nsA e
      · have:=h.N p (.tail _ hp)
        refine⟨hs _ _ (λz=>n1 ?_) this.1,this.2⟩
        rw[←(show bA w (σ++fx.fz) news from hl).keys]
        exact List.mem_map.mpr ⟨p,hp,z⟩
theorem Gu{t:Expr}(ht:cP t){I l:Addr}{xs:List AV}:xH w t I xs.length (λk=>[(I,.bh l k)]) (jh λk=>xs.getD k .none) (λfx σ=>Has w fx σ l (.list xs)):=by
 constructor
 ·intro fx n ok k hk m σ X hl s H
  refine aD (λo ho ha=>?_) (H.mem (a:=I) (ao:=.bh l k) (.head _))
  have hl':Has w fx ((I,.bh l k)::σ) l (.list xs):=hl.imp (λh=>.tail _ h) id
  refine aD (λol hol hal=>?_) (H.has hl')
  refine aD (λvs hv hL=>?_) (dh hol hal)
  have hg:xs[k]?=some (xs.getD k .none):=by rw[gD,gE hk];rfl
  refine aD (λv h1 h2=>?_) (hv.get hg)
  refine .of (wpAny_pyNext_list_item (fD ho ha) hL (by simpa using h1) λh' hit hs=>?_)
  refine sU (λo' ho' hc hd=>?_) hit
  exact⟨m,_,qM (p:=(I,AO.raw default)) (k:=s.toks) H (λb hb=>hs.2 b hb) ho' (.bh hc hd),v,rfl,WP.congr (ht _ _) (WP.pure ⟨rfl,_,[],h2,⟨rfl,rfl⟩,rfl⟩)⟩
 ·intro fx n ok m σ X hl s H
  refine aD (λo ho ha=>?_) (H.mem (a:=I) (ao:=.bh l xs.length) (.head _))
  have hl':Has w fx ((I,.bh l xs.length)::σ) l (.list xs):=hl.imp (λh=>.tail _ h) id
  refine aD (λol hol hal=>?_) (H.has hl')
  refine aD (λvs hv hL=>?_) (dh hol hal)
  refine .of (wpAny_pyNext_list_end ok.hand (fD ho ha) hL (by rw[List.getElem?_toArray,List.getElem?_eq_none];rw[hv.length];exact nR _) λh' hs=>?_)
  exact⟨m,σ,H.lG (k:=s.toks) λb o hb e=>hs b o hb e,rfl,rfl,rfl⟩
 ·intro fx n ok m σ X s H
  refine aD (λo ho ha=>?_) (H.mem (a:=I) (ao:=.bh l 0) (.head _))
  exact .of (wpAny_pyIter_listiter (fD ho ha) ⟨m,_,H,rfl,rfl,rfl⟩)
 ·intro fx lE σ σ' h e h1 h2
  rcases h with h|h|h
  ·exact .inl (h2 _ h)
  ·exact .inr (.inl (h1 _ h))
  ·exact .inr (.inr (e▸h))
theorem rG{l:Addr}{xs:List AV}{t:Expr}{K:Addr→Nat→(Nat→Led)→(Nat→AV→Led→Prop)→(Fx→Led→Prop)→Led→Prop}(hl:Has w fx σ l (.list xs))
  (ht:cP t)(h:∀ I,K I xs.length (λk=>[(I,.bh l k)]) (jh λk=>xs.getD k .none) (λfx σ=>Has w fx σ l (.list xs)) σ):PIT w fx (.ref l) m σ t K X:=λva ha s H=>by
 cases ha using Rv.bJ
 refine aD (λol hol hal=>?_) (H.has hl)
 refine aD (λvs hv hL=>?_) (dh hol hal)
 refine .of (wpAny_pyIter_list hL ⟨m,_,H.push (k:=s.toks) (.bh (l:=l) (i:=0) rfl rfl),rfl,_,_,_,_,_,_,rfl,rfl,Gu ht,h _⟩)
theorem Dq{t:Expr}(ht:cP t){I:Addr}{a c:Int}{cnt:Nat}:xH w t I cnt (λk=>[(I,.eF (a+k*c) (cnt-k) c)]) (jh λk=>.int (a+k*c)) (λ_ _=>True):=by
 constructor
 ·intro fx n ok k hk m σ X _ s H
  refine aD (λo ho ha=>?_) (H.mem (a:=I) (ao:=.eF (a+k*c) (cnt-k) c) (.head _))
  cases ha using At.zW
  refine .of (wpAny_pyNext_range_item ho (by exact L1 [] [_,_] 13317380964353 129 11462 rfl hk) λh' hit hs=>?_)
  refine⟨m,_,qM (p:=(I,AO.raw default)) (k:=s.toks+1) H (λb hb=>hs.2 b hb) hit .eF,_,rfl,WP.congr (ht _ _) (WP.pure ⟨rfl,_,[],.int _ _,⟨rfl,rfl⟩,?_⟩)⟩
  show _::_=_::_
  congr 3
  ·push_cast;rw[Int.add_mul];exact iA (L0 [_,_,_] [] 15367633161346360215584 1 rfl) (L0 [_,_,_] [] 15572231694597497170976 1 rfl)
  ·push_cast;exact iA (L0 [] [_,_] 19865600539082288253435841584 1 rfl) (L0 [] [_,_] 19865611089466976910655036464 1 rfl)
 ·intro fx n ok m σ X _ s H
  refine aD (λo ho ha=>?_) (H.mem (a:=I) (ao:=.eF (a+cnt*c) (cnt-cnt) c) (.head _))
  cases ha using At.zW
  refine .of (wpAny_pyNext_range_end ok.hand ho (by exact L0 [] [_] 2982878256 1 rfl) λh' hs=>?_)
  exact⟨m,σ,H.lG (k:=s.toks) λb o hb e=>hs b o hb e,rfl,rfl,rfl⟩
 ·intro fx n ok m σ X s H
  refine aD (λo ho ha=>?_) (H.mem (a:=I) (ao:=.eF (a+(0:Nat)*c) (cnt-(0:Nat)) c) (.head _))
  cases ha using At.zW
  exact .of (wpAny_pyIter_rangeiter ho ⟨m,_,H,rfl,rfl,rfl⟩)
 ·intros;trivial
theorem vq{r:Addr}{a b c:Int}{cnt:Nat}{t:Expr}{K:Addr→Nat→(Nat→Led)→(Nat→AV→Led→Prop)→(Fx→Led→Prop)→Led→Prop}(hr:Has w fx σ r (.range a b c))(hs:Builtin.Range.small a b c=true)(hc:Builtin.Range.rangeSize a b c=(cnt:Int))
  (ht:cP t)(h:∀ I,K I cnt (λk=>[(I,.eF (a+k*c) (cnt-k) c)]) (jh λk=>.int (a+k*c)) (λ_ _=>True) σ):PIT w fx (.ref r) m σ t K X:=λva ha s H=>by
 cases ha using Rv.bJ
 refine aD (λo ho ha=>?_) (H.has hr)
 cases ha using At.Qn
 refine .of (wpAny_pyIter_range ho hs ?_)
 rw[hc]
 have:=H.push (k:=s.toks) (o:={ cls:=.type "range_iterator",data:=.fields #[rawInt a,rawInt (cnt:Int),rawInt c] }) .eF
 refine⟨m,_,this,rfl,_,cnt,λk=>[(_,.eF (a+k*c) (cnt-k) c)],_,_,_,rfl,?_,Dq ht,h _⟩
 simp
end
noncomputable def j8(fx:Fx)(scope:Scope)(cl:List (Str×Addr))(C:Addr)(h0:Heap)(ju:Led):Fx:=⟨fx.A,compEnvC scope cl C fx.env,fx.base,fx.frs,fx.frs,h0,fx.os,ju++fx.fz,false⟩
structure Fl(fx:Fx)(h0:Heap)(ju:Led)(oL:Obj):Prop where
 hL:h0.get? fx.env.locals=some oL
 case:(ju=[]∧fx.frs=fx.env::fx.rest∧fx.env.frame=some fx.env.locals)∨(ju=[(fx.env.locals,.raw oL)]∧fx.frs=fx.rest)
noncomputable def Ad(ns:List (Str×NameKind)):List (Str×NameKind):=ns.map λp=>if p.2 == .free then(p.1,.cell) else p
noncomputable def jZ(ns:List (Str×NameKind)):au:=ns.map λp=>(p.1,none)
noncomputable def pq(ns names:List (Str×NameKind)):Bool:=
 jr (ns.map (·.1))&&ns.all (λp=>!(p.1 == ("__debug__" : Str)))&&ns.all (λp=>p.2 != .cell&&(p.2 != .free||names.contains (p.1,.cell)))
section
variable{w:World}{fx:Fx}{m m':au}{σ σ':Led}{X:Value→Prop}{n n':Nat}{x y:Int}{Q:AV→Led→Prop}{QB:Bool→Led→Prop}{N:au→Led→Prop}{R:AV→Led→Prop}{QL:List AV→Led→Prop}
theorem aC.comp{s:Shared}{g M news}{scope:Scope}{cl C ju} (ok:aC w n fx) (H:gF w fx m σ s g M news) (hk:scope.kind=.function):aC w n (j8 fx scope cl C s.heap ju):=
 ⟨ok.lD,ok.top,ok.own,.inl rfl,ok.hand,hk,ok.glob,ok.bi,(show s.heap.FunFrames fx.base fx.frs from H.frames ok),ok.Bm,λq=>by cases q⟩
theorem tW{f:Str×NameKind→NameKind}{l:List (Str×NameKind)}:(l.map (·.1)).Nodup→∀ {p:Str×NameKind},p∈l→(l.map λq=>(q.1,f q)).lookup p.1=some (f p):=by
  induction l with
  | nil=>exact λ_ {p} h=>absurd h List.not_mem_nil
  | cons q r ih=>
    intro nd p h
    rw[List.map_cons,List.lookup_cons]
    rcases List.mem_cons.mp h with e|h
    · subst e;rw[beq_self_eq_true]
    · have:(p.1 == q.1)=false:=beq_eq_false_iff_ne.mpr λe=>(List.nodup_cons.mp nd).1 (List.mem_map.mpr ⟨p,h,e⟩)
      rw[this];exact ih (List.nodup_cons.mp nd).2 h
theorem iZ.comp{names:List (Str×NameKind)}{scope:Scope}{cl C h0 ju} (ok:aC w n fx) (hk:iZ fx names) (hc:pq scope.names names=true):iZ (j8 fx scope cl C h0 ju) (Ad scope.names):=by
 unfold pq at hc
 simp only[Bool.and_eq_true] at hc
 refine uA (λW8 c3=>?_) hc;refine uA (λc1 c2=>?_) W8
 have nd:=cW c1
 intro p hp
 refine aD (λq hq W9=>?_) (mM hp);subst W9
 have key:∀ r:Str×NameKind,(if r.2 == NameKind.free then(r.1,NameKind.cell) else r).1=r.1:=λr=>by split<;>rfl
 refine⟨?_,?_⟩
 ·rw[key]
  show(relabel scope fx.env).names.lookup q.1=_
  have e:(relabel scope fx.env).names=scope.names.map λr=>(r.1,if(r.2 == .free&&fx.env.scope.kind == .function&&fx.env.kindOf r.1 == some .cell)=true then NameKind.cell else r.2):=by
   unfold relabel
   refine List.map_congr_left λr _=>?_
   obtain⟨a,b⟩:=r
   show(if _ then _ else _)=(_,if _ then _ else _)
   split<;>rfl
  rw[e,tW (f:=λr=>if(r.2 == .free&&fx.env.scope.kind == .function&&fx.env.kindOf r.1 == some .cell)=true then NameKind.cell else r.2) nd hq]
  have h3:=List.all_eq_true.mp c3 q hq
  obtain⟨a,b⟩:=q
  by_cases hb:b=NameKind.free
  ·subst hb
   have h4:(a,NameKind.cell)∈names:=by simpa using h3
   have h5:=(hk _ h4).1
   simp[h5,ok.kind]
  ·have:(b == NameKind.free)=false:=by simpa using hb
   simp[this]
 ·rw[key]
  have:=List.all_eq_true.mp c2 q hq
  cases hz:(q.1 == ("__debug__" : Str)) with
  | false=>rfl
  | true=>rw[hz] at this;cases this
theorem vR{ns:List (Str×NameKind)}{x a} (h:(x,some a)∈jZ ns):False:=by
 refine aD (λp _ e=>?_) (mM h);cases e
theorem Di{ns:List (Str×NameKind)}(h:(ns.map (·.1)).Nodup):((jZ ns).map (·.1)).Nodup:=by
 have:(jZ ns).map (·.1)=ns.map (·.1):=by unfold jZ;rw[List.map_map];rfl
 rw[this];exact h
theorem Holds.Hl {s:Shared}{g M news}{h1:Heap}{k:Nat}{scope:Scope}{cl:List (Str×Addr)}{o:Obj}{Mc:Str→Option Value}{mc:au} (ok:aC w n fx) (H:gF w fx m σ s g M news)
    (hns:h1.Ns s.heap.objs.size Mc)(hsb:Heap.SameBut s.heap.objs.size (s.heap.push o) h1)(hm:RelV mc Mc) :
    ∃ ju oL,Fl fx s.heap ju oL∧Holds w (j8 fx scope cl s.heap.objs.size s.heap ju) mc σ { s with heap:=h1,toks:=k }:=by
  have Mj:∀ b ob,s.heap.get? b=some ob→h1.get? b=some ob:=λb ob e=>hsb.extBut b ob (Nat.ne_of_lt (Heap.lt_size e)) (Heap.get?_push_of_some _ e)
  refine fV (λoL es ep hL hLd MF=>?_) (H.F.ns)
  have hff:=H.frames ok
  have hl0:∀ p∈news,p.1≠fx.env.locals:=λp hp=>(H.N p hp).2.1
  have Rh:∀ e∈fx.frs,∀ b,e.frame=some b→b∉news.map (·.1):=λe he b hb q=>by
    refine aD (λp hp e1=>?_) (mM q)
    rcases ok.cases with r|⟨r,hf⟩
    · rw[r] at he
      refine bw (λL' o h1 h2=>?_) (funFrames_in (H.keep.ff ok.ff) e he)
      rw[hb] at h1;cases h1
      have:=(H.N p hp).2.2;rw[e1,h2] at this;exact nsA this.symm
    · rw[r] at he
      rcases List.mem_cons.mp he with rfl|he
      · rw[hb] at hf;cases hf;exact hl0 p hp e1
      · refine bw (λL' o h1 h2=>?_) (funFrames_in (H.keep.ff ok.ff) e he)
        rw[hb] at h1;cases h1
        have:=(H.N p hp).2.2;rw[e1,h2] at this;exact nsA this.symm
  have core:∀ (ju:Led) (nz:List (Addr×Obj)),bA w ju nz→(∀ p∈nz,s.heap.get? p.1=some p.2∧p.1∉news.map (·.1)∧fx.base.get? p.1=none∧∀ e∈fx.frs,e.frame≠some p.1)→(nz.map (·.1)).Nodup→
      Holds w (j8 fx scope cl s.heap.objs.size s.heap ju) mc σ { s with heap:=h1,toks:=k }:=by
    intro ju nz hz QT Zg
    have oY:=H.led
    refine gZ (λn1 n2 Lb r1 r2=>?_) (oY.split);subst Lb
    let hid:=(n1++n2).map (·.1)++nz.map (·.1)
    let g':=hideAll s.heap hid
    have G8:∀ b ob,g'.get? b=some ob↔s.heap.get? b=some ob∧b∉hid:=λb ob=>cH _ _ _ _
    have gof:∀ b ob,g.get? b=some ob→b∉(n1++n2).map (·.1):=λb ob e q=>by
      refine aD (λp hp e1=>?_) (mM q)
      have:=(H.N p hp).2.2;rw[e1,e] at this;exact nsA this.symm
    have ZV:g'.objs.size≤s.heap.objs.size:=by
      have:g'.objs.size=s.heap.objs.size:=by
        show(hideAll s.heap hid).objs.size=_
        exact hideAll_size _ _
      exact id (L1 [] [_,_] 12469 129 12471 rfl this)
    refine⟨g',Mc,n1++(nz++n2),⟨λb ob e=>?_,λe he b ob hf ho=>?_,⟨hns,λb ob e=>Mj _ _ ((G8 _ _).mp e).1,ZV⟩,λp hp=>?_,hm,r1.append (hz.append r2),?_,H.gens,H.os⟩⟩
    · refine(G8 _ _).mpr ⟨H.F.keep _ _ (H.stays _ _ e),λq=>?_⟩
      rcases mA q with q|q
      · exact gof _ _ (H.stays _ _ e) q
      · refine aD (λp hp e1=>?_) (mM q)
        have:=(QT p hp).2.2.1;rw[e1,show fx.base.get? b=some ob from e] at this;exact nsA this.symm
    · refine⟨ob.slots,(G8 _ _).mpr ⟨ho,λq=>?_⟩⟩
      rcases mA q with q|q
      · exact Rh e he b hf q
      · refine aD (λp hp e1=>?_) (mM q)
        exact(QT p hp).2.2.2 e he (e1▸hf)
    · have get:∀ q∈n1++n2,s.heap.get? q.1=some q.2:=λq hq=>(H.N q hq).1
      have hnone:p.1∈hid→g'.get? p.1=none:=λq=>hideAll_none _ q
      have hcase:p∈n1++n2∨p∈nz:=by
        rcases mA hp with q|q
        · exact .inl (List.mem_append_left _ q)
        · rcases mA q with q|q
          · exact .inr q
          · exact .inl (List.mem_append_right _ q)
      have hg:s.heap.get? p.1=some p.2:=by
        rcases hcase with q|q
        · exact get p q
        · exact(QT p q).1
      refine⟨Mj _ _ hg,Nat.ne_of_lt (Heap.lt_size hg),hnone ?_⟩
      rcases hcase with q|q
      · exact List.mem_append_left _ (List.mem_map_of_mem q)
      · exact List.mem_append_right _ (List.mem_map_of_mem q)
    · have nd:=H.nd
      rw[←H.led.keys] at nd
      have e:(σ++(j8 fx scope cl s.heap.objs.size s.heap ju).fz).map (·.1)=(n1++(nz++n2)).map (·.1):=(r1.append (hz.append r2)).keys.symm
      rw[e]
      have p1:(n1++(nz++n2)).Perm (nz++(n1++n2)):=by
        rw[←aA,←aA]
        exact List.perm_append_comm.append_right _
      refine(p1.map (·.1)).nodup_iff.mpr ?_
      rw[List.map_append]
      refine List.nodup_append.mpr ⟨Zg,nd,λa ha b hb q=>?_⟩
      subst q
      refine aD (λp hp e1=>?_) (mM ha)
      exact(QT p hp).2.1 (e1▸hb)
  rcases ok.cases with q|⟨q,hf⟩
  · refine⟨[(fx.env.locals,.raw oL)],oL,⟨hL,.inr ⟨rfl,q⟩⟩,core _ [(fx.env.locals,oL)] (.cons .raw .nil) (λp hp=>?_) (by simp)⟩
    rw[List.mem_singleton] at hp
    subst hp
    refine⟨hL,λz=>?_,fB H.stays H.oK,λe he hf=>?_⟩
    · refine aD (λp hp e1=>?_) (mM z)
      exact hl0 p hp e1
    · rw[q] at he
      refine bw (λL' o h1 h2=>?_) (funFrames_in (H.keep.ff ok.ff) e he)
      rw[hf] at h1;cases h1
      rw[H.oK] at h2;exact nsA h2
  · exact⟨[],oL,⟨hL,.inl ⟨rfl,q,hf⟩⟩,core [] [] .nil (λp hp=>absurd hp (by simp)) (by simp)⟩
theorem Holds.Hj {s:Shared}{g M news}{scope:Scope}{cl:List (Str×Addr)}{C:Addr}{ju:Led}{oL:Obj}{mc:au}{σ':Led}{s':Shared} (ok:aC w n fx) (H:gF w fx m σ s g M news) (en:Fl fx s.heap ju oL)
    (Hc:Holds w (j8 fx scope cl C s.heap ju) mc σ' s'):∃ oC,Holds w fx m ((C,.raw oC)::σ') s'∧∃ mC,s'.heap.Ns C mC:=by
  refine dO (λgc Mc aa4 h=>?_) Hc
  have oY:=h.led
  refine gZ (λn1 n23 Ld r1 r23=>?_) (oY.split);subst Ld
  refine gZ (λn2 n3 Le r2 r3=>?_) (bA.split (σ:=ju) (σ':=fx.fz) r23);subst Le
  refine jD (λoC esC epC hC Vv=>?_) (h.F.ns)
  have hC:s'.heap.get? C=some oC:=hC
  have Jr:∀ b ob,g.get? b=some ob→@LT.lt Nat _ b fx.env.locals:=λb ob e=>Nat.lt_of_lt_of_le (Heap.lt_size e) H.F.above
  have frL:∀ e∈fx.rest,∀ b,e.frame=some b→@LT.lt Nat _ b fx.env.locals:=λe he b hb=>by
    refine bw (λL' o2 h2 h3=>?_) (funFrames_in (H.keep.ff ok.ff) e he)
    rw[hb] at h2;cases h2
    exact Jr _ _ h3
  have TV:bk fx.rest s.heap gc:=by
    have hk:bk fx.frs s.heap gc:=h.keep
    rcases ok.cases with q|⟨q,_⟩
    · rw[q] at hk;exact hk
    · rw[q] at hk;exact hk.tail
  have hLs:s.heap.get? fx.env.locals=some oL:=en.hL
  refine fV (λoL0 es ep hL0 hLd MF=>?_) (H.F.ns)
  rw[hLs] at hL0;cases hL0
  have nd:((σ'++(ju++fx.fz)).map (·.1)).Nodup:=h.nd
  have R3:(∃ o',s'.heap.get? fx.env.locals=some o'∧o'.data=oL.data)∧∀ p∈n1++n3,p.1≠fx.env.locals:=by
    rcases en.case with⟨_,q,hf⟩|⟨q,_⟩
    · have hk:bk fx.frs s.heap gc:=h.keep
      refine uE (λsl h1=>?_) (hk fx.env (by rw[q];exact .head _) _ oL hf hLs)
      refine⟨⟨_,h.F.keep _ _ h1,rfl⟩,λp hp z=>?_⟩
      have:=(h.N p (by rcases mA hp with y|y<;>simp[y])).2.2
      rw[z,h1] at this;exact nsA this.symm
    · subst q
      cases r2 using bA.cV with
      | mk ha r2=>
        cases r2 using bA.jX;cases ha using At.Ci
        rename_i o2
        have hx:=(h.N (fx.env.locals,oL) (by simp)).1
        refine⟨⟨oL,hx,rfl⟩,λp hp z=>?_⟩
        have k1:=r1.keys
        have k3:=r3.keys
        simp only[List.map_append,List.map_cons,List.cons_append,List.nil_append] at nd
        refine gJ (λd1 d2 d3=>?_) (List.nodup_append.mp nd)
        rcases mA hp with y|y
        · exact d3 _ (k1▸List.mem_map_of_mem y) _ (.head _) z
        · exact(List.nodup_cons.mp d2).1 (by rw[←z,←k3];exact List.mem_map_of_mem y)
  refine uA (λLf Zr=>?_) R3;refine aD (λo' ho' hd'=>?_) Lf
  have hLC:fx.env.locals≠C:=by
    intro z
    rcases en.case with⟨_,q,hf⟩|⟨q,_⟩
    · have hk:bk fx.frs s.heap gc:=h.keep
      refine uE (λsl h1=>?_) (hk fx.env (by rw[q];exact .head _) _ oL hf hLs)
      exact absurd (Nat.lt_of_lt_of_le (Heap.lt_size h1) h.F.above) (by rw[z];exact Nat.lt_irrefl _)
    · subst q
      cases r2 using bA.cV with
      | mk ha r2=>
        cases r2 using bA.jX;cases ha using At.Ci
        exact(h.N (fx.env.locals,oL) (by simp)).2.1 z
  refine⟨oC,⟨trunc fx.env.locals gc,M,(C,oC)::(n1++n3),⟨λb ob e=>?_,λe he b ob hf ho=>?_,⟨⟨o',es,ep,ho',hd'.trans hLd,MF⟩,λb ob e=>h.F.keep _ _ ((bQ _ _ _ _).mp e).1,gV _ _⟩,λp hp=>?_,H.vars,.cons .raw (r1.append r3),?_,h.gens,h.os⟩⟩,⟨Mc,oC,esC,epC,hC,Vv⟩⟩
  · exact(bQ _ _ _ _).mpr ⟨h.stays b ob e,Jr _ _ (H.stays _ _ e)⟩
  · refine uE (λsl h1=>?_) (H.keep e he b ob hf ho)
    refine uE (λsl2 h2=>?_) (TV e he b _ hf (H.F.keep _ _ h1))
    exact⟨sl2,(bQ _ _ _ _).mpr ⟨h2,frL e he b hf⟩⟩
  · have wk:∀ b,gc.get? b=none→(trunc fx.env.locals gc).get? b=none:=λb e=>by
      cases z:(trunc fx.env.locals gc).get? b with
      | none=>rfl
      | some ob=>have:=((bQ _ _ _ _).mp z).1;rw[e] at this;exact nsA this
    rcases List.mem_cons.mp hp with rfl|hp
    · refine⟨hC,λz=>hLC z.symm,wk _ ?_⟩
      cases z:gc.get? C with
      | none=>rfl
      | some ob=>exact absurd (Nat.lt_of_lt_of_le (Heap.lt_size z) h.F.above) (Nat.lt_irrefl _)
    · have hp':p∈n1++(n2++n3):=by rcases mA hp with y|y<;>simp[y]
      exact⟨(h.N p hp').1,Zr p hp,wk _ (h.N p hp').2.2⟩
  · have e:(((C,AO.raw oC)::σ')++fx.fz).map (·.1)=C::(n1++n3).map (·.1):=by
      rw[List.cons_append,List.map_cons]
      congr 1
      rw[←(r1.append r3).keys]
    rw[e]
    refine List.nodup_cons.mpr ⟨λz=>?_,?_⟩
    · refine aD (λp hp e1=>?_) (mM z)
      have hp':p∈n1++(n2++n3):=by rcases mA hp with y|y<;>simp[y]
      exact(h.N p hp').2.1 e1
    · rw[(r1.append r3).keys]
      rw[List.map_append,List.map_append] at nd
      rw[List.map_append]
      refine gJ (λd1 d2 d3=>?_) (List.nodup_append.mp nd)
      exact List.nodup_append.mpr ⟨d1,(List.nodup_append.mp d2).2.1,λa ha b hb=>d3 a ha b (List.mem_append_right _ hb)⟩
noncomputable def CT(w:World)(fx:Fx)(ifs:List Expr)(m:au)(σ:Led)(QB:Bool→Led→Prop)(X:Value→Prop):Prop:=
 B1 w fx (forIn ifs true λc r=>if r=true then do let ok ←isTrue c fx.env (eval c fx.env);pure (ForInStep.yield ok) else pure (ForInStep.yield r)) m σ QB X
theorem Ru(h:QB true σ):CT w fx [] m σ QB X:=λs H=>.of (wpAny_tests_nil ⟨m,σ,H,rfl,h⟩)
theorem Rt{c:Expr}(h:TS w fx c m σ QB X):CT w fx [c] m σ QB X:=by
 show WP w fx (forIn [c] true _) m σ _ X
 simp only[List.forIn_cons,List.forIn_nil,if_true]
 exact WP.bind (WP.bind (WP.mono h λb m' σ' q=>WP.pure (WP.pure q)))
noncomputable def Fx.nc(fx:Fx):Fx:={ fx with cl:=false }
noncomputable def xJ(w:World)(fx:Fx)(n:Nat)(names:List (Str×NameKind))(scope:Scope)(cl:List (Str×Addr))(t elt:Expr)(ifs:List Expr)(own:Nat→Led)(item:Nat→AV→Led→Prop)(cnt:Nat)(Inv:Nat→List AV→Led→Prop):Prop:=
  ∀ k,k<cnt→∀ acc σ,Inv k acc σ→acc.length≤k→∀ a ex,item k a ex→∀ lE,aC w n lE→iZ lE (Ad scope.names)→lE.env.cells=cl→lE.base=fx.base→(∀ p∈fx.fz,p∈lE.fz)→
    AS w lE t a (jZ scope.names) (ex++σ) (λm' σ'=>CT w lE ifs m' σ' (λb eU=>if b=true then EV w lE elt m' eU (λy σ3=>Inv (k+1) (acc++[y]) σ3) bN else Inv (k+1) acc eU) bN) bN
theorem Holds.names0{s:Shared}{ns:List (Str×NameKind)}(H:Holds w fx m σ s)(nd:(ns.map (·.1)).Nodup):Holds w fx (jZ ns) σ s:=
 H.weaken (r:=[]) (λx a hx=>(vR hx).elim) (Di nd) (by rw[aN])
theorem aC.Gj(ok:aC w n fx):aC w n { fx with cl:=false }:=⟨ok.lD,ok.top,ok.own,ok.cases,ok.hand,ok.kind,ok.glob,ok.bi,ok.ff,ok.Bm,λq=>by exact jN q⟩
theorem Holds.Gj{s:Shared}(H:Holds w fx m σ s):Holds w { fx with cl:=false } m σ s:=let ⟨g,M,news,h⟩:=H;⟨g,M,news,⟨h.stays,h.keep,h.F,h.N,h.vars,h.led,h.nd,h.gens,h.os⟩⟩
theorem Holds.Kr{s:Shared}(H:Holds w { fx with cl:=false } m σ s):Holds w fx m σ s:=let ⟨g,M,news,h⟩:=H;⟨g,M,news,⟨h.stays,h.keep,h.F,h.N,h.vars,h.led,h.nd,h.gens,h.os⟩⟩
theorem XR.Kr{e s} (H:XR w { fx with cl:=false } X e s):XR w fx X e s:=by
 refine jD (λea cls a0 h1 h=>?_) H
 exact⟨ea,cls,a0,h1,h.ok,h.ns,h.above,h.Az,h.keep,h.gens,h.os,h.stays,h.new,h.loc,h.frames,h.tr⟩
theorem toAny{α:Type}{b:Bool}{M:Model}{A:Around}{E:Value→Shared→Prop}{s:Shared}{t:Sem α}{Q:α→Shared→Prop}(hb:b=false)(h:bH b M A t Q E s):wpAny M A t Q E s:=by subst hb;exact h.any
theorem wQ {use:Option (Value→Sem Unit)}{Q:Value→Shared→Prop}{t elt iter:Expr}{ifs:List Expr}{scope:Scope}{pos p0:Pos}{names:List (Str×NameKind)}{cl:List (Str×Addr)}{s:Shared}
    (ok:aC w n fx)(hk:iZ fx names)(hkind:scope.kind=.function)(hc:pq scope.names names=true)(hclos:closureFor scope fx.env=pure cl)(hs:∀ x,foldedSetIterable iter fx.env x=pure x)
    (hcl:fx.cl=false)(H:Holds w fx m σ s)
    (h:EV w fx iter m σ (λa σ₁=>PIT w fx a m σ₁ t (λI cnt own item pre σ2=>∃ Inv:Nat→List AV→Led→Prop,cnt≤1000000∧Inv 0 [] σ2∧(∀ k acc σ,Inv k acc σ→pre fx σ)∧
      xJ w fx n names scope cl t elt ifs own item cnt Inv∧
      ∀ acc σ',Inv cnt acc σ'→∀ D C oC s',Holds w fx m ((C,.raw oC)::(D,.list acc)::σ') s'→(∃ mC,s'.heap.Ns C mC)→compPost (model Pr w) fx.A (XR w fx X) use Q (.ref D) C (.ok .next) s') X) X) :
    wpAny (model Pr w) fx.A (comprehension (.ListComp elt [⟨t,iter,ifs,0⟩] scope pos) scope fx.env p0 (newList []) false (eval iter fx.env) use) Q (XR w fx X) s:=by
  have hc':=hc
  unfold pq at hc'
  simp only[Bool.and_eq_true] at hc'
  refine uA (λLg c3=>?_) hc';refine uA (λc1 c2=>?_) Lg
  have nd:=cW c1
  have hcell:∀ y∈scope.names,y.2≠.cell:=λy hy q=>by
    have:=List.all_eq_true.mp c3 y hy
    rw[q] at this;simp at this
  refine wpAny_comprehension_free (use:=use) rfl hs hclos hkind (λp hp hl=>by rw[←hl];exact gC nd hp) (wpAny_mono (toAny hcl (h s H)) (λva s₁=>Bw λm1 σ₁ H₁ e1 a ha h₁=>wpAny_mono (toAny hcl (h₁ va ha s₁ (e1▸H₁))) (λit s₂=>gZ λm2 σ₂' H₂ e2 q=>?_) λ_ _ e=>e) λ_ _ e=>e)
  refine rA (λI cnt own item pre σ2 Cr Cq IT Inv ZJ i0 Ik turn fin=>?_) q;subst Cr;subst Cq
  subst e2
  refine wpAny_newObj_type ?_
  have HD:=H₂.push (k:=s₂.toks) (o:={ cls:=.type "list",dict:=none,data:=.seq ([]:List Value).toArray }) (.list (xs:=[]) (vs:=[]) (n:=0) .nil)
  refine dO (λg M news O8=>?_) HD
  refine wpAny_newFunctionEnv hcell (by intro y hy;simp at hy) (λh₁ hns₁ hsb₁=>?_) hkind
  generalize abv:s₂.heap.objs.size=D at O8 hns₁ hsb₁⊢
  generalize hsD:({ s₂ with heap:=s₂.heap.push { cls:=.type "list",dict:=none,data:=.seq ([]:List Value).toArray },toks:=s₂.toks }:Shared)=sD at O8
  have ZL:(s₂.heap.push { cls:=.type "list",dict:=none,data:=.seq ([]:List Value).toArray })=sD.heap:=by rw[←hsD]
  simp only[ZL] at hns₁ hsb₁⊢
  refine bw (λju oL en HC=>?_) (Holds.Hl (k:=sD.toks+([]:List (Str×Value)).length) (scope:=scope) (cl:=cl) (mc:=jZ scope.names) ok O8 hns₁ hsb₁ ⟨Di nd,λx a hx=>(vR hx).elim⟩)
  have HC:Holds w (j8 fx scope cl sD.heap.objs.size sD.heap ju) (jZ scope.names) (own 0++((D,.list [])::σ2)) { sD with heap:=h₁,toks:=sD.toks+([]:List (Str×Value)).length }:=HC.perm (σ':=own 0++((D,.list [])::σ2)) List.perm_middle.symm
  generalize hC:sD.heap.objs.size=C at HC hns₁ hsb₁⊢
  let F:=j8 fx scope cl C sD.heap ju
  let PO:=compPost (model Pr w) fx.A (XR w fx X) use Q (.ref D) C
  have HC:Holds w F (jZ scope.names) (own 0++((D,.list [])::σ2)) { sD with heap:=h₁,toks:=sD.toks+([]:List (Str×Value)).length }:=HC
  have Qs:aC w n F:=aC.comp ok O8 hkind
  have hkc:iZ F (Ad scope.names):=iZ.comp ok hk hc
  have Nj:∀ p∈fx.fz,p∈F.fz:=λp hp=>List.mem_append_right _ hp
  have loop:∀ s₃:Shared,Holds w F (jZ scope.names) (own 0++((D,.list [])::σ2)) s₃→
      codeAny (model Pr w) fx.A (.compLoop (.ListComp elt [⟨t,iter,ifs,0⟩] scope pos) 0 (.ref I) (.ref D) F.env) PO s₃:=by
    intro s₃ H₃
    refine codeAny_loop rfl (λj s=>∃ k acc σ,j+k=cnt∧acc.length≤k∧Holds w F (jZ scope.names) (own k++((D,.list acc)::σ)) s∧Inv k acc σ) (λj s=>gB λk acc σ hj hac H hI=>?_) cnt ⟨0,[],σ2,rfl,nR _,H₃,i0⟩
    show wpAny _ fx.A ((compTurn (.ListComp elt [⟨t,iter,ifs,0⟩] scope pos) 0 (.ref I) (.ref D) F.env).onRaise (λx=>do noteFrame x F.env;theTreesLotGoes x)) _ _ s
    refine wpAny_noted ?_
    rw[compTurn_list]
    have hpre:pre F ((D,.list acc)::σ):=IT.mono fx _ _ _ (Ik _ _ _ hI) rfl Nj λp hp=>.tail _ hp
    rcases Nat.lt_or_ge k cnt with hlt|hge
    · refine wpAny_bind (wpAny_standAt (wpAny_bind (wpAny_mono (bH.any (IT.next _ n Qs k hlt _ _ bN hpre s H)) (λr s₁=>zM λm0 σ0 H0 v e3 hw=>?_) λ_ _ e=>e.none.elim)))
      subst e3
      refine wpAny_bind (wpAny_mono (bH.any (hw s₁ H0)) (λ_ s₁'=>uN λm1 σ1 H1 e1 a ex hv hit e2=>?_) λ_ _ e=>e.none.elim)
      subst e1 e2
      have H1':Holds w { F with fz:=(own (k+1)++[(D,.list acc)])++F.fz } (jZ scope.names) (ex++σ) s₁':=by
        refine Holds.Wz (H1.perm ?_)
        have:(own (k+1)++(ex++(D,AO.list acc)::σ)).Perm ((ex++σ)++(own (k+1)++[(D,.list acc)])):=by
          refine((List.perm_middle.trans (List.perm_append_singleton _ _).symm).append_left _).trans ?_
          rw[←aA]
          refine(List.perm_append_comm.append_right _).trans ?_
          rw[aA]
        exact this
      have tb:=turn k hlt acc σ hI hac a ex hit _ (Qs.fz (ρ:=(own (k+1)++[(D,.list acc)])++F.fz)) hkc rfl rfl (λp hp=>List.mem_append_right _ (Nj p hp)) v hv s₁' H1'
      refine wpAny_bind (wpAny_mono (bH.any tb) (λ_ s₂=>bw λm2 σ2 H2 q2=>?_) λ_ _ e=>e.none.elim)
      refine wpAny_bind (wpAny_mono (bH.any (q2 s₂ H2)) (λb s₃=>gZ λm3 σ3 H3 e4 q3=>?_) λ_ _ e=>e.none.elim)
      have back:∀ {m4 σ4 s4},Holds w { F with fz:=(own (k+1)++[(D,.list acc)])++F.fz } m4 σ4 s4→Holds w F m4 (own (k+1)++((D,.list acc)::σ4)) s4:=λH=>by
        refine(Holds.Y5 (fx:=F) H).perm ?_
        rw[←aA]
        refine(List.perm_append_singleton _ _).trans ?_
        exact(List.perm_append_comm.cons _).trans List.perm_middle.symm
      cases b with
      | false=>
        exact wpAny_pure ⟨rfl,j-1,by exact L1 [] [_,_] 12470 129 3225431079 rfl (sC j 1 (L2 [] [_,_,_] 721925 8257 55323687 13510 rfl hj hlt)),k+1,acc,σ3,by exact nA (L2 [] [_,_,_,_] 14310881504293 8321 55326759 3762301991 rfl hj (sC j 1 (L2 [] [_,_,_] 721925 8257 55323687 13510 rfl hj hlt))) (L2 [] [_,_,_,_] 1103010465973 4161 47003687 3762303015 rfl hj (sC j 1 (L2 [] [_,_,_] 721925 8257 55323687 13510 rfl hj hlt))),by exact L1 [] [_,_] 269224117 129 12469 rfl hac,(back H3).names0 nd,q3⟩
      | true=>
        subst e4
        refine wpAny_bind (wpAny_bind (wpAny_mono (bH.any (q3 s₃ H3)) (λy s₄=>Bw λm4 σ4 H4 e5 ya hya q4=>?_) λ_ _ e=>e.none.elim))
        have H5:=back H4
        refine aD (λo ho ha=>?_) (H5.mem (a:=D) (ao:=.list acc) (by simp))
        cases ha using At.listE with
        | mk hvs=>
          rename_i vs c
          refine wpAny_bind (append_at ho (λh' hs hd=>?_) (by rw[List.size_toArray,hvs.length,sizeLine_eq];exact L3 [] [_,_,_] 1099511628981 532609 65536001221 13493 12502 rfl ZJ hac hlt))
          have H6:=H5.upd (k:=s₄.toks) (dB:=.list (acc++[ya])) (λb hb=>hs.2 b hb) hd (by rw[List.push_toArray];exact .list (hvs.append (.cons hya .nil)))
          exact wpAny_pure (wpAny_pure ⟨rfl,j-1,by exact L1 [] [_,_] 12470 129 3225431079 rfl (sC j 1 (L2 [] [_,_,_] 721925 8257 55323687 13510 rfl hj hlt)),k+1,acc++[ya],σ4,by exact nA (L2 [] [_,_,_,_] 14310881504293 8321 55326759 3762301991 rfl hj (sC j 1 (L2 [] [_,_,_] 721925 8257 55323687 13510 rfl hj hlt))) (L2 [] [_,_,_,_] 1103010465973 4161 47003687 3762303015 rfl hj (sC j 1 (L2 [] [_,_,_] 721925 8257 55323687 13510 rfl hj hlt))),by simp;exact L1 [] [_,_] 12469 129 12469 rfl hac,H6.names0 nd,q4⟩)
    · obtain rfl:k=cnt:=nA (L1 [] [_,_,_] 12469 129 51065895 rfl hj) (L1 [] [_,_] 12469 129 12469 rfl hge)
      refine wpAny_bind (wpAny_standAt (wpAny_bind (wpAny_mono (bH.any (IT.done _ n Qs _ _ bN hpre s H)) (λr s₁=>lO λm1 σ1 H1 e1 e2 e3=>?_) λ_ _ e=>e.none.elim)))
      subst e1 e2 e3
      refine aD (λoC HL hCn=>?_) (Holds.Hj ok O8 en H1)
      exact wpAny_pure (fin acc σ hI D C oC s₁ HL hCn)
  refine codeAny_compStart_list (loop _ HC) (wpAny_mono (bH.any (IT.self _ n Qs _ _ bN _ HC)) (λit' s'=>lO λm1 σ1 H1 e1 e2 e3=>?_) λ_ _ e=>e.none.elim)
  subst e1 e2 e3
  exact loop _ H1
theorem Nt{t elt iter:Expr}{ifs:List Expr}{scope:Scope}{pos:Pos}{names:List (Str×NameKind)}{cl:List (Str×Addr)}
  (ok:aC w n fx)(hk:iZ fx names)(hkind:scope.kind=.function)(hc:pq scope.names names=true)(hclos:closureFor scope fx.env=pure cl)(hs:∀ x,foldedSetIterable iter fx.env x=pure x)
  (h:EV w fx.nc iter m σ (λa σ₁=>PIT w fx.nc a m σ₁ t (λI cnt own item pre σ2=>∃ Inv:Nat→List AV→Led→Prop,cnt≤1000000∧Inv 0 [] σ2∧(∀ k acc σ,Inv k acc σ→pre fx.nc σ)∧
   xJ w fx.nc n names scope cl t elt ifs own item cnt Inv∧∀ acc σ',Inv cnt acc σ'→∀ D,Q (.ref D) ((D,.list acc)::σ')) X) X):EV w fx (.ListComp elt [⟨t,iter,ifs,0⟩] scope pos) m σ Q X:=λs H=>by
 rw[eval_ListComp]
 refine .of (wpAny_mono (wQ (fx:={ fx with cl:=false }) (X:=X) (Q:=λv s'=>∃ m' σ',Holds w { fx with cl:=false } m' σ' s'∧(m'=m∧∃ a,Rv a v∧Q a σ')) (use:=none) ok.Gj hk hkind hc hclos hs rfl H.Gj (V1.mono h λa σ₁ h₁ va ha=>WP.mono (h₁ va ha) λr m' σ'=>g8 λe I cnt own item pre σ2 e1 e2 IT Inv q1 q2 q3 q4 q5=>⟨e,I,cnt,own,item,pre,σ2,e1,e2,IT,Inv,q1,q2,q3,q4,λacc σ' hI D C oC s' HL hN=>?_⟩)) (λv s'=>bw λm' σ' H' q=>⟨m',σ',H'.Kr,q⟩) λ_ _ e=>e.Kr)
 refine uE (λmC hN=>?_) hN
 exact⟨mC,hN,λh' hsb=>⟨m,_,HL.lG (k:=s'.toks) λb o hb e=>hsb.extBut b o hb e,rfl,_,.ref D,q5 acc σ' hI D⟩⟩
theorem Qk{x0:Str}{t elt iter:Expr}{ifs:List Expr}{scope:Scope}{pos spos py:Pos}{names:List (Str×NameKind)}{cl:List (Str×Addr)}
  (ok:aC w n fx)(hk:iZ fx names)(hsw:swapsWith (.ListComp elt [⟨t,iter,ifs,0⟩] scope pos) (some (.Name x0 py)) spos.line fx.env=pure true)(hx:(x0,NameKind.local)∈names)
  (hkind:scope.kind=.function)(hc:pq scope.names names=true)(hclos:closureFor scope fx.env=pure cl)(hs:∀ x,foldedSetIterable iter fx.env x=pure x)
  (h:EV w fx.nc iter m σ (λa σ₁=>PIT w fx.nc a m σ₁ t (λI cnt own item pre σ2=>∃ Inv:Nat→List AV→Led→Prop,cnt≤1000000∧Inv 0 [] σ2∧(∀ k acc σ,Inv k acc σ→pre fx.nc σ)∧
   xJ w fx.nc n names scope cl t elt ifs own item cnt Inv∧∀ acc σ',Inv cnt acc σ'→∀ D,∃ m',Put x0 (.ref D) m m'∧N m' ((D,.list acc)::σ')) X) X):S1 w fx (.Assign [.Name x0 py] (.ListComp elt [⟨t,iter,ifs,0⟩] scope pos) spos) m σ N R X:=λs H=>by
 rw[exec_Assign_Name_used _ _ _ _ hsw]
 refine .of (wpAny_bind (wpAny_standAt (wpAny_bind ?_)))
 show wpAny _ fx.A (do let _ ←comprehension (.ListComp elt [⟨t,iter,ifs,0⟩] scope pos) scope fx.env _ (newList []) false (eval iter fx.env) (some (assign (.Name x0 py) fx.env))) _ _ s
 refine wpAny_bind (wpAny_mono (wQ (fx:={ fx with cl:=false }) (X:=X) (use:=some (assign (.Name x0 py) fx.env)) (Q:=λ_ s'=>∃ m' σ',Holds w fx m' σ' s'∧O9 N R .next m' σ') ok.Gj hk hkind hc hclos hs rfl H.Gj
  (V1.mono h λa σ₁ h₁ va ha=>WP.mono (h₁ va ha) λr m' σ'=>g8 λe I cnt own item pre σ2 e1 e2 IT Inv q1 q2 q3 q4 q5=>⟨e,I,cnt,own,item,pre,σ2,e1,e2,IT,Inv,q1,q2,q3,q4,λacc σ' hI D C oC s' HL hN=>?_⟩)) (λ_ s' hq=>wpAny_pure (wpAny_pure hq)) λ_ _ e=>e.Kr)
 refine uE (λmC hN=>?_) hN
 refine aD (λm2 hp hq=>?_) (q5 acc σ' hI D)
 have hb:AS w { fx with cl:=false } (.Name x0 py) (.ref D) m ((C,.raw oC)::(D,.list acc)::σ') (λm' eU=>m'=m2∧eU=(C,.raw oC)::(D,.list acc)::σ') X:=Fd (IW ok.Gj hk hx hp ⟨rfl,rfl⟩)
 refine wpAny_mono (bH.any (hb _ (.ref D) s' HL)) (λ_ s''=>gZ λm3 σ3 H3 e3 e4=>?_) λ_ _ e=>e
 subst e3 e4
 refine aD (λo ho hr=>?_) (H3.mem (a:=C) (ao:=.raw oC) (.head _))
 refine jD (λo1 es ep hC Vv=>?_) hN
 have Q0:s'.heap.get? C=some oC:=by
  refine aD (λo2 ho2 hr2=>?_) (HL.mem (a:=C) (ao:=.raw oC) (.head _))
  cases hr2 using At.Ci;exact ho2
 cases hr using At.Ci
 rw[Q0] at hC;cases hC
 exact⟨mC,⟨_,es,ep,ho,Vv⟩,λh' hsb=>⟨m3,_,(H3.lG (k:=s''.toks) λb o hb e=>hsb.extBut b o hb e).Kr,hq⟩⟩
theorem IsListIter.at_{h:Heap}{a l:Addr}{i:Nat}(H:h.IsListIter a l i):∃ o,h.get? a=some o∧At w (.bh l i) o:=by
 refine sU (λo ho hc hd=>?_) H;exact⟨o,ho,.bh hc hd⟩
theorem Holds.ne{s:Shared}{a b:Addr}{ao bo:AO}(H:Holds w fx m ((a,ao)::(b,bo)::σ) s):a≠b:=by
 refine dO (λg M news h=>?_) H
 have nd:=h.nd
 simp only[List.cons_append,List.map_cons] at nd
 exact λq=>(List.nodup_cons.mp nd).1 (q▸.head _)
theorem o8{l:Addr}{xs:List AV}(hl:Has w fx σ l (.list xs))(h:∀ e it,Q (.ref e) ((e,.cJ it 0)::(it,.bh l 0)::σ)):CL w fx (.typ "enumerate") [.ref l] m σ Q X:=CL.qF λvf v hf hv s H=>by
 cases hf using Rv.lg;cases hv using Rv.bJ
 refine aD (λo ho ha=>?_) (H.has hl)
 refine aD (λvs hvs hL=>?_) (dh ho ha)
 refine .of (call_enumerate_list hL λh' he hit hsz kp=>?_)
 refine aD (λoi hoi ai=>?_) (IsListIter.at_ (w:=w) hit)
 have nIt:s.heap.get? s.heap.objs.size=none:=Heap.get?_none_of_le (nR _)
 have nE:s.heap.get? (s.heap.objs.size+1)=none:=Heap.get?_none_of_le (Nat.le_succ _)
 refine dO (λg M news H=>?_) H
 have lt:∀ p∈news,@LT.lt Nat _ p.1 s.heap.objs.size:=λp hp=>Heap.lt_size (H.N p hp).1
 have Lne:@LT.lt Nat _ fx.env.locals s.heap.objs.size:=by refine jD (λoL es ep hL _=>?_) (H.F.ns);exact Heap.lt_size hL
 have wk:∀ b,s.heap.get? b=none→g.get? b=none:=λb e=>fB H.F.keep e
 refine⟨m,_,⟨g,M,(s.heap.objs.size+1,_)::(s.heap.objs.size,oi)::news,⟨H.stays,H.keep,⟨H.F.ns.keeps kp,λb o e=>kp _ _ (H.F.keep b o e),H.F.above⟩,λp hp=>?_,H.vars,.cons (.cJ (it:=s.heap.objs.size) (k:=0) (old:=.none)) (.cons ai H.led),?_,H.gens,H.os⟩⟩,rfl,_,.ref _,h _ _⟩
 ·rcases List.mem_cons.mp hp with rfl|hp
  ·exact⟨he,λq=>absurd Lne (by rw[←q];exact Nat.not_lt.mpr (Nat.le_succ _)),wk _ nE⟩
  ·rcases List.mem_cons.mp hp with rfl|hp
   ·exact⟨hoi,λq=>absurd Lne (by rw[←q];exact Nat.lt_irrefl _),wk _ nIt⟩
   ·exact⟨kp _ _ (H.N p hp).1,(H.N p hp).2⟩
 ·have nx:∀ q∈(σ++fx.fz).map (·.1),@LT.lt Nat _ q s.heap.objs.size:=λq hq=>by
   rw[←H.led.keys] at hq
   refine aD (λp hp e=>?_) (mM hq)
   rw[←e];exact lt p hp
  simp only[List.cons_append,List.map_cons]
  refine List.nodup_cons.mpr ⟨λq=>?_,List.nodup_cons.mpr ⟨λq=>Nat.lt_irrefl _ (nx _ q),H.nd⟩⟩
  rcases List.mem_cons.mp q with q|q
  ·exact Nat.succ_ne_self _ q
  ·exact Nat.lt_irrefl _ (Nat.lt_of_succ_lt (nx _ q))
noncomputable def Bt(f:Nat→AV)(k:Nat)(a:AV)(ex:Led):Prop:=∃ T,a=.ref T∧ex=[(T,.tuple [.int k,f k])]
theorem Gv {elts:List Expr}{c pos}{e it l:Addr}{xs:List AV}:xH w (.Tuple elts c pos) e xs.length (λk=>[(e,.cJ it k),(it,.bh l k)]) (Bt λk=>xs.getD k .none) (λfx σ=>Has w fx σ l (.list xs)):=by
  constructor
  · intro fx n ok k hk m σ X hl s H
    have H':Holds w fx m ((e,.cJ it k)::(it,.bh l k)::σ) s:=H
    have hne:=H'.ne
    refine aD (λoe hoe GJ=>?_) (H'.mem (a:=e) (ao:=.cJ it k) (.head _))
    refine aD (λoi hoi hai=>?_) (H'.mem (a:=it) (ao:=.bh l k) (.tail _ (.head _)))
    have hl':Has w fx ((e,.cJ it k)::(it,.bh l k)::σ) l (.list xs):=hl.imp (λh=>.tail _ (.tail _ h)) id
    refine aD (λol hol hal=>?_) (H'.has hl')
    refine aD (λvs hv hL=>?_) (dh hol hal)
    have hg:xs[k]?=some (xs.getD k .none):=by rw[gD,gE hk];rfl
    refine aD (λv h1 h2=>?_) (hv.get hg)
    cases GJ using At.uz
    rename_i old
    refine .of (wpAny_pyNext_enum_item (old:=old) hoe (fD hoi hai) hL (by simpa using h1) hne λh' he' hit' hT hsz kp=>?_)
    refine aD (λoi' Zm ai'=>?_) (IsListIter.at_ (w:=w) hit')
    have nT:s.heap.get? s.heap.objs.size=none:=Heap.get?_none_of_le (nR _)
    refine dO (λg M news h=>?_) H'
    have oY:=h.led
    cases oY with
    | cons a1 oY=>
      cases oY with
      | cons a2 oY=>
        rename_i o1 o2 news
        have k1:=h.N (e,o1) (.head _)
        have k2:=h.N (it,o2) (.tail _ (.head _))
        have nd:=h.nd
        have hkeys:(σ++fx.fz).map (·.1)=news.map (·.1):=(bA.keys oY).symm
        simp only[List.cons_append,List.map_cons] at nd
        refine uA (λd1 d2=>?_) (List.nodup_cons.mp nd)
        refine uA (λd3 d4=>?_) (List.nodup_cons.mp d2)
        have nsk:∀ b,b∈news.map (·.1)→b≠e∧b≠it:=λb hb=>by
          rw[←hkeys] at hb
          exact⟨λq=>d1 (q▸.tail _ hb),λq=>d3 (q▸hb)⟩
        have gb:∀ b ob,g.get? b=some ob→b≠e∧b≠it:=λb ob eq=>⟨λq=>(by rw[q,k1.2.2] at eq;exact nsA eq),λq=>(by rw[q,k2.2.2] at eq;exact nsA eq)⟩
        have P0:∀ b ob,s.heap.get? b=some ob→b≠s.heap.objs.size:=λb ob eq q=>by rw[q,nT] at eq;exact nsA eq
        have mk : ∀ (ao:AO) (o':Obj) (h'':Heap),At w ao o'→h''.get? e=some o'→(∀ b,b≠e→h''.get? b=h'.get? b)→∀ k',Holds w fx m ((e,ao)::(it,.bh l (k+1))::(s.heap.objs.size,.tuple [.int k,xs.getD k .none])::σ) { s with heap:=h'',toks:=k' }:=by
          intro ao o' h'' hao ho' hs k'
          have tr:∀ b ob,b≠e→b≠it→s.heap.get? b=some ob→h''.get? b=some ob:=λb ob n1 n2 eq=>(hs b n1).trans (kp b ob n1 n2 eq)
          have neT:s.heap.objs.size≠e:=λq=>P0 _ _ k1.1 q.symm
          refine⟨g,M,(e,o')::(it,oi')::(s.heap.objs.size,{ cls:=.type "tuple",data:=.seq #[.int k s.toks,v] })::news,⟨h.stays,h.keep,⟨?_,λb ob eq=>tr _ _ (gb _ _ eq).1 (gb _ _ eq).2 (h.F.keep _ _ eq),h.F.above⟩,λp hp=>?_,h.vars,.cons hao (.cons ai' (.cons (.tuple (vs:=[.int k s.toks,v]) (.cons (.int _ _) (.cons h2 .nil))) oY)),?_,h.gens,h.os⟩⟩
          · refine jD (λoL es ep hL r=>?_) (h.F.ns)
            exact⟨oL,es,ep,tr _ _ (Ne.symm k1.2.1) (Ne.symm k2.2.1) hL,r⟩
          · rcases List.mem_cons.mp hp with rfl|hp
            · exact⟨ho',k1.2⟩
            · rcases List.mem_cons.mp hp with rfl|hp
              · exact⟨(hs _ (Ne.symm hne)).trans Zm,k2.2⟩
              · rcases List.mem_cons.mp hp with rfl|hp
                · refine⟨(hs _ neT).trans hT,λq=>?_,fB h.F.keep nT⟩
                  refine jD (λoL es ep hL r=>?_) (h.F.ns)
                  exact P0 _ _ hL q.symm
                · have:=h.N p (.tail _ (.tail _ hp))
                  refine uA (λn1 n2=>?_) (nsk p.1 (List.mem_map_of_mem hp))
                  exact⟨tr _ _ n1 n2 this.1,this.2⟩
          · simp only[List.cons_append,List.map_cons]
            have hTn:s.heap.objs.size∉(σ++fx.fz).map (·.1):=λq=>by
              rw[hkeys] at q
              refine aD (λp hp eq=>?_) (mM q)
              exact P0 _ _ (h.N p (.tail _ (.tail _ hp))).1 eq
            refine List.nodup_cons.mpr ⟨λq=>?_,List.nodup_cons.mpr ⟨λq=>?_,List.nodup_cons.mpr ⟨hTn,d4⟩⟩⟩
            · rcases List.mem_cons.mp q with q|q
              · exact hne q
              · rcases List.mem_cons.mp q with q|q
                · exact neT q.symm
                · exact d1 (.tail _ q)
            · rcases List.mem_cons.mp q with q|q
              · exact P0 _ _ k2.1 q
              · exact d3 q
        refine⟨m,_,mk (.raw _) _ h' .raw he' (λb _=>rfl) (s.toks+1),_,rfl,λs2 H2=>?_⟩
        refine aD (λo3 ho3 hr3=>?_) (H2.mem (a:=e) (.head _))
        cases hr3 using At.Ci
        refine .of (wpAny_letOwnedTupleGo_enum ho3 λh'' ZD hs''=>?_)
        have H3:Holds w fx m ((e,.cJ it (k+1))::(it,.bh l (k+1))::(s.heap.objs.size,.tuple [.int k,xs.getD k .none])::σ) { s2 with heap:=h'',toks:=s2.toks }:=
          qM (p:=(e,AO.raw default)) H2 (λb hb=>hs''.2 b hb) ZD (.cJ (k:=k+1))
        exact⟨m,_,H3,rfl,_,_,.ref _,⟨_,rfl,rfl⟩,rfl⟩
  · intro fx n ok m σ X hl s H
    have H':Holds w fx m ((e,.cJ it xs.length)::(it,.bh l xs.length)::σ) s:=H
    refine aD (λoe hoe GJ=>?_) (H'.mem (a:=e) (ao:=.cJ it xs.length) (.head _))
    refine aD (λoi hoi hai=>?_) (H'.mem (a:=it) (ao:=.bh l xs.length) (.tail _ (.head _)))
    have hl':Has w fx ((e,.cJ it xs.length)::(it,.bh l xs.length)::σ) l (.list xs):=hl.imp (λh=>.tail _ (.tail _ h)) id
    refine aD (λol hol hal=>?_) (H'.has hl')
    refine aD (λvs hv hL=>?_) (dh hol hal)
    cases GJ using At.uz
    rename_i old
    refine .of (wpAny_pyNext_enum_end (old:=old) ok.hand hoe (fD hoi hai) hL (by rw[List.getElem?_toArray,List.getElem?_eq_none];rw[hv.length];exact nR _) λh' hs=>?_)
    exact⟨m,σ,H'.tailOf.lG (k:=s.toks) λb o hb e=>hs b o hb e,rfl,rfl,rfl⟩
  · intro fx n ok m σ X s H
    have H':Holds w fx m ((e,.cJ it 0)::(it,.bh l 0)::σ) s:=H
    refine aD (λoe hoe GJ=>?_) (H'.mem (a:=e) (ao:=.cJ it 0) (.head _))
    cases GJ using At.uz
    rename_i old
    exact .of (wpAny_pyIter_enum (old:=old) hoe ⟨m,_,H,rfl,rfl,rfl⟩)
  · intro fx lE σ σ' h e h1 h2
    rcases h with h|h|h
    · exact .inl (h2 _ h)
    · exact .inr (.inl (h1 _ h))
    · exact .inr (.inr (e▸h))
theorem yK{e it l:Addr}{xs:List AV}{elts:List Expr}{c pos}{σ0:Led}{K:Addr→Nat→(Nat→Led)→(Nat→AV→Led→Prop)→(Fx→Led→Prop)→Led→Prop}
  (h:K e xs.length (λk=>[(e,.cJ it k),(it,.bh l k)]) (Bt λk=>xs.getD k .none) (λfx σ=>Has w fx σ l (.list xs)) σ0):PIT w fx (.ref e) m ((e,.cJ it 0)::(it,.bh l 0)::σ0) (.Tuple elts c pos) K X:=λva ha s H=>by
 cases ha using Rv.bJ
 refine aD (λoe hoe GJ=>?_) (H.mem (a:=e) (ao:=.cJ it 0) (.head _))
 cases GJ using At.uz
 rename_i old
 exact .of (wpAny_pyIter_enum (old:=old) hoe ⟨m,_,H,rfl,e,_,_,_,_,σ0,rfl,rfl,Gv,h⟩)
theorem Hq(h:∀ r,Q (.ref r) ((r,.range 0 x 1)::σ)):CL w fx (.typ "range") [.int x] m σ Q X:=CL.qF λvf v hf hv s H=>by
 cases hf using Rv.lg;cases hv using Rv.aR
 exact .of (call_range_1 ⟨m,_,H.push .range,rfl,_,.ref _,h _⟩)
theorem Hp{z:Int}(hz:z≠0)(hz2:z.natAbs<2^64)(h:∀ r,Q (.ref r) ((r,.range x y z)::σ)):CL w fx (.typ "range") [.int x,.int y,.int z] m σ Q X:=CL.Y6 λvf v u t hf hv hu ht s H=>by
 cases hf using Rv.lg;cases hv using Rv.aR;cases hu using Rv.aR;cases ht using Rv.aR
 exact .of (call_range_3 hz ⟨m,_,H.push .range,rfl,_,.ref _,h _⟩ (.inl (SN hz2)))
noncomputable def AN(w:World)(fx:Fx)(xs:List Str)(as:List AV)(m:au)(σ:Led)(N:au→Led→Prop)(X:Value→Prop):Prop:=∀ vs,bF as vs→WP w fx (assignInOrder (xs.map λn=>bindName fx.env n) vs) m σ (λ_ m' σ'=>N m' σ') X
theorem R0(h:N m σ):AN w fx [] [] m σ N X:=λvs hv=>by cases hv using bF.jX;exact WP.pure h
theorem Ov{x0:Str}{xs a as} (h:BN w fx x0 a m σ (λm' σ'=>AN w fx xs as m' σ' N X) X):AN w fx (x0::xs) (a::as) m σ N X:=λvs hv=>by
 cases hv using bF.cV with
 | mk ha has=>exact WP.bind (WP.holding (WP.mono (h _ ha) λ_ m' σ' q=>q _ has))
theorem bF.reverse{as vs} (h:bF as vs):bF as.reverse vs.reverse:=by
 induction h with
 | nil=>exact .nil
 | cons ha _ ih=>rw[List.reverse_cons,List.reverse_cons];exact ih.append (.cons ha .nil)
theorem Qh{t value:Expr}{pos}{nm:List Str} (h1:swapsWithSole [t] value pos.line fx.env=pure false) (h2:swappedStores [t] value fx.env=pure (some nm)) (ok:aC w n fx)
  (h:EV w fx value m σ (λa σ'=>∃ T as eU,a=.ref T∧σ'=(T,.tuple as)::eU∧as.length=nm.length∧AN w fx nm.reverse as.reverse m eU N X) X):S1 w fx (.Assign [t] value pos) m σ N R X:=by
 have e:exec (.Assign [t] value pos) fx.env=(do
  standAt pos
  if ←swapsWithSole [t] value pos.line fx.env then do
   evalThenUse value fx.env λv=>assignAll v ((assignEach [t] fx.env).map (·.2))
   pure .next
  else do
   let v ←eval value fx.env
   assignStores fx.env v (←swappedStores [t] value fx.env) ((assignEach [t] fx.env).map (·.2))):=rfl
 show WP w fx (exec _ fx.env) m σ _ X
 rw[e,h1,h2]
 refine WP.bind (WP.standAt ?_)
 show WP w fx (eval value fx.env >>= λv=>(PySem.rule "assign.swapped-stores" >>= λ_=>unpackItems v nm.length none >>= λitems=>assignInOrder (nm.reverse.map λn=>bindName fx.env n) items.reverse >>= λ_=>(pure Flow.next:Sem Flow))) m σ _ X
 refine V1.aY (V1.mono h λa σ'=>gB λT as eU e1 e2 e3 h'=>λv hv=>WP.bind (WP.rule ?_))
 subst e1 e2
 cases hv using Rv.bJ
 intro s H
 refine aD (λo ho ha=>?_) (H.mem (a:=T) (ao:=.tuple as) (.head _))
 refine aD (λvs hvs hL=>?_) (yW ho ha)
 have hsz:vs.toArray.size=nm.length:=by rw[List.size_toArray,hvs.length,e3]
 rw[←hsz]
 refine ak (.of (wpAny_unpackItems_tuple ok.hand hL λhp hx=>?_))
 have H2:Holds w fx m eU { s with heap:=hp }:=(H.keeps (k:=s.toks) λb o e=>hx b o (Nat.ne_of_lt (Heap.lt_size e)) e).tailOf
 exact ak (aV (h' _ hvs.reverse _ H2) (λ_ s2=>bw λm2 σ2 H2 q=>aJ ⟨m2,σ2,H2,q⟩) λ_ _ e=>e)
inductive iR:AV→Option Int→Prop
 | none:iR .none none
 | int (i:Int):iR (.int i) (some i)
theorem iR.is{a p v} (h:iR a p) (hv:Rv a v):IsPart v p:=by
 cases h with
 | none=>cases hv using Rv.noneE;exact .none
 | int=>cases hv using Rv.aR;exact .int _ _
noncomputable def EP(w:World)(fx:Fx)(e:Option Expr)(m:au)(σ:Led)(Q:AV→Led→Prop)(X:Value→Prop):Prop:=V1 w fx (evalPart e fx.env) m σ Q X
theorem NT(h:Q .none σ):EP w fx none m σ Q X:=WP.pure ⟨rfl,_,.none,h⟩
theorem NQ{e:Expr}(h:EV w fx e m σ Q X):EP w fx (some e) m σ Q X:=h
theorem JM{l u st:Option Expr}{p} (h:EP w fx l m σ (λa σ₁=>EP w fx u m σ₁ (λb σ₂=>EP w fx st m σ₂ (λc σ₃=>∃ i j k,iR a i∧iR b j∧iR c k∧∀ S,Q (.ref S) ((S,.slice i j k)::σ₃)) X) X) X):EV w fx (.Slice l u st p) m σ Q X:=by
 show V1 w fx (eval _ fx.env) m σ Q X
 rw[arm_eval_Slice]
 refine V1.aY (V1.mono h λa σ₁ h₁ va ha=>V1.aY (V1.holding (V1.mono h₁ λb σ₂ h₂ vb hb=>V1.aY (V1.holding (V1.mono h₂ λc σ₃=>gB λi j k p1 p2 p3 q=>λvc hc s H=>.of ?_)))))
 exact wpAny_newObj_type ⟨m,_,H.push (k:=s.toks) (.slice (p1.is ha) (p2.is hb) (p3.is hc)),rfl,_,.ref _,q _⟩
theorem zQ(slice:Expr)(o i:Value):∃ ops,subscripted slice false o i=operate ops (getItem o i):=by
  cases slice with
  | Slice a b c p=>cases c with
    | none=>exact⟨_,rfl⟩
    | some c=>exact⟨_,rfl⟩
  | _=>exact⟨_,rfl⟩
noncomputable def gO(xs:List AV)(lo hi st:Option Int):List AV:=(sliceRange (sliceBounds lo hi st xs.length).1 (sliceBounds lo hi st xs.length).2.1 (sliceBounds lo hi st xs.length).2.2).filterMap (xs[·]?)
theorem bF.vC {as vs} (h:bF as vs):∀ (l:List Nat),bF (l.filterMap (as[·]?)) (l.filterMap (vs.toArray[·]?))
  | []=>.nil
  | i :: l=>by
    rw[List.filterMap_cons,List.filterMap_cons]
    cases hi:as[i]? with
    | none=>
      have:vs.toArray[i]?=none:=by
        rw[List.getElem?_toArray,List.getElem?_eq_none]
        rw[h.length];exact List.getElem?_eq_none_iff.mp hi
      rw[this];exact h.vC l
    | some a=>
      refine aD (λv h1 h2=>?_) (h.get hi)
      have:vs.toArray[i]?=some v:=by rw[List.getElem?_toArray];exact h1
      rw[this];exact .cons h2 (h.vC l)
theorem bF.pick{as vs} (h:bF as vs) (lo hi st:Option Int):bF (gO as lo hi st) (slicePick vs.toArray lo hi st).toList:=by
 unfold gO slicePick
 rw[List.size_toArray,h.length]
 exact h.vC _
theorem wu{value slice:Expr}{l S:Addr}{xs:List AV}{lo hi st:Option Int}(hl:Has w fx σ l (.list xs))(hs:Has w fx σ S (.slice lo hi st))(h0:st≠some 0)(hz:xs.length≤1000000)
    (h:∀ r,Q (.ref r) ((r,.list (gO xs lo hi st))::σ)):GI w fx value slice (.ref l) (.ref S) m σ Q X:=λvo vi ho hi s H=>by
  cases ho using Rv.bJ;cases hi using Rv.bJ
  refine aD (λo ho ha=>?_) (H.has hl)
  refine aD (λvs hv hL=>?_) (dh ho ha)
  refine aD (λos hos has=>?_) (H.has hs)
  cases has using At.zU with
  | mk p1 p2 p3=>
    refine uE (λops Dt=>?_) (zQ slice (.ref l) (.ref S))
    refine .of (tail_any hL.typeIs slot_list_getitem.lookup (wpAny_getItem_list_slice hL ⟨_,hos,rfl,rfl⟩ p1 p2 p3 h0 ?_ (by rw[List.size_toArray,hv.length,sizeLine_eq];exact L1 [] [_] 1099511628981 129 65536001205 rfl hz)) Dt)
    refine⟨m,_,H.push (k:=s.toks) (.list (xs:=gO xs lo _ st) (vs:=(slicePick vs.toArray lo _ st).toList) (n:=0) (hv.pick lo _ st)),rfl,_,.ref _,h _⟩
end
theorem I3:mroOf (.type "bytearray")=pure [.type "bytearray",.type "object"]:=by rw[mroOf_type];kernel_rfl
theorem xq:typeLookup (.type "bytearray") "__new__"= pure (some (.builtin "bytearray.__new__")):=by rw[typeLookup_type,builtinLookup_eq_fast];kernel_rfl
theorem mK:isSubtype (.type "bytearray") (.type "bytearray")=pure true:=by rw[isSubtype_type];kernel_rfl
theorem pA:Slot "bytearray" "__init__" "bytearray.__init__":=
 .of (owner:="bytearray") (n:="__init__") (by rw[typeLookup_type,builtinLookup_eq_fast];kernel_rfl) (by decide +kernel) (by decide +kernel) (by decide +kernel) (by first|exact .inl (by kernel_rfl)|exact .inr (by kernel_rfl)) mK
theorem mY:Slot "bytearray" "append" "bytearray.append":=
 .of (owner:="bytearray") (n:="append") (by rw[typeLookup_type,builtinLookup_eq_fast];kernel_rfl) (by decide +kernel) (by decide +kernel) (by decide +kernel) (.inr (by kernel_rfl)) mK
theorem mX:Slot "bytearray" "extend" "bytearray.extend":=
 .of (owner:="bytearray") (n:="extend") (by rw[typeLookup_type,builtinLookup_eq_fast];kernel_rfl) (by decide +kernel) (by decide +kernel) (by decide +kernel) (.inr (by kernel_rfl)) mK
theorem HN:TypeCalled "bytearray" "bytearray.__new__" "bytearray.__init__":=
 ⟨by decide +kernel,by decide +kernel,⟨_,_,I3⟩,madeBy_type I3 xq (by decide +kernel),by decide +kernel,mK,pA⟩
theorem yh:entryFor table "bytearray.__new__"= some Builtin.«list.__new__»:=entryFor_alias (id':="list.__new__") (by kernel_rfl) rfl (by decide +kernel) (by kernel_rfl)
theorem xr:entryFor table "bytearray.__init__"= some Builtin.«bytearray.__init__»:=by first|exact entryFor_of_fast (by kernel_rfl)|exact entryFor_of_tree (by kernel_rfl)
theorem sI:entryFor table "bytearray.append"= some Builtin.«bytearray.append»:=by first|exact entryFor_of_fast (by kernel_rfl)|exact entryFor_of_tree (by kernel_rfl)
theorem sH:entryFor table "bytearray.extend"= some Builtin.«bytearray.extend»:=by first|exact entryFor_of_fast (by kernel_rfl)|exact entryFor_of_tree (by kernel_rfl)
theorem Bq:checkTypeCall "bytearray" ⟨[],[]⟩=pure ():=by kernel_rfl
theorem EY:checkBuiltinCall "bytearray.__new__" ⟨[.type "bytearray"],[]⟩=pure ():=by kernel_rfl
theorem yp(a:Value):argsOk "bytearray.__init__" ⟨[a],[]⟩:=by unfold argsOk;kernel_rfl
theorem uh(a b:Value):argsOk "bytearray.append" ⟨[a,b],[]⟩:=by unfold argsOk;kernel_rfl
theorem ug(a b:Value):argsOk "bytearray.extend" ⟨[a,b],[]⟩:=by unfold argsOk;kernel_rfl
theorem pB:plainId "bytearray.__new__"= true:=by decide +kernel
theorem xg:typeLookup (.type "bytearray") "__release_buffer__"= pure (some (.builtin "bytearray.__release_buffer__")):=by rw[typeLookup_type,builtinLookup_eq_fast];kernel_rfl
theorem qd:typeLookup (.type "bytearray") "__buffer__"= pure (some (.builtin "bytearray.__buffer__")):=by rw[typeLookup_type,builtinLookup_eq_fast];kernel_rfl
theorem J9:typeLookup (.type "bytearray") "__bytes__"= pure none:=by rw[typeLookup_type,builtinLookup_eq_fast];kernel_rfl
theorem J7:typeLookup (.type "bytearray") "__index__"= pure none:=by rw[typeLookup_type,builtinLookup_eq_fast];kernel_rfl
theorem J5:typeLookup (.type "bytes") "__bytes__"= pure (some (.builtin "bytes.__bytes__")):=by rw[typeLookup_type,builtinLookup_eq_fast];kernel_rfl
theorem Wb:typeLookup (.type "bytearray") "__getattribute__"= pure (some (.builtin "bytearray.__getattribute__")):=by rw[typeLookup_type,builtinLookup_eq_fast];kernel_rfl
theorem Fb:typeLookup (.type "bytearray") "__getattr__"= pure none:=by rw[typeLookup_type,builtinLookup_eq_fast];kernel_rfl
theorem J8:(Manifest.canonical "bytearray.__getattribute__" !="object.__getattribute__")=false:=by decide +kernel
theorem uf:typeOf (.builtin "bytearray.append")=pure (.type "method_descriptor"):=by show builtinType _=_;rw[builtinType_eq_fast];kernel_rfl
theorem ud:typeOf (.builtin "bytearray.extend")=pure (.type "method_descriptor"):=by show builtinType _=_;rw[builtinType_eq_fast];kernel_rfl
section
variable{M:Model}{A:Around}{E:Value→Shared→Prop}{s:Shared}
theorem pC{l:Addr}{o:Obj}{pl:Sem Bool}{name:Str}{id:String}{Q:Value×List Value→Shared→Prop}(ho:s.heap.get? l=some o)(hc:o.cls=.type "bytearray")(hd:o.dict=none)
  (hl:typeLookup (.type "bytearray") name=pure (some (.builtin id)))(ht:typeOf (.builtin id)=pure (.type "method_descriptor"))
  (h:Q (.builtin id,[.ref l]) s):wpAny M A (getMethod (.ref l) name pl) Q E s:=by
 have hT:s.TypeIs (.ref l) "bytearray":=⟨o,ho,hc⟩
 unfold getMethod
 refine wpAny_bind (wpAny_specialOf hT Wb ?_)
 show wpAny M A (if(Manifest.canonical "bytearray.__getattribute__" !="object.__getattribute__")=true then _ else _) Q E s
 rw[J8,if_neg Bool.false_ne_true]
 refine wpAny_bind (wpAny_specialOf hT Fb ?_)
 refine wpAny_bind (wpAny_specialOf hT hl ?_)
 refine wpAny_bind (wpAny_of_eq ht ?_)
 refine wpAny_bind (wpAny_load ho ?_)
 rw[hd]
 exact wpAny_bind (wpAny_rule (wpAny_pure h))
end
section
variable{w:World}{A:Around}{E:Value→Shared→Prop}{s:Shared}
theorem rm{a:Addr}(hg:A.guards=some []){Q:Bool→Shared→Prop}(h:Q false s):bH true (model Pr w) A (Builtin.Bytes.exported (.ref a)) Q E s:=by
  unfold Builtin.Bytes.exported
  refine xM hg (λc p Mu hdc=>?_) h
  cases c with
  | builtin id args=>
    have n1:id≠ "bytearray.__contains__":=λe=>by subst e;exact absurd (show guardIds.contains "bytearray.__contains__"= false from Mu) (by decide)
    have n2:id≠ "bytearray.__mod__":=λe=>by subst e;exact absurd (show guardIds.contains "bytearray.__mod__"= false from Mu) (by decide)
    have n3:id≠ "bytearray.__rmod__":=λe=>by subst e;exact absurd (show guardIds.contains "bytearray.__rmod__"= false from Mu) (by decide)
    have n4:id≠ "_struct.pack_into.held":=λe=>by subst e;exact absurd (show guardIds.contains "_struct.pack_into.held"= false from Mu) (by decide)
    have n5:id≠ "bytearray.find.held":=λe=>by subst e;exact absurd (show guardIds.contains "bytearray.find.held"= false from Mu) (by decide)
    have hdc:Builtin.Bytes.decodersThatHold.contains id=false:=hdc
    obtain⟨l,kw⟩:=args
    cases l with
    | nil=>
      delta Builtin.Bytes.exported.match_1
      dsimp only[Builtin.Bytes.exported._sparseCasesOn_1]
      refine(dif_neg n1).trans ?_
      refine(dif_neg n2).trans ?_
      refine(dif_neg n3).trans ?_
      refine(dif_neg n4).trans ?_
      exact dif_neg n5
    | cons v l=>
      delta Builtin.Bytes.exported.match_1
      dsimp only
      refine(dif_neg n1).trans ?_
      refine(dif_neg n2).trans ?_
      refine(dif_neg n3).trans ?_
      refine(dif_neg n4).trans ?_
      refine(dif_neg n5).trans ?_
      exact(congrArg _ hdc).trans (Bool.and_false _)
  | _=>rfl
theorem pD{a:Addr}{o:Obj}{l:Array UInt8}(ho:s.heap.get? a=some o)(hd:o.data=.bytearray l 0){Q:Nat→Shared→Prop}(h:Q 0 s):wpAny (model Pr w) A (Builtin.Bytes.exportsOf (.ref a)) Q E s:=by
 unfold Builtin.Bytes.exportsOf
 refine wpAny_bind (wpAny_load ho ?_)
 rw[hd]
 exact wpAny_pure h
theorem m5{a:Addr}{o:Obj}{l:Array UInt8}(hg:A.guards=some [])(ho:s.heap.get? a=some o)(hd:o.data=.bytearray l 0){Q:Unit→Shared→Prop}(h:Q () s) :
  bH true (model Pr w) A (Builtin.Bytes.checkResize (.ref a)) Q E s:=by
 unfold Builtin.Bytes.checkResize
 refine ak ?_
 unfold orM
 refine ak (rm hg ?_)
 show bH true (model Pr w) A (Builtin.Bytes.exportsOf (.ref a) >>= λn=>(pure (decide (n>0)):Sem Bool)) _ E s
 refine ak (.of (pD ho hd (aJ ?_)))
 rw[if_neg (by decide)]
 exact aJ h
theorem gA{b:Bool}{R:Result→Shared→Prop}{T:String}{name:Str}{id:String}{B:Builtin}{self:Value}{rest:List Value}(hnd:Builtin.Bytes.decodersThatHold.contains id=false)(slot:Slot T name id)(hT:s.TypeIs self T)
  (entry:entryFor table id=some B)(args:argsOk id ⟨self::rest,[]⟩)
  (h:bH b (model Pr w) A.in1 (B ⟨self::rest,[]⟩) (λfin s'=>match fin with|.done f=>R (.ok f) s'|.again c'=>c'.quiet=true∧bV b (model Pr w) A c' R s') (λe s'=>R (.error e) s') s) :
  bV b (model Pr w) A (.call (.builtin id) ⟨self::rest,[]⟩) R s:=by
 refine bG rfl ?_
 show bH b _ A.in1 (do checkBuiltinCall id ⟨self::rest,[]⟩;again (.builtin id ⟨self::rest,[]⟩)) _ _ s
 refine ak (.of (slot.check _ _ _ _ _ _ _ _ hT args (aJ ⟨plainId_quiet slot.plain _,bG hnd ?_⟩)))
 rw[Around.under_plainId slot.plain _]
 show bH b _ _ (match entryFor table id with|some b=>b ⟨self::rest,[]⟩|none=>unsupported ((withoutEnding? id "#data").getD id)) _ _ s
 rw[entry];exact h
theorem sG{a:Addr}{o:Obj}{l:Array UInt8}{f:Array UInt8→Array UInt8}(ho:s.heap.get? a=some o)(hd:o.data=.bytearray l 0)(hc:o.cls=.type "bytearray")(hz:(f l).size≤sizeLine){Q:Unit→Shared→Prop}
  (h:∀ h',h'.get? a=some { o with data:=.bytearray (f l) 0 }→(∀ b,b≠a→h'.get? b=s.heap.get? b)→Q () { s with heap:=h' }):wpAny (model Pr w) A (Builtin.Bytes.write (.ref a) f) Q E s:=by
 show wpAny _ _ (updateBytearray a f) _ _ _
 unfold updateBytearray
 refine wpAny_bind (wpAny_load ho ?_)
 rw[hd]
 refine wpAny_bind (wpAny_update ho ?_)
 have e:Obj.mapBytearray f o={ o with data:=.bytearray (f l) 0 }:=by
  obtain⟨c,d,dt,sl⟩:=o
  simp only at hd;subst hd;rfl
 have hg:(s.heap.update a (Obj.mapBytearray f)).get? a=some { o with data:=.bytearray (f l) 0 }:=by
  rw[←e];exact Heap.get?_update_self _ ho (by rw[e];rfl)
 refine wpAny_lookBehind hg ?_ (h _ hg λb hb=>Heap.get?_update_ne _ _ _ _ hb)
 show(if(f l).size>sizeLine then some "bytearray:memory" else none)=none
 rw[if_neg (by exact Sy hz)]
end
section
variable{w:World}{fx:Fx}{m m':au}{σ σ':Led}{X:Value→Prop}{n n':Nat}{x y:Int}{Q:AV→Led→Prop}
theorem At.ba{l:List Nat}{o:Obj}(h:At w (.bytearray l) o):o.cls=.type "bytearray"∧o.dict=none∧∃ b:Array UInt8,o={ cls:=.type "bytearray",data:=.bytearray b 0 }∧b.toList.map UInt8.toNat=l:=by
 cases h using At.Eu with
 | mk h1 h2=>subst h2;exact⟨rfl,rfl,_,rfl,h1⟩
theorem xR{a:Addr}{l:List Nat}{K:AV→List AV→Led→Prop}(hl:Has w fx σ a (.bytearray l))(h:K (.bi "bytearray.append") [.ref a] σ):GM w fx (.ref a) "append" m σ K X:=λvo pl ho s H=>by
 cases ho using Rv.bJ
 refine aD (λo ho ha=>?_) (H.has hl)
 refine gJ (λh1 h2 _=>?_) (ha.ba)
 exact .of (pC ho h1 h2 mY.lookup uf ⟨m,σ,H,rfl,_,_,.bi _,.cons (.ref a) .nil,h⟩)
theorem xQ{a:Addr}{l:List Nat}{K:AV→List AV→Led→Prop}(hl:Has w fx σ a (.bytearray l))(h:K (.bi "bytearray.extend") [.ref a] σ):GM w fx (.ref a) "extend" m σ K X:=λvo pl ho s H=>by
 cases ho using Rv.bJ
 refine aD (λo ho ha=>?_) (H.has hl)
 refine gJ (λh1 h2 _=>?_) (ha.ba)
 exact .of (pC ho h1 h2 mX.lookup ud ⟨m,σ,H,rfl,_,_,.bi _,.cons (.ref a) .nil,h⟩)
theorem xZ{a:Addr}{l:List Nat}(ok:aC w n fx)(hcl:fx.cl=true)(hu:fO a (.bytearray l) (.bytearray (l++[x.toNat])) σ σ')(h0:0≤x)(h1:x<256)(hz:l.length≤1000000)(h:Q .none σ') :
  CL w fx (.bi "bytearray.append") [.ref a,.int x] m σ Q X:=CL.of2 λvf v u hf hv hx s H=>by
 cases hf using Rv.qb;cases hv using Rv.bJ;cases hx using Rv.aR
 rename_i t
 refine bw (λpre post Cv Cu=>?_) (hu.split);subst Cv;subst Cu
 refine aD (λo ho ha=>?_) (H.mem (a:=a) (ao:=.bytearray l) (by simp))
 refine Ft (λc1 c2 b Lh hb=>?_) (ha.ba);subst Lh
 have hg:=ok.gd hcl
 rw[hcl]
 refine dF (gA (by decide) mY ⟨_,ho,rfl⟩ sI (uh _ _) ?_)
 unfold Builtin.«bytearray.append»
 refine ak (.of (wpAny_of_eq (a:=(Value.ref a,Value.int x t)) rfl ?_))
 dsimp only
 refine ak (ak (.of (wpAny_of_eq (a:=x) rfl ?_)))
 rw[if_neg (by simp only[Bool.or_eq_true,decide_eq_true_eq,not_or];exact YJ h0 h1)]
 refine aJ (ak (m5 (A:=fx.A.in1) hg ho rfl (ak (.of (sG ho rfl rfl ?_ λh' e1 e2=>?_)))))
 ·rw[Array.size_push,sizeLine_eq]
  have:b.size=l.length:=by rw[←hb];simp
  exact L2 [] [_,_] 288230376424352805 8321 65536001221 12471 rfl hz this
 ·refine aJ ⟨m,_,H.upd (k:=s.toks) (o':={ cls:=.type "bytearray",data:=.bytearray (b.push x.toNat.toUInt8) 0 }) e2 e1 (.bytearray ?_ rfl),rfl,_,.none,h⟩
  rw[Array.toList_push,List.map_append,hb]
  congr 1
  show [x.toNat.toUInt8.toNat]=[x.toNat]
  congr 1
  show x.toNat%256=x.toNat
  exact YH h1
end
theorem qm{id:String}{b:Array UInt8}{t:Tok}:Builtin.Bytes.takeBuffer? id (.bytes b t) 0=pure (some (b,none)):=by
 unfold Builtin.Bytes.takeBuffer?
 rw[KBy.special_eq KBy.look_buffer,KBy.own_buffer]
 show(Builtin.Bytes.buffer? id (.bytes b t) (full:=(0:Int) == Builtin.Bytes.fullReadOnly) >>= λr=>pure (r.map (·,none)))=_
 rw[show((0:Int) == Builtin.Bytes.fullReadOnly)=false by decide,KBy.buffer_eq]
 rfl
theorem rD{id:String}{b:Array UInt8}{t:Tok}:Builtin.Bytes.takeBufferQuiet? id (.bytes b t) 0=pure (some (b,none)):=by
 unfold Builtin.Bytes.takeBufferQuiet?
 rw[qm];rfl
section
variable{w:World}{A:Around}{E:Value→Shared→Prop}{s:Shared}
theorem tQ{a:Addr}{o:Obj}{l:Array UInt8}(ho:s.heap.get? a=some o)(hd:o.data=.bytearray l 0){Q:Array UInt8→Shared→Prop}(h:Q l s):wpAny (model Pr w) A (Builtin.Bytes.payload (.ref a)) Q E s:=by
 unfold Builtin.Bytes.payload Builtin.Bytes.payload?
 refine wpAny_bind (wpAny_bind (wpAny_load ho ?_))
 rw[hd]
 exact wpAny_pure (wpAny_pure h)
end
section
variable{w:World}{fx:Fx}{m m':au}{σ σ':Led}{X:Value→Prop}{n n':Nat}{x y:Int}{Q:AV→Led→Prop}
theorem xY{a:Addr}{l k:List Nat}(ok:aC w n fx)(hcl:fx.cl=true)(hu:fO a (.bytearray l) (.bytearray (l++k)) σ σ')(hz:l.length+k.length≤1000000)(h:Q .none σ') :
  CL w fx (.bi "bytearray.extend") [.ref a,.bytes k] m σ Q X:=CL.of2 λvf v u hf hv hx s H=>by
 cases hf using Rv.qb;cases hv using Rv.bJ;cases hx using Rv.gH
 rename_i c t hc
 refine bw (λpre post K9 Ub=>?_) (hu.split);subst K9;subst Ub
 refine aD (λo ho ha=>?_) (H.mem (a:=a) (ao:=.bytearray l) (by simp))
 refine Ft (λc1 c2 b Gf hb=>?_) (ha.ba);subst Gf
 have hg:=ok.gd hcl
 rw[hcl]
 refine dF (gA (by decide) mX ⟨_,ho,rfl⟩ sH (ug _ _) ?_)
 unfold Builtin.«bytearray.extend»
 refine ak (.of (wpAny_of_eq (a:=(Value.ref a,Value.bytes c t)) rfl ?_))
 dsimp only
 refine ak (.of (wpAny_of_eq (KBy.special_eq KBy.look_buffer) ?_))
 rw[if_pos (by rfl)]
 refine ak (yr (ak (.of (tQ ho rfl ?_))))
 refine ak (.of (wpAny_of_eq rD ?_))
 dsimp only
 rw[if_pos (by rfl)]
 have hcs:c.size=k.length:=by rw[←hc];simp
 have hbs:b.size=l.length:=by rw[←hb];simp
 show bH true (model Pr w) fx.A.in1 (if(!c.isEmpty)=true then(Builtin.Bytes.checkResize (.ref a) >>= λ_=>Builtin.Bytes.write (.ref a) (· ++ c) >>= λ_=>ret .none) else(Builtin.Bytes.write (.ref a) (· ++ c) >>= λ_=>ret .none)) _ _ s
 have fin:∀ QQ EE,(∀ h',h'.get? a=some { cls:=.type "bytearray",data:=.bytearray (b++c) 0 }→(∀ b,b≠a→h'.get? b=s.heap.get? b)→QQ (.done (.ret .none)) { s with heap:=h' })→
   bH true (model Pr w) fx.A.in1 (Builtin.Bytes.write (.ref a) (· ++ c) >>= λ_=>ret .none) QQ EE s:=λQQ EE hq=>by
  refine ak (.of (sG ho rfl rfl ?_ λh' e1 e2=>aJ (hq h' e1 e2)))
  rw[Array.size_append,sizeLine_eq];exact L3 [] [_,_,_,_] 4503599632362533 532609 268435461125157 14535 13495 rfl hz hcs hbs
 have res:∀ h',h'.get? a=some { cls:=.type "bytearray",data:=.bytearray (b++c) 0 }→(∀ b,b≠a→h'.get? b=s.heap.get? b)→∃ m' σ',Holds w fx m' σ' { s with heap:=h' }∧m'=m∧∃ a,Rv a .none∧Q a σ':=λh' e1 e2=>by
  refine⟨m,_,H.upd (k:=s.toks) (o':={ cls:=.type "bytearray",data:=.bytearray (b++c) 0 }) e2 e1 (.bytearray ?_ rfl),rfl,_,.none,h⟩
  rw[Array.toList_append,List.map_append,hb,hc]
 by_cases hce:(!c.isEmpty)=true
 ·rw[if_pos hce]
  exact ak (m5 (A:=fx.A.in1) hg ho rfl (fin _ _ res))
 ·rw[if_neg hce]
  exact fin _ _ res
theorem w7{s:Shared}{A:Around}{E:Value→Shared→Prop}{a:Addr}{Q:Bool→Shared→Prop}(hT:s.TypeIs (.ref a) "bytearray")(h:Q true s):wpAny (model Pr w) A (Builtin.Bytes.slotIsOwn (.ref a) "__buffer__") Q E s:=by
 have key:∀ x:String,x ="bytearray"→wpAny (model Pr w) A (isInstance (.ref a) (.type x)) Q E s:=λx hx=>by subst hx;exact wpAny_isInstance hT mK h
 unfold Builtin.Bytes.slotIsOwn
 refine wpAny_bind (wpAny_specialOf hT qd ?_)
 dsimp only
 split
 ·rename_i hx
  exact absurd hx (by decide +kernel)
 ·exact key _ (by decide +kernel)
theorem mZ{s:Shared}{A:Around}{E:Value→Shared→Prop}{a:Addr}{Q:Bool→Shared→Prop}(hT:s.TypeIs (.ref a) "bytearray")(h:Q false s):wpAny (model Pr w) A (Builtin.Bytes.ownRelease (.ref a)) Q E s:=by
 have key:∀ x:String,x ="bytearray"→wpAny (model Pr w) A (isInstance (.ref a) (.type x)) (λb s'=>b=true∧s'=s) E s:=λx hx=>by subst hx;exact wpAny_isInstance hT mK ⟨rfl,rfl⟩
 unfold Builtin.Bytes.ownRelease Builtin.Bytes.slotIsOwn
 refine wpAny_bind (wpAny_bind (wpAny_specialOf hT xg ?_))
 dsimp only
 split
 ·rename_i hx
  exact absurd hx (by decide +kernel)
 ·refine wpAny_mono (key _ (by decide +kernel)) (λb s' hb=>?_) λ_ _ e=>e
  refine uA (λzZ Gg=>?_) hb;subst zZ;subst Gg
  exact wpAny_pure h
theorem yj{s:Shared}{A:Around}{E:Value→Shared→Prop}{a:Addr}{l:Array UInt8}{id:String}{full:Bool}{Q:Option (Array UInt8)→Shared→Prop}(ho:s.heap.get? a=some { cls:=.type "bytearray",data:=.bytearray l 0 })(h:Q (some l) s) :
  wpAny (model Pr w) A (Builtin.Bytes.buffer? id (.ref a) full) Q E s:=by
 have hT:s.TypeIs (.ref a) "bytearray":=⟨_,ho,rfl⟩
 unfold Builtin.Bytes.buffer?
 refine wpAny_bind (wpAny_specialOf hT qd ?_)
 dsimp only
 refine wpAny_bind (w7 hT ?_)
 rw[if_neg (by decide)]
 refine wpAny_bind (wpAny_specialOf hT qd ?_)
 refine wpAny_bind (mZ hT ?_)
 rw[if_neg (by decide)]
 exact wpAny_bind (tQ ho rfl (wpAny_pure h))
theorem su{s:Shared}{A:Around}{E:Value→Shared→Prop}{b:Array UInt8}{t:Tok}{Q:Value→Shared→Prop}(h:Q (.bytes b t) s) :
  codeAny (model Pr w) A (.call (.builtin "bytes.__new__") ⟨[.type "bytes",.bytes b t],[]⟩) (wants Q E) s:=by
 refine codeAny_of_tree ?_
 show wpAny _ A.in1 (do checkBuiltinCall "bytes.__new__" ⟨[.type "bytes",.bytes b t],[]⟩;again (.builtin "bytes.__new__" ⟨[.type "bytes",.bytes b t],[]⟩)) _ _ s
 refine wpAny_bind (wpAny_of_eq (F.bm_newCall _) (wpAny_pure ⟨plainId_quiet F.bm_plain _,codeAny_builtin F.bm_entry ?_⟩))
 rw[Around.under_plainId F.bm_plain _]
 unfold Builtin.«bytes.__new__»
 refine wpAny_bind (wpAny_of_eq (a:=true) rfl ?_)
 refine bm_if_false rfl ?_
 refine wpAny_bind (wpAny_of_eq F.bm_sub ?_)
 refine bm_if_false rfl ?_
 refine wpAny_bind (wpAny_of_eq (F.bm_bind _) ?_)
 refine wpAny_bind (wpAny_of_eq (a:=()) rfl ?_)
 refine wpAny_bind (wpAny_of_eq (a:=()) rfl ?_)
 refine bm_if_false rfl ?_
 refine wpAny_bind (wpAny_of_eq (KBy.special_eq J5) ?_)
 refine wpAny_bind (wpAny_rule (wpAny_bind (wpAny_typeOf (typeIs_bytes _ _ _) ?_)))
 refine bm_if_true (by decide) ?_
 exact wpAny_pure h
theorem yd{s:Shared}{A:Around}{E:Value→Shared→Prop}{a:Addr}{b:Array UInt8}{Q:Value→Shared→Prop}(ho:s.heap.get? a=some { cls:=.type "bytearray",data:=.bytearray b 0 })(hz:b.size≤sizeLine)
  (h:Q (.bytes b s.toks) { s with toks:=s.toks+1 }) :
  codeAny (model Pr w) A (.call (.builtin "bytes.__new__") ⟨[.type "bytes",.ref a],[]⟩) (wants Q E) s:=by
 have hT:s.TypeIs (.ref a) "bytearray":=⟨_,ho,rfl⟩
 refine codeAny_of_tree ?_
 show wpAny _ A.in1 (do checkBuiltinCall "bytes.__new__" ⟨[.type "bytes",.ref a],[]⟩;again (.builtin "bytes.__new__" ⟨[.type "bytes",.ref a],[]⟩)) _ _ s
 refine wpAny_bind (wpAny_of_eq (F.bm_newCall _) (wpAny_pure ⟨plainId_quiet F.bm_plain _,codeAny_builtin F.bm_entry ?_⟩))
 rw[Around.under_plainId F.bm_plain _]
 unfold Builtin.«bytes.__new__»
 refine wpAny_bind (wpAny_of_eq (a:=true) rfl ?_)
 refine bm_if_false rfl ?_
 refine wpAny_bind (wpAny_of_eq F.bm_sub ?_)
 refine bm_if_false rfl ?_
 refine wpAny_bind (wpAny_of_eq (F.bm_bind _) ?_)
 refine wpAny_bind (wpAny_of_eq (a:=()) rfl ?_)
 refine wpAny_bind (wpAny_of_eq (a:=()) rfl ?_)
 refine bm_if_false rfl ?_
 refine wpAny_bind (wpAny_specialOf hT J9 ?_)
 refine wpAny_bind (wpAny_bind ?_)
 show wpAny _ _ (load a >>= _) _ _ _
 refine wpAny_bind (wpAny_load ho ?_)
 refine wpAny_pure (wpAny_pure ?_)
 refine bm_if_false rfl ?_
 refine wpAny_bind (wpAny_specialOf hT J7 ?_)
 refine bm_if_true rfl ?_
 show wpAny _ _ (Builtin.Bytes.buffer? "bytes.__new__" (.ref a) true >>= _) _ _ _
 refine wpAny_bind (yj ho ?_)
 refine wpAny_bind (wpAny_rule (wpAny_bind (wpAny_mkBytes ?_ hz)))
 refine bm_if_true (by decide) ?_
 exact wpAny_pure h
theorem uc{l:List Nat}(h:Q (.bytes l) σ):CL w fx (.typ "bytes") [.bytes l] m σ Q X:=CL.qF λvf v hf hv s H=>by
 cases hf using Rv.lg;cases hv using Rv.gH
 rename_i b t hb
 refine .of (callType_codes (Q₁:=λobj s₁=>obj=.bytes b t∧s₁=s) F.bm_called (F.bm_typeCall _) F.entry_object_init (su ⟨rfl,rfl⟩) λobj s₁=>uA λe1 e2=>?_)
 subst e1 e2
 exact⟨typeIs_bytes _ _ _,F.args_object_init_2 _ _,object_init_meets F.bm_called.init.lookup F.bm_called.made (by decide) _ _ _ _ _ ⟨typeIs_bytes _ _ _,rfl,⟨m,σ,H,rfl,_,.bytes b t l hb,h⟩⟩⟩
theorem Bh{a:Addr}{l:List Nat}(hl:Has w fx σ a (.bytearray l))(hz:l.length≤1000000)(h:Q (.bytes l) σ):CL w fx (.typ "bytes") [.ref a] m σ Q X:=CL.qF λvf v hf hv s H=>by
 cases hf using Rv.lg;cases hv using Rv.bJ
 refine aD (λo ho ha=>?_) (H.has hl)
 refine Ft (λc1 c2 b vJ hb=>?_) (ha.ba);subst vJ
 refine .of (callType_codes (Q₁:=λobj s₁=>obj=.bytes b s.toks∧s₁={ s with toks:=s.toks+1 }) F.bm_called (F.bm_typeCall _) F.entry_object_init (yd ho (by
  have:b.size=l.length:=by rw[←hb];simp
  rw[sizeLine_eq];exact L2 [] [_,_] 1099511628981 8321 65536001221 12471 rfl hz this) ⟨rfl,rfl⟩) λobj s₁=>uA λe1 e2=>?_)
 subst e1 e2
 exact⟨typeIs_bytes _ _ _,F.args_object_init_2 _ _,object_init_meets F.bm_called.init.lookup F.bm_called.made (by decide) _ _ _ _ _ ⟨typeIs_bytes _ _ _,rfl,⟨m,σ,H.toks,rfl,_,.bytes b _ l hb,h⟩⟩⟩
theorem intsAre_of{ns:List Int}{vs:List Value}(h:bF (ns.map .int) vs):IntsAre vs ns:=by
 induction ns generalizing vs with
 | nil=>cases h;exact .nil
 | cons n ns ih=>cases h with|cons h1 h2=>cases h1 using Rv.aR;exact .cons _ _ (ih h2)
theorem wV{a:Addr}{ns:List Int}(ok:aC w n fx)(hl:Has w fx σ a (.list (ns.map .int)))(hr:∀ n∈ns,0≤n∧n<256)(hz:ns.length≤1000000)(h:Q (.bytes (ns.map Int.toNat)) σ):CL w fx (.typ "bytes") [.ref a] m σ Q X:=CL.qF λvf v hf hv s H=>by
 cases hf using Rv.lg;cases hv using Rv.bJ
 refine aD (λo ho ha=>?_) (H.has hl)
 refine aD (λvs hvs hL=>?_) (dh ho ha)
 refine .of (call_bytes_ints hL (intsAre_of hvs) hr (by rw[hvs.length,List.length_map,sizeLine_eq];exact L1 [] [_] 1099511628981 129 65536001205 rfl hz) ok.hand λh' t k kp=>⟨m,σ,H.keeps kp,rfl,_,.bytes _ t _ ?_,h⟩)
 unfold byteArr
 rw[List.toList_toArray,List.map_map]
 refine List.map_congr_left λn hn=>?_
 have:=hr n hn
 show n.toNat%256=n.toNat
 exact YG this
end
section
variable{w:World}{A:Around}{E:Value→Shared→Prop}{s:Shared}{R:Result→Shared→Prop}
theorem RV{b:Bool}(h:R (.ok (.ret (.ref s.heap.objs.size))) { s with heap:=s.heap.push { cls:=.type "bytearray",data:=.bytearray #[] 0 } }) :
  bV b (model Pr w) A (.call (.builtin "bytearray.__new__") ⟨[.type "bytearray"],[]⟩) R s:=by
 refine .of (codeAny_of_tree ?_)
 show wpAny _ A.in1 (do checkBuiltinCall "bytearray.__new__" ⟨[.type "bytearray"],[]⟩;again (.builtin "bytearray.__new__" ⟨[.type "bytearray"],[]⟩)) _ _ s
 refine wpAny_bind (wpAny_of_eq EY (wpAny_pure ⟨plainId_quiet pB _,codeAny_builtin_stack yh rfl λp st=>?_⟩))
 rw[Around.under_plainId pB _]
 have hsub:=mK
 have hown:("bytearray.__new__".splitOn ".__new__").headD ""="bytearray":=by rw[split_bytearray];rfl
 obtain⟨hp,g,d,tk,os⟩:=s
 simp only[hown]
 wp_walk
 exact h
theorem Oq{a:Addr}{l:Array UInt8}(hg:A.guards=some [])(ho:s.heap.get? a=some { cls:=.type "bytearray",data:=.bytearray l 0 })
  (h:∀ h',h'.get? a=some { cls:=.type "bytearray",data:=.bytearray #[] 0 }→(∀ b,b≠a→h'.get? b=s.heap.get? b)→R (.ok (.ret .none)) { s with heap:=h' }) :
  bV true (model Pr w) A (.call (.builtin "bytearray.__init__") ⟨[.ref a],[]⟩) R s:=by
 have hT:s.TypeIs (.ref a) "bytearray":=⟨_,ho,rfl⟩
 refine gA (by decide) pA hT xr (yp _) ?_
 unfold Builtin.«bytearray.__init__»
 refine ak (.of (mZ hT ?_))
 rw[if_neg (by decide)]
 refine ak (.of (wpAny_of_eq (a:=[none,none,none]) (by kernel_rfl) ?_))
 dsimp only
 refine ak (.of (wpAny_of_eq (a:=()) rfl ?_))
 refine ak (.of (wpAny_of_eq (a:=()) rfl ?_))
 refine ak ?_
 unfold orM
 refine ak (rm (A:=A.in1) hg ?_)
 show bH true (model Pr w) A.in1 (Builtin.Bytes.exportsOf (.ref a) >>= λn=>(pure (decide (n>0)):Sem Bool)) _ _ s
 refine ak (.of (pD ho rfl (aJ ?_)))
 rw[if_neg (by decide)]
 refine ak (.of (sG ho rfl rfl (by simp[sizeLine_eq]) λh' e1 e2=>?_))
 refine ak (aJ ?_)
 exact aJ (h h' e1 e2)
theorem jP{b:Bool}{id:String}{args:Args}{B:Builtin}(hnd:Builtin.Bytes.decodersThatHold.contains id=false)(hb:entryFor table id=some B)
  (h:bH b (model Pr w) (A.under (.builtin id args)) (B args) (λfin s'=>match fin with|.done f=>R (.ok f) s'|.again c'=>c'.quiet=true∧bV b (model Pr w) A c' R s') (λe s'=>R (.error e) s') s):bV b (model Pr w) A (.builtin id args) R s:=by
 refine bG hnd ?_
 show bH b _ _ (match entryFor table id with|some b=>b args|none=>unsupported ((withoutEnding? id "#data").getD id)) _ _ s
 rw[hb];exact h
noncomputable def oF(cls obj:Value)(rest:List Value):Sem PySem.Fin:=do
  if !(←isInstance obj cls) then PySem.rule "type.call.new-gave-other-type";return ←ret obj
  match ←PySem.holding [obj] (callSpecial? obj "__init__" rest []) with
  | none=>ret obj
  | some r=>
    if r != .none then
      PySem.rule "type.call.init-returned-value"
      raiseError "TypeError" s!"__init__() should return None, not '{← typeNameOf r}'"
    ret obj
theorem Oo {b:Bool}(hb:b=true)(hg:A.guards=some [])(h:∀ h',h'.get? s.heap.objs.size=some { cls:=.type "bytearray",data:=.bytearray #[] 0 }→(∀ b o,s.heap.get? b=some o→h'.get? b=some o)→R (.ok (.ret (.ref s.heap.objs.size))) { s with heap:=h' }) :
    bV true (model Pr w) A (.call (.type "bytearray") ⟨[],[]⟩) R s:=by
  have ft:=HN
  refine Pu (λc tl hmro=>?_) (ft.mro)
  have hmade:=ft.made
  have hsub:=ft.sub
  refine bG rfl ?_
  show bH true _ _ (callAny (.type "bytearray") _) _ _ _
  refine aJ ⟨Code.quiet_builtin _ (by decide +kernel),jP (by decide) F.entry_type_call ?_⟩
  rw[Around.under_plain (weight_type_call_type "bytearray" [] []) rfl]
  have e:Builtin.«type.__call__» ⟨[.type "bytearray"],[]⟩=(do
      checkTypeCall "bytearray" ⟨[],[]⟩
      if(←mroOf (.type "bytearray")).isEmpty then PySem.rule "type.call.half-made";raiseError "TypeError" s!"cannot create '{← typeName (.type "bytearray")}' instances"
      let new ←match ←Bind.madeBy (.type "bytearray") with
        | some id=>pure (.builtin id)
        | none=>getAttr (.type "bytearray") "__new__"
      let obj ←PySem.holding [new] (call new [.type "bytearray"] [])
      oF (.type "bytearray") obj []):=by
    have h2:=ft.canCreate
    unfold Builtin.«type.__call__»
    show(if(Value.type "bytearray"== Value.type "type")=true then _ else _)=_
    rw[if_neg (by decide)]
    show(if((Manifest.find? "bytearray").bind (·.mro.findSome? λt=>(Manifest.find? t).bind λb=>if b.noNew then some true else if b.attrs.any (·.1 =="__new__") then some false else none)).getD false=true then _ else _)=_
    rw[h2,if_neg (by decide)]
    rfl
  rw[e]
  refine ak (.of (wpAny_of_eq Bq ?_))
  refine ak (.of (wpAny_of_eq hmro ?_))
  rw[if_neg (by rw[List.isEmpty_cons];decide)]
  refine ak (.of (wpAny_of_eq hmade ?_))
  refine ak (aJ ?_)
  refine ak (cG (dF (RV ?_)))
  dsimp only
  unfold oF
  have hT1:({ s with heap:=s.heap.push { cls:=.type "bytearray",data:=.bytearray #[] 0 } }:Shared).TypeIs (.ref s.heap.objs.size) "bytearray":=⟨_,Heap.get?_push_size _ rfl,rfl⟩
  refine ak (.of (wpAny_isInstance hT1 hsub ?_))
  rw[if_neg (by decide)]
  refine ak (cG ?_)
  unfold callSpecial?
  refine ak (.of (wpAny_specialOf hT1 ft.init.lookup ?_))
  dsimp only
  refine cG (ak (.of (wpAny_of_eq (ft.init.bind _) ?_)))
  refine ak (dF (dK (Oq (A:=A.in1) (l:=#[]) hg (Heap.get?_push_size _ rfl) λh' e1 e2=>?_) λr s' hr=>hr))
  refine aJ (aJ ?_)
  exact h h' e1 λb o eq=>(e2 b (Nat.ne_of_lt (Heap.lt_size eq))).trans (Heap.get?_push_of_some _ eq)
end
section
variable{w:World}{fx:Fx}{m m':au}{σ σ':Led}{X:Value→Prop}{n n':Nat}{x y:Int}{Q:AV→Led→Prop}
theorem xX(ok:aC w n fx)(hcl:fx.cl=true)(h:∀ a,Q (.ref a) ((a,.bytearray [])::σ)):CL w fx (.typ "bytearray") [] m σ Q X:=λvf vs hf hv s H=>by
 cases hf using Rv.lg;cases hv using bF.jX
 have hg:=ok.gd hcl
 rw[hcl]
 refine dF (Oo rfl hg λh' e1 kp=>?_)
 exact⟨m,_,H.new (k:=s.toks) kp (Heap.get?_none_of_le (nR _)) e1 (.bytearray (l:=[]) (b:=#[]) rfl rfl),rfl,_,.ref _,h _⟩
end
section
variable{w:World}{A:Around}{E:Value→Shared→Prop}{s:Shared}{R:Result→Shared→Prop}
theorem Qw {b:Bool}{C:Addr}{rest:List Value}{init:Value}(Y:Makes (model Pr w) s.heap C)(hi:Looks (model Pr w) s.heap (typeLookup (.ref C) "__init__") (some init))
    (hb:∀ self,Looks (model Pr w) s.heap (bindSpecial init self) (init,[self]))(hne:(some init != some (Value.builtin "object.__init__"))=true∨(rest=[]∧([]:List (Str×Value))=[]))
    (hq:bV b (model Pr w) (A.under (.builtin "type.__call__" ⟨.ref C::rest,[]⟩)) (.call init ⟨.ref (s.heap.objs.size+1)::rest,[]⟩) (InitBack (s.heap.objs.size+1) R) { s with heap:=(s.heap.push emptyDict).push (instObj C s.heap.objs.size) }) :
    bV b (model Pr w) A (.call (.ref C) ⟨rest,[]⟩) R s:=by
  have Y':=Y
  obtain⟨⟨oc,od,cd,sl,hC,e1,e2,e4⟩,made,base,self,top,call,typ⟩:=Y
  refine bG rfl ?_
  show bH b _ _ (callAny (.ref C) _) _ _ _
  simp only[callAny]
  refine ak (.of (wpAny_load hC ?_))
  show bH b _ _ (callAny.viaDunder (.ref C) _) _ _ _
  unfold callAny.viaDunder
  refine ak (.of (call.here ?_))
  dsimp only
  rw[tc_bind]
  refine ak (aJ ?_)
  refine aJ (a:=PySem.Fin.again (.call (.builtin "type.__call__") ⟨.ref C::rest,[]⟩)) (And.intro rfl ?_)
  refine bG rfl ?_
  show bH b _ _ (do checkBuiltinCall "type.__call__" ⟨.ref C::rest,[]⟩;again (.builtin "type.__call__" ⟨.ref C::rest,[]⟩)) _ _ s
  refine ak (.of (check_slot tc_kind tc_split typ (tc_args _ _ _) (aJ ⟨Code.quiet_builtin _ (by decide +kernel),jP (by decide) entry_typeCall ?_⟩)))
  have e:Builtin.«type.__call__» ⟨.ref C::rest,[]⟩=(do
      if(←mroOf (.ref C)).isEmpty then PySem.rule "type.call.half-made";raiseError "TypeError" s!"cannot create '{← typeName (.ref C)}' instances"
      let new ←match ←Bind.madeBy (.ref C) with
        | some id=>pure (.builtin id)
        | none=>getAttr (.ref C) "__new__"
      let obj ←PySem.holding [new] (PySem.call new (.ref C::rest) [])
      oF (.ref C) obj rest):=by
    unfold Builtin.«type.__call__»
    show(if(Value.ref C == Value.type "type")=true then _ else _)=_
    rw[if_neg (by simp)]
    rfl
  rw[e]
  have hm:Looks (model Pr w) s.heap (mroOf (.ref C)) cd.mro:=((Looks.ld (part:=none) hC).andThen .now).andThen .now
  refine ak (.of (hm.here ?_))
  rw[if_neg (by rw[e4];decide)]
  refine ak (.of (made.here ?_))
  refine ak (aJ ?_)
  obtain⟨hh,g,d,t,os⟩:=s
  refine ak (cG (dF (.of (new_K Y' hi hne ?_))))
  dsimp only
  have k:∀ b o,hh.get? b=some o→((hh.push emptyDict).push (instObj C hh.objs.size)).get? b=some o:=λb o e=>Heap.get?_push_of_some _ (Heap.get?_push_of_some _ e)
  have hx:((hh.push emptyDict).push (instObj C hh.objs.size)).get? (hh.objs.size+1)=some (instObj C hh.objs.size):=by heap_get
  have t1:Looks (model Pr w) ((hh.push emptyDict).push (instObj C hh.objs.size)) (typeOf (.ref (hh.objs.size+1))) (.ref C):=(Looks.ld hx).andThen .now
  have s1:=self.keeps k
  have i1:=hi.keeps k
  have b1:=(hb (.ref (hh.objs.size+1))).keeps k
  unfold oF
  refine ak (.of ?_)
  unfold isInstance
  refine wpAny_bind (t1.at (s1.at ?_))
  rw[if_neg (by decide)]
  refine ak (cG ?_)
  unfold callSpecial?
  have sp:Looks (model Pr w) ((hh.push emptyDict).push (instObj C hh.objs.size)) (specialOf (.ref (hh.objs.size+1)) "__init__") (some init):=t1.andThen i1
  refine ak (.of (sp.at ?_))
  refine cG (ak (.of (b1.at ?_)))
  refine ak (dF (dK hq λr s' z=>?_))
  rcases r with e|(v|_|_|_)<;>first|exact z|exact z.elim|skip
  obtain⟨rfl,z⟩:=z
  exact aJ (aJ z)
end
section
variable{w:World}{fx:Fx}{m m':au}{σ σ':Led}{X:Value→Prop}{n n':Nat}{x y:Int}{Q:AV→Led→Prop}
theorem wg(A:Around)(C:Addr)(rest:List Value):(A.under (.builtin "type.__call__" ⟨.ref C::rest,[]⟩)).guards=A.guards:=by
 have:(Code.builtin "type.__call__" ⟨.ref C::rest,[]⟩).guards=[]:=by
  have h:guardIds.contains "type.__call__"= false:=by decide
  unfold Code.guards
  rw[if_neg (by show ¬ guardIds.contains "type.__call__"= true;rw[h];decide)]
 show pushGuards (Code.guards (Code.builtin "type.__call__" ⟨.ref C::rest,[]⟩)) A.guards=_
 rw[this];rfl
theorem N8{C fI:Addr}{as:List AV}{μ ρ:Led}(ok:aC w (n'+1) fx)(hs:lK σ μ ρ)(hk:O6 w C fI)
    (h:∀ base' x d,Reads w fx ρ base'→FN w fx.cl n' fI base' (.ref x::as) ((x,.inst C d)::(d,.ns [])::μ) (λa μ'=>a=.none∧Q (.ref x) (μ'++ρ)) X):CL w fx (.ref C) as m σ Q X:=λvf vs hf ha=>by
  cases hf using Rv.bJ
  refine WP.perm hs.perm λs H=>?_
  have hX:=H.lD ok
  refine dF (Qw (makes_of hX hk.1) (looks_findIn hX hk.2.1) (λself=>bind_fn hX self hk.2.2) (.inl rfl) ?_)
  have H1:=H.push (k:=s.toks) (o:=emptyDict) (ao:=.ns []) (.ns (fs:=[]) (es:=[]) (n:=0) .nil List.nodup_nil)
  have H2:=H1.push (k:=s.toks) (o:=instObj C s.heap.objs.size) (ao:=.inst C s.heap.objs.size) .inst
  have e:(s.heap.push emptyDict).objs.size=s.heap.objs.size+1:=Heap.size_push _ _
  have H3:Holds w fx m (((s.heap.objs.size+1,.inst C s.heap.objs.size)::(s.heap.objs.size,.ns [])::μ)++ρ) { s with heap:=(s.heap.push emptyDict).push (instObj C s.heap.objs.size) }:=by
    have:=H2
    simp only[e] at this
    exact this
  have hA:(fx.A.under (.builtin "type.__call__" ⟨.ref C::vs,[]⟩)).frames=some fx.frs:=by
    show pushEnvs [] fx.A.frames=_
    exact ok.own
  have Mw:oE (fx.A.under (.builtin "type.__call__" ⟨.ref C::vs,[]⟩)) n':=by
    have:=ok.Bm
    unfold oE at this⊢
    show fx.A.depth+1+4*n'<900∧fx.A.units+(1+3*0)+32*n'<9000
    exact id (⟨L1 [] [_,_] 259412691045313087526 129 259411912711624535078 rfl this.1,L1 [] [_,_] 2594078768660503791654 129 2594077959540607101990 rfl this.2⟩)
  refine dK (H3.code (Q:=λa σ'=>a=.none∧Q (.ref (s.heap.objs.size+1)) σ') (X:=X) ok hA (by show fx.A.handled=_;exact ok.hand) (λq=>by rw[wg];exact ok.gd q) Mw λbase' k1 k2=>h base' _ _ ⟨k1,k2⟩ _ (.cons (.ref _) ha)) λr s' hr=>?_
  match r,hr with
  | .error e,hr=>exact hr
  | .ok (.ret v),⟨σ',H',a,hv,ea,q⟩=>
    subst ea
    cases hv using Rv.noneE
    exact⟨rfl,m,σ',H',rfl,_,.ref _,q⟩
end
theorem mz{c:Prop} [Decidable c] {X Y:Prop} (hc:¬ c) (h:Y):if c then X else Y:=by rw[if_neg hc];exact h
section
variable{w:World}{fx:Fx}{m m':au}{σ σ':Led}{X:Value→Prop}{n n':Nat}{x y:Int}{Q:AV→Led→Prop}{QB:Bool→Led→Prop}{l k:List Nat}
theorem zE{b:Array UInt8}(h:b.toList.map UInt8.toNat=l):KBw.bInts b=l.map λ(n:Nat)=>(n:Int):=by
 unfold KBw.bInts;rw[←h,List.map_map];rfl
theorem size_of{b:Array UInt8}(h:b.toList.map UInt8.toNat=l):b.size=l.length:=by rw[←h];simp
theorem ofInts {b:Array UInt8}{ks:List Nat}(h:KBw.bInts b=ks.map λ(n:Nat)=>(n:Int)):b.toList.map UInt8.toNat=ks:=by
  have e:(b.toList.map UInt8.toNat).map (λ(n:Nat)=>(n:Int))=ks.map λ(n:Nat)=>(n:Int):=by
    rw[List.map_map];exact h
  have inj:∀ {a c:List Nat},a.map (λ(n:Nat)=>(n:Int))=c.map (λ(n:Nat)=>(n:Int))→a=c:=by
    intro a
    induction a with
    | nil=>intro c h;cases c with|nil=>rfl|cons=>cases h
    | cons x a ih=>intro c h;cases c with
      | nil=>cases h
      | cons y c=>
        simp only[List.map_cons,List.cons.injEq] at h
        rw[Int.ofNat.inj h.1,ih h.2]
  exact inj e
theorem xW(hz:l.length≤1000000)(h:Q (.int l.length) σ):CL w fx (.bi "len") [.bytes l] m σ Q X:=CL.qF λvf v hf hv s H=>by
 cases hf using Rv.qb;cases hv using Rv.gH
 rename_i b t hb
 refine .of (len_bytes (by rw[size_of hb];exact L1 [] [_] 72057594037929141 129 65536001205 rfl hz) ?_)
 rw[size_of hb]
 exact⟨m,σ,H.toks,rfl,_,.int _ _,h⟩
theorem Jz{value slice:Expr}(hs:cZ slice)(hz:l.length≤1000000)(h0:0≤x)(h1:x<l.length)(h:Q (.int ((l.getD x.toNat 0:Nat):Int)) σ):GI w fx value slice (.bytes l) (.int x) m σ Q X:=λvo vi ho hi s H=>by
 cases ho using Rv.gH;cases hi using Rv.aR
 rename_i b tb hb t
 have e:=zE hb
 refine .of (tail_any (typeIs_bytes _ _ _) FB.slot_bytes_getitem.lookup ?_ (hs _ _))
 have eb:b.toList.toArray=b:=Array.toArray_toList
 rw[←eb]
 refine getItem_bytes (l:=b.toList) (by have:=size_of hb;simp at this⊢;exact L2 [] [_,_] 72057594037929141 8321 65536001221 12471 rfl hz this) h0 (by have:=size_of hb;simp at this⊢;exact L2 [_] [_,_] 728241 4225 793777 12471 rfl h1 this) ?_
 have:((b.toList.getD x.toNat 0).toNat:Nat)=l.getD x.toNat 0:=by
  rw[←hb,gD,gD,List.getElem?_map]
  cases b.toList[x.toNat]?<;>rfl
 rw[this]
 exact⟨m,σ,H.toks,rfl,_,.int _ _,h⟩
theorem GR{value slice:Expr}(hs:cZ slice)(hz:l.length≤1000000)(h0 : -(l.length:Int)≤x)(h1:x<0)(h:Q (.int ((l.getD (x+l.length).toNat 0:Nat):Int)) σ):GI w fx value slice (.bytes l) (.int x) m σ Q X:=λvo vi ho hi s H=>by
 cases ho using Rv.gH;cases hi using Rv.aR
 rename_i b tb hb t
 have hsz:=size_of hb
 refine .of (tail_any (typeIs_bytes _ _ _) FB.slot_bytes_getitem.lookup ?_ (hs _ _))
 refine getItem_gives (typeIs_bytes s _ _) (by decide) FB.slot_bytes_getitem FB.entry_bytes_getitem (FB.args_bytes_getitem_2 _ _) (gives_bytes_getitem _ x _ _ (b.toList.getD (x+b.size).toNat 0) ?_ ?_) ?_
 ·simp only[Builtin.Bytes.fitsIndex,Bool.and_eq_true,decide_eq_true_eq];exact⟨L2 [_] [_] 13902646925568235509122112 8321 65536001205 46865472 rfl hz h0,L1 [_] [] 604462909807314587354289 129 177 rfl h1⟩
 ·have e:seqIndex? x b.size=some (x+b.size).toNat:=by
   have h2:0≤x+(b.size:Int):=L2 [_] [_,_] 190903877632 4225 46931008 12471 rfl h0 hsz
   have h3:x+(b.size:Int)<b.size:=L1 [_] [_] 190904216609 129 177 rfl h1
   simp[seqIndex?,h1,h2,h3]
  have hl:(x+b.size).toNat<b.size:=by exact YF h0 h1 hsz
  rw[e];simp[hl]
 ·have:((b.toList.getD (x+b.size).toNat 0).toNat:Nat)=l.getD (x+l.length).toNat 0:=by
   rw[hsz,←hb,gD,gD,List.getElem?_map,hb]
   cases b.toList[(x + ↑l.length).toNat]?<;>rfl
  rw[this]
  exact⟨m,σ,H.toks,rfl,_,.int _ _,h⟩
theorem tY{value slice:Expr}{S:Addr}{lo hi:Option Int}(hS:Has w fx σ S (.slice lo hi none))(hz:l.length≤1000000)
    (h:Q (.bytes ((l.drop (lo.elim 0 (clipAt l.length))).take (hi.elim l.length (clipAt l.length)-lo.elim 0 (clipAt l.length)))) σ):GI w fx value slice (.bytes l) (.ref S) m σ Q X:=λvo vi ho hi' s H=>by
  cases ho using Rv.gH;cases hi' using Rv.bJ
  rename_i b tb hb
  refine aD (λos hos has=>?_) (H.has hS)
  cases has using At.zU with
  | mk p1 p2 p3=>
    cases p3
    refine uE (λops Dt=>?_) (zQ slice (.bytes b tb) (.ref S))
    refine .of (tail_any (typeIs_bytes _ _ _) FB.slot_bytes_getitem.lookup (getItem_meets (typeIs_bytes _ _ _) (by decide) FB.slot_bytes_getitem FB.entry_bytes_getitem (FB.args_bytes_getitem_2 _ _) (KBc.meets_slice2 b tb S p1 p2)
      ⟨⟨_,hos,rfl,rfl⟩,Nat.le_trans (KBc.size_picked_le b lo hi) (by rw[size_of hb,sizeLine_eq];exact L1 [] [_] 1099511628981 129 65536001205 rfl hz),λt' k'=>?_⟩) Dt)
    refine⟨m,σ,H.toks,rfl,_,.bytes _ _ _ (ofInts ?_),h⟩
    rw[KBc.ints_picked (zE hb)]
    simp only[List.length_map,List.map_take,List.map_drop]
theorem z6(hz:l.length+k.length≤1000000)(h:Q (.bytes (l++k)) σ):O2 w fx .Add (.bytes l) (.bytes k) m σ Q X:=λva vb ha hb s H=>by
 cases ha using Rv.gH;cases hb using Rv.gH
 rename_i b t hb c u hc
 refine .of (KBy.add_bytes (by rw[size_of hb,size_of hc];exact L1 [] [_,_] 4503599632362533 129 268435460992037 rfl hz) λt' k'=>⟨m,σ,H.toks,rfl,_,.bytes _ _ _ ?_,h⟩)
 rw[Array.toList_append,List.map_append,hb,hc]
theorem HJ {b c:Array UInt8}(hb:b.toList.map UInt8.toNat=l)(hc:c.toList.map UInt8.toNat=k):(b.toList == c.toList)=(l == k):=by
  have inj:∀ {a d:List UInt8},a.map UInt8.toNat=d.map UInt8.toNat→a=d:=by
    intro a
    induction a with
    | nil=>intro d h;cases d with|nil=>rfl|cons=>cases h
    | cons x a ih=>intro d h;cases d with
      | nil=>cases h
      | cons y d=>
        simp only[List.map_cons,List.cons.injEq] at h
        rw[UInt8.toNat.inj h.1,ih h.2]
  subst hb hc
  by_cases q:b.toList=c.toList
  · rw[q];simp
  · have:b.toList.map UInt8.toNat≠c.toList.map UInt8.toNat:=λz=>q (inj z)
    rw[beq_eq_false_iff_ne.mpr q,beq_eq_false_iff_ne.mpr this]
theorem Et(ok:aC w n fx)(h:QB (l != k) σ):C2 w fx .NotEq (.bytes l) (.bytes k) m σ QB X:=C2.of ok (λva vb ha hb=>by
 cases ha using Rv.gH;cases hb using Rv.gH
 rename_i b t hb c u hc
 exact λA E s Q' _ kk=>ne_bytes (kk _ _ _ (aH _) (by
  have e:(b.toList != c.toList)=(l != k):=by show(!(b.toList == c.toList))=(!(l == k));rw[HJ hb hc]
  rw[e];exact .bool _))) h
theorem uZ(n:Nat):sliceRange ((n:Int)-1) (-1) (-1)=(List.range n).map λk=>n-1-k:=by
 unfold sliceRange
 rw[if_neg (by decide)]
 by_cases h:((n:Int)-1) > -1
 ·rw[if_pos h]
  have e:(((n:Int)-1 - -1 - -1-1)/(- -1)).toNat=n:=by
   rw[show(- -1:Int)=1 by decide,Int.ediv_one];exact YD
  dsimp only
  rw[e]
  refine List.map_congr_left λk hk=>?_
  have:=List.mem_range.mp hk
  exact YC
 ·rw[if_neg h]
  have:n=0:=nA (L1 [] [_] 181 129 70559614435396 rfl h) (L0 [] [_] 720901 1 rfl)
  subst this;rfl
theorem j6{α β:Type}{f g:α→Option β}:∀ {l:List α},(∀ a∈l,f a=g a)→l.filterMap f=l.filterMap g
  | [],_=>rfl
  | a::l,h=>by
    rw[List.filterMap_cons,List.filterMap_cons,h a (.head _),j6 λb hb=>h b (.tail _ hb)]
theorem yE{α:Type}(xs:Array α):((List.range xs.size).map λk=>xs.size-1-k).filterMap (xs[·]?)=xs.toList.reverse:=by
 rw[List.filterMap_map]
 have e:(List.range xs.size).filterMap ((λi=>xs[i]?) ∘ λk=>xs.size-1-k)=(List.range xs.size).filterMap λi=>xs.toList.reverse.toArray[i]?:=by
  refine j6 λk hk=>?_
  have hk:=List.mem_range.mp hk
  show xs[xs.size-1-k]?=_
  have hk':k<xs.toList.length:=by rw[Array.length_toList];exact hk
  show xs[xs.size-1-k]?=xs.toList.reverse.toArray[k]?
  rw[←Array.getElem?_toList,←Array.getElem?_toList,List.toList_toArray,List.getElem?_reverse hk',Array.length_toList]
 rw[e]
 have:=pick_run xs.toList.reverse.toArray 0 xs.size
 simp only[Nat.zero_add,List.map_id',List.drop_zero] at this
 rw[this,List.take_of_length_le (by simp)]
theorem rK(b:Array UInt8)(t u:Tok)(a:Addr) :
  Meets (Builtin.«bytes.__getitem__» ⟨[.bytes b t,.ref a],[]⟩) (λ_ R s=>s.heap.IsSliceOf a .none .none (.int (-1) u)∧b.size≤sizeLine∧∀ t' k,R (.ok (.ret (.bytes b.toList.reverse.toArray t'))) { s with toks:=k }):=by
 refine .of_wp λprog w A R s hS=>?_
 refine gJ (λgP hsz h=>?_) hS;refine sU (λo ho hc hd=>?_) gP
 have hT:s.TypeIs (.ref a) "slice":=⟨o,ho,hc⟩
 show wpAny _ _ (Builtin.Bytes.payload (.bytes b t) >>= λr=>_) _ _ s
 refine wpAny_bind (wpAny_of_eq (a:=b) rfl ?_)
 show wpAny _ _ (Builtin.Bytes.subscript? (.ref a) >>= λr=>_) _ _ s
 refine wpAny_bind ?_
 unfold Builtin.Bytes.subscript?
 refine wpAny_bind (wpAny_specialOf hT slice_no_index (wpAny_pure ?_))
 refine wpAny_bind (wpAny_typeOf hT ?_)
 show wpAny _ _ (Builtin.Bytes.sliceParts (.ref a) >>= λr=>_) _ _ s
 refine wpAny_bind ?_
 unfold Builtin.Bytes.sliceParts
 refine wpAny_bind (wpAny_field (x:=.int (-1) u) ho hd rfl ?_)
 refine wpAny_bind (wpAny_ite (mz (show ¬((Value.int (-1) u == Value.none)=true) from Bool.false_ne_true) ?_))
 refine wpAny_bind (wpAny_specialOf (T:="int") (typeIs_int _ _ _) PySem.F.slot_int_index.lookup ?_)
 refine wpAny_ite (mz (show ¬(Option.isNone (some _)=true) from Bool.false_ne_true) ?_)
 refine wpAny_bind (wpAny_of_eq rfl (wpAny_pure ?_))
 refine wpAny_ite (mz (by decide) ?_)
 refine wpAny_bind (wpAny_field (x:=.none) ho hd rfl ?_)
 refine wpAny_bind (wpAny_of_eq (a:=Value.none) rfl ?_)
 refine wpAny_bind (wpAny_field (x:=.none) ho hd rfl ?_)
 refine wpAny_bind (wpAny_of_eq (a:=Value.none) rfl ?_)
 refine wpAny_pure ?_
 have go:wpAny (model prog w) A.in1 (sliceIndices (rawPart none) (rawPart none) (rawPart (some (-1))) b.size) (λr s'=>r=sliceBounds none none (some (-1)) b.size∧s'=s) (λ_ _=>False) s:=
  wpAny_of_eq (sliceIndices_raw none none (some (-1)) b.size (by decide)) ⟨rfl,rfl⟩
 refine wpAny_bind (wpAny_mono go (λr s' hr=>?_) λ_ _ e=>e.elim)
 refine uA (λhr1 hr2=>?_) hr
 subst hr1 hr2
 have hb:sliceBounds none none (some (-1)) b.size=((b.size:Int)-1,-1,-1):=rfl
 rw[hb]
 refine wpAny_ite (mz (by simp) ?_)
 have e:Builtin.Bytes.sliced b ((b.size:Int)-1) (-1) (-1)=b.toList.reverse.toArray:=by
  unfold Builtin.Bytes.sliced
  rw[uZ,yE]
 show wpAny _ _ (mkBytes (Builtin.Bytes.sliced b ((b.size:Int)-1) (-1) (-1)) >>= _) _ _ _
 rw[e]
 exact wpAny_bind (wpAny_mkBytes (wpAny_pure ⟨_,rfl,h _ _⟩) (by simpa using hsz))
theorem xT{value slice:Expr}{S:Addr}(hS:Has w fx σ S (.slice none none (some (-1))))(hz:l.length≤1000000)(h:Q (.bytes l.reverse) σ):GI w fx value slice (.bytes l) (.ref S) m σ Q X:=λvo vi ho hi' s H=>by
  cases ho using Rv.gH;cases hi' using Rv.bJ
  rename_i b tb hb
  refine aD (λos hos has=>?_) (H.has hS)
  cases has using At.zU with
  | mk p1 p2 p3=>
    cases p1;cases p2;cases p3
    rename_i u
    refine uE (λops Dt=>?_) (zQ slice (.bytes b tb) (.ref S))
    refine .of (tail_any (typeIs_bytes _ _ _) FB.slot_bytes_getitem.lookup (getItem_meets (typeIs_bytes _ _ _) (by decide) FB.slot_bytes_getitem FB.entry_bytes_getitem (FB.args_bytes_getitem_2 _ _) (rK b tb u S)
      ⟨⟨_,hos,rfl,rfl⟩,(by rw[size_of hb,sizeLine_eq];exact L1 [] [_] 1099511628981 129 65536001205 rfl hz),λt' k'=>?_⟩) Dt)
    refine⟨m,σ,H.toks,rfl,_,.bytes _ _ _ ?_,h⟩
    rw[List.toList_toArray,List.map_reverse,hb]
theorem Dr {t:Expr}(ht:cP t){I:Addr}:xH w t I l.length (λk=>[(I,.fM l k)]) (jh λk=>.int ((l.getD k 0:Nat):Int)) (λ_ _=>True):=by
  constructor
  · intro fx n ok k hk m σ X _ s H
    refine aD (λo ho ha=>?_) (H.mem (a:=I) (ao:=.fM l k) (.head _))
    cases ha using At.Bp with
    | mk hc hd hb=>
      rename_i b tb
      have hlt:k<b.toList.length:=by have:=size_of hb;simp at this⊢;exact L2 [] [_,_,_] 12470 4225 13494 13511 rfl hk this
      have hx:b[k]?=some b.toList[k]:=by rw[←Array.getElem?_toList,gE hlt]
      refine .of (KBw.next_item ⟨o,ho,hc,hd⟩ hx λh' hit hs=>?_)
      refine sU (λo' ho' hc' hd'=>?_) hit
      refine⟨m,_,qM (p:=(I,AO.raw default)) (k:=s.toks+1) H (λb hb=>hs.2 b hb) ho' (.fM hc' hd' hb),_,rfl,WP.congr (ht _ _) (WP.pure ⟨rfl,_,[],.int _ _,⟨?_,rfl⟩,rfl⟩)⟩
      have:(b.toList[k].toNat)=l.getD k 0:=by
        rw[←hb,gD,List.getElem?_map,gE hlt];rfl
      rw[this]
  · intro fx n ok m σ X _ s H
    refine aD (λo ho ha=>?_) (H.mem (a:=I) (ao:=.fM l l.length) (.head _))
    cases ha using At.Bp with
    | mk hc hd hb=>
      rename_i b tb
      refine .of (KBw.next_end ok.hand ⟨o,ho,hc,hd⟩ (by rw[←size_of hb];simp) λh' hs=>?_)
      exact⟨m,σ,H.lG (k:=s.toks) λb o hb e=>hs b o hb e,rfl,rfl,rfl⟩
  · intro fx n ok m σ X s H
    refine aD (λo ho ha=>?_) (H.mem (a:=I) (ao:=.fM l 0) (.head _))
    cases ha using At.Bp with
    | mk hc hd hb=>exact .of (KBw.pyIter_self ⟨o,ho,hc,hd⟩ ⟨m,_,H,rfl,rfl,rfl⟩)
  · intros;trivial
theorem Gd{t:Expr}{K:Addr→Nat→(Nat→Led)→(Nat→AV→Led→Prop)→(Fx→Led→Prop)→Led→Prop}(ht:cP t)
  (h:∀ I,K I l.length (λk=>[(I,.fM l k)]) (jh λk=>.int ((l.getD k 0:Nat):Int)) (λ_ _=>True) σ):PIT w fx (.bytes l) m σ t K X:=λva ha s H=>by
 cases ha using Rv.gH
 rename_i b tb hb
 refine .of (KBw.pyIter_bytes ⟨m,_,H.push (k:=s.toks) (.fM (l:=l) (i:=0) rfl rfl hb),rfl,_,_,_,_,_,_,rfl,rfl,Dr ht,h _⟩)
end
section
variable{w:World}{fx:Fx}{m m':au}{σ σ':Led}{X:Value→Prop}{n n':Nat}{x y:Int}{Q:AV→Led→Prop}{QB:Bool→Led→Prop}{N:au→Led→Prop}
noncomputable def iL(l:List Int):List AV:=l.map .int
theorem At.list'{xs o} (h:At w (.list xs) o):∃ vs c,bF xs vs∧o=listOf vs.toArray c:=by cases h using At.listE with|mk hv=>exact⟨_,_,hv,rfl⟩
theorem CG{a b:Addr}{xs ys:List AV}(ha:Has w fx σ a (.list xs))(hb:Has w fx σ b (.list ys))(hz:xs.length+ys.length≤1000000)(h:∀ r,Q (.ref r) ((r,.list (xs++ys))::σ)):O2 w fx .Add (.ref a) (.ref b) m σ Q X:=λva vb h1 h2 s H=>by
 cases h1 using Rv.bJ;cases h2 using Rv.bJ
 refine aD (λo ho ha=>?_) (H.has ha)
 refine bw (λvs c hv Cq=>?_) (ha.list');subst Cq
 refine aD (λo' ho' hb=>?_) (H.has hb)
 refine bw (λws c' hw Cr=>?_) (hb.list');subst Cr
 refine .of (P.add_list ho ho' ?_ (by rw[List.size_toArray,List.size_toArray,hv.length,hw.length,sizeLine_eq];exact L1 [] [_,_] 4503599632362533 129 268435460992037 rfl hz))
 refine⟨m,_,H.push (k:=s.toks) (.list (xs:=xs++ys) (vs:=vs++ws) (n:=0) (hv.append hw)) |>.eqv (by simp) rfl rfl,rfl,_,.ref _,h _⟩
theorem foldl_rep{v:Value}:∀ (k:Nat) (acc:Array Value),List.foldl (λx1 x2=>x1++x2) acc (List.replicate k #[v])=acc++(List.replicate k v).toArray
 | 0,acc=>by simp
 | k+1,acc=>by rw[List.replicate_succ,List.foldl_cons,foldl_rep k,List.replicate_succ];apply Array.toList_inj.mp;simp
theorem bF.rep{a v} (h:Rv a v):∀ k:Nat,bF (List.replicate k a) (List.replicate k v)
 | 0=>.nil
 | k+1=>.cons h (bF.rep h k)
theorem Cz{a:Addr}{v:AV}(ha:Has w fx σ a (.list [v]))(hz:x≤1000000)(hz2 : -1000000≤x)(h:∀ r,Q (.ref r) ((r,.list (List.replicate x.toNat v))::σ)):O2 w fx .Mult (.ref a) (.int x) m σ Q X:=λva vb h1 h2 s H=>by
  cases h1 using Rv.bJ;cases h2 using Rv.aR
  refine aD (λo ho ha=>?_) (H.has ha)
  refine bw (λvs c hv Cu=>?_) (ha.list');subst Cu
  cases hv using bF.cV with
  | mk h1 h2=>
    cases h2 using bF.jX
    rename_i u vv
    have H0:=H
    refine dO (λg M news H=>?_) H
    refine .of (mul_list H.F H.N ho (by exact L1 [_] [] 13902646925568235509122112 129 13298184015760986457769024 rfl hz2) (by exact L1 [_] [] 604462909807314587354289 129 65536001200 rfl hz) (by simp;exact L1 [_] [] 1099511628976 129 65536001200 rfl hz) λh' F' N'=>?_)
    have e:(List.foldl (λx1 x2=>x1++x2) #[] (List.replicate (if(#[vv]:Array Value).isEmpty=true then 0 else x.toNat) #[vv]))=(List.replicate x.toNat vv).toArray:=by
      rw[if_neg (by simp),foldl_rep];simp
    rw[show([vv].toArray:Array Value) = #[vv] from rfl,e] at N'
    have nT:s.heap.get? s.heap.objs.size=none:=Heap.get?_none_of_le (nR _)
    refine⟨m,(s.heap.objs.size,.list (List.replicate x.toNat v))::σ,⟨g,M,_,H.stays,H.keep,F',N',H.vars,.cons (.list (vs:=List.replicate x.toNat vv) (n:=0) (bF.rep h1 _)) H.led,?_,H.gens,H.os⟩,rfl,_,.ref _,h _⟩
    rw[List.cons_append,List.map_cons]
    refine List.nodup_cons.mpr ⟨λq=>?_,H.nd⟩
    rw[←H.led.keys] at q
    refine aD (λp hp e=>?_) (mM q)
    have:=(H.N p hp).1
    rw[e,nT] at this;exact nsA this
theorem xV{a:Addr}{xs:List AV}(ha:Has w fx σ a (.list xs))(hz:xs.length≤1000000)(h:∀ r,Q (.ref r) ((r,.list xs)::σ)):CL w fx (.typ "list") [.ref a] m σ Q X:=CL.qF λvf v hf hv s H=>by
 cases hf using Rv.lg;cases hv using Rv.bJ
 refine aD (λo ho ha=>?_) (H.has ha)
 refine bw (λvs c hv Cv=>?_) (ha.list');subst Cv
 refine .of (call_list_seq a (.inl rfl) ho rfl rfl (λh' c' kp hD=>?_) (by rw[List.size_toArray,hv.length,sizeLine_eq];exact L1 [] [_] 1099511628981 129 65536001205 rfl hz))
 exact⟨m,_,H.new (k:=s.toks) kp (Heap.get?_none_of_le (nR _)) hD (.list hv),rfl,_,.ref _,h _⟩
theorem Hs{a:Addr}{l:List Int}{x:Int}{j:Nat}(ha:Has w fx σ a (.list (iL l)))(hj:j<l.length)(hz:l.length≤1000000)(hit:l[j]?=some x)(hno:∀ i,i<j→l[i]?≠some x)(h:Q (.int j) σ):CL w fx (.bi "list.index") [.ref a,.int x] m σ Q X:=CL.of2 λvf v u hf hv hu s H=>by
 cases hf using Rv.qb;cases hv using Rv.bJ;cases hu using Rv.aR
 rename_i t
 obtain⟨o,ho,ha⟩:=H.has ha
 obtain⟨vs,c,hv,rfl⟩:=ha.list'
 have hI:=intsAre_of hv
 have hlen:vs.length=l.length:=hI.length
 have eI:∀ i (hi:i<vs.length),∃ t',vs[i]=.int (l[i]'(hlen▸hi)) t':=λi hi=>by
  obtain⟨n,t',e1,e2⟩:=IntsAre.at hI i vs[i] (gE hi)
  rw[gE (hlen▸hi)] at e2
  exact⟨t',by rw[e1,oI e2]⟩
 refine .of (call_meets F.slot_list_index ⟨_,ho,rfl⟩ F.entry_list_index (F.args_list_index_2 _ _) (MeetsSeq.list_index a vs.toArray c (.int x t) (λv=>match v with|.int i _=>i == x|_=>false) (λy hy=>?_) j (by rw[List.size_toArray,hlen];exact hj) (by exact L2 [] [_,_] 38685626227668133586480241 8321 12470 65536001221 rfl hj hz) ?_ λi hi hij=>?_) ⟨ho,?_⟩)
 ·obtain⟨i,hi,rfl⟩:=List.mem_iff_getElem.mp (by simpa using hy)
  obtain⟨t',e⟩:=eI i hi
  rw[e]
  exact MeetsSeq.EqGives.int _ x t' t
 ·have hj':j<vs.length:=L2 [] [_,_,_] 12470 4225 13494 13511 rfl hj hlen
  obtain⟨t',e⟩:=eI j hj'
  have:vs.toArray[j]'(by simpa using hj')=vs[j]:=by simp
  rw[this,e]
  rw[gE hj] at hit
  rw[oI hit];simp
 ·have hi':i<vs.length:=by simpa using hi
  obtain⟨t',e⟩:=eI i hi'
  have:vs.toArray[i]'hi=vs[i]:=by simp
  rw[this,e]
  have:=hno i hij
  rw[gE (by exact om9 hj hij)] at this
  exact beq_eq_false_iff_ne.mpr λq=>this (by rw[q])
 ·exact⟨m,σ,H.toks,rfl,_,.int _ _,h⟩
theorem Jx{l:Addr}{xs:List AV}{K:AV→List AV→Led→Prop}(hl:Has w fx σ l (.list xs))(h:K (.bi "list.index") [.ref l] σ):GM w fx (.ref l) "index" m σ K X:=λvo pl ho s H=>by
 cases ho using Rv.bJ
 refine aD (λo ho ha=>?_) (H.has hl)
 refine bw (λvs c hv K9=>?_) (ha.list');subst K9
 exact .of (getMethod_builtin (T:="list") ⟨_,ho,rfl⟩ F.plainAttrs_list F.slot_list_index F.type_list_index (λb hb=>by cases hb;exact⟨_,ho,rfl⟩) ⟨m,σ,H,rfl,_,_,.bi _,.cons (.ref l) .nil,h⟩)
theorem vX{vs:List Value}{l:List Int}(h:IntsAre vs l):∃ xs:List (Int×Tok),vs=xs.map (λp=>.int p.1 p.2)∧xs.map (·.1)=l:=by
 induction h with
 | nil=>exact⟨[],rfl,rfl⟩
 | cons n t h ih=>exact aD (λxs h1 h2=>⟨(n,t)::xs,congrArg (_ :: ·) h1,congrArg (_ :: ·) h2⟩) ih
theorem qy(f:Nat→Int)(l:List Int)(hf:∀ i,i<l.length→f i=l.getD i 0):∀ k,k≤l.length→preSum f k=(l.take k).sum
  | 0,_=>by simp[preSum]
  | k+1,hk=>by
    have hlt:k<l.length:=L1 [] [_,_] 12470 129 3225431077 rfl hk
    unfold preSum
    rw[qy f l hf k (by exact L1 [] [_,_] 12469 129 3225431077 rfl hk),hf k hlt,List.take_add_one,gE hlt,List.sum_append,gD,gE hlt]
    simp
theorem Rw{a:Addr}{l:List Int}(ok:aC w n fx)(ha:Has w fx σ a (.list (iL l)))(h:Q (.int l.sum) σ):CL w fx (.bi "sum") [.ref a] m σ Q X:=CL.qF λvf v hf hv s H=>by
 cases hf using Rv.qb;cases hv using Rv.bJ
 refine aD (λo ho ha=>?_) (H.has ha)
 refine bw (λvs c hv Gf=>?_) (ha.list');subst Gf
 refine aD (λxs Gg hx=>?_) (vX (intsAre_of hv));subst Gg
 have hL:s.heap.IsList a (intItems xs.toArray):=⟨_,ho,rfl,c,by simp[intItems]⟩
 refine .of (sum_intListG ok.hand hL λh' tk t' kp=>?_)
 have e:preSum (numAt xs.toArray) xs.toArray.size=l.sum:=by
  have hlen:xs.length=l.length:=by rw[←hx];simp
  rw[List.size_toArray,qy (numAt xs.toArray) l (λi hi=>?_) xs.length (by exact L1 [] [_,_] 12469 129 12471 rfl hlen),hlen,List.take_length]
  unfold numAt
  rw[List.getElem?_toArray,←hx,gD,List.getElem?_map]
 rw[e]
 exact⟨m,σ,H.keeps kp,rfl,_,.int _ _,h⟩
theorem oU{vs:List Value}{l:List Int}(h:IntsAre vs l):DatAll [] vs (l.map Dat.int):=by
 induction h with
 | nil=>exact .nil
 | cons n t _ ih=>exact .cons (.int _ _) ih
theorem wM:∀ {l k:List Int},l.map Dat.int=k.map Dat.int→l=k
  | [],[],_=>rfl
  | [],_::_,h=>by cases h
  | _::_,[],h=>by cases h
  | a::l,b::k,h=>by
    simp only[List.map_cons,List.cons.injEq,Dat.int.injEq] at h
    rw[h.1,wM h.2]
theorem uD{l:List Int}:∀ d∈l.map Dat.int,kqdOk 8 d=true:=λd hd=>by
 refine aD (λi _ zZ=>?_) (mM hd);subst zZ;rfl
theorem news2{s:Shared}{a b:Addr}{oa ob:Obj}(ha:s.heap.get? a=some oa)(hb:s.heap.get? b=some ob):News ⟨#[],s.heap.life⟩ s.heap.objs.size s.heap [(a,oa),(b,ob)]:=λp hp=>by
 have key:∀ c oc,s.heap.get? c=some oc→s.heap.get? c=some oc∧c≠s.heap.objs.size∧(⟨#[],s.heap.life⟩:Heap).get? c=none:=λc oc hc=>⟨hc,Nat.ne_of_lt (Heap.lt_size hc),Heap.get?_none_of_le (Nat.zero_le _)⟩
 rcases List.mem_cons.mp hp with rfl|hp
 ·exact key _ _ ha
 ·rw[List.mem_singleton] at hp;subst hp;exact key _ _ hb
open Classical in
theorem Hx{a b:Addr}{l k:List Int}(ok:aC w n fx)(ha:Has w fx σ a (.list (iL l)))(hb:Has w fx σ b (.list (iL k)))(h:QB (!decide (l=k)) σ):C2 w fx .NotEq (.ref a) (.ref b) m σ QB X:=λva vb h1 h2 s H=>by
 cases h1 using Rv.bJ;cases h2 using Rv.bJ
 refine aD (λo ho ha=>?_) (H.has ha)
 refine bw (λvs c hv vJ=>?_) (ha.list');subst vJ
 refine aD (λo' ho' hb=>?_) (H.has hb)
 refine bw (λws c' hw nD=>?_) (hb.list');subst nD
 have hu:=ok.Bm.2
 refine .of (kqd_ne (news2 ho ho') (.head _) rfl rfl (oU (intsAre_of hv)) (λp hp=>absurd hp (by simp)) (.tail _ (.head _)) rfl rfl (oU (intsAre_of hw)) (λp hp=>absurd hp (by simp)) uD uD (by have:cLine=9900:=rfl;exact SM hu this) ?_)
 have e:decide (l.map Dat.int=k.map Dat.int)=decide (l=k):=decide_eq_decide.mpr ⟨wM,λq=>by rw[q]⟩
 rw[e]
 exact⟨m,σ,H,rfl,_,.bool _,_,rfl,h⟩
open Classical in
theorem Hz{a b:Addr}{l k:List Int}(ok:aC w n fx)(ha:Has w fx σ a (.list (iL l)))(hb:Has w fx σ b (.list (iL k)))(h:QB (decide (l=k)) σ):C2 w fx .Eq (.ref a) (.ref b) m σ QB X:=λva vb h1 h2 s H=>by
 cases h1 using Rv.bJ;cases h2 using Rv.bJ
 refine aD (λo ho ha=>?_) (H.has ha)
 refine bw (λvs c hv kj=>?_) (ha.list');subst kj
 refine aD (λo' ho' hb=>?_) (H.has hb)
 refine bw (λws c' hw gP=>?_) (hb.list');subst gP
 have hu:=ok.Bm.2
 refine .of (kqd_eq (news2 ho ho') (.head _) rfl rfl (oU (intsAre_of hv)) (λp hp=>absurd hp (by simp)) (.tail _ (.head _)) rfl rfl (oU (intsAre_of hw)) (λp hp=>absurd hp (by simp)) uD uD (by have:cLine=9900:=rfl;exact SM hu this) ?_)
 have e:decide (l.map Dat.int=k.map Dat.int)=decide (l=k):=decide_eq_decide.mpr ⟨wM,λq=>by rw[q]⟩
 rw[e]
 exact⟨m,σ,H,rfl,_,.bool _,_,rfl,h⟩
theorem J3{a b:Str}(ok:aC w n fx)(h:QB (a.cps.toList != b.cps.toList) σ):C2 w fx .NotEq (.str a) (.str b) m σ QB X:=C2.of ok (λva vb ha hb=>by
 cases ha using Rv.Ib;cases hb using Rv.Ib;exact λA E s Q' _ k=>P.ne_str (k _ _ _ (aH _) (.bool _))) h
theorem J4{a b:Str}(ok:aC w n fx)(h:QB (a.cps.toList == b.cps.toList) σ):C2 w fx .Eq (.str a) (.str b) m σ QB X:=C2.of ok (λva vb ha hb=>by
 cases ha using Rv.Ib;cases hb using Rv.Ib;exact λA E s Q' _ k=>P.eq_str (k _ _ _ (aH _) (.bool _))) h
end
theorem Dj:typeLookup (.type "list") (Str.ofString "keys")=pure none:=by rw[typeLookup_type,builtinLookup_eq_fast];kernel_rfl
theorem Ac:entryFor table "list.__getattribute__"= some Builtin.«object.__getattribute__»:=
 entryFor_alias (id':="object.__getattribute__") (by kernel_rfl) (by decide +kernel) (by decide +kernel) (by kernel_rfl)
theorem rJ(l:Addr)(items:Array Value)(n:Nat)(u:Tok) :
  Meets (Builtin.«object.__getattribute__» ⟨[.ref l,.str (Str.ofString "keys") u],[]⟩) (λA R s=>s.heap.get? l=some (listOf items n)∧raisesAttr (.ref l) (Str.ofString "keys") A R s):=
 Meets.of_wp λprog w A R s hs=>by
  obtain⟨hp,g,d,tk,os⟩:=s
  refine uA (λhl hs=>?_) hs
  have hT:∀ {g' d' tk' os'},(⟨hp,g',d',tk',os'⟩:Shared).TypeIs (.ref l) "list":=⟨_,hl,rfl⟩
  have hmiss:=Dj
  unfold Builtin.«object.__getattribute__»
  repeat (any_goals (first|assumption|with_reducible refine wpAny_loadPart_at hl ?_|wp_step))
  exact wpAny_raiseAttrError (A:=A.in1) hs.1 hs.2 (attrMsg_fits (by decide +kernel) (by decide +kernel))
set_option maxHeartbeats 4000000 in
theorem getAttr_miss_list{w:World}{A:Around}{E:Value→Shared→Prop}{s:Shared}{l:Addr}{items:Array Value}{n:Nat}{Q:Option Value→Shared→Prop}(hl:s.heap.get? l=some (listOf items n))(hA:A.handled=none)
  (h:∀ h' tk,(∀ b o,s.heap.get? b=some o→h'.get? b=some o)→Q none { s with heap:=h',toks:=tk }):wpAny (model Pr w) A (getAttr? (.ref l) (Str.ofString "keys")) Q E s:=by
 unfold getAttr?
 refine wpAny_bind (wpAny_mkText ?_)
 unfold getAttrBy?
 refine wpAny_bind (wpAny_attempt ?_)
 obtain⟨hp,g,d,tk,os⟩:=s
 have hT:(⟨hp,g,d,tk+1,os⟩:Shared).TypeIs (.ref l) "list":=⟨_,hl,rfl⟩
 have f1:=sub_AttributeError
 have f3:=F.slot_list_getattribute.lookup
 have f4:=F.slot_list_getattribute.bind (.ref l)
 have f5:=list_getattr_none
 unfold getAttrBy
 repeat (any_goals (first|assumption|with_reducible refine wpAny_loadPart_at hl ?_|((with_reducible show wpAny _ _ (call (Value.builtin "list.__getattribute__") _ _) _ _ _);refine call_meets F.slot_list_getattribute hT Ac (F.args_list_getattribute_2 _ _) (rJ l items n _) ⟨hl,hA,λh' tk' e hx=>?_⟩)|wp_step))
 refine Pu (λt' u' he=>?_) (hx.there)
 have hTe:∀ tk0,(⟨h',g,d,tk0,os⟩:Shared).TypeIs (.ref e) "AttributeError":=λ_=>⟨_,he,rfl⟩
 have fin:∀ tk0,wpAny (model Pr w) A (isInstance (.ref e) (.type "AttributeError") >>= λb=>if b=true then pure (none:Option Value) else throw (.ref e)) Q E ⟨h',g,d,tk0,os⟩:=λtk0=>by
  refine wpAny_bind (wpAny_isInstance (hTe _) f1 ?_)
  rw[if_pos rfl]
  exact wpAny_pure (h h' _ λb o eq=>hx.keeps b o eq)
 show wpAny _ _ (getattributeRaised _ _ _ _ _ _ _) _ _ _
 unfold getattributeRaised
 repeat (any_goals (first|assumption|exact fin _|wp_step))
 trace_state
noncomputable def look(kvs:List (Int×AV))(k:Int):Option AV:=(kvs.find? λp=>decide (p.1=k)).map (·.2)
noncomputable def put(kvs:List (Int×AV))(k:Int)(a:AV):List (Int×AV):=if kvs.any (λp=>decide (p.1=k)) then kvs.map (λp=>if p.1=k then(p.1,a) else p) else kvs++[(k,a)]
theorem jQ.any{kvs qs} (h:jQ kvs qs) (k:Int):qs.any (λp=>decide (p.1=k))=kvs.any (λp=>decide (p.1=k)):=by
 induction h with
 | nil=>rfl
 | cons _ _ ih=>simp only[List.any_cons,ih]
theorem jQ.put{kvs qs} (h:jQ kvs qs) {k:Int}{a v} (hv:Rv a v):jQ (put kvs k a) (stored qs k v):=by
  have snoc:∀ {kvs qs},jQ kvs qs→jQ (kvs++[(k,a)]) (qs++[(k,v)]):=by
    intro kvs qs h
    induction h with
    | nil=>exact .cons hv .nil
    | cons h1 _ ih=>exact .cons h1 ih
  have mp:∀ {kvs qs},jQ kvs qs→jQ (kvs.map (λp=>if p.1=k then(p.1,a) else p)) (qs.map (λp=>if p.1=k then(p.1,v) else p)):=by
    intro kvs qs h
    induction h with
    | nil=>exact .nil
    | cons h1 _ ih=>
      rename_i i b u ps qs hb
      rw[List.map_cons,List.map_cons]
      by_cases hi:i=k
      · rw[if_pos hi,if_pos hi];exact .cons hv ih
      · rw[if_neg hi,if_neg hi];exact .cons h1 ih
  unfold Nz.put stored
  rw[h.any k]
  split
  · exact mp h
  · exact snoc h
theorem jQ.look{kvs qs} (h:jQ kvs qs) (k:Int):(∀ a,look kvs k=some a→∃ v,valueAt qs k=some v∧Rv a v)∧(look kvs k=none→valueAt qs k=none):=by
  unfold Nz.look valueAt
  induction h with
  | nil=>exact⟨(λa h=>by cases h),λ_=>rfl⟩
  | cons h1 _ ih=>
    rename_i i b u ps qs hb
    rw[List.find?_cons,List.find?_cons]
    by_cases hi:i=k
    · simp only[hi,decide_true]
      exact⟨(λa e=>by cases e;exact⟨_,rfl,h1⟩),(λe=>by cases e)⟩
    · simp only[hi,decide_false]
      exact ih
section
variable{w:World}{fx:Fx}{m m':au}{σ σ':Led}{X:Value→Prop}{n n':Nat}{x y:Int}{Q:AV→Led→Prop}{QB:Bool→Led→Prop}{N:au→Led→Prop}
theorem At.Bf{kvs o} (h:At w (.dict kvs) o):∃ qs,jQ kvs qs∧Obj.IsDictOf (intKind Pr w) o qs:=by cases h with|dict h1 h2=>exact⟨_,h1,h2⟩
theorem jQ.length{kvs qs} (h:jQ kvs qs):qs.length=kvs.length:=by
 induction h with
 | nil=>rfl
 | cons _ _ ih=>simp[ih]
theorem Holds.CN{s:Shared}(ok:aC w n fx)(H:Holds w fx m σ s):(s.heap.objs.size == sysModules)=false:=by
 have:sysModules<s.heap.objs.size:=modules_low (H.R8 ok).nolimit
 exact beq_eq_false_iff_ne.mpr (Nat.ne_of_gt this)
theorem JR{pos} (ok:aC w n fx) (h:∀ d,(d == sysModules)=false→Q (.ref d) ((d,.dict [])::σ)):EV w fx (.Dict [] [] pos) m σ Q X:=λs H=>by
 refine .of (wpAny_Dict_empty ⟨m,_,H.push (k:=s.toks) (ao:=.dict []) (.dict (kvs:=[]) (qs:=[]) .nil ?_),rfl,_,.ref _,h _ (H.CN ok)⟩)
 refine aD (λo ho hd=>?_) (Heap.dictOf_iff.mp (Heap.DictOf.new (knd:=intKind Pr w) s.heap))
 rw[Heap.get?_push_size _ rfl] at ho
 cases ho;exact hd
theorem KR{d:Addr}{kvs:List (Int×AV)}{a:AV}(hu:fO d (.dict kvs) (.dict (put kvs x a)) σ σ')(hz:kvs.length≤1000000)(h:N m σ'):SI w fx (.ref d) (.int x) a m σ N X:=λvo vi v ho hi hv s H=>by
 cases ho using Rv.bJ;cases hi using Rv.aR
 refine bw (λpre post kj nD=>?_) (hu.split);subst kj;subst nD
 refine aD (λo ho ha=>?_) (H.mem (a:=d) (ao:=.dict kvs) (by simp))
 refine aD (λqs hq hd=>?_) (ha.Bf)
 refine .of (wpAny_setItem_pairs (hsz:=by rw[hq.length,sizeLine_eq];exact L1 [] [_] 1099511628981 129 65536001205 rfl hz) (intKind_is _ _ x _) (Heap.dictOf_iff.mpr ⟨o,ho,hd⟩) λh' hmm hs=>?_)
 refine aD (λo' ho' hd'=>?_) (Heap.dictOf_iff.mp hmm)
 exact⟨m,_,H.upd (k:=s.toks+1) (λb hb=>hs.2 b hb) ho' (.dict (hq.put hv) hd'),h⟩
theorem MP{value slice:Expr}{d:Addr}{kvs:List (Int×AV)}{a:AV}(hs:cZ slice)(hd:Has w fx σ d (.dict kvs))(hx:look kvs x=some a)(h:Q a σ):GI w fx value slice (.ref d) (.int x) m σ Q X:=λvo vi ho hi s H=>by
 cases ho using Rv.bJ;cases hi using Rv.aR
 refine aD (λo ho ha=>?_) (H.has hd)
 refine aD (λqs hq hd=>?_) (ha.Bf)
 refine aD (λv h1 h2=>?_) ((hq.look x).1 a hx)
 have hD:s.heap.DictOf (intKind Pr w) d qs:=Heap.dictOf_iff.mpr ⟨o,ho,hd⟩
 exact .of (tail_any hD.typeIs slot_dict_getitem.lookup (wpAny_getItem_of (intKind_is _ _ x _) hD.mapOf h1 ⟨m,σ,H.toks,rfl,_,h2,h⟩) (hs _ _))
theorem MN{d:Addr}{kvs:List (Int×AV)}{K:AV→List AV→Led→Prop}(hd:Has w fx σ d (.dict kvs))(h:K (.bi "dict.get") [.ref d] σ):GM w fx (.ref d) "get" m σ K X:=λvo pl ho s H=>by
 cases ho using Rv.bJ
 refine aD (λo ho ha=>?_) (H.has hd)
 refine aD (λqs hq hd=>?_) (ha.Bf)
 have hD:s.heap.DictOf (intKind Pr w) d qs:=Heap.dictOf_iff.mpr ⟨o,ho,hd⟩
 exact .of (getMethod_builtin hD.typeIs PySem.F.plainAttrs_dict PySem.F.slot_dict_get PySem.F.type_dict_get hD.mapOf.noDict ⟨m,σ,H,rfl,_,_,.bi _,.cons (.ref d) .nil,h⟩)
theorem Ob{d:Addr}{kvs:List (Int×AV)}{b:AV}(hd:Has w fx σ d (.dict kvs))(lo:(d == sysModules)=false)(h:Q ((look kvs x).getD b) σ):CL w fx (.bi "dict.get") [.ref d,.int x,b] m σ Q X:=CL.Y6 λvf v u t hf hv hu ht s H=>by
 cases hf using Rv.qb;cases hv using Rv.bJ;cases hu using Rv.aR
 refine aD (λo ho ha=>?_) (H.has hd)
 refine aD (λqs hq hd=>?_) (ha.Bf)
 have hD:s.heap.DictOf (intKind Pr w) d qs:=Heap.dictOf_iff.mpr ⟨o,ho,hd⟩
 refine .of (call_meetsIn PySem.F.slot_dict_get hD.typeIs PySem.F.entry_dict_get (PySem.F.args_dict_get_3 _ _ _) (meets_dict_get_default (intKind Pr w) d (intKind_is _ _ x _) lo t) ⟨_,hD.mapOf,?_⟩)
 refine⟨m,σ,H.toks,rfl,(look kvs x).getD b,?_,h⟩
 cases hx:look kvs x with
 | none=>rw[(hq.look x).2 hx];exact ht
 | some a=>refine aD (λv h1 h2=>?_) ((hq.look x).1 a hx);rw[h1];exact h2
end
theorem nY:entryFor table "dict.update.loop"= some Builtin.«dict.update.loop»:=by first|exact entryFor_of_fast (by kernel_rfl)|exact entryFor_of_tree (by kernel_rfl)
theorem iG:plainId "dict.update.loop"= true:=by decide +kernel
structure Bs(h:Heap)(v:Value)(k:Int)(x:Value):Prop where
 ex:∃ T t n,v=.ref T∧h.get? T=some { cls:=.type "tuple",data:=.seq #[.int k t,x] n }
section
variable{w:World}{A:Around}{E:Value→Shared→Prop}{R:Result→Shared→Prop}
theorem N7{l I D:Addr}{vs:List Value}{qs:List (Int×Value)}(hh:A.handled=none)(hlen:vs.length=qs.length)(hz:qs.length≤1000000)(hID:I≠D)(hlI:l≠I)(hlD:l≠D) :
    ∀ (j i:Nat) (s:Shared) (kvs:List (Int×Value)),qs.length-i=j→i≤qs.length→kvs.length≤i→s.heap.IsList l vs.toArray→s.heap.IsListIter I l i→s.heap.DictOf (intKind Pr w) D kvs→
      (∀ (i':Nat) (v:Value) (q:Int×Value),vs[i']?=some v→qs[i']?=some q→Bs s.heap v q.1 q.2∧v≠.ref I∧v≠.ref D)→
      (∀ h' k',h'.DictOf (intKind Pr w) D ((qs.drop i).foldl (λm p=>stored m p.1 p.2) kvs)→(∀ b o,b≠I→b≠D→s.heap.get? b=some o→h'.get? b=some o)→R (.ok (.ret .none)) { s with heap:=h',toks:=k' })→
      codeAny (model Pr w) A (.builtin "dict.update.loop" ⟨[.ref D,.ref I,rawInt i,.none],[]⟩) R s:=by
  intro j
  induction j with
  | zero=>
    intro i s kvs hj hle hk hl hit hD hp hR
    have:i=qs.length:=nA (L2 [] [_,_,_] 12469 8257 215 51065895 rfl hj (sC (qs.length) i (L1 [] [_,_] 12469 129 12469 rfl hle))) (L2 [] [_,_,_] 12469 4225 215 46937127 rfl hj (sC (qs.length) i (L1 [] [_,_] 12469 129 12469 rfl hle)))
    subst this
    refine codeAny_builtin nY ?_
    rw[Around.under_plainId iG _]
    show wpAny _ A.in1 (pyNext (.ref I) >>= _) _ _ s
    refine wpAny_bind (wpAny_pyNext_list_end (A:=A.in1) hh hit hl (by rw[List.getElem?_toArray,List.getElem?_eq_none];exact L1 [] [_,_] 12469 129 12471 rfl hlen) λh' he=>?_)
    show wpAny _ _ (Builtin.Dict.addKeywords D [] >>= _) _ _ _
    refine wpAny_bind (wpAny_pure (wpAny_pure ?_))
    rw[List.drop_length] at hR
    refine aD (λo ho hd=>?_) (Heap.dictOf_iff.mp hD)
    exact hR h' _ (Heap.dictOf_iff.mpr ⟨o,he D o (Ne.symm hID) ho,hd⟩) λb o hb _ e=>he b o hb e
  | succ j ih=>
    intro i s kvs hj hle hk hl hit hD hp hR
    have hlt:i<qs.length:=L2 [] [_,_,_,_] 12470 8257 269355223 51065895 rfl hj (sC (qs.length) i (L1 [] [_,_] 12469 129 12469 rfl hle))
    have hv:vs[i]?=some (vs[i]'(by exact L2 [] [_,_,_] 12470 8257 13511 13494 rfl hlen hlt)):=gE _
    obtain⟨⟨T,t,n,e1,e2⟩,n1,n2⟩:=hp i _ qs[i] hv (gE hlt)
    refine codeAny_builtin nY ?_
    rw[Around.under_plainId iG _]
    show wpAny _ A.in1 (pyNext (.ref I) >>= _) _ _ s
    refine wpAny_bind (wpAny_pyNext_list_item hit hl (by rw[List.getElem?_toArray];exact hv) λh' hit' hs=>?_)
    rw[e1] at n1 n2⊢
    have hTI:T≠I:=λq=>n1 (by rw[q])
    have hTD:T≠D:=λq=>n2 (by rw[q])
    have e2':h'.get? T=some { cls:=.type "tuple",data:=.seq #[.int qs[i].1 t,qs[i].2] n }:=(hs.2 T hTI).trans e2
    refine wpAny_bind (wpAny_holding (wpAny_bind ?_))
    refine wpAny_tryCatch ?_
    unfold Builtin.Dict.pairItems
    refine wpAny_bind (wpAny_typeOf (T:="tuple") ⟨_,e2',rfl⟩ ?_)
    rw[if_pos (by decide)]
    refine wpAny_bind ?_
    show wpAny _ _ (seqItems? (.ref T)) _ _ _
    unfold seqItems?
    refine wpAny_bind (wpAny_load e2' ?_)
    refine wpAny_pure (wpAny_pure ?_)
    show wpAny _ _ (PySem.holding [.int qs[i].1 t,qs[i].2] (dictSet D (.int qs[i].1 t) qs[i].2)) _ _ _
    refine aD (λo ho hd=>?_) (Heap.dictOf_iff.mp hD)
    have hD':h'.DictOf (intKind Pr w) D kvs:=Heap.dictOf_iff.mpr ⟨o,(hs.2 D (Ne.symm hID)).trans ho,hd⟩
    refine wpAny_holding (wpAny_dictSet_pairs (hsz:=by rw[sizeLine_eq];exact L3 [] [_,_,_] 1099511628981 532609 65536001221 13493 12502 rfl hz hk hlt) (intKind_is _ _ _ t) hD' λh2 hD2 hs2=>?_)
    have hkl:(stored kvs qs[i].1 qs[i].2).length≤i+1:=by
      unfold stored;split
      · rw[List.length_map];exact L1 [] [_,_] 269224117 129 12469 rfl hk
      · rw[lA];simp;exact L1 [] [_,_] 12469 129 12469 rfl hk
    refine wpAny_pure ⟨plainId_quiet iG _,?_⟩
    have:=ih (i+1) { s with heap:=h2,toks:=s.toks+1 } _ (by exact nA (L3 [] [_,_,_,_,_] 12469 528513 269224151 63845415 16509913148455 rfl hj (sC (qs.length) i (L1 [] [_,_] 12469 129 12470 rfl hlt)) (sC (qs.length) (i+1) (L1 [] [_,_] 3225431077 129 12470 rfl hlt))) (L3 [] [_,_,_,_,_] 12469 270401 269158615 63845415 16509913149479 rfl hj (sC (qs.length) i (L1 [] [_,_] 12469 129 12470 rfl hlt)) (sC (qs.length) (i+1) (L1 [] [_,_] 3225431077 129 12470 rfl hlt)))) hlt hkl ?_ ?_ hD2 (λi' v q h1 h2'=>?_) λh3 k3 hD3 k=>?_
    · exact this
    · exact(hl.extBut hs.extBut hlI).extBut hs2.extBut hlD
    · refine sU (λoi hoi hci hdi=>?_) hit'
      exact⟨oi,(hs2.2 I hID).trans hoi,hci,hdi⟩
    · refine gJ (λgP m1 m2=>?_) (hp i' v q h1 h2');obtain⟨T',t',n',f1,f2⟩:=gP
      subst f1
      exact⟨⟨T',t',n',rfl,(hs2.2 T' λz=>m2 (by rw[z])).trans ((hs.2 T' λz=>m1 (by rw[z])).trans f2)⟩,m1,m2⟩
    · have e:(qs.drop i)=qs[i]::qs.drop (i+1):=List.drop_eq_getElem_cons hlt
      rw[e,List.foldl_cons] at hR
      exact hR h3 k3 hD3 λb o hb hb2 eq=>k b o hb hb2 ((hs2.2 b hb2).trans ((hs.2 b hb).trans eq))
end
theorem yN{h:Heap}:∀ {ps:List (Int×AV)}{vs:List Value},vs.length=ps.length→(∀ (i:Nat) (p:Int×AV),ps[i]?=some p→∃ v x,vs[i]?=some v∧Rv p.2 x∧Bs h v p.1 x)→
    ∃ qs,jQ ps qs∧∀ (i:Nat) (v:Value) (q:Int×Value),vs[i]?=some v→qs[i]?=some q→Bs h v q.1 q.2
  | [],vs,_,_=>⟨[],.nil,λi v q _ h=>by simp at h⟩
  | p::ps,[],h,_=>by simp at h
  | p::ps,v::vs,hl,hp=>by
    refine gZ (λv' x e1 e2 e3=>?_) (hp 0 p rfl)
    refine aD (λqs h1 h2=>?_) (yN (ps:=ps) (vs:=vs) (by simpa using hl) λi p' e=>hp (i+1) p' e)
    simp at e1
    subst e1
    refine⟨(p.1,x)::qs,.cons e2 h1,λi u q f1 f2=>?_⟩
    cases i with
    | zero=>simp at f1 f2;subst f1 f2;exact e3
    | succ i=>exact h2 i u q (by simpa using f1) (by simpa using f2)
theorem jQ.foldl{ps qs} (h:jQ ps qs):∀ {kvs WM},jQ kvs WM→jQ (ps.foldl (λm p=>Nz.put m p.1 p.2) kvs) (qs.foldl (λm p=>stored m p.1 p.2) WM):=by
 induction h with
 | nil=>exact λh=>h
 | cons ha _ ih=>exact λh=>ih (h.put ha)
section
variable{w:World}{fx:Fx}{m m':au}{σ σ':Led}{X:Value→Prop}{n n':Nat}{x y:Int}{Q:AV→Led→Prop}{QB:Bool→Led→Prop}{N:au→Led→Prop}
theorem At.tuple'{xs o} (h:At w (.tuple xs) o):∃ vs c,bF xs vs∧o={ cls:=.type "tuple",data:=.seq vs.toArray c }:=by cases h using At.zP with|mk hv=>exact⟨_,_,hv,rfl⟩
theorem wU{L:Addr}{ts:List AV}{ps:List (Int×AV)}(ok:aC w n fx)(hL:Has w fx σ L (.list ts))(hlen:ts.length=ps.length)(hz:ps.length≤1000000)
    (hts:∀ (i:Nat) (p:Int×AV),ps[i]?=some p→∃ T,ts[i]?=some (.ref T)∧Has w fx σ T (.tuple [.int p.1,p.2]))
    (h:∀ d,(d == sysModules)=false→Q (.ref d) ((d,.dict (ps.foldl (λm p=>Nz.put m p.1 p.2) []))::σ)):CL w fx (.typ "dict") [.ref L] m σ Q X:=CL.qF λvf v hf hv s H=>by
  cases hf using Rv.lg;cases hv using Rv.bJ
  refine aD (λo ho ha=>?_) (H.has hL)
  refine bw (λvs c hv kj=>?_) (ha.list');subst kj
  have hvl:vs.length=ps.length:=hv.length.trans hlen
  obtain⟨qs,hq,hqs⟩:=yN (h:=s.heap) (ps:=ps) hvl λi p e=>by
    refine aD (λT e1 e2=>?_) (hts i p e)
    refine aD (λu f1 f2=>?_) (hv.get e1)
    cases f2 using Rv.bJ
    refine aD (λo ho hat=>?_) (H.has e2)
    refine bw (λws c' hw gP=>?_) (hat.tuple');subst gP
    cases hw using bF.cV with
    | mk g1 g2=>
      cases g1 using Rv.aR
      cases g2 using bF.cV with
      | mk g3 g4=>cases g4 using bF.jX;exact⟨_,_,f1,g3,⟨T,_,_,rfl,ho⟩⟩
  let D:=s.heap.objs.size
  let s1:Shared:={ s with heap:=s.heap.push { cls:=.type "dict",data:=.dict #[] } }
  have Mh:∀ b o,s.heap.get? b=some o→s1.heap.get? b=some o:=λb o e=>Heap.get?_push_of_some _ e
  have hnew:s1.heap.DictOf (intKind Pr w) D []:=Heap.DictOf.new s.heap
  have ho1:=Mh L _ ho
  have hLD:L≠D:=Nat.ne_of_lt (Heap.lt_size ho)
  have lo:=H.CN ok
  refine .of (callType_codes (Q₁:=λobj s₁=>obj=.ref D∧s₁=s1) F.kt_called_dict (F.kt_typeCall_dict_1 _) F.entry_dict_init (kt_code_dict_new _ ⟨rfl,rfl⟩) ?_)
  rintro obj s₁ ⟨rfl,rfl⟩
  refine⟨hnew.typeIs,F.args_dict_init_2 _ _,?_⟩
  unfold Builtin.«dict.__init__»
  refine wpAny_bind ?_
  unfold Builtin.Dict.selfAndRest
  refine wpAny_bind (wpAny_notOrdered_dict hnew.typeIs ?_)
  show wpAny _ _ (pure (D,[Value.ref L])) _ _ _
  refine wpAny_pure ?_
  show wpAny _ _ (Builtin.Dict.updateFrom "dict.__init__" D (.ref L) [] .none) _ _ _
  unfold Builtin.Dict.updateFrom
  refine wpAny_bind (wpAny_typeOf (T:="list") ⟨_,ho1,rfl⟩ ?_)
  rw[if_pos (by decide)]
  refine wpAny_bind (getAttr_miss_list (A:=fx.A.in1.in1) ho1 ok.hand λh2 k2 Mg=>?_)
  rw[if_pos (by rfl)]
  have ho2:=Mg L _ ho1
  have hL2:({ s1 with heap:=h2,toks:=k2 }:Shared).heap.IsList L vs.toArray:=⟨_,ho2,rfl,c,rfl⟩
  refine wpAny_bind (wpAny_rule (wpAny_bind (wpAny_pyIter_list hL2 ?_)))
  have QK:∀ b o,h2.get? b=some o→(h2.push { cls:=.type "list_iterator",data:=.fields #[.ref L,.int 0 0] }).get? b=some o:=λb o e=>Heap.get?_push_of_some _ e
  have ltI:∀ b o,s1.heap.get? b=some o→b≠h2.objs.size:=λb o e=>Nat.ne_of_lt (Heap.lt_size (Mg b o e))
  refine aD (λoD hoD hdD=>?_) (Heap.dictOf_iff.mp hnew)
  refine wpAny_pure ⟨plainId_quiet iG _,N7 (A:=fx.A.in1) (qs:=qs) (vs:=vs) (l:=L) ok.hand (hvl.trans hq.length.symm) (by rw[hq.length];exact hz) (Ne.symm (ltI D oD hoD)) (ltI L _ ho1) hLD qs.length 0 _ [] (by exact nA (L1 [] [_,_] 12469 129 3221236775 rfl (sC (qs.length) 0 (L0 [] [_] 720901 1 rfl))) (L1 [] [_,_] 12469 65 2952802343 rfl (sC (qs.length) 0 (L0 [] [_] 720901 1 rfl)))) (Nat.zero_le _) (nR _) ?_ ?_ ?_ ?_ λh4 k4 hD4 kp4=>?_⟩
  · exact⟨_,QK _ _ ho2,rfl,c,rfl⟩
  · exact⟨_,Heap.get?_push_size _ rfl,rfl,rfl⟩
  · exact Heap.dictOf_iff.mpr ⟨oD,QK _ _ (Mg _ _ hoD),hdD⟩
  · intro i v q e1 e2
    obtain⟨T,t,n,f1,f2⟩:=hqs i v q e1 e2
    subst f1
    refine⟨⟨T,t,n,rfl,QK _ _ (Mg _ _ (Mh _ _ f2))⟩,λz=>?_,λz=>?_⟩
    · cases z;exact ltI _ _ (Mh _ _ f2) rfl
    · cases z;exact absurd (Heap.lt_size f2) (Nat.lt_irrefl _)
  · refine⟨rfl,m,_,?_,rfl,_,.ref D,h D lo⟩
    refine aD (λo4 ho4 Vr=>?_) (Heap.dictOf_iff.mp hD4)
    rw[List.drop_zero] at Vr
    exact H.new (k:=k4) (λb o e=>kp4 b o (ltI b o (Mh _ _ e)) (Nat.ne_of_lt (Heap.lt_size e)) (QK _ _ (Mg _ _ (Mh _ _ e)))) (Heap.get?_none_of_le (nR _)) ho4 (.dict (hq.foldl .nil) Vr)
theorem Nu{l r1 r2 op1 op2 pos} (hm:behindInMarks op2 r2=false) (h:EV w fx l m σ (λa σ₁=>EV w fx r1 m σ₁ (λb σ₂=>C2 w fx op1 a b m σ₂ (λc σ₃=>if c=true then EV w fx r2 m σ₃ (λd σ₄=>C2 w fx op2 b d m σ₄ (λc2 σ₅=>Q (.bool c2) σ₅) X) X else Q (.bool false) σ₃) X) X) X) :
    EV w fx (.Compare l [op1,op2] [r1,r2] pos) m σ Q X:=by
  show V1 w fx (eval _ fx.env) m σ Q X
  rw[arm_eval_Compare]
  show V1 w fx (eval l fx.env >>= λv=>compareChain pos v [op1,op2] [eval r1 fx.env,markedBehindIn op2 r2 (eval r2 fx.env)]) m σ Q X
  rw[markedBehindIn_of_false hm]
  refine V1.aY (V1.mono h λa σ₁ h₁ va ha=>?_)
  show V1 w fx (do let rv ←PySem.holding [va] (eval r1 fx.env);standAt pos;let c ←PySem.holding [va,rv] (compareOp op1 va rv);release [va,rv] [c];if ←PySem.holding [c,rv] (truthy c) then compareChain pos rv [op2] [eval r2 fx.env] else pure c) m σ₁ Q X
  refine V1.aY (V1.holding (V1.mono h₁ λb σ₂ h₂ vb hb=>WP.bind (WP.standAt (V1.aY (V1.holding (V1.mono (h₂ va vb ha hb) λc σ₃=>aD λcb e q=>λvc hc=>?_))))))
  subst e;cases hc using Rv.sE
  refine WP.bind (λs H=>.of (wpAny_release ⟨m,σ₃,H,?_⟩))
  refine WP.bind (WP.holding λs H=>.of (wpAny_truthy_bool ⟨m,σ₃,H,?_⟩))
  cases cb with
  | false=>exact WP.pure ⟨rfl,_,.bool _,q⟩
  | true=>
    show WP w fx (do let rv ←PySem.holding [vb] (eval r2 fx.env);standAt pos;operate [vb,rv] (compareOp op2 vb rv)) m _ _ X
    exact V1.aY (V1.holding (V1.mono q λd σ₄ h₄ vd hd=>WP.bind (WP.standAt (WP.operate (WP.mono (h₄ vb vd hb hd) λv m' σ'=>zN λe c hc c2 e2 q=>⟨e,c,hc,e2▸q⟩)))))
theorem Kv{l r1 r2 op1 op2 pos} (hm:behindInMarks op2 r2=false) (h:EV w fx l m σ (λa σ₁=>EV w fx r1 m σ₁ (λb σ₂=>C2 w fx op1 a b m σ₂ (λc σ₃=>if c=true then EV w fx r2 m σ₃ (λd σ₄=>C2 w fx op2 b d m σ₄ QB X) X else QB false σ₃) X) X) X) :
    TS w fx (.Compare l [op1,op2] [r1,r2] pos) m σ QB X:=by
  show B1 w fx (isTrue _ fx.env _) m σ QB X
  rw[arm_isTrue_Compare]
  show B1 w fx (eval l fx.env >>= λv=>testChain pos v [op1,op2] [eval r1 fx.env,markedBehindIn op2 r2 (eval r2 fx.env)]) m σ QB X
  rw[markedBehindIn_of_false hm]
  refine V1.aY (V1.mono h λa σ₁ h₁ va ha=>?_)
  show B1 w fx (do let rv ←PySem.holding [va] (eval r1 fx.env);standAt pos;let c ←PySem.holding [va,rv] (compareOp op1 va rv);release [va,rv] [c];if ←PySem.holding [c,rv] (truthy c) then testChain pos rv [op2] [eval r2 fx.env] else pure false) m σ₁ QB X
  refine V1.aY (V1.holding (V1.mono h₁ λb σ₂ h₂ vb hb=>WP.bind (WP.standAt (V1.aY (V1.holding (V1.mono (h₂ va vb ha hb) λc σ₃=>aD λcb e q=>λvc hc=>?_))))))
  subst e;cases hc using Rv.sE
  refine WP.bind (λs H=>.of (wpAny_release ⟨m,σ₃,H,?_⟩))
  refine WP.bind (WP.holding λs H=>.of (wpAny_truthy_bool ⟨m,σ₃,H,?_⟩))
  cases cb with
  | false=>exact WP.pure ⟨rfl,q⟩
  | true=>
    show WP w fx (do let rv ←PySem.holding [vb] (eval r2 fx.env);standAt pos;let c ←operate [vb,rv] (compareOp op2 vb rv);PySem.holding [c] (truthy c)) m _ _ X
    refine V1.aY (V1.holding (V1.mono q λd σ₄ h₄ vd hd=>WP.bind (WP.standAt (V1.aY (V1.mono (λs H=>lN (h₄ vb vd hb hd s H)) λc σ₅=>aD λc2 e2 q2=>λvc hvc=>?_)))))
    subst e2;cases hvc using Rv.sE
    exact WP.holding λs H=>.of (wpAny_truthy_bool ⟨_,_,H,rfl,q2⟩)
theorem Hy{a:Addr}{l:List Int}(ok:aC w n fx)(ha:Has w fx σ a (.list (iL l)))(h:QB (l.any (λi=>i == x)) σ):C2 w fx .In (.int x) (.ref a) m σ QB X:=λva vb h1 h2 s H=>by
 cases h1 using Rv.aR;cases h2 using Rv.bJ
 rename_i t
 obtain⟨o,ho,ha⟩:=H.has ha
 obtain⟨vs,c,hv,rfl⟩:=ha.list'
 have hI:=intsAre_of hv
 have key:∀ {vs:List Value}{l:List Int},IntsAre vs l→vs.any (λv=>match v with|.int i _=>i == x|_=>false)=l.any (λi=>i == x):=by
  intro vs l h
  induction h with
  | nil=>rfl
  | cons k t _ ih=>simp only[List.any_cons,ih]
 refine .of (SeqAt.in_listAt (λv=>match v with|.int i _=>i == x|_=>false) ⟨_,ho,rfl,c,rfl⟩ (λy hy=>?_) ?_)
 ·obtain⟨i,hi,rfl⟩:=List.mem_iff_getElem.mp (by simpa using hy)
  obtain⟨k,t',e1,e2⟩:=IntsAre.at hI i vs[i] (gE hi)
  rw[e1]
  exact SeqAt.EqAt.int_int _ _ _ _
 ·have:(vs.toArray.any λv=>match v with|.int i _=>i == x|_=>false)=l.any (λi=>i == x):=by rw[←key hI];simp
  rw[this]
  exact⟨m,σ,H,rfl,_,.bool _,_,rfl,h⟩
end
noncomputable def iW(n:Nat)(names:List (Str×NameKind))(ps:List Str)(as:List AV):Led:=(cellsFrom n names []).map λp=>(p.2,.cell ((ps.zip as).lookup p.1))
theorem tO(kindOf:Str→Option NameKind){x:Str}:∀ {ps:List Str}{vs:List Value}{f:Str→Option Value},x∉ps→bindL kindOf (ps.zip vs) f x=f x
  | [],_,_,_=>by simp[bindL]
  | p::ps,[],_,_=>by simp[bindL]
  | p :: ps,v::vs,f,h=>by
    rw[List.zip_cons_cons]
    unfold bindL
    rw[tO kindOf (λq=>h (.tail _ q))]
    split
    · show(if x=p then some v else f x)=f x
      rw[if_neg (λq:x=p=>h (by rw[q];exact List.mem_cons_self))]
    · rfl
theorem Ez (kindOf:Str→Option NameKind){x:Str}{a:AV}{ps:List Str}:∀ {as:List AV}{vs:List Value}{f:Str→Option Value},bF as vs→ps.Nodup→(x,a)∈ps.zip as→kindOf x=some .local→∃ v,bindL kindOf (ps.zip vs) f x=some v∧Rv a v:=by
  induction ps with
  | nil=>exact λ_ _ h=>nomatch h
  | cons p ps ih=>
    intro as vs f hr nd h hk
    cases hr with
    | nil=>exact nomatch h
    | @cons b v as vs ha hr=>
      rw[List.zip_cons_cons]
      unfold bindL
      rcases List.mem_cons.mp h with q|q
      · cases q
        refine⟨v,?_,ha⟩
        rw[tO kindOf (List.nodup_cons.mp nd).1,if_pos hk,if_pos rfl]
      · exact ih hr (List.nodup_cons.mp nd).2 q hk
theorem HF (kindOf:Str→Option NameKind){x:Str}(hk:kindOf x≠some .local){ps:List Str}:∀ {as:List AV}{vs:List Value}{f:Str→Option Value},bF as vs→ps.Nodup→
    match (ps.zip as).lookup x with|some a=>∃ v,bindC kindOf (ps.zip vs) f x=some v∧Rv a v|none=>bindC kindOf (ps.zip vs) f x=f x:=by
  induction ps with
  | nil=>intro as vs f _ _;simp[bindC]
  | cons p ps ih=>
    intro as vs f hr nd
    cases hr with
    | nil=>simp[bindC]
    | @cons a v as vs ha hr=>
      refine uA (λn1 n2=>?_) (List.nodup_cons.mp nd)
      rw[List.zip_cons_cons,List.zip_cons_cons,List.lookup_cons]
      unfold bindC
      by_cases hx:x=p
      · subst hx
        rw[beq_self_eq_true]
        dsimp only
        have ih:=ih (f:=if kindOf x=some .local then f else λy=>if y=x then some v else f y) hr n2
        have e:(ps.zip as).lookup x=none:=by
          refine List.lookup_eq_none_iff.mpr λq hq=>?_
          have:x≠q.1:=λz=>n1 (by rw[z];exact(List.of_mem_zip hq).1)
          simp[this]
        rw[e] at ih
        refine⟨v,ih.trans ?_,ha⟩
        rw[if_neg hk,if_pos rfl]
      · have e:(x == p)=false:=beq_eq_false_iff_ne.mpr hx
        rw[e]
        have ih:=ih (f:=if kindOf p=some .local then f else λy=>if y=p then some v else f y) hr n2
        dsimp only at ih⊢
        cases q:(ps.zip as).lookup x with
        | some b=>rw[q] at ih;exact ih
        | none=>
          rw[q] at ih
          refine ih.trans ?_
          split
          · rfl
          · show(if x=p then some v else f x)=f x
            rw[if_neg hx]
noncomputable def Vc(names:List (Str×NameKind))(n:Nat)(ps:List Str):Bool:=ps.all λp=>names.lookup p == some .local||(names.lookup p == some .cell&&((cellsFrom n names []).lookup p).isSome)
theorem cellsFrom_some {x:Str}:∀ {names:List (Str×NameKind)}{n n':Nat}{acc acc':List (Str×Addr)},acc.map (·.1)=acc'.map (·.1)→((cellsFrom n names acc).lookup x).isSome=((cellsFrom n' names acc').lookup x).isSome
  | [], n,n',acc,acc',h=>by
    have key:∀ {a b:List (Str×Addr)},a.map (·.1)=b.map (·.1)→(a.lookup x).isSome=(b.lookup x).isSome:=by
      intro a
      induction a with
      | nil=>intro b h;cases b with|nil=>rfl|cons=>cases h
      | cons p a ih=>
        intro b h
        cases b with
        | nil=>cases h
        | cons q b=>
          simp only[List.map_cons,List.cons.injEq] at h
          obtain⟨p1,p2⟩:=p
          obtain⟨q1,q2⟩:=q
          simp only at h
          obtain⟨rfl,h⟩:=h
          rw[List.lookup_cons,List.lookup_cons]
          cases x == p1
          · exact ih h
          · rfl
    exact key h
  | (name,kind)::r,n,n',acc,acc',h=>by
    unfold cellsFrom
    split
    · exact cellsFrom_some (by simp[h])
    · exact cellsFrom_some h
noncomputable def Bj(ps rest:List Str)(names:List (Str×NameKind)):Bool:=
 jr (ps++rest)&&jr (names.map (·.1))&&names.all (λp=>!(p.1 == ("__debug__" : Str)))&&Vc names 0 ps&&jr ((cellsFrom 0 names []).map (·.1))&&(cellsFrom 0 names []).all (λp=>names.lookup p.1 == some .cell)
section
variable{w:World}{b:Bool}{A:Around}{R:Result→Shared→Prop}{s:Shared}
theorem qZ {a:Addr}{o:Obj}{fd:FuncData}{body:List Stmt}{args:Args}{binds:List (Str×Value)}
    (hroom:A.depth<recursionLimit)(ho:s.heap.get? a=some o)(hdata:o.data=.func fd)(hlim:s.heap.NoLimit)(hcd:s.heap.CodeRec fd.code fd.qualname)
    (hbody:fd.body=.stmts body)(hbind:BindsTo s fd args binds)(hclo:fd.closure=[])
    (hkind:∀ x∈binds,fd.scope.names.lookup x.1=some .local∨(fd.scope.names.lookup x.1=some .cell∧((cellsFrom (s.heap.objs.size+1) fd.scope.names []).lookup x.1).isSome=true))
    (h:∀ s₁,InCallC s (callEnvC fd s.heap.objs.size a).locals (bindL (callEnvC fd s.heap.objs.size a).kindOf binds λ_=>none) (callEnvC fd s.heap.objs.size a).cells (bindC (callEnvC fd s.heap.objs.size a).kindOf binds λ_=>none) s₁→
      bH b (model Pr w) (A.deeper (callEnvC fd s.heap.objs.size a)) (execs body (callEnvC fd s.heap.objs.size a)) (λf s'=>R (.ok (.ret (match f with|.ret v=>v|_=>.none))) s')
        (λe s'=>bH b (model Pr w) (A.deeper (callEnvC fd s.heap.objs.size a)) (leaving (callEnvC fd s.heap.objs.size a) e) (λ_ s''=>R (.error e) s'') (λe' s''=>R (.error e') s'') s') s₁)
    (hco:fd.scope.isCoroutine=false)(hgen:fd.scope.isGenerator=false)(hk:fd.scope.kind=.function):bV b (model Pr w) A (.call (.ref a) args) R s:=by
  refine bG rfl ?_
  show bH b _ A.in1 (callAny (.ref a) args) _ _ s
  simp only[callAny]
  refine ak (.of (wpAny_load ho ?_))
  refine rB (λc oc vs tq hc hoc hdc hq=>?_) hcd
  simp only[hdata,callFunction,hco,hgen,hbody,hc]
  refine ak (m:=field (.ref c) 1) (.of (wpAny_field hoc hdc hq ?_))
  dsimp only
  refine ak (aJ ?_)
  refine ak (.of (hbind _ _ _ _ ?_))
  refine ak (.of ?_)
  rw[←hc,hclo]
  refine wpAny_newFunctionEnv_cells hk hkind λenv he s' x=>?_
  subst he
  refine ak (.of (wpAny_enterFrame (hlim.keeps x.toInCall.keep) hroom ?_))
  exact aJ ⟨rfl,tK (h s' x)⟩
end
theorem Cg{w:World}{cm:Str→Option Value}{f:Str→Option AV}:∀ {cs:List (Str×Addr)}{cells:List (Addr×Obj)},CellsAre cm cs cells→(∀ p∈cs,match f p.1 with|some a=>∃ v,cm p.1=some v∧Rv a v|none=>cm p.1=none)→
    bA w (cs.map λp=>(p.2,.cell (f p.1))) cells:=by
  intro cs cells hc
  induction hc with
  | nil=>exact λ_=>.nil
  | @cons n _ _ _ _ hd r ih=>
    intro h
    refine .cons ?_ (ih λp hp=>h p (.tail _ hp))
    have:=h _ (.head _)
    cases q:f n with
    | some a=>rw[q] at this;refine aD (λv h1 h2=>?_) this;exact .cell (hd.trans (by rw[h1])) h2
    | none=>rw[q] at this;exact .Hw (hd.trans (by rw[this]))
theorem FN.Z4 {w:World}{b:Bool}{n:Nat}{base:Heap}{f:Addr}{as:List AV}{μ:Led}{Q:AV→Led→Prop}{X:Value→Prop}
    {name qual:Str}{params:Arguments}{body:List Stmt}{names:List (Str×NameKind)}{dV kV doc pm cdv ct oc:Value}{an od:Option Addr}{osl:Array (Option Value)}{more:List (Str×Const)}(ps rest:List Str)
    (ho:(KK w).lookup f=some ⟨oc,od,.func (fnX name qual params body ⟨.function,names,false,false,more⟩ [] dV kV doc pm an cdv ct),osl⟩)(hcd:codeIn (KK w) cdv qual=true)
    (hl:ps.length=as.length)
    (hbind:∀ vs:List Value,bF as vs→bindArgs (fnX name qual params body ⟨.function,names,false,false,more⟩ [] dV kV doc pm an cdv ct) ⟨vs,[]⟩=pure (ps.zip vs))
    (hchk:Bj ps rest names=true)
    (h:∀ fx L,aC w n fx→bU fx→iZ fx names→fx.cl=b→fx.base=base→fx.fz=[]→fx.env=envX qual ⟨.function,names,false,false,more⟩ L f cdv (cellsFrom (L+1) names [])→
      SS w fx body (((ps.zip (as.map some)).filter λp=>names.lookup p.1 == some .local)++rest.map λx=>(x,none)) (iW (L+1) names ps as++μ) (λ_ σ=>Q .none σ) Q X) :
    FN w b (n+1) f base as μ Q X:=λvs hv=>by
  unfold Bj at hchk
  simp only[Bool.and_eq_true] at hchk
  obtain⟨⟨⟨⟨⟨c1,c2⟩,c3⟩,c4⟩,c5⟩,c6⟩:=hchk
  have nd:=cW c1
  have Uz:ps.Nodup:=(List.nodup_append.mp nd).1
  intro A frs g s news h1 h2 h3 hg h4 h5 h6 h7 h8 h9 h10 h11 h12
  have bs:base.StaysIn s.heap:=λb o e=>h8 b o (h6 b o e)
  have X₀:=h4.keeps bs
  refine qZ (fd:=fnX name qual params body ⟨.function,names,false,false,more⟩ [] dV kV doc pm an cdv ct) (body:=body) (binds:=ps.zip vs) (by unfold oE at h1;have:recursionLimit=1000:=rfl;exact SJ h1 this) (X₀ _ _ ho) rfl (h5.keeps bs).nolimit (codeRec_of X₀ hcd) rfl (BindsTo.of_eq (hbind vs hv)) rfl (λx hx=>?_) (λs₁ x=>?_) rfl rfl rfl
  · have:=List.all_eq_true.mp c4 x.1 (List.of_mem_zip hx).1
    simp only[Bool.or_eq_true,Bool.and_eq_true,beq_iff_eq] at this
    rcases this with q|⟨q1,q2⟩
    · exact .inl q
    · exact .inr ⟨q1,by rw[cellsFrom_some (n':=0) (acc':=[]) rfl];exact q2⟩
  let L:=s.heap.objs.size
  let scope:Scope:=⟨.function,names,false,false,more⟩
  let env:=envX qual scope L f cdv (cellsFrom (L+1) names [])
  let fx:Fx:=⟨A.deeper env,env,base,frs,env::frs,g,s.os,[],b⟩
  have ow:bU fx:=⟨rfl,rfl⟩
  have ok:aC w n fx:=⟨h4,h5,Around.frames_deeper h2,.inr ow,by show A.handled=none;exact h3,rfl,rfl,rfl,h7,h1.deeper,hg⟩
  have Jr:∀ b o,g.get? b=some o→b<L:=λb o e=>Heap.lt_size (h8 b o e)
  have gT:∀ b o,g.get? b=some o→(trunc L g).get? b=some o:=λb o e=>(bQ _ _ _ _).mpr ⟨e,Jr b o e⟩
  obtain⟨h₁,tk,rfl,hk₁⟩:=x.done
  have Hv:∀ p∈cellsFrom (L+1) names [],names.lookup p.1=some .cell:=λp hp=>by
    have e:(cellsFrom (L+1) names []).map (·.1)=(cellsFrom 0 names []).map (·.1):=cellsFrom_names names 0 (L+1) [] [] rfl |>.symm
    have hm:p.1∈(cellsFrom 0 names []).map (·.1):=e▸List.mem_map_of_mem hp
    obtain⟨q,hq,e2⟩:=mM hm
    have:=List.all_eq_true.mp c6 q hq
    rw[←e2];exact beq_iff_eq.mp this
  have ndc:((cellsFrom (L+1) names []).map (·.1)).Nodup:=by
    have e:(cellsFrom (L+1) names []).map (·.1)=(cellsFrom 0 names []).map (·.1):=cellsFrom_names names 0 (L+1) [] [] rfl |>.symm
    rw[e];exact cW c5
  obtain⟨cells,NC,Y⟩:=Cl.news (h₀:=s.heap) (h:=h₁) (L:=L) (cm:=bindC env.kindOf (ps.zip vs) λ_=>none) (nR _) (cs:=cellsFrom (L+1) names []) λn c hm=>⟨x.cell n c (lookup_of_mem_nodup ndc hm),x.above n c hm⟩
  have hrel:bA w (iW (L+1) names ps as) cells:=Cg (f:=λy=>(ps.zip as).lookup y) Y λp hp=>by
    have hnl:env.kindOf p.1≠some .local:=by
      show names.lookup p.1≠_
      rw[Hv p hp];decide
    exact HF env.kindOf hnl hv Uz
  have hz:ps.length=as.length:=hl
  have hm0:RelV (((ps.zip (as.map some)).filter λp=>names.lookup p.1 == some .local)++rest.map λx=>(x,none)) (bindL env.kindOf (ps.zip vs) λ_=>none):=by
    have e:(ps.zip (as.map some)).map (·.1)=ps:=List.map_fst_zip (by simp[hl])
    constructor
    · rw[List.map_append]
      refine List.nodup_append.mpr ⟨?_,?_,λa ha b hb q=>?_⟩
      · have hsub:(((ps.zip (as.map some)).filter λp=>names.lookup p.1 == some .local).map (·.1)).Sublist ((ps.zip (as.map some)).map (·.1)):=List.Sublist.map _ List.filter_sublist
        rw[e] at hsub
        exact hsub.nodup Uz
      · rw[List.map_map]
        have:((λx:Str×Option AV=>x.1) ∘ λx=>(x,(none:Option AV)))=id:=rfl
        rw[this,List.map_id]
        exact(List.nodup_append.mp nd).2.1
      · subst q
        obtain⟨p,hp,e1⟩:=mM ha
        obtain⟨q,hq,e2⟩:=mM hb
        obtain⟨y,hy,e3⟩:=mM hq
        have h1:a∈ps:=by rw[←e1];exact(List.of_mem_zip (List.mem_filter.mp hp).1).1
        have h2:a∈rest:=by rw[←e2,←e3];exact hy
        exact(List.nodup_append.mp nd).2.2 _ h1 _ h2 rfl
    · intro y a hy
      rcases mA hy with q|q
      · obtain⟨q1,q2⟩:=List.mem_filter.mp q
        have hloc:env.kindOf y=some .local:=beq_iff_eq.mp q2
        have hza:(y,a)∈ps.zip as:=by
          obtain⟨i,hi,e1⟩:=List.mem_iff_getElem.mp q1
          rw[List.getElem_zip,List.getElem_map] at e1
          simp only[Prod.mk.injEq,Option.some.injEq] at e1
          refine List.mem_iff_getElem.mpr ⟨i,by simpa using hi,?_⟩
          rw[List.getElem_zip]
          exact Prod.ext e1.1 e1.2
        exact Ez env.kindOf hv Uz hza hloc
      · obtain⟨z,_,e2⟩:=mM q
        cases e2
  have H:Holds w fx (((ps.zip (as.map some)).filter λp=>names.lookup p.1 == some .local)++rest.map λx=>(x,none)) (iW (L+1) names ps as++μ) { s with heap:=h₁,toks:=tk }:=by
    refine⟨trunc L g,_,cells++news,λb o e=>gT b o (h6 b o e),bk.of_stays gT,⟨x.toInCall.ns,λb o e=>hk₁ b o (h8 b o ((bQ _ _ _ _).mp e).1),gV _ _⟩,λp hp=>?_,hm0,by show bA _ ((_++μ)++[]) _;rw[aN];exact hrel.append h10,?_,h12,rfl⟩
    · have none_of:∀ {b:Addr},g.get? b=none→(trunc L g).get? b=none:=λ{b} e=>by
        cases z:(trunc L g).get? b with
        | none=>rfl
        | some o=>have:=((bQ _ _ _ _).mp z).1;rw[e] at this;exact nsA this
      rcases mA hp with q|q
      · refine⟨(NC p q).1,(NC p q).2.1,none_of ?_⟩
        cases z:g.get? p.1 with
        | none=>rfl
        | some o=>have:=(NC p q).2.2;rw[h8 _ _ z] at this;exact nsA this.symm
      · exact⟨hk₁ _ _ (h9 p q).1,Nat.ne_of_lt (Heap.lt_size (h9 p q).1),none_of (h9 p q).2⟩
    · show(List.map (λq:Addr×AO=>q.1) ((iW (L+1) names ps as++μ)++[])).Nodup
      rw[aN,List.map_append]
      refine List.nodup_append.mpr ⟨?_,h11,λa ha b hb q=>?_⟩
      · have e:(iW (L+1) names ps as).map (·.1)=(cellsFrom (L+1) names []).map (·.2):=by unfold iW;rw[List.map_map];rfl
        have ap:List.Pairwise (λ(y z:Str×Addr)=>y.2≠z.2) (cellsFrom (L+1) names []):=x.apart
        rw[e]
        exact List.pairwise_map.mpr ap
      · subst q
        rw[←hrel.keys] at ha
        rw[←h10.keys] at hb
        obtain⟨p,hp,e1⟩:=mM ha
        obtain⟨q,hq,e2⟩:=mM hb
        have k1:=(NC p hp).2.2
        rw[e1,←e2,(h9 q hq).1] at k1;exact nsA k1.symm
  have hK:iZ fx names:=λp hp=>by
    constructor
    · exact gC (cW c2) hp
    · have:=List.all_eq_true.mp c3 p hp
      cases hq:(p.1 == ("__debug__" : Str)) with
      | false=>rfl
      | true=>rw[hq] at this;cases this
  refine aV (uU (h fx L ok ow hK rfl rfl rfl rfl) _ H) (λfl s' hl=>?_) λe s' he=>?_
  · obtain⟨m',σ',⟨g',M,news',H'⟩,a,ha,hq⟩:=hl
    exact⟨H'.gens,H'.os,g',a,σ',news',H'.stays,H'.keep,H'.F.keep,ha,λp hp=>⟨(H'.N p hp).1,(H'.N p hp).2.2⟩,by have:=H'.led;rwa [show fx.fz=[] from rfl,aN] at this,by have:=H'.nd;rwa [show fx.fz=[] from rfl,aN] at this,hq⟩
  · have he':=he
    obtain⟨ea,cls,a0,_,hx⟩:=he'
    refine .of (XR.leaving ok ow he λh' k1 k2=>?_)
    exact⟨hx.gens,hx.os,k1,k2⟩
section
variable{w:World}{A:Around}{E:Value→Shared→Prop}{h:Heap}{g:Array GenState}{d:Drawn}{t:Nat}{os:OsState}{R:Result→Shared→Prop}
variable{nm q:Str}{C N:Addr}{bs bm:List Value}{hdct:Bool}{sn:List Str}{sub:List Value}{ab:Bool}{col:Option Bool}{dd:Option Addr}{k0 k1 k2 k3 k5:Option Value}
theorem zH(h1:bm.contains (.type "ValueError")=true){rest:List Value}{Q:Unit→Shared→Prop}(hC:h.get? C=some (excClassObj nm q C N bs bm hdct sn sub ab col dd k0 k1 k2 k3 k5 "ValueError.__new__"))
  (hq:Q () ⟨h,g,d,t,os⟩):wpAny (model Pr w) A (checkBuiltinCall "ValueError.__new__" ⟨.ref C::rest,[]⟩) Q E ⟨h,g,d,t,os⟩:=by
 have Fn:=PySem.F.excBase_ValueError
 have hcont:(Value.ref C::bm).contains (.type "ValueError")=true:=by rw[List.contains_cons,h1,Bool.or_true]
 have hstar:=Fn.noStar
 simp only[checkBuiltinCall,Fn.newKind,Fn.newSplit,Fn.newRow]
 repeat (first|refine wpAny_loadPart_at hC ?_|(refine wpAny_isSubtype_exc hC ?_;rw[hcont])|refine wpAny_staticBase_exc hC ?_|refine wpAny_madeBy_exc hC ?_|simp only[bne_self_eq_false,Bool.false_eq_true,if_false]|wp_step)
 exact hq
noncomputable abbrev jw(C t:Addr):Obj:={ cls:=.ref C,data:=.fields #[.ref t,.none,.none,.none,.bool false,.none] }
theorem Tj(h1:bm.contains (.type "ValueError")=true)(h2:bm.contains (.type "AttributeError")=false)(h3:bm.contains (.type "NameError")=false){rest:List Value}(hC:h.get? C=some (excClassObj nm q C N bs bm hdct sn sub ab col dd k0 k1 k2 k3 k5 "ValueError.__new__"))
  (hrest:rest.length≤sizeLine)
  (hq:R (.ok (.ret (.ref (h.objs.size+1)))) ⟨(h.push { cls:=.type "tuple",data:=.seq rest.toArray }).push (jw C h.objs.size),g,d,t,os⟩) :
  codeAny (model Pr w) A (.builtin "ValueError.__new__" ⟨.ref C::rest,[]⟩) R ⟨h,g,d,t,os⟩:=by
 have Fn:=PySem.F.excBase_ValueError
 have hends:=Fn.ends
 have hcB:(Value.ref C::bm).contains (.type "ValueError")=true:=by rw[List.contains_cons,h1,Bool.or_true]
 have hcA:(Value.ref C::bm).contains (.type "AttributeError")=false:=by rw[List.contains_cons,h2];rfl
 have hcN:(Value.ref C::bm).contains (.type "NameError")=false:=by rw[List.contains_cons,h3];rfl
 refine codeAny_builtinAt Fn.entry ?_
 unfold Builtin.«BaseException.__new__»
 refine PySem.wpAt_bind ?_
 show PySem.wpAt _ _ _ (stack >>= _) _ _ _
 refine PySem.wpAt_bind (PySem.wpAt_stack λp below=>PySem.wpAt_of_wpAny ?_)
 wp_walk
 refine PySem.wpAt_of_wpAny ?_
 rw[Fn.owner]
 repeat (first|with_reducible refine wpAny_madeHere_exc Fn.canon hC ?_|with_reducible refine wpAny_loadPart_at hC ?_|(with_reducible refine wpAny_isSubtype_exc hC ?_;first|rw[hcB]|rw[hcA]|rw[hcN])|wp_step)
 show R _ _
 rw[Heap.size_push]
 exact hq
theorem xK(h1:bm.contains (.type "ValueError")=true){e:Addr}{oe:Obj}{rest:List Value}{Q:Unit→Shared→Prop}
  (hC:h.get? C=some (excClassObj nm q C N bs bm hdct sn sub ab col dd k0 k1 k2 k3 k5 "ValueError.__new__"))(he:h.get? e=some oe)(hcls:oe.cls=.ref C)(hq:Q () ⟨h,g,d,t,os⟩) :
  wpAny (model Pr w) A (checkBuiltinCall "ValueError.__init__" ⟨.ref e::rest,[]⟩) Q E ⟨h,g,d,t,os⟩:=by
 have F:=PySem.F.excBase_ValueError
 have hcB:(Value.ref C::bm).contains (.type "ValueError")=true:=by rw[List.contains_cons,h1,Bool.or_true]
 have hshort:=F.noStar
 simp only[checkBuiltinCall,F.initKind,F.initSplit,F.initRow]
 repeat (first|(with_reducible refine wpAny_loadPart_at he ?_;rw[hcls])|with_reducible refine wpAny_loadPart_at hC ?_|(with_reducible refine wpAny_isSubtype_exc hC ?_;rw[hcB])|wp_step)
 refine wpAny_onRaise ?_
 rw[show ∀ (a b:String) (n:Nat),Bind.check ⟨.positional,"*","ValueError",.self,[⟨"args",.varPos,false⟩]⟩ a b n (List.map (λx=>x.fst) ({ pos:=Value.ref e::rest }:Args).kw)=pure () from
  λa b n=>check_star_args _ _ _ _ _ _]
 exact wpAny_pure hq
theorem Ph(h1:bm.contains (.type "ValueError")=true){e a0:Addr}{od:Option Addr}{sl:Array (Option Value)}{rest:List Value}
  (hC:h.get? C=some (excClassObj nm q C N bs bm hdct sn sub ab col dd k0 k1 k2 k3 k5 "ValueError.__new__"))(he:h.get? e=some { cls:=.ref C,dict:=od,data:=.fields #[.ref a0,.none,.none,.none,.bool false,.none],slots:=sl })
  (hrest:rest.length≤sizeLine)
  (hq:∀ h' a1,(∀ b o,b≠e→h.get? b=some o→h'.get? b=some o)→h'.get? e=some { cls:=.ref C,dict:=od,data:=.fields #[.ref a1,.none,.none,.none,.bool false,.none],slots:=sl }→R (.ok (.ret .none)) ⟨h',g,d,t,os⟩) :
  codeAny (model Pr w) A (.call (.builtin "ValueError.__init__") ⟨.ref e::rest,[]⟩) R ⟨h,g,d,t,os⟩:=by
 have F:=PySem.F.excBase_ValueError
 refine codeAny_call_builtin F.init.plain F.initEntry (xK h1 hC he rfl ?_)
 have he2:(h.push { cls:=.type "tuple",data:=.seq rest.toArray }).get? e=some { cls:=.ref C,dict:=od,data:=.fields #[.ref a0,.none,.none,.none,.bool false,.none],slots:=sl }:=Heap.get?_push_of_some _ he
 wp_walk
 refine hq _ h.objs.size (λb o hb e'=>?_) ?_
 ·rw[Heap.get?_update_other _ _ (Ne.symm hb)]
  exact Heap.get?_push_of_some _ e'
 ·rw[Heap.get?_update_self _ he2 rfl]
  rfl
end
noncomputable def q8:List Value:=[.ref 39,.type "ValueError",.type "Exception",.type "BaseException",.type "object"]
section
variable{w:World}{A:Around}{E:Value→Shared→Prop}{s:Shared}{R:Result→Shared→Prop}
variable{nm q:Str}{C N:Addr}{bs bm:List Value}{hdct:Bool}{sn:List Str}{sub:List Value}{ab:Bool}{col:Option Bool}{dd:Option Addr}{k0 k1 k2 k3 k5:Option Value}
theorem Ti{e:Addr}{fs:Array Value}{sl:Array (Option Value)}{name:Str}{v:Value}{Q:Unit→Shared→Prop}(X:(KK w).In s.heap)(hC:s.heap.get? C=some (excClassObj nm q C N bs q8 true sn sub ab col dd k0 k1 k2 k3 k5 "ValueError.__new__"))
  (hs:findIn (KK w) (.ref C) "__setattr__"= some (some (.builtin "object.__setattr__")))(ht:findIn (KK w) (.ref C) name=some none)(hm:mroIn (KK w) C (.type "object")=some true)
  (he:s.heap.get? e=some { cls:=.ref C,dict:=none,data:=.fields fs,slots:=sl })
  (hq:∀ h' k d,(∀ b o,b≠e→s.heap.get? b=some o→h'.get? b=some o)→h'.get? e=some { cls:=.ref C,dict:=some d,data:=.fields fs,slots:=sl }→Q () { s with heap:=h',toks:=k }) :
  wpAny (model Pr w) A (setAttr (.ref e) name v) Q E s:=by
 have SF:=PySem.F.store_ValueError
 have I:PySem.W.InstAt s.heap e { cls:=.ref C,dict:=none,data:=.fields fs,slots:=sl } C none:=⟨he,rfl,rfl,trivial⟩
 refine set_plain X I hs ?_
 have sub:Looks (model Pr w) s.heap (isInstance (.ref e) (.type "object")) true:=I.type.andThen (looks_mroIn X hm)
 refine codeAny_call_builtin SF.slot.plain SF.entry (@check_slot (model Pr w) _ _ { s with toks:=s.toks+1 } "object.__setattr__" "object" "__setattr__" (.ref e) [.str name s.toks,v] [] _ SF.kind SF.split sub (SF.args (.ref e) (.str name s.toks) v) ?_)
 have hmro:Looks (model Pr w) s.heap (mroOf (.ref C)) (.ref C::q8):=((Looks.ld (part:=none) hC).andThen .now).andThen .now
 rw[osa_eq,refuse_eq]
 obtain⟨h,g,d,t,os⟩:=s
 refine wpAny_bind (wpAny_bind (I.type.at (wpAny_bind (hmro.at ?_))))
 unfold q8
 rw[refuseLoop_ref,refuseLoop_ref,SF.passes]
 refine wpAny_pure (wpAny_bind (I.type.at (wpAny_bind ((looks_findIn X ht).at (wpAny_bind (wpAny_pure ?_))))))
 dsimp only
 have hxs:e≠h.objs.size:=Nat.ne_of_lt (Heap.lt_size he)
 have ZC:(h.push { cls:=.type "dict",data:=.dict #[] }).get? e=some { cls:=.ref C,dict:=none,data:=.fields fs,slots:=sl }:=Heap.get?_push_of_some _ he
 have hgd:((h.push { cls:=.type "dict",data:=.dict #[] }).update e λo=>{ cls:=o.cls,dict:=some h.objs.size,data:=o.data,slots:=o.slots }).get? h.objs.size
   = some { cls:=.type "dict",data:=.dict #[] }:=(Heap.get?_update_ne _ _ _ _ hxs.symm).trans (Heap.get?_push_at rfl rfl)
 have hnd:((h.push { cls:=.type "dict",data:=.dict #[] }).update e λo=>{ cls:=o.cls,dict:=some h.objs.size,data:=o.data,slots:=o.slots }).Ns h.objs.size (λ_=>none):=
  ⟨_,#[],_,hgd,rfl,λe he=>absurd he (by simp),λ_=>rfl⟩
 have hge:=Heap.get?_update_self (λo=>{ cls:=o.cls,dict:=some h.objs.size,data:=o.data,slots:=o.slots }) ZC rfl
 have hcd:Looks (model Pr w) h (classData C) _:=(Looks.ld hC).andThen .now
 refine wpAny_bind (wpAny_pure (wpAny_bind (wpAny_bind (wpAny_loadPart he (wpAny_bind (hcd.at ?_))))))
 refine wpAny_bind (wpAny_alloc' ?_)
 refine wpAny_bind (wpAny_update' ZC ?_)
 refine wpAny_pure ?_
 show wpAny _ _ (Builtin.ObjectAttr.storeInDict h.objs.size (.str name t) name v) _ _ _
 unfold Builtin.ObjectAttr.storeInDict Builtin.ObjectAttr.newKeyGuard
 refine wpAny_bind (wpAny_pure (wpAny_bind (wpAny_nsSet1 (Heap.Ns1.of_empty hnd) λh' hn' hs'=>?_)))
 refine fV (λoD esD epD hoD hdD hcD=>?_) (hn'.count (Within.cons name v Within.nil))
 refine wpAny_bind (wpAny_lookBehind hoD (by rw[hdD];exact pastItsLine_dict (Nat.le_trans hcD (by rw[List.length_cons,List.length_nil,sizeLine_eq];exact YZ))) ?_)
 refine wpAny_pure ?_
 refine hq h' _ h.objs.size (λb o hb e'=>?_) ((hs'.2 e hxs).trans hge)
 exact(hs'.2 b (Nat.ne_of_lt (Heap.lt_size e'))).trans ((Heap.get?_update_ne _ _ _ _ hb).trans (Heap.get?_push_of_some _ e'))
theorem Jo {b:Bool}{rest:List Value}{fI:Addr}(X:(KK w).In s.heap)(hC:s.heap.get? C=some (excClassObj nm q C N bs q8 hdct sn sub ab col dd k0 k1 k2 k3 k5 "ValueError.__new__"))
    (hi:findIn (KK w) (.ref C) "__init__"= some (some (.ref fI)))(hf:typeIn (KK w) (.ref fI)=some (.type "function"))(hrest:rest.length≤sizeLine)
    (hq:bV b (model Pr w) (A.under (.builtin "type.__call__" ⟨.ref C::rest,[]⟩)) (.call (.ref fI) ⟨.ref (s.heap.objs.size+1)::rest,[]⟩) (InitBack (s.heap.objs.size+1) R)
      { s with heap:=(s.heap.push { cls:=.type "tuple",data:=.seq rest.toArray }).push (jw C s.heap.objs.size) }) :
    bV b (model Pr w) A (.call (.ref C) ⟨rest,[]⟩) R s:=by
  obtain⟨hh,g,d,t,os⟩:=s
  have t0:Looks (model Pr w) hh (typeOf (.ref C)) (.type "type"):=(Looks.ld hC).andThen .now
  have call:Looks (model Pr w) hh (specialOf (.ref C) "__call__") (some (.builtin "type.__call__")):=t0.andThen (Looks.of_pure tc_lookup)
  have typ:Looks (model Pr w) hh (isInstance (.ref C) (.type "type")) true:=t0.andThen (Looks.of_pure tc_sub)
  refine bG rfl ?_
  show bH b _ _ (callAny (.ref C) _) _ _ _
  simp only[callAny]
  refine ak (.of (wpAny_load hC ?_))
  show bH b _ _ (callAny.viaDunder (.ref C) _) _ _ _
  unfold callAny.viaDunder
  refine ak (.of (call.at ?_))
  dsimp only
  rw[tc_bind]
  refine ak (aJ ?_)
  refine aJ (a:=PySem.Fin.again (.call (.builtin "type.__call__") ⟨.ref C::rest,[]⟩)) (And.intro rfl ?_)
  refine bG rfl ?_
  show bH b _ _ (do checkBuiltinCall "type.__call__" ⟨.ref C::rest,[]⟩;again (.builtin "type.__call__" ⟨.ref C::rest,[]⟩)) _ _ _
  refine ak (.of (check_slot tc_kind tc_split typ (tc_args _ _ _) (aJ ⟨Code.quiet_builtin _ (by decide +kernel),jP (by decide) entry_typeCall ?_⟩)))
  have e:Builtin.«type.__call__» ⟨.ref C::rest,[]⟩=(do
      if(←mroOf (.ref C)).isEmpty then PySem.rule "type.call.half-made";raiseError "TypeError" s!"cannot create '{← typeName (.ref C)}' instances"
      let new ←match ←Bind.madeBy (.ref C) with
        | some id=>pure (.builtin id)
        | none=>getAttr (.ref C) "__new__"
      let obj ←PySem.holding [new] (PySem.call new (.ref C::rest) [])
      oF (.ref C) obj rest):=by
    unfold Builtin.«type.__call__»
    show(if(Value.ref C == Value.type "type")=true then _ else _)=_
    rw[if_neg (by simp)]
    rfl
  rw[e]
  refine ak (.of (wpAny_mroOf_exc hC ?_))
  rw[if_neg (by simp)]
  refine ak (.of (wpAny_madeBy_exc hC ?_))
  refine ak (aJ ?_)
  have Fn:=PySem.F.excBase_ValueError
  refine ak (cG (dF (.of (codeAny_call_builtin_code (Code.quiet_builtin _ Fn.quiet) (zH (by decide) hC (Tj (by decide) (by decide) (by decide) hC hrest ?_))))))
  dsimp only
  have k:∀ b o,hh.get? b=some o→((hh.push { cls:=.type "tuple",data:=.seq rest.toArray }).push (jw C hh.objs.size)).get? b=some o:=λb o e=>Heap.get?_push_of_some _ (Heap.get?_push_of_some _ e)
  have hx:((hh.push { cls:=.type "tuple",data:=.seq rest.toArray }).push (jw C hh.objs.size)).get? (hh.objs.size+1)=some (jw C hh.objs.size):=by heap_get
  have t1:Looks (model Pr w) ((hh.push { cls:=.type "tuple",data:=.seq rest.toArray }).push (jw C hh.objs.size)) (typeOf (.ref (hh.objs.size+1))) (.ref C):=(Looks.ld hx).andThen .now
  have X1:=X.keeps k
  unfold oF
  refine ak (.of ?_)
  unfold isInstance
  refine wpAny_bind (t1.at (wpAny_isSubtype_exc (k C _ hC) ?_))
  rw[if_neg (by simp)]
  refine ak (cG ?_)
  unfold callSpecial?
  have sp:Looks (model Pr w) ((hh.push { cls:=.type "tuple",data:=.seq rest.toArray }).push (jw C hh.objs.size)) (specialOf (.ref (hh.objs.size+1)) "__init__") (some (.ref fI)):=t1.andThen (looks_findIn X1 hi)
  refine ak (.of (sp.at ?_))
  refine cG (ak (.of ((bind_fn X1 (.ref (hh.objs.size+1)) hf).at ?_)))
  refine ak (dF (dK hq λr s' z=>?_))
  rcases r with e|(v|_|_|_)<;>first|exact z|exact z.elim|skip
  obtain⟨rfl,z⟩:=z
  exact aJ (aJ z)
end
structure jc(w:World)(C:Addr):Prop where
 obj:∃ nm q N bs sn sub ab col dd k0 k1 k2 k3 k5,(KK w).lookup C=some (excClassObj nm q C N bs q8 true sn sub ab col dd k0 k1 k2 k3 k5 "ValueError.__new__")
 set:findIn (KK w) (.ref C) "__setattr__"= some (some (.builtin "object.__setattr__"))
 no:findIn (KK w) (.ref C) "reason"= some none
 mro:mroIn (KK w) C (.type "object")=some true
 init:findIn (KK w) (.ref C) "__init__"= some (some (.ref 36))
 fn:typeIn (KK w) (.ref 36)=some (.type "function")
theorem rT(w:World):jc w 52:=⟨⟨_,_,_,_,_,_,_,_,_,_,_,_,_,_,rfl⟩,by kernel_rfl,by kernel_rfl,by kernel_rfl,by kernel_rfl,by kernel_rfl⟩
theorem dI(w:World):jc w 64:=⟨⟨_,_,_,_,_,_,_,_,_,_,_,_,_,_,rfl⟩,by kernel_rfl,by kernel_rfl,by kernel_rfl,by kernel_rfl,by kernel_rfl⟩
section
variable{w:World}{fx:Fx}{m m':au}{σ σ':Led}{X:Value→Prop}{n n':Nat}{x y:Int}{Q:AV→Led→Prop}{N:au→Led→Prop}{R:AV→Led→Prop}
theorem RB{C:Addr}{as:List AV}{μ ρ:Led}(ok:aC w (n'+1) fx)(hs:lK σ μ ρ)(hk:jc w C)(hz:as.length≤100)
    (h:∀ base' x,Reads w fx ρ base'→FN w fx.cl n' 36 base' (.ref x::as) ((x,.exc C true)::μ) (λa μ'=>a=.none∧Q (.ref x) (μ'++ρ)) X):CL w fx (.ref C) as m σ Q X:=λvf vs hf ha=>by
  cases hf using Rv.bJ
  refine WP.perm hs.perm λs H=>?_
  have hX:=H.lD ok
  refine cY (λnm q N bs sn sub ab col dd k0 k1 k2 k3 k5 hC=>?_) (hk.obj)
  refine dF (Jo hX (hX _ _ hC) hk.init hk.fn (by rw[ha.length,sizeLine_eq];exact L1 [] [_] 1099511628981 129 6554805 rfl hz) ?_)
  have H1:Holds w fx m (μ++ρ) { s with heap:=s.heap.push { cls:=.type "tuple",data:=.seq vs.toArray } }:=H.keeps (k:=s.toks) λb o e=>Heap.get?_push_of_some _ e
  have H2:=H1.push (k:=s.toks) (o:=jw C s.heap.objs.size) (ao:=.exc C true) (.exc λ_=>rfl)
  have e:(s.heap.push { cls:=.type "tuple",data:=.seq vs.toArray }).objs.size=s.heap.objs.size+1:=Heap.size_push _ _
  have H3:Holds w fx m (((s.heap.objs.size+1,.exc C true)::μ)++ρ) { s with heap:=(s.heap.push { cls:=.type "tuple",data:=.seq vs.toArray }).push (jw C s.heap.objs.size) }:=by
    have:=H2
    simp only[e] at this
    exact this
  have hA:(fx.A.under (.builtin "type.__call__" ⟨.ref C::vs,[]⟩)).frames=some fx.frs:=by
    show pushEnvs [] fx.A.frames=_
    exact ok.own
  have Mw:oE (fx.A.under (.builtin "type.__call__" ⟨.ref C::vs,[]⟩)) n':=by
    have:=ok.Bm
    unfold oE at this⊢
    show fx.A.depth+1+4*n'<900∧fx.A.units+(1+3*0)+32*n'<9000
    exact id (⟨L1 [] [_,_] 259412691045313087526 129 259411912711624535078 rfl this.1,L1 [] [_,_] 2594078768660503791654 129 2594077959540607101990 rfl this.2⟩)
  refine dK (H3.code (Q:=λa σ'=>a=.none∧Q (.ref (s.heap.objs.size+1)) σ') (X:=X) ok hA (by show fx.A.handled=_;exact ok.hand) (λq=>by rw[wg];exact ok.gd q) Mw λbase' k1 k2=>h base' _ ⟨k1,k2⟩ _ (.cons (.ref _) ha)) λr s' hr=>?_
  match r,hr with
  | .error e,hr=>exact hr
  | .ok (.ret v),⟨σ',H',a,hv,ea,q⟩=>
    subst ea
    cases hv using Rv.noneE
    exact⟨rfl,m,σ',H',rfl,_,.ref _,q⟩
theorem Holds.R6 {s:Shared}{h':Heap}{k:Nat}{a:Addr}{o':Obj}{ao dB:AO}{pre post:Led}(H:Holds w fx m (pre++(a,ao)::post) s)(hs:∀ b o,b≠a→s.heap.get? b=some o→h'.get? b=some o)(ho:h'.get? a=some o')(ha:At w dB o') :
    Holds w fx m (pre++(a,dB)::post) { s with heap:=h',toks:=k }:=by
  refine dO (λg M news h=>?_) H
  refine fV (λn1 o n2 gP h1 h2=>?_) (h.zL ha);subst gP
  have hm:=h.N (a,o) (by simp)
  have nd:(n1.map (·.1)++a::n2.map (·.1)).Nodup:=by have:=h.nd;rw[←h.led.keys] at this;simpa using this
  refine⟨g,M,_,h.stays,h.keep,⟨?_,λb ob e=>?_,h.F.above⟩,λp hp=>?_,h.vars,h2,?_,h.gens,h.os⟩
  · refine jD (λoL es ep hL r=>?_) (h.F.ns)
    exact⟨oL,es,ep,hs _ _ (Ne.symm hm.2.1) hL,r⟩
  · refine hs b ob (λq=>?_) (h.F.keep b ob e)
    rw[q,hm.2.2] at e;exact nsA e
  · refine gJ (λd1 d2 d3=>?_) (List.nodup_append.mp nd)
    refine uA (λd4 d5=>?_) (List.nodup_cons.mp d2)
    rcases mA hp with hp|hp
    · have:=h.N p (List.mem_append_left _ hp)
      exact⟨hs _ _ (λq=>d3 _ (List.mem_map_of_mem hp) _ (.head _) q) this.1,this.2⟩
    · rcases List.mem_cons.mp hp with rfl|hp
      · exact⟨ho,hm.2⟩
      · have:=h.N p (List.mem_append_right _ (.tail _ hp))
        exact⟨hs _ _ (λq=>d4 (q▸List.mem_map_of_mem hp)) this.1,this.2⟩
  · simpa using h.nd
theorem Pz:typeOf (.type "ValueError")=pure (.type "type"):=by kernel_rfl
theorem KC:Manifest.isStub "ValueError"= false:=by decide +kernel
theorem Nk(w:World):findCls (KK w) (.type "ValueError") (.type "type") "__init__"= some (.val (.builtin "ValueError.__init__")):=by kernel_rfl
theorem Mx:handedIn (.builtin "ValueError.__init__")=true:=by kernel_rfl
theorem J0{C x:Addr}{fr:Bool}{as:List AV}{pre post:Led}(ok:aC w n fx)(hk:jc w C)(hz:as.length≤100)(h:Q .none (pre++(x,.exc C fr)::post)) :
  CL w fx (.bi "ValueError.__init__") (.ref x::as) m (pre++(x,.exc C fr)::post) Q X:=λvf vs hf ha s H=>by
 cases hf using Rv.qb
 cases ha using bF.cV with
 | mk h1 has=>
 cases h1 using Rv.bJ
 refine aD (λo ho hat=>?_) (H.mem (a:=x) (ao:=.exc C fr) (by simp))
 have hX:=H.lD ok
 refine cY (λnm q N bs sn sub ab col dd k0 k1 k2 k3 k5 hC=>?_) (hk.obj)
 cases hat with
 | exc hfr=>
 refine .of (wpAny_call (Ph (by decide) (hX _ _ hC) ho (by rw[has.length,sizeLine_eq];exact L1 [] [_] 1099511628981 129 6554805 rfl hz) λh' a1 e1 e2=>?_))
 exact⟨m,_,H.R6 (k:=s.toks) e1 e2 (.exc (fr:=fr) hfr),rfl,_,.none,h⟩
theorem Qf{C x:Addr}{a:AV}{pre post:Led}(ok:aC w n fx)(hk:jc w C)(h:N m (pre++(x,.exc C false)::post)):SA w fx (.ref x) "reason" a m (pre++(x,.exc C true)::post) N X:=λvo v ho hv s H=>by
 cases ho using Rv.bJ
 refine aD (λo ho hat=>?_) (H.mem (a:=x) (ao:=.exc C true) (by simp))
 have hX:=H.lD ok
 refine cY (λnm q N bs sn sub ab col dd k0 k1 k2 k3 k5 hC=>?_) (hk.obj)
 cases hat with
 | exc hfr=>
 obtain rfl:=hfr rfl
 refine .of (Ti hX (hX _ _ hC) hk.set hk.no hk.mro ho λh' k d e1 e2=>?_)
 exact⟨m,_,H.R6 (k:=k) e1 e2 (.exc (fr:=false) λq=>by exact jN q),h⟩
theorem Jg(env:Env)(x:Sem Value):raiseStmt env (some x) none=x >>= λv=>raiseStmt env (some (pure v)) none:=rfl
theorem K1{e:Expr}{pos}{C:Addr} (ok:aC w n fx) (hk:jc w C) (hX:X (.ref C)) (h:EV w fx e m σ (λa σ'=>∃ x fr,a=.ref x∧(x,.exc C fr)∈σ') X) :
  S1 w fx (.Raise (some e) none pos) m σ N R X:=by
 show WP w fx (do standAt pos;raiseStmt fx.env (some (do let v ←eval e fx.env;standAt pos;pure v)) none) m σ _ X
 refine WP.bind (WP.standAt ?_)
 rw[Jg]
 refine WP.bind (V1.aY (V1.mono h λa σ' ⟨x,fr,e1,hm⟩ v hv=>WP.bind (WP.standAt (WP.pure λs H=>?_))))
 subst e1;cases hv using Rv.bJ
 refine dO (λg M news H=>?_) H
 refine aD (λo hmem hat=>?_) (H.led.mem (List.mem_append_left fx.fz hm))
 have hN:=H.N _ hmem
 refine cY (λnm q N' bs sn sub ab col dd k0 k1 k2 k3 k5 hC=>?_) (hk.obj)
 have hK:(KK w).In s.heap:=ok.lD.keeps λb o e=>H.F.keep _ _ (H.stays _ _ e)
 have nM:g.FunFrames fx.base fx.rest:=H.keep.ff ok.ff
 have hff:=H.frames ok
 cases hat with
 | exc hfr=>
 rename_i a0 od sl
 have hE:XR w fx X (.ref x) s:=by
  refine⟨x,.ref C,.ref a0,rfl,hX,⟨M,H.F.ns⟩,(λb o e=>Nat.lt_of_lt_of_le (Heap.lt_size (H.stays b o e)) H.F.above),(λe he b hb=>?_),H.keep.trans (bk.of_stays H.F.keep),H.gens,H.os,(λb o e=>H.F.keep _ _ (H.stays _ _ e)),fB H.stays hN.2.2,fB H.stays H.oK,hff,.inr ⟨_,_,hN.1,rfl,rfl,rfl,rfl⟩⟩
  refine bw (λL' o2 h2 h3=>?_) (funFrames_in nM e he)
  rw[hb] at h2;cases h2
  exact Nat.lt_of_lt_of_le (Heap.lt_size h3) H.F.above
 have hcB:(Value.ref C::q8).contains (.type "BaseException")=true:=by rw[List.contains_cons,show q8.contains (.type "BaseException")=true from by decide,Bool.or_true]
 have Q0:=hK _ _ hC
 have hes:=hN.1
 have hh:=ok.hand
 refine .of ?_
 obtain⟨hp,g',d',tk,os⟩:=s
 unfold raiseStmt
 repeat (first|with_reducible refine wpAny_loadPart_at hes ?_|with_reducible refine wpAny_loadPart_at Q0 ?_|(with_reducible refine wpAny_isSubtype_exc Q0 ?_;rw[hcB])|wp_step)
 exact wpAny_raiseNew_none hh hE
end
section
variable{w:World}{A:Around}{E:Value→Shared→Prop}
variable{nm q nm' q':Str}{C N D N':Addr}{bs bs':List Value}{hdct Vp:Bool}{sn WL:List Str}{sub sub':List Value}{ab ab':Bool}{col col':Option Bool}{dd Z5:Option Addr}{k0 k1 k2 k3 k5 Zd k1' k2' Zc Zb:Option Value}
theorem Fo{h:Heap}{g:Array GenState}{d:Drawn}{t:Nat}{os:OsState}{e:Addr}{oe:Obj}{b:Bool}{Q:Bool→Shared→Prop}
  (hC:h.get? C=some (excClassObj nm q C N bs q8 hdct sn sub ab col dd k0 k1 k2 k3 k5 "ValueError.__new__"))(hD:h.get? D=some (excClassObj nm' q' D N' bs' q8 Vp WL sub' ab' col' Z5 Zd k1' k2' Zc Zb "ValueError.__new__"))
  (he:h.get? e=some oe)(hcls:oe.cls=.ref C)(hb:(Value.ref C::q8).contains (.ref D)=b)(hq:Q b ⟨h,g,d,t,os⟩):wpAny (model Pr w) A (excMatches (.ref e) (.ref D)) Q E ⟨h,g,d,t,os⟩:=by
 have hcB:(Value.ref D::q8).contains (.type "BaseException")=true:=by rw[List.contains_cons,show q8.contains (.type "BaseException")=true from by decide,Bool.or_true]
 have f:=tc_notTuple
 unfold excMatches
 repeat (first|(with_reducible refine wpAny_loadPart_at he ?_;rw[hcls])|with_reducible refine wpAny_loadPart_at hD ?_|(with_reducible refine wpAny_isSubtype_exc hD ?_;rw[hcB])|(with_reducible refine wpAny_isSubtype_exc hC ?_;rw[hb])|wp_step)
 cases b<;>(wp_walk;exact hq)
end
section
variable{w:World}{fx:Fx}{m m':au}{σ σ':Led}{X:Value→Prop}{n n':Nat}{x y:Int}{N:au→Led→Prop}{R:AV→Led→Prop}
theorem Jl{A:Around}{E:Value→Shared→Prop}{s:Shared}{x:Str}{pos:Pos}{v:Value}{names}{Q:Value→Shared→Prop} (ok:aC w n fx) (hk:iZ fx names) (h1:(x,NameKind.globalImplicit)∈names)
  (hg:nsIn (KK w) mainGlobals x=some (some v))(K:(KK w).In s.heap)(T:tU s.heap)(hq:Q v s):wpAny (model Pr w) A (eval (.Name x pos) fx.env) Q E s:=by
 obtain⟨⟨mg,mb,n1,n2,n3⟩,_⟩:=T
 exact Name_function_global ok.kind (hk _ h1).1 (loadGlobal_global (by rw[ok.glob];exact n1) (mg_of K n1 hg) hq) (hk _ h1).2
theorem pF{A:Around}{E:Value→Shared→Prop}{s:Shared}{ea:Addr}{a0:Value}{C D:Addr}{b:Bool}{Uy s1:Str}{np q1 r1 hp:Pos}{k1}{rest:List ExceptHandler}{names}{Q:Flow→Shared→Prop}
    (ok:aC w n fx)(hk:iZ fx names)(h1:(Uy,NameKind.globalImplicit)∈names)(hg:nsIn (KK w) mainGlobals Uy=some (some (.ref D)))(hC:jc w C)(hD:jc w D)
    (hb:(Value.ref C::q8).contains (.ref D)=b)(hfl:Heap.FlyingW fx.base (fx.env::fx.rest) ea (.ref C) a0 s.heap)
    (hq1:b=true→∀ h' tk k,Heap.FlyingW fx.base (fx.env::fx.rest) ea (.ref C) a0 h'→s.heap.UpToSlots h'→Q (.ret (.str s1 tk)) { s with heap:=h',toks:=k })
    (hq2:b=false→wpAny (model Pr w) A (handleBy (.ref ea) fx.env rest) Q E s) :
    wpAny (model Pr w) A (handleBy (.ref ea) fx.env (.ExceptHandler (some (.Name Uy np)) none [.Return (some (.Constant (.str s1) k1 q1)) r1] hp::rest)) Q E s:=by
  have K:=ok.lD.keeps hfl.1
  refine aD (λoe he hcls=>?_) (hfl.there)
  refine cY (λnm q N bs sn sub ab col dd k0 k1 k2 k3 k5 hCl=>?_) (hC.obj)
  refine cY (λnm' q' N' bs' WL sub' ab' col' Z5 Zd k1' k2' Zc Zb hDl=>?_) (hD.obj)
  refine wpAny_handleBy_cons (codeAny_handlers_test (Jl ok hk h1 hg K (ok.top.keeps hfl.1) ?_)) (by intro q;cases q)
  obtain⟨hh,g,d,tk,os⟩:=s
  refine Fo (K _ _ hCl) (K _ _ hDl) he hcls hb ?_
  cases b with
  | false=>exact hq2 rfl
  | true=>
    refine codeAny_handlers_suite (lands_againW hfl λh6 Zz Zi=>?_)
    rw[execs_cons,exec_Return_some]
    refine wpAny_bind (wpAny_bind (wpAny_standAt (wpAny_bind (wpAny_Constant_str (wpAny_pure (wpAny_pure ?_))))))
    exact hq1 rfl h6 _ _ Zz Zi
theorem xG.landed{s:Shared}{ea:Addr}{cls a0:Value}{h':Heap}{k:Nat}(ok:aC w n fx)(hfz:fx.fz=[])(H:xG w fx X s ea cls a0)(hs:fx.base.StaysIn h')(hu:s.heap.UpToSlots h'):Holds w fx [] [] { s with heap:=h',toks:=k }:=by
 refine uE (λM hM=>?_) (H.ns)
 have hr:s.heap.FunFrames fx.base fx.rest:=by
  rcases ok.cases with q|⟨q,_⟩
  ·rw[←q];exact H.frames
  ·have:=H.frames;rw[q] at this;exact this.2.2
 have hkeep:=H.keep.trans (bk.of_slots hr hu)
 refine⟨trunc fx.env.locals h',M,[],λb o e=>(bQ _ _ _ _).mpr ⟨hs b o e,H.above b o e⟩,λe he b o hf ho=>?_,⟨hu.ns hM,λb o e=>((bQ _ _ _ _).mp e).1,gV _ _⟩,News.nil,⟨List.nodup_nil,λx a h=>by cases h⟩,by rw[hfz];exact .nil,by rw[hfz];exact List.nodup_nil,H.gens,H.os⟩
 refine uE (λsl h1=>?_) (hkeep e he b o hf ho)
 exact⟨sl,(bQ _ _ _ _).mpr ⟨h1,H.Az e he b hf⟩⟩
theorem Qg {body:List Stmt}{n1 n2 s1 s2:Str}{Uw Uv q1 q2 r1 r2 hp1 hp2 pos:Pos}{k1 k2}{C1 C2:Addr}{names}{X0:Value→Prop} (ok:aC w n fx) (ow:bU fx) (hcl:fx.cl=false) (hfz:fx.fz=[]) (hk:iZ fx names)
    (i1:(n1,NameKind.globalImplicit)∈names)(i2:(n2,NameKind.globalImplicit)∈names)(g1:nsIn (KK w) mainGlobals n1=some (some (.ref C1)))(g2:nsIn (KK w) mainGlobals n2=some (some (.ref C2)))(e1:jc w C1)(e2:jc w C2)
    (hne:C1≠C2)(Vw:C1≠39)(hX:∀ c,X0 c→(c=.ref C1∧R (.str s1) [])∨(c=.ref C2∧R (.str s2) []))
    (hb:SS w fx body m σ N R X0) :
    S1 w fx (.Try body [.ExceptHandler (some (.Name n1 Uw)) none [.Return (some (.Constant (.str s1) k1 q1)) r1] hp1,.ExceptHandler (some (.Name n2 Uv)) none [.Return (some (.Constant (.str s2) k2 q2)) r2] hp2] [] [] pos) m σ N R X:=λs H=>by
  refine .of (wpAny_Try_except (wpAny_mono (toAny hcl (hb s H)) (λf s9 h=>?_) λe s9 hx=>?_))
  · cases f with
    | next=>exact wpAny_pure h
    | ret v=>exact h
    | brk=>exact h
    | cont=>exact h
  · refine XR.noted ok ow hx λs' h=>?_
    refine fV (λea cls a0 gP H' ht=>?_) h;subst gP
    have hff:s'.heap.FunFrames fx.base (fx.env::fx.rest):=ow.1▸H'.frames
    refine wpAny_landsW (L:=fx.env.locals) ⟨H'.stays,H'.new,hff,ht⟩ λh5 hfl hsm=>?_
    rcases hX cls H'.ok with⟨rfl,hr⟩|⟨rfl,hr⟩
    · refine pF ok hk i1 g1 e1 e1 (b:=true) (by simp) hfl (λ_ h' tk k hfl' Mq=>?_) λq=>by exact jN q.symm
      exact⟨[],[],H'.landed (s:=s') ok hfz hfl'.1 (Heap.UpToSlots.trans hsm Mq),.str s1,.str _ _,hr⟩
    · refine pF ok hk i1 g1 e2 e1 (b:=false) ?_ hfl (λq=>by exact jN q) λ_=>?_
      · simp only[q8,List.contains_cons,Bool.or_eq_false_iff]
        refine⟨by simp[Ne.symm hne];exact λq=>hne q,by simpa using Vw,by simp⟩
      · refine pF ok hk i2 g2 e2 e2 (b:=true) (by simp) hfl (λ_ h' tk k hfl' Mq=>?_) λq=>by exact jN q.symm
        exact⟨[],[],H'.landed (s:=s') ok hfz hfl'.1 (Heap.UpToSlots.trans hsm Mq),.str s2,.str _ _,hr⟩
end
theorem Holds.eX{w:World}{fx:Fx}{m:au}{σ σ' ρ:Led}{s:Shared}(H:Holds w fx m σ s)(p:σ.Perm (σ'++ρ)):Holds w fx m σ' s:=
 H.weaken (λ_ _ h=>h) (let ⟨_,_,_,h⟩:=H;h.vars.nd) p
noncomputable def FOR(w:World)(fx:Fx)(t:Expr)(body:List Stmt)(a:AV)(m:au)(σ:Led)(N:au→Led→Prop)(R:AV→Led→Prop)(X:Value→Prop):Prop:=
 PIT w fx a m σ t (λI cnt own item pre σ2=>∃ Inv:Nat→au→Led→Prop,Inv 0 m σ2∧(∀ k m σ,Inv k m σ→pre fx σ)∧(∀ m σ,Inv cnt m σ→∃ σ' ρ,σ.Perm (σ'++ρ)∧N m σ')∧
  ∀ k,k<cnt→∀ m σ,Inv k m σ→∀ a ex,item k a ex→AS w fx t a m (own (k+1)++(ex++σ)) (λm' σ'=>SS w fx body m' σ' (λm'' eU=>∃ σ3,eU.Perm (own (k+1)++σ3)∧Inv (k+1) m'' σ3) R X) X) X
theorem Ri{w:World}{fx:Fx}{m:au}{σ:Led}{X:Value→Prop}{n:Nat}{N:au→Led→Prop}{R:AV→Led→Prop}{t it:Expr}{body:List Stmt}{pos:Pos}(ok:aC w n fx)(ow:bU fx)(hs:∀ x,foldedSetIterable it fx.env x=pure x)
    (h:EV w fx it m σ (λa σ₁=>FOR w fx t body a m σ₁ N R X) X):S1 w fx (.For t it body [] pos) m σ N R X:=by
  have hP:=XR.passes (X:=X) ok ow
  have e:exec (.For t it body [] pos) fx.env=(do
      standAt pos
      let x ←foldedSetIterable it fx.env (←eval it fx.env)
      standAt it.pos
      runOwn (.forLoop t (←PySem.holding [x] (pyIter x)) body [] fx.env) fx.env):=rfl
  show WP w fx (exec _ fx.env) m σ _ X
  rw[e]
  refine WP.bind (WP.standAt (V1.aY (V1.mono h λa σ₁ h₁ va hva=>?_)))
  rw[hs]
  show WP w fx (standAt it.pos >>= λ_=>(PySem.holding [va] (pyIter va) >>= λI=>runOwn (.forLoop t I body [] fx.env) fx.env)) _ _ _ X
  refine WP.bind (WP.standAt (WP.bind (WP.holding (WP.mono (h₁ va hva) λr m' σ' q=>?_))))
  refine rC (λgP I cnt own item pre σ2 kj nD IT Inv i0 Ik Ze turn=>?_) q;subst gP;subst kj;subst nD
  intro s H
  refine sS (tH rfl rfl (λj s=>∃ k m σ,j+k=cnt∧Holds w fx m (own k++σ) s∧Inv k m σ) (λj s=>fV λk m σ hj H hI=>?_) cnt ⟨0,m',σ2,rfl,H,i0⟩)
  refine uI ?_
  simp only[forTurn]
  refine ak (gY (ak (jk ?_)))
  rcases Nat.lt_or_ge k cnt with hlt|hge
  · refine aV (IT.next fx n ok k hlt m σ X (Ik _ _ _ hI) s H) (λr s₁=>zM λm0 σ0 H0 v e3 hw=>?_) λe s' x=>gY (hP e s' x)
    subst e3
    refine ak (aV (hw s₁ H0) (λ_ s₁'=>uN λm1 σ1 H1 e1 a ex hv hit e2=>?_) hP)
    subst e1 e2
    refine ak (aV (turn k hlt m1 σ hI a ex hit v hv s₁' H1) (λ_ s₂=>bw λm2 σ2 H2 q2=>?_) hP)
    refine ak (aV (q2 s₂ H2) (λf s₃=>bw λm3 σ3 H3 q3=>?_) hP)
    cases f with
    | next=>
      refine aD (λσ4 p q=>?_) q3
      exact aJ (.inl ⟨rfl,j-1,by exact L1 [] [_,_] 12470 129 3225431079 rfl (sC j 1 (L2 [] [_,_,_] 721925 8257 55323687 13510 rfl hj hlt)),k+1,m3,σ4,by exact nA (L2 [] [_,_,_,_] 14310881504293 8321 55326759 3762301991 rfl hj (sC j 1 (L2 [] [_,_,_] 721925 8257 55323687 13510 rfl hj hlt))) (L2 [] [_,_,_,_] 1103010465973 4161 47003687 3762303015 rfl hj (sC j 1 (L2 [] [_,_,_] 721925 8257 55323687 13510 rfl hj hlt))),H3.perm p,q⟩)
    | ret v=>exact aJ ⟨m3,σ3,H3,q3⟩
    | brk=>exact q3.elim
    | cont=>exact q3.elim
  · obtain rfl:k=cnt:=nA (L1 [] [_,_,_] 12469 129 51065895 rfl hj) (L1 [] [_,_] 12469 129 12469 rfl hge)
    refine aV (IT.done fx n ok m σ X (Ik _ _ _ hI) s H) (λr s₁=>lO λm1 σ1 H1 e1 e2 e3=>?_) λe s' x=>gY (hP e s' x)
    subst e1 e2 e3
    refine bw (λσ5 ρ p q=>?_) (Ze _ _ hI)
    exact aJ (.inr ⟨rfl,.of (codeAny_block (wpAny_execs_nil ⟨m1,σ5,H1.eX p,q⟩))⟩)
inductive It where
 | e (e:Expr)|t (e:Expr)|es (pos:Pos) (es:List Expr)|cons
 | bin (op:Operator) (lit:Bool)|cmp (op:CmpOp)|uni (op:UnaryOp)|FP|not|bo (op:BoolOp) (es:List Expr)|Oh (es:List Expr)|boo (es:List Expr)|Fe (b:Expr)
 | Mp (b o:Expr)|ifs (b o:List Stmt)|keep|cg|wX|gm (name:Str)
 | sub (v s:Expr)|ga (name:Str)|part (e:Option Expr)|Ij|asg (t:Expr)|sa (name:Str)|si|ln (x:Str)|bn (x:Str)
 | inp (op:Operator)|st (s:Stmt)|ss (sts:List Stmt)|ret|exp|Qv|Qu|wh (b:List Stmt) (P:au→Led→Prop)|bot (P:au→Led→Prop)|tD
 | dup|Ql|nl|fr (t:Expr) (b:List Stmt)|dN (K:List AV→au→Led→Prop)|spl (b:Bool)|RJ (e:Expr)
noncomputable abbrev bR:=List (List AV)
structure Cx where
 w:World
 fx:Fx
 X:Value→Prop
 R:AV→Led→Prop
 ca:List Addr
noncomputable def br(q:Bool)(A B:Prop):Prop:=match q with
 | true=>A
 | false=>B
theorem aO{p:Prop} [Decidable p] {A B:Prop} (h1:p→A) (h2:¬p→B):br (decide p) A B:=by
 by_cases h:p
 ·rw[decide_eq_true h];exact h1 h
 ·rw[decide_eq_false h];exact h2 h
theorem RK{q:Bool}{A B:Prop}(h:br q B A):br (!q) A B:=by cases q<;>exact h
theorem jy{q:Bool}{A B C D:Prop}(h:br q A B)(k1:A→C)(k2:B→D):if q=true then C else D:=by cases q<;>first|exact k1 h|exact k2 h
noncomputable def Out(c:Cx)(a:AV)(σ:Led):Prop:=∃ μ ρ,σ.Perm (μ++ρ)∧c.R a μ
noncomputable def one(vs:bR)(K:AV→bR→Prop)(E:Prop):Prop:=match vs with
 | [a]::vs=>K a vs
 | _=>E
noncomputable def two(vs:bR)(K:AV→AV→bR→Prop)(E:Prop):Prop:=one vs (λb vs=>one vs (λa vs=>K b a vs) E) E
noncomputable def S9(a:AV)(K:Bool→Prop)(E:Prop):Prop:=match a with
 | .bool q=>K q
 | _=>E
noncomputable def iI(vs:bR)(K:Bool→bR→Prop)(E:Prop):Prop:=one vs (λa vs=>S9 a (λq=>K q vs) E) E
noncomputable def lst(vs:bR)(K:List AV→bR→Prop)(E:Prop):Prop:=match vs with
 | as::vs=>K as vs
 | []=>E
theorem uq{vs:bR}{K:AV→bR→Prop}{E P:Prop}(h:one vs K E)(k:∀ a vs',vs=[a]::vs'→K a vs'→P)(e:E→P):P:=by
  cases vs with
  | nil=>exact e h
  | cons as vs=>
    cases as with
    | nil=>exact e h
    | cons a l=>
      cases l with
      | nil=>exact k a vs rfl h
      | cons _ _=>exact e h
theorem Og{a:AV}{K:Bool→Prop}{E P:Prop}(h:S9 a K E)(k:∀ q,a=.bool q→K q→P)(e:E→P):P:=by
 cases a<;>first|exact k _ rfl h|exact e h
theorem Qy{vs:bR}{K:List AV→bR→Prop}{E P:Prop}(h:lst vs K E)(k:∀ as vs',vs=as::vs'→K as vs'→P)(e:E→P):P:=by
 cases vs with
 | nil=>exact e h
 | cons as vs=>exact k as vs rfl h
theorem PK{vs:bR}{K:AV→AV→bR→Prop}{E P:Prop}(h:two vs K E)(k:∀ b a vs',vs=[b]::[a]::vs'→K b a vs'→P)(e:E→P):P:=
 uq h (λb vs' e1 h1=>uq h1 (λa vs2 e2 h2=>k b a vs2 (by rw[e1,e2]) h2) e) e
theorem Li{vs:bR}{K:Bool→bR→Prop}{E P:Prop}(h:iI vs K E)(k:∀ q vs',vs=[.bool q]::vs'→K q vs'→P)(e:E→P):P:=
 uq h (λa vs' e1 h1=>Og h1 (λq e2 h2=>k q vs' (by rw[e1,e2]) h2) e) e
noncomputable def spl(b:Bool)(as:List AV):bR:=(match b with
 | true=>as.reverse
 | false=>as).map λa=>[a]
noncomputable abbrev Kont:=bR→au→Led→Prop
noncomputable def den(c:Cx)(i:It)(k:Kont):Kont:=λvs m σ=>match i with
 | .e e=>EV c.w c.fx e m σ (λa σ'=>k ([a]::vs) m σ') c.X
 | .t e=>TS c.w c.fx e m σ (λq σ'=>k ([.bool q]::vs) m σ') c.X
 | .es pos es=>oA c.w c.fx pos es m σ (λas σ'=>k (as::vs) m σ') c.X
 | .cons=>lst vs (λas vs=>one vs (λa vs=>k ((a::as)::vs) m σ) False) False
 | .bin op _=>two vs (λb a vs=>O2 c.w c.fx op a b m σ (λv σ'=>k ([v]::vs) m σ') c.X) False
 | .cmp op=>two vs (λb a vs=>C2 c.w c.fx op a b m σ (λq σ'=>k ([.bool q]::vs) m σ') c.X) False
 | .uni op=>one vs (λa vs=>U1 c.w c.fx op a m σ (λv σ'=>k ([v]::vs) m σ') c.X) False
 | .FP=>one vs (λa vs=>T1 c.w c.fx a m σ (λq σ'=>k ([.bool q]::vs) m σ') c.X) False
 | .not=>iI vs (λq vs=>k ([.bool (!q)]::vs) m σ) False
 | .bo op es=>BO c.w c.fx op es m σ (λq σ'=>k ([.bool q]::vs) m σ') c.X
 | .Oh es=>iI vs (λq vs=>br q (BO c.w c.fx .And es m σ (λq σ'=>k ([.bool q]::vs) m σ') c.X) (k ([.bool false]::vs) m σ)) False
 | .boo es=>iI vs (λq vs=>br q (k ([.bool true]::vs) m σ) (BO c.w c.fx .Or es m σ (λq σ'=>k ([.bool q]::vs) m σ') c.X)) False
 | .Fe b=>iI vs (λq vs=>one vs (λv vs=>br q (EV c.w c.fx b m σ (λa σ'=>k ([a]::vs) m σ') c.X) (k ([v]::vs) m σ)) False) False
 | .Mp b o=>iI vs (λq vs=>br q (EV c.w c.fx b m σ (λa σ'=>k ([a]::vs) m σ') c.X) (EV c.w c.fx o m σ (λa σ'=>k ([a]::vs) m σ') c.X)) False
 | .ifs b o=>iI vs (λq vs=>br q (SS c.w c.fx b m σ (λm' σ'=>k vs m' σ') (Out c) c.X) (SS c.w c.fx o m σ (λm' σ'=>k vs m' σ') (Out c) c.X)) False
 | .keep=>one vs (λf vs=>gn c.w f∧k ([f]::vs) m σ) False
 | .cg=>lst vs (λas vs=>one vs (λf vs=>CL c.w c.fx f as m σ (λa σ'=>k ([a]::vs) m σ') c.X) False) False
 | .gm name=>one vs (λo vs=>GM c.w c.fx o name m σ (λf fa σ'=>gn c.w f∧k (fa::[f]::vs) m σ') c.X) False
 | .wX=>lst vs (λas vs=>lst vs (λfa vs=>one vs (λf vs=>CL c.w c.fx f (fa++as) m σ (λa σ'=>k ([a]::vs) m σ') c.X) False) False) False
 | .sub v s=>two vs (λi o vs=>GI c.w c.fx v s o i m σ (λa σ'=>k ([a]::vs) m σ') c.X) False
 | .ga name=>one vs (λo vs=>GA c.w c.fx o name m σ (λa σ'=>k ([a]::vs) m σ') c.X) False
 | .part e=>EP c.w c.fx e m σ (λa σ'=>k ([a]::vs) m σ') c.X
 | .Ij=>two vs (λd b vs=>one vs (λa vs=>∃ i j l,iR a i∧iR b j∧iR d l∧∀ S,∃ σ',(((S,.slice i j l)::σ:Led)).Perm σ'∧k ([.ref S]::vs) m σ') False) False
 | .asg t=>one vs (λa vs=>AS c.w c.fx t a m σ (λm' σ'=>k vs m' σ') c.X) False
 | .sa name=>two vs (λo a vs=>SA c.w c.fx o name a m σ (λm' σ'=>k vs m' σ') c.X) False
 | .si=>two vs (λi o vs=>one vs (λa vs=>SI c.w c.fx o i a m σ (λm' σ'=>k vs m' σ') c.X) False) False
 | .ln x=>LN c.w c.fx x m σ (λa σ'=>k ([a]::vs) m σ') c.X
 | .bn x=>one vs (λa vs=>BN c.w c.fx x a m σ (λm' σ'=>k vs m' σ') c.X) False
 | .inp op=>two vs (λb a vs=>I2 c.w c.fx op a b m σ (λv σ'=>k ([v]::vs) m σ') c.X) False
 | .st s=>S1 c.w c.fx s m σ (λm' σ'=>k vs m' σ') (Out c) c.X
 | .ss sts=>SS c.w c.fx sts m σ (λm' σ'=>k vs m' σ') (Out c) c.X
 | .ret=>one vs (λa _=>Out c a σ) False
 | .exp=>one vs (λa vs=>a=.none∧k vs m σ) False
 | .Qv=>lst vs (λas vs=>∀ t,∃ σ',(((t,.list as)::σ:Led)).Perm σ'∧k ([.ref t]::vs) m σ') False
 | .Qu=>lst vs (λas vs=>∀ t,∃ σ',(((t,.tuple as)::σ:Led)).Perm σ'∧k ([.ref t]::vs) m σ') False
 | .wh b P=>iI vs (λq vs=>br q (SS c.w c.fx b m σ P (Out c) c.X) (k vs m σ)) False
 | .bot P=>P m σ
 | .tD=>Out c .none σ
 | .dup=>one vs (λo vs=>k ([o]::[o]::vs) m σ) False
 | .Ql=>two vs (λa o vs=>k ([o]::[a]::vs) m σ) False
 | .nl=>k ([]::vs) m σ
 | .fr t b=>one vs (λa vs=>FOR c.w c.fx t b a m σ (λm' σ'=>k vs m' σ') (Out c) c.X) False
 | .dN K=>lst vs (λas _=>K as m σ) False
 | .RJ e=>iI vs (λq vs=>br q (EV c.w c.fx e m σ (λa σ'=>k ([a]::vs) m σ') c.X) (k ([]::vs) m σ)) False
 | .spl b=>lst vs (λas vs=>k (spl b as++vs) m σ) False
noncomputable def D(c:Cx):List It→Kont
 | []=>λ_ _ _=>False
 | i::r=>den c i (D c r)
noncomputable abbrev Gs:=List Led
noncomputable def flat:Gs→Led
 | []=>[]
 | g::r=>g++flat r
structure NM where
 vn:List Str
 cn:List Str
 kn:List (Str×NameKind)
noncomputable abbrev Vs:=List (Option AV)
noncomputable def mk(nm:NM)(xs:Vs):au:=nm.vn.zip xs
noncomputable def bK:List Addr→Vs→Led
 | a::l,v::r=>(a,.cell v)::bK l r
 | _,_=>[]
noncomputable def led(c:Cx)(ys:Vs)(gs:Gs):Led:=bK c.ca ys++flat gs
structure Cx.Ok(c:Cx)(n:Nat)(nm:NM):Prop where
 ok:aC c.w n c.fx
 hk:iZ c.fx nm.kn
 hc:c.fx.env.cells=nm.cn.zip c.ca
 hl:nm.cn.length=c.ca.length
noncomputable def GN:List (String×Nat):=[("_law_take",471),("PressError",39),("CutShort",52),("BadTable",64),("BadArgument",76),("need_count",85),("need_value",92),("gathered",99),("LowWriter",165),("BackReader",214),("BackWriter",256),("places_of",267),("high_bit",274),("counts_fault",279),("spread",284),("FseTable",320),("FseReader",369),("FseWriter",418),("pack_symbols",429),("unpack_symbols",436),("pack_turns",443),("unpack_turns",450),("_law_cell",457),("_law_box",464),("_law_drawn",478),("_law_spread",483),("_law_cells",490),("_law_bytes",495),("_law_low",500),("_law_ahead",507),("_law_least",512),("_law_one",519),("_law_two",526),("_law_digits",531),("_law_number",538),("_law_single",545),("_law_turns",552),("_law_told",559),("_law_bent",564),("_law_read_right",571)]
noncomputable def GB:List String:=["len","max","min","abs","sum","isinstance"]
noncomputable def R5:List String:=["range","int","list","bytes","dict","bool","enumerate","bytearray","ValueError"]
theorem Ws(w:World):∀ p∈GN,nsIn (KK w) mainGlobals (Str.ofString p.1)=some (some (.ref p.2)):=by
 have h:GN.map (λp=>nsIn (KK w) mainGlobals (Str.ofString p.1))=GN.map (λp=>some (some (.ref p.2))):=by kernel_rfl
 exact List.map_inj_left.mp h
noncomputable def KT:List Nat:=[120,127,141,148,162,190,197,204,211,239,253,303,310,317,345,352,359,366,394,401,408,415]
theorem Wo(w:World):∀ p∈GN,keepIn (KK w) (.ref p.2)=true:=by
 have h:GN.map (λp=>keepIn (KK w) (.ref p.2))=GN.map (λ_=>true):=by kernel_rfl
 exact List.map_inj_left.mp h
theorem Wn(w:World):∀ a∈KT,keepIn (KK w) (.ref a)=true:=by
 have h:KT.map (λa=>keepIn (KK w) (.ref a))=KT.map (λ_=>true):=by kernel_rfl
 exact List.map_inj_left.mp h
theorem Wt(w:World):∀ x∈GB,nsIn (KK w) mainGlobals (Str.ofString x)=some none∧bootBuiltins (Str.ofString x)=some (.builtin x)∧Str.ofString x≠ "__name__":=by
 have h:GB.map (λx=>(nsIn (KK w) mainGlobals (Str.ofString x),bootBuiltins (Str.ofString x),decide (Str.ofString x≠ "__name__")))=GB.map (λx=>(some none,some (.builtin x),true)):=by kernel_rfl
 exact λx hx=>by
  have:=List.map_inj_left.mp h x hx
  simp only[Prod.mk.injEq] at this
  exact⟨this.1,this.2.1,of_decide_eq_true this.2.2⟩
theorem R4(w:World):∀ x∈R5,nsIn (KK w) mainGlobals (Str.ofString x)=some none∧bootBuiltins (Str.ofString x)=some (.type x)∧Str.ofString x≠ "__name__":=by
 have h:R5.map (λx=>(nsIn (KK w) mainGlobals (Str.ofString x),bootBuiltins (Str.ofString x),decide (Str.ofString x≠ "__name__")))=R5.map (λx=>(some none,some (.type x),true)):=by kernel_rfl
 exact λx hx=>by
  have:=List.map_inj_left.mp h x hx
  simp only[Prod.mk.injEq] at this
  exact⟨this.1,this.2.1,of_decide_eq_true this.2.2⟩
noncomputable def GT:List (Str×AV):=GN.map (λp=>(Str.ofString p.1,AV.ref p.2))++(GB.map (λx=>(Str.ofString x,AV.bi x))++(R5.map (λx=>(Str.ofString x,AV.typ x))++[(Str.ofString "LEAST_LOG",AV.int 5),(Str.ofString "MOST_LOG",AV.int 20)]))
theorem Wr(w:World):∀ p∈GT,GL w p.1 p.2:=λp hp=>by
 rcases mA hp with h|h
 ·obtain⟨q,hq,rfl⟩:=mM h
  exact⟨_,.ref _,.inl (Ws w q hq)⟩
 rcases mA h with h|h
 ·obtain⟨q,hq,rfl⟩:=mM h
  exact⟨_,.bi _,.inr (Wt w q hq)⟩
 rcases mA h with h|h
 ·obtain⟨q,hq,rfl⟩:=mM h
  exact⟨_,.typ _,.inr (R4 w q hq)⟩
 ·rcases List.mem_cons.mp h with rfl|h
  ·exact⟨_,.int _ 507,.inl (by kernel_rfl)⟩
  ·obtain rfl:=List.mem_singleton.mp h
   exact⟨_,.int _ 509,.inl (by kernel_rfl)⟩
noncomputable def dX(x:Str):List (Str×NameKind)→Option NameKind
 | []=>none
 | (y,k)::l=>if y=x then some k else dX x l
noncomputable def getL(x:Str)(K:AV→Prop)(E:Prop):List Str→Vs→Prop
 | y::l,v::m=>if y=x then(match v with|some a=>K a|none=>E) else getL x K E l m
 | _,_=>E
noncomputable def pJ(x:Str)(a:AV)(E:Prop):List Str→Vs→(Vs→Prop)→Prop
 | y::l,v::m,K=>if y=x then K (some a::m) else pJ x a E l m λm'=>K (v::m')
 | _,_,_=>E
noncomputable def glob(x:Str)(K:AV→Prop)(E:Prop):List (Str×AV)→Prop
 | []=>E
 | (y,v)::l=>if y=x then K v else glob x K E l
noncomputable def ji(a b:AV)(K:Int→Int→Prop)(E:Prop):Prop:=match a with
  | .int x=>match b with
    | .int y=>K x y
    | _=>E
  | _=>E
noncomputable def K5(y:Int)(K E:Prop):Prop:=match y with
 | .ofNat (n+1)=>br (Nat.ble (n+1) 18446744073709551615) K E
 | _=>E
noncomputable def o2(op:Operator)(lit:Bool)(a b:AV)(K:AV→Prop)(E:Prop):Prop:=ji a b (λx y=>match op with
 | .Add=>K (.int (x+y))
 | .Sub=>K (.int (x-y))
 | .BitAnd=>K (.int (Builtin.bitAnd x y))
 | .BitOr=>K (.int (Builtin.bitOr x y))
 | .Mod=>br lit (K5 y (K (.int (x.fmod y))) E) E
 | .FloorDiv=>br lit (K5 y (K (.int (x.fdiv y))) E) E
 | _=>E) E
noncomputable def i2(op:Operator)(a b:AV)(K:AV→Prop)(E:Prop):Prop:=ji a b (λx y=>match op with
 | .Add=>K (.int (x+y))
 | .Sub=>K (.int (x-y))
 | .BitOr=>K (.int (Builtin.bitOr x y))
 | _=>E) E
noncomputable def c2(op:CmpOp)(a b:AV)(K:Bool→Prop)(E:Prop):Prop:=match op with
 | .Is=>(match b with|.none=>K a.isNone|_=>E)
 | .IsNot=>(match b with|.none=>K (!a.isNone)|_=>E)
 | .Lt=>ji a b (λx y=>K (decide (x<y))) E
 | .LtE=>ji a b (λx y=>K (decide (x≤y))) E
 | .Gt=>ji a b (λx y=>K (decide (x>y))) E
 | .GtE=>ji a b (λx y=>K (decide (x ≥ y))) E
 | .Eq=>ji a b (λx y=>K (decide (x=y))) E
 | .NotEq=>ji a b (λx y=>K (!decide (x=y))) E
 | _=>E
noncomputable def t1(a:AV)(K:Bool→Prop)(E:Prop):Prop:=match a with
 | .bool b=>K b
 | .int x=>K (!decide (x=0))
 | _=>E
noncomputable def Y9(op:UnaryOp)(a:AV)(K:AV→Prop)(E:Prop):Prop:=match op with
 | .USub=>ji a a (λx _=>K (.int (-x))) E
 | _=>E
noncomputable def Y8(a:AV)(K E:Prop):Prop:=match a with
 | .none=>K
 | _=>E
noncomputable def inN(a:Nat):List Nat→Bool
 | []=>false
 | b::l=>Nat.beq b a||inN a l
noncomputable def Za(f:AV)(P E:Prop):Prop:=match f with
 | .bi _=>P
 | .typ _=>P
 | .ref a=>br (inN a (GN.map (·.2))||inN a KT) P E
 | _=>E
noncomputable def Cy(as:List AV)(K:AV→Prop)(E:Prop):Prop:=match as with
 | [a]=>K a
 | _=>E
noncomputable def Ie(as:List AV)(K:AV→AV→Prop)(E:Prop):Prop:=match as with
 | a::l=>Cy l (λb=>K a b) E
 | []=>E
noncomputable def tyB(a:AV)(K:String→Prop)(E:Prop):Prop:=match a with
 | .typ n=>K n
 | _=>E
noncomputable def biF(n:String)(as:List AV)(K:AV→Prop)(E:Prop):Prop:=
 if n ="max" then Ie as (λa b=>ji a b (λx y=>K (.int (max x y))) E) E
 else if n ="min" then Ie as (λa b=>ji a b (λx y=>K (.int (min x y))) E) E
 else if n ="abs" then Cy as (λa=>ji a a (λx _=>K (.int (x.natAbs:Int))) E) E
 else if n ="isinstance" then Ie as (λa t=>ji a a (λ_ _=>tyB t (λty=>if ty ="int" then K (.bool true) else if ty ="bool" then K (.bool false) else E) E) E) E
 else if n ="int.bit_length" then Cy as (λa=>ji a a (λx _=>K (.int (Builtin.Int.intBits x))) E) E
 else E
noncomputable def Tp(n:String)(as:List AV)(K:AV→Prop)(E:Prop):Prop:=
 if n ="int" then Cy as (λa=>match a with
  | .int x=>K (.int x)
  | .bool b=>K (.int (if b then 1 else 0))
  | _=>E) E
 else E
noncomputable def cl1(f:AV)(as:List AV)(K:AV→Prop)(E:Prop):Prop:=match f with
 | .bi n=>biF n as K E
 | .typ n=>Tp n as K E
 | _=>E
noncomputable def oM:Expr→Bool
 | .ListComp .. | .SetComp .. | .DictComp ..=>true
 | _=>false
noncomputable def noStar:Expr→Bool
 | .Starred ..=>false
 | _=>true
noncomputable def oH:Expr→Bool
 | .Call ..=>false
 | _=>true
noncomputable def isLit:Expr→Bool
 | .Constant ..=>true
 | _=>false
noncomputable def uF(args:List Expr)(pos:Pos):It:=match args with
 | []=>.nl
 | _=>.es pos args
noncomputable def gd(b:Bool)(o:List It→List It):Option (List It→List It):=match b with
 | true=>some o
 | false=>none
noncomputable def IV(f:Expr)(args:List Expr)(pos:Pos):Option (List It→List It):=match f with
 | .Name f p=>gd (args.all noStar) (λr=>.e (.Name f p)::.keep::uF args pos::.cg::r)
 | .Attribute o name apos=>gd (oH o&&(apos.endLine == pos.line&&(args.all noStar&&Nat.ble args.length 20))) (λr=>.e o::.gm name::uF args pos::.wX::r)
 | _=>none
noncomputable def Ho(a:Expr)(ops:List CmpOp)(bs:List Expr):Option (List It→List It):=match ops with
  | [op]=>(match bs with
    | [b]=>gd (!behindInMarks op b) (λr=>.e a::.e b::.cmp op::r)
    | _=>none)
  | _=>none
noncomputable def Oe(op:BoolOp)(es:List Expr):Option (List It→List It):=match op with
  | .And=>(match es with
    | [a,b]=>some (λr=>.e a::.dup::.FP::.Fe b::r)
    | _=>none)
  | .Or=>none
noncomputable def S7(e:Expr):Option (List It→List It):=match e with
  | .BinOp a op b _=>some (λr=>.e a::.e b::.bin op (isLit b)::r)
  | .UnaryOp op a _=>some (λr=>.e a::.uni op::r)
  | .Compare a ops bs _=>Ho a ops bs
  | .IfExp t b o _=>some (λr=>.t t::.Mp b o::r)
  | .Subscript v s _=>some (λr=>.e v::.e s::.sub v s::r)
  | .Attribute o name _=>gd (oH o) (λr=>.e o::.ga name::r)
  | .Slice a b d _=>some (λr=>.part a::.part b::.part d::.Ij::r)
  | .List es pos=>gd (Nat.ble es.length 1000) (λr=>.es pos es::.Qv::r)
  | .Tuple es _ pos=>gd (Nat.ble es.length 1000) (λr=>.es pos es::.Qu::r)
  | .BoolOp op es _=>Oe op es
  | .Call f args kws pos=>(match kws with
    | []=>IV f args pos
    | _=>none)
  | _=>none
noncomputable def Ux(e:Expr):UnaryOp→Option (List It→List It)
 | .Not=>some (λr=>.t e::.not::r)
 | _=>none
noncomputable def R7(e:Expr):Option (List It→List It):=match e with
 | .Compare a ops bs _=>Ho a ops bs
 | .UnaryOp op a _=>Ux a op
 | .BoolOp op es _=>some (λr=>.bo op es::r)
 | .Name x p=>some (λr=>.e (.Name x p)::.FP::r)
 | .Call f args kws pos=>some (λr=>.e (.Call f args kws pos)::.FP::r)
 | _=>none
noncomputable def plainT:Expr→Bool
 | .Name ..=>true
 | .Attribute ..=>true
 | .Subscript ..=>true
 | _=>false
noncomputable def Wf(ts:List Expr)(v:Expr):Option (List It→List It):=match ts with
 | [t]=>gd (plainT t && !oM v) (λr=>.e v::.asg t::r)
 | _=>none
noncomputable def R9(t:Expr):Option (List It→List It):=match t with
 | .Attribute o n _=>some (λr=>.e o::.sa n::r)
 | .Subscript o i _=>some (λr=>.e o::.e i::.si::r)
 | _=>none
noncomputable def Wc(t:Expr)(op:Operator)(v:Expr):Option (List It→List It):=match t with
 | .Name x _=>some (λr=>.ln x::.e v::.inp op::.bn x::r)
 | .Attribute o a _=>some (λr=>.e o::.dup::.ga a::.e v::.inp op::.Ql::.sa a::r)
 | _=>none
noncomputable def stOf(s:Stmt):Option (List It→List It):=match s with
  | .Return o _=>(match o with
    | some e=>some (λr=>.e e::.ret::r)
    | none=>none)
  | .If t b o _=>some (λr=>.t t::.ifs b o::r)
  | .Assign ts v _=>Wf ts v
  | .Expr e _=>gd (!oM e) (λr=>.e e::.exp::r)
  | .AugAssign t op v _=>Wc t op v
  | .Pass _=>some (λr=>r)
  | _=>none
noncomputable def NZ:List Stmt→Bool
  | []=>false
  | s::l=>(match s with
    | .Return ..=>true
    | .Raise ..=>true
    | _=>false)||NZ l
noncomputable def Vd(s:Stmt)(l:List Stmt):Bool:=match l with
  | []=>false
  | _=>(match s with
    | .If _ b _ _=>!NZ b
    | _=>false)
noncomputable def constOf(e:Expr):Option AV:=match e with
  | .Constant v _ _=>(match v with
    | .int i=>some (.int i)
    | .bool b=>some (.bool b)
    | .str s=>some (.str s)
    | .none=>some .none
    | _=>none)
  | _=>none
noncomputable def Wx(b o:Expr):Option Unit:=match constOf b with
  | some (.int _)=>(match constOf o with
    | some (.int _)=>some ()
    | _=>none)
  | _=>none
noncomputable def nameOf(e:Expr):Option Str:=match e with
 | .Name x _=>some x
 | _=>none
noncomputable def op2{α:Type}(o:Option α)(K:α→Prop)(E:Prop):Prop:=match o with
 | some a=>K a
 | none=>E
section
variable(c:Cx)(nm:NM)(k:List It→bR→Vs→Vs→Gs→Prop)
noncomputable def TY(x:Str)(r:List It)(vs:bR)(xs ys:Vs)(gs:Gs)(E:Prop):Prop:=match dX x nm.kn with
 | some .local=>getL x (λa=>k r ([a]::vs) xs ys gs) E nm.vn xs
 | some .cell=>getL x (λa=>k r ([a]::vs) xs ys gs) E nm.cn ys
 | some .globalImplicit=>glob x (λa=>k r ([a]::vs) xs ys gs) E GT
 | _=>E
noncomputable def Pj(x:Str)(a:AV)(r:List It)(vs:bR)(xs ys:Vs)(gs:Gs)(E:Prop):Prop:=match dX x nm.kn with
 | some .local=>pJ x a E nm.vn xs λxs'=>k r vs xs' ys gs
 | some .cell=>pJ x a E nm.cn ys λys'=>k r vs xs ys' gs
 | _=>E
noncomputable def UW(x:Str)(r:List It)(vs:bR)(xs ys:Vs)(gs:Gs)(E:Prop):Prop:=match dX x nm.kn with
 | some .local=>getL x (λa=>k r ([a]::vs) xs ys gs) E nm.vn xs
 | _=>E
noncomputable def snoc(g:Led):Gs→(Gs→Prop)→Prop
 | [],K=>K [g]
 | h::l,K=>snoc g l λl'=>K (h::l')
noncomputable def more(o:Option (List It→List It))(r:List It)(vs:bR)(xs ys:Vs)(gs:Gs)(E:Prop):Prop:=match o with
 | some l=>k (l r) vs xs ys gs
 | none=>E
noncomputable def step(i:It)(r:List It)(vs:bR)(xs ys:Vs)(gs:Gs)(E:Prop):Prop:=match i with
  | .e e=>op2 (constOf e) (λa=>k r ([a]::vs) xs ys gs) (op2 (nameOf e) (λx=>TY nm k x r vs xs ys gs E) (more k (S7 e) r vs xs ys gs E))
  | .t e=>more k (R7 e) r vs xs ys gs E
  | .es pos es=>(match es with
    | []=>k r ([]::vs) xs ys gs
    | e::l=>br (noStar e) (k (.e e::.es pos l::.cons::r) vs xs ys gs) E)
  | .cons=>lst vs (λas vs=>one vs (λa vs=>k r ((a::as)::vs) xs ys gs) E) E
  | .bin op lit=>two vs (λb a vs=>o2 op lit a b (λv=>k r ([v]::vs) xs ys gs) E) E
  | .inp op=>two vs (λb a vs=>i2 op a b (λv=>k r ([v]::vs) xs ys gs) E) E
  | .cmp op=>two vs (λb a vs=>c2 op a b (λq=>k r ([.bool q]::vs) xs ys gs) E) E
  | .uni op=>one vs (λa vs=>Y9 op a (λv=>k r ([v]::vs) xs ys gs) E) E
  | .FP=>one vs (λa vs=>t1 a (λq=>k r ([.bool q]::vs) xs ys gs) E) E
  | .not=>iI vs (λq vs=>k r ([.bool (!q)]::vs) xs ys gs) E
  | .bo op es=>(match op with
    | .And=>(match es with
      | []=>k r ([.bool true]::vs) xs ys gs
      | e::l=>k (.t e::.Oh l::r) vs xs ys gs)
    | .Or=>(match es with
      | []=>k r ([.bool false]::vs) xs ys gs
      | e::l=>k (.t e::.boo l::r) vs xs ys gs))
  | .Oh es=>iI vs (λq vs=>br q (k (.bo .And es::r) vs xs ys gs) (k r ([.bool false]::vs) xs ys gs)) E
  | .boo es=>iI vs (λq vs=>br q (k r ([.bool true]::vs) xs ys gs) (k (.bo .Or es::r) vs xs ys gs)) E
  | .Fe b=>iI vs (λq vs=>one vs (λv vs=>br q (k (.e b::r) vs xs ys gs) (k r ([v]::vs) xs ys gs)) E) E
  | .Mp b o=>iI vs (λq vs=>op2 (Wx b o) (λ_=>E) (br q (k (.e b::r) vs xs ys gs) (k (.e o::r) vs xs ys gs))) E
  | .ifs b o=>iI vs (λq vs=>br q (k (.ss b::r) vs xs ys gs) (k (.ss o::r) vs xs ys gs)) E
  | .wh b P=>iI vs (λq vs=>br q (k [.ss b,.bot P] [] xs ys gs) (k r vs xs ys gs)) E
  | .keep=>one vs (λf vs=>Za f (k r ([f]::vs) xs ys gs) E) E
  | .cg=>lst vs (λas vs=>one vs (λf vs=>cl1 f as (λa=>k r ([a]::vs) xs ys gs) E) E) E
  | .wX=>lst vs (λas vs=>lst vs (λfa vs=>one vs (λf vs=>k (.cg::r) ((fa++as)::[f]::vs) xs ys gs) E) E) E
  | .part e=>(match e with
    | none=>k r ([.none]::vs) xs ys gs
    | some e=>k (.e e::r) vs xs ys gs)
  | .Ij=>two vs (λd b vs=>one vs (λa vs=>∃ i j l,iR a i∧iR b j∧iR d l∧∀ S,snoc [(S,.slice i j l)] gs λgs'=>k r ([.ref S]::vs) xs ys gs') E) E
  | .asg t=>one vs (λa vs=>op2 (nameOf t) (λx=>Pj nm k x a r vs xs ys gs E) (more k (R9 t) r ([a]::vs) xs ys gs E)) E
  | .ln x=>UW nm k x r vs xs ys gs E
  | .bn x=>one vs (λa vs=>Pj nm k x a r vs xs ys gs E) E
  | .st s=>more k (stOf s) r vs xs ys gs E
  | .ss sts=>(match sts with
    | []=>k r vs xs ys gs
    | s::l=>br (Vd s l) E (k (.st s::.ss l::r) vs xs ys gs))
  | .exp=>one vs (λa vs=>Y8 a (k r vs xs ys gs) E) E
  | .Qv=>lst vs (λas vs=>∀ t,snoc [(t,.list as)] gs λgs'=>k r ([.ref t]::vs) xs ys gs') E
  | .Qu=>lst vs (λas vs=>∀ t,snoc [(t,.tuple as)] gs λgs'=>k r ([.ref t]::vs) xs ys gs') E
  | .dup=>one vs (λo vs=>k r ([o]::[o]::vs) xs ys gs) E
  | .Ql=>two vs (λa o vs=>k r ([o]::[a]::vs) xs ys gs) E
  | .nl=>k r ([]::vs) xs ys gs
  | .gm name=>one vs (λa vs=>ji a a (λx _=>if name ="bit_length" then k r ([.int x]::[.bi "int.bit_length"]::vs) xs ys gs else E) E) E
  | .sub _ _=>E
  | .ga _=>E
  | .sa _=>E
  | .si=>E
  | .ret=>E
  | .bot _=>E
  | .tD=>E
  | .fr _ _=>E
  | .dN _=>E
  | .RJ e=>iI vs (λq vs=>br q (k (.e e::r) vs xs ys gs) (k r ([]::vs) xs ys gs)) E
  | .spl b=>lst vs (λas vs=>k r (spl b as++vs) xs ys gs) E
end
noncomputable def go(c:Cx)(nm:NM):Nat→List It→bR→Vs→Vs→Gs→Prop
 | 0,r,vs,xs,ys,gs=>D c r vs (mk nm xs) (led c ys gs)
 | _+1,[],vs,xs,ys,gs=>D c [] vs (mk nm xs) (led c ys gs)
 | n+1,i::r,vs,xs,ys,gs=>step nm (go c nm n) i r vs xs ys gs (D c (i::r) vs (mk nm xs) (led c ys gs))
noncomputable def tV{α:Type}:List α→(List α→Prop)→Prop
 | [],K=>K []
 | g::l,K=>tV l λl'=>K (g::l')
theorem lZ{α:Type}:∀ {l:List α}{K:List α→Prop},tV l K→K l
 | [],_,h=>h
 | g::l,K,h=>lZ (l:=l) (K:=λl'=>K (g::l')) h
noncomputable def Go(c:Cx)(nm:NM)(r:List It)(vs:bR)(xs ys:Vs)(gs:Gs):Prop:=tV gs λgs=>go c nm 10000 r vs xs ys gs
theorem bT{x:Str}{q:NameKind}:∀ {l:List (Str×NameKind)},dX x l=some q→(x,q)∈l
  | [],h=>nomatch h
  | (y,r)::l,h=>by
    unfold dX at h
    by_cases e:y=x
    · rw[if_pos e] at h;cases h;exact e▸.head _
    · rw[if_neg e] at h;exact .tail _ (bT h)
inductive ou (x:Str) (a:AV):List Str→Vs→Prop
 | here {l m}:ou x a (x::l) (some a::m)
 | there {y v l m}:y≠x→ou x a l m→ou x a (y::l) (v::m)
inductive n8 (x:Str) (a:AV):List Str→Vs→Vs→Prop
 | here {v l m}:n8 x a (x::l) (v::m) (some a::m)
 | there {y v l m m'}:y≠x→n8 x a l m m'→n8 x a (y::l) (v::m) (v::m')
theorem qO{x:Str}{K:AV→Prop}{E P:Prop}:∀ {l:List Str}{m:Vs},getL x K E l m→(∀ a,ou x a l m→K a→P)→(E→P)→P
  | [],_,h,_,e=>e h
  | _::_,[],h,_,e=>e h
  | y :: l,v::m,h,k,e=>by
    unfold getL at h
    by_cases q:y=x
    · rw[if_pos q] at h
      cases v with
      | none=>exact e h
      | some a=>exact k a (q▸.here) h
    · rw[if_neg q] at h;exact qO h (λa ha=>k a (.there q ha)) e
theorem oG{x:Str}{a:AV}{E P:Prop}:∀ {l:List Str}{m:Vs}{K:Vs→Prop},pJ x a E l m K→(∀ m',n8 x a l m m'→K m'→P)→(E→P)→P
  | [],_,_,h,_,e=>e h
  | _::_,[],_,h,_,e=>e h
  | y::l,v::m,K,h,k,e=>by
    unfold pJ at h
    by_cases q:y=x
    · rw[if_pos q] at h;subst q;exact k _ .here h
    · rw[if_neg q] at h;exact oG h (λm' hm=>k _ (.there q hm)) e
theorem ou.mem{x:Str}{a:AV}{l:List Str}{m:Vs}(h:ou x a l m):(x,some a)∈l.zip m:=by
 induction h with
 | here=>exact .head _
 | there _ _ ih=>exact .tail _ ih
theorem n8.put{x:Str}{a:AV}{l:List Str}{m m':Vs}(h:n8 x a l m m'):Put x a (l.zip m) (l.zip m'):=by
 induction h with
 | here=>exact .here
 | there _ _ ih=>exact .there ih
theorem Dg{x y:Str}{b:Addr}{l:List (Str×Addr)}(h:y≠x):((y,b)::l).lookup x=l.lookup x:=by
 rw[List.lookup_cons,beq_eq_false_iff_ne.mpr (Ne.symm h)]
theorem Dh{x:Str}{b:Addr}{l:List (Str×Addr)}:((x,b)::l).lookup x=some b:=by
 rw[List.lookup_cons,beq_self_eq_true]
theorem ou.cell{x:Str}{a:AV}{l:List Str}{m:Vs}(h:ou x a l m):∀ {ca:List Addr},l.length=ca.length→∃ b,(l.zip ca).lookup x=some b∧(b,AO.cell (some a))∈bK ca m:=by
 induction h with
 | here=>exact λ{ca} hl=>match ca,hl with|b::ca,_=>⟨b,Dh,.head _⟩
 | there q _ ih=>exact λ{ca} hl=>match ca,hl with|b::ca,hl=>let ⟨b',h1,h2⟩:=ih (Nat.succ.inj hl);⟨b',(Dg q).trans h1,.tail _ h2⟩
theorem n8.cell{x:Str}{a:AV}{l:List Str}{m m':Vs}(h:n8 x a l m m'):∀ {ca:List Addr},l.length=ca.length→∃ b v pre post,(l.zip ca).lookup x=some b∧bK ca m=pre++(b,AO.cell v)::post∧bK ca m'=pre++(b,AO.cell (some a))::post:=by
  induction h with
  | here=>
    intro ca hl
    cases ca with
    | nil=>exact nomatch hl
    | cons b ca=>exact⟨b,_,[],_,Dh,rfl,rfl⟩
  | there q _ ih=>
    intro ca hl
    cases ca with
    | nil=>exact nomatch hl
    | cons b ca=>exact jC (λb' v pre post h1 h2 h3=>⟨b',v,_::pre,post,(Dg q).trans h1,congrArg (_ :: ·) h2,congrArg (_ :: ·) h3⟩) (ih (Nat.succ.inj hl))
theorem DQ{x:Str}{K:AV→Prop}{E P:Prop}:∀ {l:List (Str×AV)},glob x K E l→(∀ a,(x,a)∈l→K a→P)→(E→P)→P
  | [],h,_,e=>e h
  | (y,v)::l,h,k,e=>by
    unfold glob at h
    by_cases q:y=x
    · rw[if_pos q] at h;exact k v (q▸.head _) h
    · rw[if_neg q] at h;exact DQ h (λa ha=>k a (.tail _ ha)) e
theorem c7{a b:AV}{K:Int→Int→Prop}{E P:Prop}(h:ji a b K E)(k:∀ x y,a=.int x→b=.int y→K x y→P)(e:E→P):P:=by
 cases a<;>first|exact e h|(cases b<;>first|exact e h|exact k _ _ rfl rfl h)
theorem w6{q:Bool}{A B P:Prop}(h:br q A B)(k:q=true→A→P)(e:B→P):P:=by cases q<;>first|exact k rfl h|exact e h
theorem Cj{y:Int}{K E P:Prop}(h:K5 y K E)(k:y≠0→y.natAbs<2^64→K→P)(e:E→P):P:=by
  match y,h with
  | .ofNat (n+1),h=>
    refine w6 h (λq h=>k (λz=>nomatch z) ?_ h) e
    have:=Nat.le_of_ble_eq_true q
    show n+1<2^64
    exact id (L1 [] [_] 316912650057057350376864361510 129 316912650057057350357268573221 rfl this)
  | .ofNat 0,h=>exact e h
  | .negSucc _,h=>exact e h
theorem vY{a:Nat}:∀ {l:List Nat},inN a l=true→a∈l
  | b::l,h=>by
    unfold inN at h
    rcases Bool.or_eq_true_iff.mp h with q|q
    · exact Nat.eq_of_beq_eq_true q▸.head _
    · exact .tail _ (vY q)
theorem lV{e:Expr}(h:noStar e=true)(es:List Expr)(env:Env):starEach (e::es) env=(false,eval e env)::starEach es env:=by
 cases e<;>first|rfl|exact jN h|exact jN h.symm
theorem lU{pos:Pos}{env:Env}:∀ {es:List Expr},es.all noStar=true→(backTo pos (starEach es env)).any (·.1)=false
  | [],_=>rfl
  | e::es,h=>by
    refine uA (λh1 h2=>?_) (bI h)
    rw[lV h1]
    show((false||(backTo pos (starEach es env)).any (·.1)))=false
    rw[lU h2];rfl
section
variable{w:World}{fx:Fx}{m:au}{σ:Led}{X:Value→Prop}{n:Nat}
theorem Uu{op lit a b}{Q:AV→Led→Prop} (ok:aC w n fx) {E:Prop}{K:AV→Prop} (h:o2 op lit a b K E) (kk:∀ v,K v→Q v σ) (e:E→O2 w fx op a b m σ Q X):O2 w fx op a b m σ Q X:=
 c7 h (λx y e1 e2 h=>by
  subst e1 e2
  cases op with
  | Add=>exact Ut ok (kk _ h)
  | Sub=>exact Um ok (kk _ h)
  | BitAnd=>exact Us ok (kk _ h)
  | BitOr=>exact Y7 ok (kk _ h)
  | Mod=>exact w6 h (λ_ h=>Cj h (λh0 _ h=>Lp ok h0 (kk _ h)) e) e
  | FloorDiv=>exact w6 h (λ_ h=>Cj h (λh0 h1 h=>Lq ok h0 h1 (kk _ h)) e) e
  | _=>exact e h) e
theorem Vi{op a b}{Q:AV→Led→Prop} (ok:aC w n fx) {E:Prop}{K:AV→Prop} (h:i2 op a b K E) (kk:∀ v,K v→Q v σ) (e:E→I2 w fx op a b m σ Q X):I2 w fx op a b m σ Q X:=
 c7 h (λx y e1 e2 h=>by
  subst e1 e2
  cases op with
  | Add=>exact Vh ok (kk _ h)
  | Sub=>exact Vf ok (kk _ h)
  | BitOr=>exact Zf ok (kk _ h)
  | _=>exact e h) e
theorem V8{op a b}{Q:Bool→Led→Prop} (ok:aC w n fx) {E:Prop}{K:Bool→Prop} (h:c2 op a b K E) (kk:∀ v,K v→Q v σ) (e:E→C2 w fx op a b m σ Q X):C2 w fx op a b m σ Q X:=by
 cases op with
 | Lt=>exact c7 h (λx y e1 e2 h=>by subst e1 e2;exact Z7 ok (kk _ h)) e
 | LtE=>exact c7 h (λx y e1 e2 h=>by subst e1 e2;exact S8 ok (kk _ h)) e
 | Gt=>exact c7 h (λx y e1 e2 h=>by subst e1 e2;exact Z9 ok (kk _ h)) e
 | GtE=>exact c7 h (λx y e1 e2 h=>by subst e1 e2;exact aac ok (kk _ h)) e
 | Eq=>exact c7 h (λx y e1 e2 h=>by subst e1 e2;exact aad ok (kk _ h)) e
 | NotEq=>exact c7 h (λx y e1 e2 h=>by subst e1 e2;exact Z6 ok (kk _ h)) e
 | Is=>cases b<;>first|exact Z8 ok (kk _ h)|exact e h
 | IsNot=>cases b<;>first|exact Od ok (kk _ h)|exact e h
 | _=>exact e h
theorem Tv{a}{Q:Bool→Led→Prop} (ok:aC w n fx) {E:Prop}{K:Bool→Prop} (h:t1 a K E) (kk:∀ v,K v→Q v σ) (e:E→T1 w fx a m σ Q X):T1 w fx a m σ Q X:=by
 cases a<;>first|exact PX _ (kk _ h)|exact Tt ok (kk _ h)|exact e h
theorem QJ{f:AV}{P' P E:Prop}(h:Za f P' E)(kk:P'→P)(e:E→gn w f∧P):gn w f∧P:=by
  cases f with
  | bi _=>exact⟨trivial,kk h⟩
  | typ _=>exact⟨trivial,kk h⟩
  | ref a=>
    refine w6 h (λq h=>⟨?_,kk h⟩) e
    rcases Bool.or_eq_true_iff.mp q with q|q
    · refine aD (λp hp gP=>?_) (mM (vY q));subst gP;exact Wo w p hp
    · exact Wn w a (vY q)
  | _=>exact e h
theorem qD{as:List AV}{K:AV→Prop}{E P:Prop}(h:Cy as K E)(k:∀ a,as=[a]→K a→P)(e:E→P):P:=by
  cases as with
  | nil=>exact e h
  | cons a l=>cases l with
    | nil=>exact k a rfl h
    | cons _ _=>exact e h
theorem vK{as:List AV}{K:AV→AV→Prop}{E P:Prop}(h:Ie as K E)(k:∀ a b,as=[a,b]→K a b→P)(e:E→P):P:=by
 cases as with
 | nil=>exact e h
 | cons a l=>exact qD h (λb q h=>k a b (by rw[q]) h) e
theorem PJ{a:AV}{K:String→Prop}{E P:Prop}(h:tyB a K E)(k:∀ n,a=.typ n→K n→P)(e:E→P):P:=by
 cases a<;>first|exact k _ rfl h|exact e h
theorem RQ {f:String}{as}{Q:AV→Led→Prop} (ok:aC w n fx) {E:Prop}{K:AV→Prop} (h:biF f as K E) (kk:∀ v,K v→Q v σ) (e:E→CL w fx (.bi f) as m σ Q X):CL w fx (.bi f) as m σ Q X:=by
  refine j5 (λq h=>by subst q;exact vK h (λa b q h=>c7 h (λx y e1 e2 h=>by subst q e1 e2;exact Ry ok (kk _ h)) e) e)
    (j5 (λq h=>by subst q;exact vK h (λa b q h=>c7 h (λx y e1 e2 h=>by subst q e1 e2;exact Rx ok (kk _ h)) e) e)
    (j5 (λq h=>by subst q;exact qD h (λa q h=>c7 h (λx y e1 e2 h=>by subst q e1;exact RD ok (kk _ h)) e) e)
    (j5 (λq h=>by
      subst q
      exact vK h (λa b q h1=>c7 h1 (λx y e1 e2 h2=>PJ h2 (λty e3=>by
        subst q e1 e3
        exact j5 (λq z=>by subst q;exact J1 ok (kk _ z)) (j5 (λq z=>by subst q;exact Hr ok (kk _ z)) e)) e) e) e)
    (j5 (λq h=>by subst q;exact qD h (λa q h=>c7 h (λx y e1 e2 h=>by subst q e1;exact Ht ok (kk _ h)) e) e) e)))) h
theorem PB{f:String}{as}{Q:AV→Led→Prop} (ok:aC w n fx) {E:Prop}{K:AV→Prop} (h:Tp f as K E) (kk:∀ v,K v→Q v σ) (e:E→CL w fx (.typ f) as m σ Q X):CL w fx (.typ f) as m σ Q X:=by
 unfold Tp at h
 by_cases q:f ="int"
 ·rw[if_pos q] at h;subst q
  exact qD h (λa q h=>by
   subst q
   cases a with
   | int x=>exact Rz ok (kk _ h)
   | bool b=>exact Oa ok (kk _ h)
   | _=>exact e h) e
 ·rw[if_neg q] at h;exact e h
theorem RG{f as}{Q:AV→Led→Prop} (ok:aC w n fx) {E:Prop}{K:AV→Prop} (h:cl1 f as K E) (kk:∀ v,K v→Q v σ) (e:E→CL w fx f as m σ Q X):CL w fx f as m σ Q X:=by
 cases f with
 | bi f=>exact RQ ok h kk e
 | typ f=>exact PB ok h kk e
 | _=>exact e h
theorem oA.mono{pos es}{K K':List AV→Led→Prop} (h:oA w fx pos es m σ K X) (k:∀ as σ',K as σ'→K' as σ'):oA w fx pos es m σ K' X:=
 WP.mono h λvs m' σ2=>uO λe as h3 h4 h5=>⟨e,as,h3,h4,k _ _ h5⟩
theorem V1.perm{t:Sem Value}{Q:AV→Led→Prop}(h:V1 w fx t m σ (λa σ'=>∃ eU,σ'.Perm eU∧Q a eU) X):V1 w fx t m σ Q X:=λs H=>
 aV (h s H) (λv s'=>Fq λm' σ' H' e a ha eU p q=>⟨m',eU,H'.perm p,e,a,ha,q⟩) λ_ _ e=>e
end
theorem wO{e:Expr}(h:oM e=false)(t:Option Expr)(l:Nat)(env:Env):swapsWith e t l env=pure false:=by
 cases e<;>first|rfl|exact jN h|exact jN h.symm
theorem mG{b:Bool}{o l:List It→List It}(h:gd b o=some l):b=true∧o=l:=by
 cases b with
 | true=>exact⟨rfl,oI h⟩
 | false=>nomatch h
theorem not_eq{b:Bool}(h:(!b)=true):b=false:=by cases b<;>first|rfl|cases h
theorem iQ{e:Expr}(h:oM e=false)(t:Expr)(l:Nat)(env:Env):swapsWithSole [t] e l env=pure false:=wO h (some t) l env
theorem zB{o:Expr}(h:oH o=true)(name:Str)(env:Env)(t:Sem Value):attributeBase o name env t=t:=by
 cases o<;>first|rfl|exact jN h|exact jN h.symm
section
variable{c:Cx}{nm:NM}{n:Nat}{r:List It}{vs:bR}{m:au}{σ:Led}
theorem Ae{w:World}{n:Nat}{fx:Fx}(ok:aC w n fx):interactive fx.env=false:=by unfold interactive;rw[ok.kind];rfl
theorem Ka{o:Expr}{name:Str}{pos:Pos}{env:Env}(h:oH o=true):eval (.Attribute o name pos) env=(do
   let o' ←eval o env
   standAt pos.atName
   let r ←PySem.holding [o'] (getAttr o' name true)
   letTemporaryGo o o' r
   pure r):=by
 show(attributeBase o name env (eval o env) >>= _)=_
 rw[zB h]
theorem yS{o:Expr}{name:Str}{apos pos:Pos}{as:List Expr}{env:Env}(h:oH o=true):eval (.Call (.Attribute o name apos) as [] pos) env=(do
   let ov ←eval o env
   standAt apos.atName
   methodCall o name apos pos env ov as.length (backTo pos (starEach as env)) []):=by
 show(attributeBase o name env (eval o env) >>= _)=_
 rw[zB h];rfl
theorem JF{pos:Pos}{env:Env}{as:List Expr}(h:as.all noStar=true)(hn:as.length≤20):methodCallForm as.length (backTo pos (starEach as env)) []=true:=by
 unfold methodCallForm
 have:=lU (pos:=pos) (env:=env) h
 rw[List.any_eq_false] at this
 refine Bool.and_eq_true_iff.mpr ⟨Bool.and_eq_true_iff.mpr ⟨List.all_eq_true.mpr λx hx=>?_,rfl⟩,decide_eq_true (show as.length+0<30 by exact L1 [] [_] 515396086822 129 1310901 rfl hn)⟩
 cases q:x.1 with
 | false=>rfl
 | true=>exact absurd q (this x hx)
theorem Lr(c:Cx)(ok:aC c.w n c.fx){f:Str}{p pos:Pos}{args:List Expr}(hs:args.all noStar=true)(hd:D c (.e (.Name f p)::.keep::uF args pos::.cg::r) vs m σ):D c (.e (.Call (.Name f p) args [] pos)::r) vs m σ:=by
  cases args with
  | nil=>exact JV ok rfl hd
  | cons a as=>
    refine uA (λh1 h2=>?_) (bI hs)
    exact JT ok rfl (lV h1 _ _) (lU h2) hd
theorem RW(c:Cx)(ok:aC c.w n c.fx){o:Expr}{name:Str}{apos pos:Pos}{args:List Expr}(h0:oH o=true)(hl:(apos.endLine == pos.line)=true)(hs:args.all noStar=true)(hn:Nat.ble args.length 20=true)
    (hd:D c (.e o::.gm name::uF args pos::.wX::r) vs m σ):D c (.e (.Call (.Attribute o name apos) args [] pos)::r) vs m σ:=by
  cases args with
  | nil=>
    refine JQ ok (yS h0) hl (V1.mono hd λa σ' h vo pl ho=>WP.mono (h vo pl ho) ?_)
    rintro r' m' σ2 ⟨e,f,fa,h1,h2,h3,h4⟩
    have h4:CL c.w c.fx f (fa++[]) m σ2 _ c.X:=h4
    rw[aN] at h4
    exact⟨e,f,fa,h1,h2,h3,h4⟩
  | cons a as=>
    have h3:=JF (pos:=pos) (env:=c.fx.env) hs (Nat.le_of_ble_eq_true hn)
    refine uA (λh1 h2=>?_) (bI hs)
    exact JN ok (yS h0) hl h3 (lV h1 _ _) (lU h2) hd
theorem Oc{f:Expr}{args:List Expr}{pos:Pos}{l:List It→List It}(c:Cx)(ok:aC c.w n c.fx)(he:IV f args pos=some l)(hd:D c (l r) vs m σ):D c (.e (.Call f args [] pos)::r) vs m σ:=by
  cases f with
  | Name f p=>refine uA (λhs Gf=>?_) (mG he);subst Gf;exact Lr c ok hs hd
  | Attribute o name apos=>
    refine uA (λhs Gg=>?_) (mG he);subst Gg
    refine uA (λh0 hs=>?_) (bI hs)
    refine uA (λhl hs=>?_) (bI hs)
    refine uA (λhs hn=>?_) (bI hs)
    exact RW c ok h0 hl hs hn hd
  | _=>exact nsA he
theorem IK {a:Expr}{ops:List CmpOp}{bs:List Expr}{l:List It→List It}{P:Prop}(he:Ho a ops bs=some l)(k:∀ op b,ops=[op]→bs=[b]→behindInMarks op b=false→(l=λr=>.e a::.e b::.cmp op::r)→P):P:=by
  cases ops with
  | nil=>exact nsA he
  | cons op ops=>cases ops with
    | cons _ _=>exact nsA he
    | nil=>cases bs with
      | nil=>exact nsA he
      | cons b bs=>cases bs with
        | cons _ _=>exact nsA he
        | nil=>exact k op b rfl rfl (not_eq (mG he).1) (mG he).2.symm
theorem RM {op:BoolOp}{es:List Expr}{l:List It→List It}{P:Prop}(he:Oe op es=some l)(k:∀ a b,op=.And→es=[a,b]→(l=λr=>.e a::.dup::.FP::.Fe b::r)→P):P:=by
  cases op with
  | Or=>exact nsA he
  | And =>cases es with
    | nil=>exact nsA he
    | cons a es=>cases es with
      | nil=>exact nsA he
      | cons b es=>cases es with
        | nil=>exact k a b rfl rfl (oI he).symm
        | cons _ _=>exact nsA he
theorem V6(c:Cx)(ok:aC c.w n c.fx){e:Expr}{l:List It→List It}(he:S7 e=some l)(hd:D c (l r) vs m σ):D c (.e e::r) vs m σ:=by
  cases e with
  | BinOp a op b p=>obtain rfl:=oI he;exact JW hd
  | UnaryOp op a p=>obtain rfl:=oI he;exact JL hd
  | Compare a ops bs p=>exact IK he λop b e1 e2 q e3=>by subst e1 e2 e3;exact Nv q hd
  | IfExp t b o p=>obtain rfl:=oI he;exact V7 (B1.mono hd λ_ _ h=>jy h id id)
  | Subscript v s p=>obtain rfl:=oI he;exact Rn hd
  | Attribute o name p=>refine uA (λq zZ=>?_) (mG he);subst zZ;exact NK (Ka q) hd
  | Slice a b d p=>obtain rfl:=oI he;exact V1.perm (JM hd)
  | List es p=>refine uA (λq vJ=>?_) (mG he);subst vJ;exact V1.perm (Nq (Nat.le_of_ble_eq_true q) hd)
  | Tuple es k p=>refine uA (λq nD=>?_) (mG he);subst nD;exact V1.perm (rU (Nat.le_of_ble_eq_true q) hd)
  | BoolOp op es p=>exact RM he λa b e1 e2 e3=>by subst e1 e2 e3;exact NP (V1.mono hd λ_ _ h va hv=>B1.mono (h va hv) λ_ _ h=>jy h id id)
  | Call f args kws p=>cases kws with
    | nil=>exact Oc c ok he hd
    | cons _ _=>exact nsA he
  | _=>exact nsA he
theorem Tq(c:Cx){e:Expr}{l:List It→List It}(he:R7 e=some l)(hd:D c (l r) vs m σ):D c (.t e::r) vs m σ:=by
  cases e with
  | Compare a ops bs p=>exact IK he λop b e1 e2 q e3=>by subst e1 e2 e3;exact Kw q hd
  | UnaryOp op a p=>cases op with
    | Not=>obtain rfl:=oI he;exact PN hd
    | _=>exact nsA he
  | BoolOp op es p=>obtain rfl:=oI he;exact Ky hd
  | Name x p=>obtain rfl:=oI he;exact H8 (λ_=>rfl) hd
  | Call f args kws p=>obtain rfl:=oI he;exact H8 (λ_=>rfl) hd
  | _=>exact nsA he
theorem RX{t v:Expr}{pos:Pos}(c:Cx)(h:plainT t=true)(q:oM v=false)(hd:D c (.e v::.asg t::r) vs m σ):D c (.st (.Assign [t] v pos)::r) vs m σ:=by
 cases t with
 | Name=>exact jA (iQ q _ _ _) rfl rfl hd
 | Attribute=>exact jA (iQ q _ _ _) rfl rfl hd
 | Subscript=>exact jA (iQ q _ _ _) rfl rfl hd
 | _=>first|exact nsA h|exact jN h
theorem Qi{w:World}{fx:Fx}{X:Value→Prop}{N:au→Led→Prop}{R:AV→Led→Prop}{p:Pos}(h:N m σ):S1 w fx (.Pass p) m σ N R X:=WP.bind (WP.standAt (WP.pure h))
theorem TF (c:Cx)(ok:aC c.w n c.fx){s:Stmt}{l:List It→List It}(he:stOf s=some l)(hd:D c (l r) vs m σ):D c (.st s::r) vs m σ:=by
  cases s with
  | Return o p=>cases o with
    | none=>exact nsA he
    | some e=>obtain rfl:=oI he;exact TG hd
  | If t b o p=>obtain rfl:=oI he;exact Sd (B1.mono hd λ_ _ h=>jy h id id)
  | Assign ts v p=>cases ts with
    | nil=>exact nsA he
    | cons t ts=>cases ts with
      | cons _ _=>exact nsA he
      | nil=>
        refine uA (λq kj=>?_) (mG he);subst kj
        exact RX c (bI q).1 (not_eq (bI q).2) hd
  | Expr e p=>refine uA (λq gP=>?_) (mG he);subst gP;exact Qj (Ae ok) (wO (not_eq q) _ _ _) hd
  | AugAssign t op v p=>cases t with
    | Name x p=>obtain rfl:=oI he;exact TJ hd
    | Attribute o a p=>obtain rfl:=oI he;exact FZ hd
    | _=>exact nsA he
  | Pass p=>obtain rfl:=oI he;exact Qi hd
  | _=>exact nsA he
theorem qG{k:List It→bR→Vs→Vs→Gs→Prop}{o:Option (List It→List It)}{xs ys:Vs}{gs:Gs}{E P:Prop}(h:more k o r vs xs ys gs E)(h1:∀ l,o=some l→k (l r) vs xs ys gs→P)(e:E→P):P:=by
 cases o with
 | none=>exact e h
 | some l=>exact h1 l rfl h
theorem qu{g:Led}:∀ {gs:Gs}{K:Gs→Prop},snoc g gs K→K (gs++[g])
 | [],_,h=>h
 | h::l,K,q=>qu (gs:=l) (K:=λl'=>K (h::l')) q
theorem fZ:∀ (a b:Gs),flat (a++b)=flat a++flat b
  | [],_=>rfl
  | g::a,b=>by
    show g++flat (a++b)=(g++flat a)++flat b
    rw[fZ a b,aA]
theorem lB{c:Cx}{ys:Vs}{gs:Gs}{g:Led}:(g++led c ys gs).Perm (led c ys (gs++[g])):=by
 unfold led
 rw[fZ,←aA (bK c.ca ys)]
 refine List.perm_append_comm.trans ?_
 show((bK c.ca ys++flat gs)++g).Perm ((bK c.ca ys++flat gs)++(g++[]))
 rw[aN]
theorem TX{k:List It→bR→Vs→Vs→Gs→Prop}{x:Str}{p:Pos}{xs ys:Vs}{gs:Gs}{E:Prop}(hc:c.Ok n nm)(ih:∀ r vs xs ys gs,k r vs xs ys gs→D c r vs (mk nm xs) (led c ys gs))(h:TY nm k x r vs xs ys gs E)
  (e:E→D c (.e (.Name x p)::r) vs (mk nm xs) (led c ys gs)):D c (.e (.Name x p)::r) vs (mk nm xs) (led c ys gs):=by
 unfold TY at h
 split at h
 ·rename_i q;exact qO h (λa ha h=>Rp hc.ok hc.hk (bT q) ha.mem (ih _ _ _ _ _ h)) e
 ·rename_i q
  refine qO h (λa ha h=>?_) e
  refine aD (λb h1 h2=>?_) (ha.cell hc.hl)
  exact Nx hc.ok hc.hk (bT q) (hc.hc▸h1) (List.mem_append_left _ h2) (ih _ _ _ _ _ h)
 ·rename_i q;exact DQ h (λa ha h=>Nr hc.ok hc.hk (bT q) (Wr _ _ ha) (ih _ _ _ _ _ h)) e
 ·exact e h
theorem UL{k:List It→bR→Vs→Vs→Gs→Prop}{x:Str}{xs ys:Vs}{gs:Gs}{E:Prop}(hc:c.Ok n nm)(ih:∀ r vs xs ys gs,k r vs xs ys gs→D c r vs (mk nm xs) (led c ys gs))(h:UW nm k x r vs xs ys gs E)
  (e:E→D c (.ln x::r) vs (mk nm xs) (led c ys gs)):D c (.ln x::r) vs (mk nm xs) (led c ys gs):=by
 unfold UW at h
 split at h
 ·rename_i q;exact qO h (λa ha h=>Qz hc.ok hc.hk (bT q) ha.mem (ih _ _ _ _ _ h)) e
 ·exact e h
theorem Kg{k:List It→bR→Vs→Vs→Gs→Prop}{x:Str}{a:AV}{xs ys:Vs}{gs:Gs}{E P:Prop}(hc:c.Ok n nm)(ih:∀ r vs xs ys gs,k r vs xs ys gs→D c r vs (mk nm xs) (led c ys gs))(h:Pj nm k x a r vs xs ys gs E)
  (kb:BN c.w c.fx x a (mk nm xs) (led c ys gs) (λm' σ'=>D c r vs m' σ') c.X→P)(e:E→P):P:=by
 unfold Pj at h
 split at h
 ·rename_i q;exact oG h (λm' hm h=>kb (IW hc.ok hc.hk (bT q) hm.put (ih _ _ _ _ _ h))) e
 ·rename_i q
  refine oG h (λys' hy h=>kb ?_) e
  refine jC (λb v pre post h1 h2 h3=>?_) (hy.cell hc.hl)
  have h:=ih _ _ _ _ _ h
  unfold led at h⊢
  rw[h3,aA] at h
  rw[h2,aA]
  exact Oi hc.ok hc.hk (bT q) (hc.hc▸h1) h
 ·exact e h
end
theorem uo{α:Type}{o:Option α}{K:α→Prop}{E P:Prop}(h:op2 o K E)(k:∀ a,o=some a→K a→P)(e:E→P):P:=by
 cases o with
 | none=>exact e h
 | some a=>exact k a rfl h
theorem JZ{w fx e a}{m:au}{σ:Led}{X:Value→Prop}{Q:AV→Led→Prop} (h:constOf e=some a) (q:Q a σ):EV w fx e m σ Q X:=by
  cases e with
  | Constant v p q=>cases v with
    | int i=>obtain rfl:=oI h;exact Bb q
    | bool b=>obtain rfl:=oI h;exact Ny q
    | str s=>obtain rfl:=oI h;exact Ro q
    | none=>obtain rfl:=oI h;exact Np q
    | _=>first|exact nsA h|exact jN h
  | _=>first|exact nsA h|exact jN h
theorem CP{e:Expr}{x:Str}(h:nameOf e=some x):∃ p,e=.Name x p:=by
 cases e with
 | Name y p=>exact⟨p,by rw[oI h]⟩
 | _=>first|exact nsA h|exact jN h
section
variable{c:Cx}{nm:NM}{n:Nat}{r:List It}{vs:bR}{m:au}{σ:Led}
theorem Tr{t:Expr}{l:List It→List It}{a:AV}(c:Cx)(he:R9 t=some l)(hd:D c (l r) ([a]::vs) m σ):D c (.asg t::r) ([a]::vs) m σ:=by
 cases t with
 | Attribute o n p=>obtain rfl:=oI he;exact Ou hd
 | Subscript o i p=>obtain rfl:=oI he;exact RZ hd
 | _=>exact nsA he
theorem iY{q:Bool}{A B A' B':Prop}(h:br q A B)(k1:A→A')(k2:B→B'):br q A' B':=by cases q<;>first|exact k1 h|exact k2 h
theorem V9{q:Bool}{A B P:Prop}(h:br q A B)(h1:A→P)(h2:B→P):P:=by cases q<;>first|exact h1 h|exact h2 h
theorem lu{vs:bR}{K:AV→bR→Prop}{E:Prop}{C:bR→Prop}(h:one vs K E)(k:∀ a vs',(E→C ([a]::vs'))→K a vs'→C ([a]::vs'))(e:E→C vs):C vs:=uq h (λa vs' q h=>by subst q;exact k a vs' e h) e
theorem vP{vs:bR}{K:List AV→bR→Prop}{E:Prop}{C:bR→Prop}(h:lst vs K E)(k:∀ a vs',(E→C (a::vs'))→K a vs'→C (a::vs'))(e:E→C vs):C vs:=Qy h (λa vs' q h=>by subst q;exact k a vs' e h) e
theorem BP{vs:bR}{K:AV→AV→bR→Prop}{E:Prop}{C:bR→Prop}(h:two vs K E)(k:∀ b a vs',(E→C ([b]::[a]::vs'))→K b a vs'→C ([b]::[a]::vs'))(e:E→C vs):C vs:=PK h (λb a vs' q h=>by subst q;exact k b a vs' e h) e
theorem nF{vs:bR}{K:Bool→bR→Prop}{E:Prop}{C:bR→Prop}(h:iI vs K E)(k:∀ b vs',(E→C ([.bool b]::vs'))→K b vs'→C ([.bool b]::vs'))(e:E→C vs):C vs:=Li h (λb vs' q h=>by subst q;exact k b vs' e h) e
theorem KD(hc:c.Ok n nm){k:List It→bR→Vs→Vs→Gs→Prop}(ih:∀ r vs xs ys gs,k r vs xs ys gs→D c r vs (mk nm xs) (led c ys gs))(i:It)(r:List It)(vs:bR)(xs ys:Vs)(gs:Gs)
    (h:step nm k i r vs xs ys gs (D c (i::r) vs (mk nm xs) (led c ys gs))):D c (i::r) vs (mk nm xs) (led c ys gs):=by
  cases i with
  | e e=>exact uo h (λa q h=>JZ q (ih _ _ _ _ _ h)) λh=>uo h (λx q h=>by refine uE (λp kj=>?_) (CP q);subst kj;exact TX hc ih h id) λh=>qG h (λl e h=>V6 c hc.ok e (ih _ _ _ _ _ h)) id
  | t e=>exact qG h (λl e h=>Tq c e (ih _ _ _ _ _ h)) id
  | es pos es=>cases es with
    | nil=>exact Nm (ih _ _ _ _ _ h)
    | cons e l=>exact w6 h (λq h=>JK (lV q _ _) (ih _ _ _ _ _ h)) id
  | cons=>exact vP (C:=λvs=>D c (_::r) vs _ _) h (λas _ e h=>lu (C:=λvs=>D c (_::r) (as::vs) _ _) h (λa vs2 _ h=>ih r _ _ _ _ h) e) id
  | bin op lit=>exact BP (C:=λvs=>D c (_::r) vs _ _) h (λb a vs' e h=>Uu hc.ok h (λ_ h=>ih _ _ _ _ _ h) e) id
  | inp op=>exact BP (C:=λvs=>D c (_::r) vs _ _) h (λb a vs' e h=>Vi hc.ok h (λ_ h=>ih _ _ _ _ _ h) e) id
  | cmp op=>exact BP (C:=λvs=>D c (_::r) vs _ _) h (λb a vs' e h=>V8 hc.ok h (λ_ h=>ih _ _ _ _ _ h) e) id
  | uni op=>exact lu (C:=λvs=>D c (_::r) vs _ _) h (λa vs' e h=>by
      cases op with
      | USub=>exact c7 h (λx _ e1 _ h=>by subst e1;exact Tn hc.ok (ih _ _ _ _ _ h)) e
      | _=>exact e h) id
  | FP=>exact lu (C:=λvs=>D c (_::r) vs _ _) h (λa vs' e h=>Tv hc.ok h (λ_ h=>ih _ _ _ _ _ h) e) id
  | not=>exact nF (C:=λvs=>D c (_::r) vs _ _) h (λq vs' e h=>ih r _ _ _ _ h) id
  | bo op es=>cases op with
    | And=>cases es with
      | nil=>exact Ey (ih r _ _ _ _ h)
      | cons e l=>exact RN (B1.mono (ih (.t e::.Oh l::r) _ _ _ _ h) λ_ _ h=>jy h id id)
    | Or=>cases es with
      | nil=>exact HB (ih r _ _ _ _ h)
      | cons e l=>exact Wa (B1.mono (ih (.t e::.boo l::r) _ _ _ _ h) λ_ _ h=>jy h id id)
  | Oh es=>exact nF (C:=λvs=>D c (_::r) vs _ _) h (λq vs' e h=>iY h (ih (.bo .And es::r) _ _ _ _) (ih r _ _ _ _)) id
  | boo es=>exact nF (C:=λvs=>D c (_::r) vs _ _) h (λq vs' e h=>iY h (ih r _ _ _ _) (ih (.bo .Or es::r) _ _ _ _)) id
  | Fe b=>exact nF (C:=λvs=>D c (_::r) vs _ _) h (λq _ e h=>lu (C:=λvs=>D c (_::r) ([_]::vs) _ _) h (λv vs2 _ h=>iY h (ih (.e b::r) _ _ _ _) (ih r _ _ _ _)) e) id
  | Mp b o=>exact nF (C:=λvs=>D c (_::r) vs _ _) h (λq vs' e h=>uo h (λ_ _ h=>e h) λh=>iY h (ih (.e b::r) _ _ _ _) (ih (.e o::r) _ _ _ _)) id
  | ifs b o=>exact nF (C:=λvs=>D c (_::r) vs _ _) h (λq vs' e h=>iY h (ih (.ss b::r) _ _ _ _) (ih (.ss o::r) _ _ _ _)) id
  | wh b P=>exact nF (C:=λvs=>D c (_::r) vs _ _) h (λq vs' e h=>iY h (ih [.ss b,.bot P] _ _ _ _) (ih r _ _ _ _)) id
  | keep=>exact lu (C:=λvs=>D c (_::r) vs _ _) h (λf vs' e h=>QJ h (ih r _ _ _ _) e) id
  | cg=>exact vP (C:=λvs=>D c (_::r) vs _ _) h (λas _ e h=>lu (C:=λvs=>D c (_::r) (as::vs) _ _) h (λf vs2 e h=>RG hc.ok h (λ_ h=>ih _ _ _ _ _ h) e) e) id
  | wX=>exact vP (C:=λvs=>D c (_::r) vs _ _) h (λas _ e h=>vP (C:=λvs=>D c (_::r) (as::vs) _ _) h (λfa _ e h=>lu (C:=λvs=>D c (_::r) (as::fa::vs) _ _) h (λf vs2 e h=>ih (.cg::r) _ _ _ _ h) e) e) id
  | part e=>cases e with
    | none=>exact NT (ih _ _ _ _ _ h)
    | some e=>exact NQ (ih _ _ _ _ _ h)
  | Ij=>exact BP (C:=λvs=>D c (_::r) vs _ _) h (λd b _ e h=>lu (C:=λvs=>D c (_::r) ([d]::[b]::vs) _ _) h (λa vs2 _=>gB λi j l p1 p2 p3 h=>⟨i,j,l,p1,p2,p3,λS=>⟨_,lB (g:=[(S,_)]),ih _ _ _ _ _ (qu (h S))⟩⟩) e) id
  | Qv=>exact vP (C:=λvs=>D c (_::r) vs _ _) h (λas vs' e h=>λt=>⟨_,lB (g:=[(t,_)]),ih _ _ _ _ _ (qu (h t))⟩) id
  | Qu=>exact vP (C:=λvs=>D c (_::r) vs _ _) h (λas vs' e h=>λt=>⟨_,lB (g:=[(t,_)]),ih _ _ _ _ _ (qu (h t))⟩) id
  | asg t=>exact lu (C:=λvs=>D c (_::r) vs _ _) h (λa vs' e h=>uo h (λx q h=>by refine uE (λp gP=>?_) (CP q);subst gP;exact Kg hc ih h Fd e) λh=>qG h (λl q h=>Tr c q (ih _ _ _ _ _ h)) e) id
  | ln x=>exact UL hc ih h id
  | bn x=>exact lu (C:=λvs=>D c (_::r) vs _ _) h (λa vs' e h=>Kg hc ih h id e) id
  | st s=>exact qG h (λl e h=>TF c hc.ok e (ih _ _ _ _ _ h)) id
  | ss sts=>cases sts with
    | nil=>exact Qd (ih _ _ _ _ _ h)
    | cons s l=>exact V9 h id λh=>qt (ih _ _ _ _ _ h)
  | exp=>exact lu (C:=λvs=>D c (_::r) vs _ _) h (λa vs' e h=>by
      cases a with
      | none=>exact⟨rfl,ih _ _ _ _ _ h⟩
      | _=>exact e h) id
  | gm name=>exact lu (C:=λvs=>D c (_::r) vs _ _) h (λa vs' e h=>c7 h (λx _ e1 _=>j5 (λq h=>by subst e1 q;exact GP hc.ok ⟨trivial,ih r _ _ _ _ h⟩) e) e) id
  | dup=>exact lu (C:=λvs=>D c (_::r) vs _ _) h (λa vs' e h=>ih r _ _ _ _ h) id
  | Ql=>exact BP (C:=λvs=>D c (_::r) vs _ _) h (λb a vs' e h=>ih r _ _ _ _ h) id
  | nl=>exact ih r _ _ _ _ h
  | RJ b=>exact nF (C:=λvs=>D c (_::r) vs _ _) h (λq vs' e h=>iY h (ih (.e b::r) _ _ _ _) (ih r _ _ _ _)) id
  | spl b=>exact vP (C:=λvs=>D c (_::r) vs _ _) h (λas vs' e h=>ih r _ _ _ _ h) id
  | _=>exact h
end
theorem MJ{c:Cx}{nm:NM}{n:Nat}(hc:c.Ok n nm):∀ (k:Nat) (r:List It) (vs:bR) (xs ys:Vs) (gs:Gs),go c nm k r vs xs ys gs→D c r vs (mk nm xs) (led c ys gs)
 | 0,_,_,_,_,_,h=>h
 | _+1,[],_,_,_,_,h=>h
 | k+1,i::r,vs,xs,ys,gs,h=>KD hc (MJ hc k) i r vs xs ys gs h
theorem aB{c:Cx}{nm:NM}{n:Nat}{r:List It}{vs:bR}{xs ys:Vs}{gs:Gs}(hc:c.Ok n nm)(h:Go c nm r vs xs ys gs):D c r vs (mk nm xs) (led c ys gs):=
 MJ hc 10000 r vs xs ys gs (lZ (K:=λgs=>go c nm 10000 r vs xs ys gs) h)
noncomputable def FX(w:World)(b:Bool)(n:Nat)(f:Addr)(base:Heap)(as:List AV)(gs:Gs){ι:Type}(C:ι→Prop)(v:ι→AV)(g':ι→Gs)(X:Value→Prop):Prop:=
 FN w b n f base as (flat gs) (λa μ=>∃ i,C i∧a=v i∧μ.Perm (flat (g' i))) X
noncomputable def qe:Nat→(List Value→Prop)→Prop
 | 0,P=>P []
 | n+1,P=>∀ v,qe n λl=>P (v::l)
theorem qe.at_{vs:List Value}:∀ {n:Nat}{P:List Value→Prop},qe n P→vs.length=n→P vs:=by
 induction vs with
 | nil=>intro n P h e;subst e;exact h
 | cons v vs ih=>intro n P h e;subst e;exact ih (P:=λl=>P (v::l)) (h v) rfl
theorem vL{w:World}{b:Bool}{n:Nat}{f:Addr}{base:Heap}{as:List AV}{μ:Led}{Q Q':AV→Led→Prop}{X X':Value→Prop}(h:FN w b n f base as μ Q X)(k:∀ a μ',Q a μ'→Q' a μ')(kx:∀ c,X c→X' c):FN w b n f base as μ Q' X':=
 λvs hv=>(h vs hv).mono k kx
theorem Out.next{c:Cx}{w:World}{fx:Fx}{t:Sem Flow}{m:au}{σ:Led}{X:Value→Prop}(h:ST w fx t m σ (λ_ σ'=>Out c .none σ') (Out c) X):ST w fx t m σ (λ_ σ'=>c.R .none σ') c.R X:=λs H=>aV (h s H) (λf s' ⟨m',σ',H',q⟩=>by
    have hnd:(m'.map (·.1)).Nodup:=let ⟨_,_,_,h⟩:=H';h.vars.nd
    cases f with
    | next=>
      refine bw (λμ ρ p q=>?_) q
      exact⟨m',μ,H'.weaken (λ_ _ h=>h) hnd p,q⟩
    | ret v=>
      refine Px (λa ha μ ρ p q=>?_) q
      exact⟨m',μ,H'.weaken (λ_ _ h=>h) hnd p,a,ha,q⟩
    | brk=>exact q.elim
    | cont=>exact q.elim) λ_ _ e=>e
theorem uG(ps rest:List Str):∀ (as:List AV),ps.length=as.length→(ps++rest).zip (as.map some++rest.map λ_=>none)=ps.zip (as.map some)++rest.map λx=>(x,(none:Option AV)):=by
  induction ps with
  | nil=>
    intro as h
    obtain rfl:=List.length_eq_zero_iff.mp h.symm
    show rest.zip (rest.map λ_=>none)=rest.map λx=>(x,none)
    induction rest with
    | nil=>rfl
    | cons x r ih=>exact congrArg ((x,none) :: ·) ih
  | cons p ps ih=>
    intro as h
    cases as with
    | nil=>exact nomatch h
    | cons a as=>exact congrArg (_ :: ·) (ih as (Nat.succ.inj h))
theorem FX.go{w:World}{b:Bool}{n:Nat}{base:Heap}{f:Addr}{as:List AV}{gs:Gs}{ι:Type}{C:ι→Prop}{v:ι→AV}{g':ι→Gs}{X:Value→Prop}
  {name qual:Str}{params:Arguments}{body:List Stmt}{names:List (Str×NameKind)}{dV kV doc pm cdv ct oc:Value}{an od:Option Addr}{osl:Array (Option Value)}{more:List (Str×Const)}(ps rest:List Str)
  (ho:(KK w).lookup f=some ⟨oc,od,.func (fnX name qual params body ⟨.function,names,false,false,more⟩ [] dV kV doc pm an cdv ct),osl⟩)(hcd:codeIn (KK w) cdv qual=true)
  (hl:ps.length=as.length)
  (hbind:qe as.length λvs=>bindArgs (fnX name qual params body ⟨.function,names,false,false,more⟩ [] dV kV doc pm an cdv ct) ⟨vs,[]⟩=pure (ps.zip vs))
  (hchk:zq ps rest names=true)
  (h:∀ c:Cx,c.Ok n ⟨ps++rest,[],names⟩→bU c.fx→c.w=w→c.fx.cl=b→c.fx.base=base→(∀ e,X e→c.X e)→(∀ i,C i→c.R (v i) (flat (g' i)))→
   tV (as.map some++rest.map λ_=>none) λxs=>Go c ⟨ps++rest,[],names⟩ [.ss body,.tD] [] xs [] gs) :
  FX w b (n+1) f base as gs C v g' X:=by
 refine FN.def ps rest ho hcd hl (λvs hv=>hbind.at_ hv.length) hchk λfx ok ow hk hcl hb hfz he=>?_
 refine uE (λL he=>?_) he
 let c:Cx:=⟨w,fx,X,λa μ=>∃ i,C i∧a=v i∧μ.Perm (flat (g' i)),[]⟩
 have hc:c.Ok n ⟨ps++rest,[],names⟩:=⟨ok,hk,by show fx.env.cells=[];rw[he],rfl⟩
 have h1:=aB hc (lZ (K:=λxs=>Go c ⟨ps++rest,[],names⟩ [.ss body,.tD] [] xs [] gs) (h c hc ow rfl hcl hb (λ_ q=>q) λi hi=>⟨i,hi,rfl,.refl _⟩))
 have h1:SS w fx body (mk ⟨ps++rest,[],names⟩ (as.map some++rest.map λ_=>none)) (flat gs) (λ_ σ'=>Out c .none σ') (Out c) X:=h1
 have h2:=Out.next h1
 unfold mk at h2
 rw[uG ps rest as hl] at h2
 exact h2
noncomputable def cI:Gs→Nat→Led
 | [],_=>[]
 | g::_,0=>g
 | _::r,i+1=>cI r i
noncomputable def Im:Gs→Nat→(Led→Led)→Gs
 | [],_,_=>[]
 | g::r,0,f=>f g::r
 | g::r,i+1,f=>g::Im r i f
noncomputable def Jq:Led→Nat→AO→Led
 | [],_,_=>[]
 | p::r,0,ao=>(p.1,ao)::r
 | p::r,j+1,ao=>p::Jq r j ao
noncomputable def DP:Gs→Nat→Led→Gs
  | [],_,x=>[x]
  | g::r,0,x=>(match g with
    | []=>x
    | p::g=>x++p::g)::r
  | g::r,i+1,x=>g::DP r i x
noncomputable abbrev wA(gs:Gs)(i:Nat):Gs:=Im gs i λ_=>[]
noncomputable def gets(gs:Gs):List Nat→Gs
 | []=>[]
 | i::is=>cI gs i::gets (wA gs i) is
noncomputable def cuts(gs:Gs):List Nat→Gs
 | []=>gs
 | i::is=>cuts (wA gs i) is
noncomputable def puts(gs:Gs)(is:List Nat)(l:Gs):Gs:=match is with
  | []=>gs++l
  | i::is=>match l with
    | []=>gs
    | g::l=>puts (DP gs i g) is l
  termination_by structural is
theorem wz:∀ (gs:Gs) (i:Nat),(flat gs).Perm (cI gs i++flat (wA gs i))
  | [],_=>.refl _
  | g::r,0=>.refl _
  | g::r,i+1=>by
    show(g++flat r).Perm (cI r i++(g++flat (wA r i)))
    refine((wz r i).append_left g).trans ?_
    rw[←aA,←aA]
    exact List.perm_append_comm.append_right _
theorem wj:∀ (gs:Gs) (i:Nat) (x:Led),(flat (DP gs i x)).Perm (x++flat gs)
  | [],_,_=>.refl _
  | []::r,0,x=>.refl _
  | (p::g)::r,0,x=>by
    show((x++p::g)++flat r).Perm (x++((p::g)++flat r))
    rw[aA]
  | g::r,i+1,x=>by
    show(g++flat (DP r i x)).Perm (x++(g++flat r))
    refine((wj r i x).append_left g).trans ?_
    rw[←aA,←aA]
    exact List.perm_append_comm.append_right _
theorem gR:∀ (is:List Nat) (gs:Gs),(flat gs).Perm (flat (gets gs is)++flat (cuts gs is))
  | [],gs=>.refl _
  | i::is,gs=>by
    show(flat gs).Perm ((cI gs i++flat (gets (wA gs i) is))++flat (cuts (wA gs i) is))
    rw[aA]
    exact(wz gs i).trans ((gR is (wA gs i)).append_left _)
theorem u9:∀ (is:List Nat) (gs l:Gs),(is.length≤l.length)→(flat (puts gs is l)).Perm (flat l++flat gs)
  | [],gs,l,_=>by
    show(flat (gs++l)).Perm _
    rw[fZ];exact List.perm_append_comm
  | i::is,gs,g::l,h=>by
    refine(u9 is (DP gs i g) l (Nat.le_of_succ_le_succ h)).trans ?_
    refine((wj gs i g).append_left _).trans ?_
    show(flat l++(g++flat gs)).Perm ((g++flat l)++flat gs)
    rw[←aA]
    exact List.perm_append_comm.append_right _
theorem rP{p:Addr×AO}:∀ (gs:Gs) (i:Nat),p∈cI gs i→p∈flat gs
 | [],_,h=>h
 | g::r,0,h=>List.mem_append_left _ h
 | g::r,i+1,h=>List.mem_append_right _ (rP r i h)
theorem fO.left{a ao dB}:∀ {l r r':Led},fO a ao dB r r'→fO a ao dB (l++r) (l++r')
 | [],_,_,h=>h
 | _::_,_,_,h=>.there (fO.left h)
theorem fO.right{a ao dB}{l r r':Led} (h:fO a ao dB r r'):fO a ao dB (r++l) (r'++l):=by
 induction h with
 | here=>exact .here
 | there _ ih=>exact .there ih
theorem CW{a ao dB}:∀ {l:Led}{j:Nat},l[j]?=some (a,ao)→fO a ao dB l (Jq l j dB)
 | [],j,h=>by rw[List.getElem?_nil] at h;exact nsA h
 | p::l,0,h=>by cases (oI h:p=(a,ao));exact .here
 | p::l,j+1,h=>.there (CW (l:=l) (j:=j) h)
theorem DG{a ao dB}:∀ {gs:Gs}{i j:Nat},(cI gs i)[j]?=some (a,ao)→fO a ao dB (flat gs) (flat (Im gs i λg=>Jq g j dB))
  | [],i,j,h=>by
    have h:([]:Led)[j]?=some (a,ao):=h
    rw[List.getElem?_nil] at h;exact nsA h
  | g::r,0,j,h=>fO.right (CW h)
  | g::r,i+1,j,h=>fO.left (DG (gs:=r) (i:=i) h)
noncomputable abbrev DK(gs:Gs)(i j:Nat)(ao:AO):Gs:=Im gs i λg=>Jq g j ao
section
variable{c:Cx}{nm:NM}{n n':Nat}{r:List It}{vs:bR}{xs ys:Vs}{gs:Gs}{a:Addr}{ao dB:AO}
theorem Dl(i j:Nat)(h:(cI gs i)[j]?=some (a,ao)):(a,ao)∈led c ys gs:=List.mem_append_right _ (rP gs i (List.mem_of_getElem? h))
theorem aj(i j:Nat)(h:(cI gs i)[j]?=some (a,ao)):Has c.w c.fx (led c ys gs) a ao:=.inl (Dl i j h)
theorem jG(i j:Nat)(h:(cI gs i)[j]?=some (a,ao)):fO a ao dB (led c ys gs) (led c ys (DK gs i j dB)):=fO.left (DG h)
theorem lC(is:List Nat):(led c ys gs).Perm (flat (gets gs is)++led c ys (cuts gs is)):=by
 unfold led
 refine((gR is gs).append_left _).trans ?_
 rw[←aA,←aA]
 exact List.perm_append_comm.append_right _
theorem yV(is:List Nat)(l:Gs)(h:is.length≤l.length):(flat l++led c ys gs).Perm (led c ys (puts gs is l)):=by
 unfold led
 refine .trans ?_ ((u9 is gs l h).append_left _).symm
 rw[←aA,←aA]
 exact List.perm_append_comm.append_right _
theorem aq(is:List Nat){v:AV}(h:c.R v (flat (gets gs is))):Out c v (led c ys gs):=⟨_,_,lC is,h⟩
theorem q7{p:Prop} [Decidable p] {A B:Prop} (h1:¬p→A) (h2:p→B):br (!decide p) A B:=RK (aO h2 h1)
theorem wH{f:Addr}{as:List AV}{ι:Type}{C:ι→Prop}{v:ι→AV}{g':ι→Gs}{X':Value→Prop}(hc:c.Ok n nm)(is:List Nat)(hn:n'≤n)
  (h:∀ base',Reads c.w c.fx (led c ys (cuts gs is)) base'→FX c.w c.fx.cl n' f base' as (gets gs is) C v g' X')(hX:∀ e,X' e→c.X e)(hl:∀ i,is.length≤(g' i).length)
  (k:∀ i,C i→D c r ([v i]::vs) (mk nm xs) (led c ys (puts (cuts gs is) is (g' i)))):D c (.cg::r) (as::[.ref f]::vs) (mk nm xs) (led c ys gs):=by
 show CL c.w c.fx (.ref f) as (mk nm xs) (led c ys gs) (λa σ'=>D c r ([a]::vs) (mk nm xs) σ') c.X
 intro vf vs' hf hv
 cases hf
 exact V1.perm (WP.perm (lC is) (WP.runValue hc.ok hn λbase' k1 k2=>(h base' ⟨k1,k2⟩ _ hv).mono (λa μ ⟨i,hi,e,p⟩=>⟨_,(p.append_right _).trans (yV is _ (hl i)),e▸k i hi⟩) hX))
theorem bD{f:Addr}{as:List AV}{ι:Type}{C:ι→Prop}{v:ι→AV}{g':ι→Gs}{X':Value→Prop}(hc:c.Ok n nm)(is:List Nat)(hn:n'≤n)
  (h:∀ base',Reads c.w c.fx (led c ys (cuts gs is)) base'→FX c.w c.fx.cl n' f base' as (gets gs is) C v g' X')(hX:∀ e,X' e→c.X e)(hl:∀ i,is.length≤(g' i).length)
  (k:∀ i,C i→Go c nm r ([v i]::vs) xs ys (puts (cuts gs is) is (g' i))):D c (.cg::r) (as::[.ref f]::vs) (mk nm xs) (led c ys gs):=
 wH hc is hn h hX hl λi hi=>aB hc (k i hi)
end
section
variable{c:Cx}{nm:NM}{n n':Nat}{r:List It}{vs:bR}{xs ys:Vs}{gs:Gs}{a l:Addr}{ao dB:AO}{x y:Int}
theorem wD{v s:Expr}{ls:List AV}{k:Int}{b:AV}(hc:c.Ok n nm)(i j:Nat)(hs:cZ s)(hg:(cI gs i)[j]?=some (l,.list ls))(h0:0≤k)(hf:k<2^63)(hx:ls[k.toNat]?=some b)(h:Go c nm r ([b]::vs) xs ys gs) :
  D c (.sub v s::r) ([.int k]::[.ref l]::vs) (mk nm xs) (led c ys gs):=DR hc.ok hs (aj i j hg) h0 hf hx (aB hc h)
theorem wB{ls:List AV}{k:Int}{b:AV}(hc:c.Ok n nm)(i j:Nat)(hg:(cI gs i)[j]?=some (l,.list ls))(h0:0≤k)(hf:k<2^63)(hn:k.toNat<ls.length)(h:Go c nm r vs xs ys (DK gs i j (.list (ls.set k.toNat b)))) :
  D c (.si::r) ([.int k]::[.ref l]::[b]::vs) (mk nm xs) (led c ys gs):=KQ (jG i j hg) h0 hf hn (aB hc h)
theorem Al(hc:c.Ok n nm)(hy:0≤y)(hsz:(Builtin.Int.intBits x:Int)*y≤2^27)(h:∀ P,P=x^y.toNat→Go c nm r ([.int P]::vs) xs ys gs):D c (.bin .Pow false::r) ([.int y]::[.int x]::vs) (mk nm xs) (led c ys gs):=
 Uq hc.ok hy hsz (aB hc (h _ rfl))
theorem G3(hc:c.Ok n nm)(hy:y≠0)(h:Go c nm r ([.int (x.fmod y)]::vs) xs ys gs):D c (.bin .Mod false::r) ([.int y]::[.int x]::vs) (mk nm xs) (led c ys gs):=Lp hc.ok hy (aB hc h)
theorem Nf(hc:c.Ok n nm)(hy:y≠0)(hy2:y.natAbs<2^64)(h:Go c nm r ([.int (x.fdiv y)]::vs) xs ys gs):D c (.bin .FloorDiv false::r) ([.int y]::[.int x]::vs) (mk nm xs) (led c ys gs):=Lq hc.ok hy hy2 (aB hc h)
theorem jK(hc:c.Ok n nm)(hm:IntMulOk x y)(h:Go c nm r ([.int (x*y)]::vs) xs ys gs):D c (.bin .Mult false::r) ([.int y]::[.int x]::vs) (mk nm xs) (led c ys gs):=Ur hc.ok hm (aB hc h)
end
noncomputable abbrev BX(b0 b1 c:Int):AO:=.list [.int b0,.int b1,.int c]
theorem RP{x:Int}(h1 : -(2^60)≤x)(h2:x≤2^60):(Builtin.Int.intBits x:Int)≤64:=by
 have:=PySem.intBits_le_64 (k:=x) (by exact L1 [_] [] 245308197183836854558101826818746605740501057 129 13373741879486835245188160 rfl h1) (by exact L1 [_] [] 1208925819614629174716593 129 75557863725914323420336 rfl h2)
 exact L1 [] [_] 268512368 129 4195509 rfl this
theorem rF{x y:Int}(h1 : -(2^60)≤x)(h2:x≤2^60)(hy:0≤y)(hy2:y≤1000):(Builtin.Int.intBits x:Int)*y≤2^27:=by
 have h:=RP h1 h2
 have:(Builtin.Int.intBits x:Int)*y≤64*y:=Int.mul_le_mul_of_nonneg_right h hy
 exact om3 hy2 this
noncomputable abbrev O1(b0 c many:Int)(i:Int×Int×Int):Prop:=0≤i.1∧i.1<many∧0≤i.2.1∧0≤i.2.2∧i.2.2≤c+1
theorem Kz(w:World)(b:Bool)(base:Heap)(bx:Addr)(b0 b1 c many:Int)(h0:0≤b0)(h1:0≤b1)(h1':b1<2147483648)(hc:0≤c)(hc':c≤100000)(hm:0<many)(hm':many<2^32) :
  FX w b 1 471 base [.ref bx,.int many] [[(bx,BX b0 b1 c)]] (O1 b0 c many) (λi=>.int i.1) (λi=>[[(bx,BX i.2.1 b1 i.2.2)]]) bN:=by
 refine FX.go ["box","many"] ["digit","blend"] rfl rfl rfl (λ_ _=>rfl) (by decide +kernel) ?_
 rintro k hk ow rfl - - - hR
 refine wD hk 0 0 (λ_ _=>rfl) rfl (by decide) (by decide) rfl ?_
 refine aO (λhp=>?_) (λhp=>?_)
 ·refine wD hk 0 0 (λ_ _=>rfl) rfl (by decide) (by decide) rfl ?_
  refine G3 hk (Int.ne_of_gt hm) ?_
  refine wD hk 0 0 (λ_ _=>rfl) rfl (by decide) (by decide) rfl ?_
  refine Nf hk (Int.ne_of_gt hm) (by exact om4 hm hm') ?_
  refine wB hk 0 0 rfl (by decide) (by decide) (Nat.le_of_ble_eq_true rfl) ?_
  exact aq [0] (hR (b0.fmod many,b0.fdiv many,c) ⟨Int.fmod_nonneg_of_pos _ hm,Int.fmod_lt_of_pos _ hm,Int.fdiv_nonneg h0 (Int.le_of_lt hm),hc,Int.le_of_lt (Int.lt_add_one_of_le (Int.le_refl c))⟩)
 ·refine wD hk 0 0 (λ_ _=>rfl) rfl (by decide) (by decide) rfl ?_
  refine wB hk 0 0 rfl (by decide) (by decide) (Nat.le_of_ble_eq_true rfl) ?_
  refine wD hk 0 0 (λ_ _=>rfl) rfl (by decide) (by decide) rfl ?_
  refine wD hk 0 0 (λ_ _=>rfl) rfl (by decide) (by decide) rfl ?_
  refine jK hk (.of_left (by decide)) ?_
  refine Al hk (by decide) (rF (by exact om5 h1 hc) (by exact om6 h1' hc') (by decide) (by decide)) λP hP=>?_
  refine wD hk 0 0 (λ_ _=>rfl) rfl (by decide) (by decide) rfl ?_
  refine jK hk (.of_left (by decide)) ?_
  have e1:=Int.fmod_nonneg_of_pos P (b:=2147483647) (by decide)
  have e2:=Int.fmod_lt_of_pos P (b:=2147483647) (by decide)
  refine Al hk (by decide) (rF (by exact om7 hc e1) (by exact om8 hc' e2) (by decide) (by decide)) λP' hP'=>?_
  refine G3 hk (Int.ne_of_gt hm) ?_
  exact aq [0] (hR (((P'.fmod 2147483587).fdiv 16).fmod many,b0,c+1) ⟨Int.fmod_nonneg_of_pos _ hm,Int.fmod_lt_of_pos _ hm,h0,Int.add_nonneg hc (by decide),Int.le_refl _⟩)
noncomputable abbrev F1(w:World)(b:Bool)(n:Nat)(f:Addr)(base:Heap)(as:List AV)(gs:Gs)(v:AV)(g':Gs)(X:Value→Prop):Prop:=FX w b n f base as gs (λ_:Unit=>True) (λ_=>v) (λ_=>g') X
section
variable{c:Cx}{nm:NM}{n n':Nat}{r:List It}{vs:bR}{xs ys:Vs}{gs:Gs}{a l S:Addr}{ao dB:AO}{x y:Int}{ls:List AV}
theorem aF{f:Addr}{as:List AV}{v:AV}{g':Gs}{X':Value→Prop}(hc:c.Ok n nm)(is:List Nat)(hn:n'≤n)
  (h:∀ base',Reads c.w c.fx (led c ys (cuts gs is)) base'→F1 c.w c.fx.cl n' f base' as (gets gs is) v g' X')(hX:∀ e,X' e→c.X e)(hl:is.length≤g'.length)
  (k:Go c nm r ([v]::vs) xs ys (puts (cuts gs is) is g')):D c (.cg::r) (as::[.ref f]::vs) (mk nm xs) (led c ys gs):=
 bD hc is hn h hX (λ_=>hl) λ_ _=>k
theorem aX{X:Value→Prop}:∀ e,bN e→X e:=λ_ h=>h.elim
theorem bC(hc:c.Ok n nm)(hl:Has c.w c.fx (led c ys gs) l (.list ls))(hz:ls.length≤1000000)(h:Go c nm r ([.int ls.length]::vs) xs ys gs):D c (.cg::r) ([.ref l]::[.bi "len"]::vs) (mk nm xs) (led c ys gs):=Bg hl hz (aB hc h)
theorem aU{v s:Expr}{k:Int}{b:AV}(hc:c.Ok n nm)(hs:cZ s)(hg:Has c.w c.fx (led c ys gs) l (.list ls))(h0:0≤k)(hf:k<2^63)(hx:ls[k.toNat]?=some b)(h:Go c nm r ([b]::vs) xs ys gs) :
  D c (.sub v s::r) ([.int k]::[.ref l]::vs) (mk nm xs) (led c ys gs):=DR hc.ok hs hg h0 hf hx (aB hc h)
theorem Go.snoc{g:Led}(hc:c.Ok n nm)(h:Go c nm r vs xs ys (gs++[g])):∃ σ',(g++led c ys gs).Perm σ'∧D c r vs (mk nm xs) σ':=⟨_,lB,aB hc h⟩
theorem M8{v s:Expr}{lo hi st:Option Int}(hc:c.Ok n nm)(hl:Has c.w c.fx (led c ys gs) l (.list ls))(hs:Has c.w c.fx (led c ys gs) S (.slice lo hi st))(h0:st≠some 0)(hz:ls.length≤1000000)
  (h:∀ R,Go c nm r ([.ref R]::vs) xs ys (gs++[[(R,.list (gO ls lo hi st))]])):D c (.sub v s::r) ([.ref S]::[.ref l]::vs) (mk nm xs) (led c ys gs):=
 λvo vi ho hi=>V1.perm (wu hl hs h0 hz (λR=>Go.snoc (g:=[(R,_)]) hc (h R)) vo vi ho hi)
theorem pP(hc:c.Ok n nm)(hy:0≤y)(h:Go c nm r ([.int (x.fdiv (2^y.toNat))]::vs) xs ys gs):D c (.bin .RShift false::r) ([.int y]::[.int x]::vs) (mk nm xs) (led c ys gs):=Un hc.ok hy (aB hc h)
theorem kE(hc:c.Ok n nm)(hy:0≤y)(hy2:y≤1000000)(hx:x.natAbs<2^64)(h:Go c nm r ([.int (x*2^y.toNat)]::vs) xs ys gs):D c (.bin .LShift false::r) ([.int y]::[.int x]::vs) (mk nm xs) (led c ys gs):=Uo hc.ok hy hy2 hx (aB hc h)
theorem Rb(hc:c.Ok n nm)(hy:0≤y)(h:Go c nm r ([.int (x.fdiv (2^y.toNat))]::vs) xs ys gs):D c (.inp .RShift::r) ([.int y]::[.int x]::vs) (mk nm xs) (led c ys gs):=Vg hc.ok hy (aB hc h)
theorem Ak{ls:List Int}(hc:c.Ok n nm)(hl:Has c.w c.fx (led c ys gs) l (.list (iL ls)))(h:Go c nm r ([.int ls.sum]::vs) xs ys gs):D c (.cg::r) ([.ref l]::[.bi "sum"]::vs) (mk nm xs) (led c ys gs):=Rw hc.ok hl (aB hc h)
end
theorem RL(w:World)(b:Bool)(base:Heap)(c:Int):FX w b 1 464 base [.int c] [] (λ_:Addr=>True) (λx=>.ref x) (λx=>[[(x,BX (max 0 (c-10^18)) (c.fmod 2147483629) 0)]]) bN:=by
 refine FX.go ["cell"] [] rfl rfl rfl (λ_=>rfl) (by decide +kernel) ?_
 rintro k hk ow rfl - - - hR
 refine Al hk (by decide) (by decide) λP hP=>?_
 subst hP
 intro t
 exact aq [0] (hR t trivial)
theorem vp(w:World)(b:Bool)(base:Heap)(c:Int):F1 w b 1 267 base [.int c] [] (.int (if c = -1 then 1 else c)) [] bN:=by
 refine FX.go ["count"] [] rfl rfl rfl (λ_=>rfl) (by decide +kernel) ?_
 rintro k hk ow rfl - - - hR
 refine aO (λhc=>?_) (λhc=>?_)
 ·rw[if_pos hc] at hR;exact aq [] (hR () trivial)
 ·rw[if_neg hc] at hR;exact aq [] (hR () trivial)
theorem Ms(w:World)(b:Bool)(base:Heap)(c:Int):F1 w b 1 274 base [.int c] [] (.int (Builtin.Int.intBits c-1)) [] bN:=by
 refine FX.go ["number"] [] rfl rfl rfl (λ_=>rfl) (by decide +kernel) ?_
 rintro k hk ow rfl - - - hR
 exact aq [] (hR () trivial)
theorem iu(w:World)(b:Bool)(base:Heap)(c:Int)(h0:0≤c):F1 w b 1 85 base [.int c] [] .none [] bN:=by
 refine FX.go ["count"] [] rfl rfl rfl (λ_=>rfl) (by decide +kernel) ?_
 rintro k hk ow rfl - - - hR
 refine aO (λhc=>absurd h0 (Int.not_le.mpr hc)) (λhc=>?_)
 exact aq [] (hR () trivial)
theorem vM(w:World)(b:Bool)(base:Heap)(v c:Int)(h0:0≤c)(h1:0≤v)(h2:v<2^c.toNat):F1 w b 2 92 base [.int v,.int c] [] .none [] bN:=by
 refine FX.go ["value","size"] [] rfl rfl rfl (λ_ _=>rfl) (by decide +kernel) ?_
 rintro k hk ow rfl - - - hR
 refine aF hk [] (nR _) (λbase' _=>iu k.w _ base' c h0) aX (nR _) ?_
 refine aO (λhc=>absurd h1 (Int.not_le.mpr hc)) (λhc=>?_)
 refine pP hk h0 ?_
 refine q7 (λhc=>absurd ?_ hc) (λhc=>?_)
 ·rw[Int.fdiv_eq_ediv_of_nonneg _ (Int.le_of_lt (Int.pow_pos (by decide)))];exact Int.ediv_eq_zero_of_lt h1 h2
 exact aq [] (hR () trivial)
theorem Er(w:World)(b:Bool)(base:Heap)(S:Addr)(l:List Int)(hl:l.length≤1000)(hS:bW w base S (.list (iL l))):FX w b 2 457 base [.ref S,.int 0] [] (λ_:Int=>True) (λx=>.int x) (λ_=>[]) bN:=by
  refine FX.go ["script","k"] [] rfl rfl rfl (λ_ _=>rfl) (by decide +kernel) ?_
  rintro k hk ow rfl-rfl-hR
  cases l with
  | nil=>
    refine bC hk (.b hS) (Nat.zero_le _) ?_
    refine jK hk (.of_right (by decide)) ?_
    refine⟨_,_,_,.none,.int _,.none,λs=>?_⟩
    refine M8 hk (.b hS) (aj 0 0 rfl) nofun (Nat.zero_le _) λR=>?_
    refine Ak (ls:=[]) hk (aj 1 0 rfl) ?_
    exact aq [] (hR _ trivial)
  | cons i l=>
    have hz:(iL (i::l)).length=l.length+1:=by rw[iL,List.length_map];rfl
    refine bC hk (.b hS) (by rw[hz];exact Nat.le_trans hl (by decide)) ?_
    refine aO (λhc=>?_) (λhc=>absurd (by rw[hz];exact L2 [] [_,_] 1102473265153 8256 269158599 50790404 rfl hz hc) hc)
    refine aU hk (λ_ _=>rfl) (.b hS) (by decide) (by decide) rfl ?_
    exact aq [] (hR _ trivial)
section
variable{c:Cx}{nm:NM}{n n':Nat}{r:List It}{vs:bR}{gs:Gs}{a l S:Addr}{ao dB:AO}{x y:Int}{ls:List AV}
theorem iy{test:Expr}{body:List Stmt}{pos:Pos}{xs ys:Vs}(hc:c.Ok n nm)(ow:bU c.fx)(I:Nat→Vs→Vs→Gs→Prop)(k:Nat)(hi:I k xs ys gs)
  (turn:∀ k xs ys gs,I k xs ys gs→∀ P:au→Led→Prop,(∀ k' is xs' ys' gs',I k' xs' ys' (gets gs' is)→k'<k→P (mk nm xs') (led c ys' gs'))→Go c nm (.t test::.wh body P::r) vs xs ys gs) :
  D c (.st (.While test body [] pos)::r) vs (mk nm xs) (led c ys gs):=by
 refine KZ hc.ok ow (λk m σ=>∃ xs ys gs ρ,I k xs ys gs∧m=mk nm xs∧σ.Perm (led c ys gs++ρ)) (λk m σ=>jC λxs ys gs ρ hi e p=>?_) k ⟨xs,ys,gs,[],hi,rfl,by rw[aN]⟩
 subst e
 have h:=aB hc (turn k xs ys gs hi (λm σ=>∃ k' xs' ys' gs' ρ,k'<k∧I k' xs' ys' gs'∧m=mk nm xs'∧σ.Perm (led c ys' gs'++ρ))
  (λk' is xs' ys' gs' hj hlt=>⟨k',xs',ys',_,flat (cuts gs' is),hlt,hj,rfl,by
   unfold led
   rw[aA]
   exact(gR is gs').append_left _⟩))
 exact λs H=>B1.mono h (λq σ' z=>jy z (λz=>SS.mono z (λm' σ'=>Fp λk' xs' ys' gs' ρ h1 h2 h3 h4=>⟨k',h1,xs',ys',gs',ρ,h2,h3,h4⟩) λ_ _ z=>z) id) s (H.eX p)
theorem eO{t it:Expr}{body:List Stmt}{pos:Pos}{xs ys:Vs}(hc:c.Ok n nm)(ow:bU c.fx)(hs:∀ x,foldedSetIterable it c.fx.env x=pure x)(h:Go c nm (.e it::.fr t body::r) vs xs ys gs) :
  D c (.st (.For t it body [] pos)::r) vs (mk nm xs) (led c ys gs):=Ri hc.ok ow hs (aB hc h)
theorem fJ{gs gs':Gs}{is:List Nat}{ρ:Led}(e:gets gs' is=gs++[ρ]):(flat (gets gs' is)).Perm (flat gs++ρ):=by
 rw[e,fZ]
 show(flat gs++(ρ++[])).Perm _
 rw[aN]
theorem nU{t:Expr}{body:List Stmt}{xs ys:Vs}{cnt:Nat}{own:Nat→Led}{item:Nat→AV→Led→Prop}{pre:Fx→Led→Prop}(hc:c.Ok n nm)(I:Nat→Vs→Vs→Gs→Prop)(hi:I 0 xs ys gs)
  (hp:∀ k xs ys gs,I k xs ys gs→∀ σ:Led,(∀ p∈led c ys gs,p∈σ)→pre c.fx σ)(he:∀ xs ys gs,I cnt xs ys gs→Go c nm r vs xs ys gs)
  (turn:∀ k,k<cnt→∀ xs ys gs,I k xs ys gs→∀ a ex,item k a ex→∀ P:au→Led→Prop,(∀ is xs' ys' gs' cO,I (k+1) xs' ys' cO→(flat (gets gs' is)).Perm (flat cO++own (k+1))→P (mk nm xs') (led c ys' gs'))→D c [.asg t,.ss body,.bot P] [[a]] (mk nm xs) (led c ys (gs++[own (k+1),ex]))) :
  ∃ Inv:Nat→au→Led→Prop,Inv 0 (mk nm xs) (led c ys gs)∧(∀ k m σ,Inv k m σ→pre c.fx σ)∧(∀ m σ,Inv cnt m σ→∃ σ' ρ,σ.Perm (σ'++ρ)∧D c r vs m σ')∧
  ∀ k,k<cnt→∀ m σ,Inv k m σ→∀ a ex,item k a ex→AS c.w c.fx t a m (own (k+1)++(ex++σ)) (λm' σ'=>SS c.w c.fx body m' σ' (λm'' eU=>∃ σ3,eU.Perm (own (k+1)++σ3)∧Inv (k+1) m'' σ3) (Out c) c.X) c.X:=by
 refine⟨λk m σ=>∃ xs ys gs ρ,I k xs ys gs∧m=mk nm xs∧σ.Perm (led c ys gs++ρ),⟨xs,ys,gs,[],hi,rfl,by rw[aN]⟩,?_,?_,?_⟩
 ·refine λk m σ=>jC (λxs ys gs ρ hi _ p=>?_)
  exact hp k xs ys gs hi σ λq hq=>p.symm.subset (List.mem_append_left _ hq)
 ·refine λm σ=>jC (λxs ys gs ρ hi e p=>?_)
  exact⟨_,_,p,e▸aB hc (he xs ys gs hi)⟩
 ·refine λk hk m σ=>jC (λxs ys gs ρ hi e p a ex hit v hv s H=>?_)
  subst e
  have h:=(turn k hk xs ys gs hi a ex hit (λm σ=>∃ xs ys gs ρ,I (k+1) xs ys gs∧m=mk nm xs∧σ.Perm (own (k+1)++(led c ys gs++ρ))) (λis xs' ys' gs' cO h1 h2=>⟨xs',ys',cO,flat (cuts gs' is),h1,rfl,by
   refine(lC is).trans ((h2.append_right _).trans ?_)
   show((flat cO++own (k+1))++(bK c.ca ys'++flat (cuts gs' is))).Perm (own (k+1)++((bK c.ca ys'++flat cO)++flat (cuts gs' is)))
   refine(List.perm_append_comm.append_right _).trans ?_
   rw[aA,←aA (flat cO)]
   exact(List.perm_append_comm.append_right _).append_left _⟩))
  have p1:(own (k+1)++(ex++σ)).Perm (led c ys (gs++[own (k+1),ex])++ρ):=by
   refine((p.append_left _).append_left _).trans ?_
   unfold led
   rw[fZ]
   show(own (k+1)++(ex++((bK c.ca ys++flat gs)++ρ))).Perm ((bK c.ca ys++(flat gs++(own (k+1)++(ex++[]))))++ρ)
   rw[aN,←aA (bK c.ca ys),←aA,←aA]
   exact List.perm_append_comm.append_right _
  exact aV (h v hv s (H.eX p1)) (λ_ s'=>bw λm' σ' H' z=>⟨m',σ',H',SS.mono z (λm'' eU=>jC λxs ys gs ρ h1 h2 h3=>⟨_,h3,xs,ys,gs,ρ,h1,h2,.refl _⟩) λ_ _ z=>z⟩) λ_ _ e=>e
theorem iK{t:Expr}{body:List Stmt}{xs ys:Vs}(hc:c.Ok n nm)(ht:cP t)(hl:Has c.w c.fx (led c ys gs) l (.list ls))(I:Nat→Vs→Vs→Gs→Prop)(hi:I 0 xs ys gs)
  (hp:∀ k xs ys gs,I k xs ys gs→Has c.w c.fx (led c ys gs) l (.list ls))(he:∀ xs ys gs,I ls.length xs ys gs→Go c nm r vs xs ys gs)
  (turn:∀ k,k<ls.length→∀ xs ys gs,I k xs ys gs→∀ J (P:au→Led→Prop),(∀ is xs' ys' gs' cO,I (k+1) xs' ys' cO→gets gs' is=cO++[[(J,.bh l (k+1))]]→P (mk nm xs') (led c ys' gs'))→Go c nm [.asg t,.ss body,.bot P] [[ls.getD k .none]] xs ys (gs++[[(J,.bh l (k+1))],[]])) :
  D c (.fr t body::r) ([.ref l]::vs) (mk nm xs) (led c ys gs):=
 rG hl ht λJ=>nU (own:=λk=>[(J,.bh l k)]) (item:=jh λk=>ls.getD k .none) (pre:=λfx σ=>Has c.w fx σ l (.list ls)) hc I hi (λk xs ys gs hi σ h=>(hp k xs ys gs hi).imp (h _) id) he λk hk xs ys gs hi a ex hit P hP=>by
  obtain⟨rfl,rfl⟩:=hit
  exact aB hc (turn k hk xs ys gs hi J P λis xs' ys' gs' cO h1 h2=>hP is xs' ys' gs' cO h1 (fJ h2))
theorem DW{t:Expr}{body:List Stmt}{xs ys:Vs}(hc:c.Ok n nm)(ht:cP t)(hl:Has c.w c.fx (led c ys gs) l (.list ls))(I:Nat→Vs→Vs→Gs→Prop)(hi:I 0 xs ys gs)
  (hp:∀ k xs ys gs,I k xs ys gs→Has c.w c.fx (led c ys gs) l (.list ls))(he:∀ xs ys gs,I ls.length xs ys gs→Go c nm r vs xs ys gs)
  (turn:∀ k,k<ls.length→∀ xs ys gs,I k xs ys gs→∀ J (P:au→Led→Prop),(∀ is xs' ys' gs' cO,I (k+1) xs' ys' cO→(flat (gets gs' is)).Perm (flat cO++[(J,.bh l (k+1))])→P (mk nm xs') (led c ys' gs'))→Go c nm [.asg t,.ss body,.bot P] [[ls.getD k .none]] xs ys (gs++[[(J,.bh l (k+1))],[]])) :
  D c (.fr t body::r) ([.ref l]::vs) (mk nm xs) (led c ys gs):=
 rG hl ht λJ=>nU (own:=λk=>[(J,.bh l k)]) (item:=jh λk=>ls.getD k .none) (pre:=λfx σ=>Has c.w fx σ l (.list ls)) hc I hi (λk xs ys gs hi σ h=>(hp k xs ys gs hi).imp (h _) id) he λk hk xs ys gs hi a ex hit P hP=>by
  obtain⟨rfl,rfl⟩:=hit
  exact aB hc (turn k hk xs ys gs hi J P hP)
theorem d9{t:Expr}{body:List Stmt}{xs ys:Vs}{a b d:Int}{cnt:Nat}{rr:Addr}(hc:c.Ok n nm)(ht:cP t)(hr:Has c.w c.fx (led c ys gs) rr (.range a b d))(hs:Builtin.Range.small a b d=true)(hn:Builtin.Range.rangeSize a b d=(cnt:Int))(I:Nat→Vs→Vs→Gs→Prop)(hi:I 0 xs ys gs)
  (he:∀ xs ys gs,I cnt xs ys gs→Go c nm r vs xs ys gs)
  (turn:∀ k,k<cnt→∀ xs ys gs,I k xs ys gs→∀ J (P:au→Led→Prop),(∀ is xs' ys' gs' cO,I (k+1) xs' ys' cO→gets gs' is=cO++[[(J,.eF (a+(k+1:Nat)*d) (cnt-(k+1:Nat)) d)]]→P (mk nm xs') (led c ys' gs'))→Go c nm [.asg t,.ss body,.bot P] [[.int (a+k*d)]] xs ys (gs++[[(J,.eF (a+(k+1:Nat)*d) (cnt-(k+1:Nat)) d)],[]])) :
  D c (.fr t body::r) ([.ref rr]::vs) (mk nm xs) (led c ys gs):=
 vq hr hs hn ht λJ=>nU (own:=λk=>[(J,.eF (a+k*d) (cnt-k) d)]) (item:=jh λk=>.int (a+k*d)) (pre:=λ_ _=>True) hc I hi (λ_ _ _ _ _ _ _=>trivial) he λk hk xs ys gs hi a ex hit P hP=>by
  obtain⟨rfl,rfl⟩:=hit
  exact aB hc (turn k hk xs ys gs hi J P λis xs' ys' gs' cO h1 h2=>hP is xs' ys' gs' cO h1 (fJ h2))
end
noncomputable def LR(kn:List (Str×NameKind))(line:Nat)(e:Expr):Option Str:=match e with
 | .Name id pos=>if(dX id kn == some .local&&pos.line == line)=true then some id else none
 | _=>none
noncomputable def Tz(kn:List (Str×NameKind))(ts vs:List Expr)(names:List Str):Bool:=
 (ts.length == 2||ts.length == 3)&&(vs.length == ts.length&&(!(vs.any λ| .Starred ..=>true|_=>false)&&(ts.filterMap (LR kn ((ts.head?.map (·.pos.line)).getD 0)) == names&&(names.length == ts.length&&(names.eraseDups.length == names.length&&(!(vs.all (foldedForSure 8)) && !(vs.all (constantsAlone 8))))))))
theorem Iv{α β:Type}(f g:α→Option β)(hfg:∀ x y,f x=some y→g x=some y):∀ l:List α,(l.filterMap f).length=l.length→l.filterMap g=l.filterMap f
  | [],_=>rfl
  | x :: l,h=>by
    cases q:f x with
    | none=>
      rw[List.filterMap_cons_none q] at h
      have:=List.length_filterMap_le f l
      rw[List.length_cons] at h
      exact(L2 [] [_,_] 10 8256 269224119 12469 rfl h this).elim
    | some y=>
      rw[List.filterMap_cons_some q] at h
      rw[List.filterMap_cons_some q,List.filterMap_cons_some (hfg x y q),Iv f g hfg l (Nat.succ.inj h)]
theorem Qa {w:World}{n:Nat}{fx:Fx}{kn:List (Str×NameKind)}{ts vs:List Expr}{names:List Str}{k k2:Nat}{p p2:Pos}(ok:aC w n fx)(hk:iZ fx kn)(h:Tz kn ts vs names=true):swappedStores [.Tuple ts k p] (.Tuple vs k2 p2) fx.env=pure (some names):=by
  unfold Tz at h
  refine uA (λh1 h=>?_) (bI h)
  refine uA (λh2 h=>?_) (bI h)
  refine uA (λh3 h=>?_) (bI h)
  refine uA (λh4 h=>?_) (bI h)
  refine uA (λh5 h=>?_) (bI h)
  refine uA (λh6 h=>?_) (bI h)
  refine uA (λh7 h8=>?_) (bI h)
  have e4:=beq_iff_eq.mp h4
  have key:=Iv (LR kn ((ts.head?.map (·.pos.line)).getD 0)) (fun
    | .Name id pos=>if(fx.env.kindOf id == some .local&&pos.line == (ts.head?.map (·.pos.line)).getD 0)=true then some id else none
    | _ =>none) (λx y q=>by
      cases x with
      | Name id pos=>
        unfold LR at q
        dsimp only at q⊢
        split at q
        · rename_i z
          refine uA (λz1 z2=>?_) (bI z)
          have:=(hk _ (bT (beq_iff_eq.mp z1))).1
          rw[this,if_pos (by rw[z2];rfl)];exact q
        · cases q
      | _=>exact nsA q) ts (by rw[e4];exact beq_iff_eq.mp h5)
  rw[e4] at key
  have hb:(fx.env.blockKind != .function)=false:=by unfold Env.blockKind;rw[ok.kind];rfl
  unfold swappedStores
  dsimp only
  generalize hz:List.filterMap _ ts=z
  obtain rfl:z=names:=hz.symm.trans key
  have n1:(!(ts.length == 2||ts.length == 3))=false:=by rw[h1];rfl
  have n2:(vs.length != ts.length)=false:=by show(!(vs.length == ts.length))=false;rw[h2];rfl
  have n5:(z.length != ts.length)=false:=by show(!(z.length == ts.length))=false;rw[h5];rfl
  have n6:(z.eraseDups.length != z.length)=false:=by show(!(z.eraseDups.length == z.length))=false;rw[h6];rfl
  rw[n1,n2,hb,n5,n6]
  refine(if_neg (by decide)).trans ((if_neg λq=>?_).trans ((if_neg (by decide)).trans ((if_neg λq=>?_).trans (if_neg λq=>?_))))
  · exact Bool.false_ne_true ((not_eq h3).symm.trans q)
  · exact Bool.false_ne_true ((not_eq h7).symm.trans q)
  · exact Bool.false_ne_true ((not_eq h8).symm.trans q)
section
variable{c:Cx}{nm:NM}{n n':Nat}{r:List It}{vs:bR}{xs ys:Vs}{gs:Gs}{m:au}{σ:Led}
theorem Eh{w:World}{fx:Fx}{X:Value→Prop}{pos es}{K:List AV→Led→Prop} (h:oA w fx pos es m σ K X):oA w fx pos es m σ (λas σ'=>as.length=es.length∧K as σ') X:=
 WP.mono h λvs m' σ2 ⟨e,as,h3,h4,h5⟩=>⟨e,as,h3,h4,h4,h5⟩
theorem Wg{ns:List Str}:∀ {as:List AV}{m:au}{σ:Led},as.length=ns.length→D c (ns.map .bn++r) ((as.map λa=>[a])++vs) m σ→AN c.w c.fx ns as m σ (λm' σ'=>D c r vs m' σ') c.X:=by
  induction ns with
  | nil=>intro as m σ hl h;obtain rfl:=List.length_eq_zero_iff.mp hl;exact R0 h
  | cons x ns ih=>
    intro as m σ hl h
    cases as with
    | nil=>exact nomatch hl
    | cons a as=>exact Ov (λv hv=>WP.mono (h v hv) λ_ m' σ' z=>ih (Nat.succ.inj hl) z)
theorem Ow(henv:∀ t ts,noStar t=true→assignEach (t::ts) c.fx.env=(false,assign t c.fx.env)::assignEach ts c.fx.env){ts:List Expr}:∀ {as:List AV}{m:au}{σ:Led},ts.all noStar=true→as.length=ts.length→D c (ts.map .asg++r) ((as.map λa=>[a])++vs) m σ→AI c.w c.fx ts as m σ (λm' σ'=>D c r vs m' σ') c.X:=by
  induction ts with
  | nil=>intro as m σ _ hl h;obtain rfl:=List.length_eq_zero_iff.mp hl;exact R2 h
  | cons t ts ih=>
    intro as m σ hs hl h
    cases as with
    | nil=>exact nomatch hl
    | cons a as=>exact Ox (henv t ts (bI hs).1) (λv hv=>WP.mono (h v hv) λ_ m' σ' z=>ih (bI hs).2 (Nat.succ.inj hl) z)
theorem dH{ts es:List Expr}{k k2:Nat}{p p2 pos:Pos}(hc:c.Ok n nm)(ns:List Str)(h2:Tz nm.kn ts es ns=true)(hz:es.length≤1000)(hn:es.length=ns.length)
  (h:Go c nm (.es p2 es::.spl true::(ns.reverse.map .bn++r)) vs xs ys gs):D c (.st (.Assign [.Tuple ts k p] (.Tuple es k2 p2) pos)::r) vs (mk nm xs) (led c ys gs):=
 Qh (iQ rfl _ _ _) (Qa hc.ok hc.hk h2) hc.ok (rU hz (oA.mono (Eh (aB hc h)) λas σ' z T=>⟨T,as,σ',rfl,rfl,z.1.trans hn,Wg (by rw[List.length_reverse,List.length_reverse];exact z.1.trans hn) z.2⟩))
theorem sJ{env:Env}(t:Expr)(ts:List Expr)(h:noStar t=true):assignEach (t::ts) env=(false,assign t env)::assignEach ts env:=by
 cases t<;>first|rfl|exact jN h|exact jN h.symm
theorem nZ{env:Env}:∀ {ts:List Expr},ts.all noStar=true→(assignEach ts env).length=ts.length∧(assignEach ts env).findIdx? (·.1)=none
  | [],_=>⟨rfl,rfl⟩
  | t::ts,h=>by
    refine uA (λh1 h2=>?_) (bI h)
    refine uA (λe1 e2=>?_) (nZ (env:=env) h2)
    rw[sJ t ts h1]
    refine⟨congrArg (· + 1) e1,?_⟩
    rw[List.findIdx?_cons,e2];rfl
theorem pO{ts es:List Expr}{k k2:Nat}{p p2 pos:Pos}(hc:c.Ok n nm)(h2:swappedStores [.Tuple ts k p] (.Tuple es k2 p2) c.fx.env=pure none)(hz:es.length≤1000)(hn:es.length=ts.length)(hs:ts.all noStar=true)
  (h:Go c nm (.es p2 es::.spl false::(ts.map .asg++r)) vs xs ys gs):D c (.st (.Assign [.Tuple ts k p] (.Tuple es k2 p2) pos)::r) vs (mk nm xs) (led c ys gs):=
 jA (iQ rfl _ _ _) h2 rfl (rU hz (oA.mono (Eh (aB hc h)) λas σ' z T=>as_tuple hc.ok (.inl (.head _)) (hn.symm.trans z.1.symm) (nZ hs).1 (nZ hs).2 λv hv s H=>Ow sJ hs (z.1.trans hn) z.2 v hv s (H.eX (ρ:=[(T,_)]) (List.perm_append_singleton _ _).symm)))
end
noncomputable def dv:List Nat→Nat
 | []=>0
 | d::r=>d+2*dv r
noncomputable def cQ(l:List Nat):Prop:=∀ d∈l,d<2
noncomputable def aP(v c:Nat):List Nat:=(List.range c).map λk=>v/2^k%2
theorem kW:∀ {l:List Nat},cQ l→dv l<2^l.length
  | [],_=>by simp[dv]
  | d::r,h=>by
    have h1:=h d (.head _)
    have h2:=kW (l:=r) λx hx=>h x (.tail _ hx)
    rw[dv,List.length_cons,Nat.pow_succ]
    exact L2 [] [_,_,_] 917099006733350 16513 131254 13510 rfl h1 h2
theorem p7:∀ (l k:List Nat),dv (l++k)=dv l+2^l.length*dv k
  | [],k=>by simp[dv]
  | d::r,k=>by
    rw[List.cons_append,dv,p7 r k,dv,List.length_cons,Nat.pow_succ,Nat.mul_add,←Nat.mul_assoc,Nat.mul_comm (2^r.length) 2]
    exact nA (L0 [] [_,_,_] 63773293581330067115617317 1 rfl) (L0 [] [_,_,_] 63773291027789078397126693 1 rfl)
theorem vQ(v c:Nat):aP v (c+1)=v%2::aP (v/2) c:=by
 unfold aP
 rw[List.range_succ_eq_map,List.map_cons,List.map_map]
 congr 1
 ·simp
 ·refine List.map_congr_left λk _=>?_
  show v/2^(k+1)%2=v/2/2^k%2
  rw[Nat.div_div_eq_div_mul,Nat.pow_succ,Nat.mul_comm]
theorem aL(v c:Nat):(aP v c).length=c:=by simp[aP]
theorem cF(v c:Nat):cQ (aP v c):=λd hd=>by
 obtain⟨k,_,rfl⟩:=mM hd
 exact Nat.mod_lt _ (by decide)
theorem qX:∀ (c v:Nat),dv (aP v c)=v%2^c
  | 0,v=>by simp[aP,dv,Nat.mod_one]
  | c+1,v=>by
    rw[vQ,dv,qX c,Nat.pow_succ,Nat.mul_comm (2^c) 2,Nat.mod_mul]
theorem cQ.append{l k:List Nat}(h:cQ l)(h':cQ k):cQ (l++k):=λd hd=>by
 rcases mA hd with q|q
 ·exact h d q
 ·exact h' d q
theorem cQ.drop{l:List Nat}(h:cQ l)(n:Nat):cQ (l.drop n):=λd hd=>h d (List.mem_of_mem_drop hd)
theorem cQ.take{l:List Nat}(h:cQ l)(n:Nat):cQ (l.take n):=λd hd=>h d (List.mem_of_mem_take hd)
theorem rW(l:List Nat)(n:Nat)(h:n≤l.length):dv l=dv (l.take n)+2^n*dv (l.drop n):=by
 conv=>lhs;rw[←List.take_append_drop n l,p7]
 rw[lT,Nat.min_eq_left h]
theorem Bd(l:List Nat)(n:Nat)(hb:cQ l)(h:n≤l.length):dv l%2^n=dv (l.take n):=by
 rw[rW l n h,Nat.add_mul_mod_self_left,Nat.mod_eq_of_lt]
 have:=kW (hb.take n)
 rwa [lT,Nat.min_eq_left h] at this
theorem Iw(l:List Nat)(n:Nat)(hb:cQ l)(h:n≤l.length):dv l/2^n=dv (l.drop n):=by
 rw[rW l n h,Nat.add_mul_div_left _ _ (Nat.two_pow_pos n),Nat.div_eq_of_lt,Nat.zero_add]
 have:=kW (hb.take n)
 rwa [lT,Nat.min_eq_left h] at this
noncomputable def dw(l:List Nat):List Nat:=if h:8≤l.length then dv (l.take 8)::dw (l.drop 8) else []
termination_by l.length
decreasing_by simp;exact L1 [] [_,_] 12470 129 3254791207 rfl (sC (l.length) 8 (L1 [] [_] 729093 129 729093 rfl h))
noncomputable def bB(l:List Nat):List Nat:=l.drop (8*(l.length/8))
noncomputable def allB(l:List Nat):List Nat:=if l=[] then [] else dv (l.take 8)::allB (l.drop 8)
termination_by l.length
decreasing_by
 rename_i h
 have:0<l.length:=List.length_pos_iff.mpr h
 simp;exact Or.elim (Nat.le_total (l.length) 8) (λz2=>L2 [] [_,_] 12470 8321 786438 183 rfl this (sZ (l.length) 8 (L1 [] [_] 524469 129 524469 rfl z2))) (λz2=>L1 [] [_,_] 12470 129 3254791207 rfl (sC (l.length) 8 (L1 [] [_] 729093 129 729093 rfl z2)))
theorem gW{l:List Nat}(h:8≤l.length):dw l=dv (l.take 8)::dw (l.drop 8):=by rw[dw,dif_pos h]
theorem dj{l:List Nat}(h:l.length<8):dw l=[]:=by rw[dw,dif_neg (by exact L1 [] [_] 729096 129 524470 rfl h)]
theorem mO{l:List Nat}(h:l≠[]):allB l=dv (l.take 8)::allB (l.drop 8):=by rw[allB,if_neg h]
theorem jB:allB []=[]:=by rw[allB,if_pos rfl]
theorem jo{l:List Nat}(h:l.length<8):bB l=l:=by unfold bB;rw[Nat.div_eq_of_lt h];rfl
theorem ni{l:List Nat}(h:8≤l.length):bB (l.drop 8)=bB l:=by
 unfold bB
 rw[List.drop_drop,List.length_drop]
 congr 1
 exact YB h
theorem fC(l:List Nat):(bB l).length=l.length%8:=by unfold bB;rw[List.length_drop];exact Or.elim (Nat.le_total (l.length) (8*(l.length/8))) (λz2=>nA (L2 [] [_,_,_,_] 12469 4225 244041722919 243794449447 rfl (sC (l.length) (8*(l.length/8)) (L1 [] [_,_,_] 51060821 129 209694757927 rfl (Nat.div_add_mod (l.length) 8))) (Nat.div_add_mod (l.length) 8)) (L2 [] [_,_,_,_] 12469 8257 244041723943 243526013991 rfl (sC (l.length) (8*(l.length/8)) (L1 [] [_,_,_] 51060821 129 209694757927 rfl (Nat.div_add_mod (l.length) 8))) (Nat.div_add_mod (l.length) 8))) (λz2=>nA (L2 [] [_,_,_,_] 12469 4225 244041722919 243794449447 rfl (sC (l.length) (8*(l.length/8)) (L1 [] [_,_] 51060821 129 51060821 rfl z2)) (Nat.div_add_mod (l.length) 8)) (L2 [] [_,_,_,_] 12469 8257 244041723943 243526013991 rfl (sC (l.length) (8*(l.length/8)) (L1 [] [_,_] 51060821 129 51060821 rfl z2)) (Nat.div_add_mod (l.length) 8)))
theorem ru(l:List Nat):allB l=dw l++(if bB l=[] then [] else [dv (bB l)]):=by
  by_cases h:8≤l.length
  ·have hne:l≠[]:=λq=>by rw[q] at h;simp at h
   rw[mO hne,gW h,List.cons_append,←ni h,←ru (l.drop 8)]
  ·rw[dj (by exact L1 [] [_] 524470 129 729096 rfl h),jo (by exact L1 [] [_] 524470 129 729096 rfl h),List.nil_append]
   by_cases hne:l=[]
   ·rw[hne,jB,if_pos rfl]
   ·rw[mO hne,if_neg hne,List.take_of_length_le (by exact L1 [] [_] 524469 129 729096 rfl h),List.drop_eq_nil_of_le (by exact L1 [] [_] 524469 129 729096 rfl h),jB]
termination_by l.length
decreasing_by simp;exact L1 [] [_,_] 12470 129 3254791207 rfl (sC (l.length) 8 (L1 [] [_] 729093 129 729093 rfl h))
theorem kO(l k:List Nat)(h:l.length%8=0):dw (l++k)=dw l++dw k:=by
  by_cases h8:8≤l.length
  ·rw[gW (l:=l++k) (by rw[lA];exact L1 [] [_,_] 3267502085 129 729093 rfl h8),gW h8,List.take_append_of_le_length h8,List.drop_append_of_le_length h8,kO (l.drop 8) k (by rw[List.length_drop];exact Yz h)]
   rfl
  ·have:l=[]:=List.length_eq_zero_iff.mp (by exact Yy h h8)
   rw[this];simp[dj]
termination_by l.length
decreasing_by simp;exact L1 [] [_,_] 12470 129 3254791207 rfl (sC (l.length) 8 (L1 [] [_] 729093 129 729093 rfl h8))
theorem qQ(l:List Nat):dw (l.take (8*(l.length/8)))=dw l∧dw (bB l)=[]:=by
 constructor
 ·have e:=kO (l.take (8*(l.length/8))) (l.drop (8*(l.length/8))) (by rw[lT];exact Lj)
  rw[List.take_append_drop] at e
  rw[e,dj (l:=l.drop (8*(l.length/8))) (by rw[List.length_drop];exact Yx),aN]
 ·exact dj (by rw[fC];exact L1 [] [_] 524470 129 524470 rfl (Nat.mod_lt (l.length) (y:=8) (by decide)))
theorem Ea(l k:List Nat):dw (l++k)=dw l++dw (bB l++k):=by
 conv=>lhs;rw[←List.take_append_drop (8*(l.length/8)) l,aA]
 rw[kO _ _ (by rw[lT];exact Lj),(qQ l).1]
 rfl
theorem Cd(l k:List Nat):bB (l++k)=bB (bB l++k):=by
  have h:8*(l.length/8)≤l.length:=L1 [] [_,_,_] 51060821 129 209694757927 rfl (Nat.div_add_mod (l.length) 8)
  have key:∀ (n:Nat) (a b:List Nat),a.length=8*n→bB (a++b)=bB b:=by
    intro n
    induction n with
    | zero=>intro a b e;have:a=[]:=List.length_eq_zero_iff.mp (by exact nA (L1 [] [_] 181 129 183 rfl e) (L1 [] [_] 720901 65 183 rfl e));rw[this];rfl
    | succ n ih=>
      intro a b e
      rw[←ni (by rw[lA];exact L1 [] [_,_,_] 3267502085 65 1103010206903 rfl e),List.drop_append_of_le_length (by exact L1 [] [_,_] 729093 65 1102741771447 rfl e)]
      exact ih _ _ (by rw[List.length_drop];exact nA (L2 [] [_,_,_] 50861237 8321 1102741771479 3523226663 rfl e (sC (a.length) 8 (L1 [] [_,_] 729093 65 1102741771447 rfl e))) (L2 [] [_,_,_] 51060821 4161 1102473336023 3523227687 rfl e (sC (a.length) 8 (L1 [] [_,_] 729093 65 1102741771447 rfl e))))
  conv=>lhs;rw[←List.take_append_drop (8*(l.length/8)) l,aA]
  rw[key (l.length/8) _ _ (by rw[lT];exact nA (L1 [] [_,_] 50861237 129 50861239 rfl (Nat.min_eq_left (a:=8*(l.length/8)) (b:=l.length) (L1 [] [_,_] 51060821 129 51060821 rfl h))) (L1 [] [_,_] 51060821 65 46666951 rfl (Nat.min_eq_left (a:=8*(l.length/8)) (b:=l.length) (L1 [] [_,_] 51060821 129 51060821 rfl h))))]
  rfl
theorem zc (l:List Nat)(hb:cQ l):∀ b∈dw l,b<256:=by
    by_cases h:8≤l.length
    · rw[gW h]
      intro b hm
      rcases List.mem_cons.mp hm with q|q
      · have:=kW (hb.take 8)
        rw[lT,Nat.min_eq_left h] at this
        rw[q];exact this
      · exact zc _ (hb.drop 8) b q
    · rw[dj (by exact L1 [] [_] 524470 129 729096 rfl h)];intro b hm;cases hm
termination_by l.length
decreasing_by simp;exact L1 [] [_,_] 12470 129 3254791207 rfl (sC (l.length) 8 (L1 [] [_] 729093 129 729093 rfl h))
noncomputable def jU(z:Nat):Nat:=z/2+z/8+3
noncomputable def fY(z j:Nat):Nat:=(j*jU z)%z
noncomputable def vis(z f j:Nat):List Nat:=((List.range j).map (fY z)).filter λp=>decide (p<f)
noncomputable def ig(c:Int):Int:=if c = -1 then 1 else c
noncomputable def cR(cs:List Int):List Nat:=(List.range cs.length).flatMap λs=>List.replicate (cs.getD s 0).toNat s
noncomputable def aW(cs:List Int):List Nat:=(List.range cs.length).filter λs=>cs.getD s 0 == -1
noncomputable def fK(z:Nat)(cs:List Int):Nat:=z-(aW cs).length
noncomputable def fj(z f:Nat)(o r:List Nat)(k:Nat):List Nat:=(List.range z).map λp=>
 if p<f then(if(vis z f z).idxOf p<k then o.getD ((vis z f z).idxOf p) 0 else 0) else r.getD (z-1-p) 0
noncomputable def dR(z:Nat)(cs:List Int):List Nat:=fj z (fK z cs) (cR cs) (aW cs) z
structure Drawn(z many:Nat)(cs:List Int):Prop where
 len:cs.length=many
 lo:2≤many
 hi:many≤7
 ge:∀ c∈cs,-1≤c
 sum:(cs.map ig).sum=(z:Int)
 head:cs.getD 0 0≠0
 last:cs.getD (many-1) 0≠0
noncomputable def uK(z r:Nat):Nat→Nat→Nat
 | 0,w=>w
 | n+1,w=>if z≤r*2^w then w else uK z r n (w+1)
noncomputable def jl(z r:Nat):Nat:=uK z r 7 0
structure Tab where
 log:Nat
 cs:List Int
namespace Tab
noncomputable def z(t:Tab):Nat:=2^t.log
noncomputable def syms(t:Tab):List Nat:=dR t.z t.cs
noncomputable def sy(t:Tab)(i:Nat):Nat:=t.syms.getD i 0
noncomputable def rk(t:Tab)(i:Nat):Nat:=t.syms.count (t.sy i)+(t.syms.take i).count (t.sy i)
noncomputable def wd(t:Tab)(i:Nat):Nat:=jl t.z (t.rk i)
noncomputable def bs(t:Tab)(i:Nat):Nat:=t.rk i*2^t.wd i-t.z
noncomputable def own(t:Tab)(s:Nat):List Nat:=(List.range t.z).filter λi=>t.sy i == s
noncomputable def hit(t:Tab)(s st i:Nat):Bool:=t.sy i == s&&(decide (t.bs i≤st)&&decide (st<t.bs i+2^t.wd i))
noncomputable def aQ(t:Tab)(s st:Nat):Nat:=((List.range t.z).find? (t.hit s st)).getD 0
noncomputable def aZ(t:Tab)(s:Nat):Nat:=((List.range t.z).find? λi=>t.sy i == s).getD 0
noncomputable def lF(t:Tab)(q:Nat×List Nat)(s:Nat):Nat×List Nat:=(t.aQ s q.1,q.2++aP (q.1-t.bs (t.aQ s q.1)) (t.wd (t.aQ s q.1)))
noncomputable def bZ(t:Tab)(row:List Nat):List Nat:=
 let q:=row.dropLast.reverse.foldl t.lF (t.aZ (row.getLastD 0),[])
 q.2++aP q.1 t.log
noncomputable def j7(t:Tab)(q:(Nat×Nat)×List Nat)(s:Nat):(Nat×Nat)×List Nat:=
 ((q.1.2,t.aQ s q.1.1),q.2++aP (q.1.1-t.bs (t.aQ s q.1.1)) (t.wd (t.aQ s q.1.1)))
noncomputable def cT(t:Tab)(row:List Nat):List Nat:=
 let q:=(row.take (row.length-2)).reverse.foldl t.j7 ((t.aZ (row.getD (row.length-1) 0),t.aZ (row.getD (row.length-2) 0)),[])
 q.2++aP q.1.1 t.log++aP q.1.2 t.log
noncomputable def known(t:Tab)(s:Nat):Prop:=s<t.cs.length∧t.cs.getD s 0≠0
noncomputable def good(t:Tab):Prop:=(t.log=5∨t.log=6)∧Drawn t.z t.cs.length t.cs
end Tab
noncomputable def aG(o:List Nat):List Nat:=o.flatMap λb=>aP b 8
noncomputable def rd(o:List Nat)(p c:Nat):Nat:=dv (((aG o).drop (p-c)).take c)
noncomputable def startP(o:List Nat):Option Nat:=if o.getLastD 0=0 then none else some (8*(o.length-1)+Nat.log2 (o.getLastD 0))
inductive Res|ok (l:List Nat)|table|cut
theorem Res.Ul{a b:List Nat}(h:Res.ok a=Res.ok b):a=b:=Res.noConfusion h id
namespace Tab
noncomputable def cu(t:Tab)(o:List Nat):Nat→Nat→Nat→Nat→List Nat→Res
  | 0,_,_,p,fd=>if p=0 then .ok fd else .table
  | k + 1,wide,base,p,fd=>if p<wide then .cut else
      t.cu o k (t.wd (base+rd o p wide)) (t.bs (base+rd o p wide)) (p-wide) (fd++[t.sy (base+rd o p wide)])
noncomputable def decOne(t:Tab)(o:List Nat)(many:Nat):Res:=match startP o with
 | none=>.table
 | some p=>t.cu o many t.log 0 p []
noncomputable def dG(t:Tab)(o:List Nat):Nat→Nat→Nat→Nat→List Nat→Res
 | 0,_,_,_,_=>.table
 | k+1,a,b,p,fd=>if p<t.wd a then .ok (fd++[t.sy a,t.sy b]) else t.dG o k b (t.bs a+rd o p (t.wd a)) (p-t.wd a) (fd++[t.sy a])
noncomputable def cM(t:Tab)(o:List Nat)(most:Nat):Res:=match startP o with
 | none=>.table
 | some p=>if p<2*t.log then .cut else t.dG o (most-1) (rd o p t.log) (rd o (p-t.log) t.log) (p-2*t.log) []
end Tab
theorem cX:∀ (l:List Nat),(aG l).length=8*l.length
  | []=>rfl
  | b::l=>by
    have:=cX l
    unfold aG at this⊢
    rw[List.flatMap_cons,lA,this,aL,List.length_cons];exact nA (L0 [] [_] 1183771730692993974309 1 rfl) (L0 [] [_] 13135558963375227674709 1 rfl)
theorem gj(b:Nat)(l:List Nat):aG (b::l)=aP b 8++aG l:=by unfold aG;rw[List.flatMap_cons]
theorem j9:∀ (l:List Nat),cQ (aG l)
 | []=>λ_ h=>by cases h
 | b::l=>by rw[gj];exact(cF b 8).append (j9 l)
theorem mJ:∀ (l:List Nat) (p:Nat),(aG l).drop (8*p)=aG (l.drop p)
  | l,0=>by simp
  | [],p+1=>by simp[aG]
  | b::l,p+1=>by
    rw[gj,show 8*(p+1)=8+8*p by exact nA (L0 [] [_] 13135558963375227674709 1 rfl) (L0 [] [_] 1183771730692993974309 1 rfl),←List.drop_drop,List.drop_left' (aL b 8),mJ l p,List.drop_succ_cons]
theorem Bo(l:List Nat)(p i:Nat)(h:p<l.length)(hi:i≤8):((aG l).drop (8*p+i)).take (8-i)=(aP (l.getD p 0) 8).drop i:=by
 rw[←List.drop_drop,mJ,List.drop_eq_getElem_cons h,gj,List.drop_append_of_le_length (by rw[aL];omega),List.take_append_of_le_length (by rw[List.length_drop,aL];exact L0 [] [_] 11445 1 rfl),List.take_of_length_le (by rw[List.length_drop,aL];exact L0 [] [_] 11445 1 rfl)]
 rw[show l.getD p 0=l[p] by simp[h]]
theorem GX(l:List Nat)(hl:∀ b∈l,b<256)(lo g p i:Nat)(h:p<l.length)(hi:i<8)(e:8*p+i=lo+g) :
  dv (((aG l).drop lo).take (g+(8-i)))=dv (((aG l).drop lo).take g)+l.getD p 0/2^i*2^g:=by
 have hlen:=cX l
 have hB:=j9 l
 have hg:g+(8-i)≤((aG l).drop lo).length:=by rw[List.length_drop];exact L5 [] [_,_,_,_,_,_,_,_] 55323685 1107563521 15590 792786597581863 63444263 2148544551 76624935 rfl h e hlen (sC 8 i (L1 [] [_] 524469 129 524470 rfl hi)) (sC ((aG l).length) lo (L4 [] [_,_,_,_,_,_] 12469 17048577 14550 524534 1138032976073767 59249863 rfl h hi e hlen))
 have h1:=rW (((aG l).drop lo).take (g+(8-i))) g (by rw[lT];exact L1 [] [_,_,_] 12469 65 55249095 rfl (Nat.min_eq_left (a:=g+(8-i)) (b:=(List.drop lo (aG l)).length) (L1 [] [_,_,_] 55323685 129 55323685 rfl hg)))
 rw[List.take_take,Nat.min_eq_left (by exact L0 [] [_,_] 51054773 1 rfl),List.drop_take,List.drop_drop,←e,Nat.add_sub_cancel_left,Bo l p i h (by exact L1 [] [_] 524469 129 524470 rfl hi)] at h1
 rw[h1,←Iw (aP (l.getD p 0) 8) i (cF _ _) (by rw[aL];exact L1 [] [_] 524469 129 524470 rfl hi),qX,Nat.mod_eq_of_lt,Nat.mul_comm]
 have:l.getD p 0=l[p]:=by simp[h]
 rw[this];exact hl _ (List.getElem_mem h)
theorem JB(l:List Nat)(lo g c:Nat)(hc:c≤g)(h:lo+c≤8*l.length):dv (((aG l).drop lo).take g)%2^c=dv (((aG l).drop lo).take c):=by
 have hlen:=cX l
 rw[Bd _ _ (((j9 l).drop lo).take g) (by rw[lT,List.length_drop];exact Or.elim (Nat.le_total g ((aG l).length-lo)) (λz2=>L2 [] [_,_,_] 12469 4225 13493 13511 rfl hc (Nat.min_eq_left (a:=g) (b:=(aG l).length-lo) (L1 [] [_,_] 12469 129 12469 rfl z2))) (λz2=>L4 [] [_,_,_,_,_,_] 12469 17043585 242687357989 59249911 63782951 16583 rfl h hlen (sC ((aG l).length) lo (L2 [] [_,_,_,_] 12469 4225 242687487013 59249863 rfl h hlen)) (Nat.min_eq_right (a:=g) (b:=(aG l).length-lo) (L1 [] [_,_] 12469 129 12469 rfl z2)))),List.take_take,Nat.min_eq_left hc]
theorem tG(l:List Nat)(lo g:Nat):dv (((aG l).drop lo).take g)<2^g:=by
 have:=kW (((j9 l).drop lo).take g)
 have h2:2^(((aG l).drop lo).take g).length≤2^g:=Nat.pow_le_pow_right (by decide) (by rw[lT];exact L1 [] [_,_] 12469 129 12469 rfl (Nat.min_le_left g ((List.drop lo (aG l)).length)))
 exact L2 [] [_,_,_] 12470 8321 13494 12501 rfl this h2
theorem kh(o:List Nat)(p c:Nat):rd o p c<2^c:=tG o (p-c) c
theorem f9(a b:Nat):(a:Int).fdiv (b:Int)=((a/b:Nat):Int):=by
 rw[Int.fdiv_eq_ediv_of_nonneg _ (Int.natCast_nonneg b)];rfl
theorem oO(a b:Nat):(a:Int).fmod (b:Int)=((a%b:Nat):Int):=by
 rw[Int.fmod_eq_emod_of_nonneg _ (Int.natCast_nonneg b)];rfl
theorem eV(i:Nat):(2:Int)^i=((2^i:Nat):Int):=by rw[Int.natCast_pow];rfl
theorem jY(n:Nat):((-1:Int)+(n:Int)).toNat=n-1:=by rw[Int.add_comm];exact Int.toNat_sub n 1
theorem sV(c:Int):(max 0 c).toNat=c.toNat:=by
 rcases Int.le_total 0 c with h|h
 ·rw[Int.max_eq_right h]
 ·rw[Int.max_eq_left h,Int.toNat_of_nonpos h];rfl
theorem N6{a:Int}{n k:Nat}(e:a=n)(h:k≤n):a+(k:Int) * -1=((n-k:Nat):Int):=by
 rw[e,Int.mul_neg,Int.mul_one];exact(Int.ofNat_sub h).symm
theorem Iz{a:Int}{n:Nat}(e:a+1=n):((a - -1).toNat:Int)=n:=by
 rw[Int.sub_neg,e];rfl
theorem yM(o:List Nat)(a c:Nat):((o.drop a).take c).length≤o.length:=by
 rw[lT,List.length_drop];exact Nat.le_trans (Nat.min_le_right _ _) (Nat.sub_le _ _)
theorem lJ(a k:Nat):Builtin.bitAnd (a:Int) ((2:Int)^k-1)=((a%2^k:Nat):Int):=by
 rw[kbt_mask,eV];rfl
theorem Ew(a m k:Nat)(h:a<2^k):Builtin.bitOr (a:Int) ((m*2^k:Nat):Int)=((a+m*2^k:Nat):Int):=by
 rw[bitOr_and,bitAnd_pp (Int.natCast_nonneg _) (Int.natCast_nonneg _)]
 have:a &&& (m*2^k)=0:=by
  apply Nat.eq_of_testBit_eq
  intro i
  rw[Nat.testBit_and,Nat.zero_testBit,Nat.testBit_mul_two_pow]
  by_cases hi:k≤i
  ·rw[Nat.testBit_lt_two_pow (Nat.lt_of_lt_of_le h (Nat.pow_le_pow_right (by decide) hi))];rfl
  ·simp[hi]
 simp only[Int.toNat_natCast,this]
 exact iA (L0 [] [_,_] 919719783647548551923760 1 rfl) (L0 [] [_,_] 132618280015162443888 1 rfl)
section
variable{c:Cx}{nm:NM}{n n':Nat}{r:List It}{vs:bR}{xs ys:Vs}{gs:Gs}{a l S:Addr}{ao dB:AO}{x y:Int}
theorem Ar{v s:Expr}{l:List Nat}(hc:c.Ok n nm)(hs:cZ s)(hz:l.length≤1000000)(h0:0≤x)(h1:x<l.length)(h:Go c nm r ([.int ((l.getD x.toNat 0:Nat):Int)]::vs) xs ys gs) :
  D c (.sub v s::r) ([.int x]::[.bytes l]::vs) (mk nm xs) (led c ys gs):=Jz hs hz h0 h1 (aB hc h)
theorem jL(e:x=y)(h:Go c nm r ([.int y]::vs) xs ys gs):Go c nm r ([.int x]::vs) xs ys gs:=e▸h
end
theorem za{l:List Nat}(hl:∀ x∈l,x<256)(p:Nat):l.getD p 0<256:=by
 rw[gD]
 cases q:l[p]? with
 | none=>decide
 | some x=>exact hl x (List.mem_of_getElem? q)
noncomputable def Wq(l:List Nat)(lo c:Nat)(k:Nat)(xs ys:Vs)(gs:Gs):Prop:=
  ∃ (v gi pi ii:Int) (g p i:Nat),ys=[]∧gs=[]∧xs=[some (.bytes l),some (.int lo),some (.int c),some (.int l.length),some (.int v),some (.int gi),some (.int pi),some (.int ii)]∧
    v=((dv (((aG l).drop lo).take g):Nat):Int)∧gi=g∧pi=p∧ii=i∧k=c+8-g∧g<c+8∧8*p+i=lo+g∧i<8∧p≤l.length
theorem Aj(w:World)(b:Bool)(base:Heap)(l:List Nat)(lo c:Nat)(hl:∀ x∈l,x<256)(h:lo+c≤8*l.length)(hz:l.length≤100000) :
  F1 w b 1 99 base [.bytes l,.int lo,.int c,.int l.length] [] (.int ((dv (((aG l).drop lo).take c):Nat):Int)) [] bN:=by
 refine FX.go ["octets","low","count","stop"] ["value","got","place","inside"] rfl rfl rfl (λ_ _ _ _=>rfl) (by decide +kernel) ?_
 rintro k hk ow rfl - - - hR
 refine pO hk rfl (by decide) rfl rfl ?_
 refine pP hk (by decide) ?_
 refine iy hk ow (Wq l lo c) (c+8) ⟨0,0,_,_,0,lo/8,lo%8,rfl,rfl,rfl,rfl,rfl,f9 lo 8,lJ lo 3,by exact nA (L1 [] [_,_] 3254791205 65 563139468865575 rfl (sC (c+8) 0 (L0 [] [_] 137485221893 1 rfl))) (L1 [] [_,_] 2148272309 129 563156648733735 rfl (sC (c+8) 0 (L0 [] [_] 137485221893 1 rfl))),by exact L0 [] [_] 137485221894 1 rfl,by exact nA (L1 [] [_,_,_] 14331278791717 129 226606191655 rfl (Nat.div_add_mod lo 8)) (L1 [] [_,_,_] 59400102615198757 65 192519083047 rfl (Nat.div_add_mod lo 8)),Nat.mod_lt _ (by decide),by exact L2 [] [_,_,_,_,_] 12469 8328 208327816229 227411498023 rfl h (Nat.div_add_mod lo 8)⟩ ?_
 intro k' xs ys gs hI P hP
 obtain⟨v,gi,pi,ii,g,p,i,rfl,rfl,rfl,hv,rfl,rfl,rfl,hk0,hg8,e,hi,hp⟩:=hI
 refine aO (λhc=>?_) (λhc=>?_)
 ·refine aO (λhd=>?_) (λhd=>by exact(L4 [] [_,_,_,_,_,_] 10 268968064 225507552293 1138032980268071 50806897 54999156 rfl h e hc hd).elim)
  have ho:=za hl p
  have hx:l.getD p 0/2^i≤l.getD p 0:=Nat.div_le_self _ _
  refine Ar hk (λ_ _=>rfl) (by exact L1 [] [_] 65536001205 129 6553601205 rfl hz) (by exact L0 [] [_] 46596096 1 rfl) (by exact L1 [] [_,_] 50801777 129 50801777 rfl hd) ?_
  refine pP hk (by exact L0 [] [_] 46596096 1 rfl) (jL (y:=((l.getD p 0/2^i:Nat):Int)) (by rw[Int.toNat_natCast,Int.toNat_natCast,eV,f9]) ?_)
  refine kE hk (by exact L0 [] [_] 46596096 1 rfl) (by exact L3 [] [_,_,_,_] 4194304076912 589953 242687488037 6553601253 54996081 rfl h hz hc) (by rw[Int.natAbs_natCast];exact L2 [] [_,_] 1208925819614629174716598 8321 16778438 12469 rfl ho hx) (jL (y:=((l.getD p 0/2^i*2^g:Nat):Int)) (by rw[Int.toNat_natCast,eV,←Int.natCast_mul]) ?_)
  exact hP (c+8-(g+(8-i))) [] _ _ [] ⟨_,_,_,_,g+(8-i),p+1,0,rfl,rfl,rfl,by rw[hv,Ew _ _ _ (tG _ _ _),←GX l hl lo g p i (by exact L1 [] [_,_] 12470 129 50801777 rfl hd) hi e],by exact iA (L1 [] [_,_,_] 15551214092345810820128 65 2148283431 rfl (sC 8 i (L1 [] [_] 524469 129 524470 rfl hi))) (L1 [] [_,_,_] 15479124344173234948208 129 2148347943 rfl (sC 8 i (L1 [] [_] 524469 129 524470 rfl hi))),by exact iA (L0 [] [_] 289006751889169440 1 rfl) (L0 [] [_] 289012163547957360 1 rfl),rfl,rfl,by exact L2 [] [_,_,_,_] 8799591869478 8321 54996081 2148413479 rfl hc (sC 8 i (L1 [] [_] 524469 129 524470 rfl hi)),by exact nA (L2 [] [_,_,_,_,_] 68684681247488294101980197 4225 928026246779943 2148481063 rfl e (sC 8 i (L1 [] [_] 524469 129 524470 rfl hi))) (L2 [] [_,_,_,_,_] 1184636421668201442341 8257 856558003557415 2148480039 rfl e (sC 8 i (L1 [] [_] 524469 129 524470 rfl hi))),by decide,by exact L1 [] [_,_] 3225431077 129 50801777 rfl hd⟩ (by exact Or.elim (Nat.le_total (c+8) (g+(8-i))) (λz2=>L5 [] [_,_,_,_,_,_,_] 12470 2164531265 13511 524518 2148416551 8800665875495 36047527170157607 rfl hk0 hi (sC 8 i (L1 [] [_] 524469 129 524470 rfl hi)) (sC (c+8) g (L1 [] [_,_] 2148272309 129 50801777 rfl hc)) (sC (c+8) (g+(8-i)) (L3 [] [_,_,_,_] 8799591869477 532608 54996081 13383688533029 2148413479 rfl hc z2 (sC 8 i (L1 [] [_] 524469 129 524470 rfl hi))))) (λz2=>L5 [] [_,_,_,_,_,_,_] 12470 2164531265 13511 524518 2148416551 8800665875495 36047527170157607 rfl hk0 hi (sC 8 i (L1 [] [_] 524469 129 524470 rfl hi)) (sC (c+8) g (L1 [] [_,_] 2148272309 129 50801777 rfl hc)) (sC (c+8) (g+(8-i)) (L1 [] [_,_,_] 8799591869477 129 8799591869477 rfl z2))))
 ·refine kE hk (by exact L0 [] [_] 46596096 1 rfl) (by exact L2 [] [_,_,_] 4194304076912 65665 225507487781 6553601237 rfl h hz) (by decide) ?_
  refine aq [] ?_
  have e2:Builtin.bitAnd v (1*2^(c:Int).toNat-1)=((dv (((aG l).drop lo).take c):Nat):Int):=by
   rw[Int.toNat_natCast,Int.one_mul,hv,lJ,JB l lo g c (by exact L1 [] [_,_] 12469 129 46608500 rfl hc) h]
  exact e2▸hR () trivial
noncomputable def Ml:Option (Option Value)→Bool
 | some none=>true
 | _=>false
noncomputable def isRef(f:Addr):Option (Option Value)→Bool
 | some (some (.ref g))=>Nat.beq g f
 | _=>false
noncomputable def HS(w:World)(C:Addr)(x:Str):Bool:=plainGet (KK w) C x&&(hasDictIn (KK w) C&&Ml (findIn (KK w) (.ref C) x))
noncomputable def setB(w:World)(C:Addr)(x:Str):Bool:=(findIn (KK w) (.ref C) "__setattr__"== some (some (.builtin "object.__setattr__")))&&(plainOver (KK w) C&&(Ml (takerIn (KK w) C x)&&hasDictIn (KK w) C))
noncomputable def Gk(w:World)(C:Addr)(x:Str)(f:Addr):Bool:=plainGet (KK w) C x&&(isRef f (findIn (KK w) (.ref C) x)&&(isFn (KK w) (.ref f)&&keepIn (KK w) (.ref f)))
noncomputable def Lw(w:World)(C f:Addr):Bool:=makesIn (KK w) C&&(isRef f (findIn (KK w) (.ref C) "__init__")&&isFn (KK w) (.ref f))
theorem Ds{o:Option (Option Value)}(h:Ml o=true):o=some none:=by
  cases o with
  | none=>exact nomatch h
  | some o=>cases o with
    | none=>rfl
    | some v=>exact absurd h Bool.false_ne_true
theorem yX{f:Addr}{o:Option (Option Value)}(h:isRef f o=true):o=some (some (.ref f)):=by
  cases o with
  | none=>exact jN h
  | some o=>cases o with
    | none=>exact jN h
    | some v=>cases v with
      | ref g=>rw[show g=f from Nat.eq_of_beq_eq_true h]
      | _=>exact jN h
theorem Kc{w C x} (h:HS w C x=true):Pg w C x:=by
 refine uA (λh1 h=>?_) (bI h)
 refine uA (λh2 h3=>?_) (bI h)
 exact⟨h1,h2,Ds h3⟩
theorem KY{w C x} (h:setB w C x=true):Td w C x:=by
 refine uA (λh1 h=>?_) (bI h)
 refine uA (λh2 h=>?_) (bI h)
 refine uA (λh3 h4=>?_) (bI h)
 exact⟨beq_iff_eq.mp h1,h2,Ds h3,h4⟩
theorem yU{w C x f} (h:Gk w C x f=true):O5 w C x f∧gn w (.ref f):=by
 refine uA (λh1 h=>?_) (bI h)
 refine uA (λh2 h=>?_) (bI h)
 refine uA (λh3 h4=>?_) (bI h)
 exact⟨⟨h1,yX h2,h3⟩,h4⟩
theorem Jp{w C f} (h:Lw w C f=true):O6 w C f:=by
 refine uA (λh1 h=>?_) (bI h)
 refine uA (λh2 h3=>?_) (bI h)
 exact⟨h1,yX h2,beq_iff_eq.mp h3⟩
noncomputable def fget(x:Str):List (Str×AV)→Option AV
 | []=>none
 | (y,v)::r=>if y=x then some v else fget x r
noncomputable def Eb(x:Str)(a:AV):List (Str×AV)→List (Str×AV)
 | []=>[(x,a)]
 | (y,v)::r=>if y=x then(x,a)::r else(y,v)::Eb x a r
theorem zm{x:Str}{a:AV}:∀ {fs:List (Str×AV)},fget x fs=some a→(x,a)∈fs
  | (y,v)::r,h=>by
    unfold fget at h
    by_cases q:y=x
    · rw[if_pos q] at h;cases h;exact q▸.head _
    · rw[if_neg q] at h;exact .tail _ (zm h)
theorem Ef{x:Str}:∀ {fs:List (Str×AV)},fget x fs=none→x∉fs.map (·.1)
  | [],_=>nofun
  | (y,v)::r,h=>by
    unfold fget at h
    by_cases q:y=x
    · rw[if_pos q] at h;exact nsA h.symm
    · rw[if_neg q] at h
      rw[List.map_cons,List.mem_cons,not_or]
      exact⟨λe=>q e.symm,Ef h⟩
theorem zj{x:Str}{a:AV}:∀ {fs:List (Str×AV)},lM x a fs (Eb x a fs)
  | []=>.new
  | (y,v)::r=>by
    unfold Eb
    by_cases q:y=x
    · rw[if_pos q];subst q;exact .here
    · rw[if_neg q];exact .there q zj
theorem lK.app:∀ (μ ρ:Led),lK (μ++ρ) μ ρ
 | [],_=>.nil
 | _::μ,ρ=>.cons .here (lK.app μ ρ)
section
variable{c:Cx}{nm:NM}{n n':Nat}{r:List It}{vs:bR}{xs ys:Vs}{gs:Gs}{a l S x d C f:Addr}{ao dB:AO}{y z:Int}{name:Str}{fs:List (Str×AV)}{v:AV}{ls:List AV}
theorem dY(hc:c.Ok n nm)(h1:Has c.w c.fx (led c ys gs) x (.inst C d))(h2:Has c.w c.fx (led c ys gs) d (.ns fs))(hk:HS c.w C name=true)(hf:fget name fs=some v)(hb:v.Gi=true)(h:Go c nm r ([v]::vs) xs ys gs) :
  D c (.ga name::r) ([.ref x]::vs) (mk nm xs) (led c ys gs):=Q7 hc.ok (Kc hk) h1 h2 (zm hf) hb (aB hc h)
theorem bY(hc:c.Ok n nm)(i:Nat)(h1:(cI gs i)[0]?=some (x,.inst C d))(h2:(cI gs i)[1]?=some (d,.ns fs))(hk:HS c.w C name=true)(hf:fget name fs=some v)(hb:v.Gi=true)(h:Go c nm r ([v]::vs) xs ys gs) :
  D c (.ga name::r) ([.ref x]::vs) (mk nm xs) (led c ys gs):=dY hc (aj i 0 h1) (aj i 1 h2) hk hf hb h
theorem rQ(hc:c.Ok n nm)(h1:Has c.w c.fx (led c ys gs) x (.inst C d))(h2:Has c.w c.fx (led c ys gs) d (.ns fs))(f:Addr)(hk:Gk c.w C name f=true)(hf:fget name fs=none)(h:Go c nm r ([.ref x]::[.ref f]::vs) xs ys gs) :
  D c (.gm name::r) ([.ref x]::vs) (mk nm xs) (led c ys gs):=Q5 hc.ok (yU hk).1 h1 h2 (Ef hf) ⟨(yU hk).2,aB hc h⟩
theorem cL(hc:c.Ok n nm)(i:Nat)(h1:(cI gs i)[0]?=some (x,.inst C d))(h2:(cI gs i)[1]?=some (d,.ns fs))(f:Addr)(hk:Gk c.w C name f=true)(hf:fget name fs=none)(h:Go c nm r ([.ref x]::[.ref f]::vs) xs ys gs) :
  D c (.gm name::r) ([.ref x]::vs) (mk nm xs) (led c ys gs):=rQ hc (aj i 0 h1) (aj i 1 h2) f hk hf h
theorem d8(hc:c.Ok n nm)(i:Nat)(h1:(cI gs i)[0]?=some (x,.inst C d))(h2:(cI gs i)[1]?=some (d,.ns fs))(hk:setB c.w C name=true)(hz:Nat.ble fs.length 100=true)(h:Go c nm r vs xs ys (DK gs i 1 (.ns (Eb name v fs)))) :
  D c (.sa name::r) ([.ref x]::[v]::vs) (mk nm xs) (led c ys gs):=by
 have hu:=jG (c:=c) (ys:=ys) (dB:=.ns (Eb name v fs)) i 1 h2
 have h1:=aj (c:=c) (ys:=ys) i 0 h1
 have h:=aB hc h
 refine bw (λpre post e1 e2=>?_) (hu.split)
 show SA c.w c.fx (.ref x) name v (mk nm xs) (led c ys gs) (λm' σ'=>D c r vs m' σ') c.X
 rw[e1] at h1⊢
 rw[e2] at h
 exact Qe hc.ok (KY hk) h1 zj (Nat.le_of_ble_eq_true hz) h
theorem iJ{fI:Addr}{as:List AV}{ι:Type}{P:Addr→Addr→ι→Prop}{hd:Addr→Addr→ι→Led}{tl:Addr→Addr→ι→Gs}{X':Value→Prop}(hc:c.Ok n nm)(is:List Nat)(hn:n'+1≤n)(hk:Lw c.w C fI=true)
  (h:∀ base' x d,Reads c.w c.fx (led c ys (cuts gs is)) base'→FX c.w c.fx.cl n' fI base' (.ref x::as) ([(x,.inst C d),(d,.ns [])]::gets gs is) (P x d) (λ_=>.none) (λi=>hd x d i::tl x d i) X')(hX:∀ e,X' e→c.X e)
  (hl:∀ x d i,is.length≤(tl x d i).length)(k:∀ x d i,P x d i→Go c nm r ([.ref x]::vs) xs ys (puts (cuts gs is) is (tl x d i++[hd x d i]))):D c (.cg::r) (as::[.ref C]::vs) (mk nm xs) (led c ys gs):=by
 show CL c.w c.fx (.ref C) as (mk nm xs) (led c ys gs) (λa σ'=>D c r ([a]::vs) (mk nm xs) σ') c.X
 have ok':aC c.w (n'+1) c.fx:=⟨hc.ok.lD,hc.ok.top,hc.ok.own,hc.ok.cases,hc.ok.hand,hc.ok.kind,hc.ok.glob,hc.ok.bi,hc.ok.ff,hc.ok.Bm.le hn,hc.ok.gd⟩
 intro vf vs' hf hv
 refine V1.perm (WP.perm (lC is) (N8 (μ:=flat (gets gs is)) (ρ:=led c ys (cuts gs is)) ok' (lK.app _ _) (Jp hk) (λbase' x d rd=>vL (h base' x d rd) (λa μ ⟨i,hi,e,p⟩=>⟨e,_,(p.append_right _).trans (.trans ?_ (yV is (tl x d i++[hd x d i]) (Nat.le_trans (hl x d i) ?_))),aB hc (k x d i hi)⟩) hX) vf vs' hf hv))
 ·rw[fZ]
  show((hd x d i++flat (tl x d i))++_).Perm ((flat (tl x d i)++(hd x d i++[]))++_)
  rw[aN]
  exact List.perm_append_comm.append_right _
 ·rw[lA];exact Nat.le_add_right _ _
end
section
variable{c:Cx}{nm:NM}{n n':Nat}{r:List It}{vs:bR}{xs ys:Vs}{gs:Gs}{a l S:Addr}{ao dB:AO}{x y z:Int}{v:AV}{ls ks:List AV}{bs cs:List Nat}{ve se:Expr}
theorem kI(hc:c.Ok n nm)(i j:Nat)(hl:(cI gs i)[j]?=some (l,.list ls))(h:Go c nm r ([.ref l]::[.bi "list.append"]::vs) xs ys gs):D c (.gm "append" :: r) ([.ref l]::vs) (mk nm xs) (led c ys gs):=GQ (aj i j hl) ⟨trivial,aB hc h⟩
theorem kJ(hc:c.Ok n nm)(i j:Nat)(hl:(cI gs i)[j]?=some (l,.list ls))(hz:ls.length≤1000000)(h:Go c nm r ([.none]::vs) xs ys (DK gs i j (.list (ls++[v])))):D c (.cg::r) ([.ref l,v]::[.bi "list.append"]::vs) (mk nm xs) (led c ys gs):=Hu (jG i j hl) hz (aB hc h)
theorem Ip{k:Int}{b:AV}(hc:c.Ok n nm)(hs:cZ se)(hg:Has c.w c.fx (led c ys gs) l (.list ls))(h0:k<0)(h1 : -(ls.length:Int)≤k)(hf : -(2^63)≤k)(hx:ls[(k+ls.length).toNat]?=some b)(h:Go c nm r ([b]::vs) xs ys gs) :
  D c (.sub ve se::r) ([.int k]::[.ref l]::vs) (mk nm xs) (led c ys gs):=Jy hc.ok hs hg h0 h1 hf hx (aB hc h)
theorem jJ{k:Int}{b:AV}(hc:c.Ok n nm)(hs:cZ se)(hg:Has c.w c.fx (led c ys gs) l (.tuple ls))(h0:0≤k)(hf:k<2^63)(hx:ls[k.toNat]?=some b)(h:Go c nm r ([b]::vs) xs ys gs) :
  D c (.sub ve se::r) ([.int k]::[.ref l]::vs) (mk nm xs) (led c ys gs):=Q6 hc.ok hs hg h0 hf hx (aB hc h)
theorem Iu(hc:c.Ok n nm)(ha:Has c.w c.fx (led c ys gs) a (.list ls))(hb:Has c.w c.fx (led c ys gs) l (.list ks))(hz:ls.length+ks.length≤1000000)(h:∀ R,Go c nm r ([.ref R]::vs) xs ys (gs++[[(R,.list (ls++ks))]])) :
  D c (.bin .Add false::r) ([.ref l]::[.ref a]::vs) (mk nm xs) (led c ys gs):=λva vb h1 h2=>V1.perm (CG ha hb hz (λR=>Go.snoc (g:=[(R,_)]) hc (h R)) va vb h1 h2)
theorem Ra(hc:c.Ok n nm)(ha:Has c.w c.fx (led c ys gs) a (.list [v]))(hz:x≤1000000)(hz2 : -1000000≤x)(h:∀ R,Go c nm r ([.ref R]::vs) xs ys (gs++[[(R,.list (List.replicate x.toNat v))]])) :
  D c (.bin .Mult false::r) ([.int x]::[.ref a]::vs) (mk nm xs) (led c ys gs):=λva vb h1 h2=>V1.perm (Cz ha hz hz2 (λR=>Go.snoc (g:=[(R,_)]) hc (h R)) va vb h1 h2)
theorem Ao(hc:c.Ok n nm)(ha:Has c.w c.fx (led c ys gs) a (.list ls))(hz:ls.length≤1000000)(h:∀ R,Go c nm r ([.ref R]::vs) xs ys (gs++[[(R,.list ls)]])) :
  D c (.cg::r) ([.ref a]::[.typ "list"]::vs) (mk nm xs) (led c ys gs):=λva vb h1 h2=>V1.perm (xV ha hz (λR=>Go.snoc (g:=[(R,_)]) hc (h R)) va vb h1 h2)
theorem VF(hc:c.Ok n nm)(hl:Has c.w c.fx (led c ys gs) l (.list ls))(h:Go c nm r ([.ref l]::[.bi "list.index"]::vs) xs ys gs):D c (.gm "index" :: r) ([.ref l]::vs) (mk nm xs) (led c ys gs):=Jx hl ⟨trivial,aB hc h⟩
theorem VB{is:List Int}{j:Nat}(hc:c.Ok n nm)(ha:Has c.w c.fx (led c ys gs) l (.list (iL is)))(hj:j<is.length)(hz:is.length≤1000000)(hit:is[j]?=some x)(hno:∀ i,i<j→is[i]?≠some x)(h:Go c nm r ([.int j]::vs) xs ys gs) :
  D c (.cg::r) ([.ref l,.int x]::[.bi "list.index"]::vs) (mk nm xs) (led c ys gs):=Hs ha hj hz hit hno (aB hc h)
theorem Vz(hc:c.Ok n nm)(hcl:c.fx.cl=true)(h:∀ R,Go c nm r ([.ref R]::vs) xs ys (gs++[[(R,.bytearray [])]])):D c (.cg::r) ([]::[.typ "bytearray"]::vs) (mk nm xs) (led c ys gs):=
 λva vb h1 h2=>V1.perm (xX hc.ok hcl (λR=>Go.snoc (g:=[(R,_)]) hc (h R)) va vb h1 h2)
theorem VK(hc:c.Ok n nm)(i j:Nat)(hl:(cI gs i)[j]?=some (l,.bytearray bs))(h:Go c nm r ([.ref l]::[.bi "bytearray.append"]::vs) xs ys gs):D c (.gm "append" :: r) ([.ref l]::vs) (mk nm xs) (led c ys gs):=xR (aj i j hl) ⟨trivial,aB hc h⟩
theorem VJ(hc:c.Ok n nm)(i j:Nat)(hl:(cI gs i)[j]?=some (l,.bytearray bs))(h:Go c nm r ([.ref l]::[.bi "bytearray.extend"]::vs) xs ys gs):D c (.gm "extend" :: r) ([.ref l]::vs) (mk nm xs) (led c ys gs):=xQ (aj i j hl) ⟨trivial,aB hc h⟩
theorem V3(hc:c.Ok n nm)(hcl:c.fx.cl=true)(i j:Nat)(hl:(cI gs i)[j]?=some (l,.bytearray bs))(h0:0≤x)(h1:x<256)(hz:bs.length≤1000000)(h:Go c nm r ([.none]::vs) xs ys (DK gs i j (.bytearray (bs++[x.toNat])))) :
  D c (.cg::r) ([.ref l,.int x]::[.bi "bytearray.append"]::vs) (mk nm xs) (led c ys gs):=xZ hc.ok hcl (jG i j hl) h0 h1 hz (aB hc h)
theorem VN(hc:c.Ok n nm)(hcl:c.fx.cl=true)(i j:Nat)(hl:(cI gs i)[j]?=some (l,.bytearray bs))(hz:bs.length+cs.length≤1000000)(h:Go c nm r ([.none]::vs) xs ys (DK gs i j (.bytearray (bs++cs)))) :
  D c (.cg::r) ([.ref l,.bytes cs]::[.bi "bytearray.extend"]::vs) (mk nm xs) (led c ys gs):=xY hc.ok hcl (jG i j hl) hz (aB hc h)
theorem G5(hc:c.Ok n nm)(h:Go c nm r ([.bytes bs]::vs) xs ys gs):D c (.cg::r) ([.bytes bs]::[.typ "bytes"]::vs) (mk nm xs) (led c ys gs):=uc (aB hc h)
theorem G6(hc:c.Ok n nm)(hl:Has c.w c.fx (led c ys gs) l (.bytearray bs))(hz:bs.length≤1000000)(h:Go c nm r ([.bytes bs]::vs) xs ys gs):D c (.cg::r) ([.ref l]::[.typ "bytes"]::vs) (mk nm xs) (led c ys gs):=Bh hl hz (aB hc h)
theorem nQ{ns:List Int}(hc:c.Ok n nm)(hl:Has c.w c.fx (led c ys gs) l (.list (ns.map .int)))(hr:∀ n∈ns,0≤n∧n<256)(hz:ns.length≤1000000)(h:Go c nm r ([.bytes (ns.map Int.toNat)]::vs) xs ys gs):D c (.cg::r) ([.ref l]::[.typ "bytes"]::vs) (mk nm xs) (led c ys gs):=wV hc.ok hl hr hz (aB hc h)
theorem qP(hc:c.Ok n nm)(hz:bs.length≤1000000)(h:Go c nm r ([.int bs.length]::vs) xs ys gs):D c (.cg::r) ([.bytes bs]::[.bi "len"]::vs) (mk nm xs) (led c ys gs):=xW hz (aB hc h)
theorem Aq(hc:c.Ok n nm)(hs:cZ se)(hz:bs.length≤1000000)(h0 : -(bs.length:Int)≤x)(h1:x<0)(h:Go c nm r ([.int ((bs.getD (x+bs.length).toNat 0:Nat):Int)]::vs) xs ys gs):D c (.sub ve se::r) ([.int x]::[.bytes bs]::vs) (mk nm xs) (led c ys gs):=GR hs hz h0 h1 (aB hc h)
theorem rR{lo hi:Option Int}(hc:c.Ok n nm)(i j:Nat)(hS:(cI gs i)[j]?=some (S,.slice lo hi none))(hz:bs.length≤1000000)(h:Go c nm r ([.bytes ((bs.drop (lo.elim 0 (clipAt bs.length))).take (hi.elim bs.length (clipAt bs.length)-lo.elim 0 (clipAt bs.length)))]::vs) xs ys gs) :
  D c (.sub ve se::r) ([.ref S]::[.bytes bs]::vs) (mk nm xs) (led c ys gs):=tY (aj i j hS) hz (aB hc h)
theorem VH(hc:c.Ok n nm)(i j:Nat)(hS:(cI gs i)[j]?=some (S,.slice none none (some (-1))))(hz:bs.length≤1000000)(h:Go c nm r ([.bytes bs.reverse]::vs) xs ys gs) :
  D c (.sub ve se::r) ([.ref S]::[.bytes bs]::vs) (mk nm xs) (led c ys gs):=xT (aj i j hS) hz (aB hc h)
theorem jt(hc:c.Ok n nm)(hz:bs.length+cs.length≤1000000)(h:Go c nm r ([.bytes (bs++cs)]::vs) xs ys gs):D c (.bin .Add false::r) ([.bytes cs]::[.bytes bs]::vs) (mk nm xs) (led c ys gs):=z6 hz (aB hc h)
theorem wC{is js:List Int}(hc:c.Ok n nm)(ha:Has c.w c.fx (led c ys gs) a (.list (iL is)))(hb:Has c.w c.fx (led c ys gs) l (.list (iL js)))(h:Go c nm r ([.bool (!decide (is=js))]::vs) xs ys gs):D c (.cmp .NotEq::r) ([.ref l]::[.ref a]::vs) (mk nm xs) (led c ys gs):=Hx hc.ok ha hb (aB hc h)
theorem VL{is js:List Int}(hc:c.Ok n nm)(ha:Has c.w c.fx (led c ys gs) a (.list (iL is)))(hb:Has c.w c.fx (led c ys gs) l (.list (iL js)))(h:Go c nm r ([.bool (decide (is=js))]::vs) xs ys gs):D c (.cmp .Eq::r) ([.ref l]::[.ref a]::vs) (mk nm xs) (led c ys gs):=Hz hc.ok ha hb (aB hc h)
theorem M6(hc:c.Ok n nm)(h:Go c nm r ([.bool (bs != cs)]::vs) xs ys gs):D c (.cmp .NotEq::r) ([.bytes cs]::[.bytes bs]::vs) (mk nm xs) (led c ys gs):=Et hc.ok (aB hc h)
theorem GZ{a b:Str}(hc:c.Ok n nm)(h:Go c nm r ([.bool (a.cps.toList != b.cps.toList)]::vs) xs ys gs):D c (.cmp .NotEq::r) ([.str b]::[.str a]::vs) (mk nm xs) (led c ys gs):=J3 hc.ok (aB hc h)
theorem Nb{a b:Str}(hc:c.Ok n nm)(h:Go c nm r ([.bool (a.cps.toList == b.cps.toList)]::vs) xs ys gs):D c (.cmp .Eq::r) ([.str b]::[.str a]::vs) (mk nm xs) (led c ys gs):=J4 hc.ok (aB hc h)
theorem ZR{is:List Int}(hc:c.Ok n nm)(ha:Has c.w c.fx (led c ys gs) l (.list (iL is)))(h:Go c nm r ([.bool (is.any λi=>i == x)]::vs) xs ys gs):D c (.cmp .In::r) ([.ref l]::[.int x]::vs) (mk nm xs) (led c ys gs):=Hy hc.ok ha (aB hc h)
theorem ZQ{pos:Pos}(hc:c.Ok n nm)(h:∀ d,(d == sysModules)=false→Go c nm r ([.ref d]::vs) xs ys (gs++[[(d,.dict [])]])):D c (.e (.Dict [] [] pos)::r) vs (mk nm xs) (led c ys gs):=V1.perm (JR hc.ok λd hd=>Go.snoc (g:=[(d,_)]) hc (h d hd))
theorem M5{kvs:List (Int×AV)}(hc:c.Ok n nm)(i j:Nat)(hl:(cI gs i)[j]?=some (l,.dict kvs))(hz:kvs.length≤1000000)(h:Go c nm r vs xs ys (DK gs i j (.dict (put kvs x v)))):D c (.si::r) ([.int x]::[.ref l]::[v]::vs) (mk nm xs) (led c ys gs):=KR (jG i j hl) hz (aB hc h)
theorem M9{kvs:List (Int×AV)}(hc:c.Ok n nm)(hs:cZ se)(hl:Has c.w c.fx (led c ys gs) l (.dict kvs))(hx:look kvs x=some v)(h:Go c nm r ([v]::vs) xs ys gs):D c (.sub ve se::r) ([.int x]::[.ref l]::vs) (mk nm xs) (led c ys gs):=MP hs hl hx (aB hc h)
theorem VG{kvs:List (Int×AV)}(hc:c.Ok n nm)(hl:Has c.w c.fx (led c ys gs) l (.dict kvs))(h:Go c nm r ([.ref l]::[.bi "dict.get"]::vs) xs ys gs):D c (.gm "get" :: r) ([.ref l]::vs) (mk nm xs) (led c ys gs):=MN hl ⟨trivial,aB hc h⟩
theorem Rd{kvs:List (Int×AV)}{b:AV}(hc:c.Ok n nm)(hl:Has c.w c.fx (led c ys gs) l (.dict kvs))(lo:(l == sysModules)=false)(h:Go c nm r ([(look kvs x).getD b]::vs) xs ys gs):D c (.cg::r) ([.ref l,.int x,b]::[.bi "dict.get"]::vs) (mk nm xs) (led c ys gs):=Ob hl lo (aB hc h)
theorem JD{ts:List AV}{ps:List (Int×AV)}(hc:c.Ok n nm)(hL:Has c.w c.fx (led c ys gs) l (.list ts))(hlen:ts.length=ps.length)(hz:ps.length≤1000000)(hts:∀ (i:Nat) (p:Int×AV),ps[i]?=some p→∃ T,ts[i]?=some (.ref T)∧Has c.w c.fx (led c ys gs) T (.tuple [.int p.1,p.2]))
  (h:∀ d,(d == sysModules)=false→Go c nm r ([.ref d]::vs) xs ys (gs++[[(d,.dict (ps.foldl (λm p=>Nz.put m p.1 p.2) []))]])):D c (.cg::r) ([.ref l]::[.typ "dict"]::vs) (mk nm xs) (led c ys gs):=
 λva vb h1 h2=>V1.perm (wU hc.ok hL hlen hz hts (λd hd=>Go.snoc (g:=[(d,_)]) hc (h d hd)) va vb h1 h2)
theorem eN(hc:c.Ok n nm)(h:∀ R,Go c nm r ([.ref R]::vs) xs ys (gs++[[(R,.range 0 x 1)]])):D c (.cg::r) ([.int x]::[.typ "range"]::vs) (mk nm xs) (led c ys gs):=
 λva vb h1 h2=>V1.perm (Hq (λR=>Go.snoc (g:=[(R,_)]) hc (h R)) va vb h1 h2)
theorem ux(hc:c.Ok n nm)(hz:z≠0)(hz2:z.natAbs<2^64)(h:∀ R,Go c nm r ([.ref R]::vs) xs ys (gs++[[(R,.range x y z)]])):D c (.cg::r) ([.int x,.int y,.int z]::[.typ "range"]::vs) (mk nm xs) (led c ys gs):=
 λva vb h1 h2=>V1.perm (Hp hz hz2 (λR=>Go.snoc (g:=[(R,_)]) hc (h R)) va vb h1 h2)
theorem DX{t:Expr}{body:List Stmt}(hc:c.Ok n nm)(ht:cP t)(I:Nat→Vs→Vs→Gs→Prop)(hi:I 0 xs ys gs)(he:∀ xs ys gs,I bs.length xs ys gs→Go c nm r vs xs ys gs)
  (turn:∀ k,k<bs.length→∀ xs ys gs,I k xs ys gs→∀ J (P:au→Led→Prop),(∀ is xs' ys' gs' cO,I (k+1) xs' ys' cO→gets gs' is=cO++[[(J,.fM bs (k+1))]]→P (mk nm xs') (led c ys' gs'))→Go c nm [.asg t,.ss body,.bot P] [[.int ((bs.getD k 0:Nat):Int)]] xs ys (gs++[[(J,.fM bs (k+1))],[]])) :
  D c (.fr t body::r) ([.bytes bs]::vs) (mk nm xs) (led c ys gs):=
 Gd ht λJ=>nU (own:=λk=>[(J,.fM bs k)]) (item:=jh λk=>.int ((bs.getD k 0:Nat):Int)) (pre:=λ_ _=>True) hc I hi (λ_ _ _ _ _ _ _=>trivial) he λk hk xs ys gs hi a ex hit P hP=>by
  obtain⟨rfl,rfl⟩:=hit
  exact aB hc (turn k hk xs ys gs hi J P λis xs' ys' gs' cO h1 h2=>hP is xs' ys' gs' cO h1 (fJ h2))
end
section
variable{c:Cx}{nm:NM}{n n':Nat}{r:List It}{vs:bR}{xs ys:Vs}{gs:Gs}{a l S T:Addr}{ls:List AV}{t elt iter:Expr}{ts:List Expr}{k:Nat}{p:Pos}
theorem oN(hc:c.Ok n nm)(hT:Has c.w c.fx (led c ys gs) T (.tuple ls))(hn:ts.length=ls.length)(hs:ts.all noStar=true)(h:Go c nm (ts.map .asg++r) ((ls.map λa=>[a])++vs) xs ys gs) :
  D c (.asg (.Tuple ts k p)::r) ([.ref T]::vs) (mk nm xs) (led c ys gs):=as_tuple hc.ok hT hn (nZ hs).1 (nZ hs).2 (Ow sJ hs hn.symm (aB hc h))
theorem pR{t1 t2:Expr}{cc:Nat}{body:List Stmt}(hc:c.Ok n nm)(hl:Has c.w c.fx (led c ys gs) l (.list ls))(hs:[t1,t2].all noStar=true)(I:Nat→Vs→Vs→Gs→Prop)(hi:I 0 xs ys gs)
  (hp:∀ k xs ys gs,I k xs ys gs→Has c.w c.fx (led c ys gs) l (.list ls))(he:∀ xs ys gs,I ls.length xs ys gs→Go c nm r vs xs ys gs)
  (turn:∀ k,k<ls.length→∀ xs ys gs,I k xs ys gs→∀ e it T (P:au→Led→Prop),(∀ is xs' ys' gs' cO,I (k+1) xs' ys' cO→gets gs' is=cO++[[(e,.cJ it (k+1)),(it,.bh l (k+1))]]→P (mk nm xs') (led c ys' gs'))→
   Go c nm [.asg t1,.asg t2,.ss body,.bot P] [[.int k],[ls.getD k .none]] xs ys (gs++[[(e,.cJ it (k+1)),(it,.bh l (k+1))],[(T,.tuple [.int k,ls.getD k .none])]])) :
  D c (.cg::.fr (.Tuple [t1,t2] cc p) body::r) ([.ref l]::[.typ "enumerate"]::vs) (mk nm xs) (led c ys gs):=
 o8 hl λe it=>yK (nU (own:=λk=>[(e,.cJ it k),(it,.bh l k)]) (item:=Bt λk=>ls.getD k .none) (pre:=λfx σ=>Has c.w fx σ l (.list ls)) hc I hi (λk xs ys gs hi σ h=>(hp k xs ys gs hi).imp (h _) id) he λk hk xs ys gs hi a ex hit P hP=>by
  obtain⟨T,rfl,rfl⟩:=hit
  refine oN (ls:=[.int k,ls.getD k .none]) hc (.inl (List.mem_append_right _ ?_)) rfl hs (turn k hk xs ys gs hi e it T P λis xs' ys' gs' cO h1 h2=>hP is xs' ys' gs' cO h1 (fJ h2))
  rw[fZ]
  exact List.mem_append_right _ (List.mem_append_right _ (.head _)))
end
noncomputable def sY(cs:List (Str×Addr)):List (Str×NameKind)→List (Str×Addr)→Option (List (Str×Addr))
  | [],acc=>some acc
  | (x,k)::l,acc=>match k with
    | .free=>(match cs.lookup x with
      | some a=>sY cs l ((x,a)::acc)
      | none=>none)
    | _=>sY cs l acc
theorem tL {env:Env}{scope:Scope}{cl:List (Str×Addr)}(h:sY env.cells scope.names []=some cl):closureFor scope env=pure cl:=by
  unfold closureFor
  generalize scope.names=l at h
  generalize ([]:List (Str×Addr))=acc at h
  show(do let r ←forIn l acc _;pure r)=pure cl
  induction l generalizing acc with
  | nil=>cases h;rfl
  | cons p l ih=>
    obtain⟨x,k⟩:=p
    rw[List.forIn_cons]
    unfold sY at h
    cases k with
    | free=>
      dsimp only at h
      split at h
      · rename_i a q
        have e:cellOf env x=pure a:=by unfold cellOf;rw[q]
        dsimp only
        rw[if_pos (by rfl),e]
        exact ih _ h
      · cases h
    | _=>exact ih _ h
noncomputable def Cx.nc(c:Cx):Cx:=⟨c.w,{ c.fx with cl:=false },c.X,c.R,c.ca⟩
theorem Cx.Ok.nc{c:Cx}{n:Nat}{nm:NM}(hc:c.Ok n nm):c.nc.Ok n nm:=⟨hc.ok.Gj,hc.hk,hc.hc,hc.hl⟩
noncomputable abbrev Names:=List (Str×NameKind)
noncomputable def CK(c:Cx)(n:Nat)(nm:NM)(scope:Scope)(cl:List (Str×Addr))(t elt:Expr)(ifs:List Expr)(Q:AV→Led→Prop)(as:List AV)(m:au)(σ:Led):Prop:=
  ∃ a,as=[a]∧PIT c.w c.nc.fx a m σ t (λI cnt own item pre σ2=>∃ Inv:Nat→List AV→Led→Prop,cnt≤1000000∧Inv 0 [] σ2∧(∀ k acc σ,Inv k acc σ→pre c.nc.fx σ)∧xJ c.w c.nc.fx n nm.kn scope cl t elt ifs own item cnt Inv∧
    ∀ acc σ',Inv cnt acc σ'→∀ D,∃ eU ρ,(((D,.list acc)::σ':Led)).Perm (eU++ρ)∧Q (.ref D) eU) c.X
theorem V1.eX{w:World}{fx:Fx}{m:au}{σ:Led}{X:Value→Prop}{t:Sem Value}{Q:AV→Led→Prop}(h:V1 w fx t m σ (λa σ'=>∃ eU ρ,σ'.Perm (eU++ρ)∧Q a eU) X):V1 w fx t m σ Q X:=λs H=>
 aV (h s H) (λv s'=>Bv λm' σ' H' e a ha eU ρ p q=>⟨m',eU,H'.eX p,e,a,ha,q⟩) λ_ _ e=>e
section
variable{c:Cx}{nm:NM}{n n':Nat}{r:List It}{vs:bR}{xs ys ys':Vs}{gs:Gs}{a l S T:Addr}{ls:List AV}{t elt iter:Expr}{ifs:List Expr}{k:Nat}{p:Pos}{scope:Scope}{Q:AV→Led→Prop}
theorem Rf(hc:c.Ok n nm)(cl:List (Str×Addr))(hkind:scope.kind=.function)(hchk:pq scope.names nm.kn=true)(hclos:sY c.fx.env.cells scope.names []=some cl)(hs:∀ x,foldedSetIterable iter c.fx.env x=pure x)
  (h:Go c.nc nm [.e iter,.dN (CK c n nm scope cl t elt ifs λa σ=>D c r ([a]::vs) (mk nm xs) σ)] [] xs ys gs):D c (.e (.ListComp elt [⟨t,iter,ifs,0⟩] scope p)::r) vs (mk nm xs) (led c ys gs):=by
 refine V1.eX (Nt (cl:=cl) hc.ok hc.hk hkind hchk (tL hclos) hs (V1.mono (aB hc.nc h) λa σ=>aD λb e z=>?_))
 cases e;exact z
noncomputable def o9(ifs:List Expr)(elt:Expr)(r:List It):List It:=match ifs with
 | [c]=>.t c::.RJ elt::r
 | _=>.e elt::r
noncomputable def gU(ca:List Addr)(ys:Vs):Gs:=match ca,ys with
 | a::l,v::r=>[(a,.cell v)]::gU l r
 | _,_=>[]
theorem tM:∀ {ca:List Addr}{ys:Vs},flat (gU ca ys)=bK ca ys
 | [],_=>rfl
 | _::_,[]=>rfl
 | a::l,v::r=>congrArg ((a,AO.cell v) :: ·) (tM (ca:=l) (ys:=r))
theorem yq:∀ (ns:Names),(ns.map (·.1)).zip (ns.map λ_=>(none:Option AV))=jZ ns
 | []=>rfl
 | (x,_)::ns=>congrArg ((x,none) :: ·) (yq ns)
theorem rz:∀ cl:List (Str×Addr),(cl.map (·.1)).zip (cl.map (·.2))=cl
 | []=>rfl
 | q::l=>congrArg (q :: ·) (rz l)
theorem Gw{α:Type}{P:List α→Prop}(h0:P [])(h1:∀ q,P [q]):∀ l:List α,Nat.ble l.length 1=true→P l
 | [],_=>h0
 | [q],_=>h1 q
theorem wW {cl:List (Str×Addr)}{cnt:Nat}{own:Nat→Led}{item:Nat→AV→Led→Prop}{pre:Fx→Led→Prop}(hc:c.Ok n nm)(js:List Nat)(iU:flat (gets (gU c.ca ys) js)=bK (cl.map (·.2)) ys')(hif:Nat.ble ifs.length 1=true)(I:Nat→List AV→Gs→Prop)(hz:cnt≤1000000)(hi:I 0 [] gs)
    (hp:∀ k as gs,I k as gs→∀ σ:Led,(∀ p∈led c ys gs,p∈σ)→pre c.nc.fx σ)(he:∀ as gs,I cnt as gs→∀ D,Q (.ref D) (led c ys (gs++[[(D,.list as)]])))
    (turn:∀ k,k<cnt→∀ as gs,I k as gs→as.length≤k→∀ a ex,item k a ex→∀ c':Cx,c'.Ok n ⟨scope.names.map (·.1),cl.map (·.1),Ad scope.names⟩→c'.w=c.w→c'.fx.base=c.fx.base→∀ (ρ:Led) (P:List AV→au→Led→Prop),(∀ bs is xs' gs' cO,I (k+1) (as++bs) cO→(flat (gets gs' is)).Perm (flat cO++ρ)→P bs (mk ⟨scope.names.map (·.1),cl.map (·.1),Ad scope.names⟩ xs') (led c' ys' gs'))→
      D c' (.asg t::o9 ifs elt [.dN P]) [[a]] (mk ⟨scope.names.map (·.1),cl.map (·.1),Ad scope.names⟩ (scope.names.map λ_=>none)) (led c' ys' (gs++[ex,ρ]))) :
    ∃ Inv:Nat→List AV→Led→Prop,cnt≤1000000∧Inv 0 [] (led c ys gs)∧(∀ k acc σ,Inv k acc σ→pre c.nc.fx σ)∧xJ c.w c.nc.fx n nm.kn scope cl t elt ifs own item cnt Inv∧
    ∀ acc σ',Inv cnt acc σ'→∀ D,∃ eU ρ,(((D,.list acc)::σ':Led)).Perm (eU++ρ)∧Q (.ref D) eU:=by
  have hcl:∀ gs:Gs,(led c ys gs).Perm (bK (cl.map (·.2)) ys'++(flat gs++flat (cuts (gU c.ca ys) js))):=λgs=>by
    have:=gR js (gU c.ca ys)
    rw[tM,iU] at this
    refine(this.append_right _).trans ?_
    rw[aA]
    exact List.perm_append_comm.append_left _
  refine⟨λk acc σ=>∃ gs ρ,I k acc gs∧σ.Perm (led c ys gs++ρ),hz,⟨gs,[],hi,by rw[aN]⟩,?_,?_,?_⟩
  · refine λk acc σ=>bw (λgs ρ hi p=>?_)
    exact hp k acc gs hi σ λq hq=>p.symm.subset (List.mem_append_left _ hq)
  · refine λk hk acc σ=>bw (λgs ρ hi p hal a ex hit lE ok' hk' hce hb' hfz v hv s H=>?_)
    have e0:=rz cl
    have h:=turn k hk acc gs hi hal a ex hit ⟨c.w,lE,bN,c.R,cl.map (·.2)⟩ ⟨ok',hk',hce.trans e0.symm,by rw[List.length_map,List.length_map]⟩ rfl hb' (flat (cuts (gU c.ca ys) js)) (λbs m σ=>∃ gs ρ,I (k+1) (acc++bs) gs∧σ.Perm (led c ys gs++ρ)) λbs is xs' gs' cO h1 h2=>⟨cO,flat (cuts gs' is),h1,by
      refine(lC (c:=⟨c.w,lE,bN,c.R,cl.map (·.2)⟩) is).trans ((h2.append_right _).trans ?_)
      refine(List.perm_append_comm_assoc _ _ _).trans ?_
      rw[←aA]
      exact(hcl cO).symm.append_right _⟩
    have h:AS c.w lE t a (mk ⟨scope.names.map (·.1),cl.map (·.1),Ad scope.names⟩ (scope.names.map λ_=>none)) _ (λm' σ'=>D ⟨c.w,lE,bN,c.R,cl.map (·.2)⟩ (o9 ifs elt [.dN _]) [] m' σ') bN:=h
    have e1:mk ⟨scope.names.map (·.1),cl.map (·.1),Ad scope.names⟩ (scope.names.map λ_=>none)=jZ scope.names:=yq _
    rw[e1] at h
    have hp:(ex++σ).Perm (led ⟨c.w,lE,bN,c.R,cl.map (·.2)⟩ ys' (gs++[ex,flat (cuts (gU c.ca ys) js)])++ρ):=by
      refine((p.trans ((hcl gs).append_right ρ)).append_left ex).trans ?_
      unfold led
      rw[fZ]
      show(ex++((bK (cl.map Prod.snd) ys'++(flat gs++_))++ρ)).Perm ((bK (cl.map Prod.snd) ys'++(flat gs++(ex++(_++[]))))++ρ)
      rw[aN,←aA ex]
      refine List.Perm.append_right ρ ?_
      refine(List.perm_append_comm_assoc _ _ _).trans (List.Perm.append_left _ ?_)
      exact List.perm_append_comm_assoc _ _ _
    refine aV (h v hv s (H.eX hp)) (λ_ s'=>bw λm' σ' H' z=>⟨m',σ',H',?_⟩) λ_ _ e=>e
    revert z
    refine Gw (P:=λifs=>D _ (o9 ifs elt [_]) [] m' σ'→CT _ _ ifs m' σ' _ _) ?_ ?_ ifs hif
    · exact λz=>Ru (by rw[if_pos rfl];exact z)
    · exact λq z=>Rt (B1.mono z λb σ' z=>by
        cases b with
        | true=>rw[if_pos rfl];exact z
        | false=>rw[if_neg (by decide)];have z:∃ gs ρ,I (k+1) (acc++[]) gs∧σ'.Perm (led c ys gs++ρ):=z;rw[aN] at z;exact z)
  · refine λacc σ=>bw (λgs ρ hi p D=>?_)
    refine⟨_,ρ,?_,he acc gs hi D⟩
    refine(p.cons _).trans ?_
    exact(lB (g:=[(D,.list acc)])).append_right ρ
end
noncomputable abbrev kY(scope:Scope)(cl:List (Str×Addr)):NM:=⟨scope.names.map (·.1),cl.map (·.1),Ad scope.names⟩
section
variable{c:Cx}{nm:NM}{n n':Nat}{r:List It}{vs:bR}{xs ys ys':Vs}{gs:Gs}{a l S T:Addr}{ls:List AV}{t elt iter:Expr}{ifs:List Expr}{k:Nat}{p:Pos}{scope:Scope}{Q:AV→Led→Prop}{cl:List (Str×Addr)}
theorem Nh{x0:Str}{py spos:Pos}(hc:c.Ok n nm)(cl:List (Str×Addr))(hsw:swapsWith (.ListComp elt [⟨t,iter,ifs,0⟩] scope p) (some (.Name x0 py)) spos.line c.fx.env=pure true)(hx:dX x0 nm.kn=some .local)(hkind:scope.kind=.function)(hchk:pq scope.names nm.kn=true)(hclos:sY c.fx.env.cells scope.names []=some cl)(hs:∀ x,foldedSetIterable iter c.fx.env x=pure x)
  (h:Go c.nc nm [.e iter,.dN (CK c n nm scope cl t elt ifs λa σ=>pJ x0 a False nm.vn xs λxs'=>D c r vs (mk nm xs') σ)] [] xs ys gs):D c (.st (.Assign [.Name x0 py] (.ListComp elt [⟨t,iter,ifs,0⟩] scope p) spos)::r) vs (mk nm xs) (led c ys gs):=by
 have hm:S1 c.w c.fx (.Assign [.Name x0 py] (.ListComp elt [⟨t,iter,ifs,0⟩] scope p) spos) (mk nm xs) (led c ys gs) (λm' σ'=>∃ eU ρ,σ'.Perm (eU++ρ)∧D c r vs m' eU) (Out c) c.X:=by
  refine Qk (cl:=cl) hc.ok hc.hk hsw (bT hx) hkind hchk (tL hclos) hs (V1.mono (aB hc.nc h) λa σ=>aD λb e z=>?_)
  cases e
  intro va ha
  refine WP.mono (z va ha) λr m' σ'=>g8 λe I cnt own item pre σ2 e1 e2 IT Inv q1 q2 q3 q4 q5=>⟨e,I,cnt,own,item,pre,σ2,e1,e2,IT,Inv,q1,q2,q3,q4,λacc σ' hI D'=>?_⟩
  refine bw (λeU ρ p q=>?_) (q5 acc σ' hI D')
  exact oG q (λxs' hp z=>⟨mk nm xs',hp.put,eU,ρ,p,z⟩) False.elim
 exact λs H=>aV (hm s H) (λf s'=>bw λm' σ' H' q=>by
  cases f with
  | next=>refine bw (λeU ρ p q=>?_) q;exact⟨m',eU,H'.eX p,q⟩
  | ret v=>exact⟨m',σ',H',q⟩
  | brk=>exact q.elim
  | cont=>exact q.elim) λ_ _ e=>e
theorem wG(hc:c.Ok n nm)(js:List Nat)(ys':Vs)(iU:flat (gets (gU c.ca ys) js)=bK (cl.map (·.2)) ys')(hif:Nat.ble ifs.length 1=true)(ht:cP t)(hl:Has c.w c.fx (led c ys gs) l (.list ls))(hz:ls.length≤1000000)(I:Nat→List AV→Gs→Prop)(hi:I 0 [] gs)
  (hp:∀ k as gs,I k as gs→Has c.w c.fx (led c ys gs) l (.list ls))(he:∀ as gs,I ls.length as gs→∀ D,Q (.ref D) (led c ys (gs++[[(D,.list as)]])))
  (turn:∀ k,k<ls.length→∀ as gs,I k as gs→as.length≤k→∀ c':Cx,c'.Ok n (kY scope cl)→c'.w=c.w→c'.fx.base=c.fx.base→∀ (ρ:Led) (P:List AV→au→Led→Prop),(∀ bs is xs' gs' cO,I (k+1) (as++bs) cO→(flat (gets gs' is)).Perm (flat cO++ρ)→P bs (mk (kY scope cl) xs') (led c' ys' gs'))→
   tV (scope.names.map λ_=>none) λxs=>Go c' (kY scope cl) (.asg t::o9 ifs elt [.dN P]) [[ls.getD k .none]] xs ys' (gs++[[],ρ])) :
  D c.nc [.dN (CK c n nm scope cl t elt ifs Q)] [[.ref l]] (mk nm xs) (led c.nc ys gs):=
 ⟨.ref l,rfl,rG (fx:=c.nc.fx) hl ht λJ=>wW (c:=c) (own:=λk=>[(J,.bh l k)]) (item:=jh λk=>ls.getD k .none) (pre:=λfx σ=>Has c.w fx σ l (.list ls)) hc js iU hif I hz hi (λk as gs hi σ h=>(hp k as gs hi).imp (h _) id) he λk hk as gs hi hal a ex hit c' hc' hw hb ρ P hP=>by
  refine uA (λnD vJ=>?_) hit;subst nD;subst vJ
  exact aB hc' (lZ (K:=λxs=>Go c' _ _ _ xs ys' _) (turn k hk as gs hi hal c' hc' hw hb ρ P hP))⟩
theorem nP{x y z:Int}{cnt:Nat}{rr:Addr}(hc:c.Ok n nm)(js:List Nat)(ys':Vs)(iU:flat (gets (gU c.ca ys) js)=bK (cl.map (·.2)) ys')(hif:Nat.ble ifs.length 1=true)(ht:cP t)(hr:Has c.w c.fx (led c ys gs) rr (.range x y z))(hs:Builtin.Range.small x y z=true)(hn:Builtin.Range.rangeSize x y z=(cnt:Int))(hz:cnt≤1000000)(I:Nat→List AV→Gs→Prop)(hi:I 0 [] gs)
  (he:∀ as gs,I cnt as gs→∀ D,Q (.ref D) (led c ys (gs++[[(D,.list as)]])))
  (turn:∀ k,k<cnt→∀ as gs,I k as gs→as.length≤k→∀ c':Cx,c'.Ok n (kY scope cl)→c'.w=c.w→c'.fx.base=c.fx.base→∀ (ρ:Led) (P:List AV→au→Led→Prop),(∀ bs is xs' gs' cO,I (k+1) (as++bs) cO→(flat (gets gs' is)).Perm (flat cO++ρ)→P bs (mk (kY scope cl) xs') (led c' ys' gs'))→
   tV (scope.names.map λ_=>none) λxs=>Go c' (kY scope cl) (.asg t::o9 ifs elt [.dN P]) [[.int (x+k*z)]] xs ys' (gs++[[],ρ])) :
  D c.nc [.dN (CK c n nm scope cl t elt ifs Q)] [[.ref rr]] (mk nm xs) (led c.nc ys gs):=
 ⟨.ref rr,rfl,vq (fx:=c.nc.fx) hr hs hn ht λJ=>wW (c:=c) (own:=λk=>[(J,.eF (x+k*z) (cnt-k) z)]) (item:=jh λk=>.int (x+k*z)) (pre:=λ_ _=>True) hc js iU hif I hz hi (λ_ _ _ _ _ _=>trivial) he λk hk as gs hi hal a ex hit c' hc' hw hb ρ P hP=>by
  refine uA (λgP kj=>?_) hit;subst gP;subst kj
  exact aB hc' (lZ (K:=λxs=>Go c' _ _ _ xs ys' _) (turn k hk as gs hi hal c' hc' hw hb ρ P hP))⟩
end
section
variable{w:World}{fx:Fx}{m m':au}{σ σ':Led}{X:Value→Prop}{n n':Nat}
theorem MK{T id:String}{name:Str}(ok:aC w n fx)(h1:typeOf (.type T)=pure (.type "type"))(h2:Manifest.isStub T=false)(h3:findCls (KK w) (.type T) (.type "type") name=some (.val (.builtin id)))(h4:handedIn (.builtin id)=true)
  {K:AV→List AV→Led→Prop}(h:K (.bi id) [] σ):GM w fx (.typ T) name m σ K X:=λvo pl ho s H=>by
 cases ho
 have H':=H
 refine dO (λg M news H=>?_) H
 refine .of (method_type (v:=.builtin id) H.F (ok.lD.keeps H.stays) h1 h2 h3 h4 ?_)
 exact⟨m,σ,H'.toks,rfl,_,_,.bi _,.nil,h⟩
theorem Jw(ok:aC w n fx){K:AV→List AV→Led→Prop}(h:K (.bi "ValueError.__init__") [] σ):GM w fx (.typ "ValueError") "__init__" m σ K X:=
 MK ok Pz KC (Nk w) Mx h
end
theorem FN.Z2{w:World}{b:Bool}{n:Nat}{base:Heap}{f:Addr}{as:List AV}{μ:Led}{Q:AV→Led→Prop}{X:Value→Prop}
  {name qual:Str}{params:Arguments}{body:List Stmt}{names:List (Str×NameKind)}{dV kV doc pm cdv ct oc:Value}{an od:Option Addr}{osl:Array (Option Value)}{more:List (Str×Const)}(ps rest:List Str)
  (ho:(KK w).lookup f=some ⟨oc,od,.func (fnX name qual params body ⟨.function,names,false,false,more⟩ [] dV kV doc pm an cdv ct),osl⟩)(hcd:codeIn (KK w) cdv qual=true)
  (hl:ps.length=as.length)
  (hbind:∀ (s:Shared) (vs:List Value),(KK w).In s.heap→bF as vs→BindsTo s (fnX name qual params body ⟨.function,names,false,false,more⟩ [] dV kV doc pm an cdv ct) ⟨vs,[]⟩ (ps.zip vs))
  (hchk:zq ps rest names=true)
  (h:∀ fx,aC w n fx→bU fx→iZ fx names→fx.cl=b→fx.base=base→fx.fz=[]→(∃ L,fx.env=envX qual ⟨.function,names,false,false,more⟩ L f cdv [])→SS w fx body (ps.zip (as.map some)++rest.map λx=>(x,none)) μ (λ_ σ=>Q .none σ) Q X) :
  FN w b (n+1) f base as μ Q X:=λvs hv=>by
 unfold zq at hchk
 simp only[Bool.and_eq_true] at hchk
 refine uA (λgP c5=>?_) hchk;obtain⟨⟨⟨c1,c2⟩,c3⟩,c4⟩:=gP
 have nd:=cW c1
 have hloc:∀ y∈ps.zip vs,names.lookup y.1=some .local:=λy hy=>by
  have:=List.all_eq_true.mp c4 y.1 (List.of_mem_zip hy).1
  exact beq_iff_eq.mp this
 refine CALL.def ho hcd (λs hs=>hbind s vs hs hv) hloc (λx hx q=>?_) (u0 hv hl nd) rfl rfl rfl λfx ok ow hcl hb hfz ⟨L,he⟩=>?_
 ·have:=List.all_eq_true.mp c5 x hx
  rw[q] at this;cases this
 ·refine uU (h fx ok ow (λp hp=>?_) hcl hb hfz ⟨L,he⟩)
  constructor
  ·rw[he];exact gC (cW c2) hp
  ·have:=List.all_eq_true.mp c3 p hp
   cases hq:(p.1 == ("__debug__" : Str)) with
   | false=>rfl
   | true=>rw[hq] at this;cases this
theorem FX.dC{w:World}{b:Bool}{n:Nat}{base:Heap}{f:Addr}{as:List AV}{gs:Gs}{ι:Type}{C:ι→Prop}{v:ι→AV}{g':ι→Gs}{X:Value→Prop}
  {name qual:Str}{params:Arguments}{body:List Stmt}{names:List (Str×NameKind)}{dV kV doc pm cdv ct oc:Value}{an od:Option Addr}{osl:Array (Option Value)}{more:List (Str×Const)}(ps rest vn cn:List Str)(xs ys:Vs)
  (ho:(KK w).lookup f=some ⟨oc,od,.func (fnX name qual params body ⟨.function,names,false,false,more⟩ [] dV kV doc pm an cdv ct),osl⟩)(hcd:codeIn (KK w) cdv qual=true)
  (hl:ps.length=as.length)
  (hbind:qe as.length λvs=>bindArgs (fnX name qual params body ⟨.function,names,false,false,more⟩ [] dV kV doc pm an cdv ct) ⟨vs,[]⟩=pure (ps.zip vs))
  (hchk:Bj ps rest names=true)
  (e1:((ps.zip (as.map some)).filter λp=>names.lookup p.1 == some .local)++(rest.map λx=>(x,none))=vn.zip xs)
  (e2:∀ L,iW (L+1) names ps as=bK ((cellsFrom (L+1) names []).map (·.2)) ys)(e3:∀ L,(cellsFrom (L+1) names []).map (·.1)=cn)
  (h:∀ c:Cx,c.Ok n ⟨vn,cn,names⟩→bU c.fx→c.w=w→c.fx.cl=b→c.fx.base=base→(∀ e,X e→c.X e)→(∀ i,C i→c.R (v i) (flat (g' i)))→∀ L,c.ca=(cellsFrom (L+1) names []).map (·.2)→c.fx.fz=[]→
   D c [.ss body,.tD] [] (mk ⟨vn,cn,names⟩ xs) (led c ys gs)) :
  FX w b (n+1) f base as gs C v g' X:=by
 refine FN.Z4 ps rest ho hcd hl (λvs hv=>hbind.at_ hv.length) hchk λfx L ok ow hk hcl hb hfz he=>?_
 let c:Cx:=⟨w,fx,X,λa μ=>∃ i,C i∧a=v i∧μ.Perm (flat (g' i)),(cellsFrom (L+1) names []).map (·.2)⟩
 have hc:c.Ok n ⟨vn,cn,names⟩:=⟨ok,hk,by
  show fx.env.cells=cn.zip _
  rw[he,←e3 L]
  exact(rz _).symm,by
  show cn.length=_
  rw[←e3 L,List.length_map,List.length_map]⟩
 have h1:=h c hc ow rfl hcl hb (λ_ q=>q) (λi hi=>⟨i,hi,rfl,.refl _⟩) L rfl hfz
 have h1:SS w fx body (mk ⟨vn,cn,names⟩ xs) (bK ((cellsFrom (L+1) names []).map (·.2)) ys++flat gs) (λ_ σ'=>Out c .none σ') (Out c) X:=h1
 have h2:=Out.next h1
 unfold mk at h2
 rw[e1,e2]
 exact h2
theorem FX.GK{w:World}{b:Bool}{n:Nat}{base:Heap}{f:Addr}{as:List AV}{gs:Gs}{ι:Type}{C:ι→Prop}{v:ι→AV}{g':ι→Gs}{X:Value→Prop}
  {name qual:Str}{params:Arguments}{body:List Stmt}{names:List (Str×NameKind)}{dV kV doc pm cdv ct oc:Value}{an od:Option Addr}{osl:Array (Option Value)}{more:List (Str×Const)}(ps rest vn cn:List Str)(xs ys:Vs)
  (ho:(KK w).lookup f=some ⟨oc,od,.func (fnX name qual params body ⟨.function,names,false,false,more⟩ [] dV kV doc pm an cdv ct),osl⟩)(hcd:codeIn (KK w) cdv qual=true)
  (hl:ps.length=as.length)
  (hbind:qe as.length λvs=>bindArgs (fnX name qual params body ⟨.function,names,false,false,more⟩ [] dV kV doc pm an cdv ct) ⟨vs,[]⟩=pure (ps.zip vs))
  (hchk:Bj ps rest names=true)
  (e1:((ps.zip (as.map some)).filter λp=>names.lookup p.1 == some .local)++(rest.map λx=>(x,none))=vn.zip xs)
  (e2:∀ L,iW (L+1) names ps as=bK ((cellsFrom (L+1) names []).map (·.2)) ys)(e3:∀ L,(cellsFrom (L+1) names []).map (·.1)=cn)
  (h:∀ c:Cx,c.Ok n ⟨vn,cn,names⟩→bU c.fx→c.w=w→c.fx.cl=b→c.fx.base=base→(∀ e,X e→c.X e)→(∀ i,C i→c.R (v i) (flat (g' i)))→∀ L,c.ca=(cellsFrom (L+1) names []).map (·.2)→c.fx.fz=[]→
   Go c ⟨vn,cn,names⟩ [.ss body,.tD] [] xs ys gs) :
  FX w b (n+1) f base as gs C v g' X:=
 FX.dC ps rest vn cn xs ys ho hcd hl hbind hchk e1 e2 e3 λc hc ow hw hcl hb hX hR L hca hfz=>aB hc (h c hc ow hw hcl hb hX hR L hca hfz)
theorem FX.goD{w:World}{b:Bool}{n:Nat}{base:Heap}{f:Addr}{as:List AV}{gs:Gs}{ι:Type}{C:ι→Prop}{v:ι→AV}{g':ι→Gs}{X:Value→Prop}
  {name qual:Str}{params:Arguments}{body:List Stmt}{names:List (Str×NameKind)}{dV kV doc pm cdv ct oc:Value}{an od:Option Addr}{osl:Array (Option Value)}{more:List (Str×Const)}(ps rest:List Str)
  (ho:(KK w).lookup f=some ⟨oc,od,.func (fnX name qual params body ⟨.function,names,false,false,more⟩ [] dV kV doc pm an cdv ct),osl⟩)(hcd:codeIn (KK w) cdv qual=true)
  (hl:ps.length=as.length)
  (hbind:∀ s:Shared,(KK w).In s.heap→qe as.length λvs=>BindsTo s (fnX name qual params body ⟨.function,names,false,false,more⟩ [] dV kV doc pm an cdv ct) ⟨vs,[]⟩ (ps.zip vs))
  (hchk:zq ps rest names=true)
  (h:∀ c:Cx,c.Ok n ⟨ps++rest,[],names⟩→bU c.fx→c.w=w→c.fx.cl=b→c.fx.base=base→(∀ e,X e→c.X e)→(∀ i,C i→c.R (v i) (flat (g' i)))→
   tV (as.map some++rest.map λ_=>none) λxs=>Go c ⟨ps++rest,[],names⟩ [.ss body,.tD] [] xs [] gs) :
  FX w b (n+1) f base as gs C v g' X:=by
 refine FN.Z2 ps rest ho hcd hl (λs vs K hv=>(hbind s K).at_ hv.length) hchk λfx ok ow hk hcl hb hfz he=>?_
 refine uE (λL he=>?_) he
 let c:Cx:=⟨w,fx,X,λa μ=>∃ i,C i∧a=v i∧μ.Perm (flat (g' i)),[]⟩
 have hc:c.Ok n ⟨ps++rest,[],names⟩:=⟨ok,hk,by show fx.env.cells=[];rw[he],rfl⟩
 have h1:=aB hc (lZ (K:=λxs=>Go c ⟨ps++rest,[],names⟩ [.ss body,.tD] [] xs [] gs) (h c hc ow rfl hcl hb (λ_ q=>q) λi hi=>⟨i,hi,rfl,.refl _⟩))
 have h1:SS w fx body (mk ⟨ps++rest,[],names⟩ (as.map some++rest.map λ_=>none)) (flat gs) (λ_ σ'=>Out c .none σ') (Out c) X:=h1
 have h2:=Out.next h1
 unfold mk at h2
 rw[uG ps rest as hl] at h2
 exact h2
section
variable{c:Cx}{nm:NM}{n n':Nat}{r:List It}{vs:bR}{xs ys:Vs}{gs:Gs}{a l S x C:Addr}{as:List AV}{v:AV}
theorem VD(hc:c.Ok n nm)(h:Go c nm r ([]::[.bi "ValueError.__init__"]::vs) xs ys gs):D c (.gm "__init__" :: r) ([.typ "ValueError"]::vs) (mk nm xs) (led c ys gs):=Jw hc.ok ⟨trivial,aB hc h⟩
end
theorem qH:∀ (l:List Nat),cQ l→aP (dv l) l.length=l
  | [],_=>rfl
  | d::r,h=>by
    have h1:=h d (.head _)
    have:=qH r λx hx=>h x (.tail _ hx)
    rw[List.length_cons,vQ,dv,Nat.add_mul_mod_self_left,Nat.mod_eq_of_lt h1,Nat.add_mul_div_left _ _ (by decide),Nat.div_eq_of_lt h1,Nat.zero_add,this]
theorem Js(L:List Nat)(h:cQ L):L.take (8*(L.length/8))++aP (dv (bB L)) (L.length%8)=L:=by
 have hb:cQ (bB L):=by unfold bB;exact h.drop _
 have e:=qH (bB L) hb
 rw[fC] at e
 rw[e];unfold bB;exact List.take_append_drop _ _
theorem Jt:aP 1 1=[1]:=by decide
theorem FQ(L:List Nat):(L.take (8*(L.length/8))).length%8=0:=by rw[lT];exact Lj
theorem Ga{L:List Nat}(h:L.length%8=0):bB L=[]:=List.length_eq_zero_iff.mp (by rw[fC,h])
theorem n7(l:List Nat)(hb:cQ l):∀ b∈allB l,b<256:=by
 rw[ru]
 intro b hm
 rcases mA hm with q|q
 ·exact zc l hb b q
 ·have hr:cQ (bB l):=by unfold bB;exact hb.drop _
  have h1:=kW hr
  rw[fC] at h1
  have h2:2^(l.length%8)≤2^8:=Nat.pow_le_pow_right (by decide) (by exact L1 [] [_] 524469 129 524470 rfl (Nat.mod_lt (l.length) (y:=8) (by decide)))
  split at q
  ·cases q
  ·rw[List.mem_singleton.mp q];exact L2 [] [_,_] 16778422 8321 12470 16778437 rfl h1 h2
theorem jM:∀ (n:Nat) (l:List Nat),l.length≤n→(dw l).length≤l.length
  | 0,l,h=>by rw[dj (by exact L1 [] [_] 524470 129 181 rfl h)];simp
  | n + 1,l,h=>by
    by_cases h8:8≤l.length
    · rw[gW h8,List.length_cons]
      have:=jM n (l.drop 8) (by rw[List.length_drop];exact L2 [] [_,_,_] 12469 8321 269224149 3523226663 rfl h (sC (l.length) 8 (L1 [] [_] 729093 129 729093 rfl h8)))
      rw[List.length_drop] at this;exact L2 [] [_,_,_] 3225431077 8321 13493 3254793255 rfl this (sC (l.length) 8 (L1 [] [_] 729093 129 729093 rfl h8))
    · rw[dj (by exact L1 [] [_] 524470 129 729096 rfl h8)];simp
noncomputable abbrev Dd(M:Addr)(L:List Nat):List (Str×AV):=[("made",.ref M),("held",.int ((dv (bB L):Nat):Int)),("held_bits",.int ((L.length%8:Nat):Int))]
noncomputable abbrev bO(U dU M:Addr)(L:List Nat):Led:=[(U,.inst 165 dU),(dU,.ns (Dd M L)),(M,.bytearray (dw L))]
theorem Df(U dU M:Addr):bO U dU M []=[(U,.inst 165 dU),(dU,.ns [("made",.ref M),("held",.int 0),("held_bits",.int 0)]),(M,.bytearray [])]:=by
 unfold bO Dd
 rw[jo (by decide),dj (by decide)];rfl
theorem s8(w:World){b:Bool}(hb:b=true)(base:Heap)(U dU:Addr):FX w b 1 113 base [.ref U] [[(U,.inst 165 dU),(dU,.ns [])]] (λ_:Addr=>True) (λ_=>.none) (λM=>[bO U dU M []]) bN:=by
 refine FX.go ["self"] [] rfl rfl rfl (λ_=>rfl) (by decide +kernel) ?_
 rintro k hk ow rfl hcl - - hR
 refine Vz hk (hcl.trans hb) λM=>?_
 refine d8 hk 0 rfl rfl (by kernel_rfl) rfl ?_
 refine d8 hk 0 rfl rfl (by kernel_rfl) rfl ?_
 refine d8 hk 0 rfl rfl (by kernel_rfl) rfl ?_
 refine aq [0,1] ?_
 have:=hR M trivial
 rw[Df] at this
 exact this
inductive Tf (U dU M:Addr) (v c:Nat) (L:List Nat):Nat→Vs→Vs→Gs→Prop
  | mk (RR mm:List Nat) (h hb:Int) (k:Nat):cQ RR→mm++dw RR=dw (L++aP v c)→bB RR=bB (L++aP v c)→h=(dv RR:Nat)→hb=RR.length→k=RR.length→
    Tf U dU M v c L k [some (.ref U),some (.int v),some (.int c)] [] [[(U,.inst 165 dU),(dU,.ns [("made",.ref M),("held",.int h),("held_bits",.int hb)]),(M,.bytearray mm)]]
theorem nH(w:World){b:Bool}(hb:b=true)(base:Heap)(U dU M:Addr)(L:List Nat)(v c:Nat)(hv:v<2^c)(hc:c≤32)(hL:cQ L)(hz:L.length≤100000) :
  F1 w b 3 120 base [.ref U,.int v,.int c] [bO U dU M L] .none [bO U dU M (L++aP v c)] bN:=by
 refine FX.go ["self","value","count"] [] rfl rfl rfl (λ_ _ _=>rfl) (by decide +kernel) ?_
 have Zh:v<2^32:=Nat.lt_of_lt_of_le hv (Nat.pow_le_pow_right (by decide) hc)
 have hr:=fC L
 have hR:cQ (bB L):=by unfold bB;exact hL.drop _
 have hlt:=kW hR
 rw[hr] at hlt
 have ev:dv (bB L)+v*2^(L.length%8)=dv (bB L++aP v c):=by
  rw[p7,qX,Nat.mod_eq_of_lt hv,hr,Nat.mul_comm]
 have hl2:=jM _ (L++aP v c) (nR _)
 rw[lA,aL] at hl2
 rintro k hk ow rfl hcl - - hQ
 refine aF hk [] (nR _) (λbase' _=>vM k.w _ base' v c (by exact L0 [] [_] 46596096 1 rfl) (by exact L0 [] [_] 46596096 1 rfl) (by rw[Int.toNat_natCast,eV];exact L1 [] [_,_] 50801777 129 12470 rfl hv)) aX (nR _) ?_
 refine bY hk 0 rfl rfl (by kernel_rfl) rfl rfl ?_
 refine bY hk 0 rfl rfl (by kernel_rfl) rfl rfl ?_
 refine kE hk (by exact L0 [] [_] 46596096 1 rfl) (by exact L1 [] [_] 4194304076912 129 524470 rfl (Nat.mod_lt (L.length) (y:=8) (by decide))) (by rw[Int.natAbs_natCast];exact L1 [] [_] 1208925819614629174716598 129 281474976711862 rfl Zh) (jL (y:=((v*2^(L.length%8):Nat):Int)) (by rw[Int.toNat_natCast,eV,←Int.natCast_mul]) ?_)
 refine d8 hk 0 rfl rfl (by kernel_rfl) rfl ?_
 refine bY hk 0 rfl rfl (by kernel_rfl) rfl rfl ?_
 refine d8 hk 0 rfl rfl (by kernel_rfl) rfl ?_
 refine iy hk ow (Tf U dU M v c L) (bB L++aP v c).length (.mk _ _ _ _ _ (hR.append (cF _ _)) (Ea L _).symm (Cd L _).symm ((Ew _ _ _ hlt).trans (congrArg _ ev)) (by rw[lA,aL,hr,Int.natCast_add]) rfl) ?_
 intro k' xs ys gs hI P hP
 obtain⟨RR,mm,h,ib,_,hRR,e1,e2,eh,Em,hk0⟩:=hI
 refine bY hk 0 rfl rfl (by kernel_rfl) rfl rfl ?_
 refine aO (λh8=>?_) (λh8=>?_)
 ·have Ai:8≤RR.length:=L2 [_] [_] 729093 8321 728242 729088 rfl Em h8
  have hm:=Nat.mod_lt (dv RR) (y:=2^8) (by decide)
  rw[Bd RR 8 hRR Ai] at hm
  have hl1:=congrArg List.length e1
  rw[lA] at hl1
  refine bY hk 0 rfl rfl (by kernel_rfl) rfl rfl ?_
  refine VK hk 0 2 rfl ?_
  refine bY hk 0 rfl rfl (by kernel_rfl) rfl rfl ?_
  have es:Builtin.bitAnd h 255=((dv (RR.take 8):Nat):Int):=by rw[eh,show(255:Int)=2^8-1 from rfl,lJ,Bd RR 8 hRR Ai]
  refine V3 hk (hcl.trans hb) 0 2 rfl (by exact L1 [_] [_] 720896 65 728242 rfl es) (by exact L2 [_] [_] 16778417 8321 16778422 728242 rfl hm es) (by exact L4 [] [_,_,_,_,_] 65536001205 34087041 2097349 6553601237 51185893 59714599 rfl hc hz hl2 hl1) ?_
  refine bY hk 0 rfl rfl (by kernel_rfl) rfl rfl ?_
  refine Rb hk (by decide) ?_
  refine d8 hk 0 rfl rfl (by kernel_rfl) rfl ?_
  refine bY hk 0 rfl rfl (by kernel_rfl) rfl rfl ?_
  refine d8 hk 0 rfl rfl (by kernel_rfl) rfl ?_
  exact hP _ [0] _ _ _ (.mk (RR.drop 8) _ _ _ _ (hRR.drop 8) (by rw[es,Int.toNat_natCast,aA,List.singleton_append,←gW Ai];exact e1) (by rw[ni Ai];exact e2)
   (by rw[eh,←Iw RR 8 hRR Ai];exact f9 _ _) (by rw[List.length_drop];exact iA (L2 [_] [_,_] 190891174960 4225 793778 3254791207 rfl Em (sC (RR.length) 8 (L2 [_] [_] 729093 8321 728242 729088 rfl Em h8))) (L2 [_] [_,_] 137485298800 8257 793778 3254791207 rfl Em (sC (RR.length) 8 (L2 [_] [_] 729093 8321 728242 729088 rfl Em h8)))) rfl) (by rw[List.length_drop];exact L2 [] [_,_,_] 12470 8257 13511 3523226663 rfl hk0 (sC (RR.length) 8 (L2 [_] [_] 729093 8321 728242 729088 rfl Em h8)))
 ·have Ai:RR.length<8:=L2 [_] [_] 524470 8257 728242 729091 rfl Em h8
  have q:=fC (L++aP v c)
  rw[←e2,jo Ai,lA,aL] at q
  rw[dj Ai,aN] at e1
  rw[jo Ai] at e2
  refine aq [0] ?_
  have:=hQ () trivial
  unfold bO Dd at this
  rw[←e1,←e2,lA,aL,←q,←eh,←Em] at this
  exact this
theorem Gm(w:World){b:Bool}(hb:b=true)(base:Heap)(U dU M:Addr)(L:List Nat)(hL:cQ L)(hz:L.length≤100000) :
  F1 w b 4 127 base [.ref U,.int 1] [bO U dU M L] .none [bO U dU M (L++[1])] bN:=by
 refine FX.go ["self","value"] [] rfl rfl rfl (λ_ _=>rfl) (by decide +kernel) ?_
 rintro k hk ow rfl hcl - - hQ
 refine cL hk 0 rfl rfl 120 (by kernel_rfl) rfl ?_
 refine aF hk [0] (nR _) (λbase' _=>nH k.w (hcl.trans hb) base' U dU M L 1 1 (by decide) (by decide) hL hz) aX (nR _) ?_
 exact aq [0] (Jt▸hQ () trivial)
theorem Ab(w:World)(b:Bool)(base:Heap)(U dU M:Addr)(L:List Nat)(h8:L.length%8=0) :
  F1 w b 1 141 base [.ref U] [bO U dU M L] .none [bO U dU M L] bN:=by
 refine FX.go ["self"] [] rfl rfl rfl (λ_=>rfl) (by decide +kernel) ?_
 rintro k hk ow rfl - - - hQ
 refine bY hk 0 rfl rfl (by kernel_rfl) rfl rfl ?_
 refine aO (λhp=>by exact(L2 [] [_] 10 8320 183 46596097 rfl h8 hp).elim) (λhp=>?_)
 exact aq [0] (hQ () trivial)
theorem xP(w:World){b:Bool}(hb:b=true)(base:Heap)(U dU M:Addr)(L:List Nat)(h8:L.length%8=0)(hz:L.length≤100000) :
  F1 w b 2 148 base [.ref U,.bytes (dw L)] [bO U dU M []] .none [bO U dU M L] bN:=by
 refine FX.go ["self","data"] [] rfl rfl rfl (λ_ _=>rfl) (by decide +kernel) ?_
 rintro k hk ow rfl hcl - - hQ
 refine cL hk 0 rfl rfl 141 (by kernel_rfl) rfl ?_
 refine aF hk [0] (nR _) (λbase' _=>Ab k.w _ base' U dU M [] rfl) aX (nR _) ?_
 refine bY hk 0 rfl rfl (by kernel_rfl) rfl rfl ?_
 refine VJ hk 0 2 rfl ?_
 have hfl:=jM _ L (nR _)
 refine VN hk (hcl.trans hb) 0 2 rfl (by rw[dj (l:=[]) (by decide)];simp;exact L2 [] [_,_] 65536001205 8321 6553601221 12469 rfl hz hfl) ?_
 refine aq [0] ?_
 have:=hQ () trivial
 unfold bO Dd at this⊢
 rw[Ga h8,h8] at this
 rw[dj (l:=[]) (by decide)]
 exact this
theorem Dc(w:World)(b:Bool)(base:Heap)(U dU M:Addr)(L:List Nat)(hL:cQ L)(hz:L.length≤100000) :
  F1 w b 1 162 base [.ref U] [bO U dU M L] (.bytes (allB L)) [[]] bN:=by
 refine FX.go ["self"] ["rest"] rfl rfl rfl (λ_=>rfl) (by decide +kernel) ?_
 rintro k hk ow rfl - - - hQ
 have hr:=fC L
 have hfl:=jM _ L (nR _)
 have hlt:dv (bB L)<2^(L.length%8):=by
  have:=kW (l:=bB L) (by unfold bB;exact hL.drop _)
  rwa [hr] at this
 have h8:2^(L.length%8)≤2^8:=Nat.pow_le_pow_right (by decide) (by exact L1 [] [_] 524469 129 524470 rfl (Nat.mod_lt (L.length) (y:=8) (by decide)))
 refine bY hk 0 rfl rfl (by kernel_rfl) rfl rfl ?_
 refine aO (λhp=>?_) (λhp=>?_)
 ·refine bY hk 0 rfl rfl (by kernel_rfl) rfl rfl ?_
  intro t
  refine bY hk 0 rfl rfl (by kernel_rfl) rfl rfl ?_
  refine G6 hk (aj 0 2 rfl) (by exact L2 [] [_,_] 65536001205 8321 6553601221 12469 rfl hz hfl) ?_
  refine nQ (ns:=[((dv (bB L):Nat):Int)]) hk (aj 1 0 rfl) (λn hn=>?_) (Nat.le_of_ble_eq_true rfl) ?_
  ·rw[List.mem_singleton.mp hn];exact⟨L0 [] [_] 46596096 1 rfl,L2 [] [_,_] 1073818737 8321 12470 16778437 rfl hlt h8⟩
  refine jt hk (by simp;exact L2 [] [_,_] 65535935669 8321 6553601221 12469 rfl hz hfl) (aq [] ?_)
  have:=hQ () trivial
  rw[ru,if_neg (λq=>by rw[q] at hr;simp at hr;exact L2 [] [_] 10 8256 720903 46596097 rfl hr hp)] at this
  exact this
 ·intro t
  refine bY hk 0 rfl rfl (by kernel_rfl) rfl rfl ?_
  refine G6 hk (aj 0 2 rfl) (by exact L2 [] [_,_] 65536001205 8321 6553601221 12469 rfl hz hfl) ?_
  refine nQ (ns:=[]) hk (aj 1 0 rfl) (λn hn=>by cases hn) (by decide) ?_
  refine jt hk (by simp;exact L2 [] [_,_] 65536001205 8321 6553601221 12469 rfl hz hfl) (aq [] ?_)
  have q:bB L=[]:=List.length_eq_zero_iff.mp (by exact nA (L2 [] [_,_] 181 8321 12471 50790404 rfl hr hp) (L0 [] [_] 720901 1 rfl))
  have:=hQ () trivial
  rw[ru,if_pos q] at this
  exact this
section
variable{c:Cx}{nm:NM}{n n':Nat}{r:List It}{vs:bR}{xs ys:Vs}{gs:Gs}{a l S x C:Addr}{as:List AV}{v:AV}
theorem VP(hc:c.Ok n nm)(hk:jc c.w C){fr:Bool}(i j:Nat)(hl:(cI gs i)[j]?=some (x,.exc C fr))(h:Go c nm r ([.none]::vs) xs ys gs)(hz:Nat.ble as.length 100=true):D c (.cg::r) ((.ref x::as)::[.bi "ValueError.__init__"]::vs) (mk nm xs) (led c ys gs):=by
 have h:=aB hc h
 obtain⟨pre,post,e⟩:=List.append_of_mem (Dl (c:=c) (ys:=ys) i j hl)
 show CL c.w c.fx (.bi "ValueError.__init__") (.ref x::as) (mk nm xs) (led c ys gs) (λa σ'=>D c r ([a]::vs) (mk nm xs) σ') c.X
 rw[e] at h⊢
 exact J0 hc.ok hk (Nat.le_of_ble_eq_true hz) h
theorem Vy(hc:c.Ok n nm)(hk:jc c.w C)(i j:Nat)(hl:(cI gs i)[j]?=some (x,.exc C true))(h:Go c nm r vs xs ys (DK gs i j (.exc C false))):D c (.sa "reason" :: r) ([.ref x]::[v]::vs) (mk nm xs) (led c ys gs):=by
 have hu:=jG (c:=c) (ys:=ys) (dB:=.exc C false) i j hl
 have h:=aB hc h
 obtain⟨pre,post,e1,e2⟩:=hu.split
 show SA c.w c.fx (.ref x) "reason" v (mk nm xs) (led c ys gs) (λm' σ'=>D c r vs m' σ') c.X
 rw[e1]
 rw[e2] at h
 exact Qf hc.ok hk h
end
theorem Jh(w:World)(b:Bool)(base:Heap)(C x:Addr)(s:Str)(hk:jc w C):F1 w b 2 36 base [.ref x,.str s] [[(x,.exc C true)]] .none [[(x,.exc C false)]] bN:=by
 refine FX.goD ["self","reason"] [] rfl rfl rfl (λs K _ _=>BindsTo.of_defaults rfl (K 29 _ rfl) rfl rfl rfl) (by decide +kernel) ?_
 rintro k hc ow rfl - - - hR
 refine VD hc ?_
 refine VP hc hk 0 0 rfl ?_ rfl
 refine Vy hc hk 0 0 rfl ?_
 exact aq [0] (hR () trivial)
noncomputable def I4(C:Addr)(as:List AV)(_:au)(σ:Led):Prop:=∃ x fr,as=[.ref x]∧(x,.exc C fr)∈σ
section
variable{c:Cx}{nm:NM}{n n':Nat}{r:List It}{vs:bR}{xs ys:Vs}{gs:Gs}{a l S x C:Addr}{as:List AV}{v:AV}
theorem nO{e:Expr}{pos:Pos}(hc:c.Ok n nm)(hk:jc c.w C)(hX:c.X (.ref C))(h:Go c nm [.e e,.dN (I4 C)] vs xs ys gs):D c (.st (.Raise (some e) none pos)::r) vs (mk nm xs) (led c ys gs):=
 K1 hc.ok hk hX (V1.mono (aB hc h) λa σ=>bw λx fr e h=>⟨x,fr,List.head_eq_of_cons_eq e,h⟩)
theorem wF{s:Str}{σ:Led}(hc:c.Ok (n'+1) nm)(hn:Nat.ble 2 n'=true)(hk:jc c.w C):D c [.cg,.dN (I4 C)] ([.str s]::[.ref C]::vs) (mk nm xs) σ:=
 RB hc.ok .nil hk (Nat.le_of_ble_eq_true rfl) λbase' x _=>vL (λvs hv A frs g s' news hb=>Jh c.w _ base' C x s hk vs hv A frs g s' news (hb.le (Nat.le_of_ble_eq_true hn))) (λa μ'=>sU λ_ _ e1 e2=>⟨e1,x,false,rfl,List.mem_append_left _ (e2.symm.subset (.head _))⟩) λ_ h=>h.elim
end
theorem zx(w:World){b:Bool}(hb:b=true)(base:Heap)(W dW:Addr):FX w b 3 232 base [.ref W] [[(W,.inst 256 dW),(dW,.ns [])]] (λ_:Addr×Addr×Addr=>True) (λ_=>.none) (λi=>[[(W,.inst 256 dW),(dW,.ns [("under",.ref i.1)])],bO i.1 i.2.1 i.2.2 []]) bN:=by
 refine FX.go ["self"] [] rfl rfl rfl (λ_=>rfl) (by decide +kernel) ?_
 rintro k hk ow rfl hcl - - hR
 refine iJ hk [] (nR _) (by kernel_rfl) (P:=λ_ _ _=>True) (hd:=λU dU M=>bO U dU M []) (tl:=λ_ _ _=>[]) (λbase' U dU _=>s8 k.w (hcl.trans hb) base' U dU) aX (λ_ _ _=>nR _) λU dU M _=>?_
 refine d8 hk 0 rfl rfl (by kernel_rfl) rfl ?_
 exact aq [0,1] (hR (U,dU,M) trivial)
theorem zA(w:World){b:Bool}(hb:b=true)(base:Heap)(W dW U dU M:Addr)(L:List Nat)(v c:Nat)(hW:bW w base W (.inst 256 dW))(v8:bW w base dW (.ns [("under",.ref U)]))(hv:v<2^c)(hc:c≤32)(hL:cQ L)(hz:L.length≤100000) :
  F1 w b 4 239 base [.ref W,.int v,.int c] [bO U dU M L] .none [bO U dU M (L++aP v c)] bN:=by
 refine FX.go ["self","value","count"] [] rfl rfl rfl (λ_ _ _=>rfl) (by decide +kernel) ?_
 rintro k hk ow rfl hcl rfl-hR
 refine dY hk (.b hW) (.b v8) (by kernel_rfl) rfl rfl ?_
 refine cL hk 0 rfl rfl 120 (by kernel_rfl) rfl ?_
 refine aF hk [0] (nR _) (λbase' _=>nH k.w (hcl.trans hb) base' U dU M L v c hv hc hL hz) aX (nR _) ?_
 exact aq [0] (hR () trivial)
theorem zy(w:World){b:Bool}(hb:b=true)(base:Heap)(W dW U dU M:Addr)(L:List Nat)(hW:bW w base W (.inst 256 dW))(v8:bW w base dW (.ns [("under",.ref U)]))
  (hU:bW w base U (.inst 165 dU))(Vq:bW w base dU (.ns (Dd M L)))(hM:bW w base M (.bytearray (dw L)))(hL:cQ L)(hz:L.length<100000) :
  F1 w b 6 253 base [.ref W] [] (.bytes (allB (L++[1]))) [] bN:=by
 refine FX.go ["self"] ["whole"] rfl rfl rfl (λ_=>rfl) (by decide +kernel) ?_
 rintro k hk ow rfl hcl rfl-hR
 have hfl:=jM _ L (nR _)
 have hL1:cQ (L.take (8*(L.length/8))):=hL.take _
 have hz1:(L.take (8*(L.length/8))).length≤100000:=by rw[lT];exact L2 [] [_,_] 6553601205 8321 6553601222 12469 rfl hz (Nat.min_le_right (8*(L.length/8)) (L.length))
 have hlt:dv (bB L)<2^(L.length%8):=by
  have:=kW (l:=bB L) (by unfold bB;exact hL.drop _)
  rwa [fC] at this
 have hl1:cQ (L++[1]):=hL.append λd hd=>by rw[List.mem_singleton.mp hd];decide
 refine iJ hk [] (by decide) (by kernel_rfl) (P:=λ_ _ _=>True) (hd:=λU dU M=>bO U dU M []) (tl:=λ_ _ _=>[]) (λbase' U dU _=>s8 k.w (hcl.trans hb) base' U dU) aX (λ_ _ _=>nR _) λV dV MV _=>?_
 refine cL hk 0 rfl rfl 148 (by kernel_rfl) rfl ?_
 refine dY hk (.b hW) (.b v8) (by kernel_rfl) rfl rfl ?_
 refine dY hk (.b hU) (.b Vq) (by kernel_rfl) rfl rfl ?_
 refine G6 hk (.b hM) (by exact L2 [] [_,_] 65536001205 8321 6553601222 12469 rfl hz hfl) ?_
 refine aF (n':=2) hk [0] (by decide) (λbase' _=>(qQ L).1▸xP k.w (hcl.trans hb) base' V dV MV (L.take (8*(L.length/8))) (FQ L) hz1) aX (nR _) ?_
 refine cL hk 0 rfl rfl 120 (by kernel_rfl) rfl ?_
 refine dY hk (.b hW) (.b v8) (by kernel_rfl) rfl rfl ?_
 refine dY hk (.b hU) (.b Vq) (by kernel_rfl) rfl rfl ?_
 refine dY hk (.b hW) (.b v8) (by kernel_rfl) rfl rfl ?_
 refine dY hk (.b hU) (.b Vq) (by kernel_rfl) rfl rfl ?_
 refine aF (n':=3) (v:=.none) (g':=[bO V dV MV L]) hk [0] (by decide) (λbase' _=>by
  have:=nH k.w (hcl.trans hb) base' V dV MV _ (dv (bB L)) (L.length%8) hlt (by exact L1 [] [_] 2097333 129 524470 rfl (Nat.mod_lt (L.length) (y:=8) (by decide))) hL1 hz1
  rw[Js L hL] at this
  exact this) aX (nR _) ?_
 refine cL hk 0 rfl rfl 127 (by kernel_rfl) rfl ?_
 refine aF (n':=4) hk [0] (by decide) (λbase' _=>Gm k.w (hcl.trans hb) base' V dV MV L hL (Nat.le_of_lt hz)) aX (nR _) ?_
 refine cL hk 0 rfl rfl 162 (by kernel_rfl) rfl ?_
 refine aF (n':=1) hk [0] (by decide) (λbase' _=>Dc k.w _ base' V dV MV (L++[1]) hl1 (by rw[lA];exact hz)) aX (nR 1) ?_
 exact aq [] (hR () trivial)
noncomputable abbrev eZ(x d:Addr)(o:List Nat)(p:Nat):Led:=[(x,.inst 214 d),(d,.ns [("data",.bytes o),("position",.int p)])]
theorem dM(o:List Nat):o.getLastD 0=o.getD (o.length-1) 0:=by
  cases o with
  | nil=>rfl
  | cons a l=>
    rw[List.getLastD_eq_getLast?,List.getLast?_eq_getElem?,gD]
theorem yD (w:World)(b:Bool)(base:Heap)(x d:Addr)(o:List Nat)(hz:o.length≤100000) :
    FX w b 4 183 base [.ref x,.bytes o] [[(x,.inst 214 d),(d,.ns [])]] (λp=>startP o=some p) (λ_=>.none) (λp=>[eZ x d o p]) (λc=>c=.ref 64∧startP o=none):=by
  refine FX.go ["self","octets"] [] rfl rfl rfl (λ_ _=>rfl) (by decide +kernel) ?_
  rintro k hk ow rfl - - hX hR
  have mD:=dM o
  refine G5 hk ?_
  refine d8 hk 0 rfl rfl (by kernel_rfl) rfl ?_
  refine bY hk 0 rfl rfl (by kernel_rfl) rfl rfl ?_
  refine qP hk (by exact L1 [] [_] 65536001205 129 6553601205 rfl hz) ?_
  refine aO (λh0=>?_) (λh0=>?_)
  · have ho:o=[]:=List.length_eq_zero_iff.mp (by exact nA (L1 [] [_] 181 129 11378 rfl h0) (L1 [] [_] 720901 65 11378 rfl h0))
    refine nO hk (dI _) (hX _ ⟨rfl,by rw[ho];rfl⟩) ?_
    exact wF hk rfl (dI _)
  · have e1:((-1:Int)+o.length).toNat=o.length-1:=jY _
    refine bY hk 0 rfl rfl (by kernel_rfl) rfl rfl ?_
    refine Aq hk (λ_ _=>rfl) (by exact L1 [] [_] 65536001205 129 6553601205 rfl hz) (by exact Or.elim (Int.lt_or_gt_of_ne h0) (λz2=>L1 [] [_] 17197374528 128 11377 rfl z2) (λz2=>L1 [] [_] 17197374528 129 46596097 rfl z2)) (by decide) ?_
    refine aO (λh1=>?_) (λh1=>?_)
    · have h1':o.getLastD 0=0:=by rw[mD,←e1];exact nA (L1 [] [_] 181 129 11378 rfl h1) (L1 [] [_] 720901 65 11378 rfl h1)
      refine nO hk (dI _) (hX _ ⟨rfl,by unfold startP;rw[if_pos h1']⟩) ?_
      exact wF hk rfl (dI _)
    · have h1':o.getLastD 0≠0:=by rw[mD,←e1];exact λq=>Or.elim (Int.lt_or_gt_of_ne h1) (λz2=>L2 [] [_] 10 8256 183 11377 rfl q z2) (λz2=>L2 [] [_] 10 8320 183 46596097 rfl q z2)
      refine bY hk 0 rfl rfl (by kernel_rfl) rfl rfl ?_
      refine qP hk (by exact L1 [] [_] 65536001205 129 6553601205 rfl hz) ?_
      refine jK hk (.of_left (by decide)) ?_
      refine bY hk 0 rfl rfl (by kernel_rfl) rfl rfl ?_
      refine Aq hk (λ_ _=>rfl) (by exact L1 [] [_] 65536001205 129 6553601205 rfl hz) (by exact Or.elim (Int.lt_or_gt_of_ne h0) (λz2=>L1 [] [_] 17197374528 128 11377 rfl z2) (λz2=>L1 [] [_] 17197374528 129 46596097 rfl z2)) (by decide) ?_
      refine d8 hk 0 rfl rfl (by kernel_rfl) rfl ?_
      refine aq [0] ?_
      have hb:Builtin.Int.intBits ((o.getLastD 0:Nat):Int)=Nat.log2 (o.getLastD 0)+1:=by
        unfold Builtin.Int.intBits
        rw[if_neg (by simpa using h1')]
        rfl
      have:=hR (8*(o.length-1)+Nat.log2 (o.getLastD 0)) (by unfold startP;rw[if_neg h1'])
      have e:(8*((o.length:Int)-1)+(Builtin.Int.intBits ((o.getD ((-1:Int)+o.length).toNat 0:Nat):Int):Int)-1)=((8*(o.length-1)+Nat.log2 (o.getLastD 0):Nat):Int):=by
        rw[e1,←mD,hb];exact Or.elim (Int.lt_or_gt_of_ne h0) (λz2=>iA (L1 [] [_,_,_] 16612717623956814175038752102040180426800 961 2956997671 rfl (sC (o.length) 1 (L1 [] [_] 721925 128 11377 rfl z2))) (L1 [] [_,_,_] 1361462750912622018542185989192768882800 1025 3493866535 rfl (sC (o.length) 1 (L1 [] [_] 721925 128 11377 rfl z2)))) (λz2=>iA (L1 [] [_,_,_] 16612717623956814175038752102040180426800 961 2956997671 rfl (sC (o.length) 1 (L1 [] [_] 721925 129 46596097 rfl z2))) (L1 [] [_,_,_] 1361462750912622018542185989192768882800 1025 3493866535 rfl (sC (o.length) 1 (L1 [] [_] 721925 129 46596097 rfl z2))))
      exact e▸this
theorem Dk(w:World)(b:Bool)(base:Heap)(x d:Addr)(o:List Nat)(p:Nat):F1 w b 1 190 base [.ref x] [eZ x d o p] (.int p) [eZ x d o p] bN:=by
 refine FX.go ["self"] [] rfl rfl rfl (λ_=>rfl) (by decide +kernel) ?_
 rintro k hk ow rfl - - - hR
 refine bY hk 0 rfl rfl (by kernel_rfl) rfl rfl ?_
 exact aq [0] (hR () trivial)
theorem KJ(w:World)(b:Bool)(base:Heap)(x d:Addr)(o:List Nat)(p c:Nat)(h:c≤p):F1 w b 2 204 base [.ref x,.int c] [eZ x d o p] .none [eZ x d o (p-c)] bN:=by
 refine FX.go ["self","count"] [] rfl rfl rfl (λ_ _=>rfl) (by decide +kernel) ?_
 rintro k hk ow rfl - - - hR
 refine aF hk [] (nR _) (λbase' _=>iu k.w _ base' _ (Int.natCast_nonneg c)) aX (nR _) ?_
 refine bY hk 0 rfl rfl (by kernel_rfl) rfl rfl ?_
 refine d8 hk 0 rfl rfl (by kernel_rfl) rfl ?_
 exact aq [0] (Int.natCast_sub h▸hR () trivial)
theorem K6(w:World)(b:Bool)(base:Heap)(x d:Addr)(o:List Nat)(p c:Nat)(h:c≤p)(hp:p≤8*o.length)(hc:c≤60)(hl:∀ x∈o,x<256)(hz:o.length≤100000) :
  F1 w b 2 197 base [.ref x,.int c] [eZ x d o p] (.int (rd o p c:Nat)) [eZ x d o p] bN:=by
 refine FX.go ["self","count"] ["here","value"] rfl rfl rfl (λ_ _=>rfl) (by decide +kernel) ?_
 rintro k hk ow rfl - - - hR
 have h60:2^c≤2^60:=Nat.pow_le_pow_right (by decide) hc
 have hlt:=kh o p c
 have em:min (c:Int) (max 0 (p:Int))=c:=by exact Or.elim (Int.le_total (↑c) (max 0 ↑p)) (λz2=>iA (L1 [_] [_] 728240 129 728242 rfl (Int.min_eq_left (a:=↑c) (b:=max 0 ↑p) (L2 [_] [_,_] 732272 4225 12469 793778 rfl h (Int.max_eq_right (a:=0) (b:=↑p) (L0 [] [_] 46596096 1 rfl))))) (L1 [_] [_] 732272 65 728242 rfl (Int.min_eq_left (a:=↑c) (b:=max 0 ↑p) (L2 [_] [_,_] 732272 4225 12469 793778 rfl h (Int.max_eq_right (a:=0) (b:=↑p) (L0 [] [_] 46596096 1 rfl)))))) (λz2=>iA (L1 [_] [_] 728240 129 728242 rfl (Int.min_eq_left (a:=↑c) (b:=max 0 ↑p) (L2 [_] [_,_] 732272 4225 12469 793778 rfl h (Int.max_eq_right (a:=0) (b:=↑p) (L0 [] [_] 46596096 1 rfl))))) (L1 [_] [_] 732272 65 728242 rfl (Int.min_eq_left (a:=↑c) (b:=max 0 ↑p) (L2 [_] [_,_] 732272 4225 12469 793778 rfl h (Int.max_eq_right (a:=0) (b:=↑p) (L0 [] [_] 46596096 1 rfl))))))
 refine aF hk [] (nR _) (λbase' _=>iu k.w _ base' _ (Int.natCast_nonneg c)) aX (nR _) ?_
 refine bY hk 0 rfl rfl (by kernel_rfl) rfl rfl ?_
 refine aO (λh0=>?_) (λh0=>?_)
 ·refine bY hk 0 rfl rfl (by kernel_rfl) rfl rfl ?_
  refine bY hk 0 rfl rfl (by kernel_rfl) rfl rfl ?_
  refine bY hk 0 rfl rfl (by kernel_rfl) rfl rfl ?_
  refine qP hk (by exact L1 [] [_] 65536001205 129 6553601205 rfl hz) ?_
  refine aF (n':=1) (v:=.int (rd o p c:Nat)) (g':=[]) hk [] (nR _) (λbase' _=>by rw[em,←Int.natCast_sub h];exact Aj k.w _ base' o (p-c) c hl (by exact L2 [] [_,_,_,_] 225507552293 8321 55055589 59517991 rfl hp (sC p c (L1 [] [_,_] 12469 129 12469 rfl h))) hz) aX (nR _) ?_
  refine kE hk (by exact L1 [_] [_] 191960907776 129 728242 rfl em) (by exact L1 [_] [_] 17179869499300912 65 728242 rfl em) (by rw[Int.natAbs_natCast];exact L2 [] [_,_] 1208925819614629174716598 8321 75557863725914323420357 12470 rfl h60 hlt) (jL (y:=((rd o p c:Nat):Int)) (by rw[em,Int.sub_self];exact Int.mul_one _) ?_)
  exact aq [0] (hR () trivial)
 ·have hc0:c=0:=nA (L2 [_] [_] 181 8257 728242 720900 rfl em h0) (L0 [] [_] 720901 1 rfl)
  subst hc0
  refine kE hk (by exact L1 [_] [] 12094657462272 129 7346 rfl em) (by exact L1 [_] [] 1099511647908666416 65 7346 rfl em) (by decide) (jL (y:=((rd o p 0:Nat):Int)) (by rw[Int.zero_mul];unfold rd;rw[List.take_zero];rfl) ?_)
  exact aq [0] (hR () trivial)
theorem yI(w:World)(b:Bool)(base:Heap)(x d:Addr)(o:List Nat)(p c:Nat)(hp:p≤8*o.length)(hc:c≤60)(hl:∀ x∈o,x<256)(hz:o.length≤100000) :
  FX w b 4 211 base [.ref x,.int c] [eZ x d o p] (λ_:Unit=>c≤p) (λ_=>.int (rd o p c:Nat)) (λ_=>[eZ x d o (p-c)]) (λk=>k=.ref 52∧p<c):=by
 refine FX.go ["self","count"] ["value"] rfl rfl rfl (λ_ _=>rfl) (by decide +kernel) ?_
 rintro k hk ow rfl - - hX hR
 refine aF hk [] (by decide) (λbase' _=>iu k.w _ base' _ (Int.natCast_nonneg c)) aX (nR _) ?_
 refine bY hk 0 rfl rfl (by kernel_rfl) rfl rfl ?_
 refine aO (λh0=>?_) (λh0=>?_)
 ·refine aO (λh1=>?_) (λh1=>by exact(L2 [] [_,_] 10 8320 50801777 50790404 rfl h0 h1).elim)
  refine nO hk (rT _) (hX _ ⟨rfl,by exact L1 [] [_,_] 12470 129 50801777 rfl h0⟩) ?_
  exact wF hk rfl (rT _)
 ·have h:c≤p:=L1 [] [_,_] 12469 129 46608500 rfl h0
  refine cL hk 0 rfl rfl 197 (by kernel_rfl) rfl ?_
  refine aF hk [0] (by decide) (λbase' _=>K6 k.w _ base' x d o p c h hp hc hl hz) aX (nR _) ?_
  refine cL hk 0 rfl rfl 204 (by kernel_rfl) rfl ?_
  refine aF hk [0] (by decide) (λbase' _=>KJ k.w _ base' x d o p c h) aX (nR _) ?_
  exact aq [0] (hR () h)
structure TabOk(t:Tab):Prop where
 log:t.log=5∨t.log=6
 top:∀ i,i<t.z→t.bs i+2^t.wd i≤t.z
 cs:t.cs.length≤7
 ahead:∀ s,t.known s→∀ st,st<t.z→t.aQ s st<t.z∧t.sy (t.aQ s st)=s∧t.bs (t.aQ s st)≤st∧st<t.bs (t.aQ s st)+2^t.wd (t.aQ s st)
 least:∀ s,t.known s→t.aZ s<t.z∧t.sy (t.aZ s)=s∧(t.own s)[0]?=some (t.aZ s)
 up:∀ s,t.known s→∀ st,st<t.z→∀ k,(∀ j,j<k→2*(t.own s).length≤(st+t.z)/2^j)→(st+t.z)/2^k<2*(t.own s).length→
  (t.own s).length≤(st+t.z)/2^k∧(t.own s)[(st+t.z)/2^k-(t.own s).length]?=some (t.aQ s st)∧(st+t.z)%2^k=st-t.bs (t.aQ s st)∧k=t.wd (t.aQ s st)
 own:∀ s,t.known s→0<(t.own s).length
 z7:∀ c∈t.cs,c≠(t.z:Int)
theorem Tab.fX(t:Tab):t.syms.length=t.z:=by unfold Tab.syms dR fj;simp
theorem Tab.kZ{t:Tab}(g:TabOk t):t.z≤64∧32≤t.z:=by
 unfold Tab.z
 rcases g.log with h|h<;>rw[h]<;>decide
theorem Tab.je{t:Tab}(g:TabOk t){i:Nat}(h:i<t.z):t.wd i≤6:=by
 have h1:=g.top i h
 have h2:=(Tab.kZ g).1
 apply Nat.le_of_not_lt
 intro q
 have:2^7≤2^t.wd i:=Nat.pow_le_pow_right (by decide) q
 exact L3 [] [_,_,_] 10 532608 55323685 4195541 226673591177742970388501 rfl h1 h2 this
noncomputable def isNm:Expr→Bool|.Name ..=>true|_=>false
theorem lR {ts:List Expr}{k p}{value:Expr}{env:Env} (h:ts.all isNm=false):swappedStores [.Tuple ts k p] value env=pure none:=by
  have key:∀ (env:Env) (line:Nat) (l:List Expr),l.all isNm=false→(l.filterMap λ| .Name id pos=>if env.kindOf id == some .local&&pos.line == line then some id else none|_=>none).length<l.length:=by
    intro env line l
    induction l with
    | nil=>intro h;cases h
    | cons e r ih=>
      intro h
      rw[List.filterMap_cons]
      have hle:(r.filterMap λ| .Name id pos=>if env.kindOf id == some .local&&pos.line == line then some id else none|_=>none).length≤r.length:=List.length_filterMap_le _ _
      rw[List.all_cons,Bool.and_eq_false_iff] at h
      split
      · rw[List.length_cons];exact Uh hle
      · rename_i hh
        rcases h with h|h
        · exfalso
          cases e<;>simp[isNm] at h<;>simp at hh
        · have:=ih h
          rw[List.length_cons,List.length_cons];exact L1 [] [_,_] 70575443684390 129 12470 rfl this
  unfold swappedStores
  cases value with
  | Tuple vs _ _=>
    dsimp only
    split
    · rfl
    · split
      · rfl
      · have:=key env ((ts.head?.map (·.pos.line)).getD 0) ts h
        rw[if_pos]
        rw[Bool.or_eq_true];left
        exact bne_iff_ne.mpr (Nat.ne_of_lt this)
  | _=>rfl
noncomputable def nL(l:List Nat):List AV:=iL (l.map λ(n:Nat)=>(n:Int))
theorem iw{l:List Nat}{i:Nat}(h:i<l.length):(nL l)[(i:Int).toNat]?=some (.int ((l.getD i 0:Nat):Int)):=by
 unfold nL iL
 rw[Int.toNat_natCast,List.map_map,List.getElem?_map,gE h,gD,gE h]
 rfl
theorem Ii{z i:Nat}(f:Nat→Nat)(h:i<z):(nL ((List.range z).map f))[(i:Int).toNat]?=some (.int ((f i:Nat):Int)):=by
 rw[iw (by simpa using h)]
 simp[h]
theorem aM(l:List Nat):(nL l).length=l.length:=by simp[nL,iL]
theorem cD(l:List Nat)(a:Nat):nL l++[.int (a:Int)]=nL (l++[a]):=by simp[nL,iL]
noncomputable abbrev FT(ys yc yb ya jT:Addr)(log z:Nat):List (Str×AV):=
 [("symbols",.ref ys),("counts",.ref yc),("log",.int (log:Nat)),("size",.int (z:Nat)),("bits",.ref yb),("bases",.ref ya),("states",.ref jT)]
structure TabAt(P:Addr→AO→Prop)(T d ys yc yb ya jT:Addr)(sts:List Addr)(t:Tab):Prop where
 hT:P T (.inst 320 d)
 hd:P d (.ns (FT ys yc yb ya jT t.log t.z))
 hs:P ys (.list (nL t.syms))
 hc:P yc (.list (iL t.cs))
 hb:P yb (.list (nL ((List.range t.z).map t.wd)))
 ha:P ya (.list (nL ((List.range t.z).map t.bs)))
 hst:P jT (.list (sts.map .ref))
 hl:sts.length=t.cs.length
 hown:∀ s a,sts[s]?=some a→P a (.list (nL (t.own s)))
noncomputable def bL(P:Addr→AO→Prop)(T:Addr)(t:Tab):Prop:=∃ d ys yc yb ya jT sts,TabAt P T d ys yc yb ya jT sts t
theorem bL.imp{P P':Addr→AO→Prop}{T t} (h:bL P T t) (k:∀ a ao,P a ao→P' a ao):bL P' T t:=by
 refine fU (λd ys yc yb ya jT sts h=>?_) h
 exact⟨d,ys,yc,yb,ya,jT,sts,k _ _ h.hT,k _ _ h.hd,k _ _ h.hs,k _ _ h.hc,k _ _ h.hb,k _ _ h.ha,k _ _ h.hst,h.hl,λs a e=>k _ _ (h.hown s a e)⟩
theorem bL.base{w:World}{base base':Heap}{T t} (h:bL (bW w base) T t) (k:base.StaysIn base'):bL (bW w base') T t:=h.imp λ_ _ q=>q.keeps k
noncomputable abbrev fL(x d T:Addr)(st:Nat):Led:=[(x,.inst 369 d),(d,.ns [("table",.ref T),("state",.int st)])]
theorem pX(w:World)(b:Bool)(base:Heap)(x d T:Addr):F1 w b 1 338 base [.ref x,.ref T] [[(x,.inst 369 d),(d,.ns [])]] .none [fL x d T 0] bN:=by
 refine FX.go ["self","table"] [] rfl rfl rfl (λ_ _=>rfl) (by decide +kernel) ?_
 rintro k hk ow rfl - - - hR
 refine pO hk (lR rfl) (by decide) rfl rfl ?_
 refine d8 hk 0 rfl rfl (by kernel_rfl) rfl ?_
 refine d8 hk 0 rfl rfl (by kernel_rfl) rfl ?_
 exact aq [0] (hR () trivial)
theorem lQ(w:World)(b:Bool)(base:Heap)(x d T:Addr)(st:Nat)(t:Tab)(g:TabOk t)(hT:bL (bW w base) T t)(h:st<t.z) :
  F1 w b 1 352 base [.ref x] [fL x d T st] (.int (t.sy st:Nat)) [fL x d T st] bN:=by
 obtain⟨dT,ys,yc,yb,ya,jT,sts,⟨h1,h2,h3,h4,h5,h6,h7,h8,h9⟩⟩:=hT
 refine FX.go ["self"] [] rfl rfl rfl (λ_=>rfl) (by decide +kernel) ?_
 rintro k hk ow rfl-rfl-hR
 have hz:=(Tab.kZ g).1
 refine bY hk 0 rfl rfl (by kernel_rfl) rfl rfl ?_
 refine dY hk (.b h1) (.b h2) (by kernel_rfl) rfl rfl ?_
 refine bY hk 0 rfl rfl (by kernel_rfl) rfl rfl ?_
 refine aU hk (λ_ _=>rfl) (.b h3) (by exact L0 [] [_] 46596096 1 rfl) (by exact L2 [] [_,_] 38685626227668133590674545 8321 12470 4195525 rfl h hz) (iw (by rw[t.fX];exact h)) ?_
 exact aq [0] (hR () trivial)
theorem yR(w:World)(b:Bool)(base:Heap)(x d T:Addr)(st:Nat)(t:Tab)(g:TabOk t)(hT:bL (bW w base) T t)(h:st<t.z) :
  F1 w b 1 359 base [.ref x] [fL x d T st] (.int (t.wd st:Nat)) [fL x d T st] bN:=by
 obtain⟨dT,ys,yc,yb,ya,jT,sts,⟨h1,h2,h3,h4,h5,h6,h7,h8,h9⟩⟩:=hT
 refine FX.go ["self"] [] rfl rfl rfl (λ_=>rfl) (by decide +kernel) ?_
 rintro k hk ow rfl-rfl-hR
 have hz:=(Tab.kZ g).1
 refine bY hk 0 rfl rfl (by kernel_rfl) rfl rfl ?_
 refine dY hk (.b h1) (.b h2) (by kernel_rfl) rfl rfl ?_
 refine bY hk 0 rfl rfl (by kernel_rfl) rfl rfl ?_
 refine aU hk (λ_ _=>rfl) (.b h5) (by exact L0 [] [_] 46596096 1 rfl) (by exact L2 [] [_,_] 38685626227668133590674545 8321 12470 4195525 rfl h hz) (Ii t.wd h) ?_
 exact aq [0] (hR () trivial)
theorem rE(w:World)(b:Bool)(base:Heap)(x d T k e:Addr)(st:Nat)(o:List Nat)(p:Nat)(t:Tab)(g:TabOk t)(hT:bL (bW w base) T t)(hp:p≤8*o.length)(hl:∀ x∈o,x<256)(hz:o.length≤100000) :
  FX w b 5 345 base [.ref x,.ref k] [fL x d T st,eZ k e o p] (λ_:Unit=>t.log≤p) (λ_=>.none) (λ_=>[fL x d T (rd o p t.log),eZ k e o (p-t.log)]) (λc=>c=.ref 52∧p<t.log):=by
 obtain⟨dT,ys,yc,yb,ya,jT,sts,⟨h1,h2,h3,h4,h5,h6,h7,h8,h9⟩⟩:=hT
 refine FX.go ["self","back"] [] rfl rfl rfl (λ_ _=>rfl) (by decide +kernel) ?_
 rintro k hk ow rfl-rfl hX hR
 have bM:t.log≤6:=by rcases g.log with h|h<;>(first|exact L1 [] [_] 393397 129 327863 rfl h|exact L1 [] [_] 393397 129 393399 rfl h)
 refine cL hk 1 rfl rfl 211 (by kernel_rfl) rfl ?_
 refine bY hk 0 rfl rfl (by kernel_rfl) rfl rfl ?_
 refine dY hk (.b h1) (.b h2) (by kernel_rfl) rfl rfl ?_
 refine bD hk [1] (by decide) (λbase' _=>yI k.w _ base' _ e o p t.log hp (by exact L1 [] [_] 3932341 129 393397 rfl bM) hl hz) hX (λ_=>nR _) λ_ h=>?_
 refine d8 hk 0 rfl rfl (by kernel_rfl) rfl ?_
 exact aq [0,1] (hR () h)
theorem BW(w:World)(b:Bool)(base:Heap)(x d T k e:Addr)(st:Nat)(o:List Nat)(p:Nat)(t:Tab)(g:TabOk t)(hT:bL (bW w base) T t)(hst:st<t.z)(hp:p≤8*o.length)(hl:∀ x∈o,x<256)(hz:o.length≤100000) :
  FX w b 5 366 base [.ref x,.ref k] [fL x d T st,eZ k e o p] (λ_:Unit=>t.wd st≤p) (λ_=>.none) (λ_=>[fL x d T (t.bs st+rd o p (t.wd st)),eZ k e o (p-t.wd st)]) (λc=>c=.ref 52∧p<t.wd st):=by
 have hT0:=hT
 obtain⟨dT,ys,yc,yb,ya,jT,sts,⟨h1,h2,h3,h4,h5,h6,h7,h8,h9⟩⟩:=hT
 refine FX.go ["self","back"] [] rfl rfl rfl (λ_ _=>rfl) (by decide +kernel) ?_
 rintro k hk ow rfl-rfl hX hR
 have hzt:=(Tab.kZ g).1
 have hw:=Tab.je g hst
 refine bY hk 0 rfl rfl (by kernel_rfl) rfl rfl ?_
 refine dY hk (.b h1) (.b h2) (by kernel_rfl) rfl rfl ?_
 refine bY hk 0 rfl rfl (by kernel_rfl) rfl rfl ?_
 refine aU hk (λ_ _=>rfl) (.b h6) (by exact L0 [] [_] 46596096 1 rfl) (by exact L2 [] [_,_] 38685626227668133590674545 8321 12470 4195525 rfl hst hzt) (Ii t.bs hst) ?_
 refine cL hk 1 rfl rfl 211 (by kernel_rfl) rfl ?_
 refine cL hk 0 rfl rfl 359 (by kernel_rfl) rfl ?_
 refine aF hk [0] (by decide) (λbase' aK=>yR k.w _ base' x d T st t g (hT0.base aK.keep) hst) aX (nR _) ?_
 refine bD hk [1] (by decide) (λbase' _=>yI k.w _ base' _ e o p (t.wd st) hp (by exact L1 [] [_] 3932341 129 393397 rfl hw) hl hz) hX (λ_=>nR _) λ_ h=>?_
 refine d8 hk 0 rfl rfl (by kernel_rfl) rfl ?_
 exact aq [0,1] (Int.natCast_add _ _▸hR () h)
section
variable{c:Cx}{nm:NM}{n n':Nat}{r:List It}{vs:bR}{xs ys:Vs}{gs:Gs}
theorem Io{t:Expr}{b o l:List Stmt}{p:Pos}(hc:c.Ok n nm)(I:Vs→Vs→Gs→Prop)
    (h1:∀ P:au→Led→Prop,(∀ is xs' ys' gs',I xs' ys' (gets gs' is)→P (mk nm xs') (led c ys' gs'))→Go c nm [.t t,.ifs b o,.bot P] vs xs ys gs)
    (h2:∀ xs ys gs,I xs ys gs→Go c nm (.ss l::r) vs xs ys gs):D c (.ss (.If t b o p::l)::r) vs (mk nm xs) (led c ys gs):=by
  have h:=aB hc (h1 (λm σ=>∃ xs ys gs ρ,I xs ys gs∧m=mk nm xs∧σ.Perm (led c ys gs++ρ)) λis xs' ys' gs' h=>⟨xs',ys',_,flat (cuts gs' is),h,rfl,by
    unfold led
    rw[aA]
    exact(gR is gs').append_left _⟩)
  have h':S1 c.w c.fx (.If t b o p) (mk nm xs) (led c ys gs) _ (Out c) c.X:=Sd (B1.mono h λ_ _ h=>jy h id id)
  refine qt λs H=>aV (h' s H) (λf s' ⟨m',σ',H',q⟩=>?_) λ_ _ e=>e
  cases f with
  | next=>
    obtain⟨xs',ys',gs',ρ,hi,rfl,p⟩:=q
    exact⟨_,_,H'.eX p,aB hc (h2 xs' ys' gs' hi)⟩
  | ret v=>exact⟨m',σ',H',q⟩
  | brk=>exact q.elim
  | cont=>exact q.elim
end
noncomputable def K2(c:Cx)(op1 op2:CmpOp)(r2:Expr)(r:List It)(vs:bR)(as:List AV)(m:au)(σ:Led):Prop:=
 ∃ a b,as=[a,b]∧C2 c.w c.fx op1 a b m σ (λq σ'=>br q (D c (.e r2::.cmp op2::r) ([b]::vs) m σ') (D c r ([.bool false]::vs) m σ')) c.X
section
variable{c:Cx}{nm:NM}{n n':Nat}{r:List It}{vs:bR}{xs ys:Vs}{gs:Gs}{l r1 r2 v:Expr}{op1 op2:CmpOp}{pos p:Pos}{ts:List Expr}{k:Nat}
theorem Rg(hc:c.Ok n nm)(hm:behindInMarks op2 r2=false)(h:∀ K:List AV→au→Led→Prop,(∀ as m σ,K2 c op1 op2 r2 r vs as m σ→K as m σ)→Go c nm [.e l,.e r1,.nl,.cons,.cons,.dN K] [] xs ys gs):D c (.e (.Compare l [op1,op2] [r1,r2] pos)::r) vs (mk nm xs) (led c ys gs):=
 Nu hm (V1.mono (aB hc (h (K2 c op1 op2 r2 r vs) λ_ _ _ q=>q)) λa σ₁ h₁=>V1.mono h₁ λb σ₂=>bw λa' b' e h=>λva vb ha hb=>by cases e;exact V1.mono (h va vb ha hb) λc σ'=>aD λq e z=>⟨q,e,jy z id id⟩)
theorem DY(hc:c.Ok n nm)(hm:behindInMarks op2 r2=false)(h:∀ K:List AV→au→Led→Prop,(∀ as m σ,K2 c op1 op2 r2 r vs as m σ→K as m σ)→Go c nm [.e l,.e r1,.nl,.cons,.cons,.dN K] [] xs ys gs):D c (.t (.Compare l [op1,op2] [r1,r2] pos)::r) vs (mk nm xs) (led c ys gs):=
 Kv hm (V1.mono (aB hc (h (K2 c op1 op2 r2 r vs) λ_ _ _ q=>q)) λa σ₁ h₁=>V1.mono h₁ λb σ₂=>bw λa' b' e h=>λva vb ha hb=>by cases e;exact V1.mono (h va vb ha hb) λc σ'=>aD λq e z=>⟨q,e,jy z id id⟩)
theorem M7{K:List AV→au→Led→Prop}{x y:Int}(hc:c.Ok n nm)(hK:∀ as m σ,K2 c .LtE op2 r2 r vs as m σ→K as m σ)(h:br (decide (x≤y)) (Go c nm (.e r2::.cmp op2::r) ([.int y]::vs) xs ys gs) (Go c nm r ([.bool false]::vs) xs ys gs)):D c [.dN K] [[.int x,.int y]] (mk nm xs) (led c ys gs):=
 hK _ _ _ ⟨_,_,rfl,S8 hc.ok (iY h (aB hc) (aB hc))⟩
theorem Ax(hc:c.Ok n nm)(q:oM v=false)(h2:swappedStores [.Tuple ts k p] v c.fx.env=pure none)(h:Go c nm (.e v::.asg (.Tuple ts k p)::r) vs xs ys gs):D c (.st (.Assign [.Tuple ts k p] v pos)::r) vs (mk nm xs) (led c ys gs):=
 jA (iQ q _ _ _) h2 rfl (aB hc h)
theorem ZP{s:Stmt}{l:List Stmt}(hc:c.Ok n nm)(h:Go c nm (.st s::.ss l::r) vs xs ys gs):D c (.ss (s::l)::r) vs (mk nm xs) (led c ys gs):=qt (aB hc h)
theorem zu{q:Bool}{A B:Prop}(e:q=false)(h:B):br q A B:=by subst e;exact h
theorem aae{q:Bool}{A B:Prop}(e:q=true)(h:A):br q A B:=by subst e;exact h
theorem JC{a i:AV}{v s:Expr}{gs':Gs}(hc:c.Ok n nm)(is:List Nat)(e:gets gs is=gs')(h:Go c nm (.sub v s::r) ([i]::[a]::vs) xs ys gs'):D c (.sub v s::r) ([i]::[a]::vs) (mk nm xs) (led c ys gs):=by
 subst e
 have h:GI c.w c.fx v s a i (mk nm xs) (led c ys (gets gs is)) (λa σ'=>D c r ([a]::vs) (mk nm xs) σ') c.X:=aB hc h
 exact λvo vi ho hi s H=>h vo vi ho hi s (H.eX (ρ:=flat (cuts gs is)) (by unfold led;rw[aA];exact(gR is gs).append_left _))
theorem iM{a b:AV}(e:a=b)(h:Go c nm r ([b]::vs) xs ys gs):Go c nm r ([a]::vs) xs ys gs:=e▸h
theorem iz{v s:Expr}{l S:Addr}{ls ks:List AV}{lo hi st:Option Int}(hc:c.Ok n nm)(hl:Has c.w c.fx (led c ys gs) l (.list ls))(hs:Has c.w c.fx (led c ys gs) S (.slice lo hi st))(h0:st≠some 0)(hz:ls.length≤1000000)(e:gO ls lo hi st=ks)
  (h:∀ R,Go c nm r ([.ref R]::vs) xs ys (gs++[[(R,.list ks)]])):D c (.sub v s::r) ([.ref S]::[.ref l]::vs) (mk nm xs) (led c ys gs):=M8 hc hl hs h0 hz (e▸h)
end
noncomputable def Turn(k:Nat)(y f y1 f1 yc fc yo fo:Addr):Prop:=k%2=0∧yc=y∧fc=f∧yo=y1∧fo=f1∨k%2=1∧yc=y1∧fc=f1∧yo=y∧fo=f
theorem Turn.next{k:Nat}{y f y1 f1 yc fc yo fo:Addr}(h:Turn k y f y1 f1 yc fc yo fo):Turn (k+1) y f y1 f1 yo fo yc fc:=by
 rcases h with⟨h,h1,h2,h3,h4⟩|⟨h,h1,h2,h3,h4⟩
 ·exact .inr ⟨by exact Y4 h,h3,h4,h1,h2⟩
 ·exact .inl ⟨by exact Y0 h,h3,h4,h1,h2⟩
theorem Turn.at{k:Nat}{y f y1 f1 yc fc yo fo:Addr}(h:Turn k y f y1 f1 yc fc yo fo){i:Int}{j:Nat}(e:i=j)(p:j%2=k%2):0≤i.fmod 2∧i.fmod 2<2^63∧([.ref y,.ref y1]:List AV)[(i.fmod 2).toNat]?=some (.ref yc):=by
 have e2:i.fmod 2=((k%2:Nat):Int):=by rw[e,←p];exact oO j 2
 rw[e2]
 refine⟨Int.natCast_nonneg _,by exact L1 [] [_] 38685626227668133590674545 129 131254 rfl (Nat.mod_lt k (y:=2) (by decide)),?_⟩
 rw[Int.toNat_natCast]
 rcases h with⟨h,rfl,-⟩|⟨h,rfl,-⟩<;>rw[h]<;>rfl
theorem Turn.first(k:Nat)(y f y1 f1:Addr):∃ is yc fc yo fo,Turn k y f y1 f1 yc fc yo fo∧∀ (g0 g1 g4:Led) (F:Addr→Addr→Led),gets [g0,g1,F y f,F y1 f1,g4] is=[g0,g1,F yc fc,F yo fo,g4]:=by
 rcases Nat.mod_two_eq_zero_or_one k with h|h
 ·exact⟨[0,1,2,3,4],y,f,y1,f1,.inl ⟨h,rfl,rfl,rfl,rfl⟩,λ_ _ _ _=>rfl⟩
 ·exact⟨[0,1,3,2,4],y1,f1,y,f,.inr ⟨h,rfl,rfl,rfl,rfl⟩,λ_ _ _ _=>rfl⟩
theorem Turn.other{k:Nat}{y f y1 f1 yc fc yo fo:Addr}(h:Turn k y f y1 f1 yc fc yo fo){i:Int}(e:i=k):0≤1-i.fmod 2∧1-i.fmod 2<2^63∧([.ref y,.ref y1]:List AV)[(1-i.fmod 2).toNat]?=some (.ref yo):=by
 have e2:i.fmod 2=((k%2:Nat):Int):=by rw[e];exact oO k 2
 rw[e2]
 refine⟨by exact L1 [] [_] 12215155621888 129 131254 rfl (Nat.mod_lt k (y:=2) (by decide)),by exact L0 [] [_] 10141204801825835211993787727921 1 rfl,?_⟩
 rcases h with⟨h,-,-,rfl,-⟩|⟨h,-,-,rfl,-⟩<;>rw[h]<;>rfl
theorem Tab.Qo(t:Tab)(s:Nat):(t.own s).length≤t.z:=by
 unfold Tab.own
 have:=List.length_filter_le (λi=>t.sy i == s) (List.range t.z)
 rwa [List.length_range] at this
theorem rI{l:List Nat}{i a:Nat}(h:l[i]?=some a):(nL l)[i]?=some (.int (a:Int)):=by
 unfold nL iL
 rw[List.map_map,List.getElem?_map,h];rfl
theorem TabAt.row{P:Addr→AO→Prop}{T d ys yc yb ya jT:Addr}{sts:List Addr}{t:Tab}(h:TabAt P T d ys yc yb ya jT sts t)(g:TabOk t){s:Nat}(hs:t.known s) :
  ∃ a,(sts.map AV.ref)[(s:Int).toNat]?=some (.ref a)∧P a (.list (nL (t.own s)))∧(s:Int)<((sts.map AV.ref).length:Nat)∧(sts.map AV.ref).length≤7:=by
 have hlt:s<sts.length:=by rw[h.hl];exact hs.1
 have hc7:=g.cs
 refine⟨sts[s],by rw[Int.toNat_natCast,List.getElem?_map,gE hlt];rfl,h.hown s _ (gE hlt),?_,?_⟩
 ·rw[List.length_map];exact L1 [] [_,_] 50801777 129 12470 rfl hlt
 ·rw[List.length_map,h.hl];exact hc7
theorem QZ(w:World)(b:Bool)(base:Heap)(T:Addr)(s:Nat)(t:Tab)(g:TabOk t)(hT:bL (bW w base) T t)(hs:t.known s) :
  F1 w b 1 303 base [.ref T,.int s] [] (.bool true) [] bN:=by
 refine fU (λdT ys yc yb ya jT sts hT=>?_) hT
 refine pG (λa e1 e2 e3 e4=>?_) (hT.row g hs)
 have h0:=g.own s hs
 have e5:(!decide ((t.own s).map (λ(n:Nat)=>(n:Int))=[]))=true:=by
  rw[decide_eq_false];rfl
  intro q;rw[List.map_eq_nil_iff.mp q] at h0;cases h0
 refine FX.go ["self","symbol"] [] rfl rfl rfl (λ_ _=>rfl) (by decide +kernel) ?_
 rintro k hk ow rfl-rfl-hR
 refine Rg hk rfl λK hK=>M7 hk hK ?_
 refine aO (λh0=>?_) (λh0=>absurd (Int.natCast_nonneg s) h0)
 refine dY hk (.b hT.hT) (.b hT.hd) (by kernel_rfl) rfl rfl ?_
 refine bC hk (.b hT.hst) (Nat.le_trans e4 (by decide)) ?_
 refine aO (λh0=>?_) (λh0=>absurd e3 h0)
 refine dY hk (.b hT.hT) (.b hT.hd) (by kernel_rfl) rfl rfl ?_
 refine aU hk (λ_ _=>rfl) (.b hT.hst) (Int.natCast_nonneg s) (by exact L2 [] [_,_] 38685626227668133590674545 8321 50801777 458949 rfl e3 e4) e1 ?_
 intro R
 refine wC (is:=(t.own s).map λ(n:Nat)=>(n:Int)) (js:=[]) hk (.b e2) (aj 0 0 rfl) ?_
 exact aq [] (by rw[e5];exact hR () trivial)
theorem JG(w:World)(b:Bool)(base:Heap)(T:Addr)(s:Nat)(t:Tab)(g:TabOk t)(hT:bL (bW w base) T t)(hs:t.known s) :
  F1 w b 1 310 base [.ref T,.int s] [] (.int (t.aZ s:Nat)) [] bN:=by
 refine fU (λdT ys yc yb ya jT sts hT=>?_) hT
 refine pG (λa e1 e2 e3 e4=>?_) (hT.row g hs)
 refine FX.go ["self","symbol"] [] rfl rfl rfl (λ_ _=>rfl) (by decide +kernel) ?_
 rintro k hk ow rfl-rfl-hR
 refine dY hk (.b hT.hT) (.b hT.hd) (by kernel_rfl) rfl rfl ?_
 refine aU hk (λ_ _=>rfl) (.b hT.hst) (Int.natCast_nonneg s) (by exact L2 [] [_,_] 38685626227668133590674545 8321 50801777 458949 rfl e3 e4) e1 ?_
 refine aU hk (λ_ _=>rfl) (.b e2) (by decide) (by decide) (rI (g.least s hs).2.2) ?_
 exact aq [] (hR () trivial)
inductive AhI (T:Addr) (s st:Nat) (t:Tab) (o:Addr):Nat→Vs→Vs→Gs→Prop
  | mk (i k:Nat) (wi bi:Int):k=8-i→wi=((st+t.z:Nat):Int)→bi=i→(∀ j,j<i→2*(t.own s).length≤(st+t.z)/2^j)→
    AhI T s st t o k [some (.ref T),some (.int s),some (.int st),some (.ref o),some (.int wi),some (.int bi)] [] []
theorem Kd(w:World)(b:Bool)(base:Heap)(T:Addr)(s st:Nat)(t:Tab)(g:TabOk t)(hT:bL (bW w base) T t)(hs:t.known s)(hst:st<t.z) :
  FX w b 1 317 base [.ref T,.int s,.int st] [] (λ_:Addr=>True) (λx=>.ref x) (λx=>[[(x,.tuple [.int (t.aQ s st:Nat),.int (st-t.bs (t.aQ s st):Nat),.int (t.wd (t.aQ s st):Nat)])]]) bN:=by
 refine fU (λdT ys yc yb ya jT sts hT=>?_) hT
 refine pG (λa e1 e2 e3 e4=>?_) (hT.row g hs)
 have hz:=(Tab.kZ g).1
 have hol:=t.Qo s
 have hle:(nL (t.own s)).length=(t.own s).length:=aM _
 refine FX.go ["self","symbol","state"] ["own","whole","bits"] rfl rfl rfl (λ_ _ _=>rfl) (by decide +kernel) ?_
 rintro k hk ow rfl-rfl-hR
 refine dH hk ["own","whole","bits"] (by decide +kernel) (by decide) rfl ?_
 refine dY hk (.b hT.hT) (.b hT.hd) (by kernel_rfl) rfl rfl ?_
 refine aU hk (λ_ _=>rfl) (.b hT.hst) (Int.natCast_nonneg s) (by exact L2 [] [_,_] 38685626227668133590674545 8321 50801777 458949 rfl e3 e4) e1 ?_
 refine dY hk (.b hT.hT) (.b hT.hd) (by kernel_rfl) rfl rfl ?_
 refine iy hk ow (AhI T s st t a) 8 (.mk 0 8 _ _ rfl (Int.natCast_add st t.z).symm rfl λj h=>nomatch h) ?_
 intro k' xs ys gs hI P hP
 obtain⟨i,_,wi,bi,hk0,ew,eb,hj⟩:=hI
 have hi:i≤6:=by
  apply Nat.le_of_not_lt
  intro q
  have h1:=hj 6 q
  have:(st+t.z)/2^6≤127/2^6:=Nat.div_le_div_right (by exact L2 [] [_,_] 34096294949 16513 12470 4195525 rfl hst hz)
  have:127/2^6=1:=by decide
  have:=g.own s hs
  exact Uc hst hz h1 this
 have hsh:wi.fdiv (2^bi.toNat)=(((st+t.z)/2^i:Nat):Int):=by rw[ew,eb,Int.toNat_natCast,eV,f9]
 have hb0:0≤bi:=L1 [_] [_] 720896 65 728242 rfl eb
 refine pP hk hb0 (jL hsh ?_)
 refine bC hk (.b e2) (by exact L3 [] [_,_,_] 65536001205 532609 4195525 12501 13495 rfl hz hol hle) ?_
 refine jK hk (.of_left (by decide)) ?_
 refine aO (λh0=>?_) (λh0=>?_)
 ·refine hP (8-(i+1)) [] _ _ _ (.mk (i+1) _ _ _ rfl ew (by exact iA (L1 [_] [_] 4515730498268192 129 728242 rfl eb) (L1 [_] [_] 4515728884172912 65 728242 rfl eb)) λj h=>?_) (by exact L3 [] [_,_,_,_] 12470 528449 13511 2148414503 562967192153127 rfl hk0 (sC 8 i (L1 [] [_] 524469 129 393397 rfl hi)) (sC 8 (i+1) (L1 [] [_] 137443159077 129 393397 rfl hi)))
  by_cases q:j=i
  ·rw[q];exact L2 [] [_,_,_] 51054677 8385 11479 208092465232 rfl hle h0
  ·exact hj j (by exact Or.elim (Nat.lt_or_gt_of_ne q) (λz2=>L1 [] [_,_] 12470 129 12470 rfl z2) (λz2=>L2 [] [_,_] 12470 8320 269224118 11462 rfl h z2))
 ·refine dZ (λu1 u2 u3 u4=>?_) (g.up s hs st hst i hj (by exact L2 [] [_,_,_] 50468022 8449 12503 190912596051 rfl hle h0))
  have hdl:(st+t.z)/2^i≤st+t.z:=Nat.div_le_self _ _
  refine pP hk hb0 (jL hsh ?_)
  refine bC hk (.b e2) (by exact L3 [] [_,_,_] 65536001205 532609 4195525 12501 13495 rfl hz hol hle) ?_
  refine aU hk (λ_ _=>rfl) (.b e2) (by exact L2 [] [_,_,_] 13317380964352 8321 13511 11477 rfl hle u1) (by exact L4 [] [_,_,_,_] 10141204801825835211994056825905 34087041 4195541 13541 14535 190908401747 rfl hz hol hle h0) (by rw[hle,←Int.natCast_sub u1,Int.toNat_natCast];exact rI u2) ?_
  refine kE hk hb0 (by exact L2 [_] [_] 65536001200 8321 728242 393397 rfl eb hi) (by decide) ?_
  intro x
  have:=hR x trivial
  rw[←u4,←u3] at this
  refine aq [0] ?_
  rw[ew,eb,Int.toNat_natCast,Int.one_mul,lJ]
  exact this
section
variable{c:Cx}{nm:NM}{n n':Nat}{r:List It}{vs:bR}{xs ys ys':Vs}{gs:Gs}{a l S T:Addr}{ls:List AV}{t elt iter:Expr}{ifs:List Expr}{k:Nat}{p:Pos}{scope:Scope}{Q:AV→Led→Prop}{cl:List (Str×Addr)}
theorem Qc{w:World}{n:Nat}{fx:Fx}{kn:List (Str×NameKind)}{x0:Str}{py:Pos}{line:Nat}(ok:aC w n fx)(hk:iZ fx kn)(hx:dX x0 kn=some .local)(h:(py.line == p.line && !(scope.names.any λ(n,k)=>n == x0&&(k == .local||k == .cell)))=true) :
  swapsWith (.ListComp elt [⟨t,iter,ifs,0⟩] scope p) (some (.Name x0 py)) line fx.env=pure true:=by
 obtain⟨h1,h2⟩:=bI h
 have e1:(fx.env.blockKind == .function)=true:=by unfold Env.blockKind;rw[ok.kind];rfl
 have e2:(fx.env.kindOf x0 == some .local)=true:=beq_iff_eq.mpr (hk _ (bT hx)).1
 show(pure (fx.env.blockKind == .function&&fx.env.kindOf x0 == some .local&&py.line == p.line && !(scope.names.any λ(n,k)=>n == x0&&(k == .local||k == .cell))):Sem Bool)=pure true
 rw[e1,e2,h1,h2];rfl
theorem G7{v:Expr}{pos:Pos}(hc:c.Ok n nm)(h1:swapsWithSole [t] v pos.line c.fx.env=pure false)(h2:swappedStores [t] v c.fx.env=pure none)(he:assignEach [t] c.fx.env=[(false,assign t c.fx.env)])(h:Go c nm (.e v::.asg t::r) vs xs ys gs):D c (.st (.Assign [t] v pos)::r) vs (mk nm xs) (led c ys gs):=
 jA h1 h2 he (aB hc h)
noncomputable abbrev Fj:=List AV→au→Led→Prop
theorem iB(hc:c.Ok n nm)(cl:List (Str×Addr))(hkind:scope.kind=.function)(hchk:pq scope.names nm.kn=true)(hclos:sY c.fx.env.cells scope.names []=some cl)(hs:∀ x,foldedSetIterable iter c.fx.env x=pure x)
  (h:∀ K:Fj,(∀ as m σ,CK c n nm scope cl t elt ifs (λa σ=>D c r ([a]::vs) (mk nm xs) σ) as m σ→K as m σ)→Go c.nc nm [.e iter,.dN K] [] xs ys gs):D c (.e (.ListComp elt [⟨t,iter,ifs,0⟩] scope p)::r) vs (mk nm xs) (led c ys gs):=
 Rf hc cl hkind hchk hclos hs (h _ λ_ _ _ q=>q)
theorem Ir{x0:Str}{py spos:Pos}(hc:c.Ok n nm)(cl:List (Str×Addr))(hsw:(py.line == p.line && !(scope.names.any λ(n,k)=>n == x0&&(k == .local||k == .cell)))=true)(hx:dX x0 nm.kn=some .local)(hkind:scope.kind=.function)(hchk:pq scope.names nm.kn=true)(hclos:sY c.fx.env.cells scope.names []=some cl)(hs:∀ x,foldedSetIterable iter c.fx.env x=pure x)
  (h:∀ K:Fj,(∀ as m σ,CK c n nm scope cl t elt ifs (λa σ=>pJ x0 a False nm.vn xs λxs'=>D c r vs (mk nm xs') σ) as m σ→K as m σ)→Go c.nc nm [.e iter,.dN K] [] xs ys gs):D c (.st (.Assign [.Name x0 py] (.ListComp elt [⟨t,iter,ifs,0⟩] scope p) spos)::r) vs (mk nm xs) (led c ys gs):=
 Nh hc cl (Qc hc.ok hc.hk hx hsw) hx hkind hchk hclos hs (h _ λ_ _ _ q=>q)
noncomputable abbrev Pb(c:Cx)(n:Nat)(scope:Scope)(cl:List (Str×Addr))(t elt:Expr)(ifs:List Expr)(ys':Vs)(gs:Gs)(a:AV)(l l':List AV):Prop:=
  ∀ c':Cx,c'.Ok n (kY scope cl)→c'.w=c.w→c'.fx.base=c.fx.base→∀ (ρ:Led) (P:List AV→au→Led→Prop),(∀ bs is xs' gs',l'=l++bs→gets gs' is=gs++[ρ]→P bs (mk (kY scope cl) xs') (led c' ys' gs'))→
    tV (scope.names.map λ_=>none) λxs=>Go c' (kY scope cl) (.asg t::o9 ifs elt [.dN P]) [[a]] xs ys' (gs++[[],ρ])
theorem Ni{K:Fj}(hc:c.Ok n nm)(hK:∀ as m σ,CK c n nm scope cl t elt ifs Q as m σ→K as m σ)(js:List Nat)(ys':Vs)(iU:flat (gets (gU c.ca ys) js)=bK (cl.map (·.2)) ys')(hif:Nat.ble ifs.length 1=true)(ht:cP t)(hl:Has c.w c.fx (led c ys gs) l (.list ls))(hz:ls.length≤1000000)(f:Nat→List AV)(el:Nat→AV)(hel:∀ k,k<ls.length→ls.getD k .none=el k)(h0:f 0=[])
  (he:∀ D,Q (.ref D) (led c ys (gs++[[(D,.list (f ls.length))]])))(turn:∀ k,k<ls.length→Pb c n scope cl t elt ifs ys' gs (el k) (f k) (f (k+1))) :
  D c.nc [.dN K] [[.ref l]] (mk nm xs) (led c.nc ys gs):=
 hK _ _ _<|wG hc js ys' iU hif ht hl hz (λk as gs'=>as=f k∧gs'=gs) ⟨h0.symm,rfl⟩ (λk as gs' h=>by rw[h.2];exact hl) (λas gs' h D=>by rw[h.1,h.2];exact he D) λk hk as gs' h _ c' hc' hw hb ρ P hP=>by
  rw[hel k hk,h.2]
  rw[h.1] at hP
  exact turn k hk c' hc' hw hb ρ P λbs is xs' DN e1 e2=>hP bs is xs' DN gs ⟨e1.symm,rfl⟩ (fJ e2)
theorem V2{K:Fj}(hc:c.Ok n nm)(hK:∀ as m σ,CK c n nm scope cl t elt ifs Q as m σ→K as m σ)(js:List Nat)(ys':Vs)(iU:flat (gets (gU c.ca ys) js)=bK (cl.map (·.2)) ys')(hif:Nat.ble ifs.length 1=true)(ht:cP t)(hl:Has c.w c.fx (led c ys gs) l (.list ls))(hz:ls.length≤1000000)(I:Nat→List AV→Gs→Prop)(hi:I 0 [] gs)
  (hp:∀ k as gs,I k as gs→Has c.w c.fx (led c ys gs) l (.list ls))(he:∀ as gs,I ls.length as gs→∀ D,Q (.ref D) (led c ys (gs++[[(D,.list as)]])))
  (turn:∀ k,k<ls.length→∀ as gs,I k as gs→as.length≤k→∀ c':Cx,c'.Ok n (kY scope cl)→c'.w=c.w→c'.fx.base=c.fx.base→∀ (ρ:Led) (P:List AV→au→Led→Prop),(∀ bs is xs' gs' cO,I (k+1) (as++bs) cO→(flat (gets gs' is)).Perm (flat cO++ρ)→P bs (mk (kY scope cl) xs') (led c' ys' gs'))→
   tV (scope.names.map λ_=>none) λxs=>Go c' (kY scope cl) (.asg t::o9 ifs elt [.dN P]) [[ls.getD k .none]] xs ys' (gs++[[],ρ])) :
  D c.nc [.dN K] [[.ref l]] (mk nm xs) (led c.nc ys gs):=hK _ _ _ (wG hc js ys' iU hif ht hl hz I hi hp he turn)
theorem tC{K:Fj}{x y z:Int}{cnt:Nat}{rr:Addr}(hc:c.Ok n nm)(hK:∀ as m σ,CK c n nm scope cl t elt ifs Q as m σ→K as m σ)(js:List Nat)(ys':Vs)(iU:flat (gets (gU c.ca ys) js)=bK (cl.map (·.2)) ys')(hif:Nat.ble ifs.length 1=true)(ht:cP t)(hr:Has c.w c.fx (led c ys gs) rr (.range x y z))(hs:Builtin.Range.small x y z=true)(hn:Builtin.Range.rangeSize x y z=(cnt:Int))(hz:cnt≤1000000)(f:Nat→List AV)(el:Nat→Int)(hel:∀ k,k<cnt→x+k*z=el k)(h0:f 0=[])
  (he:∀ D,Q (.ref D) (led c ys (gs++[[(D,.list (f cnt))]])))(turn:∀ k,k<cnt→Pb c n scope cl t elt ifs ys' gs (.int (el k)) (f k) (f (k+1))) :
  D c.nc [.dN K] [[.ref rr]] (mk nm xs) (led c.nc ys gs):=
 hK _ _ _<|nP hc js ys' iU hif ht hr hs hn hz (λk as gs'=>as=f k∧gs'=gs) ⟨h0.symm,rfl⟩ (λas gs' h D=>by rw[h.1,h.2];exact he D) λk hk as gs' h _ c' hc' hw hb ρ P hP=>by
  rw[hel k hk,h.2]
  rw[h.1] at hP
  exact turn k hk c' hc' hw hb ρ P λbs is xs' DN e1 e2=>hP bs is xs' DN gs ⟨e1.symm,rfl⟩ (fJ e2)
theorem Av{a b b':AV}(e:b=b')(h:Go c nm r ([a]::[b']::vs) xs ys gs):Go c nm r ([a]::[b]::vs) xs ys gs:=by rw[e];exact h
end
theorem qI{l:List Int}{k:Nat}(h:k<(iL l).length):(iL l).getD k .none=.int (l.getD k 0):=by
 unfold iL at h⊢
 rw[List.length_map] at h
 rw[gD,List.getElem?_map,gE h,gD,gE h];rfl
theorem gG(l:List Int):(iL l).length=l.length:=List.length_map _
theorem uW{α β:Type}(f:α→β)(l:List α)(k:Nat)(d:α)(h:k<l.length):(l.take (k+1)).map f=(l.take k).map f++[f (l.getD k d)]:=by
 rw[List.take_add_one,gE h,List.map_append,gD,gE h];rfl
theorem Drawn.Ot{z many:Nat}{cs:List Int}(hd:Drawn z many cs){k:Nat}(h:k<cs.length) : -1≤cs.getD k 0:=
 hd.ge (cs.getD k 0) (by rw[gD,gE h];exact List.getElem_mem _)
theorem JH(w:World)(b:Bool)(base:Heap)(S:Addr)(cs:List Int)(log:Nat)(hl:log=5∨log=6)(hS:bW w base S (.list (iL cs)))(hd:Drawn (2^log) cs.length cs) :
  F1 w b 2 279 base [.ref S,.int log] [] .none [] bN:=by
 have hcl:(iL cs).length≤7:=Nat.le_trans (Nat.le_of_eq (gG cs)) hd.hi
 have hsum:(!decide ((cs.map ig).sum=1*2^((log:Nat):Int).toNat))=false:=by
  rw[decide_eq_true];rfl
  rw[hd.sum,Int.toNat_natCast,Int.one_mul,eV]
 refine FX.go ["counts","log"] [] rfl rfl rfl (λ_ _=>rfl) (by decide +kernel) ?_
 rintro k hk ow rfl-rfl-hR
 refine DY hk rfl λK hK=>M7 hk hK ?_
 refine aO (λ_=>?_) (λh=>by exact(Or.elim hl (λz2=>L2 [] [_] 10 4224 46601219 327863 rfl h z2) (λz2=>L2 [] [_] 10 4224 46601219 393399 rfl h z2)).elim)
 refine q7 (λh=>by exact(Or.elim hl (λz2=>L2 [] [_] 10 8320 83897459 327863 rfl h z2) (λz2=>L2 [] [_] 10 8320 83897459 393399 rfl h z2)).elim) (λ_=>?_)
 refine iB hk [] rfl (by decide +kernel) rfl (λ_=>rfl) λK hK=>?_
 refine Ni hk hK [] [] rfl rfl (λ_ _=>rfl) (.b hS) (by exact L1 [] [_] 65536001205 129 458933 rfl hcl) (λ_=>[]) (λk=>.int (cs.getD k 0)) (λk h=>qI h) rfl ?_ ?_
 ·refine λD1=>aB hk ?_
  intro D2
  refine wC (is:=[]) (js:=[]) hk (aj 0 0 rfl) (aj 1 0 rfl) ?_
  refine iB hk [] rfl (by decide +kernel) rfl (λ_=>rfl) λK hK=>?_
  refine Ni hk hK [] [] rfl rfl (λ_ _=>rfl) (.b hS) (by exact L1 [] [_] 65536001205 129 458933 rfl hcl) (λk=>iL ((cs.take k).map ig)) (λk=>.int (cs.getD k 0)) (λk h=>qI h) rfl ?_ ?_
  ·refine λD3=>aB hk ?_
   refine Ak (ls:=(cs.take (iL cs).length).map ig) hk (aj 2 0 rfl) (jL (y:=(cs.map ig).sum) (by rw[gG,List.take_length]) ?_)
   refine kE hk (by exact Xq) (by exact Xp hl) (by decide) ?_
   refine zu hsum ?_
   exact aq [] (hR () trivial)
  ·intro k' h c' hc' hw hb ρ P hP
   refine aF hc' [] (nR _) (λbase' _=>vp c'.w _ base' _) aX (Nat.zero_le _) ?_
   exact hP [.int (ig (cs.getD k' 0))] [0,1,3] _ _ (by rw[gG] at h;rw[uW ig cs k' 0 h];exact List.map_append) rfl
 ·intro k' h c' hc' hw hb ρ P hP
  refine aO (λh1=>absurd (hd.Ot (by rw[←gG];exact h)) (Int.not_le.mpr h1)) (λ_=>?_)
  exact hP [] [1] _ _ rfl rfl
theorem vI(f:Nat→Nat)(s:Nat):∀ n:Nat,((List.range n).flatMap λj=>List.replicate (f j) j).count s=if s<n then f s else 0
  | 0=>by simp
  | n + 1=>by
    rw[List.range_succ,List.flatMap_append,List.count_append,vI f s n,List.flatMap_cons,List.flatMap_nil,aN,List.count_replicate]
    by_cases h:n=s
    · subst h;simp
    · by_cases h2:s<n
      · simp[h,h2,show s<n+1 by exact L1 [] [_,_] 269224118 129 12470 rfl h2]
      · simp[h,h2,show ¬ s<n+1 by exact Or.elim (Nat.lt_or_gt_of_ne h) (λz2=>L1 [] [_,_] 269224121 129 11462 rfl z2) (λz2=>L2 [] [_,_] 269224121 8320 12473 12470 rfl h2 z2)]
theorem nu(f:Nat→Nat):∀ n:Nat,((List.range n).flatMap λj=>List.replicate (f j) j).length=((List.range n).map f).sum
  | 0=>by simp
  | n+1=>by
    rw[List.range_succ,List.flatMap_append,lA,nu f n,List.map_append,List.sum_append]
    simp
theorem yJ (q:Nat→Bool)(s:Nat):∀ n:Nat,((List.range n).filter q).count s=if s<n∧q s=true then 1 else 0
  | 0=>by simp
  | n + 1=>by
    rw[List.range_succ,List.filter_append,List.count_append,yJ q s n]
    by_cases h:n=s
    · subst h
      cases hq:q n<;>simp[hq]
    · have e:([n].filter q).count s=0:=by
        cases hq:q n<;>simp[hq,h]
      rw[e,Nat.add_zero]
      have:(s<n+1)↔(s<n):=by exact⟨λq=>Or.elim (Nat.lt_or_gt_of_ne h) (λz2=>L2 [] [_,_] 12470 8320 269224118 11462 rfl q z2) (λz2=>L1 [] [_,_] 12470 129 12470 rfl z2),λq=>L1 [] [_,_] 269224118 129 12470 rfl q⟩
      simp only[this]
theorem oX(q:Nat→Bool):∀ n:Nat,((List.range n).filter q).length=((List.range n).map λj=>if q j=true then 1 else 0).sum
  | 0=>by simp
  | n+1=>by
    rw[List.range_succ,List.filter_append,lA,oX q n,List.map_append,List.sum_append]
    cases hq:q n<;>simp[hq]
theorem sum_map_add(f h:Nat→Nat):∀ l:List Nat,(l.map λj=>f j+h j).sum=(l.map f).sum+(l.map h).sum
 | []=>rfl
 | a::l=>by simp only[List.map_cons,List.sum_cons,sum_map_add f h l];exact nA (L0 [] [_,_,_,_] 68609144433742290212292645 1 rfl) (L0 [] [_,_,_,_] 68609144433742290212292645 1 rfl)
theorem mV(F:Int→Nat):∀ (cs:List Int),((List.range cs.length).map λj=>F (cs.getD j 0)).sum=(cs.map F).sum
  | []=>rfl
  | c::cs=>by
    rw[List.length_cons,List.range_succ_eq_map,List.map_cons,List.map_map,List.sum_cons,List.map_cons,List.sum_cons,←mV F cs]
    rfl
theorem yx(F:Int→Nat)(G:Int→Int):∀ (cs:List Int),(∀ c∈cs,(F c:Int)=G c)→(((cs.map F).sum:Nat):Int)=(cs.map G).sum
  | [],_=>rfl
  | c::cs,h=>by
    rw[List.map_cons,List.sum_cons,List.map_cons,List.sum_cons,Int.natCast_add,yx F G cs λd hd=>h d (.tail _ hd),h c (.head _)]
section
variable{z many:Nat}{cs:List Int}
theorem Drawn.total(d:Drawn z many cs):(cR cs).length+(aW cs).length=z:=by
 unfold cR aW
 rw[nu (λs=>(cs.getD s 0).toNat),oX (λs=>cs.getD s 0 == -1),←sum_map_add,mV (λc=>c.toNat+if(c == -1)=true then 1 else 0)]
 apply Int.ofNat.inj
 have:=d.sum
 rw[←yx (λc=>c.toNat+if(c == -1)=true then 1 else 0) ig cs λc hc=>?_] at this
 ·exact this
 ·have:=d.ge c hc
  unfold ig
  by_cases h:c = -1
  ·subst h;rfl
  ·rw[if_neg h,if_neg (by simpa using h)];exact X7 this h
theorem Drawn.free_eq(d:Drawn z many cs):fK z cs=(cR cs).length:=by have:=d.total;unfold fK;exact nA (L2 [] [_,_,_,_] 12469 8257 59584551 59583527 rfl this (sC z ((aW cs).length) (L1 [] [_,_,_] 12469 129 51065895 rfl this))) (L2 [] [_,_,_,_] 12469 4225 59583527 59584551 rfl this (sC z ((aW cs).length) (L1 [] [_,_,_] 12469 129 51065895 rfl this)))
theorem Drawn.K4(d:Drawn z many cs):(aW cs).length≤7:=by
 unfold aW
 have:=List.length_filter_le (λs=>cs.getD s 0 == -1) (List.range cs.length)
 rw[List.length_range] at this
 have h1:=d.hi
 have h2:=d.len
 exact L3 [] [_,_,_] 458933 532609 12469 458965 13511 rfl this h1 h2
theorem Drawn.counts(d:Drawn z many cs){s:Nat}(hs:s<cs.length):(cR cs).count s+(aW cs).count s=(ig (cs.getD s 0)).toNat:=by
 unfold cR aW
 rw[vI (λs=>(cs.getD s 0).toNat),yJ (λs=>cs.getD s 0 == -1),if_pos hs]
 have hge : -1≤cs.getD s 0:=d.ge _ (by rw[gD,gE hs];exact List.getElem_mem _)
 unfold ig
 by_cases h:cs.getD s 0 = -1
 ·rw[if_pos h,h];simp[hs]
 ·rw[if_neg h,if_neg (by simp;intro _;simpa using h)];exact nA (L0 [] [_] 2952801317 1 rfl) (L0 [] [_] 723125 1 rfl)
end
noncomputable def zK(z r:Nat):Bool:=(vis z (z-r) z).length == z-r&&decide (vis z (z-r) z).Nodup&&(List.range (z-r)).all λp=>(vis z (z-r) z).contains p
theorem I9:∀ r,r<8→zK 32 r=true:=by decide +kernel
theorem I8:∀ r,r<8→zK 64 r=true:=by decide +kernel
theorem Pq{z f j p:Nat}(h:p∈vis z f j):p<f:=by
 unfold vis at h
 exact of_decide_eq_true (List.mem_filter.mp h).2
theorem yu{z r:Nat}(hz:z=32∨z=64)(hr:r≤7):(vis z (z-r) z).length=z-r∧(vis z (z-r) z).Nodup∧∀ p,p<z-r→p∈vis z (z-r) z:=by
 have h:zK z r=true:=by
  rcases hz with rfl|rfl
  ·exact I9 r (by exact L1 [] [_] 524470 129 458933 rfl hr)
  ·exact I8 r (by exact L1 [] [_] 524470 129 458933 rfl hr)
 unfold zK at h
 rw[Bool.and_eq_true,Bool.and_eq_true] at h
 exact⟨by simpa using h.1.1,of_decide_eq_true h.1.2,λp hp=>by simpa using List.all_eq_true.mp h.2 p (List.mem_range.mpr hp)⟩
theorem tX{l:List Nat}(nd:l.Nodup){i:Nat}(h:i<l.length):l.idxOf l[i]=i:=List.Nodup.idxOf_getElem nd i h
theorem wN{l:List Nat}(nd:l.Nodup){a:Nat}(h:a∈l):l.count a=1:=by
 have h1:=List.nodup_iff_count.mp nd a
 have h2:=List.count_pos_iff.mpr h
 exact nA (L1 [] [_] 65717 129 65717 rfl h1) (L1 [] [_] 721925 129 720902 rfl h2)
theorem zR {z f:Nat}{F o r:List Nat}(hF:F.Nodup)(hl:F.length=f)(hlt:∀ p∈F,p<f)(hall:∀ p,p<f→p∈F)(ho:o.length=f)(hr:r.length=z-f)(hf:f≤z) :
    ((List.range z).map λp=>if p<f then o.getD (F.idxOf p) 0 else r.getD (z-1-p) 0).Perm (o++r):=by
  have hp:(List.range f).Perm F:=by
    rw[List.perm_iff_count]
    intro a
    by_cases ha:a<f
    · rw[wN List.nodup_range (List.mem_range.mpr ha),wN hF (hall a ha)]
    · rw[List.count_eq_zero_of_not_mem (λq=>ha (List.mem_range.mp q)),List.count_eq_zero_of_not_mem (λq=>ha (hlt a q))]
  have hsplit:List.range z=List.range f++(List.range (z-f)).map (f + ·):=by
    conv=>lhs;rw[show z=f+(z-f) by exact nA (L1 [] [_,_,_] 55314613 65 46937127 rfl (sC z f (L1 [] [_,_] 12469 129 12469 rfl hf))) (L1 [] [_,_,_] 55323685 129 55259175 rfl (sC z f (L1 [] [_,_] 12469 129 12469 rfl hf))),List.range_add]
  rw[hsplit,List.map_append]
  refine List.Perm.append ?_ ?_
  · have e1:(List.range f).map (λp=>if p<f then o.getD (F.idxOf p) 0 else r.getD (z-1-p) 0)=(List.range f).map λp=>o.getD (F.idxOf p) 0:=
      List.map_congr_left λp hp=>by rw[if_pos (List.mem_range.mp hp)]
    rw[e1]
    refine(hp.map _).trans ?_
    have e2:F.map (λp=>o.getD (F.idxOf p) 0)=o:=by
      apply List.ext_getElem
      · rw[List.length_map,hl,ho]
      · intro i h1 h2
        rw[List.getElem_map,tX hF,gD,gE h2];rfl
    rw[e2]
  · have e3:((List.range (z-f)).map (f + ·)).map (λp=>if p<f then o.getD (F.idxOf p) 0 else r.getD (z-1-p) 0)=r.reverse:=by
      apply List.ext_getElem
      · rw[List.length_map,List.length_map,List.length_range,List.length_reverse,hr]
      · intro i h1 h2
        rw[List.length_reverse] at h2
        simp only[List.getElem_map,List.getElem_range,List.getElem_reverse]
        rw[if_neg (by exact L0 [] [_,_] 46935081 1 rfl),gD,gE (by exact Or.elim (Nat.le_total (z-1) (f+i)) (λz2=>L3 [] [_,_,_,_,_] 12470 532609 12502 55511269 244070886439 rfl h2 z2 (sC (z-1) (f+i) (L4 [] [_,_,_,_,_,_] 55323685 34087041 15591 14534 269289733 67845159 rfl hr h2 (Nat.le_add_of_sub_le (nR (z-1))) (sC z f (L1 [] [_,_] 12469 129 12469 rfl hf))))) (λz2=>Or.elim (Nat.le_total z 1) (λz1=>L4 [] [_,_,_,_,_,_] 12470 34087041 14551 12534 263 278963301415 rfl ho h2 (sZ z 1 (L1 [] [_] 65717 129 65717 rfl z1)) (sC (z-1) (f+i) (L1 [] [_,_,_] 55323685 129 55323685 rfl z2))) (λz1=>L4 [] [_,_,_,_,_,_,_] 12470 33824833 13511 4030740519 63976487 245148822567 rfl hr (sC z 1 (L1 [] [_] 721925 129 721925 rfl z1)) (sC z f (L1 [] [_,_] 12469 129 12469 rfl hf)) (sC (z-1) (f+i) (L4 [] [_,_,_,_,_,_] 55323685 33824897 15591 14534 4299174951 67845159 rfl hr h2 (sC z 1 (L1 [] [_] 721925 129 721925 rfl z1)) (sC z f (L1 [] [_,_] 12469 129 12469 rfl hf)))))))]
        simp only[Option.getD_some]
        congr 1
        exact X6 hr
    rw[e3]
    exact List.reverse_perm r
theorem yt{z r:Nat}:∀ (n w k:Nat),w≤k→k≤w+n→z≤r*2^k→(∀ j,w≤j→j<k→r*2^j<z)→uK z r n w=k
  | 0,w,k,h1,h2,_,_=>by unfold uK;exact nA (L1 [] [_,_] 12469 129 12469 rfl h1) (L1 [] [_,_] 12469 129 788661 rfl h2)
  | n + 1,w,k,h1,h2,h3,h4=>by
    unfold uK
    by_cases h:w=k
    · subst h;rw[if_pos h3]
    · rw[if_neg (by have:=h4 w (nR _) (by exact Or.elim (Nat.lt_or_gt_of_ne h) (λz2=>L1 [] [_,_] 12470 129 12470 rfl z2) (λz2=>L2 [] [_,_] 12470 8320 12469 11462 rfl h1 z2));exact L1 [] [_,_] 12472 129 11462 rfl this)]
      exact yt n (w+1) k (by exact Or.elim (Nat.lt_or_gt_of_ne h) (λz2=>L1 [] [_,_] 3225431077 129 12470 rfl z2) (λz2=>L2 [] [_,_] 3225431077 8320 12469 11462 rfl h1 z2)) (by exact L1 [] [_,_,_] 14310881495221 129 1103010465973 rfl h2) h3 λj hj=>h4 j (by exact L1 [] [_,_] 12469 129 3225431077 rfl hj)
theorem uJ{z r k:Nat}(hk:k≤7)(h:z≤r*2^k)(h2:∀ j,j<k→r*2^j<z):jl z r=k:=yt 7 0 k (by exact L0 [] [_] 720901 1 rfl) (by exact L1 [] [_] 458933 129 458933 rfl hk) h λj _=>h2 j
noncomputable def Ko(z:Nat):Bool:=(List.range (2*z)).all λr=>r == 0||(decide (z≤r*2^jl z r)&&decide ((r+1)*2^jl z r≤2*z))
theorem Km:Ko 32=true:=by decide +kernel
theorem Kl:Ko 64=true:=by decide +kernel
theorem Pk{z r:Nat}(hz:z=32∨z=64)(h1:1≤r)(h2:r<2*z):z≤r*2^jl z r∧(r+1)*2^jl z r≤2*z:=by
 have h:Ko z=true:=by
  rcases hz with rfl|rfl
  ·exact Km
  ·exact Kl
 have:=List.all_eq_true.mp h r (List.mem_range.mpr h2)
 rw[Bool.or_eq_true,Bool.and_eq_true] at this
 rcases this with q|⟨q1,q2⟩
 ·have:r=0:=by simpa using q
  exact⟨L2 [] [_,_,_] 12469 8320 852997 215 rfl h1 this,L2 [] [_,_,_] 50468021 8320 852997 215 rfl h1 this⟩
 ·exact⟨of_decide_eq_true q1,of_decide_eq_true q2⟩
namespace Tab
variable{t:Tab}
theorem good.z(g:t.good):t.z=32∨t.z=64:=by
 unfold Tab.z
 rcases g.1 with h|h<;>rw[h]
 ·exact .inl rfl
 ·exact .inr rfl
theorem good.perm(g:t.good):t.syms.Perm (cR t.cs++aW t.cs):=by
 have d:=g.2
 have hr:=d.K4
 have hz:7≤t.z:=by rcases g.z with h|h<;>(first|exact L1 [] [_] 728069 65 2097335 rfl h|exact L1 [] [_] 728069 65 4195511 rfl h)
 have ht:=d.total
 have hf:fK t.z t.cs=t.z-(aW t.cs).length:=rfl
 refine gJ (λv1 v2 v3=>?_) (yu g.z hr)
 have:=zR (z:=t.z) (f:=fK t.z t.cs) (o:=cR t.cs) (r:=aW t.cs) v2 v1 (λp hp=>Pq hp) v3 d.free_eq.symm (by exact nA (L3 [] [_,_,_,_,_] 12469 270465 14551 63649831 63778855 rfl hf (sC (t.z) ((aW t.cs).length) (L1 [] [_,_,_] 12469 129 51065895 rfl ht)) (sC (t.z) (fK t.z t.cs) (L2 [] [_,_,_,_] 12469 8321 13495 51262503 rfl hf (sC (t.z) ((aW t.cs).length) (L1 [] [_,_,_] 12469 129 51065895 rfl ht))))) (L3 [] [_,_,_,_,_] 12469 528449 14551 63715367 63777831 rfl hf (sC (t.z) ((aW t.cs).length) (L1 [] [_,_,_] 12469 129 51065895 rfl ht)) (sC (t.z) (fK t.z t.cs) (L2 [] [_,_,_,_] 12469 8321 13495 51262503 rfl hf (sC (t.z) ((aW t.cs).length) (L1 [] [_,_,_] 12469 129 51065895 rfl ht)))))) (by exact L2 [] [_,_,_,_] 12469 8321 13495 51262503 rfl hf (sC (t.z) ((aW t.cs).length) (L1 [] [_,_,_] 12469 129 51065895 rfl ht)))
 refine(List.Perm.of_eq ?_).trans this
 unfold Tab.syms dR fj
 refine List.map_congr_left λp hp=>?_
 by_cases h:p<fK t.z t.cs
 ·rw[if_pos h,if_pos h,if_pos]
  ·rfl
  ·have:(vis t.z (fK t.z t.cs) t.z).idxOf p<(vis t.z (fK t.z t.cs) t.z).length:=List.idxOf_lt_length_of_mem (v3 p h)
   have e:(vis t.z (fK t.z t.cs) t.z).length=fK t.z t.cs:=v1
   exact L4 [] [_,_,_,_,_,_] 12470 34087041 14551 15542 13559 51394599 rfl hf this e (sC (t.z) ((aW t.cs).length) (L1 [] [_,_,_] 12469 129 51065895 rfl ht))
 ·rw[if_neg h,if_neg h]
theorem good.count(g:t.good){s:Nat}(hs:s<t.cs.length):t.syms.count s=(ig (t.cs.getD s 0)).toNat:=by
 rw[g.perm.count_eq,List.count_append,g.2.counts hs]
theorem good.Tw(g:t.good){i:Nat}(h:i<t.z):t.sy i<t.cs.length:=by
 have hm:t.sy i∈t.syms:=by
  unfold Tab.sy
  rw[gD,gE (by rw[t.fX];exact h)]
  exact List.getElem_mem _
 have hm2:=g.perm.subset hm
 rcases mA hm2 with q|q
 ·refine aD (λj hj hq=>?_) (List.mem_flatMap.mp q)
  rw[(List.mem_replicate.mp hq).2]
  exact List.mem_range.mp hj
 ·exact List.mem_range.mp (List.mem_filter.mp q).1
theorem pK(t:Tab)(s:Nat):∀ k,k≤t.z→((List.range k).filter λi=>t.sy i == s).length=(t.syms.take k).count s
  | 0,_=>by simp
  | k + 1,h=>by
    have hl:=t.fX
    rw[List.range_succ,List.filter_append,lA,pK t s k (by exact L1 [] [_,_] 12469 129 3225431077 rfl h),List.take_add_one,List.count_append,gE (by exact L2 [] [_,_,_] 12470 4225 3493866533 13511 rfl h hl)]
    congr 1
    have:t.sy k=t.syms[k]'(by exact L2 [] [_,_,_] 12470 4225 3493866533 13511 rfl h hl):=by
      unfold Tab.sy
      rw[gD,gE (by exact L2 [] [_,_,_] 12470 4225 3493866533 13511 rfl h hl)];rfl
    rw[List.filter_cons,this]
    by_cases q:t.syms[k]'(by exact L2 [] [_,_,_] 12470 4225 3493866533 13511 rfl h hl)=s
    · simp[q]
    · simp[q]
theorem vH(t:Tab)(s:Nat):(t.own s).length=t.syms.count s:=by
 unfold Tab.own
 rw[pK t s t.z (nR _),List.take_of_length_le (by rw[t.fX];exact nR _)]
theorem zY(t:Tab){s i:Nat}(h:i<t.z)(hs:t.sy i=s):(t.own s)[(t.syms.take i).count s]?=some i:=by
 have e:List.range t.z=List.range i++(i::(List.range (t.z-i-1)).map (i+1 + ·)):=by
  conv=>lhs;rw[show t.z=(i+1)+(t.z-i-1) by exact Or.elim (Nat.le_total (t.z-i) 1) (λz2=>nA (L2 [] [_,_,_,_] 14310881495221 4161 46938151 3762304039 rfl (sC (t.z) i (L1 [] [_,_] 12469 129 12470 rfl h)) (sC (t.z-i) 1 (L2 [] [_,_,_] 721925 4225 13510 55323687 rfl h (sC (t.z) i (L1 [] [_,_] 12469 129 12470 rfl h))))) (L2 [] [_,_,_,_] 14500078749733 8321 55261223 3762303015 rfl (sC (t.z) i (L1 [] [_,_] 12469 129 12470 rfl h)) (sC (t.z-i) 1 (L2 [] [_,_,_] 721925 4225 13510 55323687 rfl h (sC (t.z) i (L1 [] [_,_] 12469 129 12470 rfl h)))))) (λz2=>nA (L2 [] [_,_,_,_] 14310881495221 4161 46938151 3762304039 rfl (sC (t.z) i (L1 [] [_,_] 12469 129 12470 rfl h)) (sC (t.z-i) 1 (L2 [] [_,_,_] 721925 4225 13510 55323687 rfl h (sC (t.z) i (L1 [] [_,_] 12469 129 12470 rfl h))))) (L2 [] [_,_,_,_] 14500078749733 8321 55261223 3762303015 rfl (sC (t.z) i (L1 [] [_,_] 12469 129 12470 rfl h)) (sC (t.z-i) 1 (L2 [] [_,_,_] 721925 4225 13510 55323687 rfl h (sC (t.z) i (L1 [] [_,_] 12469 129 12470 rfl h)))))),List.range_add,List.range_succ,aA]
  rfl
 unfold Tab.own
 rw[e,List.filter_append,←pK t s i (by exact L1 [] [_,_] 12469 129 12470 rfl h),List.getElem?_append_right (nR _),Nat.sub_self,List.filter_cons,if_pos (by simp[hs])]
 rfl
theorem Qm(t:Tab){s i:Nat}(hs:t.sy i=s):t.rk i=(t.own s).length+(t.syms.take i).count s:=by
 rw[t.vH s];unfold Tab.rk;rw[hs]
theorem vG(t:Tab){s k i:Nat}(h:(t.own s)[k]?=some i):i<t.z∧t.sy i=s:=by
 have:=List.mem_of_getElem? h
 unfold Tab.own at this
 have ⟨a,b⟩:=List.mem_filter.mp this
 exact⟨List.mem_range.mp a,by simpa using b⟩
theorem vD(t:Tab)(s:Nat):(t.own s).Nodup:=List.nodup_range.filter _
theorem um(t:Tab){s k i:Nat}(h:(t.own s)[k]?=some i):t.rk i=(t.own s).length+k∧k<(t.own s).length:=by
 refine uA (λh1 h2=>?_) (t.vG h)
 have h3:=t.zY h1 h2
 obtain⟨hk,ek⟩:=List.getElem?_eq_some_iff.mp h
 obtain⟨hk',ek'⟩:=List.getElem?_eq_some_iff.mp h3
 have:k=(t.syms.take i).count s:=by
  have a1:=List.Nodup.idxOf_getElem (t.vD s) k hk
  have a2:=List.Nodup.idxOf_getElem (t.vD s) _ hk'
  rw[ek] at a1;rw[ek'] at a2;exact nA (L2 [] [_,_,_] 12469 8257 11479 12503 rfl a1 a2) (L2 [] [_,_,_] 12469 4225 12503 11479 rfl a1 a2)
 exact⟨by rw[t.Qm h2,this],hk⟩
theorem good.nq(g:t.good){s:Nat}(hs:t.known s):0<(t.own s).length∧(t.own s).length≤t.z:=by
 refine⟨?_,?_⟩
 ·rw[t.vH,g.count hs.1]
  have h1:=g.2.ge (t.cs.getD s 0) (by rw[gD,gE hs.1];exact List.getElem_mem _)
  have h2:=hs.2
  unfold ig
  split<;>(first|exact X5|exact X4 h1 h2 (by assumption))
 ·unfold Tab.own
  have:=List.length_filter_le (λi=>t.sy i == s) (List.range t.z)
  rwa [List.length_range] at this
theorem good.uY(g:t.good){i:Nat}(h:i<t.z):1≤t.rk i∧t.rk i<2*t.z:=by
 have h1:=t.zY h rfl
 refine uA (λh2 h3=>?_) (t.um h1)
 have:(t.own (t.sy i)).length≤t.z:=by
  unfold Tab.own
  have:=List.length_filter_le (λj=>t.sy j == t.sy i) (List.range t.z)
  rwa [List.length_range] at this
 exact⟨L2 [] [_,_,_] 721925 8257 55314615 12502 rfl h2 h3,L3 [] [_,_,_,_] 50468022 1056897 59574455 13542 12501 rfl h2 h3 this⟩
theorem good.wide(g:t.good){i:Nat}(h:i<t.z):t.bs i+t.z=t.rk i*2^t.wd i∧(t.rk i+1)*2^t.wd i≤2*t.z:=by
 refine uA (λh1 h2=>?_) (g.uY h)
 refine uA (λa b=>?_) (Pk g.z h1 h2)
 refine⟨?_,b⟩
 show t.rk i*2^t.wd i-t.z+t.z=_
 have:t.z≤t.rk i*2^t.wd i:=a
 exact id (nA (L1 [] [_,_,_] 55323685 129 55323687 rfl (sC (t.rk i*2^t.wd i) (t.z) (L1 [] [_,_] 12469 129 12469 rfl this))) (L1 [] [_,_,_] 55314613 65 47001639 rfl (sC (t.rk i*2^t.wd i) (t.z) (L1 [] [_,_] 12469 129 12469 rfl this))))
theorem good.top(g:t.good){i:Nat}(h:i<t.z):t.bs i+2^t.wd i≤t.z:=by
 refine uA (λa b=>?_) (g.wide h)
 rw[Nat.add_mul,Nat.one_mul] at b
 exact L2 [] [_,_,_,_] 55323685 8321 59583527 223896942629 rfl a b
theorem good.Dw(g:t.good){s st i:Nat}(h:i<t.z):t.hit s st i=true↔t.sy i=s∧(st+t.z)/2^t.wd i=t.rk i:=by
 refine uA (λa b=>?_) (g.wide h)
 have hp:0<2^t.wd i:=Nat.two_pow_pos _
 unfold Tab.hit
 rw[Bool.and_eq_true,Bool.and_eq_true,decide_eq_true_iff,decide_eq_true_iff,beq_iff_eq,Nat.div_eq_iff hp]
 constructor
 ·rintro⟨h1,h2,h3⟩;exact⟨h1,by exact L2 [] [_,_,_,_] 55314613 8257 47003687 12517 rfl a h2,by exact L3 [] [_,_,_,_,_,_] 55323685 270465 63715367 68028598 17850425160743 rfl a h3 (sC (t.rk i*2^t.wd i+2^t.wd i) 1 (L2 [] [_,_,_,_,_] 3267494917 8321 47068199 51185910 rfl a h3))⟩
 ·rintro⟨h1,h2,h3⟩;exact⟨h1,by exact L2 [] [_,_,_,_] 12469 8321 59583527 55314661 rfl a h2,by exact L3 [] [_,_,_,_,_,_] 55314614 532545 63844391 68037669 14551890280487 rfl a h3 (sC (t.rk i*2^t.wd i+2^t.wd i) 1 (L2 [] [_,_,_,_,_] 3267494917 8321 14550 47070247 rfl h a))⟩
theorem good.up0(g:t.good){s:Nat}(hs:t.known s){st:Nat}(hst:st<t.z){k:Nat}(hj:∀ j,j<k→2*(t.own s).length≤(st+t.z)/2^j)(hk:(st+t.z)/2^k<2*(t.own s).length) :
    (t.own s).length≤(st+t.z)/2^k∧jl t.z ((st+t.z)/2^k)=k:=by
  refine uA (λp1 p2=>?_) (g.nq hs)
  have hlow:(t.own s).length≤(st+t.z)/2^k:=by
    cases k with
    | zero=>rw[Nat.pow_zero,Nat.div_one];exact L1 [] [_,_,_] 55314613 129 13493 rfl p2
    | succ k=>
      have:=hj k (by exact L0 [] [_] 269158582 1 rfl)
      rw[Nat.pow_succ,←Nat.div_div_eq_div_mul];exact L3 [] [_,_,_,_] 12469 528514 55248981 227146863655 131302 rfl this (Nat.div_add_mod ((st+t.z)/2^k) 2) (Nat.mod_lt ((st+t.z)/2^k) (y:=2) (by decide))
  refine⟨hlow,?_⟩
  have bM:t.z=2^t.log:=rfl
  have Vo:t.log≤6:=by rcases g.1 with h|h<;>(first|exact L1 [] [_] 393397 129 327863 rfl h|exact L1 [] [_] 393397 129 393399 rfl h)
  have hle:2^k≤st+t.z:=by
    apply Nat.le_of_not_lt
    intro q
    rw[Nat.div_eq_of_lt q] at hlow;exact L2 [] [_] 10 8320 720902 181 rfl p1 hlow
  have hkl:k≤t.log:=by
    apply Nat.le_of_not_lt
    intro q
    have:2^(t.log+1)≤2^k:=Nat.pow_le_pow_right (by decide) q
    rw[Nat.pow_succ] at this
    exact L4 [] [_,_,_,_] 10 34095232 12470 13511 51054821 59574373 rfl hst bM hle this
  have hd:=Nat.div_mul_le_self (st+t.z) (2^k)
  have hz1:t.z≤(st+t.z)/2^k*2^k:=by
    have e:2^t.log=2^(t.log-k)*2^k:=by rw[←Nat.pow_add];congr 1;exact nA (L1 [] [_,_,_] 55314613 65 47001639 rfl (sC (t.log) k (L1 [] [_,_] 12469 129 12469 rfl hkl))) (L1 [] [_,_,_] 55323685 129 55323687 rfl (sC (t.log) k (L1 [] [_,_] 12469 129 12469 rfl hkl)))
    have:2^(t.log-k)≤(st+t.z)/2^k:=by
      rw[Nat.le_div_iff_mul_le (Nat.two_pow_pos k),←e];exact L1 [] [_,_,_] 55314613 65 11479 rfl bM
    calc t.z=2^(t.log-k)*2^k:=by rw[bM,e]
      _≤_:=Nat.mul_le_mul_right _ this
  refine uJ (by exact L2 [] [_,_] 458933 8321 393413 12469 rfl Vo hkl) hz1 λj hjk=>?_
  have e:2^k=2^j*2^(k-j):=by rw[←Nat.pow_add];congr 1;exact nA (L1 [] [_,_,_] 55314613 65 46937127 rfl (sC k j (L1 [] [_,_] 12469 129 12470 rfl hjk))) (L1 [] [_,_,_] 55323685 129 55259175 rfl (sC k j (L1 [] [_,_] 12469 129 12470 rfl hjk)))
  have h2:2≤2^(k-j):=by
    calc 2=2^1:=rfl
      _≤_:=Nat.pow_le_pow_right (by decide) (by exact L2 [] [_,_,_] 721925 4225 13510 55323687 rfl hjk (sC k j (L1 [] [_,_] 12469 129 12470 rfl hjk)))
  rw[e,←Nat.mul_assoc] at hd
  have:(st+t.z)/(2^j*2^(k-j))*2^j*2≤(st+t.z)/(2^j*2^(k-j))*2^j*2^(k-j):=Nat.mul_le_mul_left _ h2
  rw[e]
  exact L3 [] [_,_,_,_] 12470 532610 12502 51185893 59443301 rfl hst hd this
theorem good.up1 (g:t.good){s:Nat}(hs:t.known s){st:Nat}(hst:st<t.z){k:Nat}(hj:∀ j,j<k→2*(t.own s).length≤(st+t.z)/2^j)(hk:(st+t.z)/2^k<2*(t.own s).length) :
    (t.own s).length≤(st+t.z)/2^k∧(t.own s)[(st+t.z)/2^k-(t.own s).length]?=some (t.aQ s st)∧t.hit s st (t.aQ s st)=true∧t.aQ s st<t.z∧k=t.wd (t.aQ s st)∧t.rk (t.aQ s st)=(st+t.z)/2^k:=by
  refine uA (λh1 h2=>?_) (g.up0 hs hst hj hk)
  have hlt:(st+t.z)/2^k-(t.own s).length<(t.own s).length:=L2 [] [_,_,_] 12470 8321 50468054 55323687 rfl hk (sC ((st+t.z)/2^k) ((t.own s).length) (L1 [] [_,_] 12469 129 12469 rfl h1))
  obtain⟨i,hi⟩:∃ i,(t.own s)[(st+t.z)/2^k-(t.own s).length]?=some i:=⟨_,gE hlt⟩
  refine uA (λi1 i2=>?_) (t.vG hi)
  refine uA (λi3 _=>?_) (t.um hi)
  have i4:t.rk i=(st+t.z)/2^k:=nA (L2 [] [_,_,_,_] 12469 8321 59574455 51197991 rfl i3 (sC ((st+t.z)/2^k) ((t.own s).length) (L1 [] [_,_] 12469 129 12469 rfl h1))) (L2 [] [_,_,_,_] 12469 4161 59574471 47003687 rfl i3 (sC ((st+t.z)/2^k) ((t.own s).length) (L1 [] [_,_] 12469 129 12469 rfl h1)))
  have i5:t.wd i=k:=by unfold Tab.wd;rw[i4];exact h2
  have SQ:t.hit s st i=true:=(g.Dw i1).mpr ⟨i2,by rw[i5,i4]⟩
  have Vk:∀ j,j<t.z→t.hit s st j=true→j=i:=by
    intro j m6 hh
    refine uA (λj1 j2=>?_) ((g.Dw m6).mp hh)
    have ja:=t.zY m6 j1
    refine uA (λj3 j4=>?_) (t.um ja)
    have hw : t.wd j=k:=by
      rcases Nat.lt_trichotomy (t.wd j) k with q|q|q
      · have:=hj _ q;exact nA (L4 [] [_,_,_,_,_,_] 12469 34087040 14551 68094183 15622 55511125 rfl j2 j3 j4 this) (L4 [] [_,_,_,_,_,_] 12469 34087040 14551 68094183 15622 55511125 rfl j2 j3 j4 this)
      · exact q
      · exfalso
        have e:2^t.wd j=2^k*2^(t.wd j-k):=by rw[←Nat.pow_add];congr 1;exact nA (L1 [] [_,_,_] 55314613 65 46937127 rfl (sC (t.wd j) k (L1 [] [_,_] 12469 129 12470 rfl q))) (L1 [] [_,_,_] 55323685 129 55259175 rfl (sC (t.wd j) k (L1 [] [_,_] 12469 129 12470 rfl q)))
        rw[e,←Nat.div_div_eq_div_mul] at j2
        have h2p:2≤2^(t.wd j-k):=by
          calc 2=2^1:=rfl
            _≤_:=Nat.pow_le_pow_right (by decide) (by exact L2 [] [_,_,_] 721925 4225 13510 55323687 rfl q (sC (t.wd j) k (L1 [] [_,_] 12469 129 12470 rfl q)))
        have:(st+t.z)/2^k/2^(t.wd j-k)≤(st+t.z)/2^k/2:=Nat.div_le_div_left h2p (by decide)
        exact La.k6 [] [_,_,_,_,_,_,_,_] 10 70934868096 12470 14551 63703271 16597 313868293159 76295207 rfl hlt j2 j3 this (Nat.div_add_mod ((st+t.z)/2^k) 2) (sC ((st+t.z)/2^k) ((t.own s).length) (L2 [] [_,_,_,_] 12469 8257 59443415 12503 rfl i3 i4))
    rw[hw,j3] at j2
    have:(t.syms.take j).count s=(st+t.z)/2^k-(t.own s).length:=nA (L2 [] [_,_,_,_] 12469 4161 47057111 55455783 rfl j2 (sC ((st+t.z)/2^k) ((t.own s).length) (L2 [] [_,_,_,_] 12469 8257 59443415 12503 rfl i3 i4))) (L2 [] [_,_,_,_] 12469 8321 51251415 55454759 rfl j2 (sC ((st+t.z)/2^k) ((t.own s).length) (L2 [] [_,_,_,_] 12469 8257 59443415 12503 rfl i3 i4)))
    rw[this,hi] at ja
    exact(oI ja).symm
  have Mz:t.aQ s st=i:=by
    unfold Tab.aQ
    cases hf:(List.range t.z).find? (t.hit s st) with
    | none=>
      have:=List.find?_eq_none.mp hf i (List.mem_range.mpr i1)
      exact absurd SQ this
    | some j=>
      have a:=List.find?_some hf
      have b:=List.mem_of_find?_eq_some hf
      rw[Vk j (List.mem_range.mp b) a];rfl
  rw[Mz]
  exact⟨h1,hi,SQ,i1,i5.symm,i4⟩
theorem good.ends (g:t.good){s:Nat}(hs:t.known s){st:Nat}(hst:st<t.z):∃ k,(∀ j,j<k→2*(t.own s).length≤(st+t.z)/2^j)∧(st+t.z)/2^k<2*(t.own s).length:=by
  have key:∀ n,(∃ k,(∀ j,j<k→2*(t.own s).length≤(st+t.z)/2^j)∧(st+t.z)/2^k<2*(t.own s).length)∨∀ j,j<n→2*(t.own s).length≤(st+t.z)/2^j:=by
    intro n
    induction n with
    | zero=>exact .inr λj h=>by exact L1 [] [_,_,_] 51054677 128 214 rfl h
    | succ n ih=>
      rcases ih with h|h
      · exact .inl h
      · by_cases q:(st+t.z)/2^n<2*(t.own s).length
        · exact .inl ⟨n,h,q⟩
        · exact .inr λj hj=>by
            by_cases e:j=n
            · rw[e];exact L1 [] [_,_] 51054677 129 46273737 rfl q
            · exact h j (by exact Or.elim (Nat.lt_or_gt_of_ne e) (λz2=>L1 [] [_,_] 12470 129 12470 rfl z2) (λz2=>L2 [] [_,_] 12470 8320 269224118 11462 rfl hj z2))
  rcases key 8 with h|h
  · exact h
  · exfalso
    have h1:=h 7 (by exact L0 [] [] 33561606 1 rfl)
    have hp:=(g.nq hs).1
    have:st+t.z<2^7:=by rcases g.z with q|q<;>(first|exact L2 [] [_,_] 34364730406 16513 12470 2097351 rfl hst q|exact L2 [] [_,_] 34364730406 16513 12470 4195527 rfl hst q)
    rw[Nat.div_eq_of_lt this] at h1
    exact L2 [] [_] 10 16512 723029 720902 rfl h1 hp
theorem good.ok (g:t.good):TabOk t where
  log:=g.1
  top:=λi h=>g.top h
  cs:=g.2.hi
  ahead:=λs hs st hst=>by
    refine aD (λk h1 h2=>?_) (g.ends hs hst)
    refine H7 (λ_ _ h3 h4 _ _=>?_) (g.up1 hs hst h1 h2)
    unfold Tab.hit at h3
    rw[Bool.and_eq_true,Bool.and_eq_true,decide_eq_true_iff,decide_eq_true_iff,beq_iff_eq] at h3
    exact⟨h4,h3.1,h3.2.1,h3.2.2⟩
  least:=λs hs=>by
    have hp:=(g.nq hs).1
    have h0:(t.own s)[0]?=some ((t.own s)[0]):=gE hp
    have e:(t.own s)[0]?=(List.range t.z).find? λi=>t.sy i == s:=by
      rw[←List.head?_eq_getElem?]
      unfold Tab.own
      exact List.head?_filter
    have e2:t.aZ s=(t.own s)[0]:=by
      unfold Tab.aZ
      rw[←e,h0];rfl
    rw[e2]
    refine uA (λa b=>?_) (t.vG h0)
    exact⟨a,b,h0⟩
  up:=λs hs st hst k h1 h2=>by
    refine H7 (λa b c d e f=>?_) (g.up1 hs hst h1 h2)
    refine⟨a,b,?_,e⟩
    refine uA (λw1 w2=>?_) (g.wide d)
    have hm:=Nat.div_add_mod (st+t.z) (2^k)
    rw[Nat.mul_comm] at hm
    rw[f,←e] at w1
    exact nA (L3 [] [_,_,_,_,_,_] 12469 270465 63845415 244822260775 67973159 rfl w1 hm (sC st (t.bs (t.aQ s st)) (L2 [] [_,_,_,_,_] 12469 8321 59583527 226568910887 rfl w1 hm))) (L3 [] [_,_,_,_,_,_] 12469 528449 63845415 244822326311 67972135 rfl w1 hm (sC st (t.bs (t.aQ s st)) (L2 [] [_,_,_,_,_] 12469 8321 59583527 226568910887 rfl w1 hm)))
  own:=λs hs=>(g.nq hs).1
  z7:=λc hc q=>by
    subst q
    have d:=g.2
    have hz:0<t.z:=by rcases g.z with h|h<;>(first|exact L1 [] [_] 720902 65 2097335 rfl h|exact L1 [] [_] 720902 65 4195511 rfl h)
    have key:∀ (l:List Int),(∀ c∈l,-1≤c)→0≤(l.map ig).sum:=by
      intro l
      induction l with
      | nil=>intro _;simp
      | cons a l ih=>
        intro h
        have h1:=h a (.head _)
        have h2:=ih λc hc=>h c (.tail _ hc)
        rw[List.map_cons,List.sum_cons]
        unfold ig at *
        split<;>(first|exact X3 h2|exact XS h1 h2 (by assumption))
    refine Pu (λl1 l2 hl=>?_) (List.append_of_mem hc)
    have hs:=d.sum
    have hg:=d.ge
    have hlo:=d.lo
    have hh:=d.head
    have hla:=d.last
    have hpz:ig (t.z:Int)=t.z:=by unfold ig;rw[if_neg (by exact λq=>L2 [] [_] 10 8320 720902 268708978 rfl hz q)]
    rw[hl] at hs hg hh hla hlo
    rw[List.map_append,List.sum_append,List.map_cons,List.sum_cons,hpz] at hs
    have k1:=key l1 λc hc=>hg c (List.mem_append_left _ hc)
    have k2:=key l2 λc hc=>hg c (List.mem_append_right _ (.tail _ hc))
    have pos:∀ c,-1≤c→c≠0→0<ig c:=by intro c h1 h2;unfold ig;split<;>(first|exact XQ|exact XM h1 h2 (by assumption))
    cases l1 with
    | cons a l1=>
      have ha:=pos a (hg a (by simp)) (by simpa using hh)
      have k3:=key l1 λc hc=>hg c (by simp[hc])
      rw[List.map_cons,List.sum_cons] at hs
      exact L4 [_,_,_] [_] 10 34087040 720896 3202845606725552162 786433 851968 rfl k2 hs ha k3
    | nil=>
      rw[List.nil_append,List.length_cons] at hlo
      have hne:l2≠[]:=λq=>by rw[q] at hlo;simp at hlo
      refine Pu (λl3 b gP=>?_) (l2.eq_nil_or_concat.resolve_left hne);subst gP
      rw[List.concat_eq_append] at *
      have hb:b≠0:=by
        simpa [gD] using hla
      have hb2:=pos b (hg b (by simp)) hb
      have k3:=key l3 λc hc=>hg c (by simp[hc])
      rw[List.map_append,List.sum_append] at hs
      simp at hs
      exact L3 [_,_] [_] 10 532608 720897 786432 781944976251938 rfl hb2 k3 hs
end Tab
noncomputable def gM(cs:List Int)(k:Nat):List Nat:=(List.range k).filter λs=>cs.getD s 0 == -1
noncomputable def dz(cs:List Int)(k:Nat):List Nat:=(List.range k).flatMap λs=>List.replicate (cs.getD s 0).toNat s
theorem u6(cs:List Int):gM cs cs.length=aW cs:=rfl
theorem nC(cs:List Int):dz cs cs.length=cR cs:=rfl
theorem jV(cs:List Int)(k:Nat):gM cs (k+1)=gM cs k++if cs.getD k 0 = -1 then [k] else []:=by
 unfold gM
 rw[List.range_succ,List.filter_append]
 congr 1
 by_cases h:cs.getD k 0 = -1
 ·rw[if_pos h,List.filter_cons,if_pos (by simpa using h),List.filter_nil]
 ·rw[if_neg h,List.filter_cons,if_neg (by simpa using h),List.filter_nil]
theorem jq(cs:List Int)(k:Nat):dz cs (k+1)=dz cs k++List.replicate (cs.getD k 0).toNat k:=by
 unfold dz
 rw[List.range_succ,List.flatMap_append];simp
theorem Cp(cs:List Int){k n:Nat}(h:k≤n):dz cs k <+: dz cs n:=by
  induction n with
  | zero=>rw[show k=0 by exact nA (L1 [] [_] 181 129 181 rfl h) (L0 [] [_] 720901 1 rfl)];exact List.prefix_refl _
  | succ n ih=>
    by_cases q:k=n+1
    · rw[q];exact List.prefix_refl _
    · exact(ih (by exact Or.elim (Nat.lt_or_gt_of_ne q) (λz2=>L1 [] [_,_] 12469 129 269224118 rfl z2) (λz2=>L2 [] [_,_] 12469 8320 269224117 2956996646 rfl h z2))).trans (by rw[jq];exact List.prefix_append _ _)
theorem Gb(cs:List Int)(k:Nat):(gM cs k).length≤k:=by
 unfold gM
 have:=List.length_filter_le (λs=>cs.getD s 0 == -1) (List.range k)
 rwa [List.length_range] at this
noncomputable def jg(z:Nat)(r:List Nat):List Nat:=(List.range z).map λp=>if p<z-r.length then 0 else r.getD (z-1-p) 0
theorem pY(z:Nat)(r:List Nat):(jg z r).length=z:=by simp[jg]
theorem G9(z:Nat):jg z []=List.replicate z 0:=by
 apply List.ext_getElem
 ·simp[jg]
 ·intro i h1 h2
  simp only[jg,List.getElem_map,List.getElem_range,List.getElem_replicate]
  rw[pY] at h1
  rw[if_pos (by simpa using h1)]
theorem Ec{z:Nat}{r:List Nat}(s:Nat)(h:r.length<z):(jg z r).set (z-1-r.length) s=jg z (r++[s]):=by
 apply List.ext_getElem
 ·simp[jg]
 ·intro i h1 h2
  rw[pY] at h2
  rw[List.getElem_set]
  simp only[jg,List.getElem_map,List.getElem_range,lA,List.length_singleton]
  by_cases q:z-1-r.length=i
  ·rw[if_pos q,if_neg (by exact L4 [] [_,_,_,_,_,_] 12473 33824897 11479 63768805 4299175975 17609428971559 rfl q (Nat.le_add_of_sub_le (nR (z-1-r.length))) (sC z 1 (L1 [] [_,_] 721925 129 11462 rfl h)) (sC z (r.length+1) (L1 [] [_,_] 3225431077 129 12470 rfl h))),gD,List.getElem?_append_right (by exact Or.elim (Nat.le_total (z-1) (r.length)) (λz2=>L3 [] [_,_,_,_,_] 12469 270401 14551 63648807 63844391 rfl q (sC (z-1) (r.length) (L2 [] [_,_,_] 12469 4225 13494 3493867559 rfl h (sC z 1 (L1 [] [_,_] 721925 129 11462 rfl h)))) (sC (z-1) i (L2 [] [_,_,_] 12469 4225 13494 3493867559 rfl h2 (sC z 1 (L1 [] [_,_] 721925 129 11462 rfl h))))) (λz2=>L3 [] [_,_,_,_,_] 12469 270401 14551 63648807 63844391 rfl q (sC (z-1) (r.length) (L2 [] [_,_,_] 12469 4225 13494 3493867559 rfl h (sC z 1 (L1 [] [_,_] 721925 129 11462 rfl h)))) (sC (z-1) i (L2 [] [_,_,_] 12469 4225 13494 3493867559 rfl h2 (sC z 1 (L1 [] [_,_] 721925 129 11462 rfl h)))))),show z-1-i-r.length=0 by exact Or.elim (Nat.le_total (z-1-i) (r.length)) (λz2=>nA (L2 [] [_,_,_] 181 8321 13509 51194919 rfl z2 (sC (z-1-i) (r.length) (L3 [] [_,_,_,_,_] 12469 532545 14551 59508981 63648807 rfl q (Nat.le_add_of_sub_le (nR (z-1-i))) (sC (z-1) (r.length) (L2 [] [_,_,_] 12469 4225 13494 3493867559 rfl h (sC z 1 (L1 [] [_,_] 721925 129 11462 rfl h))))))) (L4 [] [_,_,_,_,_,_] 720901 17309761 13511 55511269 59781159 63974439 rfl q (Nat.le_add_of_sub_le (nR (z-1-i))) (sC (z-1) (r.length) (L2 [] [_,_,_] 12469 4225 13494 3493867559 rfl h (sC z 1 (L1 [] [_,_] 721925 129 11462 rfl h)))) (sC (z-1-i) (r.length) (L3 [] [_,_,_,_,_] 12469 532545 14551 59508981 63648807 rfl q (Nat.le_add_of_sub_le (nR (z-1-i))) (sC (z-1) (r.length) (L2 [] [_,_,_] 12469 4225 13494 3493867559 rfl h (sC z 1 (L1 [] [_,_] 721925 129 11462 rfl h)))))))) (λz2=>Or.elim (Nat.le_total (z-1) i) (λz1=>nA (L2 [] [_,_,_] 181 8321 199 51194919 rfl (sZ (z-1) i (L1 [] [_,_] 12469 129 12469 rfl z1)) (sC (z-1-i) (r.length) (L1 [] [_,_] 12469 129 12469 rfl z2))) (L2 [] [_,_,_] 720901 4225 13509 55323687 rfl z2 (sC (z-1-i) (r.length) (L1 [] [_,_] 12469 129 12469 rfl z2)))) (λz1=>nA (L4 [] [_,_,_,_,_,_] 181 33824897 13511 63780903 63975463 59780135 rfl q (sC (z-1) i (L1 [] [_,_] 12469 129 12469 rfl z1)) (sC (z-1) (r.length) (L2 [] [_,_,_] 12469 4225 13494 3493867559 rfl h (sC z 1 (L1 [] [_,_] 721925 129 11462 rfl h)))) (sC (z-1-i) (r.length) (L3 [] [_,_,_,_,_] 12469 528449 14551 63844391 63648807 rfl q (sC (z-1) i (L1 [] [_,_] 12469 129 12469 rfl z1)) (sC (z-1) (r.length) (L2 [] [_,_,_] 12469 4225 13494 3493867559 rfl h (sC z 1 (L1 [] [_,_] 721925 129 11462 rfl h))))))) (L4 [] [_,_,_,_,_,_] 720901 17305665 13511 63780903 63975463 59780135 rfl q (sC (z-1) i (L1 [] [_,_] 12469 129 12469 rfl z1)) (sC (z-1) (r.length) (L2 [] [_,_,_] 12469 4225 13494 3493867559 rfl h (sC z 1 (L1 [] [_,_] 721925 129 11462 rfl h)))) (sC (z-1-i) (r.length) (L3 [] [_,_,_,_,_] 12469 528449 14551 63844391 63648807 rfl q (sC (z-1) i (L1 [] [_,_] 12469 129 12469 rfl z1)) (sC (z-1) (r.length) (L2 [] [_,_,_] 12469 4225 13494 3493867559 rfl h (sC z 1 (L1 [] [_,_] 721925 129 11462 rfl h)))))))))];rfl
  ·rw[if_neg q]
   by_cases q2:i<z-r.length
   ·rw[if_pos q2,if_pos (by exact Or.elim (Nat.lt_or_gt_of_ne q) (λz2=>L5 [] [_,_,_,_,_,_,_] 12470 2164793472 13494 11494 68028661 4567612455 72365095 rfl q2 z2 (Nat.le_add_of_sub_le (nR (z-1-r.length))) (sC z 1 (L1 [] [_,_] 721925 129 11462 rfl h)) (sC z (r.length) (L1 [] [_,_] 12469 129 12470 rfl h))) (λz2=>Or.elim (Nat.le_total (z-1) (r.length)) (λz1=>L4 [] [_,_,_,_,_,_] 12470 17309825 13494 4030740519 59782183 16509921538087 rfl z2 (sC z 1 (L1 [] [_,_] 721925 129 11462 rfl h)) (sC (z-1) (r.length) (L2 [] [_,_,_] 12469 4225 13494 3493867559 rfl h (sC z 1 (L1 [] [_,_] 721925 129 11462 rfl h)))) (sC z (r.length+1) (L1 [] [_,_] 3225431077 129 12470 rfl h))) (λz1=>L4 [] [_,_,_,_,_,_] 12470 17309825 13494 4030740519 59782183 16509921538087 rfl z2 (sC z 1 (L1 [] [_,_] 721925 129 11462 rfl h)) (sC (z-1) (r.length) (L2 [] [_,_,_] 12469 4225 13494 3493867559 rfl h (sC z 1 (L1 [] [_,_] 721925 129 11462 rfl h)))) (sC z (r.length+1) (L1 [] [_,_] 3225431077 129 12470 rfl h)))))]
   ·rw[if_neg q2,if_neg (by exact L3 [] [_,_,_,_,_] 12473 528513 13497 63845415 16509913149479 rfl q2 (sC z (r.length) (L1 [] [_,_] 12469 129 12470 rfl h)) (sC z (r.length+1) (L1 [] [_,_] 3225431077 129 12470 rfl h))),gD,gD,List.getElem?_append_left (by exact Or.elim (Nat.le_total (z-1) i) (λz2=>L4 [] [_,_,_,_,_,_] 12470 33824897 14553 4299176999 67909671 63777831 rfl q2 (sC z 1 (L1 [] [_,_] 721925 129 11462 rfl h)) (sC z (r.length) (L1 [] [_,_] 12469 129 12470 rfl h)) (sC (z-1) i (L2 [] [_,_,_] 12469 4225 13494 3493867559 rfl h2 (sC z 1 (L1 [] [_,_] 721925 129 11462 rfl h))))) (λz2=>L4 [] [_,_,_,_,_,_] 12470 33824897 14553 4299176999 67909671 63777831 rfl q2 (sC z 1 (L1 [] [_,_] 721925 129 11462 rfl h)) (sC z (r.length) (L1 [] [_,_] 12469 129 12470 rfl h)) (sC (z-1) i (L2 [] [_,_,_] 12469 4225 13494 3493867559 rfl h2 (sC z 1 (L1 [] [_,_] 721925 129 11462 rfl h))))))]
theorem Ay{z:Nat}{o r:List Nat}(h:r.length≤z):jg z r=fj z (z-r.length) o r 0:=by
 unfold jg fj
 refine List.map_congr_left λp _=>?_
 split
 ·rw[if_neg (by exact L0 [] [_] 185 1 rfl)]
 ·rfl
theorem pZ(z f:Nat)(o r:List Nat)(k:Nat):(fj z f o r k).length=z:=by simp[fj]
theorem fQ(z f j:Nat):vis z f (j+1)=vis z f j++if fY z j<f then [fY z j] else []:=by
 unfold vis
 rw[List.range_succ,List.map_append,List.filter_append]
 congr 1
 by_cases h:fY z j<f
 ·rw[if_pos h];simp[h]
 ·rw[if_neg h];simp[h]
theorem Bu(z f:Nat){j n:Nat}(h:j≤n):vis z f j <+: vis z f n:=by
  induction n with
  | zero=>rw[show j=0 by exact nA (L1 [] [_] 181 129 181 rfl h) (L0 [] [_] 720901 1 rfl)];exact List.prefix_refl _
  | succ n ih=>
    by_cases q:j=n+1
    · rw[q];exact List.prefix_refl _
    · exact(ih (by exact Or.elim (Nat.lt_or_gt_of_ne q) (λz2=>L1 [] [_,_] 12469 129 269224118 rfl z2) (λz2=>L2 [] [_,_] 12469 8320 269224117 2956996646 rfl h z2))).trans (by rw[fQ];exact List.prefix_append _ _)
theorem HX{z f j:Nat}(hj:j<z)(h:fY z j<f):(vis z f z)[(vis z f j).length]?=some (fY z j):=by
 obtain⟨t,ht⟩:=Bu z f (show j+1≤z by exact XK hj)
 rw[fQ,if_pos h] at ht
 rw[←ht]
 simp
theorem rH(z:Nat):fY z 0=0:=by simp[fY]
theorem K8(z:Nat):fY z z=0:=by unfold fY;exact Nat.mul_mod_right z _
theorem yO(z j:Nat):(fY z j+jU z)%z=fY z (j+1):=by
 unfold fY
 rw[Nat.mod_add_mod,Nat.add_mul,Nat.one_mul]
theorem Qp{z j:Nat}(hz:0<z):fY z j<z:=Nat.mod_lt _ hz
theorem Hf {z f:Nat}{o r:List Nat}{j s:Nat}(nd:(vis z f z).Nodup)(hf:f≤z)(hj:j<z)(h:fY z j<f)(hs:o.getD (vis z f j).length 0=s) :
    (fj z f o r (vis z f j).length).set (fY z j) s=fj z f o r (vis z f (j+1)).length:=by
  have hat:=HX hj h
  obtain⟨hi,hv⟩:=List.getElem?_eq_some_iff.mp hat
  rw[fQ,if_pos h,lA,List.length_singleton]
  apply List.ext_getElem
  · simp[fj]
  · intro i h1 h2
    rw[pZ] at h2
    rw[List.getElem_set]
    simp only[fj,List.getElem_map,List.getElem_range]
    by_cases q:fY z j=i
    · subst q
      have:(vis z f z).idxOf (fY z j)=(vis z f j).length:=by
        conv=>lhs;rw[←hv]
        exact List.Nodup.idxOf_getElem nd _ hi
      rw[if_pos rfl,if_pos h,this,if_pos (by exact L0 [] [_] 269158582 1 rfl),hs]
    · rw[if_neg q]
      by_cases q2:i<f
      · rw[if_pos q2,if_pos q2]
        have hne:(vis z f z).idxOf i≠(vis z f j).length:=by
          intro e
          apply q
          by_cases hm:i∈vis z f z
          · have h3:=List.getElem_idxOf (List.idxOf_lt_length_of_mem hm)
            simp only[e] at h3
            rw[←h3,←hv]
          · rw[List.idxOf_eq_length hm] at e;exact nA (L2 [] [_,_,_,_] 12469 8320 14550 13543 rfl hi e) (L2 [] [_,_,_,_] 12469 8320 14550 13543 rfl hi e)
        by_cases q3:(vis z f z).idxOf i<(vis z f j).length
        · rw[if_pos q3,if_pos (by exact L1 [] [_,_] 269224118 129 12470 rfl q3)]
        · rw[if_neg q3,if_neg (by exact Or.elim (Nat.lt_or_gt_of_ne hne) (λz2=>L2 [] [_,_] 269224121 8320 12473 12470 rfl q3 z2) (λz2=>L1 [] [_,_] 269224121 129 11462 rfl z2))]
      · rw[if_neg q2,if_neg q2]
theorem Ed{z f:Nat}{o r:List Nat}{n:Nat}(hn:f≤n)(hF:(vis z f z).length=f)(hall:∀ p,p<f→p∈vis z f z)(hz:f≤z):fj z f o r n=fj z f o r z:=by
 unfold fj
 refine List.map_congr_left λp _=>?_
 by_cases h:p<f
 ·have:=List.idxOf_lt_length_of_mem (hall p h)
  rw[if_pos h,if_pos h,if_pos (by exact L3 [] [_,_,_,_] 12470 532609 12501 13543 14518 rfl hn hF this),if_pos (by exact L3 [] [_,_,_,_] 12470 532609 14551 12517 13494 rfl hF hz this)]
 ·rw[if_neg h,if_neg h]
structure gk(z f:Nat)(cs:List Int):Prop where
 zz:z=32∨z=64
 Rk:f=z-(aW cs).length
 free:0<f
 Rj:f≤z
 Ig:(cR cs).length=f
 rlen:(aW cs).length≤7
 nd:(vis z f z).Nodup
 HW:(vis z f z).length=f
 Kp:∀ p,p<f→p∈vis z f z
theorem Drawn.yC{z many:Nat}{cs:List Int}(d:Drawn z many cs)(hz:z=32∨z=64):gk z (fK z cs) cs:=by
 have hr:=d.K4
 obtain⟨v1,v2,v3⟩:=yu hz hr
 have hf:fK z cs=z-(aW cs).length:=rfl
 exact⟨hz,hf,by rcases hz with h|h<;>(first|exact L4 [] [_,_,_,_] 720902 17043585 458949 13495 2097383 59520039 rfl hr hf h (sC z ((aW cs).length) (L2 [] [_,_] 12469 4225 458933 2097351 rfl hr h))|exact L4 [] [_,_,_,_] 720902 17043585 458949 13495 4195559 59520039 rfl hr hf h (sC z ((aW cs).length) (L2 [] [_,_] 12469 4225 458933 4195527 rfl hr h))),by exact L2 [] [_,_,_] 12469 8321 13495 12501 rfl hf (Nat.sub_le z ((aW cs).length)),d.free_eq.symm,hr,v2,v1,v3⟩
theorem gk.full{z f:Nat}{cs:List Int}(h:gk z f cs):fj z f (cR cs) (aW cs) f=dR z cs:=by
 have hf:=h.Rk
 unfold dR
 rw[show fK z cs=f from hf.symm]
 exact Ed (nR _) h.HW h.Kp h.Rj
theorem gk.lt{z f:Nat}{cs:List Int}(h:gk z f cs){j:Nat}(hj:j≤z)(hn:(vis z f j).length<f):j<z:=by
 apply Nat.lt_of_le_of_ne hj
 intro q
 subst q
 rw[h.HW] at hn
 exact L1 [] [_] 10 128 11446 rfl hn
theorem bf(c:Int):Builtin.Range.rangeSize 0 c 1=((c.toNat:Nat):Int):=by
 unfold Builtin.Range.rangeSize
 rw[if_pos (by decide)]
 by_cases h:(0:Int)<c
 ·rw[if_pos h,Int.ediv_one,Int.sub_zero,Int.sub_add_cancel];exact(Int.toNat_of_nonneg (Int.le_of_lt h)).symm
 ·rw[if_neg h,Int.toNat_of_nonpos (Int.not_lt.mp h)];rfl
theorem z8(l:List Nat)(i v:Nat):(nL l).set i (.int (v:Int))=nL (l.set i v):=by simp[nL,iL,List.map_set]
theorem Qt(n v:Nat):List.replicate n (AV.int (v:Int))=nL (List.replicate n v):=by simp[nL,iL]
theorem uV{z f:Nat}{cs:List Int}(hz2:z=32∨z=64)(hd:Drawn z cs.length cs)(sp:gk z f cs){k:Nat}(hk2:k<cs.length) :
  (dz cs k).length+(cs.getD k 0).toNat≤f∧(∀ i,i<(cs.getD k 0).toNat→(cR cs).getD ((dz cs k).length+i) 0=k)∧-1≤cs.getD k 0∧cs.getD k 0≤64:=by
 refine uE (λtl htl=>?_) (Cp cs (show k+1≤cs.length by exact L1 [] [_,_] 3225431077 129 12470 rfl hk2))
 rw[nC,jq] at htl
 have hfl:=sp.Rj
 have htot:(dz cs k).length+(cs.getD k 0).toNat≤f:=by
  have:=congrArg List.length htl
  rw[lA,lA,List.length_replicate,sp.Ig] at this
  exact L1 [] [_,_,_,_] 55323685 129 227147450407 rfl this
 refine⟨htot,λi hi=>?_,hd.Ot hk2,by exact Or.elim hz2 (λz2=>L4 [_] [_,_,_,_] 4195504 34087041 12469 47068197 2097351 924848 rfl hfl htot z2 (Int.self_le_toNat (cs.getD k 0))) (λz2=>L4 [_] [_,_,_,_] 4195504 34087041 12469 47068197 4195527 924848 rfl hfl htot z2 (Int.self_le_toNat (cs.getD k 0)))⟩
 rw[←htl,gD,aA,List.getElem?_append_right (by exact L0 [] [_,_] 51054773 1 rfl),Nat.add_sub_cancel_left,List.getElem?_append_left (by rw[List.length_replicate];exact hi),List.getElem?_replicate,if_pos hi];rfl
theorem uQ{z log:Nat}(hz:z=2^log){a s:Int}{j:Nat}(ha:a=(fY z j:Nat))(hs:s=(jU z:Nat)):Builtin.bitAnd (a+s) ((z:Int)-1)=((fY z (j+1):Nat):Int):=by
 rw[ha,hs,←Int.natCast_add,show((z:Int)-1)=(2:Int)^log-1 by rw[eV,hz],lJ,←hz,yO]
theorem KH(z:Nat):((z:Int).fdiv (2^Int.toNat 1)+(z:Int).fdiv (2^Int.toNat 3)+3)=((jU z:Nat):Int):=by
 rw[show((2:Int)^Int.toNat 1)=((2:Nat):Int) from rfl,show((2:Int)^Int.toNat 3)=((8:Nat):Int) from rfl,f9,f9]
 unfold jU;exact id (iA (L0 [] [_,_] 929374747838259481010440224 1 rfl) (L0 [] [_,_] 929370192911039882347022448 1 rfl))
inductive SpA (S D:Addr) (log z:Nat) (cs:List Int) (gr:Led):Nat→Vs→Vs→Gs→Prop
  | mk (k:Nat) (h:Int) (ls:List AV) (sv cv:Option AV):h=(z:Int)-1-(gM cs k).length→ls=nL (jg z (gM cs k))→
    SpA S D log z cs gr k [some (.ref S),some (.int log),some .none,some (.int z),some (.ref D),some (.int h),sv,cv,none,none,none] [] [gr,[(D,.list ls)]]
inductive Wk (S D:Addr) (log z f:Nat) (cs:List Int) (gr:Led) (tl:Gs) (sv cv:Option AV) (cnt:Nat→Nat):Nat→Vs→Vs→Gs→Prop
  | mk (k j:Nat) (h st sa:Int) (ls:List AV) (tv:Option AV):h=(f:Int)-1→st=(jU z:Nat)→sa=(fY z j:Nat)→ls=nL (fj z f (cR cs) (aW cs) (cnt k))→j≤z→(vis z f j).length=cnt k→fY z j<f→
    Wk S D log z f cs gr tl sv cv cnt k [some (.ref S),some (.int log),some .none,some (.int z),some (.ref D),some (.int h),sv,cv,some (.int st),some (.int sa),tv] [] (gr::[(D,.list ls)]::tl)
inductive SpO (S D:Addr) (log z f:Nat) (cs:List Int) (gr:Led) (k:Nat) (xs ys:Vs) (gs:Gs):Prop
 | mk (sv cv:Option AV):Wk S D log z f cs gr [] sv cv (λk=>(dz cs k).length) k xs ys gs→SpO S D log z f cs gr k xs ys gs
inductive SpW (S D:Addr) (log z f:Nat) (h st:Int) (gr:Led) (ls:List AV) (tl:Gs) (sv cv tv:Option AV) (N:Nat):Nat→Vs→Vs→Gs→Prop
  | mk (q j:Nat) (sa:Int):q=z-j→sa=(fY z j:Nat)→j≤z→(vis z f j).length=N→
    SpW S D log z f h st gr ls tl sv cv tv N q [some (.ref S),some (.int log),some .none,some (.int z),some (.ref D),some (.int h),sv,cv,some (.int st),some (.int sa),tv] [] (gr::[(D,.list ls)]::tl)
theorem FW (w:World)(b:Bool)(base:Heap)(S:Addr)(cs:List Int)(log:Nat)(hl:log=5∨log=6)(hS:bW w base S (.list (iL cs)))(hd:Drawn (2^log) cs.length cs) :
    FX w b 4 284 base [.ref S,.int log] [] (λ_:Addr=>True) (λr=>.ref r) (λr=>[[(r,.list (nL (dR (2^log) cs)))]]) bN:=by
  have hil:=gG cs
  have fH:cs.length≤7:=hd.hi
  obtain⟨z,hz⟩:∃ z,z=2^log:=⟨_,rfl⟩
  have hd0:=hd
  rw[←hz] at hd⊢
  have hz2:z=32∨z=64:=by rcases hl with rfl|rfl<;>rw[hz]<;>decide
  have e1:(1*2^((log:Nat):Int).toNat:Int)=((z:Nat):Int):=by rw[Int.toNat_natCast,Int.one_mul,eV,hz]
  have sp:=hd.yC hz2
  obtain⟨f,hf⟩:∃ f,f=fK z cs:=⟨_,rfl⟩
  rw[←hf] at sp
  have hfe:=sp.Rk
  have hfr:=sp.free
  have hfl:=sp.Rj
  have hrz:=sp.rlen
  have hz0:0<z:=L2 [] [_,_] 720902 8321 786438 11461 rfl hfr hfl
  refine FX.go ["counts","log"] ["fault","size","symbols","high","symbol","count","step","state","turn"] rfl rfl rfl (λ_ _=>rfl) (by decide +kernel) ?_
  rintro k hk ow rfl-rfl-hR
  refine aF hk [] (by decide) (λbase' aK=>JH k.w _ base' S cs log hl (hS.keeps aK.keep) hd0) aX (nR _) ?_
  refine kE hk (by exact L0 [] [_] 46596096 1 rfl) (by exact Or.elim hl (λz2=>L1 [] [_] 4194304076912 129 327863 rfl z2) (λz2=>L1 [] [_] 4194304076912 129 393399 rfl z2)) (by decide) (jL e1 ?_)
  refine dH hk ["symbols","high"] (by decide +kernel) (by decide) rfl ?_
  refine iB hk [] rfl (by decide +kernel) rfl (λ_=>rfl) λK hK=>?_
  refine eN hk.nc λrr=>?_
  refine tC (cnt:=z) hk hK [] [] rfl rfl (λ_ _=>rfl) (aj 0 0 rfl) (small_one (by decide) (by decide) (by exact L1 [] [_] 859848489200905000509768768 129 720902 rfl hz0) (by exact Or.elim hz2 (λz2=>L1 [] [_] 19342813113834066795375729 129 2097335 rfl z2) (λz2=>L1 [] [_] 19342813113834066795375729 129 4195511 rfl z2))) (by rw[bf];rfl) (by exact Or.elim hz2 (λz2=>L1 [] [_] 65536001205 129 2097335 rfl z2) (λz2=>L1 [] [_] 65536001205 129 4195511 rfl z2)) (λk=>nL (List.replicate k 0)) (λk=>0+k*1) (λ_ _=>rfl) rfl ?_ ?_
  · refine λD=>aB hk ?_
    refine eO hk ow (λ_=>rfl) ?_
    refine pR hk (.b hS) rfl (SpA S D log z cs _) (.mk 0 _ _ none none (by show(z:Int)-1=_-((0:Nat):Int);exact id (iA (L0 [] [_] 8282638124623042649136 1 rfl) (L0 [] [_] 4848819778193766453021744 1 rfl))) (by rw[←G9];rfl)) (λk xs ys gs _=>.b hS) (λxs ys gs hI=>?_) (λk' hk2 xs ys gs hI e it T P hP=>?_)
    · obtain⟨h,ls,sv,cv,eh,els⟩:=hI
      rw[hil,u6] at eh els
      refine dH hk ["step","state"] (by decide +kernel) (by decide) rfl ?_
      refine pP hk (by decide) ?_
      refine pP hk (by decide) ?_
      refine eO hk ow (λ_=>rfl) ?_
      refine pR hk (.b hS) rfl (SpO S D log z f cs _) (.mk _ _ (.mk 0 0 _ _ _ _ none (by exact Or.elim (Nat.le_total z ((aW cs).length)) (λz2=>iA (L3 [_] [_,_] 17226468528 532608 12471 720902 199 rfl hfe hfr (sZ z ((aW cs).length) (L1 [] [_,_] 12469 129 12469 rfl z2))) (L3 [_] [_,_] 189247724592 532608 12471 720902 199 rfl hfe hfr (sZ z ((aW cs).length) (L1 [] [_,_] 12469 129 12469 rfl z2)))) (λz2=>iA (L3 [_] [_,_,_,_] 17226468528 270401 12471 63544079023279282 55455783 rfl hfe eh (sC z ((aW cs).length) (L1 [] [_,_] 12469 129 12469 rfl z2))) (L3 [_] [_,_,_,_] 189247724592 528513 12471 63544079023279282 55455783 rfl hfe eh (sC z ((aW cs).length) (L1 [] [_,_] 12469 129 12469 rfl z2))))) (KH z) (by rw[rH];rfl) (by rw[els,Ay (o:=cR cs) (by exact Or.elim (Nat.le_total z ((aW cs).length)) (λz2=>L3 [] [_,_,_,_] 12469 532608 14551 851974 231 rfl hfe hfr (sZ z ((aW cs).length) (L1 [] [_,_] 12469 129 12469 rfl z2))) (λz2=>L3 [] [_,_,_,_] 12469 532609 14551 851974 51066919 rfl hfe hfr (sC z ((aW cs).length) (L1 [] [_,_] 12469 129 12469 rfl z2)))),←hfe];rfl) (Nat.zero_le _) rfl (by rw[rH];exact hfr))) (λk xs ys gs _=>.b hS) (λxs ys gs hI=>?_) (λk' hk2 xs ys gs hI e it T P hP=>?_)
      · obtain⟨sv,cv,hI⟩:=hI
        obtain⟨j,h,st,sa,ls,tv,-,-,-,els,-⟩:=hI
        have els:ls=nL (dR z cs):=by rw[els,hil,nC,sp.Ig,sp.full]
        exact aq [1] (els▸hR D trivial)
      · obtain⟨sv,cv,hI⟩:=hI
        obtain⟨j,h,st,sa,ls,tv,eh,est,m7,els,hj1,hj2,hj3⟩:=hI
        refine Av (qI hk2) ?_
        rw[hil] at hk2
        refine dZ (λhtot hog hge hle=>?_) (uV hz2 hd sp hk2)
        refine eO hk ow (λ_=>rfl) ?_
        refine eN hk λTQ=>?_
        refine d9 (cnt:=(cs.getD k' 0).toNat) hk (λ_ _=>rfl) (aj 4 0 rfl) (small_one (by decide) (by decide) (by exact L1 [_] [] 13600415470664578215445568 129 46202944 rfl hge) (by exact L1 [_] [] 302231454903657293677745 129 4195504 rfl hle)) (bf _) (Wk S D log z f cs _ _ _ _ λi=>(dz cs k').length+i) (.mk 0 j _ _ _ _ _ eh est m7 els hj1 hj2 hj3) (λxs ys gs hI=>?_) (λi hi xs ys gs hI J P2 hP2=>?_)
        · obtain⟨j,h,st,sa,ls,tv,eh,est,m7,els,hj1,hj2,hj3⟩:=hI
          have en:(dz cs k').length+(cs.getD k' 0).toNat=(dz cs (k'+1)).length:=by rw[jq,lA,List.length_replicate]
          exact hP [0,1,2] _ _ _ _ (.mk _ _ (.mk (k'+1) j _ _ _ _ _ eh est m7 (en▸els) hj1 (hj2.trans en) hj3)) rfl
        · obtain⟨j,h,st,sa,ls,tv,eh,est,m7,els,hj1,hj2,hj3⟩:=hI
          have m6:=sp.lt hj1 (by exact L3 [] [_,_,_,_,_] 12470 532609 51262501 14582 63768759 rfl htot hi hj2)
          have QW:=Qp (j:=j) hz0
          have hv:(vis z f (j+1)).length=(dz cs k').length+(i+1):=by rw[fQ,if_pos hj3,lA,List.length_singleton,hj2,Nat.add_assoc]
          have Zj:ls.set sa.toNat (.int (k':Nat))=nL (fj z f (cR cs) (aW cs) ((dz cs k').length+(i+1))):=by
            rw[els,m7,Int.toNat_natCast,z8,←hj2,Hf sp.nd hfl m6 hj3 (by rw[hj2];exact hog i hi),hv]
          refine wB hk 1 0 rfl (by exact L1 [_] [_] 720896 65 728242 rfl m7) (by exact Or.elim hz2 (λz2=>L3 [_] [_,_] 604462909807314587354289 532609 728242 12470 2097351 rfl m7 QW z2) (λz2=>L3 [_] [_,_] 604462909807314587354289 532609 728242 12470 4195527 rfl m7 QW z2)) (by rw[els,aM,pZ];exact L3 [_] [_,_,_] 12470 532609 859314 12502 732274 rfl m7 QW (Int.toNat_of_nonneg (a:=sa) (L1 [_] [_] 720896 65 728242 rfl m7))) ?_
          refine iy hk ow (SpW S D log z f _ _ _ _ _ _ _ _ ((dz cs k').length+(i+1))) (z-(j+1)) (.mk _ (j+1) _ rfl (uQ hz m7 est) (by exact L1 [] [_,_] 3225431077 129 12470 rfl m6) hv) ?_
          clear hj1 hj2 hj3 m6 QW hv m7
          intro q xs ys gs hI P3 hP3
          obtain⟨j,sa,hq,m7,hj1,hj2⟩:=hI
          refine aO (λhc=>?_) (λhc=>?_)
          · have m6:j<z:=by
              apply Nat.lt_of_le_of_ne hj1
              intro e
              rw[m7,e,K8] at hc
              exact L3 [_] [_] 10 528512 720902 17226468530 7345 rfl hfr eh hc
            exact hP3 (z-(j+1)) [0,1,2,3,4,5,6] _ _ _ (.mk _ (j+1) _ rfl (uQ hz m7 est) (by exact L1 [] [_,_] 3225431077 129 12470 rfl m6) (by rw[fQ,if_neg (by exact L3 [_,_] [_,_] 12473 532545 17230662834 728258 12465 rfl eh m7 hc),aN];exact hj2)) (by exact L3 [] [_,_,_,_,_] 12470 528449 13511 63845415 16509913148455 rfl hq (sC z j (L1 [] [_,_] 12469 129 12470 rfl m6)) (sC z (j+1) (L1 [] [_,_] 3225431077 129 12470 rfl m6)))
          · exact hP2 [0,1,2,3,4,5] _ _ _ _ (.mk (i+1) j _ _ _ _ _ eh est m7 Zj hj1 hj2 (by exact L3 [_,_] [_,_] 12470 528513 17230662834 728258 12468 rfl eh m7 hc)) rfl
    · obtain⟨h,ls,sv,cv,eh,els⟩:=hI
      refine Av (qI hk2) ?_
      have hr2:=Gb cs k'
      rw[hil] at hk2
      refine aO (λh1=>?_) (λh1=>?_)
      · have er:gM cs (k'+1)=gM cs k'++[k']:=by rw[jV,if_pos h1]
        have hlz:(gM cs k').length<z:=by exact Or.elim hz2 (λz2=>L4 [] [_,_,_,_] 12470 17309825 458965 13542 14517 2097351 rfl fH hk2 hr2 z2) (λz2=>L4 [] [_,_,_,_] 12470 17309825 458965 13542 14517 4195527 rfl fH hk2 hr2 z2)
        obtain⟨m,hm⟩:∃ m,m=z-1-(gM cs k').length:=⟨_,rfl⟩
        have Zt:m<z:=by rw[hm,Nat.sub_sub];exact Nat.sub_lt hz0 (Nat.lt_of_lt_of_le Nat.zero_lt_one (Nat.le_add_right _ _))
        have hh:h=(m:Int):=by rw[eh,hm,Nat.sub_sub,Int.ofNat_sub (Nat.add_comm 1 _▸hlz),Int.sub_sub];rfl
        have h6:h<2^63:=by rw[hh];exact Int.lt_trans (Int.ofNat_lt.mpr Zt) (by rcases hz2 with rfl|rfl<;>decide)
        refine wB hk 1 0 rfl (hh▸Int.natCast_nonneg m) h6 (by rw[els,aM,pY,hh];exact Zt) ?_
        exact hP [0,1,2] _ _ _ _ (.mk (k'+1) _ _ _ _ (by rw[er,lA,List.length_singleton,eh,Int.natCast_add,Int.sub_sub _ _ (1:Int)];rfl) (by rw[els,hh,Int.toNat_natCast,hm,z8,Ec k' hlz,er])) rfl
      · have er:gM cs (k'+1)=gM cs k':=by rw[jV,if_neg h1,aN]
        exact hP [0,1,2] _ _ _ _ (.mk (k'+1) _ _ _ _ (by rw[er];exact eh) (by rw[er];exact els)) rfl
  · intro k' hk2 c' hc' hw hb ρ P hP
    exact hP [.int 0] [0,2] _ _ (by rw[List.replicate_succ'];exact(cD _ 0).symm) rfl
noncomputable abbrev gw(x d T:Addr)(st:Nat):Led:=[(x,.inst 418 d),(d,.ns [("table",.ref T),("state",.int st)])]
theorem pU(w:World)(b:Bool)(base:Heap)(x d T:Addr):F1 w b 1 387 base [.ref x,.ref T] [[(x,.inst 418 d),(d,.ns [])]] .none [gw x d T 0] bN:=by
 refine FX.go ["self","table"] [] rfl rfl rfl (λ_ _=>rfl) (by decide +kernel) ?_
 rintro k hk ow rfl - - - hR
 refine pO hk (lR rfl) (by decide) rfl rfl ?_
 refine d8 hk 0 rfl rfl (by kernel_rfl) rfl ?_
 refine d8 hk 0 rfl rfl (by kernel_rfl) rfl ?_
 exact aq [0] (hR () trivial)
theorem wJ(w:World)(b:Bool)(base:Heap)(x d T:Addr)(s st:Nat)(t:Tab)(g:TabOk t)(hT:bL (bW w base) T t)(hs:t.known s) :
  F1 w b 2 394 base [.ref x,.int s] [gw x d T st] .none [gw x d T st] bN:=by
 have hT0:=hT
 refine fU (λdT ys yc yb ya jT sts hT=>?_) hT
 refine FX.go ["self","symbol"] [] rfl rfl rfl (λ_ _=>rfl) (by decide +kernel) ?_
 rintro k hk ow rfl-rfl-hR
 refine bY hk 0 rfl rfl (by kernel_rfl) rfl rfl ?_
 refine rQ hk (.b hT.hT) (.b hT.hd) 303 (by kernel_rfl) rfl ?_
 refine aF hk [] (nR _) (λbase' aK=>QZ k.w _ base' T s t g (hT0.base aK.keep) hs) aX (nR _) ?_
 exact aq [0] (hR () trivial)
theorem pW(w:World)(b:Bool)(base:Heap)(x d T:Addr)(s st:Nat)(t:Tab)(g:TabOk t)(hT:bL (bW w base) T t)(hs:t.known s) :
  F1 w b 3 401 base [.ref x,.int s] [gw x d T st] .none [gw x d T (t.aZ s)] bN:=by
 have hT0:=hT
 refine fU (λdT ys yc yb ya jT sts hT=>?_) hT
 refine FX.go ["self","symbol"] [] rfl rfl rfl (λ_ _=>rfl) (by decide +kernel) ?_
 rintro k hk ow rfl-rfl-hR
 refine cL hk 0 rfl rfl 394 (by kernel_rfl) rfl ?_
 refine aF hk [0] (nR _) (λbase' aK=>wJ k.w _ base' x d T s st t g (hT0.base aK.keep) hs) aX (nR _) ?_
 refine bY hk 0 rfl rfl (by kernel_rfl) rfl rfl ?_
 refine rQ hk (.b hT.hT) (.b hT.hd) 310 (by kernel_rfl) rfl ?_
 refine aF hk [] (by decide) (λbase' aK=>JG k.w _ base' T s t g (hT0.base aK.keep) hs) aX (nR _) ?_
 refine d8 hk 0 rfl rfl (by kernel_rfl) rfl ?_
 exact aq [0] (hR () trivial)
theorem zf(w:World){b:Bool}(hb:b=true)(base:Heap)(x d T W dW U dU M:Addr)(s st:Nat)(L:List Nat)(t:Tab)(g:TabOk t)(hT:bL (bW w base) T t)(hW:bW w base W (.inst 256 dW))(v8:bW w base dW (.ns [("under",.ref U)]))(hs:t.known s)(hst:st<t.z)(hL:cQ L)(hz:L.length≤100000) :
  F1 w b 5 408 base [.ref x,.ref W,.int s] [gw x d T st,bO U dU M L] .none [gw x d T (t.aQ s st),bO U dU M (L++aP (st-t.bs (t.aQ s st)) (t.wd (t.aQ s st)))] bN:=by
 have hT0:=hT
 refine fU (λdT ys yc yb ya jT sts hT=>?_) hT
 refine dZ (λa1 a2 a3 a4=>?_) (g.ahead s hs st hst)
 have nJ:=Tab.je g a1
 refine FX.go ["self","back","symbol"] ["state","value","count"] rfl rfl rfl (λ_ _ _=>rfl) (by decide +kernel) ?_
 rintro k hk ow rfl hcl rfl-hR
 refine cL hk 0 rfl rfl 394 (by kernel_rfl) rfl ?_
 refine aF hk [0] (by decide) (λbase' aK=>wJ k.w _ base' x d T s st t g (hT0.base aK.keep) hs) aX (nR _) ?_
 refine Ax hk rfl rfl ?_
 refine bY hk 0 rfl rfl (by kernel_rfl) rfl rfl ?_
 refine rQ hk (.b hT.hT) (.b hT.hd) 317 (by kernel_rfl) rfl ?_
 refine bY hk 0 rfl rfl (by kernel_rfl) rfl rfl ?_
 refine bD hk [] (by decide) (λbase' aK=>Kd k.w _ base' T s st t g (hT0.base aK.keep) hs hst) aX (λ_=>Nat.zero_le _) λy _=>?_
 refine oN hk (aj 2 0 rfl) rfl rfl ?_
 refine rQ hk (.b hW) (.b v8) 239 (by kernel_rfl) rfl ?_
 refine aF hk [1] (by decide) (λbase' aK=>zA k.w (hcl.trans hb) base' W dW U dU M L _ _ (hW.keeps aK.keep) (v8.keeps aK.keep) (Nat.sub_lt_left_of_lt_add a3 a4) (by exact L1 [] [_] 2097333 129 393397 rfl nJ) hL hz) aX (nR _) ?_
 refine d8 hk 0 rfl rfl (by kernel_rfl) rfl ?_
 exact aq [0,1] (hR () trivial)
theorem wI(w:World){b:Bool}(hb:b=true)(base:Heap)(x d T W dW U dU M:Addr)(st:Nat)(L:List Nat)(t:Tab)(g:TabOk t)(hT:bL (bW w base) T t)(hW:bW w base W (.inst 256 dW))(v8:bW w base dW (.ns [("under",.ref U)]))(hst:st<t.z)(hL:cQ L)(hz:L.length≤100000) :
  F1 w b 5 415 base [.ref x,.ref W] [gw x d T st,bO U dU M L] .none [gw x d T st,bO U dU M (L++aP st t.log)] bN:=by
 refine fU (λdT ys yc yb ya jT sts hT=>?_) hT
 refine FX.go ["self","back"] [] rfl rfl rfl (λ_ _=>rfl) (by decide +kernel) ?_
 rintro k hk ow rfl hcl rfl-hR
 have Vo:t.log≤6:=by rcases g.log with h|h<;>(first|exact L1 [] [_] 393397 129 327863 rfl h|exact L1 [] [_] 393397 129 393399 rfl h)
 refine rQ hk (.b hW) (.b v8) 239 (by kernel_rfl) rfl ?_
 refine bY hk 0 rfl rfl (by kernel_rfl) rfl rfl ?_
 refine bY hk 0 rfl rfl (by kernel_rfl) rfl rfl ?_
 refine dY hk (.b hT.hT) (.b hT.hd) (by kernel_rfl) rfl rfl ?_
 refine aF hk [1] (by decide) (λbase' aK=>zA k.w (hcl.trans hb) base' W dW U dU M L st t.log (hW.keeps aK.keep) (v8.keeps aK.keep) hst (by exact L1 [] [_] 2097333 129 393397 rfl Vo) hL hz) aX (nR _) ?_
 exact aq [0,1] (hR () trivial)
theorem Cm{α:Type}(xs:List α)(a:Nat):∀ c:Nat,((List.range c).map λk=>a+k).filterMap (xs[·]?)=(xs.drop a).take c
  | 0=>by simp
  | c+1=>by
    rw[List.range_succ,List.map_append,List.filterMap_append,Cm xs a c,List.take_add_one,List.getElem?_drop]
    cases h:xs[a+c]?<;>simp[h]
theorem lW{xs:List AV}{lo hi:Option Int}{a b:Nat}(e:sliceBounds lo hi none xs.length=((a:Int),(b:Int),1)):gO xs lo hi none=(xs.drop a).take (b-a):=by
 unfold gO
 rw[e]
 have:sliceRange (a:Int) (b:Int) 1=(List.range (b-a)).map λk=>a+k:=by
  unfold sliceRange
  rw[if_pos (by decide)]
  have hc:(if(a:Int)<b then((b:Int)-a+1-1)/1 else 0).toNat=b-a:=by
   by_cases h:(a:Int)<b
   ·rw[if_pos h,Int.add_sub_cancel,Int.ediv_one];exact Int.toNat_sub b a
   ·rw[if_neg h];exact(Nat.sub_eq_zero_of_le (Int.ofNat_le.mp (Int.not_lt.mp h))).symm
  dsimp only
  rw[hc]
  exact List.map_congr_left λk _=>by rw[Int.one_mul];rfl
 rw[this,Cm]
theorem wR(k n:Nat):max 0 (min (if(k:Int)<0 then(k:Int)+n else k) (n:Int))=((min k n:Nat):Int):=by
 rw[if_neg (Int.not_lt.mpr (Int.natCast_nonneg k)),Int.max_eq_right (Int.le_min.mpr ⟨Int.natCast_nonneg k,Int.natCast_nonneg n⟩)]
 rcases Nat.le_total k n with h|h
 ·rw[Nat.min_eq_left h,Int.min_eq_left (Int.ofNat_le.mpr h)]
 ·rw[Nat.min_eq_right h,Int.min_eq_right (Int.ofNat_le.mpr h)]
theorem Ge(xs:List AV)(k:Nat):gO xs none (some (k:Int)) none=xs.take k:=by
 rw[lW (a:=0) (b:=min k xs.length) (by show((0:Int),max 0 (min (if(k:Int)<0 then(k:Int)+xs.length else k) (xs.length:Int)),(1:Int))=_;rw[wR];rfl),List.drop_zero]
 exact List.take_eq_take_min.symm
theorem vB(xs:List AV)(k:Nat):gO xs (some (k:Int)) none none=xs.drop k:=by
 rw[lW (a:=min k xs.length) (b:=xs.length) (by show(max 0 (min (if(k:Int)<0 then(k:Int)+xs.length else k) (xs.length:Int)),(xs.length:Int),(1:Int))=_;rw[wR])]
 rcases Nat.le_total k xs.length with h|h
 ·rw[Nat.min_eq_left h,List.take_of_length_le (Nat.le_of_eq List.length_drop)]
 ·rw[Nat.min_eq_right h,List.drop_length,List.drop_eq_nil_of_le h,List.take_nil]
theorem pick_run(xs:List AV)(a b:Nat):gO xs (some (a:Int)) (some (b:Int)) none=(xs.drop a).take (b-a):=by
 rw[lW (a:=min a xs.length) (b:=min b xs.length) (by show(max 0 (min (if(a:Int)<0 then(a:Int)+xs.length else a) (xs.length:Int)),max 0 (min (if(b:Int)<0 then(b:Int)+xs.length else b) (xs.length:Int)),(1:Int))=_;rw[wR,wR])]
 rcases Nat.le_total a xs.length with h|h
 ·rw[Nat.min_eq_left h]
  rcases Nat.le_total b xs.length with q|q
  ·rw[Nat.min_eq_left q]
  ·rw[Nat.min_eq_right q,List.take_of_length_le (Nat.le_of_eq List.length_drop),List.take_of_length_le (List.length_drop▸Nat.sub_le_sub_right q a)]
 ·rw[Nat.min_eq_right h,List.drop_length,List.drop_eq_nil_of_le h,List.take_nil,List.take_nil]
theorem vA(xs:List AV):gO xs none (some (-1)) none=xs.dropLast:=by
  cases xs with
  | nil=>rfl
  | cons x xs=>
    rw[lW (a:=0) (b:=xs.length) (by
      show((0:Int),max 0 (min ((-1:Int)+(xs.length+1:Nat)) ((xs.length+1:Nat):Int)),(1:Int))=_
      rw[show(-1:Int)+(xs.length+1:Nat)=(xs.length:Nat) by rw[Int.natCast_add,Int.add_comm,Int.add_assoc];exact Int.add_zero _,Int.min_eq_left (Int.ofNat_le.mpr (Nat.le_succ _)),Int.max_eq_right (Int.natCast_nonneg _)]
      rfl),List.dropLast_eq_take]
    rfl
theorem yL(xs:List AV):gO xs none none (some (-1))=xs.reverse:=by
 unfold gO
 have e:sliceBounds none none (some (-1)) xs.length=((xs.length:Int)-1,-1,-1):=rfl
 rw[e,uZ,←yE xs.toArray]
 simp
theorem vN(l:List Nat)(k:Nat):(nL l).take k=nL (l.take k):=by simp[nL,iL,List.map_take]
theorem vO(l:List Nat)(k:Nat):(nL l).drop k=nL (l.drop k):=by simp[nL,iL,List.map_drop]
theorem Ih(l:List Nat):(nL l).reverse=nL l.reverse:=by simp[nL,iL,List.map_reverse]
theorem CQ(l:List Nat):(nL l).dropLast=nL l.dropLast:=by simp[nL,iL,List.map_dropLast]
theorem jF(l:List Nat)(i:Nat)(h:i<l.length):(nL l).getD i .none=.int ((l.getD i 0:Nat):Int):=by
 rw[gD,rI (gE h)]
 simp[h]
theorem mq(l k:List Nat):nL l++nL k=nL (l++k):=by simp[nL,iL]
theorem N5{t:Tab}(g:TabOk t){q:Nat×List Nat}{s:Nat}(hs:t.known s)(h1:q.1<t.z)(h2:cQ q.2):(t.lF q s).1<t.z∧cQ (t.lF q s).2∧(t.lF q s).2.length≤q.2.length+6:=by
 refine dZ (λa1 a2 a3 a4=>?_) (g.ahead s hs q.1 h1)
 have:=Tab.je g a1
 refine⟨a1,h2.append (cF _ _),?_⟩
 show(q.2++aP _ _).length≤_
 rw[lA,aL];exact id (L1 [] [_,_] 6600031743013 129 393413 rfl this)
theorem jO{t:Tab}(g:TabOk t):∀ (l:List Nat) (q:Nat×List Nat),(∀ s∈l,t.known s)→q.1<t.z→cQ q.2→(l.foldl t.lF q).1<t.z∧cQ (l.foldl t.lF q).2∧(l.foldl t.lF q).2.length≤q.2.length+6*l.length
  | [],q,_,h1,h2=>⟨h1,h2,by simp⟩
  | s::l,q,hs,h1,h2=>by
    refine gJ (λa b c=>?_) (N5 g (hs s (.head _)) h1 h2)
    refine gJ (λa' b' c'=>?_) (jO g l (t.lF q s) (λs h=>hs s (.tail _ h)) a b)
    refine⟨a',b',?_⟩
    rw[List.foldl_cons,List.length_cons];exact L2 [] [_,_,_,_] 4517929270642869 8321 1611401445 224970803381 rfl c c'
theorem foldl_take_succ{α β:Type}(f:β→α→β)(b:β)(l:List α)(k:Nat)(d:α)(h:k<l.length):(l.take (k+1)).foldl f b=f ((l.take k).foldl f b) (l.getD k d):=by
 rw[List.take_add_one,gE h,List.foldl_append]
 simp[h]
noncomputable abbrev Bl(W dW U:Addr):Led:=[(W,.inst 256 dW),(dW,.ns [("under",.ref U)])]
inductive PkI (S T W dW U dU M y f z:Addr) (g3 g4 g5:Led) (t:Tab) (l:List Nat) (q0:Nat×List Nat):Nat→Vs→Vs→Gs→Prop
 | mk (k st:Nat) (L:List Nat) (sv:Option AV):(l.take k).foldl t.lF q0=(st,L)→PkI S T W dW U dU M y f z g3 g4 g5 t l q0 k [some (.ref S),some (.ref T),some (.ref W),some (.ref y),sv] [] [bO U dU M L,Bl W dW U,gw y f T st,g3,g4,g5,[(z,.list (nL l))]]
theorem K7(w:World){b:Bool}(hb:b=true)(base:Heap)(S T:Addr)(row:List Nat)(t:Tab)(g:TabOk t)(hT:bL (bW w base) T t)(hS:bW w base S (.list (nL row)))(h0:0<row.length)(hn:row.length≤1000)(hrow:∀ s∈row,t.known s) :
  F1 w b 8 429 base [.ref S,.ref T] [] (.bytes (allB (t.bZ row++[1]))) [] bN:=by
 have v7:t.known (row.getLastD 0):=hrow _ (by rw[dM,gD,gE (show row.length-1<row.length by exact L1 [] [_,_] 12470 129 3225431079 rfl (sC (row.length) 1 (L1 [] [_] 721925 129 720902 rfl h0)))];exact List.getElem_mem _)
 have hle:(nL row).length=row.length:=aM row
 have Dv:(nL row.dropLast.reverse).length=row.dropLast.reverse.length:=aM _
 have Du:row.dropLast.reverse.length=row.length-1:=by rw[List.length_reverse,List.length_dropLast]
 have hmem:∀ s∈row.dropLast.reverse,t.known s:=λs h=>hrow s (List.dropLast_subset _ (List.mem_reverse.mp h))
 have hlz:=(g.least _ v7).1
 have mD:(nL row)[((-1:Int)+(nL row).length).toNat]?=some (.int ((row.getLastD 0:Nat):Int)):=by
  rw[hle,jY,rI (a:=row.getLastD 0)]
  rw[dM,gD,gE (by exact L1 [] [_,_] 12470 129 3225431079 rfl (sC (row.length) 1 (L1 [] [_] 721925 129 720902 rfl h0)))];rfl
 refine FX.go ["symbols","table"] ["back","writer","symbol"] rfl rfl rfl (λ_ _=>rfl) (by decide +kernel) ?_
 rintro k hk ow rfl hcl rfl-hR
 refine dH hk ["back","writer"] (by decide +kernel) (by decide) rfl ?_
 refine iJ hk [] (by decide) (by kernel_rfl) (P:=λ_ _ (_:Addr×Addr×Addr)=>True) (hd:=λW dW (i:Addr×Addr×Addr)=>Bl W dW i.1) (tl:=λ_ _ (i:Addr×Addr×Addr)=>[bO i.1 i.2.1 i.2.2 []]) (λbase' W dW _=>zx k.w (hcl.trans hb) base' W dW) aX (λ_ _ _=>Nat.zero_le _) λW dW i _=>?_
 obtain⟨U,dU,M⟩:=i
 refine iJ hk [] (by decide) (by kernel_rfl) (P:=λ_ _ (_:Unit)=>True) (hd:=λy f _=>gw y f T 0) (tl:=λ_ _ _=>[]) (λbase' y f _=>pU k.w _ base' y f T) aX (λ_ _ _=>nR _) λy f _ _=>?_
 refine ZP hk ?_
 refine bC hk (.b hS) (by exact L2 [] [_,_] 65536001205 8321 65537221 12471 rfl hn hle) ?_
 refine aO (λ_=>?_) (λh=>by exact(L3 [] [_,_] 10 528512 720902 11463 50790404 rfl h0 hle h).elim)
 refine cL hk 2 rfl rfl 401 (by kernel_rfl) rfl ?_
 refine Ip hk (λ_ _=>rfl) (.b hS) (by decide) (by exact L2 [] [_,_] 17197374528 4225 786438 12471 rfl h0 hle) (by decide) mD ?_
 refine aF hk [2] (by decide) (λbase' aK=>pW k.w _ base' y f T _ 0 t g (hT.base aK.keep) v7) aX (nR _) ?_
 refine eO hk ow (λ_=>rfl) ?_
 refine⟨_,_,_,.none,.int _,.none,λS1=>?_⟩
 refine iz hk (.b hS) (aj 3 0 rfl) nofun (by exact L2 [] [_,_] 65536001205 8321 65537221 12471 rfl hn hle) ((vA _).trans (CQ row)) λz1=>?_
 refine⟨_,_,_,.none,.none,.int _,λS2=>?_⟩
 refine iz hk (aj 4 0 rfl) (aj 5 0 rfl) (by decide) (by rw[aM,List.length_dropLast];exact L2 [] [_,_] 65536001205 8321 65537221 3225431079 rfl hn (sC (row.length) 1 (L1 [] [_] 721925 129 720902 rfl h0))) ((yL _).trans (Ih _)) λz2=>?_
 refine iK hk (λ_ _=>rfl) (aj 6 0 rfl) (PkI S T W dW U dU M y f z2 _ _ _ t row.dropLast.reverse (t.aZ (row.getLastD 0),[])) (.mk 0 _ _ none rfl) (λk xs ys gs hI=>by cases hI;exact aj 6 0 rfl) (λxs ys gs hI=>?_) (λk' hk2 xs ys gs hI J P hP=>?_)
 ·obtain⟨st,L,sv,e⟩:=hI
  rw[Dv,List.take_length] at e
  refine gJ (λq1 q2 q3=>?_) (jO g _ (t.aZ (row.getLastD 0),[]) hmem hlz (λ_ h=>by cases h))
  rw[e] at q1 q2 q3
  have bM:t.log≤6:=by rcases g.log with h|h<;>(first|exact L1 [] [_] 393397 129 327863 rfl h|exact L1 [] [_] 393397 129 393399 rfl h)
  have hen:t.bZ row=L++aP st t.log:=by unfold Tab.bZ;rw[e]
  have q3:L.length≤6*row.length:=Nat.le_trans q3 (by show 0+6*_≤_;exact id (L2 [] [_,_,_] 54471096161796133 49921 13495 3225433127 rfl Du (sC (row.length) 1 (L1 [] [_] 721925 129 720902 rfl h0))))
  refine cL hk 2 rfl rfl 415 (by kernel_rfl) rfl ?_
  refine aF hk [2,0] (by decide) (λbase' aK=>wI k.w (hcl.trans hb) base' y f T W dW U dU M st L t g (hT.base aK.keep) (Has.on (aj 1 0 rfl) aK) (Has.on (aj 1 1 rfl) aK) q1 q2 (by exact L2 [] [_,_] 6553601205 8961 65537221 50730165 rfl hn q3)) aX (nR _) ?_
  refine cL hk 1 rfl rfl 253 (by kernel_rfl) rfl ?_
  refine aF hk [] (by decide) (λbase' aK=>zy k.w (hcl.trans hb) base' W dW U dU M (L++aP st t.log) (Has.on (aj 1 0 rfl) aK) (Has.on (aj 1 1 rfl) aK) (Has.on (aj 0 0 rfl) aK) (Has.on (aj 0 1 rfl) aK) (Has.on (aj 0 2 rfl) aK) (q2.append (cF _ _)) (by rw[lA,aL];exact L3 [] [_,_,_] 26843550592038 533249 65537237 393413 54924469 rfl hn bM q3)) aX (nR _) ?_
  have:=hR () trivial
  rw[hen] at this
  exact aq [] this
 ·obtain⟨st,L,sv,e⟩:=hI
  rw[Dv] at hk2
  refine gJ (λq1 q2 q3=>?_) (jO g (row.dropLast.reverse.take k') (t.aZ (row.getLastD 0),[]) (λs h=>hmem s (List.mem_of_mem_take h)) hlz (λ_ h=>by cases h))
  have hkn:t.known (row.dropLast.reverse.getD k' 0):=hmem _ (by rw[gD,gE hk2];exact List.getElem_mem _)
  rw[e] at q1 q2 q3
  have q3:L.length≤6*row.length:=Nat.le_trans q3 (by rw[lT];show 0+6*_≤_;exact id (L4 [] [_,_,_,_,_] 54471096161796133 204522241 14551 13558 3225434151 15543 rfl Du hk2 (sC (row.length) 1 (L1 [] [_] 721925 129 720902 rfl h0)) (Nat.min_eq_left (a:=k') (b:=row.dropLast.reverse.length) (L1 [] [_,_] 12469 129 12470 rfl hk2))))
  refine iM (jF _ _ hk2) ?_
  refine cL hk 2 rfl rfl 408 (by kernel_rfl) rfl ?_
  refine aF hk [2,0] (by decide) (λbase' aK=>zf k.w (hcl.trans hb) base' y f T W dW U dU M _ st L t g (hT.base aK.keep) (Has.on (aj 1 0 rfl) aK) (Has.on (aj 1 1 rfl) aK) hkn q1 q2 (by exact L2 [] [_,_] 6553601205 8961 65537221 50730165 rfl hn q3)) aX (nR _) ?_
  exact hP [0,1,2,3,4,5,6,7] _ _ _ _ (.mk (k'+1) _ _ _ (by rw[foldl_take_succ t.lF _ _ _ 0 hk2,e];rfl)) rfl
noncomputable def LQ(z l:Nat):Bool:=(List.range (2*z)).all λr=>r == 0||jl z r+Nat.log2 r == l
theorem LK:LQ 32 5=true:=by decide +kernel
theorem LC:LQ 64 6=true:=by decide +kernel
theorem I7{z l r:Nat}(h:z=32∧l=5∨z=64∧l=6)(h1:1≤r)(h2:r<2*z):jl z r+Nat.log2 r=l:=by
 have hb:LQ z l=true:=by
  rcases h with⟨rfl,rfl⟩|⟨rfl,rfl⟩
  ·exact LK
  ·exact LC
 have:=List.all_eq_true.mp hb r (List.mem_range.mpr h2)
 rw[Bool.or_eq_true,beq_iff_eq,beq_iff_eq] at this
 exact Or.elim this (λz2=>nA (L2 [] [_,_,_,_] 55323685 8320 918533 231 rfl h1 z2) (L2 [] [_,_,_,_] 55314613 8320 918533 231 rfl h1 z2)) (λz2=>nA (L1 [] [_,_,_] 55323685 129 55323687 rfl z2) (L1 [] [_,_,_] 55314613 65 47001639 rfl z2))
namespace Tab
variable{t:Tab}
theorem good.Pn(g:t.good){i:Nat}(h:i<t.z):t.wd i+Nat.log2 (t.rk i)=t.log:=by
 obtain⟨h1,h2⟩:=g.uY h
 refine I7 ?_ h1 h2
 rcases g.1 with q|q
 ·exact .inl ⟨by unfold Tab.z;rw[q],q⟩
 ·exact .inr ⟨by unfold Tab.z;rw[q],q⟩
noncomputable def jW(t:Tab)(k s:Nat):List Nat:=(List.range k).filter λi=>t.sy i == s
theorem lX(t:Tab)(k s:Nat):t.jW (k+1) s=if t.sy k=s then t.jW k s++[k] else t.jW k s:=by
 unfold jW
 rw[List.range_succ,List.filter_append,List.filter_cons]
 by_cases h:t.sy k=s
 ·rw[if_pos h,if_pos (by simpa using h)];rfl
 ·rw[if_neg h,if_neg (by simpa using h)];simp
noncomputable def fW(t:Tab)(k:Nat):List Nat:=(List.range t.cs.length).map λs=>t.syms.count s+(t.syms.take k).count s
theorem m8(t:Tab)(k:Nat):(t.fW k).length=t.cs.length:=by simp[fW]
theorem Fz(t:Tab){k s:Nat}(h:s<t.cs.length):(t.fW k).getD s 0=t.syms.count s+(t.syms.take k).count s:=by simp[fW,h]
theorem Fy(t:Tab){k:Nat}(h:t.sy k<t.cs.length):(t.fW k).getD (t.sy k) 0=t.rk k:=by rw[t.Fz h];rfl
theorem zO(t:Tab){k:Nat}(hk:k<t.z)(h:t.sy k<t.cs.length):(t.fW k).set (t.sy k) (t.rk k+1)=t.fW (k+1):=by
 have hl:=t.fX
 have hs:t.sy k=t.syms[k]'(by exact L2 [] [_,_,_] 12470 4225 13494 13511 rfl hk hl):=by
  unfold Tab.sy
  rw[gD,gE (by exact L2 [] [_,_,_] 12470 4225 13494 13511 rfl hk hl)];rfl
 apply List.ext_getElem
 ·simp[fW]
 ·intro i h1 h2
  rw[m8] at h2
  rw[List.getElem_set]
  simp only[fW,List.getElem_map,List.getElem_range]
  rw[List.take_add_one,gE (by exact L2 [] [_,_,_] 12470 4225 13494 13511 rfl hk hl),List.count_append,←hs]
  by_cases q:t.sy k=i
  ·rw[if_pos q,←q]
   unfold Tab.rk
   simp;exact nA (L0 [] [_,_] 1184060168702926719013 1 rfl) (L0 [] [_,_] 1184100067780874873893 1 rfl)
  ·rw[if_neg q]
   have:(some (t.sy k)).toList.count i=0:=by simp[q]
   exact nA (L1 [] [_,_,_] 928025135557669 65 215 rfl this) (L1 [] [_,_,_] 856557457910821 129 215 rfl this)
theorem good.PL(g:t.good):t.cs.map ig=(t.fW 0).map λ(n:Nat)=>(n:Int):=by
 apply List.ext_getElem
 ·simp[fW]
 ·intro i h1 h2
  rw[List.length_map] at h1
  have hge : -1≤t.cs[i]:=g.2.ge _ (List.getElem_mem _)
  have:=g.count h1
  rw[gD,gE h1,Option.getD_some] at this
  simp only[fW,List.getElem_map,List.getElem_range,List.take_zero,List.count_nil,Nat.add_zero]
  rw[this]
  unfold ig
  split<;>(first|exact XJ|exact XH (by assumption) h1 hge (by assumption))
end Tab
theorem mQ:∀ (n:Nat) (l:List Nat),l.length≤8*n→8*n<l.length+8→allB l=(List.range n).map λk=>dv ((l.drop (8*k)).take 8)
  | 0,l,h,_=>by
    have:l=[]:=List.length_eq_zero_iff.mp (by exact nA (L1 [] [_] 181 129 181 rfl h) (L0 [] [_] 720901 1 rfl))
    rw[this,jB];rfl
  | n+1,l,h,h2=>by
    have hne:l≠[]:=λq=>by rw[q] at h2;simp at h2;exact L1 [] [_] 10 128 562967179567190 rfl h2
    rw[mO hne,mQ n (l.drop 8) (by rw[List.length_drop];exact Or.elim (Nat.le_total (l.length) 8) (λz2=>L1 [] [_,_] 50861237 129 183 rfl (sZ (l.length) 8 (L1 [] [_] 524469 129 524469 rfl z2))) (λz2=>L2 [] [_,_,_] 50861237 8321 1102741771477 3523226663 rfl h (sC (l.length) 8 (L1 [] [_] 729093 129 729093 rfl z2)))) (by rw[List.length_drop];exact L2 [] [_,_,_] 8799323365462 8321 2306760019137405014 2148272341 rfl h2 (Nat.le_add_of_sub_le (nR (l.length-8)))),List.range_succ_eq_map,List.map_cons,List.map_map]
    congr 1
    refine List.map_congr_left λk _=>?_
    show dv ((((l.drop 8).drop (8*k))).take 8)=dv ((l.drop (8*(k+1))).take 8)
    rw[List.drop_drop]
    congr 3
    exact id (nA (L0 [] [_] 1183771730692993974309 1 rfl) (L0 [] [_] 13135558963375227674709 1 rfl))
theorem Rq(l:List Nat):dv l=((List.range l.length).map λk=>l.getD k 0*2^k).sum:=by
  induction l with
  | nil=>rfl
  | cons d r ih=>
    rw[List.length_cons,List.range_succ_eq_map,List.map_cons,List.map_map,List.sum_cons,dv,ih]
    have:∀ (f g:Nat→Nat) (l:List Nat),(∀ k,g k=2*f k)→(l.map g).sum=2*(l.map f).sum:=by
      intro f g l h
      induction l with
      | nil=>rfl
      | cons a l ih=>rw[List.map_cons,List.sum_cons,List.map_cons,List.sum_cons,ih,h];exact nA (L0 [] [_,_] 14370599466444907484197 1 rfl) (L0 [] [_,_] 14205483774505688107093 1 rfl)
    rw[←this (λk=>r.getD k 0*2^k) ((λk=>(d::r).getD k 0*2^k) ∘ Nat.succ) _ λk=>?_]
    · simp
    · show(d::r).getD (k+1) 0*2^(k+1)=_
      rw[List.getD_cons_succ,Nat.pow_succ,←Nat.mul_assoc,Nat.mul_comm]
theorem qR(f:Nat→List Nat):∀ l:List Nat,(l.reverse.flatMap λb=>(f b).reverse)=(l.flatMap f).reverse
  | []=>rfl
  | a::l=>by
    rw[List.reverse_cons,List.flatMap_append,qR f l]
    simp
theorem p8(o:List Nat){i:Nat}(h:i<8*o.length):(aG o).getD i 0=o.getD (i/8) 0/2^(i%8)%2:=by
 have h8:i/8<o.length:=L2 [] [_,_,_,_] 12470 8328 50861270 227143062567 rfl h (Nat.div_add_mod i 8)
 have h1:=mJ o (i/8)
 have e:(aG o)[i]?=(aG (o.drop (i/8)))[i%8]?:=by
  rw[←h1,List.getElem?_drop]
  congr 1;exact nA (L1 [] [_,_,_] 226593409205 65 192519083047 rfl (Nat.div_add_mod i 8)) (L1 [] [_,_,_] 226606191653 129 226606191655 rfl (Nat.div_add_mod i 8))
 rw[List.drop_eq_getElem_cons h8,gj,List.getElem?_append_left (by rw[aL];exact L1 [] [_] 524470 129 524470 rfl (Nat.mod_lt i (y:=8) (by decide)))] at e
 rw[gD,e,gD,gE h8]
 unfold aP
 rw[List.getElem?_map,List.getElem?_range (by exact L1 [] [_] 524470 129 524470 rfl (Nat.mod_lt i (y:=8) (by decide)))]
 rfl
structure Mark(o:List Nat)(p:Nat):Prop where
 le:p<8*o.length
 one:(aG o).getD p 0=1
 zero:∀ i,p<i→i<8*o.length→(aG o).getD i 0=0
theorem jm {o:List Nat}{p:Nat}(hl:∀ x∈o,x<256)(h:startP o=some p):Mark o p:=by
  unfold startP at h
  split at h
  · cases h
  · rename_i h0
    have hpos:0<o.length:=by
      cases o with
      | nil=>exact absurd rfl h0
      | cons a l=>simp
    have mD:o.getLastD 0=o.getD (o.length-1) 0:=by
      cases o with
      | nil=>rfl
      | cons a l=>rw[List.getLastD_eq_getLast?,List.getLast?_eq_getElem?,gD]
    obtain⟨b,hb⟩:∃ b,b=o.getLastD 0:=⟨_,rfl⟩
    rw[←hb] at h h0 mD
    have ZM:b<256:=by
      rw[mD,gD,gE (by exact L1 [] [_,_] 12470 129 3225431079 rfl (sC (o.length) 1 (L1 [] [_] 721925 129 720902 rfl hpos)))]
      exact hl _ (List.getElem_mem _)
    have bM:Nat.log2 b<8:=(Nat.log2_lt h0).mpr ZM
    have hself:=Nat.log2_self_le h0
    have hlt:=Nat.lt_log2_self (n:=b)
    have hp:=(oI h).symm
    refine⟨by exact L3 [] [_,_,_,_] 50861238 4202625 524502 227130280119 3225434151 rfl bM hp (sC (o.length) 1 (L1 [] [_] 721925 129 720902 rfl hpos)),?_,λi h1 h2=>?_⟩
    · rw[p8 o (by exact L3 [] [_,_,_,_] 50861238 4202625 524502 227130280119 3225434151 rfl bM hp (sC (o.length) 1 (L1 [] [_] 721925 129 720902 rfl hpos))),show p/8=o.length-1 by exact nA (L3 [] [_,_,_,_,_] 12469 532616 524502 226593409255 244591367207 rfl bM hp (Nat.div_add_mod p 8)) (L3 [] [_,_,_,_,_] 12469 528456 243504842967 227415692327 524534 rfl hp (Nat.div_add_mod p 8) (Nat.mod_lt p (y:=8) (by decide))),show p%8=Nat.log2 b by exact XF bM hp,←mD]
      have:b/2^Nat.log2 b=1:=by
        apply Nat.div_eq_of_lt_le
        · exact L1 [] [_,_] 51053653 129 12469 rfl hself
        · rw[Nat.pow_succ] at hlt;exact L1 [] [_,_] 50468022 129 50469046 rfl hlt
      rw[this]
    · rw[p8 o h2,show i/8=o.length-1 by exact nA (L3 [] [_,_,_,_,_] 12469 585864 59249878 3762303015 227411498023 rfl h2 (sC (o.length) 1 (L1 [] [_] 721925 129 720902 rfl hpos)) (Nat.div_add_mod i 8)) (L4 [] [_,_,_,_,_,_] 12469 33824840 243504842967 15574 262043866151 524550 rfl hp h1 (Nat.div_add_mod i 8) (Nat.mod_lt i (y:=8) (by decide))),←mD]
      have:2^(Nat.log2 b+1)≤2^(i%8):=Nat.pow_le_pow_right (by decide) (by exact XD hp h1 h2)
      rw[Nat.div_eq_of_lt (by exact L2 [] [_,_,_] 12470 8321 13494 12501 rfl hlt this)]
noncomputable def fu(o:List Nat)(p:Nat):List Nat:=((aG o).take p).reverse
theorem CV{o:List Nat}{p:Nat}(m:Mark o p) :
  (aG o).reverse[8*o.length-1-p]?=some 1∧(∀ i,i<8*o.length-1-p→(aG o).reverse[i]?≠some 1)∧(aG o).reverse.drop (8*o.length-1-p+1)=fu o p:=by
 have hl:=cX o
 have hm:=m.le
 refine⟨?_,λi hi=>?_,?_⟩
 ·rw[List.getElem?_reverse (by exact L3 [] [_,_,_,_] 12470 532545 55055559 14517 14432436500519 rfl hl (Nat.sub_le (8*o.length-1) p) (sC (8*o.length) 1 (L1 [] [_,_] 2986673157 129 46666950 rfl hm))),show(aG o).length-1-(8*o.length-1-p)=p by exact XC hl hm]
  have:=m.one
  rw[gD,gE (by exact L2 [] [_,_,_] 12470 8257 55055559 55055542 rfl hl hm)] at this
  rw[gE (by exact L2 [] [_,_,_] 12470 8257 55055559 55055542 rfl hl hm)]
  exact congrArg some this
 ·rw[List.getElem?_reverse (by exact L4 [] [_,_,_,_,_] 12470 34086977 55055559 14518 15589 14432436501543 rfl hl hi (Nat.sub_le (8*o.length-1) p) (sC (8*o.length) 1 (L1 [] [_,_] 2986673157 129 46666950 rfl hm)))]
  have:=m.zero ((aG o).length-1-i) (by exact Xz hl hi) (by exact L3 [] [_,_,_,_] 50861238 532609 50861271 14517 3493869607 rfl hl (Nat.sub_le ((aG o).length-1) i) (sC ((aG o).length) 1 (L2 [] [_,_,_] 721925 8257 50861239 50861270 rfl hl hm)))
  rw[gD,gE (by exact L2 [] [_,_,_] 12470 8321 13493 3225433127 rfl (Nat.sub_le ((aG o).length-1) i) (sC ((aG o).length) 1 (L2 [] [_,_,_] 721925 8257 50861239 50861270 rfl hl hm)))] at this
  rw[gE (by exact L2 [] [_,_,_] 12470 8321 13493 3225433127 rfl (Nat.sub_le ((aG o).length-1) i) (sC ((aG o).length) 1 (L2 [] [_,_,_] 721925 8257 50861239 50861270 rfl hl hm)))]
  intro q
  have:=oI q
  simp_all
 ·unfold fu
  rw[List.drop_reverse]
  congr 2
  exact Xy hl hm
theorem yQ:∀ (l:List Nat),l.reverse.foldl (λv b=>2*v+b) 0=dv l
  | []=>rfl
  | d::r=>by
    rw[List.reverse_cons,List.foldl_append,yQ r]
    show 2*dv r+d=_
    rw[dv];exact id (nA (L0 [] [_,_] 3179906412411229221 1 rfl) (L0 [] [_,_] 3224723605833460773 1 rfl))
theorem oR{o:List Nat}{p:Nat}(h:p≤8*o.length):(fu o p).length=p:=by
 unfold fu
 rw[List.length_reverse,lT,cX];exact nA (L1 [] [_,_] 12469 129 12471 rfl (Nat.min_eq_left (a:=p) (b:=8*o.length) (L1 [] [_,_] 50861237 129 50861237 rfl h))) (L1 [] [_,_] 12469 65 11463 rfl (Nat.min_eq_left (a:=p) (b:=8*o.length) (L1 [] [_,_] 50861237 129 50861237 rfl h)))
theorem qY{o:List Nat}{p at' c:Nat}(hp:p≤8*o.length)(h:at'+c≤p):(((fu o p).drop at').take c).foldl (λv b=>2*v+b) 0=rd o (p-at') c:=by
 have e:((fu o p).drop at').take c=(((aG o).drop (p-at'-c)).take c).reverse:=by
  unfold fu
  have hl:=cX o
  rw[List.drop_reverse,List.take_reverse,lT,lT,hl,Nat.min_eq_left hp,List.take_take,Nat.min_eq_left (by exact L1 [] [_,_,_] 12469 129 51194919 rfl (sC p at' (L1 [] [_,_,_] 12469 129 51194917 rfl h))),List.drop_take,show p-at'-(p-at'-c)=c by exact Or.elim (Nat.le_total (p-at') (p-at'-c)) (λz2=>nA (L2 [] [_,_,_,_] 12469 8257 59520039 59583527 rfl (sC (p-at') c (L2 [] [_,_,_,_] 12469 4225 59454501 59584551 rfl h (sC p at' (L1 [] [_,_,_] 12469 129 51194917 rfl h)))) (sC (p-at') (p-at'-c) (L1 [] [_,_,_] 12469 129 51194919 rfl (sC (p-at') c (L2 [] [_,_,_,_] 12469 4225 59454501 59584551 rfl h (sC p at' (L1 [] [_,_,_] 12469 129 51194917 rfl h))))))) (L2 [] [_,_,_,_] 12469 4225 59454503 59584551 rfl (sC (p-at') c (L2 [] [_,_,_,_] 12469 4225 59454501 59584551 rfl h (sC p at' (L1 [] [_,_,_] 12469 129 51194917 rfl h)))) (sC (p-at') (p-at'-c) (L1 [] [_,_,_] 12469 129 51194919 rfl (sC (p-at') c (L2 [] [_,_,_,_] 12469 4225 59454501 59584551 rfl h (sC p at' (L1 [] [_,_,_] 12469 129 51194917 rfl h)))))))) (λz2=>Or.elim (Nat.le_total (p-at') c) (λz1=>nA (L2 [] [_,_,_,_] 12469 8257 59520039 59583527 rfl (sC (p-at') c (L2 [] [_,_,_,_] 12469 4225 59454501 59584551 rfl h (sC p at' (L1 [] [_,_,_] 12469 129 51194917 rfl h)))) (sC (p-at') (p-at'-c) (L1 [] [_,_] 12469 129 12469 rfl z2))) (L2 [] [_,_,_,_] 12469 4225 59454503 59584551 rfl (sC (p-at') c (L2 [] [_,_,_,_] 12469 4225 59454501 59584551 rfl h (sC p at' (L1 [] [_,_,_] 12469 129 51194917 rfl h)))) (sC (p-at') (p-at'-c) (L1 [] [_,_] 12469 129 12469 rfl z2)))) (λz1=>nA (L2 [] [_,_,_,_] 12469 8257 59520039 59583527 rfl (sC (p-at') c (L2 [] [_,_,_,_] 12469 4225 59454501 59584551 rfl h (sC p at' (L1 [] [_,_,_] 12469 129 51194917 rfl h)))) (sC (p-at') (p-at'-c) (L1 [] [_,_] 12469 129 12469 rfl z2))) (L2 [] [_,_,_,_] 12469 4225 59454503 59584551 rfl (sC (p-at') c (L2 [] [_,_,_,_] 12469 4225 59454501 59584551 rfl h (sC p at' (L1 [] [_,_,_] 12469 129 51194917 rfl h)))) (sC (p-at') (p-at'-c) (L1 [] [_,_] 12469 129 12469 rfl z2)))))]
 rw[e,yQ]
 rfl
theorem vh{k:Nat}(h:k≤60):2^k<2^64∧2^k≠0:=⟨Nat.pow_lt_pow_right (by decide) (by exact L1 [] [_] 4195510 129 3932341 rfl h),Nat.ne_of_gt (Nat.two_pow_pos k)⟩
section
variable{c:Cx}{nm:NM}{n n':Nat}{r:List It}{vs:bR}{xs ys ys':Vs}{gs:Gs}{a l S T:Addr}{ls ks ms:List AV}{t1 t2 elt iter:Expr}{ifs:List Expr}{k:Nat}{p:Pos}{scope:Scope}{Q:AV→Led→Prop}{cl:List (Str×Addr)}
theorem ZS{cc:Nat}{K:Fj}(hc:c.Ok n nm)(hK:∀ as m σ,CK c n nm scope cl (.Tuple [t1,t2] cc p) elt ifs Q as m σ→K as m σ)(js:List Nat)(ys':Vs)(iU:flat (gets (gU c.ca ys) js)=bK (cl.map (·.2)) ys')(hif:Nat.ble ifs.length 1=true)(hs:[t1,t2].all noStar=true)(hl:Has c.w c.fx (led c ys gs) l (.list ls))(hz:ls.length≤1000000)(f:Nat→List AV)(el:Nat→AV)(hel:∀ k,k<ls.length→ls.getD k .none=el k)(h0:f 0=[])
  (he:∀ D,Q (.ref D) (led c ys (gs++[[(D,.list (f ls.length))]])))
  (turn:∀ k,k<ls.length→∀ c':Cx,c'.Ok n (kY scope cl)→c'.w=c.w→c'.fx.base=c.fx.base→∀ (T:Addr) (ρ:Led) (P:List AV→au→Led→Prop),(∀ bs is xs' gs',f (k+1)=f k++bs→gets gs' is=gs++[ρ]→P bs (mk (kY scope cl) xs') (led c' ys' gs'))→
   tV (scope.names.map λ_=>none) λxs=>Go c' (kY scope cl) (.asg t1::.asg t2::o9 ifs elt [.dN P]) [[.int k],[el k]] xs ys' (gs++[[(T,.tuple [.int k,el k])],ρ])) :
  D c.nc [.cg,.dN K] ([.ref l]::[.typ "enumerate"]::vs) (mk nm xs) (led c.nc ys gs):=
 o8 (fx:=c.nc.fx) hl λe it=>hK _ _ _ ⟨_,rfl,yK (fx:=c.nc.fx) (wW (c:=c) (own:=λk=>[(e,.cJ it k),(it,.bh l k)]) (item:=Bt λk=>ls.getD k .none) (pre:=λfx σ=>Has c.w fx σ l (.list ls)) hc js iU hif (λk as gs'=>as=f k∧gs'=gs) hz ⟨h0.symm,rfl⟩
  (λk as gs' hi σ h=>by rw[hi.2] at h;exact hl.imp (h _) id) (λas gs' h D=>by rw[h.1,h.2];exact he D) λk hk as gs' h _ a ex hit c' hc' hw hb ρ P hP=>by
   obtain⟨T,rfl,rfl⟩:=hit
   have e1:=hel k hk
   dsimp only
   rw[e1,h.2]
   rw[h.1] at hP
   refine oN (ls:=[.int k,el k]) hc' (.inl (List.mem_append_right _ ?_)) rfl hs (lZ (K:=λxs=>Go c' _ _ _ xs ys' _) (turn k hk c' hc' hw hb T ρ P λbs is xs' DN e1 e2=>hP bs is xs' DN gs ⟨e1.symm,rfl⟩ (fJ e2)))
   rw[fZ]
   exact List.mem_append_right _ (.head _))⟩
theorem iT(hc:c.Ok n nm)(hk:k≤60)(h:Go c nm r ([.int ((2^k:Nat):Int)]::vs) xs ys gs):D c (.bin .Pow false::r) ([.int (k:Nat)]::[.int 2]::vs) (mk nm xs) (led c ys gs):=
 Al hc (Int.natCast_nonneg k) (rF (by decide) (by decide) (Int.natCast_nonneg k) (by exact L1 [] [_] 4194380912 129 3932341 rfl hk)) λP hP=>by rw[hP,Int.toNat_natCast,eV];exact h
theorem Aw{a b:Nat}(hc:c.Ok n nm)(hb:b≠0)(hb2:b<2^64)(h:Go c nm r ([.int ((a/b:Nat):Int)]::vs) xs ys gs):D c (.bin .FloorDiv false::r) ([.int (b:Nat)]::[.int (a:Nat)]::vs) (mk nm xs) (led c ys gs):=
 Nf hc (by exact om2 hb) (by rw[Int.natAbs_natCast];exact hb2) (by rw[f9];exact h)
theorem Am{a b:Nat}(hc:c.Ok n nm)(hm:IntMulOk (a:Nat) (b:Nat))(h:Go c nm r ([.int ((a*b:Nat):Int)]::vs) xs ys gs):D c (.bin .Mult false::r) ([.int (b:Nat)]::[.int (a:Nat)]::vs) (mk nm xs) (led c ys gs):=
 jK hc hm (by rw[←Int.natCast_mul];exact h)
theorem eY(hc:c.Ok n nm)(ha:Has c.w c.fx (led c ys gs) a (.list ls))(hb:Has c.w c.fx (led c ys gs) l (.list ks))(hz:ls.length+ks.length≤1000000)(e:ls++ks=ms)(h:∀ R,Go c nm r ([.ref R]::vs) xs ys (gs++[[(R,.list ms)]])) :
  D c (.bin .Add false::r) ([.ref l]::[.ref a]::vs) (mk nm xs) (led c ys gs):=Iu hc ha hb hz (e▸h)
end
theorem Gn(v c:Nat):aP v (c+1)=aP v c++[v/2^c%2]:=by
 unfold aP;rw[List.range_succ,List.map_append];rfl
theorem gQ(a:Nat):((a:Nat):Int).fmod 2=((a%2:Nat):Int):=oO a 2
noncomputable def s7(l:List Nat):Nat:=l.foldl (λv b=>2*v+b) 0
theorem uw(w:World)(b:Bool)(base:Heap)(v c:Nat)(hc:c≤60) :
  FX w b 1 500 base [.int v,.int c] [] (λ_:Addr=>True) (λr=>.ref r) (λr=>[[(r,.list (nL (aP v c)))]]) bN:=by
 refine FX.GK ["value","count"] [] ["count"] ["value"] [some (.int c)] [some (.int v)] rfl rfl rfl (λ_ _=>rfl) (by decide +kernel) rfl (λ_=>rfl) (λ_=>rfl) ?_
 rintro k hk ow rfl - - - hR L hca -
 refine iB hk [("value",L+1)] rfl (by decide +kernel) (by rw[hk.hc,hca];rfl) (λ_=>rfl) λK hK=>?_
 refine eN hk.nc λrr=>?_
 refine tC (cnt:=c) hk hK [0] [some (.int v)] (by rw[hca];rfl) rfl (λ_ _=>rfl) (aj 0 0 rfl) (small_one (by decide) (by decide) (by exact L0 [] [_] 859848489200905000509768768 1 rfl) (by exact L1 [] [_] 19342813113834066795375729 129 3932341 rfl hc)) (by rw[bf];rfl) (by exact L1 [] [_] 65536001205 129 3932341 rfl hc) (λk=>nL (aP v k)) (λk=>(k:Nat)) (λk _=>by exact iA (L0 [] [_] 50044392290910240 1 rfl) (L0 [] [_] 50033379701304432 1 rfl)) rfl ?_ ?_
 ·refine λD=>aB hk ?_
  exact aq [1] (hR D trivial)
 ·intro k' hk2 c' hc' hw hb ρ P hP
  refine iT hc' (by exact L2 [] [_,_] 3932341 8321 3932357 12470 rfl hc hk2) ?_
  refine Aw hc' (vh (by exact L2 [] [_,_] 3932341 8321 3932357 12470 rfl hc hk2)).2 (vh (by exact L2 [] [_,_] 3932341 8321 3932357 12470 rfl hc hk2)).1 ?_
  exact hP [_] [0,2] _ _ (by rw[gQ,cD,Gn]) rfl
inductive NuI (D S z:Addr) (la lc:Int) (gS:Led) (l:List Nat):Nat→Vs→Vs→Gs→Prop
 | mk (k:Nat) (v:Int) (bv:Option AV):v=(s7 (l.take k):Nat)→NuI D S z la lc gS l k [some (.ref D),some (.int la),some (.int lc),some (.int v),bv] [] [gS,[(z,.list (nL l))]]
theorem lY(w:World)(b:Bool)(base:Heap)(D:Addr)(l:List Nat)(at' c:Nat)(hD:bW w base D (.list (nL l)))(hz:l.length≤1000000)(ha:at'≤1000000)(hc:c≤1000) :
  F1 w b 1 538 base [.ref D,.int at',.int c] [] (.int (s7 ((l.drop at').take c):Nat)) [] bN:=by
 refine FX.go ["digits","at","count"] ["value","bit"] rfl rfl rfl (λ_ _ _=>rfl) (by decide +kernel) ?_
 rintro k hk ow rfl-rfl-hR
 refine eO hk ow (λ_=>rfl) ?_
 refine⟨_,_,_,.int _,.int _,.none,λS1=>?_⟩
 refine iz hk (.b hD) (aj 0 0 rfl) nofun (by rw[aM];exact hz) (ks:=nL ((l.drop at').take c)) (by rw[←Int.natCast_add,pick_run,Nat.add_sub_cancel_left,vO,vN]) λz1=>?_
 refine iK hk (λ_ _=>rfl) (aj 1 0 rfl) (NuI D S1 z1 _ _ _ ((l.drop at').take c)) (.mk 0 _ none rfl) (λk xs ys gs hI=>by cases hI;exact aj 1 0 rfl) (λxs ys gs hI=>?_) (λk' hk2 xs ys gs hI J P hP=>?_)
 ·obtain⟨v,bv,e⟩:=hI
  rw[aM,List.take_length] at e
  exact aq [] (e▸hR () trivial)
 ·obtain⟨v,bv,e⟩:=hI
  rw[aM] at hk2
  refine iM (jF _ _ hk2) ?_
  refine jK hk (.of_left (by decide)) ?_
  exact hP [0,1,2] _ _ _ _ (.mk (k'+1) _ _ (by rw[e,show s7 (((l.drop at').take c).take (k'+1))=2*s7 (((l.drop at').take c).take k')+((l.drop at').take c).getD k' 0 from foldl_take_succ (λv b=>2*v+b) 0 _ k' 0 hk2];exact iA (L0 [] [_,_] 919719216691989427917856 1 rfl) (L0 [] [_,_] 915163447214888746027120 1 rfl))) rfl
theorem lq(n:Nat):Builtin.Range.rangeSize 0 n 8=(((n+7)/8:Nat):Int):=by
 unfold Builtin.Range.rangeSize
 rw[if_pos (by decide)]
 split<;>(first|exact Xn|exact Xm (by assumption))
theorem zT{n:Nat}(h:n≤1000000):Builtin.Range.small 0 n 8=true:=by
 unfold Builtin.Range.small
 rw[lq]
 have f:∀ i:Int,0≤i→i≤2000000→Builtin.Range.rangeFitsLong i=true:=λi h1 h2=>by
  unfold Builtin.Range.rangeFitsLong
  rw[Bool.and_eq_true,decide_eq_true_iff,decide_eq_true_iff];exact⟨L1 [_] [] 13902646925568235509122112 129 720896 rfl h1,L1 [_] [] 604462909807314587354289 129 131072001200 rfl h2⟩
 rw[f 0 (by decide) (by decide),f n (by exact L0 [] [_] 46596096 1 rfl) (by exact L1 [] [_] 8388608076912 129 65536001205 rfl h),f 8 (by decide) (by decide),f _ (by exact L0 [] [_] 46596096 1 rfl) (by exact L2 [] [_,_,_] 8388608076912 8328 65536001221 31538429427192871 rfl h (Nat.div_add_mod (n+7) 8)),if_pos (by decide),f ((n:Int)+(8-1)) (by exact L0 [] [_] 7699563675648 1 rfl) (by exact L1 [] [_] 2199023274611645472 129 65536001205 rfl h),Bool.or_true]
 rfl
theorem qp:∀ (l:List Nat),(l.map λ(n:Nat)=>(n:Int)).sum=((l.sum:Nat):Int)
 | []=>rfl
 | a::l=>by rw[List.map_cons,List.sum_cons,List.sum_cons,qp l,Int.natCast_add]
theorem J6{l:List Nat}(h:cQ l)(i:Nat):l.getD i 0<2:=by
 by_cases q:i<l.length
 ·rw[gD,gE q];exact h _ (List.getElem_mem _)
 ·rw[gD,List.getElem?_eq_none (by exact L1 [] [_,_] 12469 129 11465 rfl q)];decide
theorem mj(f:Nat→Nat)(k:Nat):nL ((List.range (k+1)).map f)=nL ((List.range k).map f)++[.int ((f k:Nat):Int)]:=by
 rw[cD,List.range_succ,List.map_append];rfl
theorem vV (w:World)(b:Bool)(base:Heap)(D:Addr)(l:List Nat)(hD:bW w base D (.list (nL l)))(hl:cQ l)(hz:l.length≤100000) :
    F1 w b 1 495 base [.ref D] [] (.bytes (allB (l++[1]))) [] bN:=by
  have S6:cQ (l++[1]):=hl.append λd hd=>by rw[List.mem_singleton.mp hd];decide
  have hlen:(l++[1]).length=l.length+1:=lA
  have hle:(nL (l++[1])).length=l.length+1:=(aM _).trans hlen
  have Zu:(nL l).length=l.length:=aM _
  obtain⟨m,hm⟩:∃ m,m=(l.length+1+7)/8:=⟨_,rfl⟩
  have ZW:allB (l++[1])=(List.range m).map λk=>dv (((l++[1]).drop (8*k)).take 8):=mQ _ _ (by exact L4 [] [_,_,_,_,_] 50861237 33878145 269289655 14535 8264430492429173920807 524534 rfl hlen hm (Nat.div_add_mod (l.length+1+7) 8) (Nat.mod_lt (l.length+1+7) (y:=8) (by decide))) (by exact L3 [] [_,_,_,_,_] 8799323365462 589889 269289671 14519 8264430492429173920807 rfl hlen hm (Nat.div_add_mod (l.length+1+7) 8))
  refine FX.GK ["digits"] [] ["digits"] ["some"] [some (.ref D)] [none] rfl rfl rfl (λ_=>rfl) (by decide +kernel) rfl (λ_=>rfl) (λ_=>rfl) ?_
  rintro k hk ow rfl-rfl-hR L hca -
  intro t1
  refine eY hk (.b hD) (aj 0 0 rfl) (by rw[Zu];show l.length+1≤_;exact id (L1 [] [_] 17179869456641061 129 6553601205 rfl hz)) (cD l 1) λz1=>?_
  refine iB hk [("some",L+1)] rfl (by decide +kernel) (by rw[hk.hc,hca];rfl) (λ_=>rfl) λK hK=>?_
  refine bC hk.nc (aj 1 0 rfl) (by exact L2 [] [_,_] 65536001205 8321 6553601221 269224119 rfl hz hle) ?_
  refine ux hk.nc (by decide) (by decide) λrr=>?_
  refine tC (cnt:=m) hk hK [0] [some (.ref z1)] (by rw[hca];rfl) rfl (λ_ _=>rfl) (aj 2 0 rfl) (by rw[hle];exact zT (by exact L1 [] [_] 17179869456641061 129 6553601205 rfl hz)) (by rw[hle,lq,hm]) (by exact L3 [] [_,_,_,_] 65536001205 589960 6553601221 13495 8264430422060157113383 rfl hz hm (Nat.div_add_mod (l.length+1+7) 8)) (λk=>nL ((List.range k).map λk=>dv (((l++[1]).drop (8*k)).take 8))) (λk=>(8*k:Nat)) (λk _=>by exact iA (L0 [] [_] 205243050616424497184 1 rfl) (L0 [] [_] 204968248453934617712 1 rfl)) rfl ?_ ?_
  · refine λD2=>aB hk ?_
    refine nQ (ns:=(allB (l++[1])).map λ(n:Nat)=>(n:Int)) hk (aj 3 0 (by rw[ZW];rfl)) (λn hn=>?_) ?_ ?_
    · obtain⟨x,hx,rfl⟩:=mM hn
      have:=n7 _ S6 x hx
      exact⟨L0 [] [_] 46596096 1 rfl,L1 [] [_] 1073818737 129 16778422 rfl this⟩
    · rw[List.length_map,ZW,List.length_map,List.length_range];exact L3 [] [_,_,_,_] 65536001205 589960 6553601221 13495 8264430422060157113383 rfl hz hm (Nat.div_add_mod (l.length+1+7) 8)
    · have e:((allB (l++[1])).map λ(n:Nat)=>(n:Int)).map Int.toNat=allB (l++[1]):=by
        rw[List.map_map];exact List.map_id'' (λx=>Int.toNat_natCast x) _
      exact aq [] (e.symm▸hR () trivial)
  · intro k' hk2 c' hc' hw hb ρ P hP
    obtain⟨ch,hch⟩:∃ ch,ch=((l++[1]).drop (8*k')).take 8:=⟨_,rfl⟩
    have hcl:ch.length≤8:=by rw[hch,lT];exact L1 [] [_] 524469 129 524469 rfl (Nat.min_le_left 8 ((List.drop (8*k') (l++[1])).length))
    have hcb:cQ ch:=by rw[hch];exact(S6.drop _).take _
    refine iB hc' [] rfl (by kernel_rfl) rfl (λ_=>rfl) λK hK=>?_
    refine⟨_,_,_,.int _,.int _,.none,λS2=>?_⟩
    refine iz hc'.nc (aj 1 0 rfl) (aj 5 0 rfl) nofun (by exact L2 [] [_,_] 65536001205 8321 6553601221 269224119 rfl hz hle) (ks:=nL ch) (by rw[show((8*k':Nat):Int)+8=((8*k'+8:Nat):Int) by exact iA (L0 [] [_] 38698761760109075093593120 1 rfl) (L0 [] [_] 38698761782275229509552240 1 rfl),pick_run,Nat.add_sub_cancel_left,vO,vN,hch]) λz2=>?_
    refine ZS hc' hK [] [] rfl rfl rfl (aj 6 0 rfl) (by rw[aM];exact L1 [] [_] 65536001205 129 524469 rfl hcl) (λk=>nL ((List.range k).map λi=>ch.getD i 0*2^i)) (λk=>.int (ch.getD k 0:Nat)) (λk h=>jF _ _ (by rw[←aM];exact h)) rfl ?_ ?_
    · refine λD3=>aB hc' ?_
      refine Ak (ls:=(((List.range ch.length).map λi=>ch.getD i 0*2^i).map λ(n:Nat)=>(n:Int))) hc' (aj 7 0 (by rw[aM ch];rfl)) ?_
      refine hP [.int _] [0,1,2,4] _ _ ?_ rfl
      rw[qp,←Rq,hch]
      exact mj _ k'
    · intro i hi c2 hc2 hw2 hb2 T2 ρ2 P2 hP2
      rw[aM] at hi
      refine iT hc2 (by exact L2 [] [_,_] 3932341 8321 524485 12470 rfl hcl hi) ?_
      have hb2:=J6 hcb i
      refine Am hc2 (.of_left (PySem.intBits_le_64 (by exact L0 [] [_] 15855829836155273053633104617672599659926792257 1 rfl) (by exact L1 [] [_] 77371252455336267181862001 129 131254 rfl hb2))) ?_
      exact hP2 [.int _] [0,1,2,3,4,5,6,8] _ _ (mj _ i) rfl
inductive Pa where
 | no
 | yes (p:Nat) (dg:Addr)
noncomputable def Z1(o:List Nat):Pa→Prop
 | .no=>startP o=none
 | .yes p _=>startP o=some p
noncomputable def ZX:Pa→AV
 | .no=>.none
 | .yes _ dg=>.ref dg
noncomputable def Z0(o:List Nat):Pa→Gs
 | .no=>[]
 | .yes p dg=>[[(dg,.list (nL (fu o p)))]]
theorem yF:∀ l:List Nat,(l.flatMap λb=>(aP b 8).reverse).length=8*l.length
 | []=>rfl
 | a::l=>by rw[List.flatMap_cons,lA,yF l,List.length_reverse,aL,List.length_cons];exact nA (L0 [] [_] 1183771730692993974309 1 rfl) (L0 [] [_] 13135558963375227674709 1 rfl)
theorem K3(l:List Nat){k:Nat}(h:k<l.length):((l.take k).flatMap λb=>(aP b 8).reverse)++(aP (l.getD k 0) 8).reverse=(l.take (k+1)).flatMap λb=>(aP b 8).reverse:=by
 rw[List.take_add_one,gE h,List.flatMap_append,gD,gE h]
 simp
theorem Jm{o:List Nat}{p:Nat}(m:Mark o p):8*o.length-1-p<((aG o).reverse.map λ(n:Nat)=>(n:Int)).length∧((aG o).reverse.map λ(n:Nat)=>(n:Int))[8*o.length-1-p]?=some 1∧(∀ i,i<8*o.length-1-p→((aG o).reverse.map λ(n:Nat)=>(n:Int))[i]?≠some 1)∧(aG o).reverse.drop (8*o.length-1-p+1)=fu o p:=by
  refine gJ (λi1 i2 i3=>?_) (CV m)
  have hle:=m.le
  refine⟨by rw[List.length_map,List.length_reverse,cX];exact L2 [] [_,_,_] 50861238 8321 13493 13332924871719 rfl (Nat.sub_le (8*o.length-1) p) (sC (8*o.length) 1 (L1 [] [_,_] 2986673157 129 46666950 rfl hle)),by rw[List.getElem?_map,i1];rfl,λi hi q=>?_,i3⟩
  rw[List.getElem?_map] at q
  cases hq:(aG o).reverse[i]? with
  | none=>rw[hq] at q;cases q
  | some v=>
    rw[hq] at q
    have hv:v=1:=Int.ofNat.inj (oI q)
    exact i2 i hi (by rw[hq,hv])
inductive DgI (o:List Nat) (gS:Led):Nat→Vs→Vs→Gs→Prop
 | mk (k:Nat) (r:Addr) (ls:List AV) (cv:Option AV):ls=nL ((o.reverse.take k).flatMap λb=>(aP b 8).reverse)→DgI o gS k [some (.bytes o),some (.ref r)] [cv] [[(r,.list ls)],gS]
theorem wL(w:World)(b:Bool)(base:Heap)(o:List Nat)(hl:∀ x∈o,x<256)(hz:o.length≤100000) :
  FX w b 1 531 base [.bytes o] [] (Z1 o) ZX (Z0 o) bN:=by
 have mD:=dM o
 refine FX.GK ["octets"] ["found"] ["octets","found"] ["octet"] [some (.bytes o),none] [none] rfl rfl rfl (λ_=>rfl) (by decide +kernel) rfl (λ_=>rfl) (λ_=>rfl) ?_
 rintro k hk ow rfl - - - hR L hca -
 refine qP hk (by exact L1 [] [_] 65536001205 129 6553601205 rfl hz) ?_
 refine aO (λh0=>?_) (λh0=>?_)
 ·have ho:o=[]:=List.length_eq_zero_iff.mp (by exact nA (L1 [] [_] 181 129 11378 rfl h0) (L1 [] [_] 720901 65 11378 rfl h0))
  exact aq [] (hR .no (by rw[ho];rfl))
 have e1:((-1:Int)+o.length).toNat=o.length-1:=jY _
 refine Aq hk (λ_ _=>rfl) (by exact L1 [] [_] 65536001205 129 6553601205 rfl hz) (by exact Or.elim (Int.lt_or_gt_of_ne h0) (λz2=>L1 [] [_] 17197374528 128 11377 rfl z2) (λz2=>L1 [] [_] 17197374528 129 46596097 rfl z2)) (by decide) ?_
 refine aO (λh1=>?_) (λh1=>?_)
 ·have h1':o.getLastD 0=0:=by rw[mD,←e1];exact nA (L1 [] [_] 181 129 11378 rfl h1) (L1 [] [_] 720901 65 11378 rfl h1)
  exact aq [] (hR .no (by show startP o=none;unfold startP;rw[if_pos h1']))
 have h1':o.getLastD 0≠0:=by rw[mD,←e1];exact λq=>Or.elim (Int.lt_or_gt_of_ne h1) (λz2=>L2 [] [_] 10 8256 183 11377 rfl q z2) (λz2=>L2 [] [_] 10 8320 183 46596097 rfl q z2)
 obtain⟨p,hp⟩:∃ p,startP o=some p:=⟨_,by unfold startP;rw[if_neg h1']⟩
 refine dZ (λi0 i1 i2 i3=>?_) (Jm (jm hl hp))
 intro r0
 refine eO hk ow (λ_=>rfl) ?_
 refine⟨_,_,_,.none,.none,.int _,λS1=>?_⟩
 refine VH hk 1 0 rfl (by exact L1 [] [_] 65536001205 129 6553601205 rfl hz) ?_
 refine DX hk (λ_ _=>rfl) (DgI o _) (.mk 0 r0 _ none rfl) (λxs ys gs hI=>?_) (λk' hk2 xs ys gs hI J P hP=>?_)
 ·obtain⟨r,ls,cv,els⟩:=hI
  rw[List.take_length,qR] at els
  subst els
  refine VF hk (aj 0 0 rfl) ?_
  refine VB (is:=(aG o).reverse.map λ(n:Nat)=>(n:Int)) hk (aj 0 0 rfl) i0 (by rw[List.length_map,List.length_reverse,cX];exact L1 [] [_] 268435460923477 1025 6553601205 rfl hz) i1 i2 ?_
  refine⟨_,_,_,.int _,.none,.none,λS2=>?_⟩
  refine iz hk (aj 0 0 rfl) (aj 2 0 rfl) nofun (by rw[aM,List.length_reverse];show(aG o).length≤_;rw[cX];exact L1 [] [_] 268435460923477 1025 6553601205 rfl hz) (ks:=nL (fu o p)) (by rw[show(((8*o.length-1-p:Nat):Int)+1)=((8*o.length-1-p+1:Nat):Int) from rfl,vB,vO,←i3];rfl) λz1=>?_
  exact aq [3] (hR (.yes p z1) hp)
 ·obtain⟨r,ls,cv,els⟩:=hI
  have hll:ls.length≤8*o.length:=by rw[els,aM,yF,lT,List.length_reverse];exact L1 [] [_,_] 208327614549 1025 12469 rfl (Nat.min_le_right k' (o.length))
  refine iB hk [("octet",L+1)] rfl (by decide +kernel) (by rw[hk.hc,hca];rfl) (λ_=>rfl) λK hK=>?_
  refine ux hk.nc (by decide) (by decide) λrr=>?_
  refine tC (cnt:=8) hk hK [0] [some (.int (o.reverse.getD k' 0:Nat))] (by rw[hca];rfl) rfl (λ_ _=>rfl) (aj 4 0 rfl) (small_down (by decide) (by decide) (by decide) (by decide)) (by rw[rangeSize_downNat];rfl) (by decide) (λi=>nL ((List.range i).map λi=>o.reverse.getD k' 0/2^(7-i)%2)) (λk=>(7-k:Nat)) (λk _=>by exact Xl (by assumption)) rfl ?_ ?_
  ·refine λD=>aB hk ?_
   refine eY (ms:=nL ((o.reverse.take (k'+1)).flatMap λb=>(aP b 8).reverse)) hk (aj 0 0 rfl) (aj 5 0 rfl) (by rw[aM];show _+8≤_;exact id (L2 [] [_,_] 17179869486001189 9217 6553601221 50861237 rfl hz hll)) (by rw[els,mq];exact congrArg nL (K3 o.reverse hk2)) λz2=>?_
   exact hP [6,1,2] _ _ _ _ (.mk (k'+1) z2 _ _ rfl) rfl
  ·intro i hi c2 hc2 hw2 hb2 ρ2 P2 hP2
   refine iT hc2 (by exact L1 [] [_,_] 3932341 129 1879845927 rfl (sC 7 i (L1 [] [_] 458933 129 524470 rfl hi))) ?_
   refine Aw hc2 (vh (by exact L1 [] [_,_] 3932341 129 1879845927 rfl (sC 7 i (L1 [] [_] 458933 129 524470 rfl hi)))).2 (vh (by exact L1 [] [_,_] 3932341 129 1879845927 rfl (sC 7 i (L1 [] [_] 458933 129 524470 rfl hi)))).1 ?_
   exact hP2 [_] [0,1,2,3,4,6] _ _ (by rw[gQ];exact mj _ i) rfl
structure jR(P:Addr→AO→Prop)(C:Addr)(iV:List Addr)(t:Tab):Prop where
 hC:P C (.list (iV.map .ref))
 len:iV.length=t.z
 hc:∀ i a,iV[i]?=some a→P a (.tuple [.int (t.sy i:Nat),.int (t.wd i:Nat),.int (t.bs i:Nat)])
noncomputable def cj(P:Addr→AO→Prop)(C:Addr)(t:Tab):Prop:=∃ iV,jR P C iV t
theorem cj.imp{P P':Addr→AO→Prop}{C t} (h:cj P C t) (k:∀ a ao,P a ao→P' a ao):cj P' C t:=by
 refine uE (λiV h=>?_) h
 exact⟨iV,k _ _ h.hC,h.len,λi a e=>k _ _ (h.hc i a e)⟩
theorem cj.base{w:World}{base base':Heap}{C t} (h:cj (bW w base) C t) (k:base.StaysIn base'):cj (bW w base') C t:=h.imp λ_ _ q=>q.keeps k
theorem Tab.Br{t:Tab}{s st k:Nat}(hk:k<t.z)(hh:t.hit s st k=true)(hj:∀ j,j<k→t.hit s st j=false):t.aQ s st=k:=by
 unfold Tab.aQ
 have:(List.range t.z).find? (t.hit s st)=some k:=by
  rw[List.find?_range_eq_some]
  exact⟨hh,List.mem_range.mpr hk,λj hj'=>by simp[hj j hj']⟩
 rw[this];rfl
theorem Tab.pN{t:Tab}(g:TabOk t){s st:Nat}(hs:t.known s)(hst:st<t.z):t.aQ s st<t.z∧t.hit s st (t.aQ s st)=true:=by
 refine dZ (λa b c d=>?_) (g.ahead s hs st hst)
 exact⟨a,by unfold Tab.hit;rw[Bool.and_eq_true,Bool.and_eq_true,decide_eq_true_iff,decide_eq_true_iff,beq_iff_eq];exact⟨b,c,d⟩⟩
theorem Rr{iV:List Addr}{k:Nat}(h:k<iV.length):(iV.map AV.ref)[((k:Nat):Int).toNat]?=some (.ref iV[k]):=by
 rw[Int.toNat_natCast,List.getElem?_map,gE h];rfl
theorem jR.at{P:Addr→AO→Prop}{C:Addr}{iV:List Addr}{t:Tab}(h:jR P C iV t){k:Nat}(hk:k<t.z):∃ a,(iV.map AV.ref)[((k:Nat):Int).toNat]?=some (.ref a)∧P a (.tuple [.int (t.sy k:Nat),.int (t.wd k:Nat),.int (t.bs k:Nat)]):=by
 have hl:k<iV.length:=by rw[h.len];exact hk
 exact⟨iV[k],Rr hl,h.hc k _ (gE hl)⟩
theorem jR.zl{P:Addr→AO→Prop}{C:Addr}{iV:List Addr}{t:Tab}(h:jR P C iV t):(iV.map AV.ref).length=t.z:=by rw[List.length_map,h.len]
theorem rN{t:Tab}{s st k:Nat}(hj:∀ j,j<k→t.hit s st j=false)(h:t.hit s st k=false):∀ j,j<k+1→t.hit s st j=false:=λj hj2=>by
 rcases Nat.lt_succ_iff_lt_or_eq.mp hj2 with q|rfl
 ·exact hj j q
 ·exact h
inductive LaI (C:Addr) (s st:Nat) (t:Tab) (gr:Led):Nat→Vs→Vs→Gs→Prop
 | mk (k:Nat) (pv:Option AV):(∀ j,j<k→t.hit s st j=false)→LaI C s st t gr k [some (.ref C),some (.int s),some (.int st),pv] [] [gr]
theorem vW (w:World)(b:Bool)(base:Heap)(C:Addr)(s st:Nat)(t:Tab)(g:TabOk t)(hC:cj (bW w base) C t)(hs:t.known s)(hst:st<t.z) :
    FX w b 2 507 base [.ref C,.int s,.int st] [] (λ_:Addr×Addr=>True) (λi=>.ref i.1) (λi=>[[(i.1,.tuple [.int (t.aQ s st:Nat),.ref i.2])],[(i.2,.list (nL (aP (st-t.bs (t.aQ s st)) (t.wd (t.aQ s st)))))]]) bN:=by
  refine uE (λiV hC=>?_) hC
  have hz:=(Tab.kZ g).1
  have qK:=hC.zl
  have hh:=Tab.pN g hs hst
  refine FX.go ["cells","symbol","state"] ["place"] rfl rfl rfl (λ_ _ _=>rfl) (by decide +kernel) ?_
  rintro k hk ow rfl-rfl-hR
  refine eO hk ow (λ_=>rfl) ?_
  refine bC hk (.b hC.hC) (by exact L2 [] [_,_] 65536001205 8321 4195525 12471 rfl hz qK) ?_
  refine eN hk λrr=>?_
  refine d9 (cnt:=t.z) hk (λ_ _=>rfl) (aj 0 0 rfl) (small_one (by decide) (by decide) (by exact L0 [] [_] 859848489200905000509768768 1 rfl) (by exact L2 [] [_,_] 19342813113834066795375729 8321 4195525 12471 rfl hz qK)) (by rw[bf,qK];rfl) (LaI C s st t _) (.mk 0 none λj h=>nomatch h) (λxs ys gs hI=>?_) (λk' hk2 xs ys gs hI J P hP=>?_)
  · obtain⟨pv,hj⟩:=hI
    have:=hj _ hh.1
    rw[hh.2] at this;cases this
  · obtain⟨pv,hj⟩:=hI
    refine aD (λa ha hA=>?_) (hC.at hk2)
    have nJ:=Tab.je g hk2
    refine iM (b:=.int (k':Nat)) (by congr 1;exact iA (L0 [] [_] 50044392290910240 1 rfl) (L0 [] [_] 50033379701304432 1 rfl)) ?_
    refine aU hk (λ_ _=>rfl) (.b hC.hC) (by exact L0 [] [_] 46596096 1 rfl) (by exact L2 [] [_,_] 38685626227668133590674545 8321 4195525 12470 rfl hz hk2) ha ?_
    refine jJ hk (λ_ _=>rfl) (.b hA) (by decide) (by decide) rfl ?_
    refine aO (λe1=>?_) (λe1=>hP [0,1] _ _ _ _ (.mk (k'+1) _ (rN hj ?_)) rfl)
    · refine DY hk rfl λK hK=>?_
      refine aU hk (λ_ _=>rfl) (.b hC.hC) (by exact L0 [] [_] 46596096 1 rfl) (by exact L2 [] [_,_] 38685626227668133590674545 8321 4195525 12470 rfl hz hk2) ha ?_
      refine jJ hk (λ_ _=>rfl) (.b hA) (by decide) (by decide) rfl ?_
      refine M7 hk hK ?_
      refine aO (λe2=>?_) (λe2=>hP [0,1] _ _ _ _ (.mk (k'+1) _ (rN hj ?_)) rfl)
      · refine aU hk (λ_ _=>rfl) (.b hC.hC) (by exact L0 [] [_] 46596096 1 rfl) (by exact L2 [] [_,_] 38685626227668133590674545 8321 4195525 12470 rfl hz hk2) ha ?_
        refine jJ hk (λ_ _=>rfl) (.b hA) (by decide) (by decide) rfl ?_
        refine aU hk (λ_ _=>rfl) (.b hC.hC) (by exact L0 [] [_] 46596096 1 rfl) (by exact L2 [] [_,_] 38685626227668133590674545 8321 4195525 12470 rfl hz hk2) ha ?_
        refine jJ hk (λ_ _=>rfl) (.b hA) (by decide) (by decide) rfl ?_
        refine iT hk (by exact L1 [] [_] 3932341 129 393397 rfl nJ) ?_
        refine aO (λe3=>?_) (λe3=>hP [0,1] _ _ _ _ (.mk (k'+1) _ (rN hj ?_)) rfl)
        · have hit:t.hit s st k'=true:=by
            unfold Tab.hit;rw[Bool.and_eq_true,Bool.and_eq_true,decide_eq_true_iff,decide_eq_true_iff,beq_iff_eq]
            exact⟨by exact nA (L1 [] [_,_] 12469 129 50801778 rfl e1) (L1 [] [_,_] 12469 65 46608498 rfl e1),by exact L1 [] [_,_] 12469 129 50801776 rfl e2,by exact L1 [] [_,_,_] 55314614 129 14417160973425 rfl e3⟩
          have Mz:=Tab.Br hk2 hit hj
          refine aU hk (λ_ _=>rfl) (.b hC.hC) (by exact L0 [] [_] 46596096 1 rfl) (by exact L3 [] [_,_,_] 38685626227668133590674545 270465 4195525 12502 11479 rfl hz hh.1 Mz) ha ?_
          refine jJ hk (λ_ _=>rfl) (.b hA) (by decide) (by decide) rfl ?_
          refine aU hk (λ_ _=>rfl) (.b hC.hC) (by exact L0 [] [_] 46596096 1 rfl) (by exact L3 [] [_,_,_] 38685626227668133590674545 270465 4195525 12502 11479 rfl hz hh.1 Mz) ha ?_
          refine jJ hk (λ_ _=>rfl) (.b hA) (by decide) (by decide) rfl ?_
          refine bD (C:=λ_:Addr=>True) (v:=λr=>.ref r) (g':=λr=>[[(r,.list (nL (aP (st-t.bs k') (t.wd k'))))]]) hk [] (nR _) (λbase' _=>by rw[←Int.natCast_sub (by exact L1 [] [_,_] 12469 129 50801776 rfl e2)];exact uw k.w _ base' _ _ (by exact L1 [] [_] 3932341 129 393397 rfl nJ)) aX (λ_=>Nat.zero_le _) λl _=>?_
          intro x
          have:=hR (x,l) trivial
          rw[Mz] at this
          exact aq [4,3] this
        · unfold Tab.hit
          rw[show decide (st<t.bs k'+2^t.wd k')=false from decide_eq_false (by exact L1 [] [_,_,_] 55314617 129 14417160973428 rfl e3),Bool.and_false,Bool.and_false]
      · unfold Tab.hit
        rw[show decide (t.bs k'≤st)=false from decide_eq_false (by exact L1 [] [_,_] 12472 129 50801779 rfl e2),Bool.false_and,Bool.and_false]
    · unfold Tab.hit
      rw[show(t.sy k' == s)=false from beq_false_of_ne (by exact λq=>Or.elim (Int.lt_or_gt_of_ne e1) (λz2=>L2 [] [_,_] 10 8256 12471 50801777 rfl q z2) (λz2=>L2 [] [_,_] 10 8320 12471 46608497 rfl q z2))];rfl
theorem vU(w:World)(b:Bool)(base:Heap)(C:Addr)(s:Nat)(t:Tab)(g:TabOk t)(hC:cj (bW w base) C t)(hs:t.known s) :
  F1 w b 1 512 base [.ref C,.int s] [] (.int (t.aZ s:Nat)) [] bN:=by
 refine uE (λiV hC=>?_) hC
 have hz:=(Tab.kZ g).1
 have qK:=hC.zl
 refine FX.GK ["cells","symbol"] [] [] ["symbol","cells"] [] [some (.int s),some (.ref C)] rfl rfl rfl (λ_ _=>rfl) (by decide +kernel) rfl (λ_=>rfl) (λ_=>rfl) ?_
 rintro k hk ow rfl-rfl-hR L hca -
 refine iB hk [("symbol",L+1+1),("cells",L+1)] rfl (by decide +kernel) (by rw[hk.hc,hca];rfl) (λ_=>rfl) λK hK=>?_
 refine bC hk.nc (.b hC.hC) (by exact L2 [] [_,_] 65536001205 8321 4195525 12471 rfl hz qK) ?_
 refine eN hk.nc λrr=>?_
 refine tC (cnt:=t.z) hk hK [0,1] [some (.int s),some (.ref C)] (by rw[hca];rfl) rfl (λ_ _=>rfl) (aj 0 0 rfl) (small_one (by decide) (by decide) (by exact L0 [] [_] 859848489200905000509768768 1 rfl) (by exact L2 [] [_,_] 19342813113834066795375729 8321 4195525 12471 rfl hz qK)) (by rw[bf,qK];rfl) (by exact L1 [] [_] 65536001205 129 4195509 rfl hz) (λk=>nL (t.jW k s)) (λk=>(k:Nat)) (λk _=>by exact iA (L0 [] [_] 50044392290910240 1 rfl) (L0 [] [_] 50033379701304432 1 rfl)) rfl ?_ ?_
 ·refine λD=>aB hk ?_
  refine aU hk (λ_ _=>rfl) (aj 1 0 rfl) (by decide) (by decide) (rI (g.least s hs).2.2) ?_
  exact aq [] (hR () trivial)
 ·intro k' hk2 c' hc' hw hb ρ P hP
  refine aD (λa ha hA=>?_) (hC.at hk2)
  refine aU hc' (λ_ _=>rfl) (.b (by rw[hw,hb];exact hC.hC)) (by exact L0 [] [_] 46596096 1 rfl) (by exact L2 [] [_,_] 38685626227668133590674545 8321 4195525 12470 rfl hz hk2) ha ?_
  refine jJ hc' (λ_ _=>rfl) (.b (by rw[hw,hb];exact hA)) (by decide) (by decide) rfl ?_
  refine aO (λe1=>?_) (λe1=>?_)
  ·exact hP [.int (k':Nat)] [0,2] _ _ (by rw[Tab.lX,if_pos (by exact nA (L1 [] [_,_] 12469 129 50801778 rfl e1) (L1 [] [_,_] 12469 65 46608498 rfl e1)),cD]) rfl
  ·exact hP [] [0,2] _ _ (by rw[Tab.lX,if_neg (by exact λq=>Or.elim (Int.lt_or_gt_of_ne e1) (λz2=>L2 [] [_,_] 10 8256 12471 50801777 rfl q z2) (λz2=>L2 [] [_,_] 10 8320 12471 46608497 rfl q z2)),aN]) rfl
theorem uR{o:List Nat}{p:Nat}(hl:∀ x∈o,x<256)(h:startP o=some p):p≤8*o.length∧0<o.length:=by
 unfold startP at h
 split at h
 ·cases h
 ·rename_i h0
  have h1:0<o.length:=by
   cases o with
   | nil=>exact absurd rfl h0
   | cons a l=>simp
  have h2:o.getLastD 0<256:=by
   rw[dM,gD,gE (by exact L1 [] [_,_] 12470 129 3225431079 rfl (sC (o.length) 1 (L1 [] [_] 721925 129 720902 rfl h1)))]
   exact hl _ (List.getElem_mem _)
  have h3:Nat.log2 (o.getLastD 0)<8:=(Nat.log2_lt h0).mpr h2
  have:=oI h
  exact⟨L3 [] [_,_,_,_] 50861237 4198529 524502 192527471655 3225434151 rfl h3 this (sC (o.length) 1 (L1 [] [_] 721925 129 720902 rfl h1)),L1 [] [_] 720902 129 720902 rfl h1⟩
noncomputable abbrev Fg(r:Res)(c:Value):Prop:=(c=.ref 64∧r=.table)∨(c=.ref 52∧r=.cut)
inductive I5 (o:List Nat) (T:Addr) (many:Nat) (t:Tab) (x d y f r:Addr):Nat→Vs→Vs→Gs→Prop
  | mk (st q:Nat) (fd:List Nat) (W B k:Nat):k=many-fd.length→fd.length≤many→st<t.z→q≤8*o.length→t.decOne o many=t.cu o k W B q fd→(0<k→W=t.wd st∧B=t.bs st)→
    I5 o T many t x d y f r k [some (.bytes o),some (.ref T),some (.int many),some (.ref x),some (.ref y),some (.ref r)] [] [eZ x d o q,fL y f T st,[(r,.list (nL fd))]]
theorem uM (w:World)(b:Bool)(base:Heap)(T:Addr)(o:List Nat)(many:Nat)(t:Tab)(g:TabOk t)(hT:bL (bW w base) T t)(hl:∀ x∈o,x<256)(hz:o.length≤100000)(hm:many≤1000) :
    FX w b 7 436 base [.bytes o,.ref T,.int many] [] (λi:Addr×List Nat=>t.decOne o many=.ok i.2) (λi=>.ref i.1) (λi=>[[(i.1,.list (nL i.2))]]) (Fg (t.decOne o many)):=by
  refine FX.go ["octets","table","count"] ["back","reader","found"] rfl rfl rfl (λ_ _ _=>rfl) (by decide +kernel) ?_
  rintro k hk ow rfl-rfl hX hR
  have bM:0<t.log:=by rcases g.log with h|h<;>(first|exact L1 [] [_] 720902 65 327863 rfl h|exact L1 [] [_] 720902 65 393399 rfl h)
  have tB:=Tab.kZ g
  refine dH hk ["back","reader","found"] (by decide +kernel) (by decide) rfl ?_
  refine iJ hk [] (by decide) (by kernel_rfl) (P:=λ_ _ p=>startP o=some p) (hd:=λx d p=>eZ x d o p) (tl:=λ_ _ _=>[]) (λbase' x d _=>yD k.w _ base' x d o hz) (λc=>uA λh1 h2=>hX c (.inl ⟨h1,by unfold Tab.decOne;rw[h2]⟩)) (λ_ _ _=>nR _) λx d p e2=>?_
  refine iJ hk [] (by decide) (by kernel_rfl) (P:=λ_ _ (_:Unit)=>True) (hd:=λy f _=>fL y f T 0) (tl:=λ_ _ _=>[]) (λbase' y f _=>pX k.w _ base' y f T) aX (λ_ _ _=>nR _) λy f _ _=>?_
  have hp:=(uR hl e2).1
  have hd0:t.decOne o many=t.cu o many t.log 0 p []:=by unfold Tab.decOne;rw[e2]
  intro r
  refine Io hk (λxs ys gs=>∃ k,I5 o T many t x d y f r k xs ys gs) (λP hP=>?_) ?_
  · refine aO (λh0=>?_) (λh0=>?_)
    · have hsucc:many=(many-1)+1:=nA (L1 [] [_,_] 269224117 65 2956996647 rfl (sC many 1 (L1 [] [_] 721925 129 46596097 rfl h0))) (L1 [] [_,_] 3225431077 129 3225431079 rfl (sC many 1 (L1 [] [_] 721925 129 46596097 rfl h0)))
      have hrd:rd o p t.log<t.z:=kh o p t.log
      refine cL hk 1 rfl rfl 345 (by kernel_rfl) rfl ?_
      refine bD hk [1,0] (by decide) (λbase' aK=>rE k.w _ base' y f T x d 0 o p t g (hT.base aK.keep) hp hl hz) (λc=>uA λh1 h2=>hX c (.inr ⟨h1,by rw[hd0,hsucc,Tab.cu,if_pos h2]⟩)) (λ_=>nR _) λ_ e0=>?_
      refine kI hk 2 0 rfl ?_
      refine cL hk 1 rfl rfl 352 (by kernel_rfl) rfl ?_
      refine aF hk [1] (by decide) (λbase' aK=>lQ k.w _ base' y f T _ t g (hT.base aK.keep) hrd) aX (nR _) ?_
      refine kJ hk 2 0 rfl (by decide) ?_
      exact hP [0,1,2] _ _ _ ⟨_,.mk (rd o p t.log) (p-t.log) [t.sy (rd o p t.log)] (t.wd (rd o p t.log)) (t.bs (rd o p t.log)) (many-1) rfl (by rw[List.length_singleton];exact L1 [] [_] 721925 129 46596097 rfl h0) hrd (by exact L3 [] [_,_,_,_] 50861237 532609 851974 50861285 59583527 rfl bM hp (sC p (t.log) (L1 [] [_,_] 12469 129 12469 rfl e0))) (by
        rw[hd0,hsucc,Tab.cu,if_neg (by exact L1 [] [_,_] 12473 129 11461 rfl e0),Nat.zero_add];rfl) λ_=>⟨rfl,rfl⟩⟩
    · exact hP [0,1,2] _ _ _ ⟨_,.mk 0 p [] t.log 0 many rfl (Nat.zero_le _) (by exact L1 [] [_] 720902 129 753669 rfl tB.2) hp hd0 (λh=>by exact⟨nA (L2 [] [_,_,_] 12469 8320 54984708 851974 rfl h0 h) (L2 [] [_,_,_] 12469 8320 54984708 851974 rfl h0 h),nA (L0 [] [_] 720901 1 rfl) (L2 [] [_,_] 181 8320 50790404 786438 rfl h0 h)⟩)⟩
  · rintro xs ys gs ⟨k0,hI⟩
    obtain⟨st,q,fd,W,B,_,hk0,hfd,hst,hq,hdec,Vu⟩:=hI
    refine iy hk ow (I5 o T many t x d y f r) _ (.mk st q fd W B _ hk0 hfd hst hq hdec Vu) ?_
    intro k' xs ys gs hI P hP
    obtain⟨st,q,fd,W,B,_,hk0,hfd,hst,hq,hdec,Vu⟩:=hI
    refine bC hk (aj 2 0 rfl) (by rw[aM];exact L2 [] [_,_] 65536001205 8321 65537221 12469 rfl hm hfd) ?_
    refine aO (λh0=>?_) (λh0=>?_)
    · rw[aM] at h0
      refine uA (λeW eB=>?_) (Vu (by exact L3 [] [_,_,_,_] 720902 270401 12471 59192433 59584551 rfl hk0 h0 (sC many (fd.length) (L1 [] [_,_] 12469 129 50801777 rfl h0))))
      have hnx:t.bs st+rd o q (t.wd st)<t.z:=by
        have h1:=g.top st hst
        have h2:=kh o q (t.wd st)
        exact L2 [] [_,_,_,_] 55323686 8321 55454757 14534 rfl h1 h2
      have hsucc:k'=(k'-1)+1:=nA (L1 [] [_,_] 269224117 65 2956996647 rfl (sC k' 1 (L3 [] [_,_,_,_] 721925 270401 12471 59192433 59584551 rfl hk0 h0 (sC many (fd.length) (L1 [] [_,_] 12469 129 50801777 rfl h0))))) (L1 [] [_,_] 3225431077 129 3225431079 rfl (sC k' 1 (L3 [] [_,_,_,_] 721925 270401 12471 59192433 59584551 rfl hk0 h0 (sC many (fd.length) (L1 [] [_,_] 12469 129 50801777 rfl h0)))))
      rw[hsucc,Tab.cu,eW,eB] at hdec
      refine cL hk 1 rfl rfl 366 (by kernel_rfl) rfl ?_
      refine bD hk [1,0] (by decide) (λbase' aK=>BW k.w _ base' y f T x d st o q t g (hT.base aK.keep) hst hq hl hz) (λc=>uA λh1 h2=>hX c (.inr ⟨h1,by rw[hdec,if_pos h2]⟩)) (λ_=>nR _) λ_ e0=>?_
      rw[if_neg (Nat.not_lt.mpr e0)] at hdec
      refine kI hk 2 0 rfl ?_
      refine cL hk 1 rfl rfl 352 (by kernel_rfl) rfl ?_
      refine aF hk [1] (by decide) (λbase' aK=>lQ k.w _ base' y f T _ t g (hT.base aK.keep) hnx) aX (nR _) ?_
      refine kJ hk 2 0 rfl (by rw[aM];exact L2 [] [_,_] 65536001205 8321 65537221 50801777 rfl hm h0) ?_
      refine hP (k'-1) [0,1,2] _ _ _ ?_ (by exact L1 [] [_,_] 12470 129 3225431079 rfl (sC k' 1 (L1 [] [_,_] 721925 65 269224119 rfl hsucc)))
      have:=I5.mk (T:=T) (x:=x) (d:=d) (y:=y) (f:=f) (r:=r) (t.bs st+rd o q (t.wd st)) (q-t.wd st) (fd++[t.sy (t.bs st+rd o q (t.wd st))]) _ _ (k'-1) (by rw[lA,List.length_singleton];exact nA (L4 [] [_,_,_,_,_,_] 12469 17309825 14551 3493866535 68106279 17609428971559 rfl hk0 (sC k' 1 (L1 [] [_,_] 721925 65 269224119 rfl hsucc)) (sC many (fd.length) (L1 [] [_,_] 12469 129 50801777 rfl h0)) (sC many (fd.length+1) (L1 [] [_,_] 3225431077 129 50801777 rfl h0))) (L4 [] [_,_,_,_,_,_] 12469 33820737 14551 3493867559 68106279 17609428970535 rfl hk0 (sC k' 1 (L1 [] [_,_] 721925 65 269224119 rfl hsucc)) (sC many (fd.length) (L1 [] [_,_] 12469 129 50801777 rfl h0)) (sC many (fd.length+1) (L1 [] [_,_] 3225431077 129 50801777 rfl h0)))) (by rw[lA,List.length_singleton];exact L1 [] [_,_] 3225431077 129 50801777 rfl h0) hnx (by exact L3 [] [_,_,_,_,_] 50861237 532609 50861269 15591 55520295 rfl hq eW (sC q (t.wd st) (L1 [] [_,_] 12469 129 12469 rfl e0))) hdec λ_=>⟨rfl,rfl⟩
      rw[←cD] at this
      exact this
    · rw[aM] at h0
      obtain rfl:k'=0:=nA (L3 [] [_,_,_,_] 181 532609 12471 59192436 59584551 rfl hk0 h0 (sC many (fd.length) (L1 [] [_,_] 12469 129 12469 rfl hfd))) (L3 [] [_,_,_,_] 720901 266369 13509 14519 55326759 rfl hfd hk0 (sC many (fd.length) (L1 [] [_,_] 12469 129 12469 rfl hfd)))
      refine cL hk 0 rfl rfl 190 (by kernel_rfl) rfl ?_
      refine aF hk [0] (by decide) (λbase' _=>Dk k.w _ base' x d o q) aX (nR _) ?_
      refine q7 (λhq0=>?_) (λhq0=>?_)
      · refine nO hk (dI _) (hX _ (.inl ⟨rfl,by rw[hdec,Tab.cu,if_neg (by exact λq=>Or.elim (Int.lt_or_gt_of_ne hq0) (λz2=>L2 [] [_] 10 8256 183 11377 rfl q z2) (λz2=>L2 [] [_] 10 8320 183 46596097 rfl q z2))]⟩)) ?_
        exact wF hk rfl (dI _)
      · exact aq [2] (hR (r,fd) (by rw[hdec,Tab.cu,if_pos (by exact nA (L1 [] [_] 181 129 11378 rfl hq0) (L1 [] [_] 720901 65 11378 rfl hq0))]))
inductive Tc (o:List Nat) (T:Addr) (most:Nat) (t:Tab) (p:Nat) (x d y f y1 f1 rs r:Addr):Nat→Vs→Vs→Gs→Prop
  | mk (k s0 s1 q:Nat) (rv:Option AV):(k=0∧s0=0∧s1=0∧q=p∨k=1∧t.log≤p∧s0=rd o p t.log∧s1=0∧q=p-t.log∨k=2∧2*t.log≤p∧s0=rd o p t.log∧s1=rd o (p-t.log) t.log∧q=p-2*t.log)→
    Tc o T most t p x d y f y1 f1 rs r k [some (.bytes o),some (.ref T),some (.int most),some (.ref x),some (.ref rs),some (.ref r),rv,none] [] [eZ x d o q,fL y f T s0,fL y1 f1 T s1,[(rs,.list [.ref y,.ref y1])],[(r,.list (nL []))]]
inductive OJ (o:List Nat) (T:Addr) (most:Nat) (t:Tab) (x d y f y1 f1 rs r:Addr):Nat→Vs→Vs→Gs→Prop
  | mk (k a b q:Nat) (fd:List Nat) (ya fa yb fb:Addr) (rv ov:Option AV):k=most-fd.length→fd.length≤most→Turn fd.length y f y1 f1 ya fa yb fb→a<t.z→b<t.z→q≤8*o.length→
    t.cM o most=t.dG o (most-1-fd.length) a b q fd→
    OJ o T most t x d y f y1 f1 rs r k [some (.bytes o),some (.ref T),some (.int most),some (.ref x),some (.ref rs),some (.ref r),rv,ov] [] [eZ x d o q,fL ya fa T a,fL yb fb T b,[(rs,.list [.ref y,.ref y1])],[(r,.list (nL fd))]]
theorem uL (w:World)(b:Bool)(base:Heap)(T:Addr)(o:List Nat)(most:Nat)(t:Tab)(g:TabOk t)(hT:bL (bW w base) T t)(hl:∀ x∈o,x<256)(hz:o.length≤100000)(hm:most≤1000) :
    FX w b 7 450 base [.bytes o,.ref T,.int most] [] (λi:Addr×List Nat=>t.cM o most=.ok i.2) (λi=>.ref i.1) (λi=>[[(i.1,.list (nL i.2))]]) (Fg (t.cM o most)):=by
  refine FX.go ["octets","table","most"] ["back","readers","found","reader","other"] rfl rfl rfl (λ_ _ _=>rfl) (by decide +kernel) ?_
  rintro k hk ow rfl-rfl hX hR
  have bM:t.log≤6∧0<t.log:=by rcases g.log with h|h<;>(first|exact⟨L1 [] [_] 393397 129 327863 rfl h,L1 [] [_] 720902 65 327863 rfl h⟩|exact⟨L1 [] [_] 393397 129 393399 rfl h,L1 [] [_] 720902 65 393399 rfl h⟩)
  have tB:=Tab.kZ g
  refine dH hk ["back","readers","found"] (by decide +kernel) (by decide) rfl ?_
  refine iJ hk [] (by decide) (by kernel_rfl) (P:=λ_ _ p=>startP o=some p) (hd:=λx d p=>eZ x d o p) (tl:=λ_ _ _=>[]) (λbase' x d _=>yD k.w _ base' x d o hz) (λc=>uA λh1 h2=>hX c (.inl ⟨h1,by unfold Tab.cM;rw[h2]⟩)) (λ_ _ _=>nR _) λx d p e2=>?_
  refine iJ hk [] (by decide) (by kernel_rfl) (P:=λ_ _ (_:Unit)=>True) (hd:=λy f _=>fL y f T 0) (tl:=λ_ _ _=>[]) (λbase' y f _=>pX k.w _ base' y f T) aX (λ_ _ _=>nR _) λy f _ _=>?_
  refine iJ hk [] (by decide) (by kernel_rfl) (P:=λ_ _ (_:Unit)=>True) (hd:=λy f _=>fL y f T 0) (tl:=λ_ _ _=>[]) (λbase' y f _=>pX k.w _ base' y f T) aX (λ_ _ _=>nR _) λy1 f1 _ _=>?_
  have hp:=(uR hl e2).1
  intro rs r
  refine eO hk ow (λ_=>rfl) ?_
  refine iK hk (λ_ _=>rfl) (aj 3 0 rfl) (Tc o T most t p x d y f y1 f1 rs r) (.mk 0 0 0 p none (.inl ⟨rfl,rfl,rfl,rfl⟩)) (λk xs ys gs hI=>by cases hI;exact aj 3 0 rfl) (λxs ys gs hI=>?_) (λk' hk2 xs ys gs hI J P hP=>?_)
  · obtain⟨s0,s1,q,rv,hc⟩:=hI
    have h3:2*t.log≤p∧s0=rd o p t.log∧s1=rd o (p-t.log) t.log∧q=p-2*t.log:=by
      rcases hc with⟨h,-⟩|⟨h,-⟩|⟨-,h⟩
      · cases h
      · cases h
      · exact h
    refine dZ (λVx gP kj nD=>?_) h3;subst gP;subst kj;subst nD
    have hd0:t.cM o most=t.dG o (most-1) (rd o p t.log) (rd o (p-t.log) t.log) (p-2*t.log) []:=by
      unfold Tab.cM;rw[e2];exact if_neg (by exact L1 [] [_,_] 50468025 129 46925909 rfl Vx)
    refine iy hk ow (OJ o T most t x d y f y1 f1 rs r) most (.mk most _ _ _ [] _ _ _ _ _ _ rfl (Nat.zero_le _) (.inl ⟨rfl,rfl,rfl,rfl,rfl⟩) (kh o p t.log) (kh o (p-t.log) t.log) (by exact L3 [] [_,_,_,_] 50861237 532737 851974 50861285 244016557095 rfl bM.2 hp (sC p (2*t.log) (L1 [] [_,_] 51054677 129 51054677 rfl Vx))) hd0) ?_
    clear hc e2 hp Vx hd0
    intro k' xs ys gs hI P hP
    obtain⟨a,b,q,fd,ya,fa,yb,fb,rv,ov,hk0,hfd,hpar,ha,hb,hq,hdec⟩:=hI
    have hle:(nL fd).length=fd.length:=aM fd
    refine bC hk (aj 4 0 rfl) (by exact L3 [] [_,_,_] 65536001205 532609 65537221 12501 13495 rfl hm hfd hle) ?_
    refine aO (λh0=>?_) (λh0=>?_)
    · have hsucc:most-1-fd.length=(most-1-(fd.length+1))+1:=by exact Or.elim (Nat.le_total (most-1) (fd.length)) (λz2=>nA (L2 [] [_,_,_,_] 269224117 4225 59583527 15410397327399 rfl (sC (most-1) (fd.length) (L4 [] [_,_,_,_] 12469 17309760 11479 15513691167777 11461 3762303015 rfl hle h0 z2 (sC most 1 (L1 [] [_,_] 721925 129 12215156218913 rfl h0)))) (sC (most-1) (fd.length+1) (L4 [] [_,_,_,_] 3225431077 17309760 11479 15513691167777 11461 3762303015 rfl hle h0 z2 (sC most 1 (L1 [] [_,_] 721925 129 12215156218913 rfl h0))))) (L2 [] [_,_,_,_] 3225431077 8257 59584551 15410397326375 rfl (sC (most-1) (fd.length) (L4 [] [_,_,_,_] 12469 17309760 11479 15513691167777 11461 3762303015 rfl hle h0 z2 (sC most 1 (L1 [] [_,_] 721925 129 12215156218913 rfl h0)))) (sC (most-1) (fd.length+1) (L4 [] [_,_,_,_] 3225431077 17309760 11479 15513691167777 11461 3762303015 rfl hle h0 z2 (sC most 1 (L1 [] [_,_] 721925 129 12215156218913 rfl h0)))))) (λz2=>nA (L2 [] [_,_,_,_] 269224117 4225 59583527 15410397327399 rfl (sC (most-1) (fd.length) (L3 [] [_,_,_,_] 12469 270401 11479 15513691167777 3762303015 rfl hle h0 (sC most 1 (L1 [] [_,_] 721925 129 12215156218913 rfl h0)))) (sC (most-1) (fd.length+1) (L3 [] [_,_,_,_] 3225431077 270401 11479 15513691167777 3762303015 rfl hle h0 (sC most 1 (L1 [] [_,_] 721925 129 12215156218913 rfl h0))))) (L2 [] [_,_,_,_] 3225431077 8257 59584551 15410397326375 rfl (sC (most-1) (fd.length) (L3 [] [_,_,_,_] 12469 270401 11479 15513691167777 3762303015 rfl hle h0 (sC most 1 (L1 [] [_,_] 721925 129 12215156218913 rfl h0)))) (sC (most-1) (fd.length+1) (L3 [] [_,_,_,_] 3225431077 270401 11479 15513691167777 3762303015 rfl hle h0 (sC most 1 (L1 [] [_,_] 721925 129 12215156218913 rfl h0))))))
      rw[hsucc,Tab.dG] at hdec
      have hi:(((nL fd).length:Nat):Int)=fd.length:=congrArg _ hle
      refine gJ (λi1 i2 i3=>?_) (hpar.at hi rfl)
      refine gJ (λj1 j2 j3=>?_) (hpar.other hi)
      refine dH hk ["reader","other"] (by decide +kernel) (by decide) rfl ?_
      refine bC hk (aj 4 0 rfl) (by exact L2 [] [_,_] 65536001205 8321 65537221 13314667781153 rfl hm h0) ?_
      refine aU hk (λ_ _=>rfl) (aj 3 0 rfl) i1 i2 i3 ?_
      refine bC hk (aj 4 0 rfl) (by exact L2 [] [_,_] 65536001205 8321 65537221 13314667781153 rfl hm h0) ?_
      refine aU hk (λ_ _=>rfl) (aj 3 0 rfl) j1 j2 j3 ?_
      refine kI hk 4 0 rfl ?_
      refine cL hk 1 rfl rfl 352 (by kernel_rfl) rfl ?_
      refine aF hk [1] (by decide) (λbase' aK=>lQ k.w _ base' ya fa T a t g (hT.base aK.keep) ha) aX (nR _) ?_
      refine kJ hk 4 0 rfl (by exact L2 [] [_,_] 65536001205 8321 65537221 13314667781153 rfl hm h0) ?_
      refine cL hk 1 rfl rfl 359 (by kernel_rfl) rfl ?_
      refine aF hk [1] (by decide) (λbase' aK=>yR k.w _ base' ya fa T a t g (hT.base aK.keep) ha) aX (nR _) ?_
      refine cL hk 0 rfl rfl 190 (by kernel_rfl) rfl ?_
      refine aF hk [0] (by decide) (λbase' _=>Dk k.w _ base' x d o q) aX (nR _) ?_
      refine aO (λh1=>?_) (λh1=>?_)
      · rw[if_pos (by exact L1 [] [_,_] 12470 129 50801777 rfl h1)] at hdec
        refine cL hk 2 rfl rfl 352 (by kernel_rfl) rfl ?_
        refine aF hk [2] (by decide) (λbase' aK=>lQ k.w _ base' yb fb T b t g (hT.base aK.keep) hb) aX (nR _) ?_
        intro r0
        refine Iu hk (aj 4 0 rfl) (aj 5 0 rfl) (by rw[lA];show(nL fd).length+1+1≤_;exact id (L2 [] [_,_] 4503599698839020963877 8321 65537221 13314667781153 rfl hm h0)) λr2=>?_
        have el:(nL fd++[.int (t.sy a:Nat)])++[.int (t.sy b:Nat)]=nL (fd++[t.sy a,t.sy b]):=by rw[cD,cD,aA];rfl
        refine aq [6] ?_
        have:=hR (r2,fd++[t.sy a,t.sy b]) hdec
        rw[←el] at this
        exact this
      · rw[if_neg (by exact L1 [] [_,_] 12473 129 50801780 rfl h1)] at hdec
        have hnx:t.bs a+rd o q (t.wd a)<t.z:=by
          have h1:=g.top a ha
          have h2:=kh o q (t.wd a)
          exact L2 [] [_,_,_,_] 55323686 8321 55454757 14534 rfl h1 h2
        refine cL hk 1 rfl rfl 366 (by kernel_rfl) rfl ?_
        refine bD hk [1,0] (by decide) (λbase' aK=>BW k.w _ base' ya fa T x d a o q t g (hT.base aK.keep) ha hq hl hz) (λc=>uA λh1' h2=>absurd h2 (by exact Ug h1)) (λ_=>nR _) λ_ e0=>?_
        have hl1:(fd++[t.sy a]).length=fd.length+1:=by rw[lA];rfl
        refine hP (most-(fd.length+1)) [0,2,1,3,4] _ _ _ ?_ (by exact L3 [] [_,_,_,_,_] 12470 528449 13511 63845415 16509913148455 rfl hk0 (sC most (fd.length) (L2 [] [_,_,_] 12469 8257 11479 13314667912225 rfl hle h0)) (sC most (fd.length+1) (L2 [] [_,_,_] 3225431077 8257 11479 13314667912225 rfl hle h0)))
        have:=OJ.mk (o:=o) (T:=T) (most:=most) (t:=t) (x:=x) (d:=d) (y:=y) (f:=f) (y1:=y1) (f1:=f1) (rs:=rs) (r:=r) (most-(fd.length+1)) b (t.bs a+rd o q (t.wd a)) (q-t.wd a) (fd++[t.sy a]) yb fb ya fa (some (.ref ya)) (some (.ref yb)) (by rw[hl1]) (by exact L3 [] [_,_,_,_] 12469 532545 14551 13314667912225 269355191 rfl hle h0 hl1) (by rw[hl1];exact hpar.next) hb hnx (by exact L2 [] [_,_,_,_] 50861237 8321 50861269 55454759 rfl hq (sC q (t.wd a) (L1 [] [_,_] 12469 129 46608500 rfl h1))) (by rw[hl1];exact hdec)
        rw[←cD] at this
        exact this
    · have h00:most-1-fd.length=0:=by exact Or.elim (Nat.le_total (most-1) (fd.length)) (λz2=>nA (L1 [] [_] 181 129 183 rfl (sZ (most-1) (fd.length) (L1 [] [_,_] 12469 129 12469 rfl z2))) (L1 [] [_] 720901 65 183 rfl (sZ (most-1) (fd.length) (L1 [] [_,_] 12469 129 12469 rfl z2)))) (λz2=>Or.elim (Nat.le_total most 1) (λz1=>nA (L2 [] [_,_,_] 181 8321 199 51194919 rfl (sZ most 1 (L1 [] [_] 65717 129 65717 rfl z1)) (sC (most-1) (fd.length) (L1 [] [_,_] 12469 129 12469 rfl z2))) (L2 [] [_,_,_] 720901 4225 13509 55323687 rfl z2 (sC (most-1) (fd.length) (L1 [] [_,_] 12469 129 12469 rfl z2)))) (λz1=>nA (L4 [] [_,_,_,_,_] 181 34087041 13511 15513691102244 3762306087 63777831 rfl hle h0 (sC most 1 (L1 [] [_] 721925 129 721925 rfl z1)) (sC (most-1) (fd.length) (L1 [] [_,_] 12469 129 12469 rfl z2))) (L2 [] [_,_,_] 720901 4225 13509 55323687 rfl z2 (sC (most-1) (fd.length) (L1 [] [_,_] 12469 129 12469 rfl z2)))))
      rw[h00] at hdec
      refine nO hk (dI _) (hX _ (.inl ⟨rfl,by rw[hdec];rfl⟩)) ?_
      exact wF hk rfl (dI _)
  · obtain⟨s0,s1,q,rv,hc⟩:=hI
    rcases hc with⟨rfl,rfl,rfl,rfl⟩|⟨rfl,hlp,rfl,rfl,rfl⟩|⟨rfl,-⟩
    · refine cL (x:=y) (name:="start") hk 1 rfl rfl 345 (by kernel_rfl) rfl ?_
      refine bD hk [1,0] (by decide) (λbase' aK=>rE k.w _ base' y f T x d 0 o q t g (hT.base aK.keep) hp hl hz) (λc=>uA λh1 h2=>hX c (.inr ⟨h1,by unfold Tab.cM;rw[e2];exact if_pos (by exact Ue h2)⟩)) (λ_=>nR _) λ_ e0=>?_
      exact hP [0,1,2,3,4,5] _ _ _ _ (.mk 1 _ _ _ _ (.inr (.inl ⟨rfl,e0,rfl,rfl,rfl⟩))) rfl
    · refine cL (x:=y1) (name:="start") hk 2 rfl rfl 345 (by kernel_rfl) rfl ?_
      refine bD hk [2,0] (by decide) (λbase' aK=>rE k.w _ base' y1 f1 T x d 0 o (p-t.log) t g (hT.base aK.keep) (by exact L3 [] [_,_,_,_] 50861237 532609 851974 50861285 59583527 rfl bM.2 hp (sC p (t.log) (L1 [] [_,_] 12469 129 12469 rfl hlp))) hl hz) (λc=>uA λh1 h2=>hX c (.inr ⟨h1,by unfold Tab.cM;rw[e2];exact if_pos (by exact Ud h2)⟩)) (λ_=>nR _) λ_ e0=>?_
      exact hP [0,1,2,3,4,5] _ _ _ _ (.mk 2 _ _ _ _ (.inr (.inr ⟨rfl,by exact L2 [] [_,_,_] 51054677 8321 13493 51065895 rfl e0 (sC p (t.log) (L1 [] [_,_] 12469 129 12469 rfl hlp)),rfl,rfl,Nat.sub_sub p _ _▸congrArg (p - ·) (Nat.two_mul _).symm⟩))) rfl
    · exact absurd hk2 (Nat.lt_irrefl 2)
theorem mH{t:Tab}(g:TabOk t):∀ (l:List Nat) (q:(Nat×Nat)×List Nat),(∀ s∈l,t.known s)→q.1.1<t.z→q.1.2<t.z→cQ q.2→(l.foldl t.j7 q).1.1<t.z∧(l.foldl t.j7 q).1.2<t.z∧cQ (l.foldl t.j7 q).2∧(l.foldl t.j7 q).2.length≤q.2.length+6*l.length
  | [],q,_,h1,h1',h2=>⟨h1,h1',h2,by simp⟩
  | s :: l,q,hs,h1,h1',h2=>by
    refine dZ (λa1 a2 a3 a4=>?_) (g.ahead s (hs s (.head _)) q.1.1 h1)
    have hw:=Tab.je g a1
    refine dZ (λa' b' c' d'=>?_) (mH g l (t.j7 q s) (λs h=>hs s (.tail _ h)) h1' a1 (h2.append (cF _ _)))
    refine⟨a',b',c',?_⟩
    rw[List.foldl_cons,List.length_cons]
    have:(t.j7 q s).2.length≤q.2.length+6:=by
      show(q.2++aP _ _).length≤_
      rw[lA,aL];exact id (L1 [] [_,_] 6600031743013 129 393413 rfl hw)
    exact L2 [] [_,_,_,_] 4517929270642869 8321 224970803381 1611401445 rfl d' this
theorem oW(l:List Nat)(m k:Nat)(hm:m≤l.length)(hk:k<m):(l.take m).reverse.getD k 0=l.getD (m-1-k) 0:=by
 rw[gD,gD,List.getElem?_reverse (by rw[lT];exact L2 [] [_,_,_] 12470 4225 13494 13511 rfl hk (Nat.min_eq_left (a:=m) (b:=l.length) (L1 [] [_,_] 12469 129 12469 rfl hm))),lT,Nat.min_eq_left hm,List.getElem?_take,if_pos (by exact L2 [] [_,_,_] 12470 8321 13493 3225433127 rfl (Nat.sub_le (m-1) k) (sC m 1 (L1 [] [_,_] 721925 129 11462 rfl hk)))]
inductive PtI (S T W dW U dU M y f y1 f1 ws:Addr) (la:Int) (g5:Led) (t:Tab) (l:List Nat) (q0:(Nat×Nat)×List Nat) (N:Nat):Nat→Vs→Vs→Gs→Prop
  | mk (k st st':Nat) (L:List Nat) (yc fc yo fo:Addr) (pv:Option AV):(l.take k).foldl t.j7 q0=((st,st'),L)→Turn (N+1+k) y f y1 f1 yc fc yo fo→
    PtI S T W dW U dU M y f y1 f1 ws la g5 t l q0 N k [some (.ref S),some (.ref T),some (.ref W),some (.ref ws),some (.int la),pv] [] [bO U dU M L,Bl W dW U,gw yc fc T st,gw yo fo T st',[(ws,.list [.ref y,.ref y1])],g5]
theorem Ji(w:World){b:Bool}(hb:b=true)(base:Heap)(S T:Addr)(row:List Nat)(t:Tab)(g:TabOk t)(hT:bL (bW w base) T t)(hS:bW w base S (.list (nL row)))(h0:2≤row.length)(hn:row.length≤1000)(hrow:∀ s∈row,t.known s) :
  F1 w b 8 443 base [.ref S,.ref T] [] (.bytes (allB (t.cT row++[1]))) [] bN:=by
 have hT0:=hT
 refine fU (λdT ys yc yb ya jT sts hT=>?_) hT
 obtain⟨N,hN⟩:∃ N,row.length=N+2:=⟨row.length-2,by exact nA (L1 [] [_,_] 537659573 65 2961190951 rfl (sC (row.length) 2 (L1 [] [_] 722949 129 722949 rfl h0))) (L1 [] [_,_] 3229625381 129 3229625383 rfl (sC (row.length) 2 (L1 [] [_] 722949 129 722949 rfl h0)))⟩
 have hle:(nL row).length=row.length:=aM row
 have hla:((nL row).length:Int)-1=((N+1:Nat):Int):=iA (L2 [] [_,_,_] 289077120633347120 8321 537659607 13495 rfl hN hle) (L2 [] [_,_,_] 289082549472004208 4161 537594071 13511 rfl hN hle)
 have hlb:((nL row).length:Int)-1-1=((N:Nat):Int):=iA (L2 [] [_,_,_] 3490360097182780464 8321 537659607 13495 rfl hN hle) (L2 [] [_,_,_] 288300952946158704 4161 537594071 13511 rfl hN hle)
 have hkn:∀ i,i<row.length→t.known (row.getD i 0):=λi hi=>hrow _ (by rw[gD,gE hi];exact List.getElem_mem _)
 have QX:=(g.least _ (hkn (N+1) (by exact L1 [] [_,_] 3225431078 65 537594055 rfl hN))).1
 have hlo:=(g.least _ (hkn N (by exact L1 [] [_,_] 12470 65 537594055 rfl hN))).1
 have hl2:(row.take N).reverse.length=N:=by rw[List.length_reverse,lT];exact nA (L1 [] [_,_] 12469 129 12471 rfl (Nat.min_eq_left (a:=N) (b:=row.length) (L1 [] [_,_] 12469 65 537594055 rfl hN))) (L1 [] [_,_] 12469 65 11463 rfl (Nat.min_eq_left (a:=N) (b:=row.length) (L1 [] [_,_] 12469 65 537594055 rfl hN)))
 have hmem:∀ s∈(row.take N).reverse,t.known s:=λs h=>hrow s (List.mem_of_mem_take (List.mem_reverse.mp h))
 have hsz:(t.cs.any λi=>i == (t.z:Int))=false:=by rw[List.any_eq_false];intro c hc;simpa using g.z7 c hc
 have bM:t.log≤6:=by rcases g.log with h|h<;>(first|exact L1 [] [_] 393397 129 327863 rfl h|exact L1 [] [_] 393397 129 393399 rfl h)
 refine FX.go ["symbols","table"] ["back","writers","last","place"] rfl rfl rfl (λ_ _=>rfl) (by decide +kernel) ?_
 rintro k hk ow rfl hcl rfl-hR
 refine bC hk (.b hS) (by exact L2 [] [_,_] 65536001205 8321 65537221 12471 rfl hn hle) ?_
 refine aO (λh=>by exact(L3 [] [_,_] 10 528512 722949 11463 8401009 rfl h0 hle h).elim) (λ_=>?_)
 refine dY hk (.b hT.hT) (.b hT.hd) (by kernel_rfl) rfl rfl ?_
 refine dY hk (.b hT.hT) (.b hT.hd) (by kernel_rfl) rfl rfl ?_
 refine ZR hk (.b hT.hc) (zu hsz ?_)
 refine dH hk ["back","writers","last"] (by decide +kernel) (by decide) rfl ?_
 refine iJ hk [] (by decide) (by kernel_rfl) (P:=λ_ _ (_:Addr×Addr×Addr)=>True) (hd:=λW dW (i:Addr×Addr×Addr)=>Bl W dW i.1) (tl:=λ_ _ (i:Addr×Addr×Addr)=>[bO i.1 i.2.1 i.2.2 []]) (λbase' W dW _=>zx k.w (hcl.trans hb) base' W dW) aX (λ_ _ _=>Nat.zero_le _) λW dW i _=>?_
 obtain⟨U,dU,M⟩:=i
 refine iJ hk [] (by decide) (by kernel_rfl) (P:=λ_ _ (_:Unit)=>True) (hd:=λy f _=>gw y f T 0) (tl:=λ_ _ _=>[]) (λbase' y f _=>pU k.w _ base' y f T) aX (λ_ _ _=>nR _) λy f _ _=>?_
 refine iJ hk [] (by decide) (by kernel_rfl) (P:=λ_ _ (_:Unit)=>True) (hd:=λy f _=>gw y f T 0) (tl:=λ_ _ _=>[]) (λbase' y f _=>pU k.w _ base' y f T) aX (λ_ _ _=>nR _) λy1 f1 _ _=>?_
 intro ws
 refine bC hk (.b hS) (by exact L2 [] [_,_] 65536001205 8321 65537221 12471 rfl hn hle) ?_
 refine Ks (λis yc fc yo fo hp es=>?_) (Turn.first (N+1) y f y1 f1)
 refine gJ (λi1 i2 i3=>?_) (hp.at hla rfl)
 refine gJ (λj1 j2 j3=>?_) (hp.next.at (j:=N) hlb (by exact Xx))
 refine JC hk is (es _ _ _ λy f=>gw y f T 0) ?_
 refine aU hk (λ_ _=>rfl) (aj 4 0 rfl) i1 i2 i3 ?_
 refine cL hk 2 rfl rfl 401 (by kernel_rfl) rfl ?_
 refine aU hk (λ_ _=>rfl) (.b hS) (by exact L2 [] [_,_] 1102493974528 4225 788485 12471 rfl h0 hle) (by exact L2 [] [_,_] 10141204801825835211991074675761 8321 65537221 12471 rfl hn hle) (by rw[hla];exact iw (by exact L1 [] [_,_] 3225431078 65 537594055 rfl hN)) ?_
 refine aF hk [2] (by decide) (λbase' aK=>pW k.w _ base' yc fc T _ 0 t g (hT0.base aK.keep) (hkn _ (by exact L1 [] [_,_] 3225431078 65 537594055 rfl hN))) aX (nR _) ?_
 refine aU hk (λ_ _=>rfl) (aj 4 0 rfl) j1 j2 j3 ?_
 refine cL hk 3 rfl rfl 401 (by kernel_rfl) rfl ?_
 refine aU hk (λ_ _=>rfl) (.b hS) (by exact L2 [] [_,_] 288300935766278144 4225 788485 12471 rfl h0 hle) (by exact L2 [] [_,_] 2658455991569831745812188106158705713 8321 65537221 12471 rfl hn hle) (by rw[hlb];exact iw (by exact L1 [] [_,_] 12470 65 537594055 rfl hN)) ?_
 refine aF hk [3] (by decide) (λbase' aK=>pW k.w _ base' yo fo T _ 0 t g (hT0.base aK.keep) (hkn _ (by exact L1 [] [_,_] 12470 65 537594055 rfl hN))) aX (nR _) ?_
 refine eO hk ow (λ_=>rfl) ?_
 refine ux hk (by decide) (by decide) λrr=>?_
 refine d9 (cnt:=N) hk (λ_ _=>rfl) (aj 5 0 rfl) (small_down (by exact L2 [] [_,_] 10635125561431475184038847265795736640 4225 788485 12471 rfl h0 hle) (by exact L2 [] [_,_] 1329227995784915872908451414622538801 8321 65537221 12471 rfl hn hle) (by decide) (by decide)) (by rw[rangeSize_downNat];exact Iz (n:=N) (by exact Xw hN hle)) (PtI S T W dW U dU M y f y1 f1 ws _ _ t (row.take N).reverse ((t.aZ (row.getD (N+1) 0),t.aZ (row.getD N 0)),[]) N) (.mk 0 _ _ _ _ _ _ _ none rfl hp) (λxs ys gs hI=>?_) (λk' hk2 xs ys gs hI J P hP=>?_)
 ·obtain⟨st,st',L,yc,fc,yo,fo,pv,e,hp⟩:=hI
  rcases hp with⟨h,-⟩|⟨h,rfl,rfl,rfl,rfl⟩
  ·exact(Xv h).elim
  rw[List.take_of_length_le (Nat.le_of_eq hl2)] at e
  refine dZ (λq1 zX q2 q3=>?_) (mH g _ ((t.aZ (row.getD (N+1) 0),t.aZ (row.getD N 0)),[]) hmem QX hlo (λ_ h=>by cases h))
  rw[e] at q1 zX q2 q3
  have hen:t.cT row=L++aP st t.log++aP st' t.log:=by
   unfold Tab.cT;rw[show row.length-1=N+1 by exact nA (L2 [] [_,_,_] 269224117 8321 537659607 3493866535 rfl hN (sC (row.length) 1 (L1 [] [_] 721925 129 722949 rfl h0))) (L2 [] [_,_,_] 3225431077 4161 537594071 3493867559 rfl hN (sC (row.length) 1 (L1 [] [_] 721925 129 722949 rfl h0))),show row.length-2=N by exact nA (L2 [] [_,_,_] 12469 8321 537659607 3498060839 rfl hN (sC (row.length) 2 (L1 [] [_] 722949 129 722949 rfl h0))) (L2 [] [_,_,_] 12469 4161 537594071 3498061863 rfl hN (sC (row.length) 2 (L1 [] [_] 722949 129 722949 rfl h0))),e]
  have q3:L.length≤6*row.length:=Nat.le_trans q3 (by rw[hl2];show 0+6*_≤_;exact id (L1 [] [_,_] 54471096161796133 705 537594055 rfl hN))
  refine aU hk (λ_ _=>rfl) (aj 4 0 rfl) (by decide) (by decide) rfl ?_
  refine cL hk 2 rfl rfl 415 (by kernel_rfl) rfl ?_
  refine aF hk [2,0] (by decide) (λbase' aK=>wI k.w (hcl.trans hb) base' _ _ T W dW U dU M st L t g (hT0.base aK.keep) (Has.on (aj 1 0 rfl) aK) (Has.on (aj 1 1 rfl) aK) q1 q2 (by exact L2 [] [_,_] 6553601205 8961 65537221 50730165 rfl hn q3)) aX (nR _) ?_
  refine aU hk (λ_ _=>rfl) (aj 4 0 rfl) (by decide) (by decide) rfl ?_
  refine cL hk 3 rfl rfl 415 (by kernel_rfl) rfl ?_
  refine aF hk [3,0] (by decide) (λbase' aK=>wI k.w (hcl.trans hb) base' _ _ T W dW U dU M st' _ t g (hT0.base aK.keep) (Has.on (aj 1 0 rfl) aK) (Has.on (aj 1 1 rfl) aK) zX (q2.append (cF _ _)) (by rw[lA,aL];exact L3 [] [_,_,_] 26843550592037 533249 65537237 393413 54924469 rfl hn bM q3)) aX (nR _) ?_
  refine cL hk 1 rfl rfl 253 (by kernel_rfl) rfl ?_
  refine aF hk [] (by decide) (λbase' aK=>zy k.w (hcl.trans hb) base' W dW U dU M (L++aP st t.log++aP st' t.log) (Has.on (aj 1 0 rfl) aK) (Has.on (aj 1 1 rfl) aK) (Has.on (aj 0 0 rfl) aK) (Has.on (aj 0 1 rfl) aK) (Has.on (aj 0 2 rfl) aK) ((q2.append (cF _ _)).append (cF _ _)) (by rw[lA,lA,aL,aL];exact L3 [] [_,_,_] 109951183229749286 541441 65537237 393413 54924469 rfl hn bM q3)) aX (nR _) ?_
  have:=hR () trivial
  rw[hen] at this
  exact aq [] this
 ·obtain⟨st,st',L,yc,fc,yo,fo,pv,e,hp⟩:=hI
  refine dZ (λq1 zX q2 q3=>?_) (mH g ((row.take N).reverse.take k') ((t.aZ (row.getD (N+1) 0),t.aZ (row.getD N 0)),[]) (λs h=>hmem s (List.mem_of_mem_take h)) QX hlo (λ_ h=>by cases h))
  rw[e] at q1 zX q2 q3
  have q3:L.length≤6*row.length:=Nat.le_trans q3 (by rw[lT];show 0+6*_≤_;exact id (L3 [] [_,_,_,_] 54471096161796133 3195585 537725127 13542 14519 rfl hN hk2 (Nat.min_eq_left (a:=k') (b:=(List.take N row).reverse.length) (L2 [] [_,_,_] 12469 8257 13511 13494 rfl hl2 hk2))))
  refine gJ (λi1 i2 i3=>?_) (hp.at (i:=((N-1-k':Nat):Int)) rfl (by exact Xu hk2))
  refine iM (b:=.int ((N-1-k':Nat):Int)) (congrArg _ (N6 (n:=N-1) (by exact Xr hN hle hk2) (Nat.le_sub_one_of_lt hk2))) ?_
  refine aU hk (λ_ _=>rfl) (aj 4 0 rfl) i1 i2 i3 ?_
  refine cL hk 2 rfl rfl 408 (by kernel_rfl) rfl ?_
  refine aU hk (λ_ _=>rfl) (.b hS) (by exact L0 [] [_] 46596096 1 rfl) (by exact L4 [] [_,_,_,_] 38685626227668133590674545 34082945 65537221 537725127 14517 3493869607 rfl hn hN (Nat.sub_le (N-1) k') (sC N 1 (L1 [] [_,_] 721925 129 11462 rfl hk2))) (iw (by exact L3 [] [_,_,_,_] 12470 532545 537725127 14517 3493869607 rfl hN (Nat.sub_le (N-1) k') (sC N 1 (L1 [] [_,_] 721925 129 11462 rfl hk2)))) ?_
  refine aF hk [2,0] (by decide) (λbase' aK=>zf k.w (hcl.trans hb) base' yc fc T W dW U dU M _ st L t g (hT0.base aK.keep) (Has.on (aj 1 0 rfl) aK) (Has.on (aj 1 1 rfl) aK) (hkn _ (by exact L3 [] [_,_,_,_] 12470 532545 537725127 14517 3493869607 rfl hN (Nat.sub_le (N-1) k') (sC N 1 (L1 [] [_,_] 721925 129 11462 rfl hk2)))) q1 q2 (by exact L2 [] [_,_] 6553601205 8961 65537221 50730165 rfl hn q3)) aX (nR _) ?_
  exact hP [0,1,3,2,4,5,6] _ _ _ _ (.mk (k'+1) _ _ _ _ _ _ _ _ (by rw[foldl_take_succ t.j7 _ _ _ 0 (by rw[hl2];exact hk2),oW row N k' (by exact L1 [] [_,_] 12469 65 537594055 rfl hN) hk2,e];rfl) hp.next) rfl
inductive LoI (C S z:Addr) (log:Nat) (g1 g2 g3:Led) (t:Tab) (l:List Nat) (q0:Nat×List Nat):Nat→Vs→Vs→Gs→Prop
  | mk (k st:Nat) (L:List Nat) (dd:Addr) (ls:List AV) (sv mv:Option AV):(l.take k).foldl t.lF q0=(st,L)→ls=nL L→
    LoI C S z log g1 g2 g3 t l q0 k [some (.ref C),some (.int log),some (.ref S),some (.int st),some (.ref dd),sv,mv] [] [[(dd,.list ls)],g1,g2,g3,[(z,.list (nL l))]]
theorem Lz(w:World)(b:Bool)(base:Heap)(C S:Addr)(row:List Nat)(t:Tab)(g:TabOk t)(hC:cj (bW w base) C t)(hS:bW w base S (.list (nL row)))(h0:0<row.length)(hn:row.length≤1000)(hrow:∀ s∈row,t.known s) :
  F1 w b 4 519 base [.ref C,.int t.log,.ref S] [] (.bytes (allB (t.bZ row++[1]))) [] bN:=by
 have v7:t.known (row.getLastD 0):=hrow _ (by rw[dM,gD,gE (show row.length-1<row.length by exact L1 [] [_,_] 12470 129 3225431079 rfl (sC (row.length) 1 (L1 [] [_] 721925 129 720902 rfl h0)))];exact List.getElem_mem _)
 have hle:(nL row).length=row.length:=aM row
 have Dv:(nL row.dropLast.reverse).length=row.dropLast.reverse.length:=aM _
 have Du:row.dropLast.reverse.length=row.length-1:=by rw[List.length_reverse,List.length_dropLast]
 have hmem:∀ s∈row.dropLast.reverse,t.known s:=λs h=>hrow s (List.dropLast_subset _ (List.mem_reverse.mp h))
 have hlz:=(g.least _ v7).1
 have bM:t.log≤6:=by rcases g.log with h|h<;>(first|exact L1 [] [_] 393397 129 327863 rfl h|exact L1 [] [_] 393397 129 393399 rfl h)
 have mD:(nL row)[((-1:Int)+(nL row).length).toNat]?=some (.int ((row.getLastD 0:Nat):Int)):=by
  rw[hle,jY,rI (a:=row.getLastD 0)]
  rw[dM,gD,gE (by exact L1 [] [_,_] 12470 129 3225431079 rfl (sC (row.length) 1 (L1 [] [_] 721925 129 720902 rfl h0)))];rfl
 refine FX.go ["cells","log","row"] ["state","digits","symbol","more"] rfl rfl rfl (λ_ _ _=>rfl) (by decide +kernel) ?_
 rintro k hk ow rfl-rfl-hR
 refine dH hk ["state","digits"] (by decide +kernel) (by decide) rfl ?_
 refine Ip hk (λ_ _=>rfl) (.b hS) (by decide) (by exact L2 [] [_,_] 17197374528 4225 786438 12471 rfl h0 hle) (by decide) mD ?_
 refine aF hk [] (by decide) (λbase' aK=>vU k.w _ base' C _ t g (hC.base aK.keep) v7) aX (nR _) ?_
 intro d0
 refine eO hk ow (λ_=>rfl) ?_
 refine⟨_,_,_,.none,.int _,.none,λS1=>?_⟩
 refine iz hk (.b hS) (aj 1 0 rfl) nofun (by exact L2 [] [_,_] 65536001205 8321 65537221 12471 rfl hn hle) ((vA _).trans (CQ row)) λz1=>?_
 refine⟨_,_,_,.none,.none,.int _,λS2=>?_⟩
 refine iz hk (aj 2 0 rfl) (aj 3 0 rfl) (by decide) (by rw[aM,List.length_dropLast];exact L2 [] [_,_] 65536001205 8321 65537221 3225431079 rfl hn (sC (row.length) 1 (L1 [] [_] 721925 129 720902 rfl h0))) ((yL _).trans (Ih _)) λz2=>?_
 refine iK hk (λ_ _=>rfl) (aj 4 0 rfl) (LoI C S z2 _ _ _ _ t row.dropLast.reverse (t.aZ (row.getLastD 0),[])) (.mk 0 _ _ d0 _ none none rfl rfl) (λk xs ys gs hI=>by cases hI;exact aj 4 0 rfl) (λxs ys gs hI=>?_) (λk' hk2 xs ys gs hI J P hP=>?_)
 ·obtain⟨st,L,dd,ls,sv,mv,e,els⟩:=hI
  rw[Dv,List.take_length] at e
  refine gJ (λq1 q2 q3=>?_) (jO g _ (t.aZ (row.getLastD 0),[]) hmem hlz (λ_ h=>by cases h))
  rw[e] at q1 q2 q3
  have q1:st<t.z:=q1
  have q2:cQ L:=q2
  have hen:t.bZ row=L++aP st t.log:=by unfold Tab.bZ;rw[e]
  have q3:L.length≤6*row.length:=Nat.le_trans q3 (by show 0+6*_≤_;exact id (L2 [] [_,_,_] 54471096161796133 49921 13495 3225433127 rfl Du (sC (row.length) 1 (L1 [] [_] 721925 129 720902 rfl h0))))
  refine bD hk [] (by decide) (λbase' _=>uw k.w _ base' _ _ (by exact L1 [] [_] 3932341 129 393397 rfl bM)) aX (λ_=>Nat.zero_le _) λl _=>?_
  refine eY (ms:=nL (L++aP st t.log)) hk (aj 0 0 rfl) (aj 5 0 rfl) (by rw[els,aM,aM,aL];exact L3 [] [_,_,_] 268435460992037 533249 65537237 393413 54924469 rfl hn bM q3) (by rw[els,mq]) λz3=>?_
  refine aF hk [] (by decide) (λbase' aK=>vV k.w _ base' z3 _ (Has.on (aj 6 0 rfl) aK) (q2.append (cF _ _)) (by rw[lA,aL];exact L3 [] [_,_,_] 26843550592037 533249 65537237 393413 54924469 rfl hn bM q3)) aX (nR _) ?_
  have:=hR () trivial
  rw[hen] at this
  exact aq [] this
 ·obtain⟨st,L,dd,ls,sv,mv,e,els⟩:=hI
  rw[Dv] at hk2
  refine gJ (λq1 q2 q3=>?_) (jO g (row.dropLast.reverse.take k') (t.aZ (row.getLastD 0),[]) (λs h=>hmem s (List.mem_of_mem_take h)) hlz (λ_ h=>by cases h))
  have hkn:t.known (row.dropLast.reverse.getD k' 0):=hmem _ (by rw[gD,gE hk2];exact List.getElem_mem _)
  rw[e] at q1 q2 q3
  have q1:st<t.z:=q1
  have q2:cQ L:=q2
  have q3:L.length≤6*row.length:=Nat.le_trans q3 (by rw[lT];show 0+6*_≤_;exact id (L4 [] [_,_,_,_,_] 54471096161796133 204522241 14551 13558 3225434151 15543 rfl Du hk2 (sC (row.length) 1 (L1 [] [_] 721925 129 720902 rfl h0)) (Nat.min_eq_left (a:=k') (b:=row.dropLast.reverse.length) (L1 [] [_,_] 12469 129 12470 rfl hk2))))
  have nJ:=Tab.je g (Tab.pN g hkn q1).1
  refine iM (jF _ _ hk2) ?_
  refine Ax hk rfl rfl ?_
  refine bD hk [] (by decide) (λbase' aK=>vW k.w _ base' C _ st t g (hC.base aK.keep) hkn q1) aX (λ_=>Nat.zero_le _) λi _=>?_
  refine oN hk (aj 7 0 rfl) rfl rfl ?_
  refine eY (ms:=nL (L++aP (st-t.bs (t.aQ (row.dropLast.reverse.getD k' 0) st)) (t.wd (t.aQ (row.dropLast.reverse.getD k' 0) st)))) hk (aj 0 0 rfl) (aj 8 0 rfl) (by rw[els,aM,aM,aL];exact L3 [] [_,_,_] 268435460992037 533249 65537237 54924469 393413 rfl hn q3 nJ) (by rw[els,mq]) λz3=>?_
  exact hP [9,1,2,3,4,5] _ _ _ _ (.mk (k'+1) _ _ z3 _ _ _ (by rw[foldl_take_succ t.lF _ _ _ 0 hk2,e];rfl) rfl) rfl
noncomputable def Pair(k:Nat)(A0 A1 cur oth:AV):Prop:=k%2=0∧A0=cur∧A1=oth∨k%2=1∧A1=cur∧A0=oth
theorem Pair.at{A0 A1 cur oth:AV}{P k:Nat}(h:Pair (P+k) A0 A1 cur oth)(hk:k≤P):0≤((P-k:Nat):Int).fmod 2∧((P-k:Nat):Int).fmod 2<2^63∧(((P-k:Nat):Int).fmod 2).toNat<2∧[A0,A1][(((P-k:Nat):Int).fmod 2).toNat]?=some cur:=by
 rw[gQ,Int.toNat_natCast]
 refine⟨Int.natCast_nonneg _,by exact L1 [] [_] 38685626227668133590674545 129 131254 rfl (Nat.mod_lt (P-k) (y:=2) (by decide)),Nat.mod_lt _ (by decide),?_⟩
 rcases h with⟨h,rfl,rfl⟩|⟨h,rfl,rfl⟩
 ·rw[show(P-k)%2=0 by exact Ss h];rfl
 ·rw[show(P-k)%2=1 by exact Sq hk h];rfl
theorem Pair.set{A0 A1 cur oth v:AV}{P k:Nat}(h:Pair (P+k) A0 A1 cur oth)(hk:k≤P):∃ B0 B1,[A0,A1].set (((P-k:Nat):Int).fmod 2).toNat v=[B0,B1]∧Pair (P+(k+1)) B0 B1 oth v:=by
 rw[gQ,Int.toNat_natCast]
 rcases h with⟨h,rfl,rfl⟩|⟨h,rfl,rfl⟩
 ·exact⟨v,A1,by rw[show(P-k)%2=0 by exact Ss h];rfl,.inr ⟨by exact Xk h,rfl,rfl⟩⟩
 ·exact⟨A0,v,by rw[show(P-k)%2=1 by exact Sq hk h];rfl,.inl ⟨by exact Xj h,rfl,rfl⟩⟩
inductive Fi (t:Tab) (l:List Nat) (q0:(Nat×Nat)×List Nat):Nat→AV→AV→List Nat→Prop
 | zero:Fi t l q0 0 .none .none []
 | one:Fi t l q0 1 .none (.int q0.1.1) []
 | more (k st st':Nat) (L:List Nat):(l.take k).foldl t.j7 q0=((st,st'),L)→Fi t l q0 (k+2) (.int st) (.int st') L
theorem Fi.two{t:Tab}{l:List Nat}{q0:(Nat×Nat)×List Nat}{k:Nat}{cur oth:AV}{L:List Nat}(h:Fi t l q0 k cur oth L)(hk:¬k<2):∃ k2 st st':Nat,k=k2+2∧cur=.int st∧oth=.int st'∧(l.take k2).foldl t.j7 q0=((st,st'),L):=by
 cases h with
 | zero=>exact absurd (by decide) hk
 | one=>exact absurd (by decide) hk
 | more k st st' L e=>exact⟨k,st,st',rfl,rfl,rfl,e⟩
inductive LtI (C S s0:Addr) (log:Nat) (gr:Led) (t:Tab) (l:List Nat) (q0:(Nat×Nat)×List Nat) (P:Nat):Nat→Vs→Vs→Gs→Prop
  | mk (k:Nat) (A0 A1 cur oth:AV) (L:List Nat) (dd:Addr) (ls ss:List AV) (av mv:Option AV):Pair (P+k) A0 A1 cur oth→Fi t l q0 k cur oth L→ls=nL L→ss=[A0,A1]→
    LtI C S s0 log gr t l q0 P k [some (.ref C),some (.int log),some (.ref S),some (.ref dd),some (.ref s0),av,mv] [] [[(dd,.list ls)],[(s0,.list ss)],gr]
theorem Lx (w:World)(b:Bool)(base:Heap)(C S:Addr)(row:List Nat)(t:Tab)(g:TabOk t)(hC:cj (bW w base) C t)(hS:bW w base S (.list (nL row)))(h0:2≤row.length)(hn:row.length≤1000)(hrow:∀ s∈row,t.known s) :
    F1 w b 4 526 base [.ref C,.int t.log,.ref S] [] (.bytes (allB (t.cT row++[1]))) [] bN:=by
  obtain⟨N,hN⟩:∃ N,row.length=N+2:=⟨row.length-2,by exact nA (L1 [] [_,_] 537659573 65 2961190951 rfl (sC (row.length) 2 (L1 [] [_] 722949 129 722949 rfl h0))) (L1 [] [_,_] 3229625381 129 3229625383 rfl (sC (row.length) 2 (L1 [] [_] 722949 129 722949 rfl h0)))⟩
  have hle:(nL row).length=row.length:=aM row
  have hkn:∀ i,i<row.length→t.known (row.getD i 0):=λi hi=>hrow _ (by rw[gD,gE hi];exact List.getElem_mem _)
  have QX:=(g.least _ (hkn (N+1) (by exact L1 [] [_,_] 3225431078 65 537594055 rfl hN))).1
  have hlo:=(g.least _ (hkn N (by exact L1 [] [_,_] 12470 65 537594055 rfl hN))).1
  have hl2:(row.take N).reverse.length=N:=by rw[List.length_reverse,lT];exact nA (L1 [] [_,_] 12469 129 12471 rfl (Nat.min_eq_left (a:=N) (b:=row.length) (L1 [] [_,_] 12469 65 537594055 rfl hN))) (L1 [] [_,_] 12469 65 11463 rfl (Nat.min_eq_left (a:=N) (b:=row.length) (L1 [] [_,_] 12469 65 537594055 rfl hN)))
  have hmem:∀ s∈(row.take N).reverse,t.known s:=λs h=>hrow s (List.mem_of_mem_take (List.mem_reverse.mp h))
  have bM:t.log≤6:=by rcases g.log with h|h<;>(first|exact L1 [] [_] 393397 129 327863 rfl h|exact L1 [] [_] 393397 129 393399 rfl h)
  obtain⟨q0,hq0⟩:∃ q0,q0=((t.aZ (row.getD (N+1) 0),t.aZ (row.getD N 0)),([]:List Nat)):=⟨_,rfl⟩
  have Mv:∀ k st st' L,((row.take N).reverse.take k).foldl t.j7 q0=((st,st'),L)→st<t.z∧st'<t.z∧cQ L∧L.length≤6*row.length:=λk st st' L e=>by
    refine dZ (λq1 zX q2 q3=>?_) (mH g ((row.take N).reverse.take k) q0 (λs h=>hmem s (List.mem_of_mem_take h)) (by rw[hq0];exact QX) (by rw[hq0];exact hlo) (by rw[hq0];intro _ h;cases h))
    rw[e] at q1 zX q2 q3
    have hl0:q0.2.length=0:=by rw[hq0];rfl
    exact⟨q1,zX,q2,Nat.le_trans q3 (by rw[hl0,lT];exact L3 [] [_,_,_,_] 54471096161796133 3195585 537725127 13543 14517 rfl hN hl2 (Nat.min_le_right k ((List.take N row).reverse.length)))⟩
  refine FX.go ["cells","log","row"] ["digits","states","at","more"] rfl rfl rfl (λ_ _ _=>rfl) (by decide +kernel) ?_
  rintro k hk ow rfl-rfl-hR
  refine dH hk ["digits","states"] (by decide +kernel) (by decide) rfl ?_
  intro d0 s0
  refine eO hk ow (λ_=>rfl) ?_
  refine bC hk (.b hS) (by exact L2 [] [_,_] 65536001205 8321 65537221 12471 rfl hn hle) ?_
  refine ux hk (by decide) (by decide) λrr=>?_
  refine d9 (cnt:=N+2) hk (λ_ _=>rfl) (aj 2 0 rfl) (small_down (by exact L2 [] [_,_] 20337424493156328257457898914880 4225 788485 12471 rfl h0 hle) (by exact L2 [] [_,_] 5070602400912917606004261854257 8321 65537221 12471 rfl hn hle) (by decide) (by decide)) (by rw[rangeSize_downNat];exact Iz (n:=N+2) (by exact Xi hN hle)) (LtI C S s0 _ _ t (row.take N).reverse q0 (N+1)) (.mk 0 .none .none .none .none [] d0 _ _ none none ?_ .zero rfl rfl) (λxs ys gs hI=>?_) (λk' hk2 xs ys gs hI J P hP=>?_)
  · rcases Nat.mod_two_eq_zero_or_one (N+1+0) with h|h
    · exact .inl ⟨h,rfl,rfl⟩
    · exact .inr ⟨h,rfl,rfl⟩
  · obtain⟨A0,A1,cur,oth,L,dd,ls,ss,av,mv,hpar,hq,els,ess⟩:=hI
    refine gB (λk2 st st' hk2 vJ zZ e=>?_) (hq.two (by exact L2 [] [_,_] 34368138281 8321 788485 537594055 rfl h0 hN));subst vJ;subst zZ
    obtain rfl:N=k2:=nA (L1 [] [_,_] 12469 129 140944192056359 rfl hk2) (L1 [] [_,_] 12469 65 140927012188199 rfl hk2)
    rcases hpar with⟨h,-⟩|⟨-,rfl,rfl⟩
    · exact(Xh h).elim
    have e2:=Mv _ _ _ _ e
    rw[List.take_of_length_le (Nat.le_of_eq hl2)] at e
    refine dZ (λq1 zX q2 q3=>?_) e2
    have hen:t.cT row=L++aP st t.log++aP st' t.log:=by
      unfold Tab.cT;rw[show row.length-1=N+1 by exact nA (L2 [] [_,_,_] 269224117 8321 537659607 3493866535 rfl hN (sC (row.length) 1 (L1 [] [_] 721925 129 722949 rfl h0))) (L2 [] [_,_,_] 3225431077 4161 537594071 3493867559 rfl hN (sC (row.length) 1 (L1 [] [_] 721925 129 722949 rfl h0))),show row.length-2=N by exact nA (L2 [] [_,_,_] 12469 8321 537659607 3498060839 rfl hN (sC (row.length) 2 (L1 [] [_] 722949 129 722949 rfl h0))) (L2 [] [_,_,_] 12469 4161 537594071 3498061863 rfl hN (sC (row.length) 2 (L1 [] [_] 722949 129 722949 rfl h0))),←hq0,e]
    refine aU (b:=.int st) hk (λ_ _=>rfl) (aj 1 0 rfl) (by decide) (by decide) (by rw[ess];rfl) ?_
    refine bD hk [] (by decide) (λbase' _=>uw k.w _ base' _ _ (by exact L1 [] [_] 3932341 129 393397 rfl bM)) aX (λ_=>Nat.zero_le _) λl _=>?_
    refine eY (ms:=nL (L++aP st t.log)) hk (aj 0 0 rfl) (aj 3 0 rfl) (by rw[els,aM,aM,aL];exact L3 [] [_,_,_] 268435460992037 533249 65537237 393413 54924469 rfl hn bM q3) (by rw[els,mq]) λz3=>?_
    refine aU (b:=.int st') hk (λ_ _=>rfl) (aj 1 0 rfl) (by decide) (by decide) (by rw[ess];rfl) ?_
    refine bD hk [] (by decide) (λbase' _=>uw k.w _ base' _ _ (by exact L1 [] [_] 3932341 129 393397 rfl bM)) aX (λ_=>Nat.zero_le _) λl2 _=>?_
    refine eY (ms:=nL (L++aP st t.log++aP st' t.log)) hk (aj 4 0 rfl) (aj 5 0 rfl) (by rw[aM,aM,lA,aL,aL];exact L3 [] [_,_,_] 1099511648228149285 541441 65537237 393413 54924469 rfl hn bM q3) (by rw[mq]) λz4=>?_
    refine aF hk [] (by decide) (λbase' aK=>vV k.w _ base' z4 _ (Has.on (aj 6 0 rfl) aK) ((q2.append (cF _ _)).append (cF _ _)) (by rw[lA,lA,aL,aL];exact L3 [] [_,_,_] 109951183229749285 541441 65537237 393413 54924469 rfl hn bM q3)) aX (nR _) ?_
    have:=hR () trivial
    rw[hen] at this
    exact aq [] this
  · obtain⟨A0,A1,cur,oth,L,dd,ls,ss,av,mv,hpar,hq,els,ess⟩:=hI
    refine dZ (λi1 i2 i3 i4=>?_) (hpar.at (by exact L1 [] [_,_] 269224117 129 537659574 rfl hk2))
    have hks:=hkn (N+1-k') (by exact L2 [] [_,_,_,_] 12470 8257 537725127 1103010606119 rfl hN (sC (N+1) k' (L1 [] [_,_] 269224117 129 537659574 rfl hk2)))
    rw[←ess] at i4
    refine iM (b:=.int (N+1-k':Nat)) (congrArg _ (N6 (n:=N+1) (by exact Xg hN hle) (Nat.le_of_lt_succ hk2))) ?_
    by_cases hk1:k'<2
    · obtain⟨rfl,hq2⟩:cur=.none∧Fi t (row.take N).reverse q0 (k'+1) oth (.int (t.aZ (row.getD (N+1-k') 0):Nat)) L:=by
        cases hq with
        | zero=>exact⟨rfl,by have:=Fi.one (t:=t) (l:=(row.take N).reverse) (q0:=q0);rw[hq0] at this⊢;exact this⟩
        | one=>exact⟨rfl,by rw[hq0];exact .more 0 _ _ _ rfl⟩
        | more k st st' L e=>exact⟨(L1 [] [_] 10 128 34368138278 rfl hk1).elim,(L1 [] [_] 10 128 34368138278 rfl hk1).elim⟩
      refine bw (λB0 B1 hB Gy=>?_) (hpar.set (v:=.int (t.aZ (row.getD (N+1-k') 0):Nat)) (by exact L1 [] [_,_] 269224117 129 537659574 rfl hk2))
      refine aU hk (λ_ _=>rfl) (aj 1 0 rfl) i1 i2 i4 ?_
      refine aU hk (λ_ _=>rfl) (.b hS) (by exact L0 [] [_] 46596096 1 rfl) (by exact L3 [] [_,_,_,_] 38685626227668133590674545 528513 65537221 537725127 1103010606119 rfl hn hN (sC (N+1) k' (L1 [] [_,_] 269224117 129 537659574 rfl hk2))) (iw (by exact L2 [] [_,_,_,_] 12470 8257 537725127 1103010606119 rfl hN (sC (N+1) k' (L1 [] [_,_] 269224117 129 537659574 rfl hk2)))) ?_
      refine aF hk [] (by decide) (λbase' aK=>vU k.w _ base' C _ t g (hC.base aK.keep) hks) aX (nR _) ?_
      refine wB hk 1 0 rfl i1 i2 (by rw[ess];exact i3) ?_
      exact hP [0,1,2,3] _ _ _ _ (.mk (k'+1) B0 B1 _ _ L dd _ _ _ _ Gy hq2 els (by rw[ess];exact hB)) rfl
    · refine gB (λk2 st st' gP kj nD e=>?_) (hq.two hk1);subst gP;subst kj;subst nD
      refine dZ (λq1 zX q2 q3=>?_) (Mv _ _ _ _ e)
      refine bw (λB0 B1 hB Gy=>?_) (hpar.set (v:=.int (t.aQ (row.getD (N+1-(k2+2)) 0) st:Nat)) (by exact L1 [] [_,_] 70575447878693 129 140944192056358 rfl hk2))
      have nJ:=Tab.je g (Tab.pN g hks q1).1
      refine aU hk (λ_ _=>rfl) (aj 1 0 rfl) i1 i2 i4 ?_
      refine Ax hk rfl rfl ?_
      refine aU hk (λ_ _=>rfl) (.b hS) (by exact L0 [] [_] 46596096 1 rfl) (by exact L3 [] [_,_,_,_] 38685626227668133590674545 528513 65537221 537725127 289147403267877927 rfl hn hN (sC (N+1) (k2+2) (L1 [] [_,_] 70575447878693 129 140944192056358 rfl hk2))) (iw (by exact L2 [] [_,_,_,_] 12470 8257 537725127 289147403267877927 rfl hN (sC (N+1) (k2+2) (L1 [] [_,_] 70575447878693 129 140944192056358 rfl hk2)))) ?_
      refine aU hk (λ_ _=>rfl) (aj 1 0 rfl) i1 i2 i4 ?_
      refine bD hk [] (by decide) (λbase' aK=>vW k.w _ base' C _ st t g (hC.base aK.keep) hks q1) aX (λ_=>Nat.zero_le _) λi _=>?_
      refine oN hk (aj 5 0 rfl) rfl rfl ?_
      refine wB hk 1 0 rfl i1 i2 (by rw[ess];exact i3) ?_
      refine eY (ms:=nL (L++aP (st-t.bs (t.aQ (row.getD (N+1-(k2+2)) 0) st)) (t.wd (t.aQ (row.getD (N+1-(k2+2)) 0) st)))) hk (aj 0 0 rfl) (aj 6 0 rfl) (by rw[els,aM,aM,aL];exact L3 [] [_,_,_] 268435460992037 533249 65537237 54924469 393413 rfl hn q3 nJ) (by rw[els,mq]) λz3=>?_
      exact hP [7,1,2,3] _ _ _ _ (.mk _ B0 B1 _ _ _ z3 _ _ _ _ Gy (.more (k2+1) _ _ _ (by rw[foldl_take_succ t.j7 _ _ _ 0 (by exact L2 [] [_,_,_] 12470 8257 13511 140961371925542 rfl hl2 hk2),oW row N k2 (by exact L1 [] [_,_] 12469 65 537594055 rfl hN) (by exact L1 [] [_,_] 12470 129 140944192056358 rfl hk2),e,show N-1-k2=N+1-(k2+2) by exact Or.elim (Nat.le_total (N-1) k2) (λz2=>nA (L3 [] [_,_,_,_,_] 12469 270465 3762304039 55520295 289217772016250919 rfl (sC N 1 (L1 [] [_,_] 721925 129 140927012188198 rfl hk2)) (sC (N-1) k2 (L2 [] [_,_,_] 12469 4225 140961371925542 3493867559 rfl hk2 (sC N 1 (L1 [] [_,_] 721925 129 140927012188198 rfl hk2)))) (sC (N+1) (k2+2) (L1 [] [_,_] 70575447878693 129 140944192056358 rfl hk2))) (L3 [] [_,_,_,_,_] 12469 528449 3762304039 55521319 289217772016249895 rfl (sC N 1 (L1 [] [_,_] 721925 129 140927012188198 rfl hk2)) (sC (N-1) k2 (L2 [] [_,_,_] 12469 4225 140961371925542 3493867559 rfl hk2 (sC N 1 (L1 [] [_,_] 721925 129 140927012188198 rfl hk2)))) (sC (N+1) (k2+2) (L1 [] [_,_] 70575447878693 129 140944192056358 rfl hk2)))) (λz2=>nA (L3 [] [_,_,_,_,_] 12469 270465 3762304039 55520295 289217772016250919 rfl (sC N 1 (L1 [] [_,_] 721925 129 140927012188198 rfl hk2)) (sC (N-1) k2 (L2 [] [_,_,_] 12469 4225 140961371925542 3493867559 rfl hk2 (sC N 1 (L1 [] [_,_] 721925 129 140927012188198 rfl hk2)))) (sC (N+1) (k2+2) (L1 [] [_,_] 70575447878693 129 140944192056358 rfl hk2))) (L3 [] [_,_,_,_,_] 12469 528449 3762304039 55521319 289217772016249895 rfl (sC N 1 (L1 [] [_,_] 721925 129 140927012188198 rfl hk2)) (sC (N-1) k2 (L2 [] [_,_,_] 12469 4225 140961371925542 3493867559 rfl hk2 (sC N 1 (L1 [] [_,_] 721925 129 140927012188198 rfl hk2)))) (sC (N+1) (k2+2) (L1 [] [_,_] 70575447878693 129 140944192056358 rfl hk2))))];rfl)) rfl (by rw[ess];exact hB)) rfl
noncomputable def qx(r:Res)(x:Addr):AV:=match r with
 | .ok _=>.ref x
 | .table=>.str "table"
 | .cut=>.str "cut"
noncomputable def yH(r:Res)(x:Addr):Led:=match r with
 | .ok l=>[(x,.list (nL l))]
 | .table=>[]
 | .cut=>[]
noncomputable def Ce(r:Res)(x:Addr):Gs:=[yH r x]
theorem jR.Wd{P:Addr→AO→Prop}{C:Addr}{iV:List Addr}{t:Tab}(h:jR P C iV t)(hz:t.z≤64){i:Int}{k:Nat}(e:i=k)(hk:k<t.z):∃ a,0≤i∧i<2^63∧(iV.map AV.ref)[i.toNat]?=some (.ref a)∧P a (.tuple [.int (t.sy k:Nat),.int (t.wd k:Nat),.int (t.bs k:Nat)]):=by
 refine aD (λa h1 h2=>?_) (h.at hk)
 subst e
 exact⟨a,Int.natCast_nonneg k,by exact L2 [] [_,_] 38685626227668133590674545 8321 4195525 12470 rfl hz hk,h1,h2⟩
theorem Wy{w z:Nat}(h:2^w≤z)(hz:z≤64):w≤6:=by
 apply Nat.le_of_not_lt
 intro q
 have:2^7≤2^w:=Nat.pow_le_pow_right (by decide) q
 exact L3 [] [_,_] 10 532608 12469 4195525 207784125246264389533717 rfl h hz this
inductive LsI (C dg f0:Addr) (t:Tab) (o:List Nat) (p many:Nat) (gr:Led):Nat→Vs→Vs→Gs→Prop
  | mk (k at' wide yg:Nat) (ai wi bi:Int) (fd:List Nat) (ls:List AV) (kv sv:Option AV):ai=at'→wi=wide→bi=yg→ls=nL fd→at'≤p→yg+2^wide≤t.z→fd.length=k→t.decOne o many=t.cu o (many-k) wide yg (p-at') fd→
    LsI C dg f0 t o p many gr k [some (.ref C),some (.int t.log),some (.bytes o),some (.int many),some (.ref dg),some (.ref f0),some (.int ai),some (.int wi),some (.int bi),kv,sv] [] [[(dg,.list (nL (fu o p)))],[(f0,.list ls)],gr]
theorem CZ (w:World)(b:Bool)(base:Heap)(C:Addr)(o:List Nat)(many:Nat)(t:Tab)(g:TabOk t)(hC:cj (bW w base) C t)(hl:∀ x∈o,x<256)(hz:o.length≤100000)(hm:many≤1000) :
    FX w b 2 545 base [.ref C,.int t.log,.bytes o,.int many] [] (λ_:Addr=>True) (qx (t.decOne o many)) (Ce (t.decOne o many)) bN:=by
  refine uE (λiV hC=>?_) hC
  have tB:=(Tab.kZ g).1
  refine FX.go ["cells","log","octets","many"] ["digits","found","at","wide","base","k","state"] rfl rfl rfl (λ_ _ _ _=>rfl) (by decide +kernel) ?_
  rintro k hk ow rfl-rfl-hR
  refine bD hk [] (by decide) (λbase' _=>wL k.w _ base' o hl hz) aX (λ_=>Nat.zero_le _) λi hi=>?_
  rcases i with _|⟨p,dg⟩
  · have hd:t.decOne o many=.table:=by unfold Tab.decOne;rw[show startP o=none from hi]
    rw[hd] at hR
    exact aq [] (hR 0 trivial)
  · have hs:startP o=some p:=hi
    have hd:t.decOne o many=t.cu o many t.log 0 p []:=by unfold Tab.decOne;rw[hs]
    have hp:=(jm hl hs).le
    have hdl:(nL (fu o p)).length=p:=(aM _).trans (oR (o:=o) (p:=p) (by exact L1 [] [_,_] 50861237 129 50861238 rfl hp))
    have Dy:(fu o p).length=p:=oR (o:=o) (p:=p) (by exact L1 [] [_,_] 50861237 129 50861238 rfl hp)
    refine pO hk rfl (by decide) rfl rfl ?_
    intro f0
    refine eO hk ow (λ_=>rfl) ?_
    refine eN hk λrr=>?_
    refine d9 (cnt:=many) hk (λ_ _=>rfl) (aj 2 0 rfl) (small_one (by decide) (by decide) (by exact L0 [] [_] 859848489200905000509768768 1 rfl) (by exact L1 [] [_] 19342813113834066795375729 129 65537205 rfl hm)) (by rw[bf];rfl) (LsI C dg f0 t o p many _) (.mk 0 0 t.log 0 _ _ _ [] _ none none rfl rfl rfl rfl (Nat.zero_le _) (by rw[Nat.zero_add];exact nR _) rfl hd) (λxs ys gs hI=>?_) (λk' hk2 xs ys gs hI J P hP=>?_)
    · obtain⟨at',wide,yg,ai,wi,bi,fd,ls,kv,sv,hai,hwi,hbi,els,hat,hbw,hfd,hdec⟩:=hI
      rw[Nat.sub_self,Tab.cu] at hdec
      refine bC hk (aj 0 0 rfl) (by exact L3 [] [_,_,_] 65536001205 533505 6553601221 50861270 13495 rfl hz hp hdl) ?_
      refine aO (λe=>?_) (λe=>?_)
      · rw[if_pos (by exact nA (L4 [_] [_,_,_,_] 181 33824833 13511 924850 793778 55454759 rfl hdl hai e (sC p at' (L3 [_] [_,_,_] 12469 528513 12503 728242 859314 rfl hdl hai e))) (L4 [_] [_,_,_,_] 720901 17305729 13511 924850 793778 55454759 rfl hdl hai e (sC p at' (L3 [_] [_,_,_] 12469 528513 12503 728242 859314 rfl hdl hai e))))] at hdec
        rw[hdec] at hR
        exact aq [1] (els▸hR f0 trivial)
      · rw[if_neg (by exact λq=>Or.elim (Int.lt_or_gt_of_ne e) (λz2=>L5 [_] [_,_,_,_] 10 1107824768 12471 859314 231 728241 51197991 rfl hdl hai q z2 (sC p at' (L1 [] [_,_] 12469 129 12469 rfl hat))) (λz2=>L5 [_] [_,_,_,_] 10 2181308480 12471 859314 231 732273 51197991 rfl hdl hai q z2 (sC p at' (L4 [_] [_,_,_] 12469 34086976 12503 728242 12469 734321 rfl hdl hai hat z2))))] at hdec
        rw[hdec] at hR
        exact aq [] (hR 0 trivial)
    · obtain⟨at',wide,yg,ai,wi,bi,fd,ls,kv,sv,hai,hwi,hbi,els,hat,hbw,hfd,hdec⟩:=hI
      have nJ:wide≤6:=Wy (Nat.le_trans (Nat.le_add_left _ _) hbw) tB
      have hls:ls.length=k':=by rw[els,aM,hfd]
      rw[show many-k'=(many-(k'+1))+1 by exact nA (L2 [] [_,_,_,_] 269224117 4225 59583527 15410397327399 rfl (sC many k' (L1 [] [_,_] 12469 129 12470 rfl hk2)) (sC many (k'+1) (L1 [] [_,_] 3225431077 129 12470 rfl hk2))) (L2 [] [_,_,_,_] 3225431077 8257 59584551 15410397326375 rfl (sC many k' (L1 [] [_,_] 12469 129 12470 rfl hk2)) (sC many (k'+1) (L1 [] [_,_] 3225431077 129 12470 rfl hk2))),Tab.cu] at hdec
      refine bC hk (aj 0 0 rfl) (by exact L3 [] [_,_,_] 65536001205 533505 6553601221 50861270 13495 rfl hz hp hdl) ?_
      refine aO (λe=>?_) (λe=>?_)
      · rw[if_pos (by exact L5 [_,_] [_,_,_,_,_] 12470 2181570625 14551 990386 793794 3267507313 59714599 rfl hdl hai hwi e (sC p at' (L1 [] [_,_] 12469 129 12469 rfl hat)))] at hdec
        rw[hdec] at hR
        exact aq [] (hR 0 trivial)
      · rw[if_neg (by exact L5 [_,_] [_,_,_,_,_] 12473 1107562625 14551 990386 793794 3267507316 59714599 rfl hdl hai hwi e (sC p at' (L1 [] [_,_] 12469 129 12469 rfl hat)))] at hdec
        have hrd:=kh o (p-at') wide
        have hst:yg+rd o (p-at') wide<t.z:=L2 [] [_,_,_,_] 55323686 8321 55454757 14534 rfl hbw hrd
        have hnum:s7 (((fu o p).drop at').take wide)=rd o (p-at') wide:=qY (by exact L1 [] [_,_] 50861237 129 50861238 rfl hp) (by exact L4 [_,_] [_,_,_,_] 55323685 33820801 13543 728242 793794 3267508340 rfl hdl hai hwi e)
        refine aF (n':=1) (v:=.int (rd o (p-at') wide:Nat)) (g':=[]) hk [] (by decide) (λbase' aK=>by rw[hai,hwi,←hnum];exact lY k.w _ base' dg (fu o p) at' wide (Has.on (aj 0 0 rfl) aK) (by exact L3 [] [_,_,_] 65536001205 533505 6553601221 50861270 13495 rfl hz hp Dy) (by exact L3 [] [_,_,_] 65536001205 533505 6553601221 50861270 13493 rfl hz hp hat) (by exact L1 [] [_] 65537205 129 393397 rfl nJ)) aX (nR _) ?_
        refine pG (λa i1 i2 i3 hA=>?_) (hC.Wd tB (i:=bi+(rd o (p-at') wide:Nat)) (by rw[hbi];exact(Int.natCast_add _ _).symm) hst)
        refine kI hk 1 0 rfl ?_
        refine aU hk (λ_ _=>rfl) (.b hC.hC) i1 i2 i3 ?_
        refine jJ hk (λ_ _=>rfl) (.b hA) (by decide) (by decide) rfl ?_
        refine kJ hk 1 0 rfl (by exact L3 [] [_,_,_] 65536001205 532609 65537221 12502 13495 rfl hm hk2 hls) ?_
        refine dH hk ["wide","base"] (by decide +kernel) (by decide) rfl ?_
        refine aU hk (λ_ _=>rfl) (.b hC.hC) i1 i2 i3 ?_
        refine jJ hk (λ_ _=>rfl) (.b hA) (by decide) (by decide) rfl ?_
        refine aU hk (λ_ _=>rfl) (.b hC.hC) i1 i2 i3 ?_
        refine jJ hk (λ_ _=>rfl) (.b hA) (by decide) (by decide) rfl ?_
        exact hP [0,1,2,3] _ _ _ _ (.mk (k'+1) (at'+wide) _ _ _ _ _ (fd++[t.sy (yg+rd o (p-at') wide)]) _ _ _ (by exact iA (L2 [_,_] [_,_] 13383685123104 8321 728242 793794 rfl hai hwi) (L2 [_,_] [_,_] 13383706019952 4161 728242 793794 rfl hai hwi)) rfl rfl (by rw[els,cD]) (by exact L4 [_,_] [_,_,_,_] 55323685 33820801 13543 728242 793794 3267508340 rfl hdl hai hwi e) (g.top _ hst) (by rw[lA,hfd];rfl) (by rw[Nat.sub_add_eq p];exact hdec)) rfl
inductive LuI (C dg f0:Addr) (t:Tab) (o:List Nat) (p most:Nat):Nat→Vs→Vs→Gs→Prop
  | mk (k a b at':Nat) (ai:Int) (ss:Addr) (fd:List Nat) (ls:List AV) (v1 v2 v3:Option AV):k=most-fd.length→ai=at'→ls=nL fd→fd.length≤most→a<t.z→b<t.z→at'≤p→t.cM o most=t.dG o (most-1-fd.length) a b (p-at') fd→
    LuI C dg f0 t o p most k [some (.ref C),some (.int t.log),some (.bytes o),some (.int most),some (.ref dg),some (.ref ss),some (.int ai),some (.ref f0),v1,v2,v3] [] [[(dg,.list (nL (fu o p)))],[(ss,.list [.int a,.int b])],[(f0,.list ls)]]
theorem Gl (w:World)(b:Bool)(base:Heap)(C:Addr)(o:List Nat)(most:Nat)(t:Tab)(g:TabOk t)(hC:cj (bW w base) C t)(hl:∀ x∈o,x<256)(hz:o.length≤100000)(hm:most≤1000) :
    FX w b 2 552 base [.ref C,.int t.log,.bytes o,.int most] [] (λ_:Addr=>True) (qx (t.cM o most)) (Ce (t.cM o most)) bN:=by
  refine uE (λiV hC=>?_) hC
  have tB:=(Tab.kZ g).1
  have bM:t.log≤6:=by rcases g.log with h|h<;>(first|exact L1 [] [_] 393397 129 327863 rfl h|exact L1 [] [_] 393397 129 393399 rfl h)
  refine FX.go ["cells","log","octets","most"] ["digits","states","at","found","symbol","wide","base"] rfl rfl rfl (λ_ _ _ _=>rfl) (by decide +kernel) ?_
  rintro k hk ow rfl-rfl-hR
  refine bD hk [] (by decide) (λbase' _=>wL k.w _ base' o hl hz) aX (λ_=>Nat.zero_le _) λi hi=>?_
  rcases i with _|⟨p,dg⟩
  · have hd:t.cM o most=.table:=by unfold Tab.cM;rw[show startP o=none from hi]
    rw[hd] at hR
    exact aq [] (hR 0 trivial)
  · have hs:startP o=some p:=hi
    have hd:t.cM o most=if p<2*t.log then .cut else t.dG o (most-1) (rd o p t.log) (rd o (p-t.log) t.log) (p-2*t.log) []:=by unfold Tab.cM;rw[hs]
    have hp:=(jm hl hs).le
    have hdl:(nL (fu o p)).length=p:=(aM _).trans (oR (o:=o) (p:=p) (by exact L1 [] [_,_] 50861237 129 50861238 rfl hp))
    have Dy:(fu o p).length=p:=oR (o:=o) (p:=p) (by exact L1 [] [_,_] 50861237 129 50861238 rfl hp)
    refine jK hk (.of_left (by decide)) ?_
    refine bC hk (aj 0 0 rfl) (by exact L3 [] [_,_,_] 65536001205 533505 6553601221 50861270 13495 rfl hz hp hdl) ?_
    refine aO (λh0=>?_) (λh0=>?_)
    · rw[if_pos (by exact L2 [] [_,_,_] 50468022 8257 11479 208046208113 rfl hdl h0)] at hd
      rw[hd] at hR
      exact aq [] (hR 0 trivial)
    rw[if_neg (by exact L2 [] [_,_,_] 50468025 8321 11479 208046208116 rfl hdl h0)] at hd
    have Vn:s7 (((fu o p).drop 0).take t.log)=rd o p t.log:=qY (at':=0) (by exact L1 [] [_,_] 50861237 129 50861238 rfl hp) (by exact L2 [] [_,_,_] 3267362853 8322 12503 190866338932 rfl hdl h0)
    have Vm:s7 (((fu o p).drop t.log).take t.log)=rd o (p-t.log) t.log:=qY (by exact L1 [] [_,_] 50861237 129 50861238 rfl hp) (by exact L2 [] [_,_,_] 51063845 8321 12503 190866338932 rfl hdl h0)
    refine dH hk ["states","at","found"] (by decide +kernel) (by decide) rfl ?_
    refine aF (n':=1) (v:=.int (rd o p t.log:Nat)) (g':=[]) hk [] (by decide) (λbase' aK=>by rw[←Vn];exact lY k.w _ base' dg (fu o p) 0 t.log (Has.on (aj 0 0 rfl) aK) (by exact L3 [] [_,_,_] 65536001205 533505 6553601221 50861270 13495 rfl hz hp Dy) (by exact L0 [] [] 4194304065541 1 rfl) (by exact L1 [] [_] 65537205 129 393397 rfl bM)) aX (nR _) ?_
    refine aF (n':=1) (v:=.int (rd o (p-t.log) t.log:Nat)) (g':=[]) hk [] (by decide) (λbase' aK=>by rw[←Vm];exact lY k.w _ base' dg (fu o p) t.log t.log (Has.on (aj 0 0 rfl) aK) (by exact L3 [] [_,_,_] 65536001205 533505 6553601221 50861270 13495 rfl hz hp Dy) (by exact L1 [] [_] 65536001205 129 393397 rfl bM) (by exact L1 [] [_] 65537205 129 393397 rfl bM)) aX (nR _) ?_
    intro s0
    refine jK hk (.of_left (by decide)) ?_
    intro f0
    refine iy hk ow (LuI C dg f0 t o p most) most (.mk most _ _ (2*t.log) _ _ [] _ none none none rfl (Int.natCast_mul 2 t.log).symm rfl (Nat.zero_le _) (kh o p t.log) (kh o (p-t.log) t.log) (by exact L2 [] [_,_,_] 51054677 8321 12503 190866338932 rfl hdl h0) hd) ?_
    clear hd
    intro k' xs ys gs hI P hP
    obtain⟨a,b,at',ai,ss,fd,ls,v1,v2,v3,hk0,hai,els,hfd,ha,hb,hat,hdec⟩:=hI
    have hls:ls.length=fd.length:=by rw[els,aM]
    refine bC hk (aj 2 0 rfl) (by exact L3 [] [_,_,_] 65536001205 532609 65537221 12501 13495 rfl hm hfd hls) ?_
    refine aO (λe=>?_) (λe=>?_)
    · rw[show most-1-fd.length=(most-1-(fd.length+1))+1 by exact Or.elim (Nat.le_total (most-1) (fd.length)) (λz2=>nA (L2 [] [_,_,_,_] 269224117 4225 59583527 15410397327399 rfl (sC (most-1) (fd.length) (L4 [] [_,_,_,_] 12469 17309760 11479 15513691167777 11461 3762303015 rfl hls e z2 (sC most 1 (L1 [] [_,_] 721925 129 12215156218913 rfl e)))) (sC (most-1) (fd.length+1) (L4 [] [_,_,_,_] 3225431077 17309760 11479 15513691167777 11461 3762303015 rfl hls e z2 (sC most 1 (L1 [] [_,_] 721925 129 12215156218913 rfl e))))) (L2 [] [_,_,_,_] 3225431077 8257 59584551 15410397326375 rfl (sC (most-1) (fd.length) (L4 [] [_,_,_,_] 12469 17309760 11479 15513691167777 11461 3762303015 rfl hls e z2 (sC most 1 (L1 [] [_,_] 721925 129 12215156218913 rfl e)))) (sC (most-1) (fd.length+1) (L4 [] [_,_,_,_] 3225431077 17309760 11479 15513691167777 11461 3762303015 rfl hls e z2 (sC most 1 (L1 [] [_,_] 721925 129 12215156218913 rfl e)))))) (λz2=>nA (L2 [] [_,_,_,_] 269224117 4225 59583527 15410397327399 rfl (sC (most-1) (fd.length) (L3 [] [_,_,_,_] 12469 270401 11479 15513691167777 3762303015 rfl hls e (sC most 1 (L1 [] [_,_] 721925 129 12215156218913 rfl e)))) (sC (most-1) (fd.length+1) (L3 [] [_,_,_,_] 3225431077 270401 11479 15513691167777 3762303015 rfl hls e (sC most 1 (L1 [] [_,_] 721925 129 12215156218913 rfl e))))) (L2 [] [_,_,_,_] 3225431077 8257 59584551 15410397326375 rfl (sC (most-1) (fd.length) (L3 [] [_,_,_,_] 12469 270401 11479 15513691167777 3762303015 rfl hls e (sC most 1 (L1 [] [_,_] 721925 129 12215156218913 rfl e)))) (sC (most-1) (fd.length+1) (L3 [] [_,_,_,_] 3225431077 270401 11479 15513691167777 3762303015 rfl hls e (sC most 1 (L1 [] [_,_] 721925 129 12215156218913 rfl e)))))),Tab.dG] at hdec
      refine pG (λca i1 i2 i3 hA=>?_) (hC.Wd tB (i:=(a:Nat)) rfl ha)
      refine pG (λcb j1 j2 j3 hB=>?_) (hC.Wd tB (i:=(b:Nat)) rfl hb)
      have nJ:=Tab.je g ha
      refine Ax hk rfl rfl ?_
      refine aU hk (λ_ _=>rfl) (aj 1 0 rfl) (by decide) (by decide) rfl ?_
      refine aU hk (λ_ _=>rfl) (.b hC.hC) i1 i2 i3 ?_
      refine oN hk (.b hA) rfl rfl ?_
      refine kI hk 2 0 rfl ?_
      refine kJ hk 2 0 rfl (by exact L2 [] [_,_] 65536001205 8321 65537221 13314667781153 rfl hm e) ?_
      refine bC hk (aj 0 0 rfl) (by exact L3 [] [_,_,_] 65536001205 533505 6553601221 50861270 13495 rfl hz hp hdl) ?_
      refine aO (λe2=>?_) (λe2=>?_)
      · rw[if_pos (by exact L4 [_] [_,_,_,_,_] 12470 34086977 14551 990386 208083760241 59714599 rfl hdl hai e2 (sC p at' (L1 [] [_,_] 12469 129 12469 rfl hat)))] at hdec
        rw[hdec] at hR
        refine aU hk (λ_ _=>rfl) (aj 1 0 rfl) (by decide) (by decide) rfl ?_
        refine aU hk (λ_ _=>rfl) (.b hC.hC) j1 j2 j3 ?_
        refine jJ hk (λ_ _=>rfl) (.b hB) (by decide) (by decide) rfl ?_
        intro r1
        refine eY (ms:=nL (fd++[t.sy a,t.sy b])) hk (aj 2 0 rfl) (aj 3 0 rfl) (by rw[lA];show ls.length+1+1≤_;exact id (L2 [] [_,_] 4503599698839020963877 8321 65537221 13314667781153 rfl hm e)) (by rw[els,cD,cD,aA];rfl) λz3=>?_
        exact aq [4] (hR z3 trivial)
      · rw[if_neg (by exact L4 [_] [_,_,_,_,_] 12473 17305729 14551 990386 208083760244 59714599 rfl hdl hai e2 (sC p at' (L1 [] [_,_] 12469 129 12469 rfl hat)))] at hdec
        have hnum:s7 (((fu o p).drop at').take (t.wd a))=rd o (p-at') (t.wd a):=qY (by exact L1 [] [_,_] 50861237 129 50861238 rfl hp) (by exact L3 [_] [_,_,_,_] 55323685 528513 13543 728242 208083761268 rfl hdl hai e2)
        have hnx:t.bs a+rd o (p-at') (t.wd a)<t.z:=by
          have h1:=g.top a ha
          have h2:=kh o (p-at') (t.wd a)
          exact L2 [] [_,_,_,_] 55323686 8321 55454757 14534 rfl h1 h2
        refine aU hk (λ_ _=>rfl) (aj 1 0 rfl) (by decide) (by decide) rfl ?_
        refine aF (n':=1) (v:=.int (rd o (p-at') (t.wd a):Nat)) (g':=[]) hk [] (by decide) (λbase' aK=>by rw[hai,←hnum];exact lY k.w _ base' dg (fu o p) at' (t.wd a) (Has.on (aj 0 0 rfl) aK) (by exact L3 [] [_,_,_] 65536001205 533505 6553601221 50861270 13495 rfl hz hp Dy) (by exact L3 [] [_,_,_] 65536001205 533505 6553601221 50861270 13493 rfl hz hp hat) (by exact L1 [] [_] 65537205 129 393397 rfl nJ)) aX (nR _) ?_
        intro s1
        exact hP (most-(fd.length+1)) [0,3,2] _ _ _ (.mk _ b (t.bs a+rd o (p-at') (t.wd a)) (at'+t.wd a) _ _ (fd++[t.sy a]) _ _ _ _ (by rw[lA];rfl) (by exact iA (L1 [_] [_,_] 787286610881568 129 793778 rfl hai) (L1 [_] [_,_] 852311078013040 65 728242 rfl hai)) (by rw[els,cD]) (by rw[lA,List.length_singleton];exact L2 [] [_,_,_] 3225431077 8257 11479 13314667912225 rfl hls e) hb hnx (by exact L3 [_] [_,_,_,_] 55323685 528513 13543 728242 208083761268 rfl hdl hai e2) (by rw[lA,Nat.sub_add_eq p];exact hdec)) (by exact L3 [] [_,_,_,_,_] 12470 528449 13511 63845415 16509913148455 rfl hk0 (sC most (fd.length) (L2 [] [_,_,_] 12469 8257 11479 13314667912225 rfl hls e)) (sC most (fd.length+1) (L2 [] [_,_,_] 3225431077 8257 11479 13314667912225 rfl hls e)))
    · rw[show most-1-fd.length=0 by exact Or.elim (Nat.le_total (most-1) (fd.length)) (λz2=>nA (L1 [] [_] 181 129 183 rfl (sZ (most-1) (fd.length) (L1 [] [_,_] 12469 129 12469 rfl z2))) (L1 [] [_] 720901 65 183 rfl (sZ (most-1) (fd.length) (L1 [] [_,_] 12469 129 12469 rfl z2)))) (λz2=>Or.elim (Nat.le_total most 1) (λz1=>nA (L2 [] [_,_,_] 181 8321 199 51194919 rfl (sZ most 1 (L1 [] [_] 65717 129 65717 rfl z1)) (sC (most-1) (fd.length) (L1 [] [_,_] 12469 129 12469 rfl z2))) (L2 [] [_,_,_] 720901 4225 13509 55323687 rfl z2 (sC (most-1) (fd.length) (L1 [] [_,_] 12469 129 12469 rfl z2)))) (λz1=>nA (L4 [] [_,_,_,_,_] 181 34087041 13511 15513691102244 3762306087 63777831 rfl hls e (sC most 1 (L1 [] [_] 721925 129 721925 rfl z1)) (sC (most-1) (fd.length) (L1 [] [_,_] 12469 129 12469 rfl z2))) (L2 [] [_,_,_] 720901 4225 13509 55323687 rfl z2 (sC (most-1) (fd.length) (L1 [] [_,_] 12469 129 12469 rfl z2))))),Tab.dG] at hdec
      rw[hdec] at hR
      exact aq [] (hR 0 trivial)
section
variable{c:Cx}{nm:NM}{n n':Nat}{r:List It}{vs:bR}{xs ys:Vs}{gs:Gs}
theorem Q8{body:List Stmt}{n1 n2 s1 s2:Str}{Uw Uv q1 q2 r1 r2 hp1 hp2 pos:Pos}{k1 k2}{C1 C2:Addr} (hc:c.Ok n nm) (ow:bU c.fx) (hcl:c.fx.cl=false) (hfz:c.fx.fz=[]) (i1:dX n1 nm.kn=some .globalImplicit) (i2:dX n2 nm.kn=some .globalImplicit) (g1:nsIn (KK c.w) mainGlobals n1=some (some (.ref C1))) (g2:nsIn (KK c.w) mainGlobals n2=some (some (.ref C2))) (e1:jc c.w C1) (e2:jc c.w C2)
  (hne:C1≠C2)(Vw:C1≠39)(X0:Value→Prop)(hX:∀ k,X0 k→(k=.ref C1∧c.R (.str s1) [])∨(k=.ref C2∧c.R (.str s2) []))
  (h:∀ c0:Cx,c0.Ok n nm→c0.w=c.w→c0.fx=c.fx→c0.R=c.R→(∀ e,X0 e→c0.X e)→Go c0 nm [.ss body,.bot λ_ _=>False] [] xs ys gs) :
  D c (.st (.Try body [.ExceptHandler (some (.Name n1 Uw)) none [.Return (some (.Constant (.str s1) k1 q1)) r1] hp1,.ExceptHandler (some (.Name n2 Uv)) none [.Return (some (.Constant (.str s2) k2 q2)) r2] hp2] [] [] pos)::r) vs (mk nm xs) (led c ys gs):=by
 let c0:Cx:=⟨c.w,c.fx,X0,c.R,c.ca⟩
 have hc0:c0.Ok n nm:=⟨hc.ok,hc.hk,hc.hc,hc.hl⟩
 have hb:=aB hc0 (h c0 hc0 rfl rfl rfl λ_ q=>q)
 have hb:SS c.w c.fx body (mk nm xs) (led c ys gs) (λ_ _=>False) (Out c) X0:=hb
 exact Qg hc.ok ow hcl hfz hc.hk (bT i1) (bT i2) g1 g2 e1 e2 hne Vw (λk q=>(hX k q).imp (λz=>⟨z.1,[],[],.nil,z.2⟩) λz=>⟨z.1,[],[],.nil,z.2⟩) (SS.mono hb (λ_ _ z=>z.elim) λ_ _ z=>z)
theorem qN{q:Res}{x:Addr}{l:List Nat}{i:Nat}(e:cI gs i=yH q x)(e2:q=.ok l):Has c.w c.fx (led c ys gs) x (.list (iL (l.map λ(n:Nat)=>(n:Int)))):=aj i 0 (by rw[e,e2];rfl)
theorem Q9{q:Res}{x y:Addr}(hc:c.Ok n nm)(i j:Nat)(hx:cI gs i=yH q x)(hy:cI gs j=yH q y)(h:Go c nm r ([.bool false]::vs) xs ys gs):D c (.cmp .NotEq::r) ([qx q y]::[qx q x]::vs) (mk nm xs) (led c ys gs):=by
 cases q with
 | ok l=>exact wC hc (qN hx rfl) (qN hy rfl) (by rw[decide_eq_true rfl];exact h)
 | table=>exact GZ hc (by rw[bne_self_eq_false];exact h)
 | cut=>exact GZ hc (by rw[bne_self_eq_false];exact h)
theorem Rc{q:Res}{x y:Addr}(hc:c.Ok n nm)(i j:Nat)(hx:cI gs i=yH q x)(hy:cI gs j=yH q y)(h:Go c nm r ([.bool true]::vs) xs ys gs):D c (.cmp .Eq::r) ([qx q y]::[qx q x]::vs) (mk nm xs) (led c ys gs):=by
 cases q with
 | ok l=>exact VL hc (qN hx rfl) (qN hy rfl) (by rw[decide_eq_true rfl];exact h)
 | table=>exact Nb hc (by rw[beq_self_eq_true];exact h)
 | cut=>exact Nb hc (by rw[beq_self_eq_true];exact h)
end
theorem FN.weak{w:World}{b:Bool}{n:Nat}{f:Addr}{base:Heap}{as:List AV}{μ:Led}{Q:AV→Led→Prop}{X:Value→Prop}(h:FN w false n f base as μ Q X):FN w b n f base as μ Q X:=λvs hv=>(h vs hv).weak
theorem M4(w:World):nsIn (KK w) mainGlobals "BadTable"= some (some (.ref 64)):=by kernel_rfl
theorem VR(w:World):nsIn (KK w) mainGlobals "CutShort"= some (some (.ref 52)):=by kernel_rfl
theorem BR(w:World)(b:Bool)(base:Heap)(f T:Addr)(o:List Nat)(many:Nat)(r:Res)(hkp:(inN f (GN.map (·.2))||inN f KT)=true)(hT:∀ base',base.StaysIn base'→FX w false 7 f base' [.bytes o,.ref T,.int many] [] (λi:Addr×List Nat=>r=.ok i.2) (λi=>.ref i.1) (λi=>[[(i.1,.list (nL i.2))]]) (Fg r))(hlen:∀ l,r=.ok l→l.length≤1000000) :
  FX w b 8 559 base [.ref f,.bytes o,.ref T,.int many] [] (λ_:Addr=>True) (qx r) (Ce r) bN:=by
 refine FN.weak (b:=b) (FX.GK ["call","octets","table","many"] [] ["call","octets","table","many"] [] [some (.ref f),some (.bytes o),some (.ref T),some (.int many)] [] rfl rfl rfl (λ_ _ _ _=>rfl) (by decide +kernel) rfl (λ_=>rfl) (λ_=>rfl) ?_)
 rintro k hk ow rfl hcl rfl-hR L hca hfz
 refine Q8 hk ow hcl hfz rfl rfl (M4 _) (VR _) (dI _) (rT _) (by decide) (by decide) (Fg r) (λc hc=>?_) λk0 hk0 hw hfx hR0 hX=>?_
 ·rcases hc with⟨rfl,h⟩|⟨rfl,h⟩
  ·rw[h] at hR;exact .inl ⟨rfl,hR 0 trivial⟩
  ·rw[h] at hR;exact .inr ⟨rfl,hR 0 trivial⟩
 ·refine aae hkp ?_
  refine bD hk0 [] (nR _) (λbase' aK=>by rw[hw,hfx,hcl];exact hT base' (hfx▸aK.keep)) hX (λ_=>Nat.zero_le _) λi hi=>?_
  refine Ao hk0 (aj 0 0 rfl) (by rw[aM];exact hlen _ hi) λz=>?_
  have:=hR z trivial
  rw[hi,←hR0] at this
  exact aq [1] this
theorem qz(t:Tab)(o:List Nat):∀ (k wide yg p:Nat) (fd l:List Nat),t.cu o k wide yg p fd=.ok l→l.length≤fd.length+k
  | 0,_,_,p,fd,l,h=>by
    unfold Tab.cu at h
    split at h
    · have:=Res.Ul h;subst this;exact L0 [] [_] 723125 1 rfl
    · cases h
  | k + 1,wide,yg,p,fd,l,h=>by
    unfold Tab.cu at h
    split at h
    · cases h
    · have:=qz t o k _ _ _ _ l h
      rw[lA,List.length_singleton] at this
      exact L1 [] [_,_,_] 1103010465973 129 14310881495221 rfl this
theorem qg(t:Tab)(o:List Nat):∀ (k a b p:Nat) (fd l:List Nat),t.dG o k a b p fd=.ok l→l.length≤fd.length+k+1
  | 0,_,_,p,fd,l,h=>by cases h
  | k + 1,a,b,p,fd,l,h=>by
    unfold Tab.dG at h
    split at h
    · have:=Res.Ul h;subst this;simp
    · have:=qg t o k _ _ _ _ l h
      rw[lA,List.length_singleton] at this
      exact L1 [] [_,_,_] 288300968821524661 129 289146272567396533 rfl this
theorem Eo{t:Tab}{o l:List Nat}{many:Nat}(h:t.decOne o many=.ok l):l.length≤many:=by
 unfold Tab.decOne at h
 split at h
 ·cases h
 ·have:=qz t o _ _ _ _ _ _ h
  simpa using this
theorem En{t:Tab}{o l:List Nat}{most:Nat}(h:t.cM o most=.ok l):l.length≤most+1:=by
 unfold Tab.cM at h
 split at h
 ·cases h
 ·split at h
  ·cases h
  ·have:=qg t o _ _ _ _ _ _ h
   simp at this;exact L2 [] [_,_,_] 269224117 8321 269289653 12501 rfl this (Nat.sub_le most 1)
theorem yw(w:World)(b:Bool)(base:Heap)(T:Addr)(o:List Nat)(many:Nat)(t:Tab)(g:TabOk t)(hT:bL (bW w base) T t)(hl:∀ x∈o,x<256)(hz:o.length≤100000)(hm:many≤1000) :
  FX w b 8 559 base [.ref 436,.bytes o,.ref T,.int many] [] (λ_:Addr=>True) (qx (t.decOne o many)) (Ce (t.decOne o many)) bN:=
 BR w b base 436 T o many _ rfl (λbase' k=>uM w false base' T o many t g (hT.base k) hl hz hm) λl h=>by have:=Eo h;exact Xf hm this
theorem Jb(w:World)(b:Bool)(base:Heap)(T:Addr)(o:List Nat)(many:Nat)(t:Tab)(g:TabOk t)(hT:bL (bW w base) T t)(hl:∀ x∈o,x<256)(hz:o.length≤100000)(hm:many≤1000) :
  FX w b 8 559 base [.ref 450,.bytes o,.ref T,.int many] [] (λ_:Addr=>True) (qx (t.cM o many)) (Ce (t.cM o many)) bN:=
 BR w b base 450 T o many _ rfl (λbase' k=>uL w false base' T o many t g (hT.base k) hl hz hm) λl h=>by have:=En h;exact Xe hm this
theorem Je(w:World)(b:Bool)(base:Heap)(C T:Addr)(o:List Nat)(many:Nat)(t:Tab)(g:TabOk t)(hC:cj (bW w base) C t)(hT:bL (bW w base) T t)(hl:∀ x∈o,x<256)(hz:o.length≤100000)(hm:many≤1000) :
  F1 w b 9 571 base [.ref C,.int t.log,.ref T,.bytes o,.int many] [] (.bool true) [] bN:=by
 refine FX.go ["cells","log","table","octets","many"] [] rfl rfl rfl (λ_ _ _ _ _=>rfl) (by decide +kernel) ?_
 rintro k hk ow rfl-rfl-hR
 refine bD hk [] (by decide) (λbase' aK=>yw k.w _ base' T o many t g (hT.base aK.keep) hl hz hm) aX (λ_=>Nat.zero_le _) λx _=>?_
 refine wH hk [] (by decide) (λbase' aK=>CZ k.w _ base' C o many t g (hC.base aK.keep) hl hz hm) aX (λ_=>Nat.zero_le _) λy _=>?_
 refine Q9 hk 0 1 rfl rfl ?_
 refine bD hk [] (by decide) (λbase' aK=>Jb k.w _ base' T o many t g (hT.base aK.keep) hl hz hm) aX (λ_=>Nat.zero_le _) λx _=>?_
 refine wH hk [] (by decide) (λbase' aK=>Gl k.w _ base' C o many t g (hC.base aK.keep) hl hz hm) aX (λ_=>Nat.zero_le _) λy _=>?_
 refine Rc hk 2 3 rfl rfl ?_
 exact aq [] (hR () trivial)
structure jd(b0 b1 c k:Int):Prop where
 h0:0≤b0
 h1:0≤b1
 h1':b1<2147483648
 hc:0≤c
 hk:c≤k
theorem jd.up{b0 b1 c k k':Int}(h:jd b0 b1 c k)(q:k≤k'):jd b0 b1 c k':=⟨h.h0,h.h1,h.h1',h.hc,Int.le_trans h.hk q⟩
section
variable{c:Cx}{nm:NM}{n n':Nat}{r:List It}{vs:bR}{xs ys ys':Vs}{gs:Gs}{t elt iter:Expr}{ifs:List Expr}{scope:Scope}{Q:AV→Led→Prop}{cl:List (Str×Addr)}
theorem eH{bx:Addr}{b0 b1 c0 k many:Int}(hc:c.Ok n nm)(i:Nat)(hg:cI gs i=[(bx,BX b0 b1 c0)])(hb:jd b0 b1 c0 k)(hk:k≤100000)(hm:0<many)(hm':many<2^32)(hn:1≤n)
  (h:∀ (d:Nat) b0' c',(d:Int)<many→jd b0' b1 c' (k+1)→Go c nm r ([.int d]::vs) xs ys (puts (cuts gs [i]) [i] [[(bx,BX b0' b1 c')]])):D c (.cg::r) ([.ref bx,.int many]::[.ref 471]::vs) (mk nm xs) (led c ys gs):=by
 refine bD (C:=O1 b0 c0 many) (v:=λi=>.int i.1) (g':=λi=>[[(bx,BX i.2.1 b1 i.2.2)]]) (X':=bN) hc [i] hn (λbase' _=>?_) aX (λ_=>nR 1) λz hz=>?_
 ·show FX c.w c.fx.cl 1 471 base' _ [cI gs i] _ _ _ _
  rw[hg]
  exact Kz c.w _ base' bx b0 b1 c0 many hb.h0 hb.h1 hb.h1' hb.hc (Int.le_trans hb.hk hk) hm hm'
 ·have:=h z.1.toNat z.2.1 z.2.2 (by rw[Int.toNat_of_nonneg hz.1];exact hz.2.1) ⟨hz.2.2.1,hb.h1,hb.h1',hz.2.2.2.1,Int.le_trans hz.2.2.2.2 (Int.add_le_add_right hb.hk 1)⟩
  rw[Int.toNat_of_nonneg hz.1] at this
  exact this
theorem Ng{K:Fj}{x y z:Int}{cnt:Nat}{rr:Addr}(hc:c.Ok n nm)(hK:∀ as m σ,CK c n nm scope cl t elt ifs Q as m σ→K as m σ)(js:List Nat)(ys':Vs)(iU:flat (gets (gU c.ca ys) js)=bK (cl.map (·.2)) ys')(hif:Nat.ble ifs.length 1=true)(ht:cP t)(hr:Has c.w c.fx (led c ys gs) rr (.range x y z))(hs:Builtin.Range.small x y z=true)(hn:Builtin.Range.rangeSize x y z=(cnt:Int))(hz:cnt≤1000000)(I:Nat→List AV→Gs→Prop)(hi:I 0 [] gs)
  (he:∀ as gs,I cnt as gs→∀ D,Q (.ref D) (led c ys (gs++[[(D,.list as)]])))
  (turn:∀ k,k<cnt→∀ as gs,I k as gs→as.length≤k→∀ c':Cx,c'.Ok n (kY scope cl)→c'.w=c.w→c'.fx.base=c.fx.base→∀ (ρ:Led) (P:List AV→au→Led→Prop),(∀ bs is xs' gs' cO,I (k+1) (as++bs) cO→gets gs' is=cO++[ρ]→P bs (mk (kY scope cl) xs') (led c' ys' gs'))→
   tV (scope.names.map λ_=>none) λxs=>Go c' (kY scope cl) (.asg t::o9 ifs elt [.dN P]) [[.int (x+k*z)]] xs ys' (gs++[[],ρ])) :
  D c.nc [.dN K] [[.ref rr]] (mk nm xs) (led c.nc ys gs):=hK _ _ _ (nP hc js ys' iU hif ht hr hs hn hz I hi he λk hk as gs hI hal c' hc' hw hb ρ P hP=>turn k hk as gs hI hal c' hc' hw hb ρ P λbs is xs' gs' cO h1 h2=>hP bs is xs' gs' cO h1 (fJ h2))
end
theorem FJ:∀ o,o<256→∀ j,j<8→(o/2^j%2=0→o+2^j<256)∧(o/2^j%2≠0→2^j≤o):=by decide +kernel
noncomputable abbrev BeC(bx:Addr)(b1 k:Int)(gr:Led)(i:Nat)(as:List AV)(gs:Gs):Prop:=∃ ds b0 c,as=nL ds∧ds.length=i∧(∀ x∈ds,x<256)∧jd b0 b1 c (k+i)∧gs=[[(bx,BX b0 b1 c)],gr]
noncomputable abbrev BeR(o:List Nat)(b1 k:Int)(i:List Nat×Int×Int):Prop:=(∀ x∈i.1,x<256)∧i.1.length≤o.length+7∧jd i.2.1 b1 i.2.2 (k+20)
theorem Ep{n k:Nat}(h:k≤n):clipAt n ((k:Nat):Int)=k:=by
 unfold clipAt
 rw[wR,Int.toNat_natCast,Nat.min_eq_left h]
theorem Ln(ds:List Nat):(ds.map λ(n:Nat)=>(n:Int)).map Int.toNat=ds:=by
 rw[List.map_map];exact List.map_id'' (λx=>Int.toNat_natCast x) _
theorem yP{o:List Nat}(hl:∀ x∈o,x<256){a c a' c':Nat}{m:List Nat}(hm:∀ x∈m,x<256):∀ x∈(o.drop a).take c++m++(o.drop a').take c',x<256:=λx hx=>by
 rcases mA hx with q|q
 ·rcases mA q with q|q
  ·exact hl x (List.mem_of_mem_drop (List.mem_of_mem_take q))
  ·exact hm x q
 ·exact hl x (List.mem_of_mem_drop (List.mem_of_mem_take q))
theorem Ol (w:World)(b:Bool)(base:Heap)(bx:Addr)(b0 b1 c k:Int)(o:List Nat)(hb:jd b0 b1 c k)(hk':k≤90000)(hl:∀ x∈o,x<256)(h0:0<o.length)(hz:o.length≤90000) :
    FX w b 2 564 base [.ref bx,.bytes o] [[(bx,BX b0 b1 c)]] (BeR o b1 k) (λi=>.bytes i.1) (λi=>[[(bx,BX i.2.1 b1 i.2.2)]]) bN:=by
  refine FX.GK ["box","octets"] ["way","at","bit","turned_one"] ["octets","way","at","bit","turned_one"] ["box"] [some (.bytes o),none,none,none,none] [some (.ref bx)] rfl rfl rfl (λ_ _=>rfl) (by decide +kernel) rfl (λ_=>rfl) (λ_=>rfl) ?_
  rintro q hk ow rfl - - - hR L hca -
  refine dH hk ["way","at"] (by decide +kernel) (by decide) rfl ?_
  refine eH hk 0 rfl hb (by exact L1 [_] [] 6553601200 129 5898241200 rfl hk') (by decide) (by decide) (nR _) λway b0 c SX hb=>?_
  refine qP hk (by exact L1 [] [_] 65536001205 129 5898241205 rfl hz) ?_
  refine eH hk 0 rfl hb (by exact L1 [_] [] 1717987191041056 129 5898241200 rfl hk') (by exact L1 [] [_] 46596097 129 720902 rfl h0) (by exact L1 [] [_] 18014398509558897 129 5898241205 rfl hz) (nR _) λat' b0 c hat hb=>?_
  refine eH hk 0 rfl hb (by exact L1 [_] [] 450360034205574563872 129 5898241200 rfl hk') (by decide) (by decide) (nR _) λj b0 c hj hb=>?_
  refine iT hk (by exact L1 [] [_] 3932341 129 33565809 rfl hj) ?_
  have hc1:clipAt o.length ((at':Nat):Int)=at':=Ep (Nat.le_of_lt (Int.ofNat_lt.mp hat))
  have hc2:clipAt o.length (((at':Nat):Int)+1)=at'+1:=Ep (k:=at'+1) (Int.ofNat_lt.mp hat)
  refine aO (λh1=>?_) (λh1=>?_)
  · refine iB hk [("box",L+1)] rfl (by decide +kernel) (by rw[hk.hc,hca];rfl) (λ_=>rfl) λK hK=>?_
    refine eH hk.nc 0 rfl hb (by exact L1 [_] [] 118059180806785966173980704 129 5898241200 rfl hk') (by decide) (by decide) (nR _) λd7 b0 c Ag hb=>?_
    refine eN hk.nc λrr=>?_
    refine Ng (cnt:=d7) hk hK [0] [some (.ref bx)] (by rw[hca];rfl) rfl (λ_ _=>rfl) (aj 1 0 rfl) (small_one (by decide) (by decide) (by exact L0 [] [_] 859848489200905000509768768 1 rfl) (by exact L1 [] [_] 19342813113834066795375729 129 29371505 rfl Ag)) (by rw[bf];rfl) (by exact L1 [] [_] 65536001205 129 29371505 rfl Ag) (BeC bx b1 (k+1+1+1+1) _) ⟨[],b0,c,rfl,rfl,(λ_ h=>nomatch h),hb.up (by exact L0 [_] [] 656214592060632197623217824472727181395483745716256 1 rfl),rfl⟩ ?_ ?_
    · rintro as gs ⟨ds,b0,c,rfl,hdl,Ah,hb,rfl⟩ D
      refine aB hk ?_
      refine nQ (ns:=ds.map λ(n:Nat)=>(n:Int)) hk (aj 2 0 rfl) (λn hn=>?_) (by rw[List.length_map];exact L2 [] [_,_] 65536001205 8321 29372529 12471 rfl Ag hdl) ?_
      · obtain⟨x,hx,rfl⟩:=mM hn
        have:=Ah x hx
        exact⟨L0 [] [_] 46596096 1 rfl,L1 [] [_] 1073818737 129 16778422 rfl this⟩
      · exact aq [0] (by rw[Ln];exact hR (ds,b0,c) ⟨Ah,by show ds.length≤_;exact id (L3 [] [_,_,_] 1879836853 532609 786438 29373553 13495 rfl h0 Ag hdl),hb.up (by exact L1 [_] [_] 6647035160297019361611216005714020384 129 29371505 rfl Ag)⟩)
    · rintro i hi as gs ⟨ds,b0,c,rfl,hdl,Ah,hb,rfl⟩ hal c' hc' hw hb' ρ P hP
      refine eH hc' 0 rfl hb (by exact L3 [_] [_,_] 8112965329159947264943026042958907424 532609 5898241200 29372529 12470 rfl hk' Ag hi) (by decide) (by decide) (nR _) λdd b0 c hdd hb=>?_
      exact hP [.int dd] [0,1,3] _ _ _ ⟨ds++[dd],b0,c,cD ds dd,by rw[lA,hdl,List.length_singleton],λx hx=>by
        rcases mA hx with q|q
        · exact Ah x q
        · rw[List.mem_singleton.mp q];exact L1 [] [_] 16778422 129 1073818737 rfl hdd,hb.up (by exact L0 [_] [_] 108130263317693144979453018430071677385600194238741104054549048592416 1 rfl),rfl⟩ rfl
  refine aO (λh2=>?_) (λh2=>?_)
  · refine eH hk 0 rfl hb (by exact L1 [_] [] 118059180806785966173980704 129 5898241200 rfl hk') (by decide) (by decide) (nR _) λd7 b0 c Ag hb=>?_
    intro t
    refine nQ (ns:=[((d7:Nat):Int)]) hk (aj 1 0 rfl) (λn hn=>by rw[List.mem_singleton.mp hn];exact⟨L0 [] [_] 46596096 1 rfl,L1 [] [_] 1073818737 129 1073818737 rfl Ag⟩) (Nat.le_of_ble_eq_true rfl) ?_
    refine jt hk (by show 1+_≤_;exact id (L1 [] [_] 17179869498638373 129 5898241205 rfl hz)) ?_
    refine aq [0] (hR (_,b0,c) ⟨λx hx=>?_,by show o.length+1≤_;exact id (L0 [] [_] 492770728881189 1 rfl),hb.up (by exact L0 [_] [] 25356426086655494717413567629344 1 rfl)⟩)
    rcases List.mem_cons.mp hx with q|q
    · have:x=d7:=q
      exact L2 [] [_,_] 16778422 8321 1073819761 12471 rfl Ag this
    · exact hl x q
  refine aO (λh3=>?_) (λh3=>?_)
  · refine⟨_,_,_,.none,.int _,.none,λS1=>?_⟩
    refine rR hk 1 0 rfl (by exact L1 [] [_] 65536001205 129 5898241205 rfl hz) ?_
    refine⟨_,_,_,.int _,.none,.none,λS2=>?_⟩
    refine rR hk 2 0 rfl (by exact L1 [] [_] 65536001205 129 5898241205 rfl hz) ?_
    refine jt hk (Nat.le_trans (Nat.add_le_add (yM o _ _) (yM o _ _)) (by exact Xd hz)) ?_
    refine aq [0] (hR (_,b0,c) ⟨λx hx=>yP hl (m:=[]) (λ_ h=>nomatch h) x (by rw[aN];exact hx),?_,hb.up (by exact L0 [_] [] 96727089258787135041964064 1 rfl)⟩)
    show(List.take (clipAt o.length (at':Nat)-0) (List.drop 0 o)++List.take (o.length-clipAt o.length ((at':Nat)+1)) (List.drop (clipAt o.length ((at':Nat)+1)) o)).length≤_
    rw[lA,lT,lT,List.length_drop,List.length_drop,hc1,hc2];exact L4 [] [_,_,_,_,_,_] 7700080241701 34087041 14517 4026546215 16583 14310894092327 rfl (Nat.min_le_left (at'-0) (o.length-0)) (sC at' 0 (L0 [] [_] 720901 1 rfl)) (Nat.min_eq_left (a:=o.length-(at'+1)) (b:=o.length-(at'+1)) (L0 [] [_] 11445 1 rfl)) (sC (o.length) (at'+1) (L1 [] [_,_] 3225431077 129 50801777 rfl hat))
  · have Mr:o.getD at' 0<256:=za hl at'
    have htl:=FJ (o.getD at' 0) Mr j (by exact L1 [] [_] 524470 129 33565809 rfl hj)
    have hj2:=vh (k:=j) (by exact L1 [] [_] 3932341 129 33565809 rfl hj)
    refine Ar hk (λ_ _=>rfl) (by exact L1 [] [_] 65536001205 129 5898241205 rfl hz) (by exact L0 [] [_] 46596096 1 rfl) (by exact L1 [] [_,_] 50801777 129 50801777 rfl hat) ?_
    refine Aw hk hj2.2 hj2.1 ?_
    have key:∀ v:Int,0≤v→v<256→BeR o b1 k (List.take (clipAt o.length (at':Nat)-0) (List.drop 0 o)++[v.toNat]++List.take (o.length-clipAt o.length ((at':Nat)+1)) (List.drop (clipAt o.length ((at':Nat)+1)) o),b0,c):=λv h1 h2=>by
      refine⟨yP hl λx hx=>by rw[List.mem_singleton.mp hx];exact L2 [_] [_] 16778422 8321 16778417 732274 rfl h2 (Int.toNat_of_nonneg (a:=v) (L1 [_] [] 720896 129 720896 rfl h1)),?_,hb.up (by exact L0 [_] [] 96727089258787135041964064 1 rfl)⟩
      show List.length (_++_++_)≤_
      rw[lA,lA,lT,lT,List.length_drop,List.length_drop,hc1,hc2,List.length_singleton];exact L4 [] [_,_,_,_,_,_] 2018529832187136037 34087041 14517 4026546215 16583 14310894092327 rfl (Nat.min_le_left (at'-0) (o.length-0)) (sC at' 0 (L0 [] [_] 720901 1 rfl)) (Nat.min_eq_left (a:=o.length-(at'+1)) (b:=o.length-(at'+1)) (L0 [] [_] 11445 1 rfl)) (sC (o.length) (at'+1) (L1 [] [_,_] 3225431077 129 50801777 rfl hat))
    refine aO (λe=>?_) (λe=>?_)
    · have hv:0≤((o.getD ((at':Nat):Int).toNat 0:Nat):Int)+((2^j:Nat):Int)∧((o.getD ((at':Nat):Int).toNat 0:Nat):Int)+((2^j:Nat):Int)<256:=by
        rw[gQ] at e
        rw[Int.toNat_natCast] at e⊢
        have:=htl.1 (by exact nA (L1 [] [_] 181 129 11378 rfl e) (L1 [] [_] 720901 65 11378 rfl e))
        generalize 2^j=P at this⊢
        exact⟨L0 [] [_,_] 13317380898816 1 rfl,L1 [] [_,_] 281495407893537 129 68724468774 rfl this⟩
      refine Ar hk (λ_ _=>rfl) (by exact L1 [] [_] 65536001205 129 5898241205 rfl hz) (by exact L0 [] [_] 46596096 1 rfl) (by exact L1 [] [_,_] 50801777 129 50801777 rfl hat) ?_
      refine⟨_,_,_,.none,.int _,.none,λS1=>?_⟩
      refine rR hk 1 0 rfl (by exact L1 [] [_] 65536001205 129 5898241205 rfl hz) ?_
      intro t
      refine nQ (ns:=[_]) hk (aj 2 0 rfl) (λn hn=>by rw[List.mem_singleton.mp hn];exact hv) (Nat.le_of_ble_eq_true rfl) ?_
      refine jt hk (by rw[lT,List.length_drop];show _+1≤_;exact id (L3 [] [_,_,_] 17179869456641061 532609 5898241221 13493 12501 rfl hz (Nat.min_le_right ((some ↑at').elim o.length (clipAt o.length)-none.elim 0 (clipAt o.length)) (o.length-none.elim 0 (clipAt o.length))) (Nat.sub_le (o.length) (none.elim 0 (clipAt o.length))))) ?_
      refine⟨_,_,_,.int _,.none,.none,λS2=>?_⟩
      refine rR hk 3 0 rfl (by exact L1 [] [_] 65536001205 129 5898241205 rfl hz) ?_
      refine jt hk (Nat.le_trans (Nat.le_of_eq (lA).symm) (Nat.le_trans (key _ hv.1 hv.2).2.1 (by exact L1 [] [_] 17179869481806885 129 5898241205 rfl hz))) ?_
      exact aq [0] (hR (_,b0,c) (key _ hv.1 hv.2))
    · have hv:0≤((o.getD ((at':Nat):Int).toNat 0:Nat):Int)-((2^j:Nat):Int)∧((o.getD ((at':Nat):Int).toNat 0:Nat):Int)-((2^j:Nat):Int)<256:=by
        rw[gQ] at e
        rw[Int.toNat_natCast] at e⊢
        have:=htl.2 (by exact λq=>Or.elim (Int.lt_or_gt_of_ne e) (λz2=>L2 [] [_] 10 8256 183 11377 rfl q z2) (λz2=>L2 [] [_] 10 8320 183 46596097 rfl q z2))
        generalize 2^j=P at this⊢
        exact⟨L1 [] [_,_] 13317380964352 129 11461 rfl this,L1 [] [_,_] 281495407893553 129 16778422 rfl Mr⟩
      refine Ar hk (λ_ _=>rfl) (by exact L1 [] [_] 65536001205 129 5898241205 rfl hz) (by exact L0 [] [_] 46596096 1 rfl) (by exact L1 [] [_,_] 50801777 129 50801777 rfl hat) ?_
      refine⟨_,_,_,.none,.int _,.none,λS1=>?_⟩
      refine rR hk 1 0 rfl (by exact L1 [] [_] 65536001205 129 5898241205 rfl hz) ?_
      intro t
      refine nQ (ns:=[_]) hk (aj 2 0 rfl) (λn hn=>by rw[List.mem_singleton.mp hn];exact hv) (Nat.le_of_ble_eq_true rfl) ?_
      refine jt hk (by rw[lT,List.length_drop];show _+1≤_;exact id (L3 [] [_,_,_] 17179869456641061 532609 5898241221 13493 12501 rfl hz (Nat.min_le_right ((some ↑at').elim o.length (clipAt o.length)-none.elim 0 (clipAt o.length)) (o.length-none.elim 0 (clipAt o.length))) (Nat.sub_le (o.length) (none.elim 0 (clipAt o.length))))) ?_
      refine⟨_,_,_,.int _,.none,.none,λS2=>?_⟩
      refine rR hk 3 0 rfl (by exact L1 [] [_] 65536001205 129 5898241205 rfl hz) ?_
      refine jt hk (Nat.le_trans (Nat.le_of_eq (lA).symm) (Nat.le_trans (key _ hv.1 hv.2).2.1 (by exact L1 [] [_] 17179869481806885 129 5898241205 rfl hz))) ?_
      exact aq [0] (hR (_,b0,c) (key _ hv.1 hv.2))
structure jz(z many i:Nat)(left:Int)(cs:List Int):Prop where
 len:cs.length=i
 ge:∀ c∈cs,-1≤c
 sum:(cs.map ig).sum+left=(z:Int)
 head:0<i→cs.getD 0 0≠0
 lo:((many-i:Nat):Int)≤left
theorem vm{c:Int}(h : -1≤c):ig c=(c.natAbs:Int):=by
 unfold ig
 by_cases q:c = -1
 ·rw[if_pos q,q];rfl
 ·rw[if_neg q];exact(Int.natAbs_of_nonneg (Int.add_one_le_of_lt ((Int.lt_iff_le_and_ne).mpr ⟨h,Ne.symm q⟩))).symm
theorem oZ(cs:List Int)(c:Int){j:Nat}(h:j<cs.length):(cs++[c]).getD j 0=cs.getD j 0:=by
 rw[gD,gD,List.getElem?_append_left h]
theorem o7(cs:List Int)(c:Int):(cs++[c]).getD cs.length 0=c:=by
 rw[gD,List.getElem?_append_right (nR _),Nat.sub_self];rfl
theorem Ck:∀ cs:List Int,(∀ c∈cs,-1≤c)→0≤(cs.map ig).sum
  | [],_=>Int.le_refl _
  | c::cs,h=>by
    have h1:=Ck cs λx hx=>h x (.tail _ hx)
    have h2:=vm (h c (.head _))
    rw[List.map_cons,List.sum_cons]
    exact L2 [_,_] [_] 3267493888 4225 786432 728242 rfl h1 h2
theorem jz.Ma{z many i:Nat}{left:Int}{cs:List Int}(d:jz z many i left cs):left≤z:=by
 have:=Ck cs d.ge
 have:=d.sum
 exact Xc (by assumption) this
theorem jz.next{z many i:Nat}{left c:Int}{cs:List Int}(d:jz z many i left cs)(hi:i<many-1)(h1 : -1≤c)(h2:(c.natAbs:Int)≤left-(many-1-i))(h3:i=0→c≠0):jz z many (i+1) (left-c.natAbs) (cs++[c]):=by
 refine⟨by rw[lA,d.len];rfl,λx hx=>?_,?_,λ_=>?_,by exact L2 [_] [_,_,_,_] 208083823728 8321 16657699051478523785328 14310889892903 rfl h2 (sC many (i+1) (L2 [] [_,_,_] 3225431077 8321 13494 12501 rfl hi (Nat.sub_le many 1)))⟩
 ·rcases mA hx with q|q
  ·exact d.ge x q
  ·rw[List.mem_singleton.mp q];exact h1
 ·have:=d.sum
  rw[List.map_append,List.sum_append,List.map_singleton,List.sum_singleton,vm h1]
  exact iA (L1 [_,_] [_,_] 223428586943348934688 129 3251383330 rfl this) (L1 [_,_] [_,_] 223432809136697519216 65 2982947874 rfl this)
 ·by_cases q:i=0
  ·have hl:cs.length=0:=by rw[d.len,q]
   have:=o7 cs c
   rw[hl] at this
   rw[this];exact h3 q
  ·rw[oZ _ _ (by rw[d.len];exact Or.elim (Nat.lt_or_gt_of_ne q) (λz2=>L1 [] [_] 720902 128 182 rfl z2) (λz2=>L1 [] [_] 720902 129 720902 rfl z2))]
   exact d.head (by exact Or.elim (Nat.lt_or_gt_of_ne q) (λz2=>L1 [] [_] 720902 128 182 rfl z2) (λz2=>L1 [] [_] 720902 129 720902 rfl z2))
theorem jz.done{z many:Nat}{left c:Int}{cs:List Int}(d:jz z many (many-1) left cs)(h2:2≤many)(h7:many≤7)(hc:c=left∨(left=1∧c = -1)):Drawn z many (cs++[c]):=by
 have h1 : -1≤c∧c≠0∧(c.natAbs:Int)=left:=by
  rcases hc with rfl|⟨rfl,rfl⟩
  ·have hlo:(1:Int)≤c:=Int.le_trans (Int.ofNat_le.mpr (Nat.le_sub_of_add_le (Nat.le_of_eq (Nat.add_comm 1 _▸Nat.sub_add_cancel (Nat.le_of_succ_le h2))))) d.lo
   exact⟨Int.le_trans (by decide) hlo,Int.ne_of_gt hlo,Int.natAbs_of_nonneg (Int.le_of_lt hlo)⟩
  ·exact⟨Int.le_refl _,by decide,rfl⟩
 refine⟨by rw[lA,d.len,List.length_singleton];exact nA (L1 [] [_,_] 3225431077 129 3225431079 rfl (sC many 1 (L1 [] [_] 721925 129 722949 rfl h2))) (L1 [] [_,_] 269224117 65 2956996647 rfl (sC many 1 (L1 [] [_] 721925 129 722949 rfl h2))),h2,h7,λx hx=>?_,?_,?_,?_⟩
 ·rcases mA hx with q|q
  ·exact d.ge x q
  ·rw[List.mem_singleton.mp q];exact h1.1
 ·have:=d.sum
  rw[List.map_append,List.sum_append,List.map_singleton,List.sum_singleton,vm h1.1]
  exact iA (L2 [_,_] [_,_] 208084085792 8321 797810 3251383330 rfl h1.2.2 this) (L2 [_,_] [_,_] 208083758192 4161 798834 2982947874 rfl h1.2.2 this)
 ·rw[oZ _ _ (by rw[d.len];exact L2 [] [_,_] 720902 4225 788485 3225431079 rfl h2 (sC many 1 (L1 [] [_] 721925 129 722949 rfl h2)))]
  exact d.head (by exact L2 [] [_,_] 720902 4225 788485 3225431079 rfl h2 (sC many 1 (L1 [] [_] 721925 129 722949 rfl h2)))
 ·have:=o7 cs c
  rw[d.len] at this
  rw[this];exact h1.2.1
theorem qJ(l:List Int)(c:Int):iL l++[AV.int c]=iL (l++[c]):=by simp[iL]
theorem Hg{x:Int}(h:0≤x):x.fdiv 2=x/2:=Int.fdiv_eq_ediv_of_nonneg _ (by decide)
theorem Ua{a b:Nat}{M way k0:Int}(h0:0≤way)(h5:way<5)(hk:k0=0∨k0=1)(ha:1+(a:Int)≤M)(hb:1+(b:Int)≤M)(hM:1≤M) :
  ∃ c:Int,0≤max way k0∧max way k0<2^63∧([AV.int 0,.int (-1),.int 1,.int (1+a),.int (1+b)]:List AV)[(max way k0).toNat]?=some (.int c)∧-1≤c∧(c.natAbs:Int)≤M∧(k0=1→c≠0):=by
 have pos:∀ n:Nat,(1:Int)≤1+(n:Int):=λn=>Int.le_add_of_nonneg_right (Int.natCast_nonneg n)
 have key:∀ j:Nat,j<5→∃ c:Int,([AV.int 0,.int (-1),.int 1,.int (1+a),.int (1+b)]:List AV)[j]?=some (.int c)∧-1≤c∧(c.natAbs:Int)≤M∧(1≤j→c≠0):=λj hj=>match j,hj with
  | 0,_=>⟨0,rfl,by decide,Int.le_trans (by decide) hM,λh=>absurd h (by decide)⟩
  | 1,_=>⟨-1,rfl,by decide,hM,λ_=>by decide⟩
  | 2,_=>⟨1,rfl,by decide,hM,λ_=>by decide⟩
  | 3,_=>⟨1+a,rfl,Int.le_trans (by decide) (pos a),ha,λ_=>Int.ne_of_gt (pos a)⟩
  | 4,_=>⟨1+b,rfl,Int.le_trans (by decide) (pos b),hb,λ_=>Int.ne_of_gt (pos b)⟩
  | n+5,h=>absurd h (Nat.not_lt.mpr (Nat.le_add_left 5 n))
 refine uE (λj hj=>?_) (Int.eq_ofNat_of_zero_le (Int.le_trans h0 (Int.le_max_left way k0)))
 have Zy:j<5:=by
  have h:max way k0<5:=Int.max_lt.mpr ⟨h5,by rcases hk with rfl|rfl<;>decide⟩
  rw[hj] at h
  exact Int.ofNat_lt.mp h
 refine pG (λc h1 h2 h3 h4=>?_) (key j Zy)
 rw[hj]
 refine⟨c,Int.natCast_nonneg j,Int.lt_trans (Int.ofNat_lt.mpr Zy) (by decide),h1,h2,h3,λe=>h4 ?_⟩
 have h:k0≤(j:Int):=hj▸Int.le_max_right way k0
 rw[e] at h
 exact Int.ofNat_le.mp h
inductive DrI (bx D:Addr) (b1 k:Int) (log z many:Nat) (gr:Led):Nat→Vs→Vs→Gs→Prop
  | mk (i:Nat) (cs:List Int) (left b0 c:Int) (ls:List AV) (kv mv wv pv:Option AV):jz z many i left cs→jd b0 b1 c (k+3*i)→ls=iL cs→
    DrI bx D b1 k log z many gr i [some (.ref bx),some (.int log),some (.int many),some (.int left),some (.ref D),kv,mv,wv,pv] [] [[(bx,BX b0 b1 c)],[(D,.list ls)],gr]
noncomputable abbrev DrR(z many:Nat)(b1 k:Int)(i:Addr×List Int×Int×Int):Prop:=Drawn z many i.2.1∧jd i.2.2.1 b1 i.2.2.2 (k+30)
theorem JX (w:World)(b:Bool)(base:Heap)(bx:Addr)(b0 b1 c k:Int)(log many:Nat)(hb:jd b0 b1 c k)(hk':k≤90000)(hl:log=5∨log=6)(h2:2≤many)(h7:many≤7) :
    FX w b 2 478 base [.ref bx,.int log,.int many] [[(bx,BX b0 b1 c)]] (DrR (2^log) many b1 k) (λi=>.ref i.1) (λi=>[[(bx,BX i.2.2.1 b1 i.2.2.2)],[(i.1,.list (iL i.2.1))]]) bN:=by
  obtain⟨z,hz⟩:∃ z,z=2^log:=⟨_,rfl⟩
  have hz2:32≤z∧z≤64:=by rcases hl with rfl|rfl<;>rw[hz]<;>decide
  have hst:jz z many 0 ((2^log:Nat):Int) []:=by rw[←hz];exact⟨rfl,(λ_ h=>nomatch h),Int.zero_add _,(λh=>nomatch h),by exact L3 [] [_,_,_] 50801776 532609 458965 819205 3489672231 rfl h7 hz2.1 (sC many 0 (L1 [] [_] 720901 129 722949 rfl h2))⟩
  rw[←hz]
  refine FX.go ["box","log","many"] ["left","found","k","most","way","part"] rfl rfl rfl (λ_ _ _=>rfl) (by decide +kernel) ?_
  rintro q hk ow rfl - - - hR
  refine dH hk ["left","found"] (by decide +kernel) (by decide) rfl ?_
  refine iT hk (by exact Or.elim hl (λz2=>L1 [] [_] 3932341 129 327863 rfl z2) (λz2=>L1 [] [_] 3932341 129 393399 rfl z2)) ?_
  intro D
  refine eO hk ow (λ_=>rfl) ?_
  refine eN hk λrr=>?_
  refine d9 (cnt:=many-1) hk (λ_ _=>rfl) (aj 2 0 rfl) (small_one (by decide) (by decide) (by exact L1 [] [_] 20337424493156328257457898914880 129 722949 rfl h2) (by exact L1 [] [_] 5070602400912917606004261854257 129 458933 rfl h7)) (by rw[bf];exact congrArg _ (Int.toNat_sub many 1)) (DrI bx D b1 k log z many _) (.mk 0 [] ((2^log:Nat):Int) b0 c _ none none none none hst (hb.up (by exact L0 [_] [] 121086085296 1 rfl)) rfl) (λxs ys gs hI=>?_) (λi hi xs ys gs hI J P hP=>?_)
  · obtain⟨cs,left,b0,c,ls,kv,mv,wv,pv,hd,hb,els⟩:=hI
    have hlen:=hd.len
    have hlo:=hd.lo
    have hls:ls.length≤7:=by rw[els,gG];exact L3 [] [_,_,_] 458933 532609 458949 13495 3225433127 rfl h7 hlen (sC many 1 (L1 [] [_] 721925 129 722949 rfl h2))
    refine aO (λhc=>?_) (λhc=>?_)
    · intro T
      refine eY (ms:=iL (cs++[left])) hk (aj 1 0 rfl) (aj 3 0 rfl) (by show _+1≤_;exact id (L1 [] [_] 17179869456641061 129 458933 rfl hls)) (by rw[els];exact qJ _ _) λz3=>?_
      exact aq [0,4] (hR (z3,_,b0,c) ⟨hd.done h2 h7 (.inl rfl),hb.up (by exact L2 [_] [_,_] 8647687730631093280 24961 458949 3225431079 rfl h7 (sC many 1 (L1 [] [_] 721925 129 722949 rfl h2)))⟩)
    · refine eH hk 0 rfl hb (by exact L3 [_] [_,_] 7036875708148558880 1597569 5898241200 458949 3225431079 rfl hk' h7 (sC many 1 (L1 [] [_] 721925 129 722949 rfl h2))) (by decide) (by decide) (nR _) λdd b0 c hdd hb=>?_
      refine aO (λh1=>?_) (λh1=>?_)
      · intro T
        refine eY (ms:=iL (cs++[left])) hk (aj 1 0 rfl) (aj 3 0 rfl) (by show _+1≤_;exact id (L1 [] [_] 17179869456641061 129 458933 rfl hls)) (by rw[els];exact qJ _ _) λz3=>?_
        exact aq [0,4] (hR (z3,_,b0,c) ⟨hd.done h2 h7 (.inl rfl),hb.up (by exact L2 [_] [_,_] 2266939406938808152426528 24961 458949 3225431079 rfl h7 (sC many 1 (L1 [] [_] 721925 129 722949 rfl h2)))⟩)
      · intro T
        refine eY (ms:=iL (cs++[-1])) hk (aj 1 0 rfl) (aj 3 0 rfl) (by show _+1≤_;exact id (L1 [] [_] 17179869456641061 129 458933 rfl hls)) (by rw[els];exact qJ _ _) λz3=>?_
        exact aq [0,4] (hR (z3,_,b0,c) ⟨hd.done h2 h7 (.inr ⟨by exact iA (L1 [_] [] 65712 129 721924 rfl hc) (L3 [_] [_,_,_] 721920 532609 732272 55249093 3225433127 rfl hlo (Nat.le_add_of_sub_le (nR (many-(many-1)))) (sC many 1 (L1 [] [_] 721925 129 722949 rfl h2))),rfl⟩),hb.up (by exact L2 [_] [_,_] 2266939406938808152426528 24961 458949 3225431079 rfl h7 (sC many 1 (L1 [] [_] 721925 129 722949 rfl h2)))⟩)
  · obtain⟨cs,left,b0,c,ls,kv,mv,wv,pv,hd,hb,els⟩:=hI
    have hlen:=hd.len
    have hlo:=hd.lo
    have hll:=hd.Ma
    have hls:ls.length≤7:=by rw[els,gG];exact L4 [] [_,_,_,_] 458933 34087041 458949 14550 13495 3225434151 rfl h7 hi hlen (sC many 1 (L1 [] [_] 721925 129 722949 rfl h2))
    obtain⟨most,GC⟩:∃ most,most=left-((many:Int)-1-(i:Nat)):=⟨_,rfl⟩
    have hm1:1≤most∧most≤64:=by exact⟨L3 [_,_] [_,_,_] 721920 528513 797808 241829802506130820274 55249093 rfl hlo GC (Nat.le_add_of_sub_le (nR (many-i))),L5 [_,_] [_,_,_,_] 4195504 2181570689 4195509 13510 728256 223383060631444524210 3762304039 rfl hz2.2 hi hll GC (sC many 1 (L1 [] [_] 721925 129 722949 rfl h2))⟩
    rw[GC] at hm1
    have hx2:(left-((many:Int)-1-(i:Nat))).fdiv 2≤left-((many:Int)-1-(i:Nat)):=by
      have h0:=Int.le_trans (by decide:(0:Int)≤1) hm1.1
      rw[Hg h0];exact Int.ediv_le_self 2 h0
    have hx1:=Int.max_le.mpr ⟨hm1.1,hx2⟩
    have hy1:=Int.max_le.mpr ⟨hm1.1,Int.le_refl _⟩
    have hbig:∀ {x:Int},x≤left-((many:Int)-1-(i:Nat))→x<2^32:=λh=>Int.lt_of_le_of_lt (Int.le_trans h hm1.2) (by decide)
    have hpos:∀ x:Int,0<max 1 x:=λx=>Int.lt_of_lt_of_le (by decide) (Int.le_max_left 1 x)
    refine iM (b:=.int (i:Nat)) (by rw[Int.zero_add,Int.mul_one]) ?_
    refine eH hk 0 rfl hb (by exact L4 [_,_] [_,_,_] 7036875708148558880 102260865 5898241200 458949 799856 75579512599899887841328 rfl hk' h7 hlo hm1.2) (by decide) (by decide) (nR _) λway b0 c SX hb=>?_
    refine eH hk 0 rfl hb (by exact L4 [_,_] [_,_,_] 1844674700117146654672928 102260865 5898241200 458949 799856 75579512599899887841328 rfl hk' h7 hlo hm1.2) (hpos _) (hbig hx1) (nR _) λd1 b0 c hd1 hb=>?_
    refine eH hk 0 rfl hb (by exact L4 [_,_] [_,_,_] 483570404584596028696052238368 102260865 5898241200 458949 799856 75579512599899887841328 rfl hk' h7 hlo hm1.2) (hpos _) (hbig hy1) (nR _) λd2 b0 c hd2 hb=>?_
    intro T
    obtain⟨k0,hk0,Zx,Zw⟩:∃ k0:Int,(if decide (((i:Nat):Int)=0)=true then 1 else 0)=k0∧(k0=0∨k0=1)∧(i=0→k0=1):=by
      cases i with
      | zero=>exact⟨1,rfl,.inr rfl,λ_=>rfl⟩
      | succ n=>exact⟨0,rfl,.inl rfl,λh=>nomatch h⟩
    refine BJ (λpart i1 i2 hp1 hp2 hp3 hp4=>?_) (Ua (a:=d1) (b:=d2) (way:=way) (k0:=k0) (Int.natCast_nonneg way) SX Zx (Int.add_comm 1 _▸Int.le_trans (Int.add_one_le_of_lt hd1) hx1) (Int.add_comm 1 _▸Int.le_trans (Int.add_one_le_of_lt hd2) hy1) hm1.1)
    rw[←hk0] at i1 i2 hp1
    refine aU hk (λ_ _=>rfl) (aj 5 0 rfl) i1 i2 hp1 ?_
    refine kI hk 1 0 rfl ?_
    refine kJ hk 1 0 rfl (by exact L1 [] [_] 65536001205 129 458933 rfl hls) ?_
    exact hP [0,1,2,3] _ _ _ _ (.mk (i+1) _ _ b0 c _ _ _ _ _ (hd.next hi hp2 (by exact L1 [_] [_,_,_] 15477107360392368303216 129 15477107360392368303216 rfl hp3) (λh=>hp4 (Zw h))) (hb.up (by exact L0 [_] [_] 5590203601218557666608898685883688423655456 1 rfl)) (by rw[els,qJ])) rfl
theorem oJ (kvs:List (Int×AV))(k k':Int)(a:AV):look (put kvs k a) k'=if k=k' then some a else look kvs k':=by
  unfold put look
  split
  · rename_i h
    induction kvs with
    | nil=>simp at h
    | cons p l ih=>
      rw[List.map_cons,List.find?_cons]
      by_cases q:p.1=k
      · rw[if_pos q]
        by_cases e:k=k'
        · subst e;simp[q]
        · have e2:¬ p.1=k':=λh=>e (q▸h)
          rw[if_neg e,List.find?_cons]
          simp only[e2,decide_false]
          by_cases h3:l.any (λp=>decide (p.1=k))=true
          · have:=ih h3
            rw[if_neg e] at this
            exact this
          · congr 1
            have hm:l.map (λp=>if p.1=k then(p.1,a) else p)=l:=by
              conv=>rhs;rw[←List.map_id l]
              refine List.map_congr_left λx hx=>?_
              rw[if_neg λq2=>h3 (List.any_eq_true.mpr ⟨x,hx,by simpa using q2⟩)];rfl
            rw[hm]
      · rw[if_neg q,List.find?_cons]
        rw[List.any_cons] at h
        have h':=ih (by simpa [q] using h)
        by_cases e:k=k'
        · have e2:¬ p.1=k':=λh=>q (e▸h)
          simp only[e2,decide_false];exact h'
        · by_cases e2:p.1=k'
          · simp[e2,e]
          · simp only[e2,decide_false];exact h'
  · rename_i h
    rw[List.find?_append]
    by_cases e:k=k'
    · subst e
      have:kvs.find? (λp=>decide (p.1=k))=none:=by
        rw[List.find?_eq_none]
        intro x hx q
        exact h (List.any_eq_true.mpr ⟨x,hx,q⟩)
      rw[this];simp
    · rw[if_neg e]
      cases hq:kvs.find? (λp=>decide (p.1=k')) with
      | some v=>rfl
      | none=>simp[e]
theorem vg(kvs:List (Int×AV))(k:Int)(a:AV):(put kvs k a).length≤kvs.length+1:=by
 unfold put;split
 ·rw[List.length_map];exact L0 [] [_] 269158581 1 rfl
 ·rw[lA];simp
noncomputable def jE(g:Nat→List AV):List Addr→Led
 | []=>[]
 | a::r=>(a,.tuple (g r.length))::jE g r
theorem pH(g:Nat→List AV):∀ (ts:List Addr) (i:Nat) (a:Addr),ts.reverse[i]?=some a→(a,AO.tuple (g i))∈jE g ts
  | [],i,a,h=>by simp at h
  | b :: r,i,a,h=>by
    rw[List.reverse_cons] at h
    by_cases q:i<r.reverse.length
    · rw[List.getElem?_append_left q] at h
      exact .tail _ (pH g r i a h)
    · rw[List.getElem?_append_right (by exact L1 [] [_,_] 12469 129 11465 rfl q)] at h
      have hl:=(List.getElem?_eq_some_iff.mp h).1
      rw[List.length_singleton] at hl
      have hi:i=r.length:=by rw[List.length_reverse] at q hl;exact nA (L2 [] [_,_,_] 12469 4225 65750 46937127 rfl hl (sC i (r.length) (L1 [] [_,_] 12469 129 11465 rfl q))) (L1 [] [_,_] 12469 129 11465 rfl q)
      rw[show i-r.reverse.length=0 by exact nA (L1 [] [_] 181 129 65718 rfl hl) (L0 [] [_] 720901 1 rfl)] at h
      have:b=a:=by simpa using h
      subst this;subst hi
      exact .head _
noncomputable def jf(z:Nat)(r:List Nat)(n:Nat):List (Int×AV):=(List.range n).map λi=>(((z-1-i:Nat):Int),AV.int (r.getD i 0:Nat))
noncomputable def rY(ps:List (Int×AV)):List (Int×AV):=ps.foldl (λm p=>put m p.1 p.2) []
theorem s6(z:Nat)(r:List Nat):∀ n,n≤z→(rY (jf z r n)).length≤n∧∀ p,p<z→look (rY (jf z r n)) (p:Nat)=if z-1-p<n then some (.int (r.getD (z-1-p) 0:Nat)) else none
  | 0,_=>⟨nR _,λp _=>rfl⟩
  | n + 1,h=>by
    refine uA (λh1 h2=>?_) (s6 z r n (by exact L1 [] [_,_] 12469 129 3225431077 rfl h))
    have e:rY (jf z r (n+1))=put (rY (jf z r n)) ((z-1-n:Nat):Int) (.int (r.getD n 0:Nat)):=by
      unfold rY jf
      rw[List.range_succ,List.map_append,List.foldl_append];rfl
    rw[e]
    refine⟨Nat.le_trans (vg _ _ _) (by exact L1 [] [_,_] 70575443684389 129 12469 rfl h1),λp hp=>?_⟩
    rw[oJ]
    by_cases q:z-1-p=n
    · rw[if_pos (by exact Or.elim (Nat.le_total (z-1) p) (λz2=>iA (L3 [] [_,_,_,_,_] 50801776 528513 14551 63714343 63843367 rfl q (sC (z-1) p (L2 [] [_,_,_] 12469 4225 13494 3493867559 rfl hp (sC z 1 (L1 [] [_,_] 721925 129 11462 rfl hp)))) (sC (z-1) n (L2 [] [_,_,_] 12469 4225 3493866533 3493867559 rfl h (sC z 1 (L1 [] [_,_] 721925 129 11462 rfl hp))))) (L3 [] [_,_,_,_,_] 50801776 270401 14551 63648807 63844391 rfl q (sC (z-1) p (L2 [] [_,_,_] 12469 4225 13494 3493867559 rfl hp (sC z 1 (L1 [] [_,_] 721925 129 11462 rfl hp)))) (sC (z-1) n (L2 [] [_,_,_] 12469 4225 3493866533 3493867559 rfl h (sC z 1 (L1 [] [_,_] 721925 129 11462 rfl hp)))))) (λz2=>iA (L3 [] [_,_,_,_,_] 50801776 528513 14551 63714343 63843367 rfl q (sC (z-1) p (L2 [] [_,_,_] 12469 4225 13494 3493867559 rfl hp (sC z 1 (L1 [] [_,_] 721925 129 11462 rfl hp)))) (sC (z-1) n (L2 [] [_,_,_] 12469 4225 3493866533 3493867559 rfl h (sC z 1 (L1 [] [_,_] 721925 129 11462 rfl hp))))) (L3 [] [_,_,_,_,_] 50801776 270401 14551 63648807 63844391 rfl q (sC (z-1) p (L2 [] [_,_,_] 12469 4225 13494 3493867559 rfl hp (sC z 1 (L1 [] [_,_] 721925 129 11462 rfl hp)))) (sC (z-1) n (L2 [] [_,_,_] 12469 4225 3493866533 3493867559 rfl h (sC z 1 (L1 [] [_,_] 721925 129 11462 rfl hp))))))),if_pos (by exact L1 [] [_,_] 269224118 129 12471 rfl q),q]
    · rw[if_neg (by exact Xb h q),h2 p hp]
      by_cases q2:z-1-p<n
      · rw[if_pos q2,if_pos (by exact L1 [] [_,_] 269224118 129 12470 rfl q2)]
      · rw[if_neg q2,if_neg (by exact Or.elim (Nat.lt_or_gt_of_ne q) (λz2=>L2 [] [_,_] 269224121 8320 12473 12470 rfl q2 z2) (λz2=>L1 [] [_,_] 269224121 129 11462 rfl z2))]
structure Filled(z f:Nat)(cs:List Int)(j:Nat)(kvs:List (Int×AV)):Prop where
 len:kvs.length≤z+j
 hi:∀ p,f≤p→p<z→look kvs (p:Nat)=some (.int ((aW cs).getD (z-1-p) 0:Nat))
 lo:∀ p∈vis z f j,look kvs (p:Nat)=some (.int ((cR cs).getD ((vis z f z).idxOf p) 0:Nat))
theorem Filled.start{z f:Nat}{cs:List Int}(sp:gk z f cs):Filled z f cs 0 (rY (jf z (aW cs) (aW cs).length)):=by
 have hf:=sp.Rk
 have hr:=sp.rlen
 have hz:=sp.zz
 refine uA (λh1 h2=>?_) (s6 z (aW cs) (aW cs).length (by exact Or.elim hz (λz2=>L2 [] [_,_] 12469 4225 458933 2097351 rfl hr z2) (λz2=>L2 [] [_,_] 12469 4225 458933 4195527 rfl hr z2)))
 refine⟨by exact Or.elim hz (λz2=>L3 [] [_,_,_] 788661 270465 458965 13493 2097351 rfl hr h1 z2) (λz2=>L3 [] [_,_,_] 788661 270465 458965 13493 4195527 rfl hr h1 z2),λp h3 h4=>?_,λp h=>by simp[vis] at h⟩
 rw[h2 p h4,if_pos (by exact Or.elim hz (λz2=>Or.elim (Nat.le_total (z-1) p) (λz1=>L5 [] [_,_,_,_,_,_,_] 12470 2164793409 14551 15573 4567613479 72103975 68103207 rfl hf h3 (sC z 1 (L1 [] [_] 721925 65 2097335 rfl z2)) (sC z ((aW cs).length) (L2 [] [_,_] 12469 4225 458933 2097351 rfl hr z2)) (sC (z-1) p (L2 [] [_,_,_] 12469 4225 13494 3493867559 rfl h4 (sC z 1 (L1 [] [_] 721925 65 2097335 rfl z2))))) (λz1=>L5 [] [_,_,_,_,_,_,_] 12470 2164793409 14551 15573 4567613479 72103975 68103207 rfl hf h3 (sC z 1 (L1 [] [_] 721925 65 2097335 rfl z2)) (sC z ((aW cs).length) (L2 [] [_,_] 12469 4225 458933 2097351 rfl hr z2)) (sC (z-1) p (L2 [] [_,_,_] 12469 4225 13494 3493867559 rfl h4 (sC z 1 (L1 [] [_] 721925 65 2097335 rfl z2)))))) (λz2=>Or.elim (Nat.le_total (z-1) p) (λz1=>L5 [] [_,_,_,_,_,_,_] 12470 2164793409 14551 15573 4567613479 72103975 68103207 rfl hf h3 (sC z 1 (L1 [] [_] 721925 65 4195511 rfl z2)) (sC z ((aW cs).length) (L2 [] [_,_] 12469 4225 458933 4195527 rfl hr z2)) (sC (z-1) p (L2 [] [_,_,_] 12469 4225 13494 3493867559 rfl h4 (sC z 1 (L1 [] [_] 721925 65 4195511 rfl z2))))) (λz1=>L5 [] [_,_,_,_,_,_,_] 12470 2164793409 14551 15573 4567613479 72103975 68103207 rfl hf h3 (sC z 1 (L1 [] [_] 721925 65 4195511 rfl z2)) (sC z ((aW cs).length) (L2 [] [_,_] 12469 4225 458933 4195527 rfl hr z2)) (sC (z-1) p (L2 [] [_,_,_] 12469 4225 13494 3493867559 rfl h4 (sC z 1 (L1 [] [_] 721925 65 4195511 rfl z2)))))))]
theorem Filled.put{z f:Nat}{cs:List Int}{j:Nat}{kvs} (sp:gk z f cs) (h:Filled z f cs j kvs) (hj:j<z) (ho:fY z j<f):Filled z f cs (j+1) (put kvs (fY z j:Nat) (.int ((cR cs).getD (vis z f j).length 0:Nat))):=by
 have hat:=HX hj ho
 obtain⟨hi,hv⟩:=List.getElem?_eq_some_iff.mp hat
 have hix:(vis z f z).idxOf (fY z j)=(vis z f j).length:=by
  conv=>lhs;rw[←hv]
  exact List.Nodup.idxOf_getElem sp.nd _ hi
 refine⟨Nat.le_trans (vg _ _ _) (by have:=h.len;exact L1 [] [_,_,_] 289147575548783653 129 55314613 rfl this),λp h3 h4=>?_,λp hp=>?_⟩
 ·rw[oJ,if_neg (by exact λq=>L3 [] [_,_,_] 10 270464 12470 13509 54996082 rfl ho h3 q)];exact h.hi p h3 h4
 ·rw[oJ]
  by_cases q:fY z j=p
  ·rw[if_pos (by exact iA (L1 [] [_,_] 50801776 129 12471 rfl q) (L1 [] [_,_] 50801776 65 11463 rfl q)),←q,hix]
  ·rw[if_neg (by exact Sg q)]
   rw[fQ,if_pos ho] at hp
   rcases mA hp with q2|q2
   ·exact h.lo p q2
   ·exact absurd (List.mem_singleton.mp q2).symm q
theorem Filled.skip{z f:Nat}{cs:List Int}{j:Nat}{kvs} (h:Filled z f cs j kvs) (ho:¬ fY z j<f):Filled z f cs (j+1) kvs:=
 ⟨by have:=h.len;exact L1 [] [_,_,_] 1103010465973 129 55314613 rfl this,h.hi,by rw[fQ,if_neg ho,aN];exact h.lo⟩
theorem Filled.done{z f:Nat}{cs:List Int}{j:Nat}{kvs} (sp:gk z f cs) (h:Filled z f cs j kvs) (hj:j≤z) (hv:(vis z f j).length=f) (p:Nat) (hp:p<z):look kvs (p:Nat)=some (.int ((dR z cs).getD p 0:Nat)):=by
 have hall:vis z f j=vis z f z:=by
  refine uE (λt ht=>?_) (Bu z f hj)
  have:=congrArg List.length ht
  rw[lA,sp.HW] at this
  have:t=[]:=List.length_eq_zero_iff.mp (by exact nA (L2 [] [_,_,_] 181 8257 13511 55259175 rfl hv this) (L2 [] [_,_,_] 720901 4225 13511 55259175 rfl hv this))
  rw[←ht,this,aN]
 have e:(dR z cs).getD p 0=if p<f then(cR cs).getD ((vis z f z).idxOf p) 0 else(aW cs).getD (z-1-p) 0:=by
  rw[←sp.full]
  unfold fj
  rw[gD,List.getElem?_map,List.getElem?_range hp]
  show(if p<f then if(vis z f z).idxOf p<f then _ else 0 else _)=_
  by_cases q:p<f
  ·have hl:=List.idxOf_lt_length_of_mem (sp.Kp p q)
   rw[sp.HW] at hl
   rw[if_pos q,if_pos q,if_pos hl]
  ·rw[if_neg q,if_neg q]
 rw[e]
 by_cases q:p<f
 ·rw[if_pos q];exact h.lo p (by rw[hall];exact sp.Kp p q)
 ·rw[if_neg q];exact h.hi p (by exact L1 [] [_,_] 12469 129 11465 rfl q) hp
theorem WK{ts vs:List Expr}{k k2:Nat}{p p2:Pos}{env:Env}(h:vs.all (foldedForSure 8)=true):swappedStores [.Tuple ts k p] (.Tuple vs k2 p2) env=pure none:=by
 unfold swappedStores
 dsimp only
 split
 ·rfl
 ·split
  ·rfl
  ·split
   ·rfl
   ·rfl
section
variable{c:Cx}{nm:NM}{n n':Nat}{r:List It}{vs:bR}{xs ys ys':Vs}{gs:Gs}{t elt iter:Expr}{ifs:List Expr}{scope:Scope}{Q:AV→Led→Prop}{cl:List (Str×Addr)}{p:Pos}
theorem H9{x0:Str}{py:Pos}{line:Nat}(hk:iZ c.fx nm.kn)(hx:dX x0 nm.kn=some .cell):swapsWithSole [.Name x0 py] (.ListComp elt [⟨t,iter,ifs,0⟩] scope p) line c.fx.env=pure false:=by
 show(pure (c.fx.env.blockKind == .function&&c.fx.env.kindOf x0 == some .local&&py.line == p.line && !(scope.names.any λ(n,k)=>n == x0&&(k == .local||k == .cell))):Sem Bool)=pure false
 rw[(hk _ (bT hx)).1]
 cases (c.fx.env.blockKind == .function)<;>rfl
theorem GF{a:Addr}{ao:AO}(i:Nat)(h:(a,ao)∈cI gs i):Has c.w c.fx (led c ys gs) a ao:=.inl (List.mem_append_right _ (rP gs i h))
theorem V0{K:Fj}{x y z:Int}{cnt:Nat}{rr:Addr}(hc:c.Ok n nm)(hK:∀ as m σ,CK c n nm scope cl t elt ifs Q as m σ→K as m σ)(js:List Nat)(ys':Vs)(iU:flat (gets (gU c.ca ys) js)=bK (cl.map (·.2)) ys')(hif:Nat.ble ifs.length 1=true)(ht:cP t)(hr:Has c.w c.fx (led c ys gs) rr (.range x y z))(hs:Builtin.Range.small x y z=true)(hn:Builtin.Range.rangeSize x y z=(cnt:Int))(hz:cnt≤1000000)(I:Nat→List AV→Gs→Prop)(hi:I 0 [] gs)
  (he:∀ as gs,I cnt as gs→∀ D,Q (.ref D) (led c ys (gs++[[(D,.list as)]])))
  (turn:∀ k,k<cnt→∀ as gs,I k as gs→as.length≤k→∀ c':Cx,c'.Ok n (kY scope cl)→c'.w=c.w→c'.fx.base=c.fx.base→∀ (ρ:Led) (P:List AV→au→Led→Prop),(∀ bs is xs' gs' cO,I (k+1) (as++bs) cO→(flat (gets gs' is)).Perm (flat cO++ρ)→P bs (mk (kY scope cl) xs') (led c' ys' gs'))→
   tV (scope.names.map λ_=>none) λxs=>Go c' (kY scope cl) (.asg t::o9 ifs elt [.dN P]) [[.int (x+k*z)]] xs ys' (gs++[[],ρ])) :
  D c.nc [.dN K] [[.ref rr]] (mk nm xs) (led c.nc ys gs):=hK _ _ _ (nP hc js ys' iU hif ht hr hs hn hz I hi he turn)
end
theorem Gx{l:List Int}{k:Nat}(h:k<l.length):(iL l)[((k:Nat):Int).toNat]?=some (.int (l.getD k 0)):=by
 unfold iL
 rw[Int.toNat_natCast,List.getElem?_map,gE h,gD,gE h];rfl
theorem Jj{z j:Nat}{a:Int}(h:a=(fY z j:Nat)):(a+(z:Int).fdiv 2+(z:Int).fdiv 8+3).fmod z=((fY z (j+1):Nat):Int):=by
 have h1:(z:Int).fdiv 2=((z/2:Nat):Int):=f9 z 2
 have h2:(z:Int).fdiv 8=((z/8:Nat):Int):=f9 z 8
 rw[h,h1,h2,show((fY z j:Nat):Int)+((z/2:Nat):Int)+((z/8:Nat):Int)+3=((fY z j+jU z:Nat):Int) by unfold jU;exact id (iA (L0 [] [_,_,_] 997990934231682978398702896024782880 1 rfl) (L0 [] [_,_,_] 997984795596885040463980008638711920 1 rfl)),oO,yO]
noncomputable def nj(z:Nat)(r:List Nat)(i:Nat):List AV:=[.int ((z:Int)-1-(0+(i:Int)*1)),.int (r.getD i 0:Nat)]
noncomputable abbrev LpT(R rr:Addr)(z:Nat)(r:List Nat)(g0:Led)(k:Nat)(as:List AV)(gs:Gs):Prop:=∃ ts:List Addr,ts.length=k∧as=ts.reverse.map .ref∧gs=[g0,[(R,.list (nL r))],jE (nj z r) ts++[(rr,.range 0 (nL r).length 1)]]
theorem Jf{z:Nat}{r:List Nat}(hr:r.length≤z){ts:List Addr}(htl:ts.length=r.length)(i:Nat)(p:Int×AV)(hi:(jf z r r.length)[i]?=some p):∃ T,(ts.reverse.map AV.ref)[i]?=some (.ref T)∧(T,AO.tuple [.int p.1,p.2])∈jE (nj z r) ts:=by
 have hil:i<r.length:=by
  have:=(List.getElem?_eq_some_iff.mp hi).1
  unfold jf at this
  rwa [List.length_map,List.length_range] at this
 have hp:p=(((z-1-i:Nat):Int),AV.int (r.getD i 0:Nat)):=by
  unfold jf at hi
  rw[List.getElem?_map,List.getElem?_range hil] at hi
  exact(oI hi).symm
 have ht:i<ts.reverse.length:=by rw[List.length_reverse,htl];exact hil
 refine⟨ts.reverse[i],by rw[List.getElem?_map,gE ht];rfl,?_⟩
 have:=pH (nj z r) ts i ts.reverse[i] (gE ht)
 unfold nj at this
 rw[show(z:Int)-1-(0+(i:Int)*1)=((z-1-i:Nat):Int) by exact Or.elim (Nat.le_total (z-1) i) (λz2=>iA (L2 [] [_,_,_,_] 4058070029308880050943626288 4161 2956998695 59520039 rfl (sC z 1 (L2 [] [_,_,_] 721925 8321 11461 12502 rfl hr hil)) (sC (z-1) i (L3 [] [_,_,_,_] 12469 270465 14549 13494 3762303015 rfl hr hil (sC z 1 (L2 [] [_,_,_] 721925 8321 11461 12502 rfl hr hil))))) (L2 [] [_,_,_,_] 4057237692049223505154354288 8321 3225434151 59583527 rfl (sC z 1 (L2 [] [_,_,_] 721925 8321 11461 12502 rfl hr hil)) (sC (z-1) i (L3 [] [_,_,_,_] 12469 270465 14549 13494 3762303015 rfl hr hil (sC z 1 (L2 [] [_,_,_] 721925 8321 11461 12502 rfl hr hil)))))) (λz2=>iA (L2 [] [_,_,_,_] 4058070029308880050943626288 4161 2956998695 59520039 rfl (sC z 1 (L2 [] [_,_,_] 721925 8321 11461 12502 rfl hr hil)) (sC (z-1) i (L1 [] [_,_] 12469 129 12469 rfl z2))) (L2 [] [_,_,_,_] 4057237692049223505154354288 8321 3225434151 59583527 rfl (sC z 1 (L2 [] [_,_,_] 721925 8321 11461 12502 rfl hr hil)) (sC (z-1) i (L1 [] [_,_] 12469 129 12469 rfl z2))))] at this
 rw[hp];exact this
inductive LpA (log:Nat) (fi:Int) (cs:List Int) (ys:Vs) (g0 g1 g2 g3 g4 g6:Led):Nat→Vs→Vs→Gs→Prop
 | mk (k:Nat) (o:Addr) (ls:List AV) (sv:Option AV):ls=nL (dz cs k)→LpA log fi cs ys g0 g1 g2 g3 g4 g6 k [some (.int log),some (.int fi),some (.ref o),sv,none,none] ys [g0,g1,g2,g3,g4,[(o,.list ls)],g6]
inductive LpB (log z f:Nat) (fi:Int) (cs:List Int) (o d:Addr) (sv:Option AV) (ys:Vs) (g0 g1 g2 g3 g5 g6:Led):Nat→Vs→Vs→Gs→Prop
  | mk (q j:Nat) (pl at':Int) (kvs:List (Int×AV)):q=z-j→j≤z→(vis z f j).length≤f→Filled z f cs j kvs→pl=(fY z j:Nat)→at'=((vis z f j).length:Nat)→
    LpB log z f fi cs o d sv ys g0 g1 g2 g3 g5 g6 q [some (.int log),some (.int fi),some (.ref o),sv,some (.int pl),some (.int at')] ys [g0,g1,g2,g3,[(d,.dict kvs)],g5,g6]
inductive LpC (log z f:Nat) (fi:Int) (cs:List Int) (o d:Addr) (sv:Option AV) (g0 g1 g2 g3 g5 g6:Led) (j:Nat) (pl:Int) (ys:Vs):Vs→Vs→Gs→Prop
  | mk (at':Int) (kvs:List (Int×AV)):(vis z f (j+1)).length≤f→Filled z f cs (j+1) kvs→at'=((vis z f (j+1)).length:Nat)→
    LpC log z f fi cs o d sv g0 g1 g2 g3 g5 g6 j pl ys [some (.int log),some (.int fi),some (.ref o),sv,some (.int pl),some (.int at')] ys [g0,g1,g2,g3,[(d,.dict kvs)],g5,g6]
theorem CX (w:World)(b:Bool)(base:Heap)(S:Addr)(cs:List Int)(log:Nat)(hl:log=5∨log=6)(hS:bW w base S (.list (iL cs)))(hd:Drawn (2^log) cs.length cs) :
    FX w b 4 483 base [.ref S,.int log] [] (λ_:Addr=>True) (λr=>.ref r) (λr=>[[(r,.list (nL (dR (2^log) cs)))]]) bN:=by
  obtain⟨z,hz⟩:∃ z,z=2^log:=⟨_,rfl⟩
  have hz2:z=32∨z=64:=by rcases hl with rfl|rfl<;>rw[hz]<;>decide
  have bM:log≤60:=by rcases hl with rfl|rfl<;>decide
  rw[←hz] at hd⊢
  have fH:cs.length≤7:=hd.hi
  have hil:=gG cs
  have sp:=hd.yC hz2
  obtain⟨f,hf⟩:∃ f,f=fK z cs:=⟨_,rfl⟩
  rw[←hf] at sp
  have hfe:=sp.Rk
  have hfl:=sp.Rj
  have vZ:=sp.rlen
  obtain⟨r,hr⟩:∃ r,r=aW cs:=⟨_,rfl⟩
  have qL:=Filled.start sp
  rw[←hr] at hfe vZ qL
  have hrl:(nL r).length=r.length:=aM r
  have hol:(nL (cR cs)).length=f:=(aM _).trans sp.Ig
  refine FX.GK ["counts","log"] ["free","order","symbol","place","at"] ["log","free","order","symbol","place","at"] ["found","rare","size","counts"] [some (.int log),none,none,none,none,none] [none,none,none,some (.ref S)] rfl rfl rfl (λ_ _=>rfl) (by decide +kernel) rfl (λ_=>rfl) (λ_=>rfl) ?_
  rintro q hk ow rfl-rfl-hR L hca -
  refine iT hk bM (jL (y:=(z:Nat)) (by rw[hz]) ?_)
  refine G7 hk (H9 hk.hk rfl) rfl rfl ?_
  refine iB hk [("counts",L+1)] rfl (by decide +kernel) (by rw[hk.hc,hca];rfl) (λ_=>rfl) λK hK=>?_
  refine bC hk.nc (.b hS) (by exact L2 [] [_,_] 65536001205 8321 458949 12471 rfl fH hil) ?_
  refine eN hk.nc λrr=>?_
  refine tC (cnt:=cs.length) hk hK [3] [some (.ref S)] (by rw[hca];rfl) rfl (λ_ _=>rfl) (aj 0 0 rfl) (small_one (by decide) (by decide) (by exact L0 [] [_] 859848489200905000509768768 1 rfl) (by exact L2 [] [_,_] 19342813113834066795375729 8321 458949 12471 rfl fH hil)) (by rw[bf,hil];rfl) (by exact L1 [] [_] 65536001205 129 458933 rfl fH) (λk=>nL (gM cs k)) (λk=>(k:Nat)) (λk _=>by exact iA (L0 [] [_] 50044392290910240 1 rfl) (L0 [] [_] 50033379701304432 1 rfl)) rfl ?_ ?_
  · rw[u6,←hr]
    refine λR=>aB hk ?_
    refine bC hk (aj 1 0 rfl) (by exact L2 [] [_,_] 65536001205 8321 458949 12471 rfl vZ hrl) ?_
    refine iB hk [("size",L+2),("rare",L+3)] rfl (by decide +kernel) (by rw[hk.hc,hca];rfl) (λ_=>rfl) λK hK=>?_
    refine bC hk.nc (aj 1 0 rfl) (by exact L2 [] [_,_] 65536001205 8321 458949 12471 rfl vZ hrl) ?_
    refine eN hk.nc λTQ=>?_
    refine V0 (cnt:=r.length) hk hK [2,1] [some (.int z),some (.ref R)] (by rw[hca];rfl) rfl (λ_ _=>rfl) (aj 2 0 rfl) (small_one (by decide) (by decide) (by exact L0 [] [_] 859848489200905000509768768 1 rfl) (by exact L2 [] [_,_] 19342813113834066795375729 8321 458949 12471 rfl vZ hrl)) (by rw[bf,hrl];rfl) (by exact L1 [] [_] 65536001205 129 458933 rfl vZ) (LpT R TQ z r _) ⟨[],rfl,rfl,rfl⟩ ?_ ?_
    · rintro as gs ⟨ts,htl,rfl,rfl⟩ D2
      refine aB hk ?_
      refine JD (ps:=jf z r r.length) hk (aj 3 0 rfl) (by unfold jf;rw[List.length_map,List.length_reverse,List.length_map,List.length_range,htl]) (by unfold jf;rw[List.length_map,List.length_range];exact L1 [] [_] 65536001205 129 458933 rfl vZ) (λi p hi=>?_) λd hd'=>?_
      · refine aD (λT h1 h2=>?_) (Jf (by exact Or.elim hz2 (λz2=>L2 [] [_,_] 12469 4225 458933 2097351 rfl vZ z2) (λz2=>L2 [] [_,_] 12469 4225 458933 4195527 rfl vZ z2)) htl i p hi)
        exact⟨T,h1,GF 2 (List.mem_append_left _ h2)⟩
      intro o0
      refine eO hk ow (λ_=>rfl) ?_
      refine bC hk (.b hS) (by exact L2 [] [_,_] 65536001205 8321 458949 12471 rfl fH hil) ?_
      refine eN hk λrr3=>?_
      refine d9 (cnt:=cs.length) hk (λ_ _=>rfl) (aj 6 0 rfl) (small_one (by decide) (by decide) (by exact L0 [] [_] 859848489200905000509768768 1 rfl) (by exact L2 [] [_,_] 19342813113834066795375729 8321 458949 12471 rfl fH hil)) (by rw[bf,hil];rfl) (LpA log _ cs _ _ _ _ _ _ _) (.mk 0 o0 _ none rfl) (λxs ys gs hI=>?_) (λk' hk2 xs ys gs hI J P hP=>?_)
      · obtain⟨o,ls,sv,els⟩:=hI
        rw[nC] at els
        subst els
        refine pO hk (WK rfl) (by decide) rfl rfl ?_
        refine iy hk ow (LpB log z f _ cs o d sv _ _ _ _ _ _ _) (z-0) (.mk _ 0 _ _ _ rfl (Nat.zero_le _) (Nat.zero_le _) qL (by rw[rH];rfl) rfl) ?_
        intro q2 xs ys gs hI P hP
        obtain⟨j,pl,at',kvs,hq,hj1,hj2,qL,hpl,hat⟩:=hI
        refine bC hk (aj 5 0 rfl) (by exact Or.elim hz2 (λz2=>L3 [] [_,_,_] 65536001205 532609 13509 12471 2097367 rfl hfl hol z2) (λz2=>L3 [] [_,_,_] 65536001205 532609 13509 12471 4195543 rfl hfl hol z2)) ?_
        refine aO (λhc=>?_) (λhc=>?_)
        · have m6:=sp.lt hj1 (by exact L3 [_] [_,_,_] 12470 528513 12503 728242 859313 rfl hol hat hc)
          refine Io hk (LpC log z f ((z:Int)-(nL r).length) cs o d sv [(rr,.range 0 (iL cs).length 1)] [(R,.list (nL r))] (jE (nj z r) ts++[(TQ,.range 0 (nL r).length 1)]) [(D2,.list (ts.reverse.map .ref))] [(o,.list (nL (cR cs)))] [(rr3,.range 0 (iL cs).length 1)] j pl [some (.ref d),some (.ref R),some (.int z),some (.ref S)]) (λP2 hP2=>?_) ?_
          · refine aO (λhc2=>?_) (λhc2=>?_)
            · have hv1:vis z f (j+1)=vis z f j++[fY z j]:=by rw[fQ,if_pos (by exact L5 [_] [_,_,_,_,_,_] 12470 1107562561 13511 15591 728242 242464787633 68105255 rfl hfe hrl hpl hc2 (sC z (r.length) (L3 [_] [_,_,_,_] 12469 528449 11479 924850 225268141233 rfl hrl hpl hc2)))]
              have hv2:(vis z f (j+1)).length=(vis z f j).length+1:=by rw[hv1,lA];rfl
              refine aU hk (λ_ _=>rfl) (aj 5 0 rfl) (by exact L1 [_] [_] 720896 65 728242 rfl hat) (by exact Or.elim hz2 (λz2=>L5 [_] [_,_,_,_,_] 604462909807314587354289 2181570689 12471 11479 859313 2097383 59715623 rfl hfe hol hc z2 (sC z (r.length) (L2 [] [_,_] 12469 4225 458933 2097351 rfl vZ z2))) (λz2=>L5 [_] [_,_,_,_,_] 604462909807314587354289 2181570689 12471 11479 859313 4195559 59715623 rfl hfe hol hc z2 (sC z (r.length) (L2 [] [_,_] 12469 4225 458933 4195527 rfl vZ z2)))) (by rw[hat];exact iw (by rw[sp.Ig];exact L3 [_] [_,_,_] 12470 528513 12503 728242 859313 rfl hol hat hc)) ?_
              refine M5 hk 4 0 rfl (by have:=qL.len;exact Or.elim hz2 (λz2=>L3 [] [_,_,_] 65536001205 1056897 13510 51185845 2097367 rfl m6 this z2) (λz2=>L3 [] [_,_,_] 65536001205 1056897 13510 51185845 4195543 rfl m6 this z2)) ?_
              exact hP2 [0,1,2,3,4,5,6] _ _ _ (.mk _ _ (by exact L4 [_] [_,_,_,_] 12469 34082945 12503 924850 859313 269355191 rfl hol hat hc hv2) (by rw[hpl];exact qL.put sp m6 (by exact L5 [_] [_,_,_,_,_,_] 12470 1107562561 13511 15591 728242 242464787633 68105255 rfl hfe hrl hpl hc2 (sC z (r.length) (L3 [_] [_,_,_,_] 12469 528449 11479 924850 225268141233 rfl hrl hpl hc2)))) (by exact iA (L2 [_] [_,_] 190861814816 4225 793778 269224119 rfl hat hv2) (L2 [_] [_,_] 17226148976 8257 793778 269224119 rfl hat hv2)))
            · have hv1:vis z f (j+1)=vis z f j:=by rw[fQ,if_neg (by exact Or.elim (Nat.le_total z (r.length)) (λz2=>L2 [] [_,_,_] 12473 8321 13511 215 rfl hfe (sZ z (r.length) (L1 [] [_,_] 12469 129 12469 rfl z2))) (λz2=>L5 [_] [_,_,_,_,_,_] 12473 2181570689 13511 15591 728242 242464787636 68105255 rfl hfe hrl hpl hc2 (sC z (r.length) (L1 [] [_,_] 12469 129 12469 rfl z2)))),aN]
              exact hP2 [0,1,2,3,4,5,6] _ _ _ (.mk _ _ (by rw[hv1];exact hj2) (qL.skip (by exact Or.elim (Nat.le_total z (r.length)) (λz2=>L2 [] [_,_,_] 12473 8321 13511 215 rfl hfe (sZ z (r.length) (L1 [] [_,_] 12469 129 12469 rfl z2))) (λz2=>L5 [_] [_,_,_,_,_,_] 12473 2181570689 13511 15591 728242 242464787636 68105255 rfl hfe hrl hpl hc2 (sC z (r.length) (L1 [] [_,_] 12469 129 12469 rfl z2))))) (by rw[hv1];exact hat))
          · rintro xs ys gs hI
            obtain⟨at',kvs,hj2,qL,hat⟩:=hI
            refine G3 hk (by exact λq=>L2 [] [_,_] 10 8320 12470 12402 rfl m6 q) ?_
            exact hP (z-(j+1)) [0,1,2,3,4,5,6] _ _ _ (.mk _ (j+1) _ _ _ rfl (by exact L1 [] [_,_] 3225431077 129 12470 rfl m6) hj2 qL (Jj hpl) hat) (by exact L3 [] [_,_,_,_,_] 12470 528449 13511 63845415 16509913148455 rfl hq (sC z j (L1 [] [_,_] 12469 129 12470 rfl m6)) (sC z (j+1) (L1 [] [_,_] 3225431077 129 12470 rfl m6)))
        · have hfin:=qL.done sp hj1 (by exact nA (L1 [] [_,_] 12469 129 12469 rfl hj2) (L3 [_] [_,_,_] 12469 532545 11479 793778 859316 rfl hol hat hc))
          have hsl:(dR z cs).length=z:=by unfold dR;rw[pZ]
          refine iB hk [("found",L+4)] rfl (by decide +kernel) (by rw[hk.hc,hca];rfl) (λ_=>rfl) λK hK=>?_
          refine eN hk.nc λrr4=>?_
          refine tC (cnt:=z) hk hK [0] [some (.ref d)] (by rw[hca];rfl) rfl (λ_ _=>rfl) (aj 7 0 rfl) (small_one (by decide) (by decide) (by exact L0 [] [_] 859848489200905000509768768 1 rfl) (by exact Or.elim hz2 (λz2=>L1 [] [_] 19342813113834066795375729 129 2097335 rfl z2) (λz2=>L1 [] [_] 19342813113834066795375729 129 4195511 rfl z2))) (by rw[bf];rfl) (by exact Or.elim hz2 (λz2=>L1 [] [_] 65536001205 129 2097335 rfl z2) (λz2=>L1 [] [_] 65536001205 129 4195511 rfl z2)) (λk=>nL ((dR z cs).take k)) (λk=>(k:Nat)) (λk _=>by exact iA (L0 [] [_] 50044392290910240 1 rfl) (L0 [] [_] 50033379701304432 1 rfl)) rfl ?_ ?_
          · rw[List.take_of_length_le (Nat.le_of_eq hsl)]
            refine λD=>aB hk ?_
            exact aq [8] (hR D trivial)
          · intro k' hk2 c' hc' hw hb ρ P hP
            refine M9 hc' (λ_ _=>rfl) (aj 4 0 rfl) (hfin k' hk2) ?_
            exact hP [_] [0,1,2,3,4,5,6,7,9] _ _ (by rw[cD,List.take_add_one,gD,gE (by rw[hsl];exact hk2)];rfl) rfl
      · obtain⟨o,ls,sv,els⟩:=hI
        refine dZ (λhtot _ hge hle=>?_) (uV hz2 hd sp hk2)
        refine iM (b:=.int (k':Nat)) (by congr 1;exact iA (L0 [] [_] 50044392290910240 1 rfl) (L0 [] [_] 50033379701304432 1 rfl)) ?_
        intro t1
        refine aU hk (λ_ _=>rfl) (.b hS) (by exact L0 [] [_] 46596096 1 rfl) (by exact L2 [] [_,_] 38685626227668133590674545 8321 458949 12470 rfl fH hk2) (Gx hk2) ?_
        refine Ra hk (aj 9 0 rfl) (by exact Or.elim (Int.le_total 0 (cs.getD k' 0)) (λz2=>L2 [_,_] [] 65536001200 8321 4195520 12466 rfl hle (Int.max_eq_right (a:=0) (b:=cs.getD k' 0) (L1 [_] [] 720896 129 720896 rfl z2))) (λz2=>L1 [_] [] 65536001200 129 178 rfl (Int.max_eq_left (a:=0) (b:=cs.getD k' 0) (L1 [_] [] 176 129 176 rfl z2)))) (by exact L1 [_] [] 13298184015760986457769024 129 720896 rfl (Int.le_max_left 0 (cs.getD k' 0))) λz2=>?_
        refine eY (ms:=nL (dz cs (k'+1))) hk (aj 5 0 rfl) (aj 10 0 rfl) (by rw[els,aM,List.length_replicate,sV];exact Xa hz2 hfl htot) (by rw[els,sV,Qt,mq,←jq]) λz3=>?_
        exact hP [0,1,2,3,4,11,6,7] _ _ _ _ (.mk (k'+1) z3 _ _ rfl) rfl
    · rintro k' hk2 as gs ⟨ts,htl,rfl,rfl⟩ hal c' hc' hw hb ρ P hP
      refine aU hc' (λ_ _=>rfl) (aj 1 0 rfl) (by exact L0 [] [_] 50033379701293056 1 rfl) (by exact L2 [] [_,_] 41538374868278621028326554558529569 8321 458949 12470 rfl vZ hk2) (by rw[show((0:Int)+(k':Int)*1)=((k':Nat):Int) by exact iA (L0 [] [_] 50044392290910240 1 rfl) (L0 [] [_] 50033379701304432 1 rfl)];exact iw hk2) ?_
      intro T
      refine hP [.ref T] [0,1,5,2,4] _ _ _ ⟨T::ts,by rw[List.length_cons,htl],by rw[List.reverse_cons,List.map_append];rfl,rfl⟩ ?_
      show(_++(_++([(T,AO.tuple _)]++((jE (nj z r) ts++_)++(ρ++[]))))).Perm ((_++(_++((((T,AO.tuple (nj z r ts.length))::jE (nj z r) ts)++_)++[])))++ρ)
      rw[htl]
      simp only[aN,aA,List.cons_append,List.nil_append]
      exact .refl _
  · intro k' hk2 c' hc' hw hb ρ P hP
    refine aU hc' (λ_ _=>rfl) (.b (by rw[hw,hb];exact hS)) (by exact L0 [] [_] 46596096 1 rfl) (by exact L2 [] [_,_] 38685626227668133590674545 8321 458949 12470 rfl fH hk2) (Gx hk2) ?_
    refine aO (λh1=>?_) (λh1=>?_)
    · exact hP [.int (k':Nat)] [0,2] _ _ (by rw[jV,if_pos h1,cD]) rfl
    · exact hP [] [0,2] _ _ (by rw[jV,if_neg h1,aN,aN]) rfl
section
variable{c:Cx}{nm:NM}{n n':Nat}{r:List It}{vs:bR}{xs ys:Vs}{gs:Gs}
theorem pQ{s:Stmt}{l:List Stmt}(hc:c.Ok n nm)(I:Vs→Vs→Gs→Prop)
    (h1:∀ P:au→Led→Prop,(∀ is xs' ys' gs',I xs' ys' (gets gs' is)→P (mk nm xs') (led c ys' gs'))→D c [.st s,.bot P] vs (mk nm xs) (led c ys gs))
    (h2:∀ xs ys gs,I xs ys gs→D c (.ss l::r) vs (mk nm xs) (led c ys gs)):D c (.ss (s::l)::r) vs (mk nm xs) (led c ys gs):=by
  have h:=h1 (λm σ=>∃ xs ys gs ρ,I xs ys gs∧m=mk nm xs∧σ.Perm (led c ys gs++ρ)) λis xs' ys' gs' h=>⟨xs',ys',_,flat (cuts gs' is),h,rfl,by
    unfold led
    rw[aA]
    exact(gR is gs').append_left _⟩
  have h':S1 c.w c.fx s (mk nm xs) (led c ys gs) (λm σ=>∃ xs ys gs ρ,I xs ys gs∧m=mk nm xs∧σ.Perm (led c ys gs++ρ)) (Out c) c.X:=h
  refine qt λs H=>aV (h' s H) (λf s' ⟨m',σ',H',q⟩=>?_) λ_ _ e=>e
  cases f with
  | next=>
    obtain⟨xs',ys',gs',ρ,hi,rfl,p⟩:=q
    exact⟨_,_,H'.eX p,h2 xs' ys' gs' hi⟩
  | ret v=>exact⟨m',σ',H',q⟩
  | brk=>exact q.elim
  | cont=>exact q.elim
theorem G4{x y:Int}{k k':Nat}{p p':Pos}{q:Bool}(hc:c.Ok n nm)(h:∀ v,v=x∨v=y→Go c nm r ([.int v]::vs) xs ys gs):D c (.Mp (.Constant (.int x) k p) (.Constant (.int y) k' p')::r) ([.bool q]::vs) (mk nm xs) (led c ys gs):=by
 cases q with
 | true=>exact Bb (aB hc (h x (.inl rfl)))
 | false=>exact Bb (aB hc (h y (.inr rfl)))
end
structure mR(n:Nat)(c:Nat→Nat)(kvs:List (Int×AV)):Prop where
 len:kvs.length≤n
 at':∀ s:Nat,look kvs s=if c s=0 then none else some (.int (c s:Nat))
theorem mR.getD{n c kvs} (h:mR n c kvs) (s:Nat):(look kvs s).getD (.int 0)=.int (c s:Nat):=by
 rw[h.at' s]
 by_cases q:c s=0
 ·rw[if_pos q,q];rfl
 ·rw[if_neg q];rfl
theorem mR.put{n c c' kvs} (h:mR n c kvs) {s v:Nat} (h1:c' s=v) (h2:v≠0) (h3:∀ r,r≠s→c' r=c r):mR (n+1) c' (put kvs s (.int (v:Nat))):=by
 refine⟨Nat.le_trans (vg _ _ _) (by have:=h.len;exact L1 [] [_,_] 70575443684389 129 12469 rfl this),λr=>?_⟩
 rw[oJ]
 by_cases q:s=r
 ·subst q;rw[if_pos rfl,h1,if_neg h2]
 ·rw[if_neg (by exact Sg q),h3 r (λe=>q e.symm),h.at' r]
theorem lH(l:List Nat){k:Nat}(h:k<l.length)(s:Nat):(l.take (k+1)).count s=(l.take k).count s+if l.getD k 0=s then 1 else 0:=by
 rw[List.take_add_one,gE h,List.count_append,gD,gE h]
 show _+List.count s [l[k]]=_+if l[k]=s then 1 else 0
 by_cases q:l[k]=s
 ·rw[if_pos q,q];simp
 ·rw[if_neg q,List.count_cons_of_ne q];rfl
inductive CeA (S d F:Addr) (t:Tab):Nat→Vs→Vs→Gs→Prop
 | mk (k:Nat) (sv:Option AV) (kvs:List (Int×AV)):mR k (λs=>(t.syms.take k).count s) kvs→CeA S d F t k [some (.ref S),some (.int t.log),some (.int t.z),some (.ref d),some (.ref F),sv,none,none] [] [[(d,.dict kvs)],[(F,.list [])]]
noncomputable def rZ(t:Tab)(i:Nat):List AV:=[.int (t.sy i:Nat),.int (t.wd i:Nat),.int (t.bs i:Nat)]
inductive CeB (S d F:Addr) (t:Tab):Nat→Vs→Vs→Gs→Prop
  | mk (k:Nat) (sv wv rv:Option AV) (kvs:List (Int×AV)) (ts:List Addr):mR (t.z+k) (λs=>t.syms.count s+(t.syms.take k).count s) kvs→ts.length=k→
    CeB S d F t k [some (.ref S),some (.int t.log),some (.int t.z),some (.ref d),some (.ref F),sv,wv,rv] [] [[(d,.dict kvs)],(F,.list (ts.reverse.map .ref))::jE (rZ t) ts]
inductive CeW (S d F:Addr) (t:Tab) (g0 g1 g2 g3:Led) (k:Nat):Nat→Vs→Vs→Gs→Prop
  | mk (q v:Nat):q=t.wd k-v→v≤t.wd k→(∀ j,j<v→t.rk k*2^j<t.z)→
    CeW S d F t g0 g1 g2 g3 k q [some (.ref S),some (.int t.log),some (.int t.z),some (.ref d),some (.ref F),some (.int (t.sy k:Nat)),some (.int (v:Nat)),some (.int (t.rk k:Nat))] [] [g0,g1,g2,g3]
theorem J2 (w:World)(b:Bool)(base:Heap)(S:Addr)(t:Tab)(g:t.good)(hS:bW w base S (.list (nL t.syms))) :
    FX w b 3 490 base [.ref S,.int t.log] [] (λi:Addr×Led=>cj (λa ao=>(a,ao)∈i.2) i.1 t) (λi=>.ref i.1) (λi=>[i.2]) bN:=by
  have hz2:=g.z
  have qK:=t.fX
  have QV:(nL t.syms).length=t.z:=(aM _).trans qK
  have bM:t.log≤60:=by rcases g.1 with h|h<;>(first|exact L1 [] [_] 3932341 129 327863 rfl h|exact L1 [] [_] 3932341 129 393399 rfl h)
  refine FX.go ["symbols","log"] ["size","seen","found","symbol","wide","rank"] rfl rfl rfl (λ_ _=>rfl) (by decide +kernel) ?_
  rintro q hk ow rfl-rfl-hR
  refine dH hk ["size","seen","found"] (by decide +kernel) (by decide) rfl ?_
  refine iT hk bM (jL (y:=(t.z:Nat)) rfl ?_)
  refine ZQ hk λd hd=>?_
  intro F
  refine eO hk ow (λ_=>rfl) ?_
  refine iK hk (λ_ _=>rfl) (.b hS) (CeA S d F t) (.mk 0 none [] ⟨nR _,λs=>rfl⟩) (λ_ _ _ _ _=>.b hS) (λxs ys gs hI=>?_) (λk' hk2 xs ys gs hI J P hP=>?_)
  · rw[QV] at hI
    obtain⟨sv,kvs,hs0⟩:=hI
    rw[show(λs=>(t.syms.take t.z).count s)=λs=>t.syms.count s+(t.syms.take 0).count s from funext λs=>by rw[←qK,List.take_length];rfl] at hs0
    refine eO hk ow (λ_=>rfl) ?_
    refine DW hk (λ_ _=>rfl) (.b hS) (CeB S d F t) (.mk 0 sv none none kvs [] hs0 rfl) (λ_ _ _ _ _=>.b hS) (λxs ys gs hI=>?_) (λk' hk2 xs ys gs hI J P hP=>?_)
    · rw[QV] at hI
      obtain⟨sv,wv,rv,kvs,ts,hs0,htl⟩:=hI
      have h:=hR (F,(F,.list (ts.reverse.map .ref))::jE (rZ t) ts) ⟨ts.reverse,.head _,by rw[List.length_reverse,htl],λi a h=>.tail _ (pH (rZ t) ts i a h)⟩
      exact aq [1] h
    · rw[QV] at hk2
      obtain⟨sv,wv,rv,kvs,ts,hs0,htl⟩:=hI
      refine uA (λhr1 hr2=>?_) (g.uY hk2)
      refine uA (λhw1 hw2=>?_) (g.wide hk2)
      have hrk:t.syms.count (t.sy k')+(t.syms.take k').count (t.sy k')=t.rk k':=rfl
      have nJ:=Tab.je g.ok hk2
      have hc:=λs=>lH t.syms (show k'<t.syms.length by exact L2 [] [_,_,_] 12470 8257 13511 13494 rfl qK hk2) s
      have rO:Builtin.Int.intBits (t.rk k':Nat)≤64:=PySem.intBits_le_64 (by exact L1 [] [_] 15855829836155273053633104617672599659926792257 129 721925 rfl hr1) (by exact Or.elim hz2 (λz2=>L2 [] [_,_] 77371252455336267181862001 16513 50468022 2097351 rfl hr2 z2) (λz2=>L2 [] [_,_] 77371252455336267181862001 16513 50468022 4195527 rfl hr2 z2))
      refine iM (b:=.int (t.sy k':Nat)) (jF _ _ (by exact L2 [] [_,_,_] 12470 8257 13511 13494 rfl qK hk2)) ?_
      refine dH hk ["wide","rank"] (by decide +kernel) (by decide) rfl ?_
      refine M9 (v:=.int (t.rk k':Nat)) hk (λ_ _=>rfl) (aj 0 0 rfl) (by rw[hs0.at',hrk,if_neg (by exact λq=>L2 [] [_] 10 8320 721925 183 rfl hr1 q)]) ?_
      refine iy hk ow (CeW S d F t _ _ _ _ k') (t.wd k'-0) (.mk _ 0 rfl (Nat.zero_le _) λj hj=>nomatch hj) ?_
      intro q2 xs ys gs hI P2 hP2
      obtain⟨v,hq,hv1,hv2⟩:=hI
      refine iT hk (by exact L2 [] [_,_] 3932341 8321 393413 12469 rfl nJ hv1) ?_
      refine Am hk (.of_left rO) ?_
      refine aO (λhc1=>?_) (λhc1=>?_)
      · have hne:v≠t.wd k':=λe=>by subst e;exact L2 [] [_,_,_] 10 8320 55323687 50803825 rfl hw1 hc1
        refine hP2 (t.wd k'-(v+1)) [0,1,2,3] _ _ _ (.mk _ (v+1) rfl (by exact Or.elim (Nat.lt_or_gt_of_ne hne) (λz2=>L1 [] [_,_] 3225431077 129 12470 rfl z2) (λz2=>L2 [] [_,_] 3225431077 8320 12469 11462 rfl hv1 z2)) λj hj=>?_) (by exact Or.elim (Nat.lt_or_gt_of_ne hne) (λz2=>L3 [] [_,_,_,_,_] 12470 528449 13511 63845415 16509913148455 rfl hq (sC (t.wd k') v (L1 [] [_,_] 12469 129 12469 rfl hv1)) (sC (t.wd k') (v+1) (L1 [] [_,_] 3225431077 129 12470 rfl z2))) (λz2=>L3 [] [_,_,_,_,_] 12470 528449 13511 63845415 16509913148455 rfl hq (sC (t.wd k') v (L2 [] [_,_] 12469 8320 12469 11462 rfl hv1 z2)) (sC (t.wd k') (v+1) (L2 [] [_,_] 3225431077 8320 12469 11462 rfl hv1 z2))))
        rcases Nat.lt_succ_iff_lt_or_eq.mp hj with q|rfl
        · exact hv2 j q
        · exact L1 [] [_,_] 12470 129 50801777 rfl hc1
      · have hvw:v=t.wd k':=(uJ (by exact L2 [] [_,_] 458933 8321 393413 12469 rfl nJ hv1) (by exact L1 [] [_,_] 12469 129 46608500 rfl hc1) hv2).symm
        subst hvw
        refine M5 hk 0 0 rfl (by have:=hs0.len;exact Or.elim hz2 (λz2=>L3 [] [_,_,_] 65536001205 1056897 13510 51185845 2097367 rfl hk2 this z2) (λz2=>L3 [] [_,_,_] 65536001205 1056897 13510 51185845 4195543 rfl hk2 this z2)) ?_
        refine kI hk 1 0 rfl ?_
        refine iT hk (by exact L1 [] [_] 3932341 129 393397 rfl nJ) ?_
        refine Am hk (.of_left rO) ?_
        intro T
        refine kJ hk 1 0 rfl (by rw[List.length_map,List.length_reverse];exact Or.elim hz2 (λz2=>L3 [] [_,_,_] 65536001205 532609 13510 12471 2097367 rfl hk2 htl z2) (λz2=>L3 [] [_,_,_] 65536001205 532609 13510 12471 4195543 rfl hk2 htl z2)) ?_
        have hbs:(((t.rk k'*2^t.wd k':Nat):Int)-(t.z:Nat))=((t.bs k':Nat):Int):=iA (L1 [] [_,_,_] 14417161559088 65 46937127 rfl hw1) (L1 [] [_,_,_] 14417161038960 129 51194919 rfl hw1)
        refine hP [0,4,1,2] _ _ _ _ (.mk (k'+1) _ _ _ _ (T::ts) (hs0.put (s:=t.sy k') (v:=t.rk k'+1) ?_ (by exact λq=>L2 [] [_] 10 8320 721925 4205607 rfl hr1 q) (λr hr=>?_)) (by rw[List.length_cons,htl])) ?_
        · show t.syms.count (t.sy k')+(t.syms.take (k'+1)).count (t.sy k')=_
          rw[hc,if_pos (show t.syms.getD k' 0=t.sy k' from rfl)];exact id (nA (L1 [] [_,_,_] 289147386079620133 129 55323687 rfl hrk) (L1 [] [_,_,_] 289147575548783653 65 47001639 rfl hrk))
        · show t.syms.count r+(t.syms.take (k'+1)).count r=t.syms.count r+(t.syms.take k').count r
          rw[hc,if_neg (λe=>hr e.symm)];rfl
        · show(_++([(T,AO.tuple [.int (t.sy k':Nat),.int (t.wd k':Nat),.int (((t.rk k'*2^t.wd k':Nat):Int)-(t.z:Nat))])]++(((F,_)::jE (rZ t) ts)++([(J,_)]++[])))).Perm ((_++(((F,AO.list ((T::ts).reverse.map .ref))::(T,AO.tuple (rZ t ts.length))::jE (rZ t) ts)++[]))++[(J,_)])
          rw[hbs,List.reverse_cons,List.map_append,htl]
          simp only[aN,aA,List.cons_append,List.nil_append]
          exact(List.Perm.swap _ _ _).append_left _
  · rw[QV] at hk2
    obtain⟨sv,kvs,hs0⟩:=hI
    have hc:=λs=>lH t.syms (show k'<t.syms.length by exact L2 [] [_,_,_] 12470 8257 13511 13494 rfl qK hk2) s
    refine iM (b:=.int (t.sy k':Nat)) (jF _ _ (by exact L2 [] [_,_,_] 12470 8257 13511 13494 rfl qK hk2)) ?_
    refine VG hk (aj 0 0 rfl) ?_
    refine Rd hk (aj 0 0 rfl) hd (iM (hs0.getD _) ?_)
    refine M5 hk 0 0 rfl (by have:=hs0.len;exact Or.elim hz2 (λz2=>L3 [] [_,_,_] 65536001205 532609 13510 12469 2097367 rfl hk2 this z2) (λz2=>L3 [] [_,_,_] 65536001205 532609 13510 12469 4195543 rfl hk2 this z2)) ?_
    refine hP [0,1,2] _ _ _ _ (.mk (k'+1) _ _ (hs0.put (s:=t.sy k') (v:=(t.syms.take k').count (t.sy k')+1) (c':=λs=>(t.syms.take (k'+1)).count s) ?_ (by exact λq=>L1 [] [_] 10 128 4205607 rfl q) (λr hr=>?_))) rfl
    · show(t.syms.take (k'+1)).count _=_
      rw[hc,if_pos (show t.syms.getD k' 0=t.sy k' from rfl)]
    · show(t.syms.take (k'+1)).count _=(t.syms.take k').count _
      rw[hc,if_neg (λe=>hr e.symm)];rfl
noncomputable def eE:List Addr→Nat→(Nat→List Nat)→Led
 | [],_,_=>[]
 | a::r,i,g=>(a,.list (nL (g i)))::eE r (i+1) g
theorem pI{g:Nat→List Nat}{a:Addr}:∀ (sts:List Addr) (i s:Nat),sts[s]?=some a→(eE sts i g)[s]?=some (a,.list (nL (g (i+s))))
  | b::r,i,0,h=>by cases (oI h:b=a);rfl
  | b::r,i,s+1,h=>by
    have:=pI (g:=g) r (i+1) s h
    rw[Nat.add_right_comm] at this
    exact this
theorem sX{g g':Nat→List Nat}:∀ (l:List Addr) (k:Nat),(∀ j,k≤j→g' j=g j)→eE l k g=eE l k g'
  | [],_,_=>rfl
  | b::l,k,h=>by
    unfold eE
    rw[h k (nR k),sX l (k+1) λj hj=>h j (Nat.le_of_succ_le hj)]
theorem uT{g g':Nat→List Nat}:∀ (sts:List Addr) (i s:Nat),s<sts.length→(∀ j,j≠i+s→g' j=g j)→Jq (eE sts i g) s (.list (nL (g' (i+s))))=eE sts i g'
  | b::l,i,0,h,hg=>by
    show(b,AO.list (nL (g' i)))::eE l (i+1) g=(b,AO.list (nL (g' i)))::eE l (i+1) g'
    rw[sX l (i+1) λj hj=>hg j (by exact λq=>L2 [] [_,_] 10 8320 3225431077 723143 rfl hj q)]
  | b::l,i,s+1,h,hg=>by
    have:=uT (g:=g) (g':=g') l (i+1) s (Nat.lt_of_succ_lt_succ h) λj hj=>hg j (by exact λq=>Or.elim (Nat.lt_or_gt_of_ne hj) (λz2=>L2 [] [_,_,_] 10 8256 1103010465975 14310881495222 rfl q z2) (λz2=>L2 [] [_,_,_] 10 8320 1103010465975 12318235428902 rfl q z2))
    rw[Nat.add_right_comm] at this
    show(b,AO.list (nL (g i)))::Jq (eE l (i+1) g) s _=(b,AO.list (nL (g' i)))::eE l (i+1) g'
    rw[hg i (by exact λq=>L1 [] [_,_] 10 64 1102741964983 rfl q)]
    exact congrArg _ this
theorem sW:∀ (sts:List Addr) (i:Nat) (g:Nat→List Nat) (a:Addr),eE (sts++[a]) i g=eE sts i g++[(a,.list (nL (g (i+sts.length))))]
  | [],i,g,a=>rfl
  | b::l,i,g,a=>by
    show _::eE (l++[a]) (i+1) g=_::(eE l (i+1) g++_)
    rw[sW l (i+1) g a,List.length_cons,Nat.add_right_comm,Nat.add_assoc]
theorem Tab.good.Oj{t:Tab}(g:t.good){i:Nat}(h:i<t.z):((t.log:Int)-((Builtin.Int.intBits ((t.rk i:Nat):Int):Int)-1))=((t.wd i:Nat):Int):=by
 have hrk:=g.uY h
 have hwl:=g.Pn h
 have:Builtin.Int.intBits ((t.rk i:Nat):Int)=Nat.log2 (t.rk i)+1:=by
  unfold Builtin.Int.intBits
  rw[if_neg (by simp;exact λq=>L2 [] [_] 10 8320 721925 183 rfl hrk.1 q)]
  rfl
 rw[this];exact iA (L1 [] [_,_,_] 990534821042811812125744 65 46937127 rfl hwl) (L1 [] [_,_,_] 75576369165272048938096 129 51194919 rfl hwl)
theorem Tab.good.Om{t:Tab}(g:t.good){i:Nat}(h:i<t.z):((t.rk i:Nat):Int)*2^((t.wd i:Nat):Int).toNat-(t.z:Int)=((t.bs i:Nat):Int):=by
 have:=(g.wide h).1
 rw[Int.toNat_natCast,eV,←Int.natCast_mul];exact iA (L1 [] [_,_,_] 14417161559088 65 46937127 rfl this) (L1 [] [_,_,_] 14417161038960 129 51194919 rfl this)
theorem Ls(f:Nat→Nat)(k:Nat):nL ((List.range k).map f)++[.int ((f k:Nat):Int)]=nL ((List.range (k+1)).map f):=by
 rw[cD,List.range_succ,List.map_append];rfl
inductive TiI (x d S ys yc yb ya tu D:Addr) (ads:List Addr) (t:Tab):Nat→Vs→Vs→Gs→Prop
  | mk (k:Nat) (v1 v2 v3 v4:Option AV) (lb la lt:List AV) (G:Led):lb=nL ((List.range k).map t.wd)→la=nL ((List.range k).map t.bs)→lt=nL (t.fW k)→G=eE ads 0 (t.jW k)→
    TiI x d S ys yc yb ya tu D ads t k [some (.ref x),some (.ref S),some (.int t.log),some (.ref tu),v1,v2,v3,v4] []
      [[(x,.inst 320 d),(d,.ns (FT ys yc yb ya D t.log t.z))],[(ys,.list (nL t.syms))],[(yc,.list (iL t.cs))],[(yb,.list lb)],(ya,.list la)::G,[(D,.list (ads.map .ref))],[(tu,.list lt)]]
noncomputable abbrev TiC(ya:Addr)(t:Tab)(g0 g1 g2 g3:Led)(k:Nat)(as:List AV)(gs:Gs):Prop:=∃ ads:List Addr,ads.length=k∧as=ads.map .ref∧gs=[g0,g1,g2,g3,(ya,.list [])::eE ads 0 (t.jW 0)]
theorem Jc (w:World)(b:Bool)(base:Heap)(x d S:Addr)(t:Tab)(g:t.good)(hS:bW w base S (.list (iL t.cs))) :
    FX w b 5 296 base [.ref x,.ref S,.int t.log] [[(x,.inst 320 d),(d,.ns [])]] (λμ:Led=>bL (λa ao=>(a,ao)∈μ) x t) (λ_=>.none) (λμ=>[μ]) bN:=by
  have hil:=gG t.cs
  have fH:t.cs.length≤7:=g.2.hi
  have hz:=(Tab.kZ g.ok).1
  have bM:t.log≤6:=by rcases g.1 with h|h<;>(first|exact L1 [] [_] 393397 129 327863 rfl h|exact L1 [] [_] 393397 129 393399 rfl h)
  have e1:(1*2^((t.log:Nat):Int).toNat:Int)=((t.z:Nat):Int):=by rw[Int.toNat_natCast,Int.one_mul,eV];rfl
  refine FX.go ["self","counts","log"] ["turns","state","symbol","turn","bits"] rfl rfl rfl (λ_ _ _=>rfl) (by decide +kernel) ?_
  rintro k hk ow rfl-rfl-hR
  refine bD (g':=λr=>[[(r,.list (nL t.syms))]]) hk [] (by decide) (λbase' aK=>FW k.w _ base' S t.cs t.log g.1 (hS.keeps aK.keep) g.2) aX (λ_=>Nat.zero_le _) λys _=>?_
  refine d8 hk 0 rfl rfl (by kernel_rfl) rfl ?_
  refine pO hk (lR rfl) (by decide) rfl rfl ?_
  refine Ao hk (.b hS) (by exact L2 [] [_,_] 65536001205 8321 12471 458949 rfl hil fH) λyc=>?_
  refine kE hk (by exact L0 [] [_] 46596096 1 rfl) (by exact L1 [] [_] 4194304076912 129 393397 rfl bM) (by decide) (jL e1 ?_)
  refine d8 hk 0 rfl rfl (by kernel_rfl) rfl ?_
  refine d8 hk 0 rfl rfl (by kernel_rfl) rfl ?_
  refine d8 hk 0 rfl rfl (by kernel_rfl) rfl ?_
  refine pO hk (lR rfl) (by decide) rfl rfl ?_
  intro yb ya
  refine d8 hk 0 rfl rfl (by kernel_rfl) rfl ?_
  refine d8 hk 0 rfl rfl (by kernel_rfl) rfl ?_
  refine G7 hk rfl rfl rfl ?_
  refine iB hk [] rfl (by decide +kernel) rfl (λ_=>rfl) λK hK=>?_
  refine V2 hk hK [] [] rfl rfl (λ_ _=>rfl) (.b hS) (by exact L2 [] [_,_] 65536001205 8321 12471 458949 rfl hil fH) (TiC ya t _ _ _ _) ⟨[],rfl,rfl,rfl⟩ (λ_ _ _ _=>.b hS) ?_ ?_
  · rintro as gs ⟨ads,Dz,rfl,rfl⟩ D
    refine aB hk ?_
    refine d8 hk 0 rfl rfl (by kernel_rfl) rfl ?_
    refine Ir hk [] rfl rfl rfl (by decide +kernel) rfl (λ_=>rfl) λK hK=>?_
    refine Ni hk hK [] [] rfl rfl (λ_ _=>rfl) (.b hS) (by exact L2 [] [_,_] 65536001205 8321 12471 458949 rfl hil fH) (λk=>iL ((t.cs.take k).map ig)) (λk=>.int (t.cs.getD k 0)) (λk h=>qI h) rfl ?_ ?_
    · intro tu
      refine aB hk ?_
      refine eO hk ow (λ_=>rfl) ?_
      refine bY hk 0 rfl rfl (by kernel_rfl) rfl rfl ?_
      refine pR hk (aj 1 0 rfl) rfl (TiI x d S ys yc yb ya tu D ads t) (.mk 0 none none none none _ _ _ _ rfl rfl (by rw[hil,List.take_length,g.PL];rfl) rfl) (λk xs ys gs hI=>by cases hI;exact aj 1 0 rfl) (λxs ys gs hI=>?_) (λk' hk2 xs ys gs hI e it T P hP=>?_)
      · rw[aM,Tab.fX] at hI
        obtain⟨v1,v2,v3,v4,lb,la,lt,G,rfl,rfl,rfl,rfl⟩:=hI
        have h:=hR (flat [[(x,.inst 320 d),(d,.ns (FT ys yc yb ya D t.log t.z))],[(ys,.list (nL t.syms))],[(yc,.list (iL t.cs))],[(yb,.list _)],(ya,.list _)::_,[(D,.list (ads.map .ref))]]) ⟨d,ys,yc,yb,ya,D,ads,.head _,.tail _ (.head _),.tail _ (.tail _ (.head _)),.tail _ (.tail _ (.tail _ (.head _))),.tail _ (.tail _ (.tail _ (.tail _ (.head _)))),.tail _ (.tail _ (.tail _ (.tail _ (.tail _ (.head _))))),List.mem_append_right [_,_,_,_,_] (List.mem_append_right (_::_) (.head _)),Dz.trans hil,λs a e=>by
          have:=List.mem_of_getElem? (pI (g:=t.jW t.z) ads 0 s e)
          rw[Nat.zero_add] at this
          exact .tail _ (.tail _ (.tail _ (.tail _ (.tail _ (.tail _ (List.mem_append_left _ this))))))⟩
        rw[show ∀ μ:Led,flat [μ]=μ from λμ=>aN μ] at h
        exact aq [0,1,2,3,4,5] h
      · rw[aM,Tab.fX] at hk2
        obtain⟨v1,v2,v3,v4,lb,la,lt,G,eb,ea,et,eG⟩:=hI
        have Af:=g.Tw hk2
        have hrk:=g.uY hk2
        have nJ:=Tab.je g.ok hk2
        have rO:=g.Oj hk2
        have hbase:=g.Om hk2
        have hlb:lb.length=k':=by rw[eb,aM,List.length_map,List.length_range]
        have hla:la.length=k':=by rw[ea,aM,List.length_map,List.length_range]
        have hlt:lt.length=t.cs.length:=by rw[et,aM,t.m8]
        have hown:=List.length_filter_le (λi=>t.sy i == t.sy k') (List.range k')
        rw[List.length_range] at hown
        have hlo:(nL (t.jW k' (t.sy k'))).length≤k':=by rw[aM];exact hown
        obtain⟨ad,had⟩:∃ ad,ads[t.sy k']?=some ad:=⟨_,gE (by exact L3 [] [_,_,_,_] 12470 528449 14551 13511 14518 rfl hil Dz Af)⟩
        have hG:=pI (g:=t.jW k') ads 0 (t.sy k') had
        rw[Nat.zero_add,←eG] at hG
        refine Av (b':=.int (t.sy k':Nat)) (jF _ _ (by rw[t.fX];exact hk2)) ?_
        refine aU (b:=.int (t.rk k':Nat)) hk (λ_ _=>rfl) (aj 6 0 rfl) (by exact L0 [] [_] 46596096 1 rfl) (by exact L2 [] [_,_] 38685626227668133590674545 8321 458949 12470 rfl fH Af) (by rw[et,←t.Fy Af];exact iw (by rw[t.m8];exact Af)) ?_
        refine wB hk 6 0 rfl (by exact L0 [] [_] 46596096 1 rfl) (by exact L2 [] [_,_] 38685626227668133590674545 8321 458949 12470 rfl fH Af) (by exact L3 [] [_,_,_,_] 12470 528513 14550 14535 54996082 rfl Af hlt (Int.toNat_of_nonneg (a:=↑(t.sy k')) (L0 [] [_] 46596096 1 rfl))) ?_
        refine aF hk [] (by decide) (λbase' _=>Ms k.w _ base' _) aX (Nat.zero_le _) ?_
        refine bY hk 0 rfl rfl (by kernel_rfl) rfl rfl ?_
        refine kI hk 3 0 rfl ?_
        refine kJ hk 3 0 rfl (by exact L3 [] [_,_,_] 65536001205 532609 4195525 12502 13495 rfl hz hk2 hlb) ?_
        refine bY hk 0 rfl rfl (by kernel_rfl) rfl rfl ?_
        refine kI hk 4 0 rfl ?_
        refine kE hk (by exact L1 [] [_,_,_] 289082552185192448 65 3778590664158813234 rfl rO) (by exact L1 [] [_,_] 288230380725888166337584 129 393397 rfl bM) (by exact Xo hz hrk) ?_
        refine bY hk 0 rfl rfl (by kernel_rfl) rfl rfl ?_
        refine kJ hk 4 0 rfl (by exact L3 [] [_,_,_] 65536001205 532609 4195525 12502 13495 rfl hz hk2 hla) ?_
        refine bY hk 0 rfl rfl (by kernel_rfl) rfl rfl ?_
        refine aU (b:=.ref ad) hk (λ_ _=>rfl) (aj 5 0 rfl) (by exact L0 [] [_] 46596096 1 rfl) (by exact L2 [] [_,_] 38685626227668133590674545 8321 458949 12470 rfl fH Af) (by rw[Int.toNat_natCast,List.getElem?_map,had];rfl) ?_
        refine kI hk 4 (t.sy k'+1) hG ?_
        refine kJ hk 4 (t.sy k'+1) hG (by exact L3 [] [_,_,_] 65536001205 532609 4195525 12502 13493 rfl hz hk2 hlo) ?_
        refine hP [0,1,2,3,4,5,6,7] _ _ _ _ (.mk (k'+1) _ _ _ _ _ _ _ _ (by rw[eb,rO];exact Ls t.wd k') (by rw[ea,rO,hbase];exact Ls t.bs k') (by rw[et,Int.toNat_natCast,←t.zO hk2 Af];exact z8 _ _ _) ?_) rfl
        rw[eG,cD,show t.jW k' (t.sy k')++[k']=t.jW (k'+1) (0+t.sy k') by rw[Tab.lX,if_pos (Nat.zero_add _).symm,Nat.zero_add]]
        exact uT ads 0 (t.sy k') (by exact L3 [] [_,_,_,_] 12470 528449 14551 13511 14518 rfl hil Dz Af) λj hj=>by rw[Tab.lX,if_neg (by exact λq=>Or.elim (Nat.lt_or_gt_of_ne hj) (λz2=>L2 [] [_,_] 10 8320 12471 2952792262 rfl q z2) (λz2=>L2 [] [_,_] 10 8256 12471 3267362854 rfl q z2))]
    · intro k' h c' hc' hw hb ρ P hP
      refine aF hc' [] (by decide) (λbase' _=>vp c'.w _ base' _) aX (Nat.zero_le _) ?_
      exact hP [.int (ig (t.cs.getD k' 0))] [0,1,2,3,4,5,7] _ _ (by rw[gG] at h;rw[uW ig t.cs k' 0 h];exact List.map_append) rfl
  · rintro k' hk2 as gs ⟨ads,Dz,rfl,rfl⟩ hal c' hc' hw hb ρ P hP na
    refine hP [.ref na] [0,1,2,3,4,7,6] _ _ _ ⟨ads++[na],by rw[lA,Dz];rfl,by rw[List.map_append];rfl,rfl⟩ ?_
    rw[sW]
    show(_++(_++(_++(_++(((ya,AO.list [])::eE ads 0 (t.jW 0))++([(na,AO.list [])]++(ρ++[]))))))).Perm ((_++(_++(_++(_++(((ya,AO.list [])::(eE ads 0 (t.jW 0)++[(na,AO.list [])]))++[])))))++ρ)
    simp only[aN,aA,List.cons_append]
    exact .refl _
theorem Gp(v c n:Nat)(h:v<2^c):aP v (c+n)=aP v c++List.replicate n 0:=by
  induction n with
  | zero=>simp
  | succ n ih=>
    have e:∀ k,aP v (k+1)=aP v k++[v/2^k%2]:=λk=>by unfold aP;rw[List.range_succ,List.map_append];rfl
    have h2:2^c≤2^(c+n):=Nat.pow_le_pow_right (by decide) (by exact L0 [] [_,_] 51054773 1 rfl)
    rw[←Nat.add_assoc,e,ih,Nat.div_eq_of_lt (by exact L2 [] [_,_,_] 12470 8321 13494 12501 rfl h h2),List.replicate_succ',aA]
theorem q9:∀ (n:Nat) (D:List Nat),D.length≤n→cQ D→∃ m,m<8∧aG (allB D)=D++List.replicate m 0
  | 0,D,h,_=>by
    have:D=[]:=List.length_eq_zero_iff.mp (by exact nA (L1 [] [_] 181 129 181 rfl h) (L0 [] [_] 720901 1 rfl))
    rw[this,jB];exact⟨0,by decide,rfl⟩
  | n + 1,D,h,hb=>by
    by_cases q:D=[]
    · rw[q,jB];exact⟨0,by decide,rfl⟩
    have hpos:0<D.length:=List.length_pos_iff.mpr q
    rw[mO q,gj]
    refine aD (λm hm e=>?_) (q9 n (D.drop 8) (by rw[List.length_drop];exact Or.elim (Nat.le_total (D.length) 8) (λz2=>L1 [] [_,_] 12469 129 183 rfl (sZ (D.length) 8 (L1 [] [_] 524469 129 524469 rfl z2))) (λz2=>L2 [] [_,_,_] 12469 8321 269224149 3523226663 rfl h (sC (D.length) 8 (L1 [] [_] 729093 129 729093 rfl z2)))) (hb.drop 8))
    rw[e]
    by_cases h8:8≤D.length
    · have hl:(D.take 8).length=8:=by rw[lT];exact nA (L1 [] [_] 524469 129 524471 rfl (Nat.min_eq_left (a:=8) (b:=D.length) (L1 [] [_] 729093 129 729093 rfl h8))) (L1 [] [_] 729093 65 524471 rfl (Nat.min_eq_left (a:=8) (b:=D.length) (L1 [] [_] 729093 129 729093 rfl h8)))
      have e2:=qH (D.take 8) (hb.take 8)
      rw[hl] at e2
      rw[e2,←aA,List.take_append_drop]
      exact⟨m,hm,rfl⟩
    · have ed:D.drop 8=[]:=List.drop_eq_nil_of_le (by exact L1 [] [_] 524469 129 729096 rfl h8)
      have et:D.take 8=D:=List.take_of_length_le (by exact L1 [] [_] 524469 129 729096 rfl h8)
      have e2:=qH D hb
      have e3:=Gp (dv D) D.length (8-D.length) (kW hb)
      rw[show D.length+(8-D.length)=8 by exact nA (L1 [] [_,_] 2148281381 129 2148216871 rfl (sC 8 (D.length) (L1 [] [_] 524469 129 729096 rfl h8))) (L1 [] [_,_] 3267502085 65 2148216871 rfl (sC 8 (D.length) (L1 [] [_] 524469 129 729096 rfl h8))),e2] at e3
      rw[ed] at e⊢
      have hm0:m=0:=by
        rw[jB] at e
        have:=congrArg List.length e
        simpa [aG] using this.symm
      rw[et,e3,hm0]
      exact⟨8-D.length,by exact L2 [] [_,_] 524470 8321 786438 2148281383 rfl hpos (sC 8 (D.length) (L1 [] [_] 524469 129 729096 rfl h8)),by simp⟩
theorem z9{o:List Nat}{p q:Nat}(a:Mark o p)(b:Mark o q):p=q:=by
 rcases Nat.lt_trichotomy p q with h|h|h
 ·have h1:=a.zero q h b.le;have h2:=b.one;exact nA (L2 [] [_,_,_] 12469 4224 215 65751 rfl h1 h2) (L2 [] [_,_,_] 12469 4224 215 65751 rfl h1 h2)
 ·exact h
 ·have h1:=b.zero p h a.le;have h2:=a.one;exact nA (L2 [] [_,_,_] 12469 4224 215 65751 rfl h1 h2) (L2 [] [_,_,_] 12469 4224 215 65751 rfl h1 h2)
theorem Aa{o:List Nat}{p:Nat}(hl:∀ x∈o,x<256)(m:Mark o p)(hp:8*o.length≤p+8):startP o=some p:=by
 have hne:startP o≠none:=by
  have hle:=m.le
  have hpos:0<o.length:=L1 [] [_,_] 720902 136 46666950 rfl hle
  have mD:o.getLastD 0=o.getD (o.length-1) 0:=by
   cases o with
   | nil=>rfl
   | cons a l=>rw[List.getLastD_eq_getLast?,List.getLast?_eq_getElem?,gD]
  unfold startP
  split
  ·rename_i h0
   have h1:=m.one
   rw[p8 o m.le,show p/8=o.length-1 by exact nA (L3 [] [_,_,_,_,_] 12469 3940488 59249878 227411498023 3762303015 rfl hle (Nat.div_add_mod p 8) (sC (o.length) 1 (L1 [] [_] 721925 129 720902 rfl hpos))) (L4 [] [_,_,_,_,_] 12469 268963976 8799860367445 244595561511 524534 3493866535 rfl hp (Nat.div_add_mod p 8) (Nat.mod_lt p (y:=8) (by decide)) (sC (o.length) 1 (L1 [] [_] 721925 129 720902 rfl hpos))),←mD,h0] at h1
   simp at h1
  ·simp
 refine uE (λq hq=>?_) (Option.ne_none_iff_exists'.mp hne)
 rw[hq,z9 m (jm hl hq)]
structure Oz(o L:List Nat):Prop where
 start:startP o=some L.length
 bits:(aG o).take L.length=L
theorem wrote{L:List Nat}(h:cQ L):Oz (allB (L++[1])) L:=by
 have hb:cQ (L++[1]):=h.append λd hd=>by rw[List.mem_singleton.mp hd];decide
 refine aD (λm hm e=>?_) (q9 _ (L++[1]) (nR _) hb)
 have hl:=congrArg List.length e
 rw[cX,lA,lA,List.length_replicate,List.length_singleton] at hl
 refine⟨Aa (n7 _ hb) ⟨by exact Yw hl,?_,λi h1 h2=>?_⟩ (by exact L2 [] [_,_,_] 8799323365461 8321 524502 58617370604413015 rfl hm hl),?_⟩
 ·rw[e,aA,gD,List.getElem?_append_right (nR _),Nat.sub_self];rfl
 ·rw[e,aA,gD,List.getElem?_append_right (by exact L1 [] [_,_] 12469 129 12470 rfl h1)]
  rw[List.getElem?_append_right (by simp;exact L2 [] [_,_,_] 721925 4225 13510 55323687 rfl h1 (sC i (L.length) (L1 [] [_,_] 12469 129 12470 rfl h1))),List.getElem?_replicate]
  split<;>rfl
 ·rw[e,aA,List.take_left'];rfl
theorem zJ{o L:List Nat}(hl:∀ x∈o,x<256)(w:Oz o L):startP (1::o)=some (8+L.length)∧((aG (1::o)).drop 8).take L.length=L:=by
 have hs:=w.start
 refine⟨?_,by rw[gj,List.drop_left' (aL 1 8)];exact w.bits⟩
 have hne:o≠[]:=λq=>by rw[q] at hs;simp[startP] at hs
 have hpos:0<o.length:=List.length_pos_iff.mpr hne
 have mD:(1::o).getLastD 0=o.getLastD 0:=by
  cases o with
  | nil=>exact absurd rfl hne
  | cons a l=>rfl
 unfold startP at hs⊢
 rw[mD,List.length_cons]
 split at hs
 ·cases hs
 ·rename_i h0
  rw[if_neg h0]
  have:=oI hs
  congr 1;exact nA (L3 [] [_,_,_,_,_] 59109782736868389 4255873 226618774567 4030740519 70626983291943 rfl this (sC (o.length) 1 (L1 [] [_] 721925 129 720902 rfl hpos)) (sC (o.length+1) 1 (L1 [] [_] 17226138629 129 720902 rfl hpos))) (L3 [] [_,_,_,_,_] 59400102661849125 3997761 192527471655 4030740519 70626983292967 rfl this (sC (o.length) 1 (L1 [] [_] 721925 129 720902 rfl hpos)) (sC (o.length+1) 1 (L1 [] [_] 17226138629 129 720902 rfl hpos)))
theorem u5{o A B:List Nat}{v c e:Nat}(h:((aG o).drop e).take (A.length+c)=A++aP v c)(hv:v<2^c):rd o (e+(A.length+c)) c=v:=by
 unfold rd
 have e1:((aG o).drop (e+(A.length+c)-c)).take c=aP v c:=by
  have h2:=congrArg (List.drop A.length) h
  rw[List.drop_left,List.drop_take,List.drop_drop,show A.length+c-A.length=c by exact nA (L1 [] [_,_,_] 12469 129 209657343015 rfl (sC (A.length+c) (A.length) (L0 [] [_,_] 51054773 1 rfl))) (L1 [] [_,_,_] 12469 65 192477474855 rfl (sC (A.length+c) (A.length) (L0 [] [_,_] 51054773 1 rfl)))] at h2
  rw[show e+(A.length+c)-c=e+A.length by exact nA (L1 [] [_,_,_,_] 55314613 129 999493659929639 rfl (sC (e+(A.length+c)) c (L0 [] [_,_,_] 192477399221 1 rfl))) (L1 [] [_,_,_,_] 55323685 65 998393879868455 rfl (sC (e+(A.length+c)) c (L0 [] [_,_,_] 192477399221 1 rfl)))];exact h2
 rw[e1,qX,Nat.mod_eq_of_lt hv]
namespace Tab
variable{t:Tab}
noncomputable def dJ(t:Tab)(z:Nat)(ys:List Nat):Nat×List Nat:=ys.foldr (λs q=>t.lF q s) (t.aZ z,[])
theorem qW(g:TabOk t){z:Nat}(hz:t.known z):∀ (ys:List Nat),(∀ s∈ys,t.known s)→(t.dJ z ys).1<t.z∧cQ (t.dJ z ys).2∧(t.dJ z ys).2.length≤6*ys.length
  | [],_=>⟨(g.least z hz).1,λ_ h=>by(cases h),nR _⟩
  | s::ys,h=>by
    refine gJ (λh1 h2 h3=>?_) (qW g hz ys λx hx=>h x (.tail _ hx))
    refine dZ (λa1 a2 a3 a4=>?_) (g.ahead s (h s (.head _)) _ h1)
    have:=Tab.je g a1
    refine⟨a1,h2.append (cF _ _),?_⟩
    show((t.dJ z ys).2++aP _ (t.wd (t.aQ s (t.dJ z ys).1))).length≤_
    rw[lA,aL,List.length_cons];exact id (L2 [] [_,_,_] 4517929270651941 8321 54924469 393413 rfl h3 this)
theorem qC(g:TabOk t){o:List Nat}{e z:Nat}(hz:t.known z):∀ (ys:List Nat),(∀ s∈ys,t.known s)→∀ (wide base p:Nat) (fd:List Nat),
    wide≤p→base+rd o p wide=(t.dJ z ys).1→p-wide=e+(t.dJ z ys).2.length→((aG o).drop e).take (t.dJ z ys).2.length=(t.dJ z ys).2→
    t.cu o (ys.length+1) wide base p fd=if e=0 then .ok (fd++ys++[z]) else .table
  | [],_,wide,base,p,fd,h1,h2,h3,h4=>by
    show(if p<wide then Res.cut else t.cu o 0 _ _ (p-wide) _)=_
    rw[if_neg (by exact Sy h1),h2]
    show(if p-wide=0 then Res.ok (fd++[t.sy (t.aZ z)]) else .table)=_
    have h5:p-wide=e:=h3
    rw[h5,(g.least z hz).2.1,aN]
  | s :: ys,hk,wide,base,p,fd,h1,h2,h3,h4=>by
    refine gJ (λhl hb _=>?_) (qW g hz ys λx hx=>hk x (.tail _ hx))
    refine dZ (λa1 a2 a3 a4=>?_) (g.ahead s (hk s (.head _)) _ hl)
    obtain⟨st,hst⟩:∃ st,st=t.aQ s (t.dJ z ys).1:=⟨_,rfl⟩
    have e1:(t.dJ z (s::ys)).1=st:=hst.symm
    have e2:(t.dJ z (s::ys)).2=(t.dJ z ys).2++aP ((t.dJ z ys).1-t.bs st) (t.wd st):=by rw[hst];rfl
    rw[←hst] at a1 a2 a3 a4
    rw[e1] at h2
    rw[e2,lA,aL] at h3 h4
    show(if p<wide then Res.cut else t.cu o (ys.length+1) (t.wd (base+rd o p wide)) (t.bs (base+rd o p wide)) (p-wide) (fd++[t.sy (base+rd o p wide)]))=_
    rw[if_neg (by exact L1 [] [_,_] 12473 129 11461 rfl h1),h2,a2,h3]
    have hrd:=u5 (B:=[]) h4 (by exact L2 [] [_,_,_,_] 12470 8321 51251414 55454759 rfl a4 (sC ((t.dJ z ys).fst) (t.bs st) (L1 [] [_,_] 12469 129 12469 rfl a3)))
    rw[qC g (e:=e) hz ys (λx hx=>hk x (.tail _ hx)) (t.wd st) (t.bs st) (e+((t.dJ z ys).2.length+t.wd st)) _ (by exact L0 [] [_,_,_] 192477399221 1 rfl) (by rw[hrd];exact nA (L1 [] [_,_,_] 55323685 129 55259175 rfl (sC ((t.dJ z ys).fst) (t.bs st) (L1 [] [_,_] 12469 129 12469 rfl a3))) (L1 [] [_,_,_] 55314613 65 46937127 rfl (sC ((t.dJ z ys).fst) (t.bs st) (L1 [] [_,_] 12469 129 12469 rfl a3)))) (by exact nA (L1 [] [_,_,_,_] 55314613 129 999493659929639 rfl (sC (e+((t.dJ z ys).snd.length+t.wd st)) (t.wd st) (L0 [] [_,_,_] 192477399221 1 rfl))) (L1 [] [_,_,_,_] 55323685 65 998393879868455 rfl (sC (e+((t.dJ z ys).snd.length+t.wd st)) (t.wd st) (L0 [] [_,_,_] 192477399221 1 rfl)))) ?_]
    · rw[aA fd [s] ys];rfl
    · have h5:=congrArg (List.take (t.dJ z ys).2.length) h4
      rw[List.take_take,Nat.min_eq_left (by exact L0 [] [_,_] 51054773 1 rfl),List.take_left] at h5
      exact h5
theorem nW(t:Tab)(row:List Nat):t.bZ row=(t.dJ (row.getLastD 0) row.dropLast).2++aP (t.dJ (row.getLastD 0) row.dropLast).1 t.log:=by
 unfold bZ dJ
 rw[List.foldl_reverse]
theorem uX{row:List Nat}(h:0<row.length):row.dropLast++[row.getLastD 0]=row:=by
 have hne:row≠[]:=λq=>by rw[q] at h;simp at h
 have:=List.dropLast_concat_getLast hne
 rw[List.getLastD_eq_getLast?,List.getLast?_eq_some_getLast hne]
 exact this
theorem Cw(g:TabOk t){row:List Nat}(h0:0<row.length)(hrow:∀ s∈row,t.known s):cQ (t.bZ row)∧(t.bZ row).length≤6*row.length:=by
 have hs:=uX h0
 refine gJ (λh1 h2 h3=>?_) (qW g (hrow (row.getLastD 0) (by rw[←hs];simp)) row.dropLast λs h=>hrow s ((List.dropLast_sublist row).subset h))
 rw[nW]
 have bM:t.log≤6:=by rcases g.log with h|h<;>(first|exact L1 [] [_] 393397 129 327863 rfl h|exact L1 [] [_] 393397 129 393399 rfl h)
 refine⟨h2.append (cF _ _),?_⟩
 rw[lA,aL]
 rw[List.length_dropLast] at h3
 exact L3 [] [_,_,_,_] 224970681381 3154049 59118773 393413 3493869607 rfl h3 bM (sC (row.length) 1 (L1 [] [_] 721925 129 720902 rfl h0))
theorem Gh(g:TabOk t){row:List Nat}(h0:0<row.length)(hrow:∀ s∈row,t.known s):t.decOne (allB (t.bZ row++[1])) row.length=.ok row∧t.decOne (1::allB (t.bZ row++[1])) row.length=.table:=by
 refine uA (λhb _=>?_) (Cw g h0 hrow)
 have w:=wrote hb
 have hlt:=n7 (t.bZ row++[1]) (hb.append λd hd=>by rw[List.mem_singleton.mp hd];decide)
 obtain⟨o,ho⟩:∃ o,o=allB (t.bZ row++[1]):=⟨_,rfl⟩
 rw[←ho] at w hlt⊢
 have hs:=uX h0
 have hz:=hrow (row.getLastD 0) (by rw[←hs];simp)
 have hys:∀ s∈row.dropLast,t.known s:=λs h=>hrow s ((List.dropLast_sublist row).subset h)
 refine gJ (λh1 h2 h3=>?_) (qW g hz row.dropLast hys)
 have hn:row.length=row.dropLast.length+1:=by rw[List.length_dropLast];exact nA (L1 [] [_,_] 269224117 65 2956996647 rfl (sC (row.length) 1 (L1 [] [_] 721925 129 720902 rfl h0))) (L1 [] [_,_] 3225431077 129 3225431079 rfl (sC (row.length) 1 (L1 [] [_] 721925 129 720902 rfl h0)))
 have hlen:(t.bZ row).length=(t.dJ (row.getLastD 0) row.dropLast).2.length+t.log:=by rw[nW,lA,aL]
 obtain⟨q,hq⟩:∃ q,q=t.dJ (row.getLastD 0) row.dropLast:=⟨_,rfl⟩
 have hE:=nW t row
 have key:∀ (o:List Nat) (e:Nat),startP o=some (e+(t.bZ row).length)→((aG o).drop e).take (t.bZ row).length=t.bZ row→t.decOne o row.length=if e=0 then .ok row else .table:=by
  intro o e hs1 hb1
  unfold decOne
  rw[hs1]
  show t.cu o row.length t.log 0 _ []=_
  rw[hlen] at hb1⊢
  rw[hE] at hb1
  rw[hn,qC g (e:=e) hz row.dropLast hys t.log 0 _ [] (by exact L0 [] [_,_,_] 192477399221 1 rfl) ?_ (by exact nA (L1 [] [_,_,_,_] 55314613 129 999493659929639 rfl (sC (e+((t.dJ (row.getLastD 0) row.dropLast).snd.length+t.log)) (t.log) (L0 [] [_,_,_] 192477399221 1 rfl))) (L1 [] [_,_,_,_] 55323685 65 998393879868455 rfl (sC (e+((t.dJ (row.getLastD 0) row.dropLast).snd.length+t.log)) (t.log) (L0 [] [_,_,_] 192477399221 1 rfl)))) ?_]
  ·rw[List.nil_append,hs]
  ·rw[Nat.zero_add]
   exact u5 (B:=[]) hb1 h1
  ·have h5:=congrArg (List.take (t.dJ (row.getLastD 0) row.dropLast).2.length) hb1
   rw[List.take_take,Nat.min_eq_left (by exact L0 [] [_,_] 51054773 1 rfl),List.take_left] at h5
   exact h5
 refine⟨?_,?_⟩
 ·rw[key o 0 (by rw[Nat.zero_add];exact w.start) (by rw[List.drop_zero];exact w.bits),if_pos rfl]
 ·refine uA (λa b=>?_) (zJ hlt w)
  rw[key (1::o) 8 a b,if_neg (by decide)]
end Tab
namespace Tab
variable{t:Tab}
theorem Dm(g:t.good){s:Nat}(hs:t.known s):0<t.wd (t.aZ s):=by
 refine gJ (λh1 h2 h3=>?_) (g.ok.least s hs)
 refine uA (λh4 h5=>?_) (t.um h3)
 refine uA (λh6 h7=>?_) (g.nq hs)
 refine uA (λh8 h9=>?_) (g.wide h1)
 apply Nat.pos_of_ne_zero
 intro q
 rw[q,h4] at h8
 have hc:=g.count hs.1
 rw[←t.vH] at hc
 have hm:t.cs.getD s 0∈t.cs:=by rw[gD,gE hs.1];exact List.getElem_mem _
 have hn:=g.ok.z7 _ hm
 have hz:=(Tab.kZ g.ok).2
 unfold ig at hc
 split at hc<;>(first|exact Yv h8 hz hc|exact Yu h1 h7 h8 hn hc)
noncomputable def dD(t:Tab)(z y:Nat)(ys:List Nat):(Nat×Nat)×List Nat:=ys.foldr (λs q=>t.j7 q s) ((t.aZ z,t.aZ y),[])
theorem qU(g:TabOk t){z y:Nat}(hz:t.known z)(hy:t.known y):∀ (ys:List Nat),(∀ s∈ys,t.known s)→(t.dD z y ys).1.1<t.z∧(t.dD z y ys).1.2<t.z∧cQ (t.dD z y ys).2∧(t.dD z y ys).2.length≤6*ys.length
  | [],_=>⟨(g.least z hz).1,(g.least y hy).1,λ_ h=>by(cases h),nR _⟩
  | s::ys,h=>by
    refine dZ (λh1 h1' h2 h3=>?_) (qU g hz hy ys λx hx=>h x (.tail _ hx))
    refine dZ (λa1 a2 a3 a4=>?_) (g.ahead s (h s (.head _)) _ h1)
    have:=Tab.je g a1
    refine⟨h1',a1,h2.append (cF _ _),?_⟩
    show((t.dD z y ys).2++aP _ (t.wd (t.aQ s (t.dD z y ys).1.1))).length≤_
    rw[lA,aL,List.length_cons];exact Yt h3 this
theorem qj(g:t.good){o:List Nat}{z y:Nat}(hz:t.known z)(hy:t.known y):∀ (ys:List Nat),(∀ s∈ys,t.known s)→∀ (k:Nat) (fd:List Nat),ys.length+1≤k→
    (aG o).take (t.dD z y ys).2.length=(t.dD z y ys).2→
    t.dG o k (t.dD z y ys).1.2 (t.dD z y ys).1.1 (t.dD z y ys).2.length fd=.ok (fd++ys++[y,z])
  | [],_,0,fd,h,_=>by simp at h
  | [],_,k+1,fd,h,h4=>by
    have hw:=Dm g hy
    show(if 0<t.wd (t.aZ y) then Res.ok (fd++[t.sy (t.aZ y),t.sy (t.aZ z)]) else _)=_
    rw[if_pos hw,(g.ok.least y hy).2.1,(g.ok.least z hz).2.1,aN]
  | s::ys,_,0,fd,h,_=>by simp at h
  | s :: ys,hk,k+1,fd,h,h4=>by
    refine dZ (λhl hl' hb _=>?_) (qU g.ok hz hy ys λx hx=>hk x (.tail _ hx))
    refine dZ (λa1 a2 a3 a4=>?_) (g.ok.ahead s (hk s (.head _)) _ hl)
    obtain⟨st,hst⟩:∃ st,st=t.aQ s (t.dD z y ys).1.1:=⟨_,rfl⟩
    have e0:(t.dD z y (s::ys)).1.2=st:=hst.symm
    have e1:(t.dD z y (s::ys)).1.1=(t.dD z y ys).1.2:=rfl
    have e2:(t.dD z y (s::ys)).2=(t.dD z y ys).2++aP ((t.dD z y ys).1.1-t.bs st) (t.wd st):=by rw[hst];rfl
    rw[←hst] at a1 a2 a3 a4
    rw[e2,lA,aL] at h4
    have hrd:=u5 (e:=0) (B:=[]) (by rw[List.drop_zero];exact h4) (by exact Ys a4 a3)
    rw[Nat.zero_add] at hrd
    rw[e0,e1,e2,lA,aL]
    show(if(t.dD z y ys).2.length+t.wd st<t.wd st then Res.ok _ else t.dG o k (t.dD z y ys).1.2 (t.bs st+rd o ((t.dD z y ys).2.length+t.wd st) (t.wd st)) ((t.dD z y ys).2.length+t.wd st-t.wd st) (fd++[t.sy st]))=_
    rw[if_neg (by exact Yr),hrd,a2,show t.bs st+((t.dD z y ys).1.1-t.bs st)=(t.dD z y ys).1.1 by exact Yq a3,Nat.add_sub_cancel]
    rw[List.length_cons] at h
    rw[qj g hz hy ys (λx hx=>hk x (.tail _ hx)) k _ (by exact Yp h) ?_]
    · rw[aA fd [s] ys];rfl
    · have h5:=congrArg (List.take (t.dD z y ys).2.length) h4
      rw[List.take_take,Nat.min_eq_left (by exact Sx),List.take_left] at h5
      exact h5
theorem tE(t:Tab)(row:List Nat):t.cT row=(t.dD (row.getD (row.length-1) 0) (row.getD (row.length-2) 0) (row.take (row.length-2))).2++aP (t.dD (row.getD (row.length-1) 0) (row.getD (row.length-2) 0) (row.take (row.length-2))).1.1 t.log++aP (t.dD (row.getD (row.length-1) 0) (row.getD (row.length-2) 0) (row.take (row.length-2))).1.2 t.log:=by
 unfold cT dD
 rw[List.foldl_reverse]
theorem Ca{row:List Nat}(h:2≤row.length):row.take (row.length-2)++[row.getD (row.length-2) 0,row.getD (row.length-1) 0]=row:=by
 obtain⟨n,hn⟩:∃ n,row.length=n+2:=⟨row.length-2,by exact Yo h⟩
 rw[show row.length-2=n by exact Yn hn,show row.length-1=n+1 by exact Ym hn]
 conv=>rhs;rw[←List.take_append_drop n row]
 congr 1
 rw[List.drop_eq_getElem_cons (by exact Yl hn),List.drop_eq_getElem_cons (by exact Yk hn),List.drop_eq_nil_of_le (by exact Yj hn)]
 simp[hn]
theorem m9{row:List Nat}{P:Nat→Prop}(hrow:∀ s∈row,P s){i:Nat}(h:i<row.length):P (row.getD i 0):=
 hrow _ (by rw[gD,gE h];exact List.getElem_mem _)
theorem BL(g:TabOk t){row:List Nat}(h0:2≤row.length)(hrow:∀ s∈row,t.known s):cQ (t.cT row)∧(t.cT row).length≤6*row.length:=by
 refine dZ (λh1 h1' h2 h3=>?_) (qU g (m9 hrow (show row.length-1<row.length by exact Sw h0)) (m9 hrow (show row.length-2<row.length by exact Sv h0)) (row.take (row.length-2)) λs h=>hrow s (List.mem_of_mem_take h))
 rw[tE]
 have bM:t.log≤6:=by rcases g.log with h|h<;>(first|exact Yi h|exact Yh h)
 refine⟨(h2.append (cF _ _)).append (cF _ _),?_⟩
 rw[lA,lA,aL,aL]
 rw[lT] at h3
 exact Yg h0 h3 bM
theorem Fw(g:t.good){row:List Nat}{most:Nat}(h0:2≤row.length)(hrow:∀ s∈row,t.known s)(hm:row.length≤most):t.cM (allB (t.cT row++[1])) most=.ok row:=by
 refine uA (λhb _=>?_) (BL g.ok h0 hrow)
 have w:=wrote hb
 obtain⟨o,ho⟩:∃ o,o=allB (t.cT row++[1]):=⟨_,rfl⟩
 rw[←ho] at w⊢
 have hs:=Ca h0
 have hz:=m9 hrow (show row.length-1<row.length by exact Sw h0)
 have hy:=m9 hrow (show row.length-2<row.length by exact Sv h0)
 have hys:∀ s∈row.take (row.length-2),t.known s:=λs h=>hrow s (List.mem_of_mem_take h)
 refine dZ (λh1 h1' h2 h3=>?_) (qU g.ok hz hy _ hys)
 have hE:=tE t row
 have hyl:(row.take (row.length-2)).length=row.length-2:=by rw[lT];exact Ye
 have hloop:=qj (o:=o) g hz hy _ hys (most-1) [] (by exact Yd h0 hm hyl)
 rw[List.nil_append,hs] at hloop
 obtain⟨q,hq⟩:∃ q,q=t.dD (row.getD (row.length-1) 0) (row.getD (row.length-2) 0) (row.take (row.length-2)):=⟨_,rfl⟩
 rw[←hq] at h1 h1' h2 h3 hE hloop
 have hs1:=w.start
 have hb1:=w.bits
 have hlen:(t.cT row).length=q.2.length+t.log+t.log:=by rw[hE,lA,lA,aL,aL]
 have hA:(q.2++aP q.1.1 t.log).length=q.2.length+t.log:=by rw[lA,aL]
 rw[hlen] at hs1 hb1
 rw[hE] at hb1
 have hr1:=u5 (o:=o) (e:=0) (B:=[]) (A:=q.2++aP q.1.1 t.log) (v:=q.1.2) (c:=t.log) (by rw[List.drop_zero,hA];exact hb1) h1'
 have hb2:(aG o).take (q.2.length+t.log)=q.2++aP q.1.1 t.log:=by
  have h5:=congrArg (List.take (q.2.length+t.log)) hb1
  rw[List.take_take,Nat.min_eq_left (by exact Yc)] at h5
  rw[h5]
  conv=>lhs;rw[←hA]
  exact List.take_left
 have hr2:=u5 (o:=o) (e:=0) (B:=[]) (A:=q.2) (v:=q.1.1) (c:=t.log) (by rw[List.drop_zero];exact hb2) h1
 have hb3:(aG o).take q.2.length=q.2:=by
  have h5:=congrArg (List.take q.2.length) hb2
  rw[List.take_take,Nat.min_eq_left (by exact Sx),List.take_left] at h5
  exact h5
 rw[hA,Nat.zero_add] at hr1
 rw[Nat.zero_add] at hr2
 unfold cM
 rw[hs1]
 show(if q.2.length+t.log+t.log<2*t.log then Res.cut else t.dG o (most-1) (rd o (q.2.length+t.log+t.log) t.log) (rd o (q.2.length+t.log+t.log-t.log) t.log) (q.2.length+t.log+t.log-2*t.log) [])=_
 rw[if_neg (by exact Yb),Nat.add_sub_cancel,hr1,hr2,show q.2.length+t.log+t.log-2*t.log=q.2.length by exact X8]
 exact hloop hb3
end Tab
noncomputable def kn(cs:List Int)(k:Nat):List Nat:=(List.range k).filter λs=>cs.getD s 0 != 0
theorem Dp(cs:List Int)(k:Nat):kn cs (k+1)=kn cs k++if cs.getD k 0=0 then [] else [k]:=by
 unfold kn
 rw[List.range_succ,List.filter_append]
 congr 1
 by_cases h:cs.getD k 0=0
 ·rw[if_pos h,List.filter_cons,if_neg (by simpa using h),List.filter_nil]
 ·rw[if_neg h,List.filter_cons,if_pos (by simpa using h),List.filter_nil]
theorem Jv(t:Tab):∀ s∈kn t.cs t.cs.length,t.known s:=λs h=>by
 unfold kn at h
 refine uA (λh1 h2=>?_) (List.mem_filter.mp h)
 exact⟨List.mem_range.mp h1,by simpa using h2⟩
theorem QS(cs:List Int)(k:Nat):(kn cs k).length≤k:=by
 unfold kn
 have:=List.length_filter_le (λs=>cs.getD s 0 != 0) (List.range k)
 rwa [List.length_range] at this
theorem QM{t:Tab}(g:t.good):0<(kn t.cs t.cs.length).length:=by
 apply List.length_pos_of_mem (a:=0)
 unfold kn
 exact List.mem_filter.mpr ⟨List.mem_range.mpr (by have:=g.2.lo;exact L1 [] [_] 720902 129 722949 rfl this),by simpa using g.2.head⟩
theorem zF(D:List Nat):8*(allB D).length<D.length+8∧D.length≤8*(allB D).length:=by
 have h:=mQ ((D.length+7)/8) D (by exact L2 [] [_,_,_] 50861237 8257 31537329919759399 524502 rfl (Nat.div_add_mod (D.length+7) 8) (Nat.mod_lt (D.length+7) (y:=8) (by decide))) (by exact L1 [] [_,_,_] 8799323365462 129 31538429427192871 rfl (Nat.div_add_mod (D.length+7) 8))
 have:=congrArg List.length h
 rw[List.length_map,List.length_range] at this
 exact⟨L2 [] [_,_,_,_] 8799323365462 9217 13495 31538429704016935 rfl this (Nat.div_add_mod (D.length+7) 8),L3 [] [_,_,_,_] 50861237 529345 13511 31537330192389159 524518 rfl this (Nat.div_add_mod (D.length+7) 8) (Nat.mod_lt (D.length+7) (y:=8) (by decide))⟩
theorem bL.on{c:Cx}{ys:Vs}{gs:Gs}{base':Heap}{μ:Led}{T:Addr}{t:Tab}(i:Nat)(aK:Reads c.w c.fx (led c ys gs) base')(e:cI gs i=μ)(h:bL (λa ao=>(a,ao)∈μ) T t):bL (bW c.w base') T t:=h.imp λa ao h=>Has.on (GF i (e▸h)) aK
theorem cj.on{c:Cx}{ys:Vs}{gs:Gs}{base':Heap}{μ:Led}{C:Addr}{t:Tab}(i:Nat)(aK:Reads c.w c.fx (led c ys gs) base')(e:cI gs i=μ)(h:cj (λa ao=>(a,ao)∈μ) C t):cj (bW c.w base') C t:=h.imp λa ao h=>Has.on (GF i (e▸h)) aK
theorem FX.dec{w:World}{b:Bool}{n:Nat}{f:Addr}{base:Heap}{as:List AV}{gs:Gs}{r:Res}{l:List Nat}(h:FX w b n f base as gs (λi:Addr×List Nat=>r=.ok i.2) (λi=>.ref i.1) (λi=>[[(i.1,.list (nL i.2))]]) (Fg r))(e:r=.ok l) :
  FX w b n f base as gs (λ_:Addr=>True) (λx=>.ref x) (λx=>[[(x,.list (nL l))]]) bN:=
 vL h (λa μ ⟨i,hi,ea,p⟩=>⟨i.1,trivial,ea,by rw[e] at hi;rw[Res.Ul hi];exact p⟩) λc h=>by rw[e] at h;rcases h with⟨_,h⟩|⟨_,h⟩<;>cases h
inductive LwA (S:Addr):Vs→Vs→Gs→Prop
 | mk (ty:Int):ty=0∨ty=1→LwA S [some (.ref S),some (.int ty),none,none,none,none,none,none,none,none,none] [none,none,none] []
inductive LwB (S:Addr) (ty:Int):Vs→Vs→Gs→Prop
 | mk (bx:Addr) (b0 b1 c:Int):jd b0 b1 c 0→LwB S ty [some (.ref S),some (.int ty),none,none,none,none,none,none,none,none,none] [none,none,some (.ref bx)] [[(bx,BX b0 b1 c)]]
inductive LwC (S bx:Addr) (ty b1:Int):Vs→Vs→Gs→Prop
 | mk (log:Nat) (li b0 c:Int):log=5∨log=6→li=log→jd b0 b1 c 1→LwC S bx ty b1 [some (.ref S),some (.int ty),some (.int li),none,none,none,none,none,none,none,none] [none,none,some (.ref bx)] [[(bx,BX b0 b1 c)]]
inductive LwD (S bx:Addr) (ty b1:Int):Vs→Vs→Gs→Prop
 | mk (t:Tab) (y:Addr) (b0 c:Int):t.good→jd b0 b1 c 40→LwD S bx ty b1 [some (.ref S),some (.int ty),some (.int t.log),none,none,none,none,none,none,none,none] [none,some (.ref y),some (.ref bx)] [[(bx,BX b0 b1 c)],[(y,.list (iL t.cs))]]
inductive LwE (S bx y:Addr) (ty:Int) (t:Tab) (g0:Led):Vs→Vs→Gs→Prop
 | mk (C T:Addr) (μC μT:Led):cj (λa ao=>(a,ao)∈μC) C t→bL (λa ao=>(a,ao)∈μT) T t→LwE S bx y ty t g0 [some (.ref S),some (.int ty),some (.int t.log),some (.ref C),some (.ref T),none,none,none,none,none,none] [none,some (.ref y),some (.ref bx)] [g0,[(y,.list (iL t.cs))],μC,μT]
inductive LwF (S bx y C T:Addr) (ty:Int) (t:Tab) (g0 μC μT:Led):Vs→Vs→Gs→Prop
 | mk (K:Addr) (ks:List Nat):(∀ s∈ks,t.known s)→0<ks.length→ks.length≤7→LwF S bx y C T ty t g0 μC μT [some (.ref S),some (.int ty),some (.int t.log),some (.ref C),some (.ref T),none,none,none,none,none,none] [some (.ref K),some (.ref y),some (.ref bx)] [g0,[(y,.list (iL t.cs))],μC,μT,[(K,.list (nL ks))]]
inductive LwG (S bx y C T K:Addr) (ty b1:Int) (t:Tab) (μC μT gK:Led):Vs→Vs→Gs→Prop
 | mk (R:Addr) (row:List Nat) (b0 c:Int):2≤row.length→row.length≤12→(∀ s∈row,t.known s)→jd b0 b1 c 100→LwG S bx y C T K ty b1 t μC μT gK [some (.ref S),some (.int ty),some (.int t.log),some (.ref C),some (.ref T),some (.ref R),none,none,none,none,none] [some (.ref K),some (.ref y),some (.ref bx)] [[(bx,BX b0 b1 c)],[(y,.list (iL t.cs))],μC,μT,gK,[(R,.list (nL row))]]
noncomputable abbrev LwR(bx:Addr)(b1:Int)(t:Tab)(g1 g2 g3 g4 g5:Led)(k:Nat)(as:List AV)(gs:Gs):Prop:=∃ rs b0 c,as=nL rs∧rs.length=k∧(∀ s∈rs,t.known s)∧jd b0 b1 c (41+k)∧gs=[[(bx,BX b0 b1 c)],g1,g2,g3,g4,g5]
noncomputable abbrev sO(o:List Nat):Prop:=(∀ x∈o,x<256)∧0<o.length∧o.length≤200
inductive O7 (S C T R:Addr) (ty:Int) (t:Tab) (ys:Vs) (g0 g1 g2 g3 g4 g5 g6:Led):Nat→Vs→Vs→Gs→Prop
 | zero:O7 S C T R ty t ys g0 g1 g2 g3 g4 g5 g6 0 [some (.ref S),some (.int ty),some (.int t.log),some (.ref C),some (.ref T),some (.ref R),none,none,none,none,none] ys [g0,g1,g2,g3,g4,g5,g6]
 | succ (k:Nat) (cv:Option AV) (o:List Nat):sO o→O7 S C T R ty t ys g0 g1 g2 g3 g4 g5 g6 (k+1) [some (.ref S),some (.int ty),some (.int t.log),some (.ref C),some (.ref T),some (.ref R),cv,some (.bytes o),none,none,none] ys [g0,g1,g2,g3,g4,g5,g6]
theorem O7.any{S C T R:Addr}{ty:Int}{t:Tab}{ys:Vs}{g0 g1 g2 g3 g4 g5 g6:Led}{k:Nat}{xs ys':Vs}{gs:Gs}(h:O7 S C T R ty t ys g0 g1 g2 g3 g4 g5 g6 k xs ys' gs) :
  ∃ cv ov,xs=[some (.ref S),some (.int ty),some (.int t.log),some (.ref C),some (.ref T),some (.ref R),cv,ov,none,none,none]∧ys'=ys∧gs=[g0,g1,g2,g3,g4,g5,g6]∧(0<k→∃ o,ov=some (.bytes o)∧sO o):=by
 cases h with
 | zero=>exact⟨_,_,rfl,rfl,rfl,λh=>absurd h (Nat.lt_irrefl 0)⟩
 | succ k cv o h=>exact⟨_,_,rfl,rfl,rfl,λ_=>⟨o,rfl,h⟩⟩
inductive LwJ (S C T R bx:Addr) (ty b1:Int) (t:Tab) (cv:Option AV) (o od:List Nat) (ys:Vs) (gs:Gs):Nat→Vs→Vs→Gs→Prop
 | mk (k:Nat) (b0 c:Int) (tv bv:Option AV):jd b0 b1 c (100+30*k)→LwJ S C T R bx ty b1 t cv o od ys gs k [some (.ref S),some (.int ty),some (.int t.log),some (.ref C),some (.ref T),some (.ref R),cv,some (.bytes o),some (.bytes od),tv,bv] ys ([(bx,BX b0 b1 c)]::gs)
theorem Lk{o od:List Nat}(h:sO o)(h2:sO od)(k:Nat):∃ ob,0≤((k:Nat):Int).fmod 2∧((k:Nat):Int).fmod 2<2^63∧([AV.bytes o,.bytes od]:List AV)[(((k:Nat):Int).fmod 2).toNat]?=some (.bytes ob)∧sO ob:=by
 rw[gQ,Int.toNat_natCast]
 rcases Nat.mod_two_eq_zero_or_one k with q|q
 ·rw[q];exact⟨o,by decide,by decide,rfl,h⟩
 ·rw[q];exact⟨od,by decide,by decide,rfl,h2⟩
theorem QH (w:World)(base:Heap)(S:Addr)(l:List Int)(hl:l.length≤63)(hS:bW w base S (.list (iL l))) :
    FX w true 10 576 base [.ref S] [] (λ_:Unit=>True) (λ_=>.bool true) (λ_=>[]) bN:=by
  have hil:=gG l
  refine FX.dC ["script"] ["tiny","log","cells","table","row","cut","octets","double","turn","bent"] ["script","tiny","log","cells","table","row","cut","octets","double","turn","bent"] ["known","counts","box"] [some (.ref S),none,none,none,none,none,none,none,none,none,none] [none,none,none] rfl rfl rfl (λ_=>rfl) (by decide +kernel) rfl (λ_=>rfl) (λ_=>rfl) ?_
  rintro q hk ow rfl hcl rfl-hR L hca -
  refine pQ hk (LwA S) (λP hP=>aB hk ?_) ?_
  · refine bC hk (.b hS) (by exact L2 [] [_,_] 65536001205 8321 4128965 12471 rfl hl hil) ?_
    refine aO (λh1=>?_) (λh1=>?_)
    · refine Ak (ls:=l) hk (.b hS) ?_
      exact hP [] _ _ _ (.mk _ (by split<;>simp))
    · exact hP [] _ _ _ (.mk _ (by split<;>simp))
  rintro xs ys gs ⟨ty,hty⟩
  refine pQ hk (LwB S ty) (λP hP=>aB hk ?_) ?_
  · refine bD hk [] (by decide) (λbase' aK=>Er q.w _ base' S l (by exact L1 [] [_] 65537205 129 4128949 rfl hl) (hS.keeps aK.keep)) aX (λ_=>Nat.zero_le _) λc1 _=>?_
    refine⟨_,_,_,.int _,.none,.none,λS1=>?_⟩
    refine iz hk (.b hS) (aj 0 0 rfl) nofun (by exact L2 [] [_,_] 65536001205 8321 4128965 12471 rfl hl hil) (ks:=iL (l.drop 1)) (by rw[show(1:Int)=((1:Nat):Int) from rfl,vB];unfold iL;rw[List.map_drop]) λz1=>?_
    refine bD hk [] (by decide) (λbase' aK=>Er q.w _ base' z1 (l.drop 1) (by rw[List.length_drop];exact L2 [] [_,_] 65537205 8321 4128965 12469 rfl hl (Nat.sub_le (l.length) 1)) (Has.on (aj 1 0 rfl) aK)) aX (λ_=>Nat.zero_le _) λc2 _=>?_
    refine jK hk (.of_left (by decide)) ?_
    refine bD hk [] (by decide) (λbase' aK=>RL q.w _ base' _) aX (λ_=>Nat.zero_le _) λbx _=>?_
    exact hP [2] _ _ _ (.mk bx _ _ _ ⟨Int.le_max_left _ _,Int.fmod_nonneg_of_pos _ (by decide),Int.lt_trans (Int.fmod_lt_of_pos _ (by decide)) (by decide),Int.le_refl _,Int.le_refl _⟩)
  rintro xs ys gs ⟨bx,b0,b1,c,hb⟩
  refine pQ hk (LwC S bx ty b1) (λP hP=>aB hk ?_) ?_
  · refine eH hk 0 rfl hb (by decide) (by decide) (by decide) (by decide) λd4 b0 c Vr hb=>?_
    refine jK hk (.of_left (by split<;>decide)) ?_
    by_cases q0:((d4:Nat):Int)=0
    · rcases hty with rfl|rfl
      · exact hP [0] _ _ _ (.mk 6 _ b0 c (.inr rfl) (by rw[decide_eq_true q0];rfl) hb)
      · exact hP [0] _ _ _ (.mk 5 _ b0 c (.inl rfl) (by rw[decide_eq_true q0];rfl) hb)
    · exact hP [0] _ _ _ (.mk 5 _ b0 c (.inl rfl) (by rw[decide_eq_false q0,if_neg Bool.false_ne_true,Int.zero_mul];rfl) hb)
  rintro xs ys gs ⟨log,li,b0,c,bM,rfl,hb⟩
  refine pQ hk (LwD S bx ty b1) (λP hP=>aB hk ?_) ?_
  · refine G4 hk λv hv=>?_
    refine eH hk 0 rfl hb (by decide) (by exact Or.elim hv (λz2=>L1 [_] [] 720897 65 65714 rfl z2) (λz2=>L1 [_] [] 720897 65 393394 rfl z2)) (by exact Or.elim hv (λz2=>L1 [_] [] 281474976711857 129 65714 rfl z2) (λz2=>L1 [_] [] 281474976711857 129 393394 rfl z2)) (by decide) λd5 b0 c ZF hb=>?_
    refine bD hk [0] (by decide) (λbase' _=>JX q.w _ base' bx b0 b1 c _ log (2+d5) hb (by decide) bM (by exact L0 [] [_] 189515565061 1 rfl) (by exact Or.elim hv (λz2=>L2 [_] [_] 120305352741 8321 732273 65714 rfl ZF z2) (λz2=>L2 [_] [_] 120305352741 8321 732273 393394 rfl ZF z2))) aX (λ_=>Nat.succ_le_succ (Nat.zero_le _)) λi hi=>?_
    exact hP [0,1] _ _ _ (.mk ⟨log,i.2.1⟩ i.1 _ _ ⟨bM,by show Drawn _ i.2.1.length i.2.1;rw[hi.1.len];exact hi.1⟩ (hi.2.up (by decide)))
  rintro xs ys gs ⟨t,y,b0,c,g,hb⟩
  have fH:t.cs.length≤7:=g.2.hi
  have Mt:=gG t.cs
  refine pQ hk (LwE S bx y ty t [(bx,BX b0 b1 c)]) (λP hP=>aB hk ?_) ?_
  · refine dH hk ["cells","table"] (by decide +kernel) (by decide) rfl ?_
    refine bD (g':=λr=>[[(r,.list (nL t.syms))]]) hk [] (by decide) (λbase' aK=>CX q.w _ base' y t.cs t.log g.1 (Has.on (aj 1 0 rfl) aK) g.2) aX (λ_=>Nat.zero_le _) λr _=>?_
    refine bD hk [] (by decide) (λbase' aK=>J2 q.w _ base' r t g (Has.on (aj 2 0 rfl) aK)) aX (λ_=>Nat.zero_le _) λi hi=>?_
    refine iJ hk [] (by decide) (by kernel_rfl) (P:=λT _ μ=>bL (λa ao=>(a,ao)∈μ) T t) (hd:=λ_ _ μ=>μ) (tl:=λ_ _ _=>[]) (λbase' T d aK=>Jc q.w _ base' T d y t g (Has.on (aj 1 0 rfl) aK)) aX (λ_ _ _=>Nat.zero_le _) λT d μT hT=>?_
    exact hP [0,1,3,4] _ _ _ (.mk i.1 T i.2 μT hi hT)
  rintro xs ys gs ⟨C,T,μC,μT,hC,hT⟩
  refine pQ hk (LwF S bx y C T ty t [(bx,BX b0 b1 c)] μC μT) (λP hP=>aB hk ?_) ?_
  · refine G7 hk (H9 hk.hk rfl) rfl rfl ?_
    refine iB hk [("counts",L+2)] rfl (by decide +kernel) (by rw[hk.hc,hca];rfl) (λ_=>rfl) λK hK=>?_
    refine bC hk.nc (aj 1 0 rfl) (by exact L2 [] [_,_] 65536001205 8321 458949 12471 rfl fH Mt) ?_
    refine eN hk.nc λrr=>?_
    refine tC (cnt:=t.cs.length) hk hK [1] [some (.ref y)] (by rw[hca];rfl) rfl (λ_ _=>rfl) (aj 4 0 rfl) (small_one (by decide) (by decide) (by exact L0 [] [_] 859848489200905000509768768 1 rfl) (by exact L2 [] [_,_] 19342813113834066795375729 8321 458949 12471 rfl fH Mt)) (by rw[bf,Mt];rfl) (by exact L1 [] [_] 65536001205 129 458933 rfl fH) (λk=>nL (kn t.cs k)) (λk=>(k:Nat)) (λk _=>by exact iA (L0 [] [_] 50044392290910240 1 rfl) (L0 [] [_] 50033379701304432 1 rfl)) rfl ?_ ?_
    · refine λK=>aB hk ?_
      exact hP [0,1,2,3,5] _ _ _ (.mk K _ (Jv t) (QM g) (Nat.le_trans (QS _ _) fH))
    · intro k' hk2 c' hc' hw hb' ρ P hP
      refine aU hc' (λ_ _=>rfl) (aj 1 0 rfl) (by exact L0 [] [_] 46596096 1 rfl) (by exact L2 [] [_,_] 38685626227668133590674545 8321 458949 12470 rfl fH hk2) (Gx hk2) ?_
      refine q7 (λh1=>?_) (λh1=>?_)
      · exact hP [.int (k':Nat)] [0,1,2,3,4,6] _ _ (by rw[Dp,if_neg h1,cD]) rfl
      · exact hP [] [0,1,2,3,4,6] _ _ (by rw[Dp,if_pos h1,aN,aN]) rfl
  rintro xs ys gs ⟨K,ks,hkn,hkp,hkl⟩
  have yZ:(nL ks).length=ks.length:=aM ks
  refine pQ hk (LwG S bx y C T K ty b1 t μC μT [(K,.list (nL ks))]) (λP hP=>aB hk ?_) ?_
  · refine Ir hk [("known",L+3),("box",L+1)] rfl rfl rfl (by decide +kernel) (by rw[hk.hc,hca];rfl) (λ_=>rfl) λK2 hK=>?_
    refine G4 hk.nc λv hv=>?_
    refine eH hk.nc 0 rfl hb (by decide) (by exact Or.elim hv (λz2=>L1 [_] [] 720897 65 196786 rfl z2) (λz2=>L1 [_] [] 720897 65 721074 rfl z2)) (by exact Or.elim hv (λz2=>L1 [_] [] 281474976711857 129 196786 rfl z2) (λz2=>L1 [_] [] 281474976711857 129 721074 rfl z2)) (by decide) λdn b0 c hdn hb=>?_
    refine eN hk.nc λrr=>?_
    refine Ng (cnt:=2+dn) hk hK [0,2] [some (.ref K),some (.ref bx)] (by rw[hca];rfl) rfl (λ_ _=>rfl) (aj 5 0 rfl) (small_one (by decide) (by decide) (by exact L0 [] [_] 225334800430965153291153830839360 1 rfl) (by exact Or.elim hv (λz2=>L2 [_] [_] 5070602400912917606006974971937 8321 732273 196786 rfl hdn z2) (λz2=>L2 [_] [_] 5070602400912917606006974971937 8321 732273 721074 rfl hdn z2))) (by rw[bf];exact Uk) (by exact Or.elim hv (λz2=>L2 [_] [_] 17179869498703909 8321 732273 196786 rfl hdn z2) (λz2=>L2 [_] [_] 17179869498703909 8321 732273 721074 rfl hdn z2)) (LwR bx b1 t _ _ _ _ _) ⟨[],b0,c,rfl,rfl,(λ_ h=>nomatch h),hb.up (by decide),rfl⟩ ?_ ?_
    · rintro as gs ⟨row,b0,c,rfl,hrl,hrk,hb,rfl⟩ R
      refine aB hk ?_
      exact hP [0,1,2,3,4,6] _ _ _ (.mk R row b0 c (by exact L1 [] [_,_] 722949 65 3229616311 rfl hrl) (by exact Or.elim hv (λz2=>L3 [_] [_,_] 786613 532609 733297 3229616311 196786 rfl hdn hrl z2) (λz2=>L3 [_] [_,_] 786613 532609 733297 3229616311 721074 rfl hdn hrl z2)) hrk (hb.up (by exact Or.elim hv (λz2=>L2 [_] [_] 28828317470576672800 8321 732273 196786 rfl hdn z2) (λz2=>L2 [_] [_] 28828317470576672800 8321 732273 721074 rfl hdn z2))))
    · rintro k' hk2 as gs ⟨rs,b0,c,rfl,hrl,hrk,hb,rfl⟩ hal c' hc' hw hb' ρ P hP
      refine bC hc' (aj 4 0 rfl) (by exact L2 [] [_,_] 65536001205 8321 458949 12471 rfl hkl yZ) ?_
      refine eH hc' 0 rfl hb (by exact Or.elim hv (λz2=>L3 [_] [_,_] 109951182942306336 532609 733297 3229616310 196786 rfl hdn hk2 z2) (λz2=>L3 [_] [_,_] 109951182942306336 532609 733297 3229616310 721074 rfl hdn hk2 z2)) (by exact L2 [] [_,_] 46596097 4225 786438 12471 rfl hkp yZ) (by exact L2 [] [_,_] 18014398509558897 8321 458949 12471 rfl hkl yZ) (by decide) λd b0 c hd hb=>?_
      refine aU hc' (λ_ _=>rfl) (aj 4 0 rfl) (by exact L0 [] [_] 46596096 1 rfl) (by exact L3 [] [_,_,_] 38685626227668133590674545 532609 458949 12503 54996081 rfl hkl yZ hd) (iw (by exact L2 [] [_,_,_] 12470 8321 12503 54996081 rfl yZ hd)) ?_
      exact hP [.int (ks.getD d 0:Nat)] [0,1,2,3,4,5,7] _ _ _ ⟨rs++[ks.getD d 0],b0,c,cD rs _,by rw[lA,hrl];rfl,λx hx=>by
        rcases mA hx with q|q
        · exact hrk x q
        · rw[List.mem_singleton.mp q];exact Tab.m9 hkn (by exact L2 [] [_,_,_] 12470 8321 12503 54996081 rfl yZ hd),hb.up (by exact L0 [] [_] 19860393500823509713719134240 1 rfl),rfl⟩ rfl
  clear hb
  rintro xs ys gs ⟨R,row,b0,c,hr2,fG,hrk,hb⟩
  have hrl:(nL row).length=row.length:=aM row
  refine aB hk ?_
  refine eO hk ow (λ_=>rfl) ?_
  refine bC hk (aj 5 0 rfl) (by exact L2 [] [_,_] 65536001205 8321 786629 12471 rfl fG hrl) (jL (y:=(row.length:Nat)) (by rw[hrl]) ?_)
  intro LL
  refine iK hk (λ_ _=>rfl) (aj 6 0 rfl) (O7 S C T R ty t _ _ _ _ _ _ _ _) .zero (λk xs ys gs hI=>by refine lO (λ_ _ _ K9 Ub _=>?_) (hI.any);subst K9;subst Ub;exact aj 6 0 rfl) (λxs ys gs hI=>?_) (λk' hk2 xs ys gs hI J P hP=>?_)
  · refine lO (λcv ov zZ Gg Gf ho=>?_) (hI.any);subst zZ;subst Gg;subst Gf
    refine aD (λo vJ hoc=>?_) (ho (Nat.succ_pos _));subst vJ
    have Zk:=Tab.Fw g (most:=row.length+2) hr2 hrk (by exact L0 [] [_] 537594037 1 rfl)
    refine uA (λhb1' v9=>?_) (Tab.BL g.ok hr2 hrk)
    have hlt:=n7 (t.cT row++[1]) (hb1'.append λd hd=>by rw[List.mem_singleton.mp hd];decide)
    have hol:=zF (t.cT row++[1])
    rw[lA,List.length_singleton] at hol
    obtain⟨od,hod⟩:∃ od,od=allB (t.cT row++[1]):=⟨_,rfl⟩
    rw[←hod] at Zk hlt hol
    have Zn:sO od:=⟨hlt,by exact L1 [] [_,_] 720902 136 12233413242917 rfl hol.2,by exact L3 [] [_,_,_] 13108405 533256 786629 50730197 2305913601842159702 rfl fG v9 hol.1⟩
    refine aF (v:=.bytes od) (g':=[]) hk [] (n':=8) (by decide) (λbase' aK=>hod▸Ji q.w hcl base' R T row t g.ok (bL.on 3 aK rfl hT) (Has.on (aj 5 0 rfl) aK) hr2 (by exact L1 [] [_] 65537205 129 786613 rfl fG) hrk) aX (nR _) ?_
    refine G5 hk ?_
    refine aF (v:=.bytes od) (g':=[]) hk [] (n':=4) (by decide) (λbase' aK=>hod▸Lx q.w _ base' C R row t g.ok (cj.on 2 aK rfl hC) (Has.on (aj 5 0 rfl) aK) hr2 (by exact L1 [] [_] 65537205 129 786613 rfl fG) hrk) aX (nR _) ?_
    refine M6 hk (zu (bne_self_eq_false od) ?_)
    refine bC hk (aj 5 0 rfl) (by exact L2 [] [_,_] 65536001205 8321 786629 12471 rfl fG hrl) (jL (y:=(row.length:Nat)) (by rw[hrl]) ?_)
    refine bD hk [] (n':=7) (by decide) (λbase' aK=>FX.dec (uL q.w _ base' T od (row.length+2) t g.ok (bL.on 3 aK rfl hT) hlt (by exact Uj fG v9 hol) (by exact L1 [] [_] 17180146019365 129 786613 rfl fG)) Zk) aX (λ_=>Nat.zero_le _) λr _=>?_
    refine Ao hk (aj 7 0 rfl) (by exact L2 [] [_,_] 65536001205 8321 786629 12471 rfl fG hrl) λz3=>?_
    refine wC (is:=row.map λ(n:Nat)=>(n:Int)) (js:=row.map λ(n:Nat)=>(n:Int)) hk (aj 8 0 rfl) (aj 5 0 rfl) (zu (by rw[decide_eq_true rfl];rfl) ?_)
    refine eO hk ow (λ_=>rfl) ?_
    refine G4 hk λv2 hv2=>?_
    refine eN hk λrr=>?_
    refine d9 (cnt:=v2.toNat) hk (λ_ _=>rfl) (aj 9 0 rfl) (small_one (by decide) (by decide) (by exact Or.elim hv2 (λz2=>L1 [_] [] 13600415470664578215445568 65 65714 rfl z2) (λz2=>L1 [_] [] 13600415470664578215445568 65 327858 rfl z2)) (by exact Or.elim hv2 (λz2=>L1 [_] [] 302231454903657293677745 129 65714 rfl z2) (λz2=>L1 [_] [] 302231454903657293677745 129 327858 rfl z2))) (bf _) (LwJ S C T R bx ty b1 t cv o od _ _) (.mk 0 b0 c none none (hb.up (by decide))) (λxs ys gs hI=>?_) (λk' hk2 xs ys gs hI J P hP=>?_)
    · obtain⟨b0,c,tv,bv,hb⟩:=hI
      exact aq [] (hR () trivial)
    · obtain⟨b0,c,tv,bv,hb⟩:=hI
      refine BJ (λob i1 i2 i3 Zq Zo S5=>?_) (Lk hoc Zn k')
      have Zv:k'<5:=by exact Or.elim hv2 (λz2=>L3 [_] [_,_] 327862 532609 12470 65714 733298 rfl hk2 z2 (Int.toNat_of_nonneg (a:=v2) (L1 [_] [] 720896 65 65714 rfl z2))) (λz2=>L3 [_] [_,_] 327862 532609 12470 327858 733298 rfl hk2 z2 (Int.toNat_of_nonneg (a:=v2) (L1 [_] [] 720896 65 327858 rfl z2)))
      refine iM (b:=.int (k':Nat)) (by congr 1;exact iA (L0 [] [_] 50044392290910240 1 rfl) (L0 [] [_] 50033379701304432 1 rfl)) ?_
      intro t2
      refine aU hk (λ_ _=>rfl) (aj 12 0 rfl) i1 i2 i3 ?_
      refine bD hk [0] (by decide) (λbase' _=>Ol q.w _ base' bx b0 b1 c _ ob hb (by exact L1 [] [_] 116826703122471879223986254329128682528 3841 327862 rfl Zv) Zq Zo (by exact L1 [] [_] 5898241205 129 13108405 rfl S5)) aX (λ_=>nR _) λi hi=>?_
      refine gJ (λe2 e3 e5=>?_) hi
      refine bC hk (aj 5 0 rfl) (by exact L2 [] [_,_] 65536001205 8321 786629 12471 rfl fG hrl) (jL (y:=(row.length:Nat)) (by rw[hrl]) ?_)
      refine eH hk 0 rfl e5 (by exact L1 [] [_] 34028243670766298050997337786594250832545824 3841 327862 rfl Zv) (by exact L1 [] [_] 3301517164545 129 722949 rfl hr2) (by exact L1 [] [_] 4722366482887631117345 129 786613 rfl fG) (by decide) λdm b0 c hdm hb=>?_
      refine aF hk [] (by decide) (λbase' aK=>Je q.w _ base' C T i.1 dm t g.ok (cj.on 2 aK rfl hC) (bL.on 3 aK rfl hT) e2 (by exact L2 [] [_,_] 6553601205 8321 13108421 1879836853 rfl S5 e3) (by exact L2 [] [_,_] 65537205 8321 786629 3301785611377 rfl fG hdm)) aX (nR _) ?_
      exact hP [0,1,2,3,4,5,6,7,8,9,10] _ _ _ _ (.mk (k'+1) b0 c _ _ (hb.up (by exact L0 [] [_] 7256499331255786948953143710366948687512065678745173047640086729801232156704 1 rfl))) rfl
  · refine lO (λcv ov gP kj nD _=>?_) (hI.any);subst gP;subst kj;subst nD
    obtain⟨cut,ZG,hc1,hc2⟩:∃ cut:Nat,([.int 1,.int (row.length:Nat)]:List AV).getD k' .none=.int cut∧1≤cut∧cut≤row.length:=by
      have:k'=0∨k'=1:=by have:k'<2:=hk2;exact Ui this
      rcases this with rfl|rfl
      · exact⟨1,rfl,by exact L0 [] [] 4195333 1 rfl,by exact L1 [] [_] 721925 129 722949 rfl hr2⟩
      · exact⟨row.length,rfl,by exact L1 [] [_] 721925 129 722949 rfl hr2,by exact L0 [] [_] 11445 1 rfl⟩
    obtain⟨rc,Vl⟩:∃ rc,rc=row.take cut:=⟨_,rfl⟩
    have mW:rc.length=cut:=by rw[Vl,lT];exact nA (L1 [] [_,_] 12469 129 12471 rfl (Nat.min_eq_left (a:=cut) (b:=row.length) (L1 [] [_,_] 12469 129 12469 rfl hc2))) (L1 [] [_,_] 12469 65 11463 rfl (Nat.min_eq_left (a:=cut) (b:=row.length) (L1 [] [_,_] 12469 129 12469 rfl hc2)))
    have Il:∀ s∈rc,t.known s:=λs h=>hrk s (List.mem_of_mem_take (Vl▸h))
    refine uA (λhr1 hr2=>?_) (Tab.Gh g.ok (row:=rc) (by exact L2 [] [_,_] 720902 4225 787461 12471 rfl hc1 mW) Il)
    refine uA (λhb1' v9=>?_) (Tab.Cw g.ok (row:=rc) (by exact L2 [] [_,_] 720902 4225 787461 12471 rfl hc1 mW) Il)
    have hlt:=n7 (t.bZ rc++[1]) (hb1'.append λd hd=>by rw[List.mem_singleton.mp hd];decide)
    have hol:=zF (t.bZ rc++[1])
    rw[lA,List.length_singleton] at hol
    rw[mW] at hr1 hr2
    obtain⟨o,ho⟩:∃ o,o=allB (t.bZ rc++[1]):=⟨_,rfl⟩
    rw[←ho] at hr1 hr2 hlt hol
    have GD:gO (nL row) none (some (cut:Nat)) none=nL rc:=by rw[Ge,vN,←Vl]
    have h1o:∀ x∈1::o,x<256:=λx hx=>by
      rcases List.mem_cons.mp hx with q|q
      · exact L1 [] [_] 16778422 129 65719 rfl q
      · exact hlt x q
    refine iM ZG ?_
    refine⟨_,_,_,.none,.int _,.none,λS1=>?_⟩
    refine iz hk (aj 5 0 rfl) (aj 9 0 rfl) nofun (by exact L2 [] [_,_] 65536001205 8321 786629 12471 rfl fG hrl) GD λz1=>?_
    refine aF (v:=.bytes o) (g':=[]) hk [] (n':=8) (by decide) (λbase' aK=>ho▸K7 q.w hcl base' z1 T rc t g.ok (bL.on 3 aK rfl hT) (Has.on (aj 10 0 rfl) aK) (by exact L2 [] [_,_] 720902 4225 787461 12471 rfl hc1 mW) (by exact L3 [] [_,_,_] 65537205 532609 786629 12501 13495 rfl fG hc2 mW) Il) aX (nR _) ?_
    refine G5 hk ?_
    refine⟨_,_,_,.none,.int _,.none,λS2=>?_⟩
    refine iz hk (aj 5 0 rfl) (aj 11 0 rfl) nofun (by exact L2 [] [_,_] 65536001205 8321 786629 12471 rfl fG hrl) GD λz2=>?_
    refine aF (v:=.bytes o) (g':=[]) hk [] (n':=4) (by decide) (λbase' aK=>ho▸Lz q.w _ base' C z2 rc t g.ok (cj.on 2 aK rfl hC) (Has.on (aj 12 0 rfl) aK) (by exact L2 [] [_,_] 720902 4225 787461 12471 rfl hc1 mW) (by exact L3 [] [_,_,_] 65537205 532609 786629 12501 13495 rfl fG hc2 mW) Il) aX (nR _) ?_
    refine M6 hk (zu (bne_self_eq_false o) ?_)
    refine bD hk [] (n':=7) (by decide) (λbase' aK=>FX.dec (uM q.w _ base' T o cut t g.ok (bL.on 3 aK rfl hT) hlt (by exact L5 [] [_,_,_,_,_] 6553601205 2184233736 786629 12501 13543 59118837 2305913636201898070 rfl fG hc2 mW v9 hol.1) (by exact L2 [] [_,_] 65537205 8321 786629 12469 rfl fG hc2)) hr1) aX (λ_=>Nat.zero_le _) λr _=>?_
    refine Ao hk (aj 13 0 rfl) (by rw[aM];exact L3 [] [_,_,_] 65536001205 532609 786629 12501 13495 rfl fG hc2 mW) λz3=>?_
    refine⟨_,_,_,.none,.int _,.none,λS3=>?_⟩
    refine iz hk (aj 5 0 rfl) (aj 15 0 rfl) nofun (by exact L2 [] [_,_] 65536001205 8321 786629 12471 rfl fG hrl) GD λz4=>?_
    refine wC (is:=rc.map λ(n:Nat)=>(n:Int)) (js:=rc.map λ(n:Nat)=>(n:Int)) hk (aj 14 0 rfl) (aj 16 0 rfl) (zu (by rw[decide_eq_true rfl];rfl) ?_)
    intro t1
    refine nQ (ns:=[1]) hk (aj 17 0 rfl) (λn hn=>by rw[List.mem_singleton.mp hn];decide) (by decide) ?_
    refine jt hk (by show 1+_≤_;exact id (L5 [] [_,_,_,_,_] 17179869498638373 2184233736 786629 12501 13543 59118837 2305913636201898070 rfl fG hc2 mW v9 hol.1)) ?_
    refine bD (C:=λ_:Addr=>True) (v:=λ_=>.str "table") (g':=λ_=>[[]]) (X':=bN) hk [] (n':=8) (by decide) (λbase' aK=>by
      have:=yw q.w q.fx.cl base' T (1::o) cut t g.ok (bL.on 3 aK rfl hT) h1o (by rw[List.length_cons];exact L5 [] [_,_,_,_,_] 1717987191041061 2184233736 786629 12501 13543 59118837 2305913636201898070 rfl fG hc2 mW v9 hol.1) (by exact L2 [] [_,_] 65537205 8321 786629 12469 rfl fG hc2)
      rw[hr2] at this
      exact this) aX (λ_=>Nat.zero_le _) λ_ _=>?_
    refine GZ hk ?_
    exact hP [0,1,2,3,4,5,6,7] _ _ _ _ (.succ k' _ o ⟨hlt,by exact L1 [] [_,_] 720902 136 12233413242917 rfl hol.2,by exact L5 [] [_,_,_,_,_] 13108405 2184233736 786629 12501 13543 59118837 2305913636201898070 rfl fG hc2 mW v9 hol.1⟩) rfl
end Nz
open PySem PySem.W PySem.Calls PyProof.Rows
theorem Nz.Jd{P:Params}{h:Heap}:∀ {l:List Int}{vs:List Value},WellAll P h vs (ofPys (l.map PyData.int))→Nz.bF (Nz.iL l) vs:=by
  intro l
  induction l with
  | nil=>intro vs H;cases H;exact .nil
  | cons i l ih=>
    intro vs H
    cases H with
    | cons h1 h2=>cases h1;exact .cons (.int i _) (ih h2)
theorem Nz.Jk{w:World}{h:Heap}{l:List Int}{S:Addr}(H:Well w.params h (.ref S) (ofPy (.list (l.map PyData.int)))):Nz.bW w h S (.list (Nz.iL l)):=by
 cases H with
 | list h1 h2=>exact⟨_,h1,.list (n:=0) (Nz.Jd h2)⟩
theorem PySem.Challenge.cw_nz0422_01_holds : PySem.Challenge.rw_nz0422_01.Holds := by
  refine Nz.head ?_
  intro w s₀ s₁ mg mb G Y fa o pm cd doc dV kV ho hd hcd hD hmg hg args vals as hpre hlay hrd hwl hlo
  have KX : (Nz.KK w).In s₁.heap := kIn_of Y
  clear Y
  refine Ground.open G ?_
  intro T B D TE TW
  clear hd hcd hD ho
  wrow_args hpre hlay hrd hwl hlo
  rename_i l _ _ _ _ _ _ _ S vs _ hL _ hW _ hI _ hlen _
  have hfa : fa = 576 := by
    have h1 : mg ("law" : Str) = some (.ref 576) := mg_of KX T.g (by kernel_rfl)
    have h2 : mg ("law" : Str) = some (.ref fa) := hmg
    rw [h1] at h2
    injection h2 with h3; injection h3 with h4; exact h4.symm
  subst hfa
  have hS := Nz.Jk hW
  have hlen' : l.length ≤ 63 := by exact La.L1 [] [_] 4128949 129 2986279028 rfl hlen
  have TR : Nz.tU s₁.heap := ⟨⟨mg, mb, T.g, T.b, T.builtins⟩, T.nolimit⟩
  refine Nz.dF ?_
  refine Nz.dK (Nz.QH w s₁.heap S l hlen' hS [.ref S] (.cons (.ref S) .nil) callerA [] s₁.heap s₁ [] ⟨by decide, by decide⟩ rfl rfl (fun _ => rfl) KX TR (fun _ _ h => h) trivial (fun _ _ h => h) (fun _ h => by cases h) .nil .nil hg) ?_
  rintro r s' ⟨h1, h2, h3⟩
  cases r with
  | error e =>
    obtain ⟨_, ea, cls, a0, _, hx, _⟩ := h3
    exact hx.elim
  | ok f =>
    cases f with
    | ret v =>
      obtain ⟨g', a, μ', news', k1, k2, k3, hv, k4, k5, k6, _, _, rfl, _⟩ := h3
      cases hv
      show GoodWG _ _ _ _ _ _ _
      refine GoodW.toG ⟨.inl ⟨_, .bool true, [], rfl, fun cls => ?_, .bool true, ?_, fun _ => ⟨.nil, fun _ h => by cases h⟩⟩, fun b o h => k3 b o (k1 b o h), h2, h1⟩
      · exact raisesW_false (by wrow_none_raised) cls
      · wrow_post
    | _ => exact h3.elim
