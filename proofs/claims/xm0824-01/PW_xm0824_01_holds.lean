import PyProof.Rows.All
import Wide.All
import OpenK.AllK
import Wide.FinOn
import Lean
import PySem.Challenge.RW_xm0824_01
/- Printed by a program from readable texts (names made short, spaces dropped). Three local rules stand first: obtain with @ reads projections and chosen witnesses; a string at the head of a proof is a coded numeral for the linear-arithmetic checker zA (Mine.unz decodes it); a def is noncomputable and declarations keep no source positions (for the compiled size alone). -/
set_option linter.all false
set_option Elab.async false
set_option tactic.hygienic false
set_option genInjectivity false
set_option genSizeOfSpec false
set_option genCtorIdx false
set_option genSizeOf false
set_option bootstrap.genMatcherCode false
set_option maxRecDepth 100000
set_option maxHeartbeats 8000000
local macro_rules
 | `(tactic| obtain @@⟨$ps,*⟩ := $e) => do
  if !e.raw.isIdent then
   return <- `(tactic| (haveI e₀ := $e;obtain @@⟨$ps,*⟩ := e₀))
  let ps := ps.getElems
  let mut ts := #[]
  for i in [0:ps.size] do
   let a : Lean.Term := ⟨Lean.mkNode ``Lean.Parser.Term.proj #[e, Lean.mkAtom ".", Lean.mkNode Lean.fieldIdxKind #[Lean.mkAtom (toString (i+1))]]⟩
   match ps[i]! with
    | `(Lean.Parser.Tactic.rcasesPatLo| $x:ident) =>
     ts := ts.push (<- `(tactic| haveI $x := $a))
    | `(Lean.Parser.Tactic.rcasesPatLo| _) =>
     pure ()
    | `(Lean.Parser.Tactic.rcasesPatLo| $q:rcasesPat) =>
     ts := ts.push (<- `(tactic| obtain $q:rcasesPat := $a))
    | _ =>
     Lean.Macro.throwUnsupported
  `(tactic| ($ts:tactic;*))
 | `(tactic| obtain @⟨$ps,*⟩ := $e) => do
  let ps := ps.getElems
  if !e.raw.isIdent then
   return <- `(tactic| (haveI e₀ := $e;obtain @⟨$ps,*⟩ := e₀))
  let n := (ps.findIdx λ p => match p with | `(Lean.Parser.Tactic.rcasesPatLo| @$_:ident) => false | _ => true)
  if n == 0 then
   let p := ps[0]!
   let a <- if ps.size == 1 then
    pure e else
    `(And.left $e)
   let t <- match p with
    | `(Lean.Parser.Tactic.rcasesPatLo| $x:ident) =>
     `(tactic| haveI $x := $a)
    | `(Lean.Parser.Tactic.rcasesPatLo| _) =>
     `(tactic| skip)
    | `(Lean.Parser.Tactic.rcasesPatLo| $q:rcasesPat) =>
     `(tactic| obtain $q:rcasesPat := $a)
    | _ =>
     Lean.Macro.throwUnsupported
   if ps.size == 1 then
    return t
   let r := ps.extract 1 ps.size
   `(tactic| ($t:tactic;obtain @⟨$r,*⟩ := And.right $e)) else
   let mut gs := #[]
   for i in [0:n] do
    if let `(Lean.Parser.Tactic.rcasesPatLo| @$x:ident) := ps[i]! then
     let c := Lean.mkIdent (if n == 1 then `Exists.choose else .mkSimple s!"c{n}_{i+1}")
     gs := gs.push (<- `(Lean.Parser.Tactic.generalizeArg| $c:ident $e = $x))
   let c := Lean.mkIdent (if n == 1 then `Exists.choose_spec else .mkSimple s!"c{n}_s")
   let r := ps.extract n ps.size
   `(tactic| (haveI s₀ := $c $e;generalize $gs,* at s₀;obtain @⟨$r,*⟩ := s₀))
def Mine.unz:Nat->Nat->Nat->Nat->Nat
|0,_,_,a=>a
|n+1,x,p,a=>if x==1 then a else
 let U:=#[721, 2014, 2412, 2678, 2843, 2941, 3028, 3102, 3143, 3172, 3190, 3396, 3435, 3447, 3453, 3464, 3535, 3572, 3582, 3591, 3592, 3593, 3594, 3595, 3748, 3769, 3771, 3772, 3853, 3854, 3880, 3915, 4029, 4043, 4046, 4047, 4050, 4051, 4052, 4053, 4060, 4061, 4062, 4063, 4064, 4065, 4066, 4067, 4068, 4069, 4070, 4075, 4076, 4077, 4078, 4079, 4080, 4081, 4082, 4083, 4084, 4085, 4086, 4096]
 let d:=(U.findIdx? (x%4096<·)).getD 0
 let c:=if d==0 then 0 else U[d-1]!
 unz n ((U[d]!-c)*(x/4096)+x%4096-c) (p*64) (a+d*p)
local macro_rules (kind:=str)
|`($s:str)=>do
 let t:=s.getString.toList
 if !t.any (· ∈ "!$%&*,:;=?^`|~".toList) then Lean.Macro.throwUnsupported
 let N:=Mine.unz 999 (t.foldr (fun c a=>a*90+(c.toNat-33-[34,45,64,92].countP (·<c.toNat))) 0) 1 0
 let n:=N/64
 let z<-`($(Lean.mkIdent `zA) $(Lean.quote n))
 if N%64==0 then `($z.1) else
 let h<-`(_)
 let a:=Array.replicate (n%64) h
 let b:=Array.replicate (N%64-1) h
 `($z.1 [$a,*] [$b,*])
def Mine.krf:Lean.Syntax:=Lean.Unhygienic.run `(Lean.Parser.Tactic.tacticSeq|kernel_rfl)
local macro_rules (kind:=Lean.Parser.Command.declaration)
 |`($d:declaration)=>do
  if d.raw.getPos?.isNone then
   Lean.Macro.throwUnsupported
  let r:=if d.raw[1].getKind∈[``Lean.Parser.Command.definition,``Lean.Parser.Command.abbrev]then d.raw.setArg 0 (d.raw[0].setArg 4 (Lean.mkNullNode #[Lean.mkNode ``Lean.Parser.Command.noncomputable #[Lean.mkAtom "noncomputable"]]))else d.raw
  pure (r.rewriteBottomUp (Lean.Syntax.setInfo .none))
open PySem PySem.W PyProof.Rows PySem.Calls
namespace Mine
def tw:Program:=(Fast.tw2368527892694137696 Challenge.rw_xm0824_01).prog
theorem Ib:Fast.tw8326940854005059898 {strict:=!R.allR (Fast.tw5923862056798008813 tw.main.body) (Fast.tw3471404346716756564 Fast.tw17691160309236699985),foot:=none,bare:=R.filterR (Fast.tw13343964577679436407 tw tw.main.body) [{cps:={toList:=[118,97,114,115]}},{cps:={toList:=[100,105,114]}},{cps:={toList:=[108,111,99,97,108,115]}}]} tw.main.body=true:=by kernel_rfl
theorem Ic:(Fast.tw17119622794617984870 tw tw.main.body λ x n=>Fast.tw17868728402115742887 n)=true:=by kernel_rfl
theorem rT:Challenge.rw_xm0824_01.wellSaid=true:=by rw[Fast.te9446332074065402090];unfold Fast.tw9446332074065402090 Fast.tw17960256430627541270 Fast.tw2436336058641802641;rw[show Fast.tw12908688711261696721 (Fast.tw2368527892694137696 Challenge.rw_xm0824_01).prog=((((_&&_)&&_)&&_)&&true&&true)by unfold Fast.tw12908688711261696721;exact congr (congrArg and (congr (congrArg and rfl) Ib)) Ic];kernel_rfl
namespace Y
inductive AT|n(i:Nat)|i(i:Nat)|k(c:Nat)|add(a b:AT)|sub(a b:AT)|ml(c:Nat)(a:AT)|mr(a:AT)(c:Nat)|cast(a:AT)|neg(a:AT)
def iD{J:Type}(d:J):List J->Nat->J|[],_=>d|a::l,i=>Nat.rec a (λ j _=>iD d l j) i
def dN(e:List Nat):AT->Nat|.n i=>iD 0 e i|.k c=>c|.add a b=>dN e a+dN e b|.ml c a=>c*dN e a|.mr a c=>dN e a*c|.i _=>0|.sub _ _=>0|.cast _=>0|.neg _=>0
def dI(e:List Nat)(x:List Int):AT->Int|.i i=>iD 0 x i|.k c=>Int.ofNat c|.add a b=>dI e x a+dI e x b|.sub a b=>dI e x a-dI e x b|.ml c a=>Int.ofNat c*dI e x a|.mr a c=>dI e x a*Int.ofNat c|.cast a=>(dN e a:Int)|.neg a=>-dI e x a|.n _=>0
inductive AF|ff|HG(a b:AT)|ltN(a b:AT)|HH(a b:AT)|HI(a b:AT)|ltI(a b:AT)|HJ(a b:AT)|not(f:AF)|and(f g:AF)|or(f g:AF)|iff(f g:AF)|imp(f g:AF)|x9(z:Nat)(a b:AT)|x_(z:Nat)(a b:AT)|ya(z:Nat)(a b:AT)|HK(q r:Nat)(a:AT)(c:Nat)|HL(z:Nat)(a:AT)|yb(z:Nat)(a b:AT)|imax(z:Nat)(a b:AT)|HM(q r:Nat)(a:AT)(c:Nat)
def dF(e:List Nat)(x:List Int):AF->Prop|.ff=>False|.HG a b=>dN e a<=dN e b|.ltN a b=>dN e a<dN e b|.HH a b=>dN e a=dN e b|.HI a b=>dI e x a<=dI e x b|.ltI a b=>dI e x a<dI e x b|.HJ a b=>dI e x a=dI e x b|.not f=>¬dF e x f|.and f g=>dF e x f/\dF e x g|.or f g=>dF e x f\/dF e x g|.iff f g=>dF e x f↔dF e x g|.imp f g=>dF e x f->dF e x g|.x9 z a b=>iD 0 e z=dN e a-dN e b|.x_ z a b=>iD 0 e z=min (dN e a) (dN e b)|.ya z a b=>iD 0 e z=max (dN e a) (dN e b)|.HK q r a c=>iD 0 e q=dN e a/c/\iD 0 e r=dN e a%c|.HL z a=>iD 0 e z=(dI e x a).toNat|.yb z a b=>iD 0 x z=min (dI e x a) (dI e x b)|.imax z a b=>iD 0 x z=max (dI e x a) (dI e x b)|.HM q r a c=>iD 0 x q=dI e x a/Int.ofNat c/\iD 0 x r=dI e x a%Int.ofNat c
def mH:List Int->List Int->List Int|[],m=>m|a::l,m=>List.rec (a::l) (λ b J _=>(a+b)::mH l J) m
def nF(c:Int):List Int->List Int|[]=>[]|a::l=>(c*a)::nF c l
def kO(j:Nat):List Int:=Nat.rec [1] (λ _ l=>0::l) j
def lN:AT->List Int|.n i=>kO (2*i+1)|.k c=>[Int.ofNat c]|.add a b=>mH (lN a) (lN b)|.ml c a=>nF (Int.ofNat c) (lN a)|.mr a c=>nF (Int.ofNat c) (lN a)|.i _=>[]|.sub _ _=>[]|.cast _=>[]|.neg _=>[]
def lI:AT->List Int|.i i=>kO (2*i+2)|.k c=>[Int.ofNat c]|.add a b=>mH (lI a) (lI b)|.sub a b=>mH (lI a) (nF (-1) (lI b))|.ml c a=>nF (Int.ofNat c) (lI a)|.mr a c=>nF (Int.ofNat c) (lI a)|.cast a=>lN a|.neg a=>nF (-1) (lI a)|.n _=>[]
inductive AR|tt|ff|c(l:List Int)|and(a b:AR)|or(a b:AR)
def AR.le(a b:List Int):AR:= .c (mH b (nF (-1) a))
def AR.lt(a b:List Int):AR:= .c (mH [-1] (mH b (nF (-1) a)))
def AR.eq(a b:List Int):AR:= .and (.le a b) (.le b a)
def AR.ne(a b:List Int):AR:= .or (.lt a b) (.lt b a)
def AR.dm(q r a:List Int)(c:Nat):AR:=Nat.rec .tt (λ _ _=> .and (.eq a (mH r (nF (Int.ofNat c) q))) (.and (.le [] r) (.lt r [Int.ofNat c]))) c
def tR:AF->Bool->AR|.ff,p=>Bool.rec .tt .ff p|.HG a b,p=>Bool.rec (.lt (lN b) (lN a)) (.le (lN a) (lN b)) p|.ltN a b,p=>Bool.rec (.le (lN b) (lN a)) (.lt (lN a) (lN b)) p|.HH a b,p=>Bool.rec (.ne (lN a) (lN b)) (.eq (lN a) (lN b)) p|.HI a b,p=>Bool.rec (.lt (lI b) (lI a)) (.le (lI a) (lI b)) p|.ltI a b,p=>Bool.rec (.le (lI b) (lI a)) (.lt (lI a) (lI b)) p|.HJ a b,p=>Bool.rec (.ne (lI a) (lI b)) (.eq (lI a) (lI b)) p|.not f,p=>tR f (Bool.rec true false p)|.and f g,p=>Bool.rec (.or (tR f false) (tR g false)) (.and (tR f true) (tR g true)) p|.or f g,p=>Bool.rec (.and (tR f false) (tR g false)) (.or (tR f true) (tR g true)) p|.iff f g,p=>Bool.rec (.or (.and (tR f true) (tR g false)) (.and (tR f false) (tR g true))) (.or (.and (tR f true) (tR g true)) (.and (tR f false) (tR g false))) p|.imp f g,p=>Bool.rec (.and (tR f true) (tR g false)) (.or (tR f false) (tR g true)) p|.x9 z a b,p=>Bool.rec .tt (.or (.and (.le (lN b) (lN a)) (.eq (lN a) (mH (kO (2*z+1)) (lN b)))) (.and (.lt (lN a) (lN b)) (.le (kO (2*z+1)) []))) p|.x_ z a b,p=>Bool.rec .tt (.or (.and (.le (lN a) (lN b)) (.eq (kO (2*z+1)) (lN a))) (.and (.lt (lN b) (lN a)) (.eq (kO (2*z+1)) (lN b)))) p|.ya z a b,p=>Bool.rec .tt (.or (.and (.le (lN a) (lN b)) (.eq (kO (2*z+1)) (lN b))) (.and (.lt (lN b) (lN a)) (.eq (kO (2*z+1)) (lN a)))) p|.HK q r a c,p=>Bool.rec .tt (.dm (kO (2*q+1)) (kO (2*r+1)) (lN a) c) p|.HL z a,p=>Bool.rec .tt (.or (.and (.le [] (lI a)) (.eq (kO (2*z+1)) (lI a))) (.and (.lt (lI a) []) (.le (kO (2*z+1)) []))) p|.yb z a b,p=>Bool.rec .tt (.or (.and (.le (lI a) (lI b)) (.eq (kO (2*z+2)) (lI a))) (.and (.lt (lI b) (lI a)) (.eq (kO (2*z+2)) (lI b)))) p|.imax z a b,p=>Bool.rec .tt (.or (.and (.le (lI a) (lI b)) (.eq (kO (2*z+2)) (lI b))) (.and (.lt (lI b) (lI a)) (.eq (kO (2*z+2)) (lI a)))) p|.HM q r a c,p=>Bool.rec .tt (.dm (kO (2*q+2)) (kO (2*r+2)) (lI a) c) p
def nx{J:Type}(s:Nat)(k:Nat->Nat->J):J:=k (s%64) (s/64)
def HN(G:List (List Int)):Nat->Nat->(List Int->Nat->Option Nat)->Option Nat|0,s,k=>k [] s|m+1,s,k=>nx s λ i s=>nx s λ c s=>HN G m s λ l s=>k (mH (nF (Int.ofNat c) (iD [] G i)) l) s
def nG(l:List Int):Bool:=List.rec true (λ a _ r=>Bool.rec false r (decide (a=0))) l
def Ea(d:Int)(l:List Int):List Int:=List.rec [] (λ a _ r=>(a/d)::r) l
def fin(l:List Int)(s:Nat):Option Nat:=List.rec none (λ a r _=>Bool.rec none (Bool.rec none (some s) (nG r)) (decide (a<0))) l
def cut(d:Nat)(l:List Int)(k:List Int->Option Nat):Option Nat:=List.rec none (λ a r _=>Bool.rec none (k ((a/Int.ofNat (d+1))::Ea (Int.ofNat (d+1)) r)) (nG (mH r (nF (-Int.ofNat (d+1)) (Ea (Int.ofNat (d+1)) r))))) l
def lf:Nat->List (List Int)->Nat->Option Nat|0,G,s=>nx s λ m s=>HN G m s fin|t+1,G,s=>nx s λ d s=>nx s λ m s=>HN G m s λ l s=>cut d l λ l=>lf t (l::G) s
def ck:AR->(List (List Int)->Nat->Option Nat)->List (List Int)->Nat->Option Nat|.tt,k,G,s=>k G s|.ff,_,_,s=>some s|.c l,k,G,s=>k (l::G) s|.and a b,k,G,s=>ck a (ck b k) G s|.or a b,k,G,s=>nx s λ d s=>Nat.rec (k G s) (λ _ _=>Option.rec none (λ s=>ck b k G s) (ck a k G s)) d
def HO:Nat->List (List Int):=λ m=>Nat.rec [] (λ i l=>kO (2*i+1)::l) m
def ev(v:Nat->Int):List Int->Int|[]=>0|a::l=>a*v 0+ev (λ j=>v (j+1)) l
theorem Ao:∀(l m:List Int)(v:Nat->Int),ev v (mH l m)=ev v l+ev v m:=λ l=>List.rec (λ m v=>(Int.zero_add _).symm) (λ a l Z m v=>List.rec (Int.add_zero _).symm (λ b J _=>by show(a+b)*v 0+ev _ (mH l J)=a*v 0+ev _ l+(b*v 0+ev _ J);rw[Z,Int.add_mul,Int.add_assoc,Int.add_assoc,Int.add_left_comm (b*v 0)]) m) l
theorem Ap(c:Int):∀(l:List Int)(v:Nat->Int),ev v (nF c l)=c*ev v l:=λ l=>List.rec (λ v=>(Int.mul_zero c).symm) (λ a l J v=>by show(c*a)*v 0+ev _ (nF c l)=c*(a*v 0+ev _ l);rw[J,Int.mul_add,Int.mul_assoc]) l
theorem Aq:∀(j:Nat)(v:Nat->Int),ev v (kO j)=v j:=λ j=>Nat.rec (λ v=>by show 1*v 0+0=v 0;rw[Int.one_mul,Int.add_zero]) (λ j J v=>by show 0*v 0+ev _ (kO j)=v (j+1);rw[J,Int.zero_mul,Int.zero_add]) j
def va(e:List Nat)(x:List Int)(j:Nat):Int:=Nat.rec 1 (λ i _=>Nat.rec ((iD 0 e (i/2):Nat):Int) (λ _ _=>iD 0 x (i/2)) (i%2)) j
theorem Ie(e:List Nat)(x:List Int)(i:Nat):va e x (2*i+1)=((iD 0 e i:Nat):Int):=by show(Nat.rec ((iD 0 e (2*i/2):Nat):Int) (λ _ _=>iD 0 x (2*i/2)) (2*i%2):Int)=_;rw[Nat.mul_mod_right,Nat.mul_div_cancel_left i (Nat.succ_pos 1)];rfl
theorem Ig(e:List Nat)(x:List Int)(i:Nat):va e x (2*i+2)=iD 0 x i:=by show(Nat.rec ((iD 0 e ((2*i+1)/2):Nat):Int) (λ _ _=>iD 0 x ((2*i+1)/2)) ((2*i+1)%2):Int)=_;rw[Nat.mul_add_mod,Nat.mul_add_div (Nat.succ_pos 1)];rfl
section
variable(e:List Nat)(x:List Int)
def EV(l:List Int):Int:=ev (va e x) l
theorem kP(l m:List Int):EV e x (mH l m)=EV e x l+EV e x m:=Ao l m _
theorem jG(c:Int)(l:List Int):EV e x (nF c l)=c*EV e x l:=Ap c l _
theorem kQ(i:Nat):EV e x (kO (2*i+1))=((iD 0 e i:Nat):Int):=(Aq _ _).trans (Ie e x i)
theorem qA(i:Nat):EV e x (kO (2*i+2))=iD 0 x i:=(Aq _ _).trans (Ig e x i)
theorem yc(c:Int):EV e x [c]=c:=(Int.add_zero _).trans (Int.mul_one c)
theorem qB(l m:List Int):EV e x (mH l (nF (-1) m))=EV e x l-EV e x m:=by rw[kP,jG,Int.neg_mul,Int.one_mul];rfl
theorem Ar(t:AT):EV e x (lN t)=(dN e t:Int):=by induction t with|n i=>exact kQ e x i|k c=>exact yc e x _|add a b J Z=>exact(kP e x _ _).trans ((congrArg (·+_) J).trans (congrArg (_+·) Z))|ml c a J=>exact(jG e x _ _).trans (congrArg (_*·) J)|mr a c J=>exact(jG e x _ _).trans ((Int.mul_comm _ _).trans (congrArg (·*_) J))|i _=>rfl|sub _ _=>rfl|cast _=>rfl|neg _=>rfl
theorem El(t:AT):EV e x (lI t)=dI e x t:=by induction t with|i i=>exact qA e x i|k c=>exact yc e x _|add a b J Z=>exact(kP e x _ _).trans ((congrArg (·+_) J).trans (congrArg (_+·) Z))|sub a b J Z=>exact(qB e x _ _).trans ((congrArg (·-_) J).trans (congrArg (_-·) Z))|ml c a J=>exact(jG e x _ _).trans (congrArg (_*·) J)|mr a c J=>exact(jG e x _ _).trans ((Int.mul_comm _ _).trans (congrArg (·*_) J))|cast a _=>exact Ar e x a|neg a J=>exact(jG e x _ _).trans ((Int.neg_mul _ _).trans (congrArg Neg.neg ((Int.one_mul _).trans J)))|n _=>rfl
def RH:AR->Prop|.tt=>True|.ff=>False|.c l=>0<=EV e x l|.and a b=>RH a/\RH b|.or a b=>RH a\/RH b
variable{e x}
theorem dG{l m:List Int}{a b:Int}(p:EV e x l=a)(q:EV e x m=b)(h:a<=b):RH e x (.le l m):=Int.le_trans (Int.sub_nonneg_of_le (p.symm▸q.symm▸h)) (Int.le_of_eq (qB e x m l).symm)
theorem eH{l m:List Int}{a b:Int}(p:EV e x l=a)(q:EV e x m=b)(h:a<b):RH e x (.lt l m):=by show 0<=EV e x (mH [-1] _);rw[kP,qB,yc,p,q];omega
theorem eI{l m:List Int}{a b:Int}(p:EV e x l=a)(q:EV e x m=b)(h:a=b):RH e x (.eq l m):=⟨dG p q (Int.le_of_eq h),dG q p (Int.le_of_eq h.symm)⟩
theorem As{l m:List Int}{a b:Int}(p:EV e x l=a)(q:EV e x m=b)(h:¬a=b):RH e x (.ne l m):=(Int.lt_or_gt_of_ne h).imp (eH p q) (eH q p)
theorem Au{q r l:List Int}{a b d:Int}(p:EV e x q=a)(J:EV e x r=b)(Z:EV e x l=d)(c:Nat)(h1:a=d/Int.ofNat c)(h2:b=d%Int.ofNat c):RH e x (.dm q r l c):=by cases c with|zero=>exact True.intro|succ c=>have z:Int.ofNat (c+1)≠0:=λ h=>nomatch h;refine⟨eI Z ((kP e x _ _).trans (congrArg (_+·) (jG e x _ _))) ?_,dG (m:=r) rfl J (h2▸Int.emod_nonneg d z),eH J (yc e x _) (h2▸Int.emod_lt_of_pos d (Int.natCast_pos.mpr (Nat.succ_pos c)))⟩;rw[p,J,h1,h2];exact(Int.emod_add_mul_ediv d _).symm
theorem yd{u v w:List Int}{a b z:Nat}(p:EV e x u=z)(q:EV e x v=a)(r:EV e x w=b)(h:z=a-b):RH e x (.or (.and (.le w v) (.eq v (mH u w))) (.and (.lt v w) (.le u []))):=by
 by_cases k:b<=a;.exact .inl ⟨dG r q (Int.ofNat_le.mpr k),eI q (kP e x _ _) (by rw[p,r];omega)⟩
 .exact .inr ⟨eH q r (by omega),dG (m:=[]) (b:=0) p rfl (by omega)⟩
theorem oP{P:Prop}{s t:AR}(k:P->RH e x s)(l:¬P->RH e x t):RH e x (.or s t):=(Classical.em P).imp k l
theorem Em(f:AF):(dF e x f->RH e x (tR f true))/\(¬dF e x f->RH e x (tR f false)):=by have N:=Ar e x;have I:=El e x;have T:∀{P:Prop},P->RH e x .tt:=λ _=>True.intro;induction f with|ff=>exact⟨λ h=>h,T⟩|HG a b=>exact⟨λ h=>dG (N a) (N b) (Int.ofNat_le.mpr h),λ h=>eH (N b) (N a) (Int.ofNat_lt.mpr (Nat.lt_of_not_le h))⟩|ltN a b=>exact⟨λ h=>eH (N a) (N b) (Int.ofNat_lt.mpr h),λ h=>dG (N b) (N a) (Int.ofNat_le.mpr (Nat.le_of_not_lt h))⟩|HH a b=>exact⟨λ h=>eI (N a) (N b) (congrArg _ h),λ h=>As (N a) (N b) (λ k=>h (Int.ofNat.inj k))⟩|HI a b=>exact⟨λ h=>dG (I a) (I b) h,λ h=>eH (I b) (I a) (Int.lt_of_not_ge h)⟩|ltI a b=>exact⟨λ h=>eH (I a) (I b) h,λ h=>dG (I b) (I a) (Int.le_of_not_gt h)⟩|HJ a b=>exact⟨λ h=>eI (I a) (I b) h,λ h=>As (I a) (I b) h⟩|not f i=>exact⟨i.2,λ h=>i.1 (Classical.not_not.mp h)⟩|and f g i j=>exact⟨λ h=>⟨i.1 h.1,j.1 h.2⟩,λ h=>(Classical.em (dF e x f)).elim (λ k=> .inr (j.2 λ m=>h ⟨k,m⟩)) (λ k=> .inl (i.2 k))⟩|or f g i j=>exact⟨λ h=>h.imp i.1 j.1,λ h=>⟨i.2 λ k=>h (.inl k),j.2 λ k=>h (.inr k)⟩⟩|iff f g i j=>exact⟨λ h=>(Classical.em (dF e x f)).imp (λ k=>⟨i.1 k,j.1 (h.mp k)⟩) (λ k=>⟨i.2 k,j.2 λ m=>k (h.mpr m)⟩),λ h=>(Classical.em (dF e x f)).imp (λ k=>⟨i.1 k,j.2 λ m=>h ⟨λ _=>m,λ _=>k⟩⟩) (λ k=>⟨i.2 k,(Classical.em (dF e x g)).elim j.1 λ m=>(h ⟨λ y=>absurd y k,λ y=>absurd y m⟩).elim⟩)⟩|imp f g i j=>exact⟨λ h=>(Classical.em (dF e x f)).elim (λ k=> .inr (j.1 (h k))) (λ k=> .inl (i.2 k)),λ h=>⟨(Classical.em (dF e x f)).elim i.1 (λ k=>(h λ y=>absurd y k).elim),j.2 λ k=>h λ _=>k⟩⟩|x9 z a b=>exact⟨yd (kQ e x z) (N a) (N b),T⟩|x_ z a b=>exact⟨λ(h:iD 0 e z=min _ _)=>oP (P:=dN e a<=dN e b) (λ k=>⟨dG (N a) (N b) (Int.ofNat_le.mpr k),eI (kQ e x z) (N a) (by rw[h,Nat.min_eq_left k])⟩) (λ k=>⟨eH (N b) (N a) (by omega),eI (kQ e x z) (N b) (by rw[h,Nat.min_eq_right (by omega)])⟩),T⟩|ya z a b=>exact⟨λ(h:iD 0 e z=max _ _)=>oP (P:=dN e a<=dN e b) (λ k=>⟨dG (N a) (N b) (Int.ofNat_le.mpr k),eI (kQ e x z) (N b) (by rw[h,Nat.max_eq_right k])⟩) (λ k=>⟨eH (N b) (N a) (by omega),eI (kQ e x z) (N a) (by rw[h,Nat.max_eq_left (by omega)])⟩),T⟩|HK q r a c=>exact⟨λ h=>Au (kQ e x q) (kQ e x r) (N a) c (congrArg Int.ofNat h.1) (congrArg Int.ofNat h.2),T⟩|HL z a=>exact⟨λ(h:iD 0 e z=Int.toNat _)=>oP (P:=0<=dI e x a) (λ k=>⟨dG (l:=[]) rfl (I a) k,eI (kQ e x z) (I a) (by rw[h,Int.toNat_of_nonneg k])⟩) (λ k=>⟨eH (m:=[]) (I a) rfl (Int.lt_of_not_ge k),dG (m:=[]) (kQ e x z) rfl (by rw[h];exact Int.le_of_eq (congrArg Int.ofNat (Int.toNat_of_nonpos (Int.le_of_lt (Int.lt_of_not_ge k)))))⟩),T⟩|yb z a b=>exact⟨λ(h:iD 0 x z=min _ _)=>oP (P:=dI e x a<=dI e x b) (λ k=>⟨dG (I a) (I b) k,eI (qA e x z) (I a) (h.trans (Int.min_eq_left k))⟩) (λ k=>⟨eH (I b) (I a) (Int.lt_of_not_ge k),eI (qA e x z) (I b) (h.trans (Int.min_eq_right (Int.le_of_lt (Int.lt_of_not_ge k))))⟩),T⟩|imax z a b=>exact⟨λ(h:iD 0 x z=max _ _)=>oP (P:=dI e x a<=dI e x b) (λ k=>⟨dG (I a) (I b) k,eI (qA e x z) (I b) (h.trans (Int.max_eq_right k))⟩) (λ k=>⟨eH (I b) (I a) (Int.lt_of_not_ge k),eI (qA e x z) (I a) (h.trans (Int.max_eq_left (Int.le_of_lt (Int.lt_of_not_ge k))))⟩),T⟩|HM q r a c=>exact⟨λ h=>Au (qA e x q) (qA e x r) (I a) c h.1 h.2,T⟩
def AG(e:List Nat)(x:List Int)(G:List (List Int)):Prop:=∀i,0<=EV e x (iD [] G i)
theorem nH{l:List Int}{G:List (List Int)}(h:0<=EV e x l)(g:AG e x G):AG e x (l::G):=λ i=>Nat.rec h (λ i _=>g i) i
theorem uK{G:List (List Int)}(g:AG e x G)(J:Nat):∀(m s:Nat)(k:List Int->Nat->Option Nat),(∀l s,0<=EV e x l->k l s=some J->False)->HN G m s k=some J->False:=λ m=>Nat.rec (λ s k h q=>h [] s (Int.le_refl 0) q) (λ m Z s k h q=>Z _ (λ l s=>k (mH (nF _ _) l) s) (λ l s p q=>h _ s (by rw[kP,jG];exact Int.add_nonneg (Int.mul_nonneg (Int.natCast_nonneg _) (g _)) p) q) q) m
theorem rU:∀(l:List Int)(v:Nat->Int),nG l=true->ev v l=0:=λ l=>List.rec (λ _ _=>rfl) (λ a l J v h=>by
 by_cases z:a=0;.have h:(Bool.rec false (nG l) (decide (a=0)):Bool)=true:=h;rw[decide_eq_true z]at h;show a*v 0+ev _ l=0;rw[J _ h,z,Int.zero_mul];rfl
 .have h:(Bool.rec false (nG l) (decide (a=0)):Bool)=true:=h;rw[decide_eq_false z]at h;exact nomatch h) l
theorem Bh{l:List Int}{s J:Nat}(p:0<=EV e x l)(q:fin l s=some J):False:=by
 cases l with
  |nil=>exact nomatch q
  |cons a r=>
   have q:(Bool.rec none (Bool.rec none (some s) (nG r)) (decide (a<0)):Option Nat)=some J:=q;have p:0<=a*1+ev _ r:=p;by_cases z:a<0;.cases h:nG r with|false=>rw[h,decide_eq_true z]at q;exact nomatch q|true=>rw[rU r _ h]at p;omega
   .rw[decide_eq_false z]at q;exact nomatch q
theorem Bi{d J:Nat}{l:List Int}{k:List Int->Option Nat}(p:0<=EV e x l)(h:∀l,0<=EV e x l->k l=some J->False)(q:cut d l k=some J):False:=by cases l with|nil=>exact nomatch q|cons a r=>have q:(Bool.rec none (k ((a/Int.ofNat (d+1))::Ea (Int.ofNat (d+1)) r)) (nG (mH r (nF (-Int.ofNat (d+1)) (Ea (Int.ofNat (d+1)) r)))):Option Nat)=some J:=q;cases z:nG (mH r (nF (-Int.ofNat (d+1)) (Ea (Int.ofNat (d+1)) r)))with|false=>rw[z]at q;exact nomatch q|true=>rw[z]at q;refine h _ ?_ q;have p:0<=a*1+ev (λ j=>va e x (j+1)) r:=p;have y:=rU _ (λ j=>va e x (j+1)) z;rw[Ao,Ap,Int.neg_mul]at y;show 0<=(a/Int.ofNat (d+1))*1+ev (λ j=>va e x (j+1)) (Ea _ r);rw[Int.mul_one]at p⊢;rw[<-Int.add_mul_ediv_left a _ (λ h=>nomatch h:Int.ofNat (d+1)≠0)];exact Int.ediv_nonneg (by omega) (Int.natCast_nonneg _)
theorem En(J:Nat):∀(t:Nat)(G:List (List Int))(s:Nat),AG e x G->lf t G s=some J->False:=λ t=>Nat.rec (λ G s g q=>uK g J _ _ fin (λ l s p q=>Bh p q) q) (λ t Z G s g q=>uK g J _ _ _ (λ l s p q=>Bi p (λ l p q=>Z _ s (nH p g) q) q) q) t
theorem Eo(r:AR):∀{k:List (List Int)->Nat->Option Nat},(∀G s J,AG e x G->k G s=some J->False)->RH e x r->∀{G:List (List Int)}{s J:Nat},AG e x G->ck r k G s=some J->False:=by induction r with|tt=>exact λ h _ _ _ _ g q=>h _ _ _ g q|ff=>exact λ _ f=>f.elim|c l=>exact λ h p _ _ _ g q=>h _ _ _ (nH p g) q|and a b Z Y=>exact λ h p _ _ _ g q=>Z (λ G s J g q=>Y h p.2 g q) p.1 g q|or a b Z Y=>intro k h p G s J g q;have q:(Nat.rec (k G (s/64)) (λ _ _=>Option.rec none (λ s=>ck b k G s) (ck a k G (s/64))) (s%64):Option Nat)=some J:=q;cases y:s%64 with|zero=>rw[y]at q;exact h _ _ _ g q|succ m=>rw[y]at q;cases z:ck a k G (s/64)with|none=>rw[z]at q;exact nomatch q|some U=>rw[z]at q;exact p.elim (λ p=>Z h p g z) (λ p=>Y h p g q)
end
theorem Bj(e:List Nat)(x:List Int):∀m,AG e x (HO m):=λ m=>Nat.rec (λ i=>Int.le_refl 0) (λ m J=>nH ((kQ e x m).symm▸Int.natCast_nonneg _) J) m
def pB{J:Type}:Nat->Nat->(Nat->Nat->J)->J|0,s,k=>k 0 s|m+1,s,k=>nx s λ d s=>pB m s λ c s=>k (d+64*c) s
def pT{J:Type}(z:J):Nat->Nat->(AT->Nat->J)->J|0,_,_=>z|f+1,s,k=>nx s λ d s=>cond (Nat.ble d 15) (k (.n d) s) (cond (Nat.ble d 23) (k (.i (d-16)) s) (cond (Nat.ble 31 d) (k (.k (d-31)) s) (cond (Nat.beq d 24) (pT z f s λ a s=>pT z f s λ b s=>k (.add a b) s) (cond (Nat.beq d 25) (pT z f s λ a s=>pT z f s λ b s=>k (.sub a b) s) (cond (Nat.beq d 26) (nx s λ c s=>pT z f s λ a s=>k (.ml c a) s) (cond (Nat.beq d 27) (nx s λ c s=>pT z f s λ a s=>k (.mr a c) s) (cond (Nat.beq d 28) (pT z f s λ a s=>k (.cast a) s) (cond (Nat.beq d 29) (pT z f s λ a s=>k (.neg a) s) (nx s λ m s=>pB m s λ c s=>k (.k c) s)))))))))
def uL{J:Type}(z:J)(f s:Nat)(c:AT->AT->AF)(k:AF->Nat->J):J:=pT z f s λ a s=>pT z f s λ b s=>k (c a b) s
def pF{J:Type}(z:J):Nat->Nat->(AF->Nat->J)->J|0,_,_=>z|f+1,s,k=>nx s λ d s=>cond (Nat.beq d 11) (pF z f s λ a s=>pF z f s λ b s=>k (.imp a b) s) (cond (Nat.beq d 1) (uL z f s .HG k) (cond (Nat.beq d 2) (uL z f s .ltN k) (cond (Nat.beq d 3) (uL z f s .HH k) (cond (Nat.beq d 4) (uL z f s .HI k) (cond (Nat.beq d 5) (uL z f s .ltI k) (cond (Nat.beq d 6) (uL z f s .HJ k) (cond (Nat.beq d 7) (pF z f s λ a s=>k (.not a) s) (cond (Nat.beq d 8) (pF z f s λ a s=>pF z f s λ b s=>k (.and a b) s) (cond (Nat.beq d 9) (pF z f s λ a s=>pF z f s λ b s=>k (.or a b) s) (cond (Nat.beq d 10) (pF z f s λ a s=>pF z f s λ b s=>k (.iff a b) s) (cond (Nat.beq d 12) (nx s λ y s=>uL z f s (.x9 y) k) (cond (Nat.beq d 13) (nx s λ y s=>uL z f s (.x_ y) k) (cond (Nat.beq d 14) (nx s λ y s=>uL z f s (.ya y) k) (cond (Nat.beq d 15) (nx s λ q s=>nx s λ r s=>nx s λ c s=>pT z f s λ a s=>k (.HK q r a c) s) (cond (Nat.beq d 16) (nx s λ y s=>pT z f s λ a s=>k (.HL y a) s) (cond (Nat.beq d 17) (nx s λ y s=>uL z f s (.yb y) k) (cond (Nat.beq d 18) (nx s λ y s=>uL z f s (.imax y) k) (cond (Nat.beq d 19) (nx s λ q s=>nx s λ r s=>nx s λ c s=>pT z f s λ a s=>k (.HM q r a c) s) (k .ff s)))))))))))))))))))
def rd(N:Nat):AF:=pF .ff 99 (N/64) λ f _=>f
def rs(N:Nat):Nat:=pF 0 99 (N/64) λ _ s=>s
def Kf(N:Nat):Bool:=Option.rec false (λ _=>true) (ck (tR (rd N) false) (λ G s=>nx s λ t s=>lf t G s) (HO (N%64)) (rs N))
end Y
open Y in structure AR(N:Nat):Prop where
 r:∀(e:List Nat)(x:List Int),dF e x (rd N)
theorem dj{J:Type}{c:Prop}{_:Decidable c}{a b:J}:(c->(if c then a else b)=a)/\(¬c->(if c then a else b)=b):=⟨λ h=>if_pos h,λ h=>if_neg h⟩
open Y in theorem zA(N:Nat)(h:autoParam (Kf N=true) krf):AR N:=⟨λ e x=>Classical.byContradiction λ n=>by cases z:ck (tR (rd N) false) (λ G s=>nx s λ t s=>lf t G s) (HO (N%64)) (rs N)with|none=>have h:(Option.rec false (λ _=>true) (ck (tR (rd N) false) (λ G s=>nx s λ t s=>lf t G s) (HO (N%64)) (rs N)):Bool)=true:=h;rw[z]at h;exact nomatch h|some s=>exact Eo _ (λ G s J g q=>En J _ _ _ g q) ((Em (rd N)).2 n) (Bj e x _) z⟩
theorem bf{p:Prop}(h:∀G:Prop,(p->G)->G):p:=h p id
theorem Bk{d:Int}{p g:Nat}:min (d+(p:Int)) (d+g-1+1)=d+((min p g:Nat):Int):=by
 rcases Nat.le_total p g with h|h;.rw[Nat.min_eq_left h];exact Int.min_eq_left (by exact"*$'I=iPQ|Q=mU/m2" h)
 .rw[Nat.min_eq_right h];exact(Int.min_eq_right (by exact"I1^jF'YcN'.69Rl2" h)).trans (by exact"5sJ$pPI,=Sj!,Uh")
theorem Bl{d:Int}{q m:Nat}(J:1<=d):max (d+(q:Int)) ((if m=0 then 0 else d+m-1)+1)=d+((max (q+1) (m+1):Nat):Int)-1:=by
 rcases Nat.le_total q m with h|h;.
  rw[Nat.max_eq_right (Nat.succ_le_succ h)];by_cases z:m=0;.rw[if_pos z];exact(Int.max_eq_left (by exact")^aBd?Vli%&m)3$" J)).trans (by exact",.Bupv7h4$5pvoQ+_4(k9vYx" h z)
  .rw[if_neg z];exact(Int.max_eq_right (by exact"*$'I=iPQ|Q=mU/m2" h)).trans (by exact"I(t,;;ZdzO>)$'2lXy(")
 .
  rw[Nat.max_eq_left (Nat.succ_le_succ h)];by_cases z:m=0;.rw[if_pos z];exact(Int.max_eq_left (by exact")^aBd?Vli%&m)3$" J)).trans (by exact"Ri&KrNL}n[9(1Uh")
  .rw[if_neg z];exact(Int.max_eq_left (by exact"I1^jF'YcN'.69Rl2" h)).trans (by exact"Ri&KrNL}n[9(1Uh")
theorem Bm{d:Int}{p g m:Nat}(J:1<=d):max (min (d+(p:Int)) (d+g-1+1)) ((if m=0 then 0 else d+m-1)+1)=d+((max (min (p+1) (g+1)) (m+1):Nat):Int)-1:=by rw[Bk,Bl J,Nat.add_min_add_right]
theorem JH{s:Nat}(h:s<=2)(a:¬s=0)(b:¬s=2):s=1:=by exact"P{<[!>KU!c)Py/[hTm8piise'" h a b
theorem Ih{s:Nat}(h:s<=2)(b:¬s=2):s<=1:=Nat.le_of_lt_succ (Nat.lt_of_le_of_ne h b)
theorem ye{x y n:Int}(J:x+n%3*2<=y):x<=y:=by exact"ZydFL`+c&)x9$8iq6Cz06'" [] [_,_,_,n/3,_] ⟨rfl,rfl⟩ J
theorem yf{x y n k:Int}(J:y<=x+n%3*2+4*k):y<=x+4*(k+1):=by exact"z_ruNV*BA_OR~j9`k~'BLVc&[j9F6CfP#" [] [_,_,_,_,n/3,_] ⟨rfl,rfl⟩ J
theorem yg{x y n:Int}(J:y%2=(x+n%3*2)%2):y%2=x%2:=J.trans (Int.add_mul_emod_self_right x _ 2)
theorem Bn{k n u:Nat}(h:k<=n-(u-1))(r:u=n+1)(z:¬k=0):False:=by exact"kJr7R3!{ma#aqrdX,o`9#K%Q2yMp1vF'}?uR,#" [_,_,_,u-1,n-(u-1)] [] rfl rfl h r z
theorem yh{B n s:Nat}(h:B<=n-1-(s-1))(J:n<=s+3)(Z:1<=s):B<=3:=by exact"<s*Ap<=yZn3#hv=?u;(]:HDQw:ycb9!#1Q*^+G+oFN{2CsQqMkWQ*0" [_,_,n-1,_,s-1,n-1-(s-1)] [] rfl rfl rfl h J
theorem Bo{J Z k:Nat}(U:J<Z)(Y:k+1<Z):(if(if J+1<Z then J+1 else 0)+k<Z then(if J+1<Z then J+1 else 0)+k else(if J+1<Z then J+1 else 0)+k-Z)=if J+(k+1)<Z then J+(k+1)else J+(k+1)-Z:=by
 by_cases a:J+1<Z;.rw[if_pos a,Nat.add_assoc,Nat.add_comm 1 k]
 .have e:Z=J+1:=Nat.le_antisymm (Nat.not_lt.mp a) U;rw[if_neg a,if_pos (by exact"~oG>'?%F$p$" Y),if_neg (by exact"Qhdc&{D'Wb#.Dd" e)];exact"wR*myP8|VQDF`fdrhG!uu1S,21" rfl e
theorem yi{x y:Int}(h1:0<=x/\x<256)(h2:0<=y/\y<256)(h:x.toNat%2^8=y.toNat%2^8):x=y:=by
 have a:x.toNat<256:=by exact"]F4~bhLTA|t6VA41KoJ>W7Q#" rfl h1
 have b:y.toNat<256:=by exact"]F4~bhLTA|t6VA41KoJ>W7Q#" rfl h2
 have h:x.toNat%256=y.toNat%256:=h;rw[Nat.mod_eq_of_lt a,Nat.mod_eq_of_lt b]at h;exact"p#UnMk:;UK,U?omu0kzVJdoW&pH>V5^^NDne$lXIS`O5%rAC#" [x.toNat,y.toNat] [_,_] rfl rfl h1 h2 h
theorem Ep{u n C:Nat}(h:u+(n+1)<C):u+1+n<C:=by exact"QgGMnr(3mBJ5/!" h
theorem Er{u n C:Nat}(h:u+3*(n+1)<C):u+1+3*n<C:=by exact"T#[s[.99$txMXs(!'$" h
theorem Et{u n C:Nat}(h:u+12*(n+1)+40<C):u+3+12*n+40<C:=by exact"B;QqdY$ZKq.QVU^!ZOMkLC<7YW" h
theorem Eu{u n C:Nat}(h:u+3*(n+1)<C):u+1+3*n+1<C:=by exact"WJe,G_tJH9Z4IdW~;|8" h
theorem Ew{u n C:Nat}(h:u+12*(n+1)+40<C):u+3+12*n+41<C:=by exact"y<dUa,4wY0Tw9aGfvoAi9P+W/#&" h
theorem Ex{u n C:Nat}(h:u+3*n+1<C):u+1+3*n<C:=by exact"U.y?YqU9$txMXs(!'$" h
theorem Ey{u n C:Nat}(h:u+12*n+41<C):u+1+12*n+40<C:=by exact"3EqOm>t9A.iW_w|5_.Q2Jd$u" h
theorem uM{n:Nat}{i:Int}(h:¬i+(n:Int)<0)(J:i<0):i+(n:Int)=max 0 (min (i+n) n):=by rw[Int.min_eq_left (by exact"vP>x&7mUe>($%" J),Int.max_eq_right (by exact"`{*SE]DD<4Uu>_4#" h)]
theorem tx{n:Nat}{i:Int}(h:i+(n:Int)<0):(0:Int)=max 0 (min (i+n) n):=by rw[Int.min_eq_left (by exact"NBfzCrz13]Bt/Yf#!" h),Int.max_eq_left (by exact"b*G?np,fV,:<82#" h)]
theorem iF{n:Nat}(h:n<=1000):(n:Int)<2^63:=by have:(n:Int)<=1000:=Int.ofNat_le.mpr h;exact Int.lt_of_le_of_lt this (by decide)
theorem kS{i:Int}{n:Nat}(h:i.toNat<n)(J:n<=1000):i<2^63:=by have a:i<=i.toNat:=Int.self_le_toNat i;exact Int.lt_of_le_of_lt a (iF (Nat.le_of_lt (Nat.lt_of_lt_of_le h J)))
theorem oQ{i:Int}{n:Nat}(h:0<=i+(n:Int)):-(n:Int)<=i:=by exact"7J7$L7k.YnFpxQ#" h
theorem Bp{i:Int}(h:-1099511627776<i/\i<1099511627776):-2^63<=i:=Int.le_trans (by decide) (Int.le_of_lt h.1)
theorem Bq{i:Int}(h:-1099511627776<i/\i<1099511627776):i<2^63:=Int.lt_trans h.2 (by decide)
theorem uN{i:Int}{N:Nat}(h:-(N:Int)<i/\i<N):i.natAbs<N:=by cases i with|ofNat n=>exact Int.ofNat_lt.mp h.2|negSucc n=>exact Int.ofNat_lt.mp (Int.lt_of_neg_lt_neg h.1)
theorem Br{i:Int}(h:-1099511627776<i/\i<1099511627776):i.natAbs<2^40:=uN (N:=1099511627776) h
theorem Bs{i:Int}(h:-18446744073709551616<i/\i<18446744073709551616):i.natAbs<2^64:=uN (N:=18446744073709551616) h
theorem Av{o n x C:Nat}(h:o+2000*(n+1)<=C)(J:x<=1000):o+x<=C:=Nat.le_trans (Nat.add_le_add_left (Nat.le_trans J (Nat.le_trans (by decide:1000<=2000*1) (Nat.mul_le_mul_left 2000 (Nat.succ_le_succ (Nat.zero_le n))))) o) h
theorem Aw{o n x C:Nat}(h:o+2000*(n+1)<=C)(J:x<=1000):o+x+2000*n<=C:=by have h:o+(2000*n+2000)<=C:=h;rw[Nat.add_assoc,Nat.add_comm x];exact Nat.le_trans (Nat.add_le_add_left (Nat.add_le_add_left (Nat.le_trans J (by decide)) _) _) h
theorem Ez{n C:Nat}(h:n<=100)(J:5000000<=C):0+2000*(n+1+1)<=C:=by rw[Nat.zero_add];exact Nat.le_trans (Nat.mul_le_mul_left 2000 (Nat.succ_le_succ (Nat.succ_le_succ h))) (Nat.le_trans (by decide:2000*(100+1+1)<=5000000) J)
theorem Bt{d:Int}{a b:Nat}(J:1<=d)(h:1<=b)(e:a=0):0<d+(b:Int)-1↔a<b:=by exact":s>WG3$aOu>XLytE'=1+n<U1FPW" J h e
theorem EA{y z a b c:Int}(h:y<=a)(k:a<=b)(m:b<=c):y<=c:=Int.le_trans h (Int.le_trans k m)
theorem Bu{a b:Int}(e:a=b)(h:a%2=1)(k:b%2=0):False:=by rw[e,k]at h;exact absurd h (by decide)
theorem Bv{a b:Int}(h:a<b):(b-a-1)/1+1=((b-a).toNat:Int):=by rw[Int.ediv_one,Int.sub_add_cancel,Int.toNat_of_nonneg (Int.le_of_lt (Int.sub_pos_of_lt h))]
theorem Bw{a b:Int}(h:¬a<b):(0:Int)=((b-a).toNat:Int):=by rw[Int.toNat_of_nonpos (by exact"_dHQP[^Q[<?jG'" h)];rfl
theorem Ax{a b:Nat}(h:a<=1000)(k:b<=1000):a+b<=5000:=Nat.le_trans (Nat.add_le_add h k) (by decide)
theorem EB{d:Int}{p a:Nat}(h:p<=a+1):d+(p:Int)-1<=d+a:=by exact"RouR>mCVa[(69Rl2!" h
theorem Bx{d:Int}{p a:Nat}(h:¬p<=a+1):¬d+(p:Int)-1<=d+a:=by exact"c7{tQ$/Sm;05i4TVy+" h
theorem By{d:Int}{b:Nat}:d+(b:Int)-1+1=d+((b+1:Nat):Int)-1:=by exact"I(t,;;ZdzO>)$'2lXy("
theorem EC{u m s:Nat}(Z:u=m+1)(J:s+1<=m)(h:u-2<s):False:=by exact"BH$^?zqbKeF0b<^H}Ok~!a!tM%" [_,_,_,u-2] [] rfl Z J h
/-! choosers: the witnesses of nested existentials without a binder -/
def c2_1{J Y:Type}{p:J->Y->Prop}(h:∃Z U,p Z U):J:=h.choose
def c2_2{Y J:Type}{p:Y->J->Prop}(h:∃Z U,p Z U):J:=h.choose_spec.choose
theorem c2_s{Y Z:Type}{p:Y->Z->Prop}(h:∃J U,p J U):p (c2_1 h) (c2_2 h):=h.choose_spec.choose_spec
def c3_1{J U Y:Type}{p:J->U->Y->Prop}(h:∃Z Q W,p Z Q W):J:=h.choose
def c3_2{U J Y:Type}{p:U->J->Y->Prop}(h:∃Z Q W,p Z Q W):J:=c2_1 h.choose_spec
def c3_3{U Y J:Type}{p:U->Y->J->Prop}(h:∃Z Q W,p Z Q W):J:=c2_2 h.choose_spec
theorem c3_s{U Y Z:Type}{p:U->Y->Z->Prop}(h:∃J Q W,p J Q W):p (c3_1 h) (c3_2 h) (c3_3 h):=c2_s h.choose_spec
def c4_1{J Q W Z:Type}{p:J->Q->W->Z->Prop}(h:∃Y O V U,p Y O V U):J:=h.choose
def c4_2{Q J W Z:Type}{p:Q->J->W->Z->Prop}(h:∃Y O V U,p Y O V U):J:=c3_1 h.choose_spec
def c4_3{Q W J Z:Type}{p:Q->W->J->Z->Prop}(h:∃Y O V U,p Y O V U):J:=c3_2 h.choose_spec
def c4_4{Q W U J:Type}{p:Q->W->U->J->Prop}(h:∃Z O V Y,p Z O V Y):J:=c3_3 h.choose_spec
theorem c4_s{Q W U J:Type}{p:Q->W->U->J->Prop}(h:∃Z O V Y,p Z O V Y):p (c4_1 h) (c4_2 h) (c4_3 h) (c4_4 h):=c3_s h.choose_spec
set_option genCtorIdx true in inductive V where|none|bool(b:Bool)|int(i:Int)|ig(l:List Int)|ref(J Z:Nat)|tup(l:List V)|lst(l:List V)|obj(C:Nat)(Y:List (Nat×V))deriving Inhabited
theorem V.Ii{i j:Int}(h:V.int i=V.int j):i=j:=by cases h;rfl
theorem V.ED{C D:Nat}{Z J:List (Nat×V)}(h:V.obj C Z=V.obj D J):Z=J:=by cases h;rfl
set_option genCtorIdx true in inductive Cell where|list(l:List V)|inst(C:Nat)(J:List (Nat×V))|dict(Z:List (Nat×V))deriving Inhabited
structure Hp where
 cells:List (Nat×Nat×Cell)
 nx:Nat
abbrev Loc:=List (Nat×V)
inductive PE where|c(v:V)|loc(x:Nat)|attr(e:PE)(f:Nat)|bin(R:Operator)(a b:PE)|oR(J:Nat)(a b:PE)|neg(e:PE)|not(e:PE)|and(a b:PE)|or(a b:PE)|cmp(R:CmpOp)(a b:PE)|idx(a i:PE)|key(a:PE)(k:Nat)|slice(a U W:PE)|fU(J:Nat)(a U W:PE)|tup(l:List PE)|lst(l:List PE)|eJ(J:Nat)(l:List PE)|dict(J:Nat)(G:List Nat)(l:List PE)|call(f:Nat)(Y:Option Nat)(Z:List PE)|new(C:Nat)(Y:Option Nat)(Z:List PE)|aw(e:PE)(m:Nat)(Z:List PE)|append(e x:PE)|pop(e k:PE)|reverse(e:PE)|len(e:PE)|min2(a b:PE)|max2(a b:PE)|nI(e:PE)|fb(e:PE)|all(e:PE)|sorted(e:PE)|comp(D:PE)(X:Option Nat)(Q:List Nat)(N:PE)(O:PE)|mj(U W:PE)
inductive PS where|asg(x:Nat)(e:PE)|ay(o:PE)(f:Nat)(e:PE)|dg(o:PE)(k:Nat)(e:PE)|mq(o i e:PE)|tA(Q:List Nat)(e:PE)|aug(x:Nat)(U:Operator)(e:PE)|ij(o:PE)(f:Nat)(U:Operator)(e:PE)|nJ(o:PE)(k:Nat)(U:Operator)(e:PE)|ite(c:PE)(a b:List PS)|iG(c:PE)(J:List PS)|oT(x:Nat)(W:PE)(J:List PS)|ret(e:PE)|gX(e:PE)|ik|expr(e:PE)|brk|raise(C:Nat)(Y:List PE)|try(J:List PS)(V:List Nat)(Z:List PS)
set_option genCtorIdx true in inductive Res(Z:Type)where|ok(a:Z)(J:Hp)|exc(C:Nat)(J:Hp)|stuck
def Res.bind{Z J:Type}(r:Res Z)(f:Z->Hp->Res J):Res J:=match r with|.ok a hp=>f a hp|.exc C hp=> .exc C hp|.stuck=> .stuck
set_option genCtorIdx true in inductive Out where|az|brk|ret(v:V)|exc(C:Nat)(J:Bool)
set_option genCtorIdx true in inductive SR where|mk(o:Out)(J:Loc)(Z:Hp)|stuck
def Res.toS{Z:Type}(r:Res Z)(J:Loc)(f:Z->Hp->SR):SR:=match r with|.ok a hp=>f a hp|.exc C hp=> .mk (.exc C false) J hp|.stuck=> .stuck
def Res.JI{J:Type}(o:Option J)(Z:Hp):Res J:=match o with|some a=> .ok a Z|none=> .stuck
/-! heap -/
def cu(J:Nat):List (Nat×Nat×Cell)->Option (Nat×Cell)|[]=>none|(s,g,c)::r=>if s=J then some (g,c)else cu J r
def setC(J:Nat)(c:Cell):List (Nat×Nat×Cell)->List (Nat×Nat×Cell)|[]=>[]|(s,g,Z)::r=>if s=J then(s,g,c)::r else(s,g,Z)::setC J c r
def kT(J:Nat):List (Nat×Nat×Cell)->List (Nat×Nat×Cell)|[]=>[]|(s,g,c)::r=>if s=J then r else(s,g,c)::kT J r
def oU(J Z:Nat)(c:Cell):List (Nat×Nat×Cell)->List (Nat×Nat×Cell)|[]=>[(J,Z,c)]|(s,g,Y)::r=>if s=J then(s,Z,c)::r else(s,g,Y)::oU J Z c r
def Hp.get(Y:Hp)(J Z:Nat):Option Cell:=match cu J Y.cells with|some (g,c)=>if g=Z then some c else none|none=>none
def Hp.set(Z:Hp)(J:Nat)(c:Cell):Hp:=⟨setC J c Z.cells,Z.nx⟩
def Hp.drop(Z:Hp)(J:Nat):Hp:=⟨kT J Z.cells,Z.nx⟩
def Hp.new(Z:Hp)(J:Nat)(c:Cell):Hp:=⟨oU J Z.nx c Z.cells,Z.nx+1⟩
def aQ(f:Nat):List (Nat×V)->Option V|[]=>none|(g,v)::r=>if g=f then some v else aQ f r
def bj(f:Nat)(v:V):List (Nat×V)->List (Nat×V)|[]=>[(f,v)]|(g,w)::r=>if g=f then(g,v)::r else(g,w)::bj f v r
/-! operations on values -/
def lid:Nat:=1000
def a8(J:Hp):V->Option (List V)
 |.lst l=>some l
 |.ref s g=>match J.get s g with|some (.list l)=>some l|_=>none
 |_=>none
def truth(J:Hp):V->Option Bool|.bool b=>some b|.none=>some false|v=>match a8 J v with|some l=>some (!l.isEmpty)|none=>none
def dR(f:V->V->Option Bool):List V->List V->Option Bool
 |[],[]=>some true
 |a::J,b::Y=>match f a b with|some k=>(match dR f J Y with|some Z=>some (k&&Z)|none=>none)|none=>none
 |_,_=>none
def bG:Nat->V->V->Option Bool|0,_,_=>none|_+1,.int a,.int b=>some (decide (a=b))|_+1,.bool a,.bool b=>some (a==b)|_+1,.ig a,.ig b=>some (decide (a=b))|n+1,.tup a,.tup b=>if a.length=b.length then dR (bG n) a b else none|n+1,.lst a,.lst b=>if a.length=b.length then dR (bG n) a b else some false|_+1,_,_=>none
def uH(a b:V):Option Bool:=bG 5 a b
def ew(J:CmpOp)(a b:V):Option Bool:=match J with
 |.Eq=>uH a b
 |.NotEq=>(uH a b).map (!·)
 |.Lt=>match a,b with|.int x,.int y=>some (decide (x<y))|_,_=>none
 |.LtE=>match a,b with|.int x,.int y=>some (decide (x<=y))|_,_=>none
 |.Gt=>match a,b with|.int x,.int y=>some (decide (y<x))|_,_=>none
 |.GtE=>match a,b with|.int x,.int y=>some (decide (y<=x))|.tup [.int x,.int y],.tup [.int z,.int u]=>some (decide (z<x\/(x=z/\u<=y)))|_,_=>none
 |.Is=>match b with|.none=>(match a with|.none=>some true|.bool _=>some false|.int _=>some false|_=>some false)|_=>none
 |.IsNot=>match b with|.none=>(match a with|.none=>some false|_=>some true)|_=>none
 |_=>none
def small(i:Int):Bool:=decide (-1099511627776<i/\i<1099511627776)
def oV(J:Operator)(a b:V):Option V:=match a,b with
 |.int x,.int y=>match J with|.Add=>some (.int (x+y))|.Sub=>some (.int (x-y))|.Mult=>if small x&&small y then some (.int (x*y))else none|.FloorDiv=>if 0<y/\small y then some (.int (x/y))else none|.Mod=>if 0<y/\small y then some (.int (x%y))else none|.Pow=>if 0<=y/\y<=64/\x=2 then some (.int (2^y.toNat))else none|.RShift=>if y=7 then some (.int (x/128))else none|_=>none
 |.lst x,.lst y=>match J with|.Add=>if(x++y).length<=lid then some (.lst (x++y))else none|_=>none
 |_,_=>none
def jX(J:Operator)(a b:V):Option V:=match a,b with
 |.int x,.int y=>match J with|.Add=>some (.int (x+y))|.Sub=>some (.int (x-y))|.RShift=>if y=7 then some (.int (x/128))else none|_=>none
 |_,_=>none
def cY(l:List V)(i:Int):Option V:=if 0<=i then l[i.toNat]? else if 0<=i+l.length then l[(i+l.length).toNat]? else none
def av(n:Nat)(i:Int):Nat:=if i<0 then(if i+n<0 then 0 else(i+n).toNat)else min i.toNat n
def bound(n d:Nat):V->Option Nat|.none=>some d|.int i=>some (av n i)|_=>none
def fV(l:List V)(J Z:V):Option (List V):=match bound l.length 0 J,bound l.length l.length Z with|some a,some b=>some ((l.drop a).take (b-a))|_,_=>none
def intsOf:List V->Option (List Int)|[]=>some []|.int i::r=>(intsOf r).map (i::·)|_::_=>none
def boolsOf:List V->Option (List Bool)|[]=>some []|.bool i::r=>(boolsOf r).map (i::·)|_::_=>none
def nK:List Int->Option Int|[]=>none|a::r=>some (r.foldl (λ m x=>if m<x then x else m) a)
def ao(J Z:Int):List V:=(List.range (Z-J).toNat).map λ(k:Nat)=>V.int (J+(k:Int))
def bN:List V->Bool|[]=>true|.int i::r=>decide (-18446744073709551616<i/\i<18446744073709551616)&&bN r|_::_=>false
def gA(Y:Option Nat)(J:List Nat)(v:V)(Z:Loc):Option Loc:=match Y with|some x=>some ((x,v)::Z)|none=>match v with|.tup l=>if l.length=J.length then some (J.zip l++Z)else none|_=>none
def bg(f:V->Hp->Res (Option V)):List V->Hp->Res (List V)|[],hp=> .ok [] hp|v::r,hp=>match f v hp with|.ok o hp=>(match bg f r hp with|.ok l hp=> .ok (match o with|some x=>x::l|none=>l) hp|_=> .stuck)|_=> .stuck
/-! the evaluator -/
structure aU where
 jH:List (Nat×Nat)
 slots:List (Nat×Nat)
 shift:List Nat
 nM:List Nat
 fields:List (Nat×List Nat)
 meths:List (Nat×List (Nat×Nat))
abbrev kz:=Bool->Nat->Nat->List V->Hp->Res V
def bw{J:Type}(k:Nat):List (Nat×J)->Option J|[]=>none|(a,b)::r=>if a=k then some b else bw k r
def bW(k:Nat):List Nat->Bool|[]=>false|a::r=>if a=k then true else bW k r
def fg(T:aU)(C m:Nat):Option Nat:=match bw C T.meths with|some l=>bw m l|none=>none
def nN(T:aU)(C J:Nat):Option Nat:=match bw C T.slots with|some s=>some (if bW C T.shift then s+J else s)|none=>none
def ey(Z:Hp):V->Option (Nat×List (Nat×V))
 |.obj C J=>some (C,J)
 |.ref s g=>match Z.get s g with|some (.inst C J)=>some (C,J)|_=>none
 |_=>none
def kU(T:aU)(C f:Nat):Bool:=match bw C T.fields with|some l=>bW f l|none=>false
def iq(T:aU)(J:Hp)(f:Nat)(o:V):Option V:=match ey J o with|some (C,Z)=>if kU T C f then aQ f Z else none|none=>none
def iH(T:aU)(J:Hp)(m:Nat)(o:V):Option Nat:=match ey J o with|some (C,Z)=>(match aQ m Z with|some _=>none|none=>fg T C m)|none=>none
def newObj(Q:kz)(T:aU)(X:Bool)(U C:Nat)(Z:List V)(W:Hp):Res V:=match nN T C U,bw C T.jH with
 |some s,some Y=>(Q X Y U (.ref s W.nx::Z) (W.new s (.inst C []))).bind λ r J=>match r with|.none=>if bW C T.nM then(match J.get s W.nx with|some (.inst O N)=> .ok (.obj O N) (J.drop s)|_=> .stuck)else .ok (.ref s W.nx) J|_=> .stuck
 |_,_=> .stuck
def setAttr(T:aU)(J:Hp)(f:Nat)(v o:V):Option Hp:=match o with
 |.ref s g=>match J.get s g with|some (.inst C Z)=>if kU T C f then(if(bj f v Z).length<=40 then some (J.set s (.inst C (bj f v Z)))else none)else none|_=>none
 |_=>none
def ir(J:Hp)(k:Nat)(v o:V):Option Hp:=match o with
 |.ref s g=>match J.get s g with|some (.dict Z)=>if(bj k v Z).length<=40 then some (J.set s (.dict (bj k v Z)))else none|_=>none
 |_=>none
def keyOf(J:Hp)(k:Nat):V->Option V
 |.ref s g=>match J.get s g with|some (.dict Z)=>aQ k Z|_=>none
 |_=>none
def nO(J:Hp)(v o:V)(i:Int):Option Hp:=match o with
 |.ref s g=>match J.get s g with|some (.list l)=>if 0<=i/\i<l.length then some (J.set s (.list (l.set i.toNat v)))else none|_=>none
 |_=>none
def af{Z J:Type}(o:Option Z)(f:Z->Res J):Res J:=match o with|some a=>f a|none=> .stuck
def a6(J:Hp):V->Option (List V)
 |.ref s g=>match J.get s g with|some (.list l)=>some l|_=>none
 |_=>none
def cj(J:Hp)(l:List V):V->Hp|.ref s _=>J.set s (.list l)|_=>J
def lenOf(J:Hp):V->Option Nat|.ig l=>some l.length|.tup l=>some l.length|v=>(a8 J v).map (·.length)
def nP(J:Hp)(a i:V):Option V:=match a8 J a,i with|some l,.int k=>cY l k|_,_=>none
def iI:V->Option V|.lst l=>(match intsOf l with|some J=>if J=[]\/J=[1,2]then some (.lst l)else none|none=>none)|_=>none
mutual noncomputable def a5(W:kz)(T:aU)(U:Bool)(Y:Nat):PE->Loc->Hp->Res V
 |.c v,_,J=> .ok v J
 |.loc x,Z,J=>af (aQ x Z) λ v=> .ok v J
 |.attr e f,Z,J=>(a5 W T U Y e Z J).bind λ o J=>af (iq T J f o) λ v=> .ok v J
 |.bin K a b,Z,J=>(a5 W T U Y a Z J).bind λ x J=>(a5 W T U Y b Z J).bind λ y J=>af (oV K x y) λ v=> .ok v J
 |.oR s a b,Z,J=>(a5 W T U Y a Z J).bind λ x J=>(a5 W T U Y b Z J).bind λ y J=>match a8 J x,a8 J y with|some l,some r=>if(l++r).length<=lid then .ok (.ref s J.nx) (J.new s (.list (l++r)))else .stuck|_,_=> .stuck
 |.neg e,Z,J=>(a5 W T U Y e Z J).bind λ x J=>match x with|.int i=> .ok (.int (-i)) J|_=> .stuck
 |.not e,Z,J=>(a5 W T U Y e Z J).bind λ v J=>af (truth J v) λ b=> .ok (.bool (!b)) J
 |.and a b,Z,J=>(a5 W T U Y a Z J).bind λ x J=>match truth J x with|some true=>a5 W T U Y b Z J|some false=> .ok x J|none=> .stuck
 |.or a b,Z,J=>(a5 W T U Y a Z J).bind λ x J=>match truth J x with|some true=> .ok x J|some false=>a5 W T U Y b Z J|none=> .stuck
 |.cmp K a b,Z,J=>(a5 W T U Y a Z J).bind λ x J=>(a5 W T U Y b Z J).bind λ y J=>af (ew K x y) λ v=> .ok (.bool v) J
 |.idx a i,Z,J=>(a5 W T U Y a Z J).bind λ x J=>(a5 W T U Y i Z J).bind λ y J=>af (nP J x y) λ v=> .ok v J
 |.key a k,Z,J=>(a5 W T U Y a Z J).bind λ x J=>af (keyOf J k x) λ v=> .ok v J
 |.slice a lo N,Z,J=>(a5 W T U Y a Z J).bind λ x J=>(a5 W T U Y lo Z J).bind λ l J=>(a5 W T U Y N Z J).bind λ h J=>match a8 J x with|some xs=>af (fV xs l h) λ r=> .ok (.lst r) J|none=> .stuck
 |.fU s a lo N,Z,J=>(a5 W T U Y a Z J).bind λ x J=>(a5 W T U Y lo Z J).bind λ l J=>(a5 W T U Y N Z J).bind λ h J=>match a8 J x with|some xs=>af (fV xs l h) λ r=> .ok (.ref s J.nx) (J.new s (.list r))|none=> .stuck
 |.tup l,Z,J=>(bc W T U Y l Z J).bind λ O J=> .ok (.tup O) J
 |.lst l,Z,J=>(bc W T U Y l Z J).bind λ O J=> .ok (.lst O) J
 |.eJ s l,Z,J=>(bc W T U Y l Z J).bind λ O J=> .ok (.ref s J.nx) (J.new s (.list O))
 |.dict s H l,Z,J=>(bc W T U Y l Z J).bind λ O J=>if H.length=O.length then .ok (.ref s J.nx) (J.new s (.dict (H.zip O)))else .stuck
 |.call f o Q,Z,J=>(bc W T U Y Q Z J).bind λ O J=>W U f (match o with|some d=>d|none=>Y) O J
 |.new C o Q,Z,J=>(bc W T U Y Q Z J).bind λ O J=>newObj W T U (match o with|some d=>d|none=>Y) C O J
 |.aw e m Q,Z,J=>(a5 W T U Y e Z J).bind λ o J=>af (iH T J m o) λ f=>(bc W T U Y Q Z J).bind λ O J=>W U f Y (o::O) J
 |.append e x,Z,J=>(a5 W T U Y e Z J).bind λ o J=>af (a6 J o) λ _=>(a5 W T U Y x Z J).bind λ v J=>af (a6 J o) λ l=>if l.length<lid then .ok .none (cj J (l++[v]) o)else .stuck
 |.pop e k,Z,J=>(a5 W T U Y e Z J).bind λ o J=>af (a6 J o) λ _=>(a5 W T U Y k Z J).bind λ i J=>af (a6 J o) λ l=>match i with|.int i=>if 0<=i then af l[i.toNat]? λ v=> .ok v (cj J (l.eraseIdx i.toNat) o)else .stuck|_=> .stuck
 |.reverse e,Z,J=>(a5 W T U Y e Z J).bind λ o J=>af (a6 J o) λ l=> .ok .none (cj J l.reverse o)
 |.len e,Z,J=>(a5 W T U Y e Z J).bind λ o J=>af (lenOf J o) λ n=> .ok (.int n) J
 |.min2 a b,Z,J=>if U then .stuck else(a5 W T U Y a Z J).bind λ x J=>(a5 W T U Y b Z J).bind λ y J=>match x,y with|.int i,.int j=> .ok (.int (min i j)) J|_,_=> .stuck
 |.max2 a b,Z,J=>if U then .stuck else(a5 W T U Y a Z J).bind λ x J=>(a5 W T U Y b Z J).bind λ y J=>match x,y with|.int i,.int j=> .ok (.int (max i j)) J|_,_=> .stuck
 |.nI e,Z,J=>if U then .stuck else(a5 W T U Y e Z J).bind λ o J=>match o with|.lst l=>af ((intsOf l).bind nK) λ i=> .ok (.int i) J|_=> .stuck
 |.fb e,Z,J=>if U then .stuck else(a5 W T U Y e Z J).bind λ o J=>match o with|.lst [.int i]=>if 0<=i/\i<256 then .ok (.ig [i]) J else .stuck|_=> .stuck
 |.all e,Z,J=>if U then .stuck else(a5 W T U Y e Z J).bind λ o J=>match o with|.lst l=>af (boolsOf l) λ F=> .ok (.bool (F.all id)) J|_=> .stuck
 |.sorted e,Z,J=>(a5 W T U Y e Z J).bind λ o J=>af (iI o) λ v=> .ok v J
 |.comp L G R I D,Z,J=>if U then .stuck else(a5 W T U Y I Z J).bind λ o J=>match o with|.lst l=>(bg (λ v J=>match gA G R v Z with|some X=>(a5 W T U Y D X J).bind λ v J=>af (truth J v) λ b=>if b then(a5 W T U Y L X J).bind λ x J=> .ok (some x) J else .ok none J|none=> .stuck) l J).bind λ r J=>if r.length<=lid then .ok (.lst r) J else .stuck|_=> .stuck
 |.mj lo N,Z,J=>(a5 W T U Y lo Z J).bind λ a J=>(a5 W T U Y N Z J).bind λ b J=>match a,b with|.int i,.int j=>if j-i<=1000/\small i/\small j then .ok (.lst (ao i j)) J else .stuck|_,_=> .stuck noncomputable def bc(W:kz)(T:aU)(U:Bool)(Y:Nat):List PE->Loc->Hp->Res (List V)|[],_,J=> .ok [] J|e::r,Z,J=>(a5 W T U Y e Z J).bind λ v J=>(bc W T U Y r Z J).bind λ O J=> .ok (v::O) J end
def Ij(U:kz)(T:aU)(W:Bool)(Y:Nat)(e:PE)(Z:Loc)(J:Hp):Res Bool:=(a5 U T W Y e Z J).bind λ v J=>af (truth J v) λ b=> .ok b J
/-! statements -/
def SR.next(r:SR)(f:Loc->Hp->SR):SR:=match r with|.mk .az J hp=>f J hp|r=>r
def dS(x:Nat)(v:V)(J:Loc):Loc:=bj x v J
def tC:List Nat->List V->Loc->Option Loc|[],[],J=>some J|x::xs,v::Z,J=>tC xs Z (dS x v J)|_,_,_=>none
def kW:V->Option (List V)|.tup l=>some l|_=>none
def dn(Z:Loc->Hp->Res Bool)(Y:Loc->Hp->SR):Nat->Loc->Hp->SR|0,_,_=> .stuck|n+1,J,hp=>match Z J hp with|.ok b hp=>if b then(match Y J hp with|.mk .az J hp=>dn Z Y n J hp|.mk .brk J hp=> .mk .az J hp|.mk (.ret v) J hp=> .mk (.ret v) J hp|_=> .stuck)else .mk .az J hp|_=> .stuck
def jI(x:Nat)(Z:Loc->Hp->SR):List V->Loc->Hp->SR|[],J,hp=> .mk .az J hp|v::r,J,hp=>match Z (dS x v J) hp with|.mk .az J hp=>jI x Z r J hp|.mk .brk J hp=> .mk .az J hp|.mk (.ret v) J hp=> .mk (.ret v) J hp|_=> .stuck
def g9(o:Option α)(f:α->SR):SR:=match o with|some a=>f a|none=> .stuck
def freeze(J:Hp):V->Option (V×Hp)
 |.ref s g=>match J.get s g with|some (.list l)=>some (.lst l,J.drop s)|_=>none
 |_=>none
mutual noncomputable def xT(W:kz)(T:aU)(U:Bool)(Y:Nat):PS->Loc->Hp->SR
 |.asg x e,J,Z=>(a5 W T U Y e J Z).toS J λ v Z=> .mk .az (dS x v J) Z
 |.ay o f e,J,Z=>(a5 W T U Y e J Z).toS J λ v Z=>(a5 W T U Y o J Z).toS J λ ov Z=>g9 (setAttr T Z f v ov) λ Z=> .mk .az J Z
 |.dg o k e,J,Z=>(a5 W T U Y e J Z).toS J λ v Z=>(a5 W T U Y o J Z).toS J λ ov Z=>g9 (ir Z k v ov) λ Z=> .mk .az J Z
 |.mq o i e,J,Z=>(a5 W T U Y e J Z).toS J λ v Z=>(a5 W T U Y o J Z).toS J λ ov Z=>(a5 W T U Y i J Z).toS J λ N Z=>match N with|.int i=>g9 (nO Z v ov i) λ Z=> .mk .az J Z|_=> .stuck
 |.tA xs e,J,Z=>if U then .stuck else(a5 W T U Y e J Z).toS J λ v Z=>g9 (kW v) λ l=>g9 (tC xs l J) λ J=> .mk .az J Z
 |.aug x V e,J,Z=>(a5 W T U Y (.loc x) J Z).toS J λ a Z=>(a5 W T U Y e J Z).toS J λ b Z=>g9 (jX V a b) λ v=> .mk .az (dS x v J) Z
 |.ij o f V e,J,Z=>(a5 W T U Y o J Z).toS J λ ov Z=>g9 (iq T Z f ov) λ a=>(a5 W T U Y e J Z).toS J λ b Z=>g9 (jX V a b) λ v=>g9 (setAttr T Z f v ov) λ Z=> .mk .az J Z
 |.nJ o k V e,J,Z=>(a5 W T U Y o J Z).toS J λ ov Z=>g9 (keyOf Z k ov) λ a=>(a5 W T U Y e J Z).toS J λ b Z=>g9 (jX V a b) λ v=>g9 (ir Z k v ov) λ Z=> .mk .az J Z
 |.ite c a b,J,Z=>(Ij W T U Y c J Z).toS J λ t Z=>if t then iE W T U Y a J Z else iE W T U Y b J Z
 |.iG c body,J,Z=>dn (Ij W T U Y c) (λ J Z=>iE W T U Y body J Z) 64 J Z
 |.oT x O body,J,Z=>if U then .stuck else(a5 W T U Y O J Z).toS J λ o Z=>match o with|.lst l=>jI x (λ J Z=>iE W T U Y body J Z) l J Z|_=> .stuck
 |.ret e,J,Z=>(a5 W T U Y e J Z).toS J λ v Z=> .mk (.ret v) J Z
 |.gX e,J,Z=>(a5 W T U Y e J Z).toS J λ v Z=>g9 (freeze Z v) λ p=> .mk (.ret p.1) J p.2
 |.ik,J,Z=> .mk (.ret .none) J Z
 |.expr e,J,Z=>(a5 W T U Y e J Z).toS J λ _ Z=> .mk .az J Z
 |.brk,J,Z=> .mk .brk J Z
 |.raise C l,J,Z=>if U then .stuck else match bc W T U Y l J Z with|.ok X Z=>if bN X then .mk (.exc C true) J Z else .stuck|_=> .stuck
 |.try body Cs h,J,Z=>match iE W T U Y body J Z with|.mk (.exc C Q) J Z=>if U||Q then .stuck else if bW C Cs then(match iE W T true Y h J Z with|.mk (.exc _ _) _ _=> .stuck|r=>r)else .stuck|r=>r noncomputable def iE(W:kz)(T:aU)(U:Bool)(Y:Nat):List PS->Loc->Hp->SR|[],J,Z=> .mk .az J Z|s::r,J,Z=>(xT W T U Y s J Z).next λ J Z=>iE W T U Y r J Z end
structure bh where
 params:List Nat
 body:List PS
def jJ(W:kz)(T:aU)(Q:Bool)(U:bh)(Y:Nat)(J:List V)(Z:Hp):Res V:=if J.length=U.params.length then(match iE W T Q Y U.body (U.params.zip J) Z with|.mk (.ret v) _ Z=> .ok v Z|.mk .az _ Z=> .ok .none Z|.mk (.exc C _) _ Z=> .exc C Z|_=> .stuck)else .stuck
def bB(T:aU)(Z:List (Nat×bh)):Nat->kz|0=>λ _ _ _ _ _=> .stuck|n+1=>λ W f Y J U=>match bw f Z with|some fn=>jJ (bB T Z n) T W fn Y J U|none=> .stuck
theorem aJ{J:Type}{a:J}{C:Prop}(h:none=some a):C:=by cases h
theorem uO{J:Type}{p:Prop} [Decidable p]{a r:J}{C:Prop}(e:(if p then some a else none)=some r)(h:p->a=r->C):C:=by
 by_cases q:p;.rw[if_pos q]at e;exact h q (Option.some.inj e)
 .rw[if_neg q]at e;exact aJ e
theorem JJ{J:Type}{p:Prop} [Decidable p]{a:Option J}{r:J}{C:Prop}(e:(if p then a else none)=some r)(h:p->a=some r->C):C:=by
 by_cases q:p;.rw[if_pos q]at e;exact h q e
 .rw[if_neg q]at e;exact aJ e
section
variable{J Z:Hp}{v o x:V}{l:List V}{k n d:Nat}{T:aU}{G:Prop}
theorem kX(e:a6 J v=some l)(Y:∀s g,v= .ref s g->J.get s g=some (.list l)->G):G:=by
 cases v with
  |ref s g=>have e:(match J.get s g with|some (.list l)=>some l|_=>none)=some l:=e;cases q:J.get s g with|none=>rw[q]at e;exact aJ e|some c=>rw[q]at e;cases c with|list U=>cases e;exact Y s g rfl q|_=>exact aJ e
  |_=>exact aJ e
theorem uP(e:a8 J v=some l)(h:v= .lst l->G)(Y:∀s g,v= .ref s g->J.get s g=some (.list l)->G):G:=by cases v with|ref s g=>exact kX (v:= .ref s g) e Y|lst U=>cases e;exact h rfl|_=>exact aJ e
theorem uQ{C:Nat}{Y:List (Nat×V)}(e:ey J v=some (C,Y))(h:v= .obj C Y->G)(U:∀s g,v= .ref s g->J.get s g=some (.inst C Y)->G):G:=by
 cases v with
  |ref s g=>have e:(match J.get s g with|some (.inst C Y)=>some (C,Y)|_=>none)=some (C,Y):=e;cases q:J.get s g with|none=>rw[q]at e;exact aJ e|some c=>rw[q]at e;cases c with|inst D W=>cases e;exact U s g rfl q|_=>exact aJ e
  |obj D W=>cases e;exact h rfl
  |_=>exact aJ e
theorem rV(e:keyOf J k v=some x)(U:∀s g Y,v= .ref s g->J.get s g=some (.dict Y)->aQ k Y=some x->G):G:=by
 cases v with
  |ref s g=>have e:(match J.get s g with|some (.dict Y)=>aQ k Y|_=>none)=some x:=e;cases q:J.get s g with|none=>rw[q]at e;exact aJ e|some c=>rw[q]at e;cases c with|dict Y=>exact U s g Y rfl q e|_=>exact aJ e
  |_=>exact aJ e
theorem tD(e:setAttr T J k x o=some Z)(U:∀s g C Y,o= .ref s g->J.get s g=some (.inst C Y)->kU T C k=true->(bj k x Y).length<=40->J.set s (.inst C (bj k x Y))=Z->G):G:=by
 cases o with
  |ref s g=>have e:(match J.get s g with|some (.inst C Y)=>if kU T C k then(if(bj k x Y).length<=40 then some (J.set s (.inst C (bj k x Y)))else none)else none|_=>none)=some Z:=e;cases q:J.get s g with|none=>rw[q]at e;exact aJ e|some c=>rw[q]at e;cases c with|inst C Y=>exact JJ e λ z e=>uO e λ y e=>U s g C Y rfl q z y e|_=>exact aJ e
  |_=>exact aJ e
theorem uR(e:ir J k x o=some Z)(U:∀s g Y,o= .ref s g->J.get s g=some (.dict Y)->(bj k x Y).length<=40->J.set s (.dict (bj k x Y))=Z->G):G:=by
 cases o with
  |ref s g=>have e:(match J.get s g with|some (.dict Y)=>if(bj k x Y).length<=40 then some (J.set s (.dict (bj k x Y)))else none|_=>none)=some Z:=e;cases q:J.get s g with|none=>rw[q]at e;exact aJ e|some c=>rw[q]at e;cases c with|dict Y=>exact uO e λ y e=>U s g Y rfl q y e|_=>exact aJ e
  |_=>exact aJ e
theorem uS{i:Int}(e:nO J x o i=some Z)(Y:∀s g l,o= .ref s g->J.get s g=some (.list l)->0<=i/\i<l.length->J.set s (.list (l.set i.toNat x))=Z->G):G:=by
 cases o with
  |ref s g=>have e:(match J.get s g with|some (.list l)=>if 0<=i/\i<l.length then some (J.set s (.list (l.set i.toNat x)))else none|_=>none)=some Z:=e;cases q:J.get s g with|none=>rw[q]at e;exact aJ e|some c=>rw[q]at e;cases c with|list U=>exact uO e λ y e=>Y s g U rfl q y e|_=>exact aJ e
  |_=>exact aJ e
theorem uT{r:V×Hp}(e:freeze J v=some r)(Y:∀s g l,v= .ref s g->J.get s g=some (.list l)->(.lst l,J.drop s)=r->G):G:=by
 cases v with
  |ref s g=>have e:(match J.get s g with|some (.list l)=>some (.lst l,J.drop s)|_=>none)=some r:=e;cases q:J.get s g with|none=>rw[q]at e;exact aJ e|some c=>rw[q]at e;cases c with|list U=>exact Y s g U rfl q (Option.some.inj e)|_=>exact aJ e
  |_=>exact aJ e
theorem uU(e:iq T J k o=some x)(U:∀C Y,ey J o=some (C,Y)->kU T C k=true->aQ k Y=some x->G):G:=by have e:(match ey J o with|some (C,Y)=>if kU T C k then aQ k Y else none|none=>none)=some x:=e;cases q:ey J o with|none=>rw[q]at e;exact aJ e|some y=>rw[q]at e;exact JJ e λ z e=>U y.1 y.2 q z e
theorem Eb{f:Nat}(e:iH T J k o=some f)(U:∀C Y,ey J o=some (C,Y)->aQ k Y=none->fg T C k=some f->G):G:=by have e:(match ey J o with|some (C,Y)=>(match aQ k Y with|some _=>none|none=>fg T C k)|none=>none)=some f:=e;cases q:ey J o with|none=>rw[q]at e;exact aJ e|some y=>rw[q]at e;have e:(match aQ k y.2 with|some _=>none|none=>fg T y.1 k)=some f:=e;cases z:aQ k y.2 with|none=>rw[z]at e;exact U y.1 y.2 q z e|some _=>rw[z]at e;exact aJ e
theorem uV{i:V}(e:nP J o i=some x)(Y:∀l j,a8 J o=some l->i= .int j->cY l j=some x->G):G:=by have e:(match(generalizing:=false)a8 J o,i with|some l,.int k=>cY l k|_,_=>none)=some x:=e;cases q:a8 J o with|none=>rw[q]at e;exact aJ e|some l=>rw[q]at e;cases i with|int j=>exact Y l j q rfl e|_=>exact aJ e
theorem yj{b:Bool}(e:truth J v=some b)(h1:v= .bool b->G)(h2:v= .none->b=false->G)(Y:∀l,a8 J v=some l->(!l.isEmpty)=b->G):G:=by
 have f:(match a8 J v with|some l=>some (!l.isEmpty)|none=>none)=some b->G:=λ e=>by cases q:a8 J v with|none=>rw[q]at e;exact aJ e|some l=>rw[q]at e;exact Y l q (Option.some.inj e)
 cases v with|bool c=>cases e;exact h1 rfl|none=>cases e;exact h2 rfl rfl|_=>exact f e
theorem yk{m:Nat}(e:lenOf J v=some m)(h1:∀l,v= .ig l->l.length=m->G)(h2:∀l,v= .tup l->l.length=m->G)(Y:∀l,a8 J v=some l->l.length=m->G):G:=by
 have f:(a8 J v).map (·.length)=some m->G:=λ e=>by cases q:a8 J v with|none=>rw[q]at e;exact aJ e|some l=>rw[q]at e;exact Y l q (Option.some.inj e)
 cases v with|ig c=>exact h1 c rfl (Option.some.inj e)|tup c=>exact h2 c rfl (Option.some.inj e)|_=>exact f e
theorem yl{m:Nat}(e:bound n d v=some m)(h1:v= .none->d=m->G)(h2:∀i,v= .int i->av n i=m->G):G:=by cases v with|none=>exact h1 rfl (Option.some.inj e)|int i=>exact h2 i rfl (Option.some.inj e)|_=>exact aJ e
theorem uW{Y U:V}{r:List V}(e:fV l Y U=some r)(Q:∀a b,bound l.length 0 Y=some a->bound l.length l.length U=some b->(l.drop a).take (b-a)=r->G):G:=by have e:(match bound l.length 0 Y,bound l.length l.length U with|some a,some b=>some ((l.drop a).take (b-a))|_,_=>none)=some r:=e;cases q:bound l.length 0 Y with|none=>rw[q]at e;exact aJ e|some a=>cases W:bound l.length l.length U with|none=>rw[q,W]at e;exact aJ e|some b=>rw[q,W]at e;exact Q a b q W (Option.some.inj e)
theorem qC{l:List V}:∀{Y:List Int},intsOf l=some Y->l=Y.map .int:=by
 induction l with
  |nil=>intro Y e;cases e;rfl
  |cons v l U=>
   intro Y e;cases v with
    |int i=>have e:(intsOf l).map (i::·)=some Y:=e;cases q:intsOf l with|none=>rw[q]at e;exact aJ e|some r=>rw[q]at e;cases e;exact congrArg _ (U q)
    |_=>exact aJ e
theorem tE(e:iI o=some v)(U:∀l Y,o= .lst l-> .lst l=v->intsOf l=some Y->(Y=[]\/Y=[1,2])->G):G:=by
 cases o with
  |lst l=>have e:(match intsOf l with|some Y=>if Y=[]\/Y=[1,2]then some (V.lst l)else none|none=>none)=some v:=e;cases q:intsOf l with|none=>rw[q]at e;exact aJ e|some Y=>rw[q]at e;exact uO e λ h e=>U l Y rfl e q h
  |_=>exact aJ e
end
def je:bh:=⟨[0,1,2],[.ay (.loc 0) 1 (.loc 1),.ay (.loc 0) 2 (.loc 2),.ay (.loc 0) 3 (.c (.int 0)),.ay (.loc 0) 4 (.c (.int 0)),.ay (.loc 0) 5 (.c (.int 0)),.ay (.loc 0) 6 (.eJ 3 [])]⟩
def eK:bh:=⟨[0],[.asg 7 (.bin .Mult (.len (.attr (.loc 0) 6)) (.c (.int 2))),.ite (.cmp .Eq (.loc 7) (.c (.int 0))) [.asg 7 (.c (.int 1))] [],.ite (.cmp .Gt (.loc 7) (.attr (.loc 0) 1)) [.asg 7 (.attr (.loc 0) 1)] [],.iG (.cmp .Lt (.len (.attr (.loc 0) 6)) (.loc 7)) [.expr (.append (.attr (.loc 0) 6) (.tup [(.c (.int 0)),(.c (.int 0))]))]]⟩
def dh:bh:=⟨[0,8,5],[.ite (.aw (.loc 0) 9 []) [.raise 152 [(.attr (.loc 0) 4),(.attr (.loc 0) 5)]] [],.asg 10 (.bin .Add (.attr (.loc 0) 3) (.attr (.loc 0) 4)),.ite (.cmp .GtE (.loc 10) (.attr (.loc 0) 1)) [.aug 10 .Sub (.attr (.loc 0) 1)] [],.ite (.cmp .GtE (.loc 10) (.len (.attr (.loc 0) 6))) [.expr (.aw (.loc 0) 11 [])] [],.mq (.attr (.loc 0) 6) (.loc 10) (.tup [(.loc 8),(.loc 5)]),.ij (.loc 0) 4 .Add (.c (.int 1)),.ij (.loc 0) 5 .Add (.loc 5)]⟩
def gY:bh:=⟨[0,8],[.iG (.cmp .Gt (.attr (.loc 0) 4) (.c (.int 0))) [.tA [12,5] (.idx (.attr (.loc 0) 6) (.attr (.loc 0) 3)),.ite (.cmp .Lt (.loc 8) (.loc 12)) [.ik] [],.mq (.attr (.loc 0) 6) (.attr (.loc 0) 3) (.tup [(.c (.int 0)),(.c (.int 0))]),.ij (.loc 0) 5 .Sub (.loc 5),.ij (.loc 0) 4 .Sub (.c (.int 1)),.ij (.loc 0) 3 .Add (.c (.int 1)),.ite (.cmp .GtE (.attr (.loc 0) 3) (.attr (.loc 0) 1)) [.ay (.loc 0) 3 (.c (.int 0))] []],.ay (.loc 0) 3 (.c (.int 0))]⟩
def jf:bh:=⟨[0],[.ite (.cmp .GtE (.attr (.loc 0) 4) (.attr (.loc 0) 1)) [.ret (.c (.bool true))] [],.ret (.and (.cmp .NotEq (.attr (.loc 0) 2) (.c (.int 0))) (.cmp .GtE (.attr (.loc 0) 5) (.attr (.loc 0) 2)))]⟩
def iJ:bh:=⟨[0],[.ay (.loc 0) 3 (.c (.int 0)),.ay (.loc 0) 4 (.c (.int 0)),.ay (.loc 0) 5 (.c (.int 0))]⟩
def jg:bh:=⟨[0],[.asg 13 (.eJ 31 []),.oT 14 (.mj (.c (.int 0)) (.attr (.loc 0) 4)) [.asg 10 (.bin .Add (.attr (.loc 0) 3) (.loc 14)),.ite (.cmp .GtE (.loc 10) (.attr (.loc 0) 1)) [.aug 10 .Sub (.attr (.loc 0) 1)] [],.expr (.append (.loc 13) (.idx (.attr (.loc 0) 6) (.loc 10)))],.gX (.loc 13)]⟩
def jY:bh:=⟨[0,15,16,17,18],[.ay (.loc 0) 15 (.loc 15),.ay (.loc 0) 16 (.loc 16),.ay (.loc 0) 19 (.c (.int 0)),.ay (.loc 0) 20 (.c (.int 0)),.ay (.loc 0) 21 (.c (.bool false)),.ay (.loc 0) 22 (.c (.bool false)),.ay (.loc 0) 17 (.loc 17),.ay (.loc 0) 18 (.loc 18)]⟩
def iu:bh:=⟨[0,19],[.ay (.loc 0) 22 (.c (.bool false)),.ay (.loc 0) 20 (.c (.int 0)),.ay (.loc 0) 19 (.loc 19),.expr (.aw (.attr (.loc 0) 17) 23 [])]⟩
def eN:bh:=⟨[0],[.asg 16 (.bin .Add (.attr (.loc 0) 15) (.c (.int 1))),.ite (.cmp .Eq (.attr (.loc 0) 19) (.c (.int 2))) [.asg 16 (.max2 (.loc 16) (.bin .Add (.attr (.loc 0) 20) (.c (.int 1))))] [],.expr (.aw (.loc 0) 24 [(.c (.int 0))]),.ay (.loc 0) 16 (.loc 16)]⟩
def dp:bh:=⟨[0],[.expr (.aw (.loc 0) 24 [(.c (.int 1))]),.ay (.loc 0) 16 (.bin .Add (.attr (.loc 0) 15) (.c (.int 1)))]⟩
def dH:bh:=⟨[0,8],[.expr (.aw (.loc 0) 24 [(.c (.int 2))]),.ay (.loc 0) 20 (.loc 8)]⟩
def eP:bh:=⟨[0,25],[.ite (.cmp .LtE (.loc 25) (.attr (.loc 0) 15)) [.ret (.c (.bool false))] [],.ay (.loc 0) 15 (.loc 25),.ay (.loc 0) 16 (.max2 (.attr (.loc 0) 16) (.bin .Add (.loc 25) (.c (.int 1)))),.ay (.loc 0) 22 (.c (.bool false)),.ret (.c (.bool true))]⟩
def fN:bh:=⟨[0,26,27],[.ite (.cmp .Eq (.attr (.loc 0) 19) (.c (.int 1))) [.ite (.cmp .LtE (.loc 26) (.attr (.loc 0) 15)) [.ret (.c (.bool false))] [],.ay (.loc 0) 16 (.bin .Add (.attr (.loc 0) 15) (.c (.int 1))),.ret (.c (.bool true))] [],.ite (.cmp .NotEq (.bin .Sub (.attr (.loc 0) 16) (.c (.int 1))) (.loc 26)) [.ret (.c (.bool false))] [],.ay (.loc 0) 16 (.max2 (.min2 (.loc 26) (.bin .Add (.loc 27) (.c (.int 1)))) (.bin .Add (.attr (.loc 0) 15) (.c (.int 1)))),.ay (.loc 0) 22 (.c (.bool false)),.ret (.c (.bool true))]⟩
def iK:bh:=⟨[0],[.ite (.or (.cmp .Eq (.attr (.loc 0) 19) (.c (.int 0))) (.cmp .Eq (.attr (.loc 0) 19) (.c (.int 1)))) [.ret (.attr (.loc 0) 22)] [],.ite (.cmp .Eq (.attr (.loc 0) 19) (.c (.int 2))) [.ret (.c (.bool true))] [],.raise 152 [(.attr (.loc 0) 19)]]⟩
def jZ:bh:=⟨[0,28,5,12],[.ite (.cmp .Eq (.attr (.loc 0) 19) (.c (.int 1))) [.ite (.cmp .Gt (.loc 28) (.c (.int 0))) [.expr (.aw (.attr (.loc 0) 17) 29 [(.loc 12),(.loc 5)]),.ay (.loc 0) 16 (.bin .Add (.loc 12) (.c (.int 1)))] [],.ay (.loc 0) 22 (.aw (.attr (.loc 0) 17) 9 [])] [.ite (.cmp .Eq (.attr (.loc 0) 19) (.c (.int 0))) [.ite (.cmp .Gt (.loc 28) (.c (.int 0))) [.ay (.loc 0) 22 (.c (.bool true))] []] [.raise 152 [(.attr (.loc 0) 19)]]]]⟩
def j4:bh:=⟨[25],[.ite (.or (.cmp .Lt (.loc 25) (.c (.int 0))) (.cmp .Gt (.loc 25) (.c (.int 18446744073709551615)))) [.raise 56 [(.loc 25),(.c (.int 18446744073709551615))]] [],.asg 30 (.c (.int 1)),.iG (.cmp .GtE (.loc 25) (.c (.int 128))) [.aug 25 .RShift (.c (.int 7)),.aug 30 .Add (.c (.int 1))],.ret (.loc 30)]⟩
def uX:bh:=⟨[31],[.asg 13 (.eJ 32 []),.oT 32 (.sorted (.loc 31)) [.ite (.or (.not (.loc 13)) (.cmp .NotEq (.idx (.loc 13) (.neg (.c (.int 1)))) (.loc 32))) [.expr (.append (.loc 13) (.loc 32))] []],.gX (.loc 13)]⟩
def nQ:bh:=⟨[0,33,8,34,35],[.ay (.loc 0) 33 (.loc 33),.ay (.loc 0) 8 (.loc 8),.ay (.loc 0) 34 (.loc 34),.ay (.loc 0) 35 (.loc 35)]⟩
def oW:bh:=⟨[0],[.ret (.tup [(.attr (.loc 0) 33),(.attr (.loc 0) 8),(.attr (.loc 0) 34),(.attr (.loc 0) 35)])]⟩
def nR:bh:=⟨[0],[.asg 36 (.len (.attr (.loc 0) 35)),.asg 37 (.bin .Add (.bin .Add (.call 322 none [(.attr (.loc 0) 33)]) (.call 322 none [(.attr (.loc 0) 8)])) (.call 322 none [(.attr (.loc 0) 34)])),.ret (.bin .Add (.bin .Add (.loc 37) (.call 322 none [(.loc 36)])) (.loc 36))]⟩
def nS:bh:=⟨[38,25],[.asg 39 (.c (.int 0)),.asg 40 (.eJ 30 []),.oT 41 (.loc 38) [.aug 39 .Add (.aw (.loc 41) 1 []),.ite (.and (.loc 40) (.cmp .Gt (.loc 39) (.loc 25))) [.brk] [],.expr (.append (.loc 40) (.loc 41))],.gX (.loc 40)]⟩
def jh:bh:=⟨[0,33,42,43],[.ay (.loc 0) 33 (.loc 33),.ay (.loc 0) 42 (.loc 42),.ay (.loc 0) 43 (.loc 43)]⟩
def ji:bh:=⟨[0,44,45,46,47,48],[.ay (.loc 0) 44 (.call 329 none [(.loc 44)]),.ay (.loc 0) 45 (.call 329 none [(.loc 45)]),.ay (.loc 0) 46 (.call 329 none [(.loc 46)]),.ay (.loc 0) 47 (.call 329 none [(.loc 47)]),.ay (.loc 0) 48 (.loc 48)]⟩
def j5:bh:=⟨[0,8,33,49,35],[.ay (.loc 0) 8 (.loc 8),.ay (.loc 0) 33 (.loc 33),.ay (.loc 0) 49 (.loc 49),.ay (.loc 0) 35 (.loc 35)]⟩
def fW:bh:=⟨[0,49],[.asg 50 (.c (.int 0)),.ite (.cmp .Gt (.len (.attr (.loc 49) 44)) (.c (.int 0))) [.asg 50 (.c (.int 1))] [],.ay (.loc 0) 51 (.new 430 none [(.loc 50),(.c (.int 0)),(.loc 50)]),.ay (.loc 0) 49 (.loc 49),.ay (.loc 0) 52 (.new 507 none [(.loc 50),(.loc 50),(.loc 49),(.c (.ig []))]),.ay (.loc 0) 53 (.loc 50),.ay (.loc 0) 54 (.loc 50),.ay (.loc 0) 38 (.lst [])]⟩
def dq:bh:=⟨[0],[.ret (.bin .Add (.attr (.loc 0) 53) (.c (.int 1)))]⟩
def dJ:bh:=⟨[0],[.ret (.bin .Add (.attr (.loc 0) 53) (.len (.attr (.loc 0) 38)))]⟩
def cT:bh:=⟨[0,55,56,57],[.ite (.cmp .LtE (.loc 55) (.attr (.loc 0) 53)) [.raise 80 [(.loc 55),(.attr (.loc 0) 53)]] [],.ite (.cmp .Gt (.loc 56) (.bin .Add (.aw (.loc 0) 58 []) (.c (.int 1)))) [.raise 92 [(.loc 56),(.aw (.loc 0) 58 [])]] [],.ite (.cmp .LtE (.loc 56) (.loc 55)) [.ret (.lst [])] [],.asg 59 (.aw (.loc 0) 60 []),.ret (.call 385 none [(.slice (.attr (.loc 0) 38) (.bin .Sub (.loc 55) (.loc 59)) (.bin .Sub (.loc 56) (.loc 59))),(.loc 57)])]⟩
def eQ:bh:=⟨[0,61],[.ite (.cmp .Lt (.loc 61) (.attr (.loc 0) 53)) [.raise 80 [(.loc 61),(.attr (.loc 0) 53)]] [],.ite (.cmp .Gt (.loc 61) (.aw (.loc 0) 58 [])) [.raise 92 [(.loc 61),(.aw (.loc 0) 58 [])]] [],.ite (.cmp .Eq (.loc 61) (.attr (.loc 0) 53)) [.ret (.attr (.loc 0) 54)] [],.ret (.attr (.idx (.attr (.loc 0) 38) (.bin .Sub (.loc 61) (.aw (.loc 0) 60 []))) 33)]⟩
def ez:bh:=⟨[0],[.ite (.cmp .Lt (.attr (.attr (.loc 0) 52) 8) (.attr (.loc 0) 53)) [.raise 116 [(.attr (.attr (.loc 0) 52) 8),(.attr (.loc 0) 53)]] [],.ret (.attr (.loc 0) 52)]⟩
def cD:bh:=⟨[0,38],[.ite (.cmp .Eq (.len (.loc 38)) (.c (.int 0))) [.ik] [],.asg 3 (.attr (.idx (.loc 38) (.c (.int 0))) 8),.oT 14 (.mj (.c (.int 0)) (.len (.loc 38))) [.ite (.cmp .NotEq (.attr (.idx (.loc 38) (.loc 14)) 8) (.bin .Add (.loc 3) (.loc 14))) [.raise 128 [(.attr (.idx (.loc 38) (.loc 14)) 8),(.bin .Add (.loc 3) (.loc 14))]] []],.asg 59 (.aw (.loc 0) 60 []),.ite (.cmp .Lt (.bin .Sub (.bin .Add (.loc 3) (.len (.loc 38))) (.c (.int 1))) (.loc 59)) [.ik] [],.ite (.cmp .Gt (.loc 3) (.bin .Add (.aw (.loc 0) 58 []) (.c (.int 1)))) [.raise 128 [(.loc 3),(.aw (.loc 0) 58 [])]] [],.ite (.cmp .Lt (.loc 3) (.loc 59)) [.asg 38 (.slice (.loc 38) (.bin .Sub (.loc 59) (.loc 3)) (.c .none)),.asg 3 (.loc 59)] [],.ay (.loc 0) 38 (.bin .Add (.slice (.attr (.loc 0) 38) (.c .none) (.bin .Sub (.loc 3) (.loc 59))) (.loc 38))]⟩
def cZ:bh:=⟨[0,62],[.ite (.or (.cmp .LtE (.attr (.loc 62) 8) (.attr (.attr (.loc 0) 52) 8)) (.cmp .Lt (.attr (.loc 62) 8) (.attr (.loc 0) 53))) [.raise 104 [(.attr (.loc 62) 8)]] [],.ay (.loc 0) 52 (.loc 62),.ay (.loc 0) 49 (.attr (.loc 62) 49),.ay (.loc 0) 53 (.attr (.loc 62) 8),.ay (.loc 0) 54 (.attr (.loc 62) 33),.ay (.loc 0) 38 (.lst [])]⟩
def cU:bh:=⟨[0,61,49,35],[.ite (.cmp .LtE (.loc 61) (.attr (.attr (.loc 0) 52) 8)) [.raise 104 [(.loc 61),(.attr (.attr (.loc 0) 52) 8)]] [],.ite (.cmp .Gt (.loc 61) (.aw (.loc 0) 58 [])) [.raise 152 [(.loc 61),(.aw (.loc 0) 58 [])]] [],.asg 33 (.aw (.loc 0) 63 [(.loc 61)]),.ite (.cmp .IsNot (.loc 49) (.c .none)) [.ay (.loc 0) 49 (.loc 49)] [],.ay (.loc 0) 52 (.new 507 none [(.loc 61),(.loc 33),(.attr (.loc 0) 49),(.loc 35)]),.ret (.attr (.loc 0) 52)]⟩
def eS:bh:=⟨[0,61],[.ite (.cmp .LtE (.loc 61) (.attr (.loc 0) 53)) [.raise 80 [(.loc 61),(.attr (.loc 0) 53)]] [],.ite (.cmp .Gt (.loc 61) (.aw (.loc 0) 58 [])) [.raise 152 [(.loc 61),(.aw (.loc 0) 58 [])]] [],.asg 33 (.aw (.loc 0) 63 [(.loc 61)]),.ay (.loc 0) 38 (.slice (.attr (.loc 0) 38) (.bin .Sub (.loc 61) (.attr (.loc 0) 53)) (.c .none)),.ay (.loc 0) 53 (.loc 61),.ay (.loc 0) 54 (.loc 33)]⟩
def j6:bh:=⟨[0,64],[.ay (.loc 0) 62 (.c .none),.ay (.loc 0) 38 (.lst []),.ay (.loc 0) 64 (.loc 64)]⟩
def fh:bh:=⟨[0],[.ite (.cmp .IsNot (.attr (.loc 0) 62) (.c .none)) [.ret (.bin .Add (.attr (.attr (.loc 0) 62) 8) (.c (.int 1)))] [],.ret (.c .none)]⟩
def fO:bh:=⟨[0],[.ite (.cmp .Gt (.len (.attr (.loc 0) 38)) (.c (.int 0))) [.ret (.bin .Sub (.bin .Add (.attr (.loc 0) 64) (.len (.attr (.loc 0) 38))) (.c (.int 1)))] [],.ite (.cmp .IsNot (.attr (.loc 0) 62) (.c .none)) [.ret (.bin .Sub (.attr (.loc 0) 64) (.c (.int 1)))] [],.ret (.c .none)]⟩
def fP:bh:=⟨[0,61],[.ite (.cmp .Lt (.loc 61) (.attr (.loc 0) 64)) [.ite (.and (.cmp .IsNot (.attr (.loc 0) 62) (.c .none)) (.cmp .Eq (.attr (.attr (.loc 0) 62) 8) (.loc 61))) [.ret (.attr (.attr (.loc 0) 62) 33)] [],.ret (.c .none)] [],.ite (.cmp .GtE (.loc 61) (.bin .Add (.attr (.loc 0) 64) (.len (.attr (.loc 0) 38)))) [.ret (.c .none)] [],.ret (.attr (.idx (.attr (.loc 0) 38) (.bin .Sub (.loc 61) (.attr (.loc 0) 64))) 33)]⟩
def fX:bh:=⟨[0,61,33],[.ite (.cmp .Lt (.loc 61) (.attr (.loc 0) 64)) [.ik] [],.asg 65 (.aw (.loc 0) 66 [(.loc 61)]),.ite (.or (.cmp .Is (.loc 65) (.c .none)) (.cmp .NotEq (.loc 65) (.loc 33))) [.ik] [],.ay (.loc 0) 38 (.slice (.attr (.loc 0) 38) (.bin .Sub (.bin .Add (.loc 61) (.c (.int 1))) (.attr (.loc 0) 64)) (.c .none)),.ay (.loc 0) 64 (.bin .Add (.loc 61) (.c (.int 1)))]⟩
def dU:bh:=⟨[0,61],[.ite (.and (.cmp .IsNot (.attr (.loc 0) 62) (.c .none)) (.cmp .Eq (.attr (.attr (.loc 0) 62) 8) (.loc 61))) [.ay (.loc 0) 62 (.c .none)] []]⟩
def iw:bh:=⟨[0,62],[.ay (.loc 0) 64 (.bin .Add (.attr (.loc 62) 8) (.c (.int 1))),.ay (.loc 0) 38 (.lst []),.ay (.loc 0) 62 (.loc 62)]⟩
def c7:bh:=⟨[0,38],[.ite (.cmp .Eq (.len (.loc 38)) (.c (.int 0))) [.ik] [],.asg 67 (.attr (.idx (.loc 38) (.c (.int 0))) 8),.ite (.cmp .Eq (.loc 67) (.bin .Add (.attr (.loc 0) 64) (.len (.attr (.loc 0) 38)))) [.ay (.loc 0) 38 (.bin .Add (.attr (.loc 0) 38) (.loc 38))] [.ite (.cmp .LtE (.loc 67) (.attr (.loc 0) 64)) [.ay (.loc 0) 64 (.loc 67),.ay (.loc 0) 38 (.slice (.loc 38) (.c .none) (.c .none))] [.ite (.cmp .Lt (.loc 67) (.bin .Add (.attr (.loc 0) 64) (.len (.attr (.loc 0) 38)))) [.ay (.loc 0) 38 (.bin .Add (.aw (.loc 0) 68 [(.attr (.loc 0) 64),(.loc 67)]) (.loc 38))] [.raise 152 [(.loc 67),(.bin .Sub (.bin .Add (.attr (.loc 0) 64) (.len (.attr (.loc 0) 38))) (.c (.int 1)))]]]]]⟩
def j7:bh:=⟨[0,55,56],[.ite (.cmp .Gt (.loc 55) (.loc 56)) [.raise 152 [(.loc 55),(.loc 56)]] [],.ite (.or (.cmp .Lt (.loc 55) (.attr (.loc 0) 64)) (.cmp .Gt (.loc 56) (.bin .Add (.attr (.loc 0) 64) (.len (.attr (.loc 0) 38))))) [.raise 152 [(.loc 55),(.loc 56),(.attr (.loc 0) 64),(.bin .Add (.attr (.loc 0) 64) (.len (.attr (.loc 0) 38)))]] [],.ret (.slice (.attr (.loc 0) 38) (.bin .Sub (.loc 55) (.attr (.loc 0) 64)) (.bin .Sub (.loc 56) (.attr (.loc 0) 64)))]⟩
def kY:bh:=⟨[0,69,70],[.ay (.loc 0) 69 (.loc 69),.ay (.loc 0) 70 (.loc 70),.asg 59 (.aw (.loc 69) 60 []),.ay (.loc 0) 71 (.new 696 none [(.bin .Add (.aw (.loc 69) 58 []) (.c (.int 1)))]),.ay (.loc 0) 72 (.bin .Sub (.loc 59) (.c (.int 1))),.ay (.loc 0) 73 (.bin .Sub (.loc 59) (.c (.int 1)))]⟩
def fQ:bh:=⟨[0],[.asg 61 (.aw (.attr (.loc 0) 71) 74 []),.ite (.cmp .IsNot (.loc 61) (.c .none)) [.ret (.loc 61)] [],.ret (.aw (.attr (.loc 0) 69) 60 [])]⟩
def fY:bh:=⟨[0],[.asg 61 (.aw (.attr (.loc 0) 71) 75 []),.ite (.cmp .IsNot (.loc 61) (.c .none)) [.ret (.loc 61)] [],.ret (.aw (.attr (.loc 0) 69) 58 [])]⟩
def gZ:bh:=⟨[0],[.try [.ret (.aw (.loc 0) 33 [(.aw (.loc 0) 58 [])])] [80,92] [.raise 152 [(.aw (.loc 0) 58 [])]]]⟩
def kZ:bh:=⟨[0,61],[.asg 76 (.aw (.attr (.loc 0) 71) 66 [(.loc 61)]),.ite (.cmp .IsNot (.loc 76) (.c .none)) [.ret (.loc 76)] [],.ite (.cmp .Lt (.bin .Add (.loc 61) (.c (.int 1))) (.aw (.loc 0) 60 [])) [.raise 80 [(.loc 61),(.aw (.loc 0) 60 [])]] [],.ite (.cmp .Gt (.loc 61) (.aw (.loc 0) 58 [])) [.raise 92 [(.loc 61),(.aw (.loc 0) 58 [])]] [],.ret (.aw (.attr (.loc 0) 69) 63 [(.loc 61)])]⟩
def fZ:bh:=⟨[0,61,77],[.try [.ret (.cmp .Eq (.aw (.loc 0) 33 [(.loc 61)]) (.loc 77))] [80,92] [.ret (.c (.bool false))]]⟩
def f9:bh:=⟨[0,12,33],[.asg 78 (.aw (.loc 0) 79 []),.ret (.or (.cmp .Gt (.loc 33) (.loc 78)) (.and (.cmp .Eq (.loc 33) (.loc 78)) (.cmp .GtE (.loc 12) (.aw (.loc 0) 58 []))))]⟩
def cE:bh:=⟨[0,8,80,72,38],[.ite (.not (.aw (.loc 0) 81 [(.loc 8),(.loc 80)])) [.ret (.c .none)] [],.oT 14 (.mj (.c (.int 0)) (.len (.loc 38))) [.ite (.cmp .NotEq (.attr (.idx (.loc 38) (.loc 14)) 8) (.bin .Add (.bin .Add (.loc 8) (.c (.int 1))) (.loc 14))) [.raise 128 [(.attr (.idx (.loc 38) (.loc 14)) 8),(.bin .Add (.bin .Add (.loc 8) (.c (.int 1))) (.loc 14))]] []],.asg 82 (.bin .Add (.loc 8) (.len (.loc 38))),.asg 83 (.aw (.loc 0) 84 [(.loc 38)]),.ite (.cmp .NotEq (.loc 83) (.c (.int 0))) [.ite (.cmp .LtE (.loc 83) (.attr (.loc 0) 72)) [.raise 152 [(.loc 83),(.attr (.loc 0) 72)]] [],.expr (.aw (.loc 0) 85 [(.slice (.loc 38) (.bin .Sub (.loc 83) (.bin .Add (.loc 8) (.c (.int 1)))) (.c .none))])] [],.expr (.aw (.loc 0) 86 [(.min2 (.loc 72) (.loc 82))]),.ret (.loc 82)]⟩
def jj:bh:=⟨[0,38],[.ite (.cmp .Eq (.len (.loc 38)) (.c (.int 0))) [.ret (.aw (.loc 0) 58 [])] [],.asg 87 (.bin .Sub (.attr (.idx (.loc 38) (.c (.int 0))) 8) (.c (.int 1))),.ite (.cmp .Lt (.loc 87) (.attr (.loc 0) 72)) [.raise 152 [(.loc 87),(.attr (.loc 0) 72)]] [],.ite (.cmp .Gt (.loc 87) (.aw (.loc 0) 58 [])) [.raise 128 [(.loc 87),(.aw (.loc 0) 58 [])]] [],.expr (.aw (.attr (.loc 0) 71) 88 [(.loc 38)]),.ret (.aw (.loc 0) 58 [])]⟩
def eT:bh:=⟨[0,38],[.oT 89 (.loc 38) [.ite (.not (.aw (.loc 0) 81 [(.attr (.loc 89) 8),(.attr (.loc 89) 33)])) [.ret (.attr (.loc 89) 8)] []],.ret (.c (.int 0))]⟩
def dK:bh:=⟨[0,8,33],[.iG (.cmp .Gt (.loc 8) (.c (.int 0))) [.try [.asg 78 (.aw (.loc 0) 33 [(.loc 8)])] [80,92] [.ret (.tup [(.loc 8),(.c (.int 0))])],.ite (.cmp .LtE (.loc 78) (.loc 33)) [.ret (.tup [(.loc 8),(.loc 78)])] [],.aug 8 .Sub (.c (.int 1))],.ret (.tup [(.c (.int 0)),(.c (.int 0))])]⟩
def iL:bh:=⟨[0,62],[.ite (.cmp .Lt (.attr (.loc 62) 8) (.attr (.loc 0) 72)) [.raise 140 [(.attr (.loc 62) 8),(.attr (.loc 0) 72)]] [],.ay (.loc 0) 72 (.attr (.loc 62) 8),.expr (.aw (.attr (.loc 0) 71) 90 [(.loc 62)])]⟩
def g6:bh:=⟨[0,61],[.ite (.cmp .LtE (.loc 61) (.attr (.loc 0) 72)) [.ik] [],.ite (.cmp .Gt (.loc 61) (.aw (.loc 0) 58 [])) [.raise 152 [(.loc 61),(.aw (.loc 0) 58 [])]] [],.ay (.loc 0) 72 (.loc 61)]⟩
def g7:bh:=⟨[0,61,33],[.expr (.aw (.attr (.loc 0) 71) 91 [(.loc 61),(.loc 33)])]⟩
def eC:bh:=⟨[0,61],[.expr (.aw (.attr (.loc 0) 71) 92 [(.loc 61)])]⟩
def dM:bh:=⟨[0],[.ret (.slice (.attr (.attr (.loc 0) 71) 38) (.c .none) (.c .none))]⟩
def iy:bh:=⟨[0],[.ite (.cmp .IsNot (.attr (.attr (.loc 0) 71) 62) (.c .none)) [.ret (.attr (.attr (.loc 0) 71) 62)] [],.ret (.aw (.attr (.loc 0) 69) 62 [])]⟩
def iM:bh:=⟨[0,61,57],[.ite (.cmp .Gt (.loc 61) (.aw (.loc 0) 58 [])) [.ret (.lst [])] [],.ret (.aw (.loc 0) 93 [(.loc 61),(.bin .Add (.aw (.loc 0) 58 []) (.c (.int 1))),(.loc 57)])]⟩
def fS:bh:=⟨[0],[.ret (.aw (.loc 0) 38 [(.aw (.loc 0) 60 []),(.c (.int 18446744073709551615))])]⟩
def j8:bh:=⟨[0,55,56,57],[.ite (.cmp .Gt (.loc 55) (.loc 56)) [.raise 152 [(.loc 55),(.loc 56)]] [],.ite (.cmp .Lt (.loc 55) (.aw (.loc 0) 60 [])) [.raise 80 [(.loc 55),(.aw (.loc 0) 60 [])]] [],.ite (.cmp .Gt (.loc 56) (.bin .Add (.aw (.loc 0) 58 []) (.c (.int 1)))) [.raise 152 [(.loc 56),(.aw (.loc 0) 58 [])]] [],.ite (.cmp .Eq (.loc 55) (.loc 56)) [.ret (.lst [])] [],.asg 64 (.attr (.attr (.loc 0) 71) 64),.asg 65 (.lst []),.ite (.cmp .Lt (.loc 55) (.loc 64)) [.asg 94 (.min2 (.loc 56) (.loc 64)),.try [.asg 65 (.aw (.attr (.loc 0) 69) 95 [(.loc 55),(.loc 94),(.loc 57)])] [92] [.raise 152 [(.loc 55),(.loc 94)]],.ite (.cmp .Lt (.len (.loc 65)) (.bin .Sub (.loc 94) (.loc 55))) [.ret (.loc 65)] []] [],.ite (.cmp .Gt (.loc 56) (.loc 64)) [.asg 65 (.bin .Add (.loc 65) (.aw (.attr (.loc 0) 71) 68 [(.max2 (.loc 55) (.loc 64)),(.loc 56)]))] [],.ret (.call 385 none [(.loc 65),(.loc 57)])]⟩
def qD:bh:=⟨[96,61],[.ret (.bin .Add (.idx (.loc 96) (.bin .Mod (.loc 61) (.len (.loc 96)))) (.bin .Mult (.c (.int 7919)) (.bin .FloorDiv (.loc 61) (.len (.loc 96)))))]⟩
def jK:bh:=⟨[97,25,30,98],[.asg 99 (.fU 33 (.loc 97) (.c .none) (.c .none)),.asg 33 (.idx (.loc 97) (.neg (.c (.int 1)))),.ite (.cmp .NotEq (.bin .Mod (.loc 33) (.c (.int 2))) (.loc 98)) [.aug 33 .Add (.c (.int 1))] [],.oT 14 (.mj (.c (.int 0)) (.loc 30)) [.aug 33 .Add (.bin .Mult (.bin .Mod (.loc 25) (.c (.int 3))) (.c (.int 2))),.asg 25 (.bin .FloorDiv (.loc 25) (.c (.int 3))),.expr (.append (.loc 99) (.loc 33))],.gX (.loc 99)]⟩
def tF:bh:=⟨[99,100,77,101],[.asg 38 (.comp (.new 374 none [(.bin .Add (.idx (.loc 99) (.loc 102)) (.loc 77)),(.bin .Add (.loc 100) (.loc 102)),(.c (.int 0)),(.fb (.lst [(.idx (.loc 99) (.loc 102))]))]) (some 102) [] (.mj (.c (.int 1)) (.len (.loc 99))) (.c (.bool true))),.asg 69 (.new 612 none [(.new 465 none [(.lst []),(.lst []),(.lst []),(.lst []),(.c (.bool false))])]),.expr (.aw (.loc 69) 103 [(.new 507 none [(.loc 100),(.bin .Add (.idx (.loc 99) (.c (.int 0))) (.loc 77)),(.new 465 none [(.lst [(.c (.int 1)),(.c (.int 2))]),(.lst []),(.lst []),(.lst []),(.c (.bool false))]),(.c (.ig []))])]),.expr (.aw (.loc 69) 85 [(.slice (.loc 38) (.c .none) (.loc 101))]),.asg 104 (.new 906 none [(.loc 69),(.c (.int 18446744073709551615))]),.expr (.aw (.loc 104) 85 [(.slice (.loc 38) (.loc 101) (.c .none))]),.ret (.loc 104)]⟩
def oX:bh:=⟨[105,106],[.ret (.nI (.comp (.loc 102) (some 102) [] (.mj (.c (.int 0)) (.min2 (.len (.loc 105)) (.len (.loc 106)))) (.cmp .Eq (.slice (.loc 105) (.c .none) (.bin .Add (.loc 102) (.c (.int 1)))) (.slice (.loc 106) (.c .none) (.bin .Add (.loc 102) (.c (.int 1)))))))]⟩
def nT:bh:=⟨[99,105],[.ret (.len (.comp (.loc 102) (some 102) [] (.mj (.bin .Add (.loc 105) (.c (.int 1))) (.len (.loc 99))) (.or (.cmp .Eq (.loc 102) (.bin .Add (.loc 105) (.c (.int 1)))) (.cmp .NotEq (.idx (.loc 99) (.loc 102)) (.idx (.loc 99) (.bin .Sub (.loc 102) (.c (.int 1))))))))]⟩
def oY:bh:=⟨[104,12,33],[.asg 107 (.lst [(.tup [(.loc 12),(.loc 33),(.c (.bool true))]),(.tup [(.bin .Sub (.loc 12) (.c (.int 1))),(.loc 33),(.c (.bool false))]),(.tup [(.bin .Add (.loc 12) (.bin .Pow (.c (.int 2)) (.c (.int 20)))),(.bin .Sub (.loc 33) (.c (.int 1))),(.c (.bool false))]),(.tup [(.c (.int 1)),(.bin .Add (.loc 33) (.c (.int 1))),(.c (.bool true))])]),.ret (.all (.comp (.cmp .Eq (.aw (.loc 104) 110 [(.loc 61),(.loc 108)]) (.loc 109)) none [61,108,109] (.loc 107) (.c (.bool true))))]⟩
def oZ:bh:=⟨[111,100],[.ite (.cmp .Lt (.loc 111) (.bin .Sub (.loc 100) (.c (.int 1)))) [.ret (.loc 111)] [],.ret (.bin .Add (.bin .Sub (.loc 111) (.loc 100)) (.c (.int 1)))]⟩
def qE:bh:=⟨[112,113],[.asg 114 (.key (.loc 112) 114),.asg 115 (.key (.loc 112) 115),.asg 78 (.key (.loc 112) 78),.asg 100 (.key (.loc 112) 100),.ite (.aw (.loc 115) 116 []) [.ret (.c (.bool true))] [],.asg 87 (.bin .Sub (.attr (.loc 115) 16) (.c (.int 1))),.asg 9 (.and (.cmp .Eq (.attr (.loc 115) 19) (.c (.int 1))) (.aw (.attr (.loc 115) 17) 9 [])),.asg 117 (.lst []),.try [.asg 33 (.aw (.loc 114) 33 [(.loc 87)]),.ite (.not (.loc 9)) [.asg 117 (.aw (.loc 114) 38 [(.attr (.loc 115) 16),(.key (.loc 112) 57)])] []] [80] [.asg 52 (.aw (.loc 114) 62 []),.expr (.aw (.loc 115) 118 [(.attr (.loc 52) 8)]),.expr (.append (.key (.loc 112) 119) (.tup [(.attr (.loc 52) 8),(.attr (.loc 52) 33),(.lst []),(.loc 52)])),.ret (.and (.cmp .Lt (.loc 87) (.bin .Add (.loc 100) (.key (.loc 112) 120))) (.cmp .Eq (.tup [(.attr (.loc 52) 8),(.attr (.loc 52) 33)]) (.tup [(.bin .Add (.loc 100) (.key (.loc 112) 120)),(.bin .Add (.idx (.loc 78) (.key (.loc 112) 120)) (.key (.loc 112) 77))])))],.asg 102 (.bin .Sub (.loc 87) (.loc 100)),.ite (.or (.cmp .Lt (.loc 102) (.key (.loc 112) 120)) (.cmp .NotEq (.loc 33) (.bin .Add (.idx (.loc 78) (.loc 102)) (.key (.loc 112) 77)))) [.ret (.c (.bool false))] [],.ite (.cmp .NotEq (.cmp .Eq (.len (.loc 117)) (.c (.int 0))) (.or (.loc 9) (.cmp .Eq (.loc 102) (.bin .Sub (.len (.loc 78)) (.c (.int 1)))))) [.ret (.c (.bool false))] [],.ite (.cmp .NotEq (.comp (.bin .Sub (.attr (.loc 89) 33) (.key (.loc 112) 77)) (some 89) [] (.loc 117) (.c (.bool true))) (.slice (.loc 78) (.bin .Add (.loc 102) (.c (.int 1))) (.bin .Add (.bin .Add (.loc 102) (.c (.int 1))) (.len (.loc 117))))) [.ret (.c (.bool false))] [],.ite (.or (.cmp .Gt (.len (.loc 117)) (.c (.int 0))) (.loc 113)) [.expr (.aw (.loc 115) 121 [(.len (.loc 117)),(.len (.loc 117)),(.bin .Add (.loc 87) (.len (.loc 117)))]),.expr (.append (.key (.loc 112) 119) (.tup [(.loc 87),(.loc 33),(.loc 117),(.c .none)]))] [],.ret (.c (.bool true))]⟩
def qF:bh:=⟨[112,14,122],[.tA [8,33,117,52] (.idx (.key (.loc 112) 119) (.loc 14)),.ite (.not (.loc 122)) [.expr (.pop (.key (.loc 112) 119) (.loc 14))] [],.asg 123 (.key (.loc 112) 123),.asg 78 (.key (.loc 112) 78),.asg 124 (.key (.loc 112) 124),.asg 100 (.key (.loc 112) 100),.asg 77 (.key (.loc 112) 77),.asg 102 (.bin .Sub (.loc 8) (.loc 100)),.asg 125 (.and (.cmp .LtE (.key (.loc 112) 126) (.loc 102)) (.and (.cmp .Lt (.loc 102) (.len (.loc 124))) (.cmp .Eq (.idx (.loc 124) (.loc 102)) (.bin .Sub (.loc 33) (.loc 77))))),.ite (.and (.cmp .IsNot (.loc 52) (.c .none)) (.cmp .Gt (.loc 8) (.attr (.loc 123) 72))) [.ite (.cmp .NotEq (.aw (.loc 123) 81 [(.loc 8),(.loc 33)]) (.loc 125)) [.ret (.c (.bool false))] [],.ite (.loc 125) [.expr (.aw (.loc 123) 86 [(.loc 8)])] [.expr (.aw (.loc 123) 90 [(.loc 52)]),.dg (.loc 112) 124 (.slice (.loc 78) (.c .none) (.bin .Add (.loc 102) (.c (.int 1)))),.dg (.loc 112) 126 (.loc 102)],.dg (.loc 112) 127 (.loc 102)] [],.ite (.or (.cmp .IsNot (.loc 52) (.c .none)) (.cmp .Lt (.loc 8) (.attr (.loc 123) 72))) [.expr (.append (.key (.loc 112) 4) (.tup [(.bin .Add (.loc 100) (.key (.loc 112) 127)),(.c (.bool false)),(.c (.int 0)),(.c (.int 0))])),.ret (.c (.bool true))] [],.asg 12 (.aw (.loc 123) 128 [(.loc 8),(.loc 33),(.attr (.key (.loc 112) 114) 72),(.loc 117)]),.ite (.cmp .NotEq (.cmp .IsNot (.loc 12) (.c .none)) (.loc 125)) [.ret (.c (.bool false))] [],.ite (.loc 125) [.asg 94 (.bin .Add (.loc 102) (.len (.loc 117))),.ite (.cmp .NotEq (.slice (.loc 124) (.c .none) (.bin .Add (.loc 94) (.c (.int 1)))) (.slice (.loc 78) (.c .none) (.bin .Add (.loc 94) (.c (.int 1))))) [.dg (.loc 112) 124 (.slice (.loc 78) (.c .none) (.bin .Add (.loc 94) (.c (.int 1))))] [],.dg (.loc 112) 127 (.max2 (.key (.loc 112) 127) (.min2 (.key (.loc 112) 43) (.loc 94))),.expr (.append (.key (.loc 112) 4) (.tup [(.loc 12),(.c (.bool false)),(.c (.int 0)),(.c (.int 0))])),.ret (.cmp .Eq (.loc 12) (.bin .Add (.loc 100) (.loc 94)))] [],.tA [27,76] (.aw (.loc 123) 129 [(.min2 (.loc 8) (.aw (.loc 123) 58 [])),(.loc 33)]),.asg 130 (.nI (.comp (.loc 131) (some 131) [] (.mj (.key (.loc 112) 126) (.min2 (.bin .Add (.loc 102) (.c (.int 1))) (.len (.loc 124)))) (.cmp .LtE (.idx (.loc 124) (.loc 131)) (.bin .Sub (.loc 33) (.loc 77))))),.expr (.append (.key (.loc 112) 4) (.tup [(.loc 8),(.c (.bool true)),(.loc 27),(.loc 76)])),.ret (.cmp .Eq (.tup [(.loc 27),(.loc 76)]) (.tup [(.bin .Add (.loc 100) (.loc 130)),(.bin .Add (.idx (.loc 124) (.loc 130)) (.loc 77))]))]⟩
def o4:bh:=⟨[112],[.asg 123 (.key (.loc 112) 123),.asg 52 (.attr (.attr (.loc 123) 71) 62),.ite (.cmp .IsNot (.loc 52) (.c .none)) [.expr (.aw (.attr (.loc 123) 69) 103 [(.loc 52)]),.expr (.aw (.loc 123) 92 [(.attr (.loc 52) 8)])] [],.asg 132 (.aw (.loc 123) 133 []),.ite (.cmp .Gt (.len (.loc 132)) (.c (.int 0))) [.expr (.aw (.attr (.loc 123) 69) 85 [(.loc 132)]),.expr (.aw (.loc 123) 91 [(.attr (.idx (.loc 132) (.neg (.c (.int 1)))) 8),(.attr (.idx (.loc 132) (.neg (.c (.int 1)))) 33)])] [],.dg (.loc 112) 40 (.key (.loc 112) 124),.dg (.loc 112) 134 (.key (.loc 112) 126),.dg (.loc 112) 135 (.oR 12 (.key (.loc 112) 135) (.key (.loc 112) 4)),.dg (.loc 112) 4 (.eJ 11 [])]⟩
def mw:bh:=⟨[112,8,27,76],[.asg 114 (.key (.loc 112) 114),.asg 115 (.key (.loc 112) 115),.asg 78 (.key (.loc 112) 78),.asg 100 (.key (.loc 112) 100),.tA [136,65] (.aw (.loc 114) 129 [(.loc 27),(.loc 76)]),.asg 137 (.comp (.loc 131) (some 131) [] (.mj (.key (.loc 112) 120) (.bin .Add (.bin .Sub (.loc 27) (.loc 100)) (.c (.int 1)))) (.cmp .LtE (.idx (.loc 78) (.loc 131)) (.bin .Sub (.loc 76) (.key (.loc 112) 77)))),.asg 130 (.tup [(.min2 (.loc 27) (.bin .Sub (.bin .Add (.loc 100) (.key (.loc 112) 120)) (.c (.int 1)))),(.c (.int 0))]),.ite (.cmp .Gt (.len (.loc 137)) (.c (.int 0))) [.asg 130 (.tup [(.bin .Add (.loc 100) (.idx (.loc 137) (.neg (.c (.int 1))))),(.bin .Add (.idx (.loc 78) (.idx (.loc 137) (.neg (.c (.int 1))))) (.key (.loc 112) 77))])] [],.ite (.cmp .NotEq (.tup [(.loc 136),(.loc 65)]) (.loc 130)) [.ret (.c (.bool false))] [],.nJ (.loc 112) 138 .Add (.c (.int 1)),.asg 139 (.attr (.loc 115) 15),.asg 16 (.attr (.loc 115) 16),.asg 19 (.attr (.loc 115) 19),.asg 109 (.max2 (.loc 139) (.min2 (.bin .Sub (.loc 8) (.c (.int 1))) (.loc 136))),.asg 140 (.cmp .Eq (.loc 8) (.bin .Sub (.loc 16) (.c (.int 1)))),.ite (.cmp .Eq (.loc 19) (.c (.int 1))) [.asg 109 (.loc 139),.asg 140 (.cmp .Gt (.loc 8) (.loc 139))] [],.ite (.cmp .NotEq (.aw (.loc 115) 141 [(.loc 8),(.loc 136)]) (.loc 140)) [.ret (.c (.bool false))] [],.ite (.not (.loc 140)) [.ret (.and (.cmp .Eq (.attr (.loc 115) 16) (.loc 16)) (.and (.cmp .Eq (.attr (.loc 115) 15) (.loc 139)) (.cmp .Eq (.attr (.loc 115) 19) (.loc 19))))] [],.ite (.or (.cmp .NotEq (.attr (.loc 115) 16) (.bin .Add (.loc 109) (.c (.int 1)))) (.or (.cmp .NotEq (.attr (.loc 115) 15) (.loc 139)) (.cmp .NotEq (.attr (.loc 115) 19) (.loc 19)))) [.ret (.c (.bool false))] [],.ite (.cmp .Eq (.loc 19) (.c (.int 1))) [.expr (.aw (.loc 115) 142 [])] [],.ret (.call 956 none [(.loc 112),(.c (.bool true))])]⟩
def qG:bh:=⟨[112,14,122],[.tA [8,138,27,76] (.idx (.key (.loc 112) 135) (.loc 14)),.ite (.not (.loc 122)) [.expr (.pop (.key (.loc 112) 135) (.loc 14))] [],.ite (.loc 138) [.ret (.call 973 none [(.loc 112),(.loc 8),(.loc 27),(.loc 76)])] [],.asg 115 (.key (.loc 112) 115),.asg 143 (.aw (.loc 115) 144 [(.loc 8)]),.ite (.and (.not (.loc 143)) (.or (.cmp .NotEq (.attr (.loc 115) 19) (.c (.int 0))) (.cmp .NotEq (.attr (.loc 115) 15) (.loc 8)))) [.ret (.c (.bool true))] [],.ite (.cmp .Eq (.attr (.loc 115) 19) (.c (.int 0))) [.expr (.aw (.loc 115) 145 [])] [.ite (.cmp .Eq (.attr (.loc 115) 19) (.c (.int 1))) [.expr (.aw (.attr (.loc 115) 17) 146 [(.loc 8)])] [.ite (.cmp .GtE (.attr (.loc 115) 15) (.attr (.loc 115) 20)) [.expr (.aw (.loc 115) 142 []),.expr (.aw (.loc 115) 145 [])] []]],.ret (.call 956 none [(.loc 112),(.c (.bool false))])]⟩
def nU:bh:=⟨[112],[.asg 115 (.key (.loc 112) 115),.ay (.loc 115) 22 (.c (.bool false)),.ite (.cmp .Gt (.attr (.loc 115) 15) (.c (.int 0))) [.asg 102 (.min2 (.bin .Sub (.attr (.loc 115) 15) (.key (.loc 112) 100)) (.key (.loc 112) 43)),.expr (.aw (.key (.loc 112) 123) 86 [(.bin .Add (.key (.loc 112) 100) (.loc 102))]),.dg (.loc 112) 127 (.max2 (.key (.loc 112) 127) (.loc 102))] [],.ite (.or (.cmp .Lt (.attr (.loc 115) 15) (.bin .Sub (.bin .Add (.key (.loc 112) 100) (.len (.key (.loc 112) 78))) (.c (.int 1)))) (.cmp .Eq (.attr (.loc 115) 19) (.c (.int 0)))) [.ret (.call 956 none [(.loc 112),(.c (.bool true))])] [],.ret (.c (.bool true))]⟩
def nV:bh:=⟨[112,147],[.asg 115 (.key (.loc 112) 115),.ite (.and (.cmp .Eq (.attr (.loc 115) 19) (.c (.int 2))) (.cmp .Eq (.bin .Mod (.loc 147) (.c (.int 2))) (.c (.int 0)))) [.ite (.cmp .Eq (.bin .Mod (.loc 147) (.c (.int 4))) (.c (.int 0))) [.ay (.loc 115) 20 (.c (.int 0))] [],.expr (.aw (.loc 115) 142 []),.ay (.loc 115) 22 (.c (.bool true))] [.ite (.cmp .Lt (.key (.loc 112) 120) (.key (.loc 112) 43)) [.nJ (.loc 112) 120 .Add (.bin .Add (.c (.int 1)) (.bin .Mod (.bin .FloorDiv (.loc 147) (.c (.int 2))) (.bin .Sub (.key (.loc 112) 43) (.key (.loc 112) 120)))),.expr (.aw (.attr (.key (.loc 112) 114) 69) 148 [(.bin .Add (.key (.loc 112) 100) (.key (.loc 112) 120)),(.c .none),(.c (.ig []))]),.expr (.aw (.attr (.key (.loc 112) 114) 69) 149 [(.bin .Add (.key (.loc 112) 100) (.key (.loc 112) 120))])] []]]⟩
def tG:bh:=⟨[112,111],[.asg 150 (.bin .Mod (.loc 111) (.c (.int 10))),.asg 147 (.bin .FloorDiv (.loc 111) (.c (.int 10))),.asg 119 (.key (.loc 112) 119),.asg 135 (.key (.loc 112) 135),.ite (.or (.cmp .Eq (.loc 150) (.c (.int 0))) (.cmp .Eq (.loc 150) (.c (.int 9)))) [.ret (.call 956 none [(.loc 112),(.cmp .Eq (.bin .Mod (.loc 147) (.c (.int 2))) (.c (.int 0)))])] [],.ite (.cmp .Eq (.loc 150) (.c (.int 5))) [.ret (.call 987 none [(.loc 112)])] [],.ite (.cmp .Eq (.loc 150) (.c (.int 7))) [.expr (.call 994 none [(.loc 112),(.loc 147)])] [.ite (.and (.cmp .Eq (.loc 150) (.c (.int 1))) (.cmp .Eq (.bin .Mod (.bin .Mod (.loc 147) (.c (.int 4))) (.c (.int 3))) (.c (.int 0)))) [.dg (.loc 112) 123 (.new 906 (some 100) [(.attr (.key (.loc 112) 123) 69),(.c (.int 18446744073709551615))]),.dg (.loc 112) 124 (.key (.loc 112) 40),.dg (.loc 112) 126 (.key (.loc 112) 134),.dg (.loc 112) 127 (.key (.loc 112) 134),.dg (.loc 112) 4 (.eJ 11 [])] [.ite (.and (.cmp .Eq (.loc 150) (.c (.int 1))) (.cmp .Eq (.bin .Mod (.loc 147) (.c (.int 4))) (.c (.int 1)))) [.expr (.reverse (.loc 119)),.expr (.reverse (.loc 135))] [.ite (.cmp .Eq (.loc 150) (.c (.int 1))) [.ite (.cmp .Gt (.len (.loc 119)) (.c (.int 0))) [.expr (.pop (.loc 119) (.bin .Mod (.bin .FloorDiv (.loc 147) (.c (.int 4))) (.len (.loc 119))))] []] [.ite (.or (.cmp .Eq (.loc 150) (.c (.int 3))) (.cmp .Eq (.loc 150) (.c (.int 6)))) [.ite (.cmp .Eq (.len (.loc 135)) (.c (.int 0))) [.expr (.call 968 none [(.loc 112)])] [],.asg 135 (.key (.loc 112) 135),.ite (.cmp .Gt (.len (.loc 135)) (.c (.int 0))) [.ret (.call 980 none [(.loc 112),(.bin .Mod (.bin .FloorDiv (.loc 147) (.c (.int 3))) (.len (.loc 135))),(.cmp .Eq (.bin .Mod (.loc 147) (.c (.int 3))) (.c (.int 1)))])] []] [.ite (.and (.cmp .Eq (.len (.loc 119)) (.c (.int 0))) (.not (.call 956 none [(.loc 112),(.c (.bool true))]))) [.ret (.c (.bool false))] [],.ite (.cmp .Gt (.len (.loc 119)) (.c (.int 0))) [.ite (.not (.call 961 none [(.loc 112),(.bin .Mod (.bin .FloorDiv (.loc 147) (.c (.int 15))) (.len (.loc 119))),(.cmp .Eq (.bin .Mod (.loc 147) (.c (.int 3))) (.c (.int 1)))])) [.ret (.c (.bool false))] [],.ite (.cmp .NotEq (.bin .Mod (.bin .Mod (.bin .FloorDiv (.loc 147) (.c (.int 3))) (.c (.int 5))) (.c (.int 3))) (.c (.int 1))) [.expr (.call 968 none [(.loc 112)])] []] []]]]]],.ret (.c (.bool true))]⟩
def nW:bh:=⟨[112],[.asg 115 (.key (.loc 112) 115),.asg 123 (.key (.loc 112) 123),.asg 100 (.key (.loc 112) 100),.ite (.and (.cmp .NotEq (.attr (.loc 115) 15) (.c (.int 0))) (.or (.cmp .Lt (.attr (.loc 115) 15) (.loc 100)) (.cmp .Gt (.bin .Sub (.attr (.loc 115) 15) (.loc 100)) (.call 934 none [(.key (.loc 112) 78),(.key (.loc 112) 40)])))) [.ret (.c (.bool false))] [],.ite (.or (.cmp .GtE (.attr (.loc 115) 15) (.attr (.loc 115) 16)) (.cmp .Gt (.attr (.loc 115) 16) (.bin .Add (.loc 100) (.len (.key (.loc 112) 78))))) [.ret (.c (.bool false))] [],.ite (.or (.cmp .NotEq (.attr (.loc 123) 72) (.bin .Add (.loc 100) (.key (.loc 112) 127))) (.cmp .NotEq (.aw (.loc 123) 58 []) (.bin .Sub (.bin .Add (.loc 100) (.len (.key (.loc 112) 124))) (.c (.int 1))))) [.ret (.c (.bool false))] [],.asg 6 (.comp (.tup [(.call 951 none [(.loc 61),(.loc 100)]),(.loc 1)]) none [61,1] (.aw (.attr (.loc 115) 17) 151 []) (.c (.bool true))),.expr (.append (.key (.loc 112) 151) (.tup [(.call 951 none [(.attr (.loc 115) 15),(.loc 100)]),(.call 951 none [(.attr (.loc 115) 16),(.loc 100)]),(.attr (.loc 115) 19),(.call 951 none [(.attr (.loc 115) 20),(.loc 100)]),(.attr (.loc 115) 22),(.loc 6)])),.ret (.c (.bool true))]⟩
def nX:bh:=⟨[112],[.asg 115 (.key (.loc 112) 115),.asg 78 (.key (.loc 112) 78),.asg 94 (.bin .Sub (.bin .Add (.key (.loc 112) 100) (.len (.loc 78))) (.c (.int 1))),.expr (.call 968 none [(.loc 112)]),.dg (.loc 112) 119 (.eJ 10 []),.dg (.loc 112) 135 (.eJ 12 []),.dg (.loc 112) 138 (.c (.int 0)),.asg 105 (.call 934 none [(.loc 78),(.key (.loc 112) 124)]),.asg 152 (.min2 (.call 939 none [(.loc 78),(.loc 105)]) (.bin .Add (.call 939 none [(.key (.loc 112) 124),(.loc 105)]) (.c (.int 1)))),.ite (.cmp .Eq (.attr (.loc 115) 19) (.c (.int 2))) [.ay (.loc 115) 20 (.c (.int 0)),.expr (.aw (.loc 115) 142 [])] [],.oT 153 (.mj (.c (.int 0)) (.c (.int 12))) [.ite (.cmp .Lt (.attr (.loc 115) 15) (.loc 94)) [.ay (.loc 115) 22 (.c (.bool false)),.ite (.or (.not (.call 956 none [(.loc 112),(.c (.bool true))])) (.cmp .Eq (.len (.key (.loc 112) 119)) (.c (.int 0)))) [.ret (.c (.bool false))] [],.oT 14 (.mj (.c (.int 0)) (.c (.int 9))) [.ite (.cmp .Gt (.len (.key (.loc 112) 119)) (.c (.int 0))) [.ite (.not (.call 961 none [(.loc 112),(.c (.int 0)),(.c (.bool false))])) [.ret (.c (.bool false))] [],.expr (.call 968 none [(.loc 112)]),.ite (.not (.call 980 none [(.loc 112),(.c (.int 0)),(.c (.bool false))])) [.ret (.c (.bool false))] []] []]] []],.ret (.and (.cmp .Eq (.attr (.loc 115) 15) (.loc 94)) (.and (.cmp .LtE (.key (.loc 112) 138) (.loc 152)) (.cmp .Eq (.key (.loc 112) 40) (.loc 78))))]⟩
def tH:bh:=⟨[96,100,77,154],[.asg 111 (.call 917 none [(.loc 96),(.c (.int 0))]),.asg 97 (.eJ 34 [(.c (.int 1))]),.oT 61 (.mj (.c (.int 0)) (.bin .Mod (.bin .Add (.loc 111) (.c (.int 1))) (.c (.int 3)))) [.expr (.append (.loc 97) (.bin .Add (.idx (.loc 97) (.neg (.c (.int 1)))) (.bin .Mod (.bin .Add (.bin .FloorDiv (.bin .FloorDiv (.loc 111) (.c (.int 27))) (.bin .Pow (.c (.int 2)) (.loc 61))) (.c (.int 1))) (.c (.int 2)))))],.asg 78 (.call 924 none [(.loc 97),(.call 917 none [(.loc 96),(.c (.int 1))]),(.bin .Add (.c (.int 1)) (.bin .Mod (.bin .Add (.bin .FloorDiv (.loc 111) (.c (.int 3))) (.c (.int 1))) (.c (.int 3)))),(.c (.int 1))]),.asg 124 (.call 924 none [(.loc 97),(.call 917 none [(.loc 96),(.c (.int 2))]),(.bin .Add (.c (.int 1)) (.bin .Mod (.bin .Add (.bin .FloorDiv (.loc 111) (.c (.int 9))) (.c (.int 1))) (.c (.int 3)))),(.c (.int 0))]),.asg 12 (.bin .Sub (.len (.loc 78)) (.c (.int 1))),.asg 94 (.bin .Sub (.len (.loc 124)) (.c (.int 1))),.asg 155 (.call 917 none [(.loc 96),(.c (.int 4))]),.asg 101 (.bin .Sub (.loc 12) (.bin .Mod (.loc 155) (.c (.int 2)))),.asg 43 (.bin .Sub (.loc 101) (.bin .Mod (.bin .FloorDiv (.loc 155) (.c (.int 2))) (.bin .Add (.loc 101) (.c (.int 1))))),.asg 114 (.call 929 (some 0) [(.loc 78),(.loc 100),(.loc 77),(.loc 101)]),.expr (.aw (.loc 114) 86 [(.bin .Add (.loc 100) (.loc 43))]),.asg 155 (.call 917 none [(.loc 96),(.c (.int 5))]),.asg 127 (.bin .Mod (.loc 155) (.len (.loc 97))),.asg 123 (.call 929 (some 100) [(.loc 124),(.loc 100),(.loc 77),(.loc 94)]),.expr (.aw (.loc 123) 86 [(.bin .Add (.loc 100) (.loc 127))]),.ite (.not (.call 944 none [(.loc 114),(.bin .Add (.loc 100) (.loc 12)),(.bin .Add (.idx (.loc 78) (.neg (.c (.int 1)))) (.loc 77))])) [.ret (.lst [])] [],.ite (.cmp .NotEq (.aw (.loc 123) 110 [(.bin .Add (.loc 100) (.loc 12)),(.bin .Add (.idx (.loc 78) (.neg (.c (.int 1)))) (.loc 77))]) (.cmp .GtE (.tup [(.idx (.loc 78) (.neg (.c (.int 1)))),(.loc 12)]) (.tup [(.idx (.loc 124) (.neg (.c (.int 1)))),(.loc 94)]))) [.ret (.lst [])] [],.ite (.cmp .NotEq (.aw (.loc 114) 110 [(.bin .Add (.loc 100) (.loc 94)),(.bin .Add (.idx (.loc 124) (.neg (.c (.int 1)))) (.loc 77))]) (.cmp .GtE (.tup [(.idx (.loc 124) (.neg (.c (.int 1)))),(.loc 94)]) (.tup [(.idx (.loc 78) (.neg (.c (.int 1)))),(.loc 12)]))) [.ret (.lst [])] [],.asg 115 (.new 311 none [(.c (.int 0)),(.bin .Add (.bin .Add (.loc 100) (.loc 12)) (.c (.int 1))),(.new 227 none [(.bin .Add (.c (.int 1)) (.bin .Mod (.bin .FloorDiv (.loc 155) (.c (.int 3))) (.c (.int 3)))),(.c (.int 0))]),(.c (.bool false))]),.asg 112 (.dict 0 [100,77,78,124,40,120,126,134,43,127,114,123,115,138,57,119,4,135,151] [(.loc 100),(.loc 77),(.loc 78),(.loc 124),(.loc 124),(.c (.int 0)),(.c (.int 0)),(.c (.int 0)),(.loc 43),(.loc 127),(.loc 114),(.loc 123),(.loc 115),(.c (.int 0)),(.idx (.lst [(.c (.int 18446744073709551615)),(.c (.int 0))]) (.bin .Mod (.bin .FloorDiv (.loc 155) (.c (.int 9))) (.c (.int 2)))),(.eJ 10 []),(.eJ 11 []),(.eJ 12 []),(.eJ 13 [])]),.ite (.or (.not (.call 956 none [(.loc 112),(.c (.bool true))])) (.not (.call 961 none [(.loc 112),(.c (.int 0)),(.c (.bool false))]))) [.ret (.lst [])] [],.expr (.call 968 none [(.loc 112)]),.ite (.or (.not (.call 980 none [(.loc 112),(.c (.int 0)),(.c (.bool false))])) (.or (.cmp .NotEq (.key (.loc 112) 138) (.c (.int 1))) (.not (.call 1006 none [(.loc 112)])))) [.ret (.lst [])] [],.oT 61 (.mj (.c (.int 0)) (.loc 154)) [.ite (.or (.not (.call 1001 none [(.loc 112),(.call 917 none [(.loc 96),(.bin .Add (.c (.int 6)) (.loc 61))])])) (.not (.call 1006 none [(.loc 112)]))) [.ret (.lst [])] []],.ite (.or (.not (.call 1013 none [(.loc 112)])) (.not (.call 1006 none [(.loc 112)]))) [.ret (.lst [])] [],.asg 151 (.comp (.aw (.loc 89) 156 []) (some 89) [] (.aw (.key (.loc 112) 123) 157 []) (.c (.bool true))),.ite (.cmp .NotEq (.loc 151) (.comp (.tup [(.bin .Add (.idx (.loc 78) (.loc 102)) (.loc 77)),(.bin .Add (.loc 100) (.loc 102)),(.c (.int 0)),(.fb (.lst [(.idx (.loc 78) (.loc 102))]))]) (some 102) [] (.mj (.bin .Add (.key (.loc 112) 126) (.c (.int 1))) (.bin .Add (.loc 12) (.c (.int 1)))) (.c (.bool true)))) [.ret (.lst [])] [],.ite (.or (.not (.aw (.key (.loc 112) 123) 110 [(.bin .Add (.loc 100) (.loc 12)),(.bin .Add (.idx (.loc 78) (.neg (.c (.int 1)))) (.loc 77))])) (.not (.aw (.loc 114) 110 [(.bin .Add (.loc 100) (.loc 12)),(.aw (.key (.loc 112) 123) 79 [])]))) [.ret (.lst [])] [],.gX (.key (.loc 112) 151)]⟩
def g_:bh:=⟨[158],[.asg 96 (.comp (.bin .Mod (.loc 25) (.c (.int 999983))) (some 25) [] (.slice (.loc 158) (.c .none) (.c (.int 14))) (.c (.bool true))),.ite (.cmp .Eq (.len (.loc 96)) (.c (.int 0))) [.asg 96 (.lst [(.c (.int 0))])] [],.asg 111 (.call 917 none [(.loc 96),(.c (.int 3))]),.asg 100 (.bin .Add (.idx (.lst [(.bin .Sub (.bin .Pow (.c (.int 2)) (.c (.int 16))) (.c (.int 2))),(.bin .Sub (.bin .Pow (.c (.int 2)) (.c (.int 31))) (.c (.int 3))),(.bin .Sub (.bin .Pow (.c (.int 2)) (.c (.int 32))) (.c (.int 2))),(.bin .Sub (.bin .Pow (.c (.int 2)) (.c (.int 40))) (.c (.int 9))),(.c (.int 254))]) (.bin .Mod (.loc 111) (.c (.int 5)))) (.bin .Mod (.bin .FloorDiv (.loc 111) (.c (.int 5))) (.c (.int 5)))),.ite (.cmp .Eq (.bin .Mod (.bin .FloorDiv (.loc 111) (.c (.int 25))) (.c (.int 8))) (.c (.int 7))) [.asg 100 (.c (.int 1))] [],.asg 77 (.bin .Sub (.bin .Add (.idx (.lst [(.c (.int 1)),(.bin .Sub (.bin .Pow (.c (.int 2)) (.c (.int 16))) (.c (.int 3))),(.bin .Sub (.bin .Pow (.c (.int 2)) (.c (.int 40))) (.c (.int 40))),(.c (.int 254)),(.bin .Sub (.bin .Pow (.c (.int 2)) (.c (.int 32))) (.c (.int 3)))]) (.bin .Mod (.bin .FloorDiv (.loc 111) (.c (.int 200))) (.c (.int 5)))) (.bin .Mod (.bin .FloorDiv (.loc 111) (.c (.int 1000))) (.c (.int 4)))) (.c (.int 1))),.asg 154 (.bin .Add (.c (.int 5)) (.min2 (.c (.int 3)) (.bin .FloorDiv (.len (.loc 158)) (.c (.int 4))))),.asg 151 (.call 1018 none [(.loc 96),(.loc 100),(.loc 77),(.loc 154)]),.ret (.and (.cmp .NotEq (.loc 151) (.lst [])) (.cmp .Eq (.loc 151) (.call 1018 none [(.loc 96),(.c (.int 1)),(.c (.int 0)),(.loc 154)])))]⟩
def fns:List (Nat×bh):=[(168,je),(175,eK),(182,dh),(189,gY),(196,jf),(210,iJ),(217,jg),(245,jY),(252,iu),(259,eN),(266,dp),(273,dH),(280,eP),(287,fN),(294,iK),(301,jZ),(322,j4),(329,uX),(343,nQ),(350,oW),(371,nR),(385,nS),(399,jh),(448,ji),(483,j5),(525,fW),(539,dq),(546,dJ),(553,cT),(560,eQ),(567,ez),(581,cD),(588,cZ),(595,cU),(602,eS),(630,j6),(637,fh),(644,fO),(651,fP),(658,fX),(665,dU),(672,iw),(679,c7),(686,j7),(714,kY),(721,fQ),(728,fY),(735,gZ),(742,kZ),(756,fZ),(763,f9),(770,cE),(777,jj),(784,eT),(791,dK),(798,iL),(805,g6),(826,g7),(833,eC),(840,dM),(875,iy),(882,iM),(889,fS),(896,j8),(917,qD),(924,jK),(929,tF),(934,oX),(939,nT),(944,oY),(951,oZ),(956,qE),(961,qF),(968,o4),(973,mw),(980,qG),(987,nU),(994,nV),(1001,tG),(1006,nW),(1013,nX),(1018,tH),(1023,g_)]
def tabs:aU where
 jH:=[(227,168),(311,245),(374,343),(430,399),(465,448),(507,483),(612,525),(696,630),(906,714)]
 slots:=[(227,2),(311,1),(374,50),(430,53),(465,52),(507,51),(612,6),(696,5),(906,4)]
 shift:=[906,696,612]
 nM:=[374,507,465,430]
 fields:=[(227,[1,2,3,4,5,6]),(311,[15,16,19,20,21,22,17,18]),(374,[33,8,34,35]),(430,[33,42,43]),(465,[44,45,46,47,48]),(507,[8,33,49,35]),(612,[51,49,52,53,54,38]),(696,[62,38,64]),(906,[69,70,71,72,73])]
 meths:=[(227,[(11,175),(29,182),(146,189),(9,196),(23,210),(151,217)]),(311,[(24,252),(142,259),(145,266),(118,273),(144,280),(141,287),(116,294),(121,301)]),(374,[(156,350),(1,371)]),(430,[]),(465,[]),(507,[]),(612,[(60,539),(58,546),(95,553),(63,560),(62,567),(85,581),(103,588),(148,595),(149,602)]),(696,[(74,637),(75,644),(66,651),(91,658),(92,665),(90,672),(88,679),(68,686)]),(906,[(60,721),(58,728),(79,735),(33,742),(81,756),(110,763),(128,770),(85,777),(84,784),(129,791),(90,798),(86,805),(91,826),(92,833),(133,840),(62,875),(38,882),(157,889),(93,896)])]
def ym:List String:=["self","size","max_octets","start","held","octets","ring","wanted","index","full","place","grow","last","out","k","match","upto","inflights","learner","state","pending_snapshot","recent_active","flow_paused","reset","turn_to","n","rejected","hint","entries_count","add","count","ids","nid","term","kind","data","length","head","entries","total","kept","entry","vote","commit","voters","learners","outgoing","learners_next","auto_leave","conf","begin","hard","snap","base_index","base_term","lo","hi","limit","last_index","first","first_index","i","snapshot","term_at","offset","found","maybe_term","after","part","storage","max_committed","unstable","committed","applied","maybe_first","maybe_last","known","t","mine","last_term","log_term","match_term","newest","conflict","find_conflict","append","commit_to","before","truncate_and_append","e","restore","stable_to","stable_snap_to","slice","end","entries_between","nums","shared","odd","terms","d","stored","p","apply_snapshot","log","a","b","asks","j","want","up_to_date","x","w","empty_too","lead","pr","paused","page","become_snapshot","mail","low","sent","again","other","theirs","holds","base","sure","maybe_append","conflict_by_term","right","q","waits","unstable_entries","kept_base","back","guess","may","no","told","fresh","maybe_decr","become_probe","news","maybe_update","become_replicate","free_to","y","create_snapshot","compact","way","rows","most","turn","acts","z","row","all_entries","script"]
abbrev Led:=List (Addr×Obj)
abbrev iN(J:List Value)(n:Nat):Obj:={cls:= .type "tuple",data:= .seq J.toArray n}
abbrev aS(J:List Value)(n:Nat):Obj:={cls:= .type "list",data:= .seq J.toArray n}
def addrs(l:Led):List Addr:=l.map (·.1)
section
variable(P:Params)(Y:List Str)(J:Led)(Z:List Addr)
mutual noncomputable def VR:V->Value->Prop|.none,x=>x= .none|.bool b,x=>x= .bool b|.int i,x=>∃t,x= .int i t|.ig l,x=>∃t,x= .bytes (byteArr l) t/\(∀x∈l,0<=x/\x<256)/\l.length<=1000|.ref _ g,x=>∃a,x= .ref a/\Z[g]?=some a|.tup l,x=>∃U n a,x= .ref a/\(a,iN U n)∈J/\U.length<=lid/\bY l U|.lst l,x=>∃U n a,x= .ref a/\(a,aS U n)∈J/\U.length<=lid/\bY l U|.obj C O,x=>∃W n a X,x= .ref a/\(a,instObj C X)∈J/\(X,dictOf W n)∈J/\FR O W noncomputable def bY:List V->List Value->Prop|[],U=>U=[]|v::l,U=>∃x r,U=x::r/\VR v x/\bY l r noncomputable def FR:List (Nat×V)->List DictEntry->Prop|[],W=>W=[]|(f,v)::O,W=>∃x Q N r,W=⟨PyData.keyHash P x,.str x N,Q⟩::r/\Y[f]?=some x/\VR v Q/\FR O r end
end
section
variable{P:Params}{Y:List Str}{J:Led}{Z:List Addr}
theorem VR.none:VR P Y J Z .none .none:=rfl
theorem VR.bool{b:Bool}:VR P Y J Z (.bool b) (.bool b):=rfl
theorem VR.int{i:Int}{t:Tok}:VR P Y J Z (.int i) (.int i t):=⟨t,rfl⟩
theorem VR.ig{l:List Int}{t:Tok}(h1:∀x∈l,0<=x/\x<256)(h2:l.length<=1000):VR P Y J Z (.ig l) (.bytes (byteArr l) t):=⟨t,rfl,h1,h2⟩
theorem VR.ref{s g:Nat}{a:Addr}(h:Z[g]?=some a):VR P Y J Z (.ref s g) (.ref a):=⟨a,rfl,h⟩
theorem VR.tup{l:List V}{U:List Value}{n:Nat}{a:Addr}(h1:(a,iN U n)∈J)(h2:U.length<=lid)(W:bY P Y J Z l U):VR P Y J Z (.tup l) (.ref a):=⟨U,n,a,rfl,h1,h2,W⟩
theorem VR.lst{l:List V}{U:List Value}{n:Nat}{a:Addr}(h1:(a,aS U n)∈J)(h2:U.length<=lid)(W:bY P Y J Z l U):VR P Y J Z (.lst l) (.ref a):=⟨U,n,a,rfl,h1,h2,W⟩
theorem VR.obj{C:Nat}{Q:List (Nat×V)}{W:List DictEntry}{n:Nat}{a U:Addr}(h1:(a,instObj C U)∈J)(h2:(U,dictOf W n)∈J)(O:FR P Y J Z Q W):VR P Y J Z (.obj C Q) (.ref a):=⟨W,n,a,U,rfl,h1,h2,O⟩
theorem bY.nil:bY P Y J Z [] []:=rfl
theorem bY.cons{v:V}{x:Value}{l:List V}{U:List Value}(h1:VR P Y J Z v x)(h2:bY P Y J Z l U):bY P Y J Z (v::l) (x::U):=⟨x,U,rfl,h1,h2⟩
theorem FR.nil:FR P Y J Z [] []:=rfl
theorem FR.cons{f:Nat}{v:V}{x:Str}{U:Value}{Q:Tok}{O:List (Nat×V)}{W:List DictEntry}(h1:Y[f]?=some x)(h2:VR P Y J Z v U)(X:FR P Y J Z O W):FR P Y J Z ((f,v)::O) (⟨PyData.keyHash P x,.str x Q,U⟩::W):=⟨x,U,Q,W,rfl,h1,h2,X⟩
end
structure Up(U J:Led)(Y Z:List Addr):Prop where
 objs:∀p∈U,p∈J
 gens:∀(g:Nat)(a:Addr),Y[g]?=some a->Z[g]?=some a
theorem Up.refl{J:Led}{Z:List Addr}:Up J J Z Z:=⟨λ _ h=>h,λ _ _ h=>h⟩
theorem Up.trans{a b c:Led}{x y z:List Addr}(u:Up a b x y)(v:Up b c y z):Up a c x z:=⟨λ p h=>v.objs p (u.objs p h),λ g a h=>v.gens g a (u.gens g a h)⟩
section
variable{P:Params}{J:List Str}{Z U:Led}{Y W:List Addr}
theorem VR.up(u:Up Z U Y W){v:V}{x:Value}(h:VR P J Z Y v x):VR P J U W v x:=by
 refine@V.rec (λ v=>∀x,VR P J Z Y v x->VR P J U W v x) (λ l=>∀X,bY P J Z Y l X->bY P J U W l X) (λ G=>∀N,FR P J Z Y G N->FR P J U W G N) (λ p=>∀x,VR P J Z Y p.2 x->VR P J U W p.2 x) (λ _ h=>h) (λ _ _ h=>h) (λ _ _ h=>h) (λ _ _ h=>h) (λ _ _ _ h=>h.elim λ a h=>⟨a,h.1,u.gens _ _ h.2⟩) (λ _ Q _ h=>?_) (λ _ Q _ h=>?_) (λ _ _ Q _ h=>?_) (λ _ h=>h) (λ _ _ L D _ h=>?_) (λ _ h=>h) (λ _ _ I D _ h=>?_) (λ _ _ Q=>Q) v x h;.obtain@⟨@X,@n,@a,e,h1,h2,O⟩:=h;exact⟨X,n,a,e,u.objs _ h1,h2,Q _ O⟩
 .obtain@⟨@X,@n,@a,e,h1,h2,O⟩:=h;exact⟨X,n,a,e,u.objs _ h1,h2,Q _ O⟩
 .obtain@⟨@N,@n,@a,@T,e,h1,h2,O⟩:=h;exact⟨N,n,a,T,e,u.objs _ h1,u.objs _ h2,Q _ O⟩
 .obtain@⟨@x,@r,e,h1,h2⟩:=h;exact⟨x,r,e,L _ h1,D _ h2⟩
 .obtain@⟨@x,@R,@K,@r,e,h1,h2,O⟩:=h;exact⟨x,R,K,r,e,h1,I _ h2,D _ O⟩
theorem bY.up(u:Up Z U Y W){l:List V}:∀{Q:List Value},bY P J Z Y l Q->bY P J U W l Q:=by induction l with|nil=>exact λ h=>h|cons v l O=>exact λ⟨x,r,e,h1,h2⟩=>⟨x,r,e,h1.up u,O h2⟩
theorem FR.up(u:Up Z U Y W){Q:List (Nat×V)}:∀{X:List DictEntry},FR P J Z Y Q X->FR P J U W Q X:=by induction Q with|nil=>exact λ h=>h|cons p Q D=>exact λ⟨x,O,R,r,e,h1,h2,N⟩=>⟨x,O,R,r,e,h1,h2.up u,D N⟩
theorem bY.length{l:List V}:∀{Q:List Value},bY P J Z Y l Q->Q.length=l.length:=by induction l with|nil=>exact λ h=>congrArg List.length h|cons v l O=>exact λ⟨x,r,e,_,h⟩=>(congrArg List.length e).trans (congrArg (·+1) (O h))
theorem bY.get{l:List V}:∀{O:List Value},bY P J Z Y l O->∀{i:Nat}{v:V},l[i]?=some v->∀{G:Prop},(∀x,O[i]?=some x->VR P J Z Y v x->G)->G:=by induction l with|nil=>exact λ _ _ _ e=>nomatch e|cons v l X=>rintro _⟨x,r,rfl,h1,h2⟩i w e G Q;cases i with|zero=>cases e;exact Q x rfl h1|succ i=>exact X h2 e Q
theorem bY.append{l r:List V}{Q O:List Value}(h:bY P J Z Y l Q)(k:bY P J Z Y r O):bY P J Z Y (l++r) (Q++O):=by induction l generalizing Q with|nil=>cases h;exact k|cons v l X=>obtain⟨x,q,rfl,h1,h2⟩:=h;exact⟨x,_,rfl,h1,X h2⟩
theorem bY.drop{l:List V}:∀{Q:List Value}(n:Nat),bY P J Z Y l Q->bY P J Z Y (l.drop n) (Q.drop n):=by induction l with|nil=>rintro _ n rfl;rw[List.drop_nil,List.drop_nil];rfl|cons v l O=>rintro _ n⟨x,q,rfl,h1,h2⟩;cases n with|zero=>exact⟨x,q,rfl,h1,h2⟩|succ n=>exact O n h2
theorem bY.take{l:List V}:∀{Q:List Value}(n:Nat),bY P J Z Y l Q->bY P J Z Y (l.take n) (Q.take n):=by induction l with|nil=>rintro _ n rfl;rw[List.take_nil,List.take_nil];rfl|cons v l O=>rintro _ n⟨x,q,rfl,h1,h2⟩;cases n with|zero=>rfl|succ n=>exact⟨x,_,rfl,h1,O n h2⟩
theorem bY.set{l:List V}:∀{Q:List Value}(i:Nat){v:V}{x:Value},bY P J Z Y l Q->VR P J Z Y v x->bY P J Z Y (l.set i v) (Q.set i x):=by induction l with|nil=>rintro _ i v x rfl _;rfl|cons w l O=>rintro _ i v x⟨y,q,rfl,h1,h2⟩k;cases i with|zero=>exact⟨x,q,rfl,k,h2⟩|succ i=>exact⟨y,_,rfl,h1,O i h2 k⟩
theorem bY.eraseIdx{l:List V}:∀{Q:List Value}(i:Nat),bY P J Z Y l Q->bY P J Z Y (l.eraseIdx i) (Q.eraseIdx i):=by induction l with|nil=>rintro _ i rfl;rfl|cons w l O=>rintro _ i⟨y,q,rfl,h1,h2⟩;cases i with|zero=>exact h2|succ i=>exact⟨y,_,rfl,h1,O i h2⟩
theorem bY.reverse{l:List V}:∀{Q:List Value},bY P J Z Y l Q->bY P J Z Y l.reverse Q.reverse:=by induction l with|nil=>rintro _ rfl;rfl|cons v l O=>rintro _⟨x,q,rfl,h1,h2⟩;rw[List.reverse_cons,List.reverse_cons];exact bY.append (O h2) (.cons h1 .nil)
/-! reading and writing the fields -/
theorem k7(V:J.Nodup){i j:Nat}{x:Str}(Q:J[i]?=some x)(O:J[j]?=some x):i=j:=by obtain⟨h1,_⟩:=List.getElem?_eq_some_iff.mp Q;exact(List.getElem?_inj h1 V).mp (Q.trans O.symm)
theorem FR.isStr{x y:Str}{Q:Tok}:(Value.str x Q).isStr y=(x==y):=rfl
theorem o6(O:J.Nodup){f V:Nat}{x Q:Str}(q:¬V=f)(h1:J[V]?=some Q)(X:J[f]?=some x):Q≠x:=λ z=>q (k7 O h1 (z▸X))
theorem qH(O:J.Nodup){f V:Nat}{x Q:Str}(q:¬V=f)(h1:J[V]?=some Q)(X:J[f]?=some x):(Q==x)=false:=beq_eq_false_iff_ne.mpr (o6 O q h1 X)
theorem FR.look(T:J.Nodup){f:Nat}{x:Str}{v:V}(D:J[f]?=some x){O:List (Nat×V)}:∀{R:List DictEntry},FR P J Z Y O R->aQ f O=some v->∀{G:Prop},(∀Q,getL x R=some (some Q)->VR P J Z Y v Q->G)->G:=by
 induction O with
  |nil=>exact λ _ e=>nomatch e
  |cons p O H=>
   obtain⟨K,F⟩:=p;rintro _⟨N,X,A,R,rfl,h1,h2,M⟩e G L;haveI e:(if K=f then some F else aQ f O)=some v:=e;by_cases q:K=f;.rw[if_pos q]at e;cases e;obtain rfl:N=x:=Option.some.inj ((q▸h1:J[f]?=some N).symm.trans D);refine L X ?_ h2;unfold getL;rw[List.find?_cons_of_pos (by exact beq_self_eq_true N)]
   .rw[if_neg q]at e;refine H M e λ Q I S=>L Q ?_ S;unfold getL at I⊢;rw[List.find?_cons_of_neg (by show¬(N==x)=true;rw[qH T q h1 D];exact Bool.false_ne_true)];exact I
theorem FR.noRef{Q:List (Nat×V)}:∀{O:List DictEntry},FR P J Z Y Q O->O.any (·.refKey)=false:=by induction Q with|nil=>rintro _ rfl;rfl|cons p Q R=>rintro _⟨D,X,G,O,rfl,h1,h2,N⟩;rw[List.any_cons,R N];rfl
theorem FR.sees{O:List (Nat×V)}{Q:List DictEntry}(h:FR P J Z Y O Q)(x:Str):(getL x Q).isSome=true:=by
 unfold getL;split;.rfl
 .rw[FR.noRef h];rfl
theorem FR.length{Q:List (Nat×V)}:∀{O:List DictEntry},FR P J Z Y Q O->O.length=Q.length:=by induction Q with|nil=>rintro _ rfl;rfl|cons p Q R=>rintro _⟨D,X,G,O,rfl,h1,h2,N⟩;exact congrArg (·+1) (R N)
theorem FR.put(L:J.Nodup){f:Nat}{x:Str}{v:V}{O:Value}{T:Tok}(R:J[f]?=some x)(K:VR P J Z Y v O){Q:List (Nat×V)}:∀{D:List DictEntry},FR P J Z Y Q D->FR P J Z Y (bj f v Q) (putL x (PyData.keyHash P x) (.str x T) O D):=by
 induction Q with
  |nil=>rintro _ rfl;exact .cons R K .nil
  |cons p Q H=>
   obtain⟨N,F⟩:=p;rintro _⟨X,I,M,D,rfl,h1,h2,G⟩;show FR P J Z Y (if N=f then(N,v)::Q else(N,F)::bj f v Q) (if(X==x)=true then _ else _);by_cases q:N=f;.obtain rfl:X=x:=Option.some.inj ((q▸h1:J[f]?=some X).symm.trans R);rw[if_pos q,if_pos (beq_self_eq_true X)];exact .cons h1 K G
   .rw[if_neg q,qH L q h1 R,if_neg Bool.false_ne_true];exact .cons h1 h2 (H G)
def KR(P:Params)(J:List Str)(Z:Led)(Y:List Addr):List (Nat×V)->List (Str×Value)->Prop|[],kvs=>kvs=[]|(f,v)::O,kvs=>∃x Q r,kvs=(x,Q)::r/\J[f]?=some x/\VR P J Z Y v Q/\KR P J Z Y O r
theorem KR.nil:KR P J Z Y [] []:=rfl
theorem KR.cons{f:Nat}{v:V}{x:Str}{Q:Value}{O:List (Nat×V)}{kvs:List (Str×Value)}(h1:J[f]?=some x)(h2:VR P J Z Y v Q)(X:KR P J Z Y O kvs):KR P J Z Y ((f,v)::O) ((x,Q)::kvs):=⟨x,Q,kvs,rfl,h1,h2,X⟩
theorem KR.up(u:Up Z U Y W){Q:List (Nat×V)}:∀{kvs:List (Str×Value)},KR P J Z Y Q kvs->KR P J U W Q kvs:=by induction Q with|nil=>exact λ h=>h|cons p Q N=>exact λ⟨x,O,r,e,h1,h2,X⟩=>⟨x,O,r,e,h1,h2.up u,N X⟩
theorem KR.look(L:J.Nodup){f:Nat}{x:Str}{v:V}(R:J[f]?=some x){X:List (Nat×V)}:∀{kvs:List (Str×Value)},KR P J Z Y X kvs->aQ f X=some v->∀{G:Prop},(∀Q,valueAt kvs x=some Q->VR P J Z Y v Q->G)->G:=by
 induction X with
  |nil=>exact λ _ e=>nomatch e
  |cons p X T=>
   obtain⟨I,H⟩:=p;rintro _⟨N,O,kvs,rfl,h1,h2,F⟩e G K;have e:(if I=f then some H else aQ f X)=some v:=e;by_cases q:I=f;.rw[if_pos q]at e;cases e;obtain rfl:N=x:=Option.some.inj ((q▸h1:J[f]?=some N).symm.trans R);refine K O ?_ h2;unfold valueAt;rw[List.find?_cons_of_pos (by exact decide_eq_true rfl)];rfl
   .rw[if_neg q]at e;refine T F e λ Q D M=>K Q ?_ M;unfold valueAt at D⊢;rw[List.find?_cons_of_neg (by exact λ z=>o6 L q h1 R (of_decide_eq_true z))];exact D
theorem KR.any(D:J.Nodup){f:Nat}{x:Str}(O:J[f]?=some x){Q:List (Nat×V)}:∀{kvs:List (Str×Value)},KR P J Z Y Q kvs->kvs.any (λ kv=>decide (kv.1=x))=(aQ f Q).isSome:=by
 induction Q with
  |nil=>rintro _ rfl;rfl
  |cons p Q I=>
   obtain⟨R,K⟩:=p;rintro _⟨N,X,kvs,rfl,h1,h2,G⟩;show(decide (N=x)||kvs.any _)=(if R=f then some K else aQ f Q).isSome;by_cases q:R=f;.rw[if_pos q,decide_eq_true (Option.some.inj ((q▸h1:J[f]?=some N).symm.trans O))];rfl
   .rw[if_neg q,I G,decide_eq_false (o6 D q h1 O)];rfl
theorem KR.keep(R:J.Nodup){f:Nat}{x:Str}(N:J[f]?=some x)(v:Value){Q:List (Nat×V)}:∀{kvs:List (Str×Value)},KR P J Z Y Q kvs->aQ f Q=none->kvs.map (λ kv=>if kv.1=x then(kv.1,v)else kv)=kvs:=by
 induction Q with
  |nil=>rintro _ rfl _;rfl
  |cons p Q D=>
   obtain⟨O,G⟩:=p;rintro _⟨K,X,kvs,rfl,h1,h2,I⟩e;haveI e:(if O=f then some G else aQ f Q)=none:=e;by_cases q:O=f;.rw[if_pos q]at e;cases e
   .rw[if_neg q]at e;rw[List.map_cons,D I e,if_neg (o6 R q h1 N)]
theorem iO{f:Nat}{v:V}{Q:List (Nat×V)}:aQ f Q=none->bj f v Q=Q++[(f,v)]:=by
 induction Q with
  |nil=>exact λ _=>rfl
  |cons p r O=>
   obtain⟨g,w⟩:=p;intro e;haveI e:(if g=f then some w else aQ f r)=none:=e;show(if g=f then(g,v)::r else(g,w)::bj f v r)=_;by_cases q:g=f;.rw[if_pos q]at e;cases e
   .rw[if_neg q]at e⊢;rw[O e];rfl
theorem KR.append{N X:List (Nat×V)}{kvs Q:List (Str×Value)}(h:KR P J Z Y N kvs)(k:KR P J Z Y X Q):KR P J Z Y (N++X) (kvs++Q):=by induction N generalizing kvs with|nil=>cases h;exact k|cons p N G=>obtain⟨D,O,kvs,rfl,h1,h2,R⟩:=h;exact⟨D,O,_,rfl,h1,h2,G R⟩
theorem KR.mapped(T:J.Nodup){f:Nat}{x:Str}{v:V}{Q:Value}(G:J[f]?=some x)(M:VR P J Z Y v Q){O:List (Nat×V)}:∀{kvs:List (Str×Value)},KR P J Z Y O kvs->(aQ f O).isSome=true->(kvs.map (·.1)).Nodup->KR P J Z Y (bj f v O) (kvs.map (λ kv=>if kv.1=x then(kv.1,Q)else kv)):=by
 induction O with
  |nil=>exact λ _ e=>nomatch e
  |cons p O F=>
   obtain⟨N,I⟩:=p;rintro _⟨X,R,kvs,rfl,h1,h2,K⟩e D;haveI e:(if N=f then some I else aQ f O).isSome=true:=e;haveI D:=List.nodup_cons.mp D;show KR P J Z Y (if N=f then(N,v)::O else(N,I)::bj f v O) ((if X=x then(X,Q)else(X,R))::kvs.map (λ kv=>if kv.1=x then(kv.1,Q)else kv));by_cases q:N=f;.obtain rfl:X=x:=Option.some.inj ((q▸h1:J[f]?=some X).symm.trans G);have H:kvs.map (λ kv=>if kv.1=X then(kv.1,Q)else kv)=kvs:=(List.map_congr_left (λ p L=>if_neg λ z=>D.1 (List.mem_map.mpr ⟨p,L,z⟩))).trans (List.map_id _);rw[if_pos q,if_pos rfl,H];exact .cons h1 M K
   .rw[if_neg q]at e⊢;rw[if_neg (o6 T q h1 G)];exact .cons h1 h2 (F K e D.2)
theorem KR.stored(N:J.Nodup){X:List (Nat×V)}{kvs:List (Str×Value)}(k:KR P J Z Y X kvs){f:Nat}{x:Str}{v:V}{Q:Value}(O:J[f]?=some x)(R:VR P J Z Y v Q)(D:(kvs.map (·.1)).Nodup):KR P J Z Y (bj f v X) (stored kvs x Q):=by unfold PySem.stored;rw[k.any N O];cases q:aQ f X with|none=>rw[iO q];exact k.append (.cons O R .nil)|some z=>exact k.mapped N O R (by rw[q];rfl) D
theorem KR.length{Q:List (Nat×V)}:∀{kvs:List (Str×Value)},KR P J Z Y Q kvs->kvs.length=Q.length:=by induction Q with|nil=>rintro _ rfl;rfl|cons p Q N=>rintro _⟨R,O,kvs,rfl,h1,h2,X⟩;exact congrArg (·+1) (N X)
end
/-! the changing objects: the abstract cells against a part of the ledger -/
section
variable(J:Program)(w:World)(Z:List Str)
def cV(U:Led)(Y:List Addr)(c:Nat×Nat×Cell)(p:Addr×Obj):Prop:=match c.2.2 with|.list l=>∃W n,p.2=aS W n/\Y[c.2.1]?=some p.1/\W.length<=lid/\bY w.params Z U Y l W|.inst C V=>∃Q n x,p.2=dictOf Q n/\Y[c.2.1]?=some x/\(x,instObj C p.1)∈U/\Q.length<=1000/\FR w.params Z U Y V Q|.dict O=>∃kvs,Y[c.2.1]?=some p.1/\p.2.IsDictOf (PySem.strKind J w) kvs/\KR w.params Z U Y O kvs
def aT(U:Led)(Y:List Addr):List (Nat×Nat×Cell)->Led->Prop|[],cl=>cl=[]|c::W,cl=>∃p r,cl=p::r/\cV J w Z U Y c p/\aT U Y W r
end
section
variable{J:Program}{w:World}{U:List Str}{Y W:Led}{Z Q:List Addr}
theorem cV.list{s g:Nat}{l:List V}{O:List Value}{n:Nat}{a:Addr}(h1:Z[g]?=some a)(h2:O.length<=lid)(X:bY w.params U Y Z l O):cV J w U Y Z (s,g,.list l) (a,aS O n):=⟨O,n,rfl,h1,h2,X⟩
theorem cV.inst{s g:Nat}{C:Nat}{N:List (Nat×V)}{O:List DictEntry}{n:Nat}{x X:Addr}(h1:Z[g]?=some x)(h2:(x,instObj C X)∈Y)(R:O.length<=1000)(D:FR w.params U Y Z N O):cV J w U Y Z (s,g,.inst C N) (X,dictOf O n):=⟨O,n,x,rfl,h1,h2,R,D⟩
theorem cV.dict{s g:Nat}{O:List (Nat×V)}{kvs:List (Str×Value)}{o:Obj}{a:Addr}(h1:Z[g]?=some a)(h2:o.IsDictOf (PySem.strKind J w) kvs)(X:KR w.params U Y Z O kvs):cV J w U Y Z (s,g,.dict O) (a,o):=⟨kvs,h1,h2,X⟩
theorem aT.nil:aT J w U Y Z [] []:=rfl
theorem aT.cons{c:Nat×Nat×Cell}{p:Addr×Obj}{O:List (Nat×Nat×Cell)}{V:Led}(h1:cV J w U Y Z c p)(h2:aT J w U Y Z O V):aT J w U Y Z (c::O) (p::V):=⟨p,V,rfl,h1,h2⟩
theorem cV.up(u:Up Y W Z Q){c:Nat×Nat×Cell}{p:Addr×Obj}(h:cV J w U Y Z c p):cV J w U W Q c p:=by obtain⟨s,g,k⟩:=c;cases k with|list l=>obtain⟨O,n,e,h1,h2,V⟩:=h;exact⟨O,n,e,u.gens _ _ h1,h2,V.up u⟩|inst C R=>obtain⟨N,n,x,e,h1,h2,V,X⟩:=h;exact⟨N,n,x,e,u.gens _ _ h1,u.objs _ h2,V,X.up u⟩|dict D=>obtain⟨kvs,h1,h2,V⟩:=h;exact⟨kvs,u.gens _ _ h1,h2,V.up u⟩
theorem aT.up(u:Up Y W Z Q){V:List (Nat×Nat×Cell)}:∀{O:Led},aT J w U Y Z V O->aT J w U W Q V O:=by induction V with|nil=>exact λ h=>h|cons c V X=>exact λ⟨p,r,e,h1,h2⟩=>⟨p,r,e,h1.up u,X h2⟩
theorem aT.at_{s g:Nat}{c:Cell}{N:List (Nat×Nat×Cell)}:∀{K:Led},aT J w U Y Z N K->cu s N=some (g,c)->∀{G:Prop},(∀O a o V,K=O++(a,o)::V->cV J w U Y Z (s,g,c) (a,o)->(∀R D,cV J w U Y Z (s,g,R) D->aT J w U Y Z (setC s R N) (O++D::V))->aT J w U Y Z (kT s N) (O++V)->G)->G:=by
 induction N with
  |nil=>exact λ _ e=>nomatch e
  |cons d N M=>
   obtain⟨X,F,I⟩:=d;rintro _⟨p,K,rfl,h,L⟩e G H;haveI e:(if X=s then some (F,I)else cu s N)=some (g,c):=e;by_cases q:X=s;.
    rw[if_pos q]at e;cases e;subst q;refine H [] p.1 p.2 K rfl h (λ R D T=>?_) ?_;.show aT _ _ _ _ _ (if X=X then _ else _) _;rw[if_pos rfl];exact .cons T L
    .show aT _ _ _ _ _ (if X=X then _ else _) _;rw[if_pos rfl];exact L
   .
    rw[if_neg q]at e;refine M L e λ O a o V S h1 h2 P=>H (p::O) a o V (congrArg _ S) h1 (λ R D T=>?_) ?_;.show aT _ _ _ _ _ (if X=s then _ else _) _;rw[if_neg q];exact .cons h (h2 R D T)
    .show aT _ _ _ _ _ (if X=s then _ else _) _;rw[if_neg q];exact .cons h P
theorem aT.put{s g:Nat}{c:Cell}{p:Addr×Obj}{N:List (Nat×Nat×Cell)}{I:Led}(z:aT J w U Y Z N I)(H:cV J w U Y Z (s,g,c) p){G:Prop}(K:∀X D V,I=X++D++V->aT J w U Y Z (oU s g c N) (X++p::V)->G):G:=by
 revert I G;induction N with
  |nil=>rintro _ rfl G K;exact K [] [] [] rfl (.cons H .nil)
  |cons d N F=>
   obtain⟨O,L,R⟩:=d;rintro _⟨q,I,rfl,h,T⟩G K;by_cases e:O=s;.subst e;exact K [] [q] I rfl (show aT J w U Y Z (if O=O then(O,g,c)::N else(O,L,R)::oU O g c N) _ by rw[if_pos rfl];exact .cons H T)
   .exact F T λ X D V M h1=>K (q::X) D V (congrArg _ M) (show aT J w U Y Z (if O=s then(O,g,c)::N else(O,L,R)::oU s g c N) _ by rw[if_neg e];exact .cons h h1)
end
structure Rep(J:Program)(w:World)(W:List Str)(Y:Hp)(U Q:Led)(Z:List Addr):Prop where
 cells:aT J w W U Z Y.cells Q
 nx:Y.nx=Z.length
structure Apart(J Z:Led):Prop where
 once:(addrs J).Nodup
 off:∀a∈addrs J,a∉addrs Z
theorem Apart.sub{Z J Y:Led}(h:Apart Z Y)(U:(addrs J).Sublist (addrs Z)):Apart J Y:=⟨h.once.sublist U,λ a W=>h.off a (U.subset W)⟩
theorem Apart.set{Z J Y:Led}{a:Addr}{o U:Obj}(h:Apart (Z++(a,o)::J) Y):Apart (Z++(a,U)::J) Y:=by
 have e:addrs (Z++(a,U)::J)=addrs (Z++(a,o)::J):=by simp[addrs]
 exact⟨e▸h.once,λ b W=>h.off b (e▸W)⟩
theorem Apart.ne{Y J U:Led}{a:Addr}{o:Obj}(h:Apart (Y++(a,o)::J) U):(∀p∈Y,p.1≠a)/\(∀p∈J,p.1≠a)/\∀p∈U,p.1≠a:=by
 haveI h1:=h.once;rw[addrs,List.map_append,List.map_cons,List.nodup_append]at h1;obtain@⟨_,W,Q⟩:=h1;refine⟨λ p Z e=>Q p.1 (List.mem_map_of_mem Z) a (.head _) e,λ p Z e=>?_,λ p Z e=>?_⟩;.haveI:=(List.nodup_cons.mp W).1;exact this (List.mem_map.mpr ⟨p,Z,e⟩)
 .refine h.off a ?_ (List.mem_map.mpr ⟨p,Z,e⟩);simp[addrs]
abbrev bq(s:Shared)(h:Heap)(J:Nat):Shared:={s with heap:=h,toks:=J}
abbrev kA(l:List Env):List Addr:=l.filterMap (·.frame)
theorem nY{g h:Heap}{L:Addr}{m:Str->Option Value}(F:Fr g L h m):g.get? L=none:=by cases q:g.get? L with|none=>rfl|some o=>exact absurd (Nat.lt_of_lt_of_le (Heap.lt_size q) F.above) (Nat.lt_irrefl _)
theorem tI{W:Around}{Q U g N:Heap}{J:List Env}{V:Env}{L:Addr}{m:Str->Option Value}(B:Below W Q J U)(F:Fr U L g m)(S:V.frame=some L)(D:KtsDicts (kA J) U)(T:KtsTurn (kA (V::J)) g N):∃Z,KtsTurn (kA J) U Z/\Fr Z L N m/\Below W Q J Z/\KtsDicts (kA J) Z:=by
 have C:=nY F;haveI E:∀b,b∈kA (V::J)->b=L\/b∈kA J:=λ b P=>by
  obtain⟨e,I,q⟩:=List.mem_filterMap.mp P;rcases List.mem_cons.mp I with rfl|I;.exact .inl (Option.some.inj (q.symm.trans S))
  .exact .inr (List.mem_filterMap.mpr ⟨e,I,q⟩)
 obtain⟨Y,X⟩:=kts_turn_at (h:=N) (fs:=kA J) (g:=U) (λ b P=>by obtain@⟨_,@o,G,_⟩:=B.frames.mem P;exact⟨o,G⟩) (λ b o e O=>T.other b o (F.keep b o e) (λ q=>by
  rcases E b q with z|z;.rw[z,C]at e;cases e
  .exact O z)) (λ b o e _=>T.up (F.keep b o e));obtain@⟨@k,@j,@u,y,K,M,R⟩:=F.ns;obtain@⟨@v,w⟩:=T.up y;refine⟨_,Y,⟨⟨_,j,u,w,K,M,R⟩,X,by rw[Y.size];exact F.above⟩,⟨B.stack,λ b o e=>Y.other b o (B.stays b o e) (λ q=>?_),B.frames.of_keeps λ b o e _=>?_⟩,D.turn Y⟩;.rw[(B.frames.mem q).1]at e;cases e
 .obtain@⟨@A,H⟩:=Y.up e;exact⟨_,H,rfl⟩
def Ik(V:List Addr)(g:Heap)(R:Result->Shared->Prop)(v:Value)(Y:Shared):Prop:=∃Z U Q J,KtsTurn V g Z/\Fr Z U Y.heap Q/\News Z U Y.heap J/\∀W:Result->Shared->Prop,W=R->W (.ok (.ret v)) Y
section
variable{I:Program}{w:World}{S A:Around}{s:Shared}{M W:Heap}{U:List Env}{L:Addr}{m:Str->Option Value}{G:Env}{Q:Led}{R:Result->Shared->Prop}{T Z:Str}{X:Arguments}{K:List Stmt}{J:Scope}{u k P j V C:Value}{z:Option Addr}{E:Obj}{f:Addr}{H:Args}{O:List (Str×Value)}
theorem Bz(B:Below S M U W)(D:KtsDicts (kA U) W)(F:Fr W L s.heap m)(N:News W L s.heap Q)(bn:W.NoLimit)(hA:A.frames=some (G::U))(hf:G.frame=some L)(ce:G.scope.kind= .function)(ho:s.heap.get? f=some E)(hd:E.data= .func (fnX T Z X K J [] u k P j z V C))(dL:s.heap.CodeRec V Z)(ad:A.depth<recursionLimit)(be:BindsTo s (fnX T Z X K J [] u k P j z V C) H O)(bd:∀n,∀x∈O,J.names.lookup x.1=some .local\/(J.names.lookup x.1=some .cell/\((cellsFrom n J.names []).lookup x.1).isSome=true))(ga:((cellsFrom 0 J.names []).map (·.1)).Nodup)(h:∀g l r tk d,Fr W L g m->Fr g l r (bindL (envOfC Z J l f V).kindOf O λ _=>none)->News g l r (d++Q)->CellsAre (bindC (envOfC Z J l f V).kindOf O λ _=>none) (cellsFrom (l+1) J.names []) d->Below A M (G::U) g->KtsDicts (kA (G::U)) g->W.StaysIn g->(∀p∈Q,p.1<l)->(∀p∈Q,g.get? p.1=none)->wpAny (model I w) (A.deeper (envOfC Z J l f V)) (execs K (envOfC Z J l f V)) (λ fl s'=>R (.ok (.ret (match fl with|.ret v=>v|_=> .none))) s') (λ e s'=>wpAny (model I w) (A.deeper (envOfC Z J l f V)) (leaving (envOfC Z J l f V) e) (λ _ a=>R (.error e) a) (λ e' a=>R (.error e') a) s') (bq s r tk))(db:J.isCoroutine=false)(bi:J.isGenerator=false)(hk:J.kind= .function):codeAny (model I w) A (.call (.ref f) H) R s:=by
 refine bf λ io bv=>?_;obtain⟨FG,BG,st,_⟩:=groundX (R:=R) B F N hA hf ce;refine bv ?_;refine codeAny_call_function ad ho hd db bi rfl dL (be _ _ _ _ ?_);refine wpAny_newFunctionEnv_cells hk (bd _) λ ge he s' x=>?_;subst he;refine⟨(bn.keeps F.keep).keeps x.toInCall.keep,codeAny_func ?_⟩;obtain⟨r,tk,rfl,_⟩:=x.done;haveI i:=x.toInCall.keep;obtain⟨d,NC,Y⟩:=Cl.news (h₀:=s.heap) (Nat.le_refl _) λ n c hm=>⟨x.cell n c (lookup_of_mem_nodup (cellsFrom_names J.names 0 (s.heap.objs.size+1) [] [] rfl▸ga) hm),x.above n c hm⟩;have DG:KtsDicts (kA (G::U)) (hideAll s.heap (Q.map (·.1))):=λ b hb=>by
  obtain⟨e,he,q⟩:=List.mem_filterMap.mp hb;rcases List.mem_cons.mp he with rfl|he;.obtain@⟨@oL,@es,@ep,hL,ds,_⟩:=FG.ns;have:b=L:=Option.some.inj (q.symm.trans hf);exact⟨oL,es,ep,this▸hL,ds⟩
  .obtain@⟨@o,@ch,@n',ci,cr⟩:=D b (List.mem_filterMap.mpr ⟨e,he,q⟩);exact⟨o,ch,n',st b o ci,cr⟩
 refine wpAny_mono (h _ s.heap.objs.size r tk d FG ⟨x.toInCall.ns,λ b o e=>i b o (of_hideAll _ e),Nat.le_of_eq (hideAll_size _ _)⟩ (λ p t=>?_) Y BG DG st (λ p t=>Heap.lt_size (N p t).1) λ p t=>hideAll_none _ (List.mem_map_of_mem t)) (λ _ _ y=>y) λ _ _ y=>y;rcases List.mem_append.mp t with t|t;.refine⟨(NC p t).1,(NC p t).2.1,?_⟩;cases q:(hideAll s.heap (Q.map (·.1))).get? p.1 with|none=>rfl|some o=>have:=of_hideAll _ q;rw[(NC p t).2.2]at this;cases this
 .exact⟨i _ _ (N p t).1,Nat.ne_of_lt (Heap.lt_size (N p t).1),hideAll_none _ (List.mem_map_of_mem t)⟩
end
structure Cm where
 scope:Scope
 cl:List (Str×Addr)
 C:Addr
 m:Str->Option Value
structure Cx where
 prog:Program
 w:World
 K:Frag
 nt:List Str
 p:Program
 loose:List Str
 mg:Str->Option Value
 mb:Str->Option Value
 A₀:Around
 A:Around
 base:Heap
 outer:List Env
 name:Str
 scope:Scope
 L:Addr
 fa:Addr
 cd:Value
 cells:List (Str×Addr)
 fr:Led
 hd:Bool
 cm:Option Cm
abbrev Cx.env(c:Cx):Env:=envX c.name c.scope c.L c.fa c.cd c.cells
def Cx.EE(J:Env):Option Cm->Env|none=>J|some k=>compEnvC k.scope k.cl k.C J
abbrev Cx.ev(c:Cx):Env:=Cx.EE c.env c.cm
def EF(m:Str->Option Value):Option Cm->Str->Option Value|none=>m|some k=>k.m
abbrev Cx.P(c:Cx):Params:=c.w.params
structure aC(c:Cx):Prop where
 X:c.K.In c.base
 T:TopRead c.p c.loose c.mg c.mb c.base
 frames:c.A.frames=some (c.env::c.outer)
 hk:c.scope.kind= .function
 hh:c.hd=false->c.A.handled=none
 units:c.A.units<cLine
 nt:c.nt.Nodup
 EG:∀k,c.cm=some k->k.scope.kind= .function/\∃o,(k.C,o)∈c.fr/\∀h:Heap,h.get? k.C=some o->h.Ns k.C k.m
 inj:∀x y a,c.cells.lookup x=some a->c.cells.lookup y=some a->x=y
structure Zs where
 h₀:Heap
 m:Str->Option Value
 br:Led
 cl:Led
 fz:Led
 ρ:List Addr
abbrev Zs.all(J:Zs)(c:Cx):Led:=(J.br++J.cl)++(J.fz++c.fr)
abbrev aF(c:Cx)(J:Zs):V->Value->Prop:=VR c.P c.nt J.fz J.ρ
abbrev b7(c:Cx)(J:Zs):List V->List Value->Prop:=bY c.P c.nt J.fz J.ρ
abbrev Il(c:Cx)(J:Zs):List (Nat×V)->List DictEntry->Prop:=FR c.P c.nt J.fz J.ρ
abbrev yo(c:Cx)(J:Zs):List (Nat×V)->List (Str×Value)->Prop:=KR c.P c.nt J.fz J.ρ
abbrev uY:Zs->Bool->Bool->Prop:=λ _ a b=>a=b
def cB(c:Cx)(Z:Loc)(Y:Zs):Prop:=∀x v,aQ x Z=some v->∃n,c.nt[x]?=some n/\∃J,aF c Y v J/\((c.ev.kindOf n=some .local->EF Y.m c.cm n=some J)/\(c.ev.kindOf n=some .cell\/c.ev.kindOf n=some .free->∃a o,c.ev.cells.lookup n=some a/\(a,o)∈Y.br++c.fr/\o.data= .cell (some J)))
def k8(c:Cx)(Z:Led):Prop:=∀n,c.env.kindOf n=some .cell->∃a o J,c.cells.lookup n=some a/\(a,o)∈Z/\o.data= .cell J
structure FS(c:Cx)(Z:Loc)(Y:Hp)(J:Zs)(h:Heap):Prop where
 B:Below c.A₀ c.base c.outer J.h₀
 D:KtsDicts (kA c.outer) J.h₀
 F:Fr J.h₀ c.L h J.m
 N:News J.h₀ c.L h (J.all c)
 R:Rep c.prog c.w c.nt Y J.fz J.cl J.ρ
 ap:Apart (J.br++J.cl) (J.fz++c.fr)
 lr:cB c Z J
 fc:k8 c J.br
def Turn(Z:Bool)(Y:List Addr)(g J:Heap):Prop:=if Z=true then J=g else KtsTurn Y g J
theorem Turn.refl{J:Bool}{Z:List Addr}{g:Heap}:Turn J Z g g:=by
 unfold Turn;split;.rfl
 .exact .refl
theorem Turn.trans{J:Bool}{Z:List Addr}{a b d:Heap}(x:Turn J Z a b)(y:Turn J Z b d):Turn J Z a d:=by
 unfold Turn at*;split;.rename_i h;rw[if_pos h]at x y;exact y.trans x
 .rename_i h;rw[if_neg h]at x y;exact x.trans y
theorem Turn.Kg{Z:Bool}{J:List Addr}{a b:Heap}(x:Turn Z J a b):KtsTurn J a b:=by
 unfold Turn at x;split at x;.rw[x];exact .refl
 .exact x
structure ExtS(c:Cx)(Y J:Zs):Prop where
 turn:Turn c.hd (kA c.outer) Y.h₀ J.h₀
 new:∃U,J.fz=U++Y.fz/\∀p∈U,p.1∉addrs c.fr
 gens:∃Z,J.ρ=Y.ρ++Z
theorem ExtS.cl{c:Cx}{J:Zs}{m:Str->Option Value}{Z Y:Led}:ExtS c J ⟨J.h₀,m,Z,Y,J.fz,J.ρ⟩:=⟨.refl,⟨[],rfl,λ _ h=>by cases h⟩,⟨[],(List.append_nil _).symm⟩⟩
theorem ExtS.refl{c:Cx}{J:Zs}:ExtS c J J:= .cl
theorem ExtS.trans{c:Cx}{V Z J:Zs}(x:ExtS c V Z)(y:ExtS c Z J):ExtS c V J:=by refine bf λ Q Y=>?_;obtain@@⟨t,⟨n,e,N⟩,⟨g,R⟩⟩:=x;obtain@@⟨D,⟨I,G,U⟩,⟨O,W⟩⟩:=y;refine Y ?_;exact⟨t.trans D,⟨I++n,by rw[G,e,List.append_assoc],λ p X=>(List.mem_append.mp X).elim (U p) (N p)⟩,⟨g++O,by rw[W,R,List.append_assoc]⟩⟩
theorem ExtS.up{c:Cx}{Z J:Zs}(x:ExtS c Z J):Up Z.fz J.fz Z.ρ J.ρ:=by obtain@@⟨_,⟨n,e,_⟩,⟨g,W⟩⟩:=x;refine⟨λ p U=>e▸List.mem_append_right _ U,λ i a Y=>?_⟩;obtain⟨h,_⟩:=List.getElem?_eq_some_iff.mp Y;rw[W,List.getElem?_append_left h];exact Y
structure Ext(c:Cx)(Z J:Zs):Prop extends ExtS c Z J where
 m:J.m=Z.m
 br:J.br=Z.br
theorem Ext.cl{c:Cx}{J:Zs}{Z:Led}:Ext c J ⟨J.h₀,J.m,J.br,Z,J.fz,J.ρ⟩:=⟨.cl,rfl,rfl⟩
theorem Ext.refl{c:Cx}{J:Zs}:Ext c J J:= .cl
theorem Ext.trans{c:Cx}{Y Z J:Zs}(x:Ext c Y Z)(y:Ext c Z J):Ext c Y J:=⟨x.toExtS.trans y.toExtS,y.m.trans x.m,y.br.trans x.br⟩
theorem Ext.up{c:Cx}{Z J:Zs}(x:Ext c Z J):Up Z.fz J.fz Z.ρ J.ρ:=x.toExtS.up
structure XS(c:Cx)(C:Nat)(Z:Loc)(Y:Hp)(J:Zs)(e:Addr)(h:Heap):Prop where
 B:Below c.A₀ c.base c.outer J.h₀
 D:KtsDicts (kA c.outer) J.h₀
 fl:∃G t U,Fr J.h₀ c.L G J.m/\RaisedS c.base G (c.env::c.outer) e (.ref C) t U (J.all c) h/\G.UpToSlots h
 R:Rep c.prog c.w c.nt Y J.fz J.cl J.ρ
 ap:Apart (J.br++J.cl) (J.fz++c.fr)
 lr:cB c Z J
 fc:k8 c J.br
def aq{R N:Type}(c:Cx)(O:Zs->R->N->Prop)(Y:Loc)(X:Zs)(s:Shared)(Q:N->Shared->Prop)(E:Value->Shared->Prop):Res R->Prop|.ok v Z=>∀W V J U,Ext c X J->FS c Y Z J W->O J v U->Q U (bq s W V)|.exc C Z=>∀W V J e,Ext c X J->XS c C Y Z J e W->E (.ref e) (bq s W V)|.stuck=>False
def Ay{V W:Type}(c:Cx)(Z:Zs->V->W->Prop)(O:Loc->Hp->Res V)(t:Sem W):Prop:=∀J U Y s Q E,FS c J U Y s.heap->aq c Z J Y s Q E (O J U)->wpAny (model c.prog c.w) c.A t Q E s
section
variable{c:Cx}{Z:Loc}{X:Hp}{Y J:Zs}{s:Shared}{U W O V:Type}{E:Value->Shared->Prop}
theorem aq.ext{D:Zs->U->W->Prop}{Q:W->Shared->Prop}{r:Res U}{h:Heap}{R:Nat}(x:Ext c Y J)(p:aq c D Z Y s Q E r):aq c D Z J (bq s h R) Q E r:=by cases r with|ok v G=>exact λ K R N I y f r=>p K R N I (x.trans y) f r|exc C G=>exact λ K R N e y f=>p K R N e (x.trans y) f|stuck=>exact p
theorem aq.bind{G:Zs->U->W->Prop}{D:Zs->O->V->Prop}{Q:V->Shared->Prop}{r:Res U}{k:U->Hp->Res O}{L:W->Shared->Prop}(p:aq c D Z Y s Q E (r.bind k))(h:∀v N I K J R,Ext c Y J->FS c Z N J I->G J v R->aq c D Z J (bq s I K) Q E (k v N)->L R (bq s I K)):aq c G Z Y s L E r:=by cases r with|ok v N=>exact λ I K J R x f r=>h v N I K J R x f r (aq.ext x p)|exc C N=>exact p|stuck=>exact p.elim
theorem aq.rW{G:Zs->U->W->Prop}{D:Zs->O->V->Prop}{Q:V->Shared->Prop}{r:Res U}{k:U->Hp->Res O}{L:W->Shared->Prop}(p:aq c D Z Y s Q E (r.bind k))(h:∀v N I K J R,r= .ok v N->Ext c Y J->FS c Z N J I->G J v R->aq c D Z J (bq s I K) Q E (k v N)->L R (bq s I K)):aq c G Z Y s L E r:=by cases r with|ok v N=>exact λ I K J R x f r=>h v N I K J R rfl x f r (aq.ext x p)|exc C N=>exact p|stuck=>exact p.elim
theorem aq.now{R:Zs->U->W->Prop}{Q:W->Shared->Prop}{v:U}{N:W}{h:Heap}{D:Nat}(p:aq c R Z Y s Q E (.ok v X))(f:FS c Z X Y h)(r:R Y v N):Q N (bq s h D):=p h D Y N .refl f r
end
abbrev aX(c:Cx)(J:Loc->Hp->Res V)(e:Expr):Prop:=Ay c (aF c) J (eval e c.ev)
section
variable{c:Cx}{Z:Loc}{Y:Hp}{J:Zs}{h:Heap}{s:Shared}
theorem aq.here{O V:Type}{W:Zs->O->V->Prop}{Q:V->Shared->Prop}{E:Value->Shared->Prop}{v:O}{U:V}(p:aq c W Z J s Q E (.ok v Y))(f:FS c Z Y J s.heap)(r:W J v U):Q U s:=p s.heap s.toks J U .refl f r
theorem aq.tok{X V:Type}{W:Zs->X->V->Prop}{Q:V->Shared->Prop}{E:Value->Shared->Prop}{v:X}{U:V}{O:Nat}(p:aq c W Z J s Q E (.ok v Y))(f:FS c Z Y J s.heap)(r:W J v U):Q U {s with toks:=O}:=p s.heap O J U .refl f r
theorem aq.some{O V W:Type}{U:Zs->O->V->Prop}{Q:V->Shared->Prop}{E:Value->Shared->Prop}{o:Option W}{k:W->Res O}(p:aq c U Z J s Q E (af o k)){G:Prop}(X:∀a,o=some a->aq c U Z J s Q E (k a)->G):G:=by cases o with|none=>exact p.elim|some a=>exact X a rfl p
theorem FS.K(f:FS c Z Y J h)(U:aC c):c.K.In J.h₀:=U.X.keeps f.B.stays
theorem FS.T(f:FS c Z Y J h)(U:aC c):TopRead c.p c.loose c.mg c.mb J.h₀:=U.T.keeps f.B.stays
theorem FS.iP(f:FS c Z Y J h){p:Addr×Obj}(Y:p∈J.fz):p∈J.all c:=List.mem_append_right _ (List.mem_append_left _ Y)
theorem FS.hG(f:FS c Z Y J h){p:Addr×Obj}(Y:p∈J.cl):p∈J.all c:=List.mem_append_left _ (List.mem_append_right _ Y)
theorem qI{U:Program}{w:World}{O:List Str}{K N:Led}{X:List Addr}(R:Rep U w O Y N K X){s g:Nat}{W:Cell}(e:Y.get s g=some W){G:Prop}(H:∀V a o Q,K=V++(a,o)::Q->cV U w O N X (s,g,W) (a,o)->(∀I L,cV U w O N X (s,g,I) L->aT U w O N X (setC s I Y.cells) (V++L::Q))->aT U w O N X (kT s Y.cells) (V++Q)->G):G:=by
 haveI e:(match cu s Y.cells with|some (T,c)=>if T=g then some c else none|none=>none)=some W:=e;cases q:cu s Y.cells with
  |none=>rw[q]at e;exact nomatch e
  |some x=>
   rw[q]at e;haveI e:(if x.1=g then some x.2 else none)=some W:=e;by_cases D:x.1=g;.rw[if_pos D]at e;exact aT.at_ R.cells (q.trans (congrArg some (Prod.ext D (Option.some.inj e)))) H
   .rw[if_neg D]at e;exact nomatch e
theorem FS.rX(f:FS c Z Y J h){s g:Nat}{U:Cell}(e:Y.get s g=some U){G:Prop}(V:∀a o,(a,o)∈J.cl->cV c.prog c.w c.nt J.fz J.ρ (s,g,U) (a,o)->G):G:=qI f.R e λ W a o Q q r _ _=>V a o (q▸List.mem_append_right W (List.mem_cons_self ..)) r
theorem FS.inst(f:FS c Z Y J h){v:V}{W:Value}{C:Nat}{X:List (Nat×V)}(r:aF c J v W)(e:ey Y v=some (C,X)){G:Prop}(N:∀x O U n,W= .ref x->InstAt h x (instObj C O) C (some (dictOf U n))->Il c J X U->G):G:=by
 refine uQ e (λ Q=>?_) λ s g Q R=>?_;.subst Q;obtain⟨U,n,a,O,e,h1,h2,T⟩:=r;exact N a O U n e (InstAt.of_news f.N (f.iP h1) (f.iP h2)) T
 .subst Q;obtain⟨x,e,L⟩:=r;refine f.rX R λ a o K r=>?_;obtain⟨U,n,M,I,H,F,_,D⟩:=r;cases L.symm.trans H;exact N x a U n e (InstAt.of_news f.N (f.iP F) (f.hG (I▸K:(a,dictOf U n)∈J.cl))) D
theorem FS.list(f:FS c Z Y J h){v:V}{W:Value}{l:List V}(r:aF c J v W)(e:a8 Y v=some l){G:Prop}(O:∀a U n,W= .ref a->(a,aS U n)∈J.all c->b7 c J l U->U.length<=lid->G):G:=by
 refine uP e (λ Q=>?_) λ s g Q X=>?_;.subst Q;obtain⟨U,n,a,e,h1,h2,K⟩:=r;exact O a U n e (f.iP h1) K h2
 .subst Q;obtain⟨x,e,I⟩:=r;refine f.rX X λ a o D r=>?_;obtain⟨U,n,N,L,T,R⟩:=r;cases I.symm.trans L;exact O a U n e (f.hG (N▸D:(a,aS U n)∈J.cl)) R T
theorem lst_is{W h:Heap}{L:Addr}{U:Led}(N:News W L h U){a:Addr}{Q:List Value}{n:Nat}(V:(a,aS Q n)∈U):h.IsList a Q.toArray:=⟨_,(N _ V).1,rfl,n,rfl⟩
end
theorem handed{P:Params}{Y:List Str}{Z:Led}{J:List Addr}{v:V}{x:Value}(r:VR P Y Z J v x):handedIn x=true:=by cases v with|none=>cases r;rfl|bool b=>cases r;rfl|_=>obtain⟨_,h⟩:=r;first|(cases h;rfl)|(cases h.1;rfl)|(obtain⟨_,_,h,_⟩:=h;cases h;rfl)|(obtain⟨_,_,_,h,_⟩:=h;cases h;rfl)
section
variable{c:Cx}{U W:Loc->Hp->Res V}{e l r:Expr}
theorem EH(i:Int){k V}:aX c (λ _ Z=> .ok (.int i) Z) (.Constant (.int i) k V):=by intro J Z Y s Q E f p;exact wpAny_Constant_int (p.tok f .int)
theorem BA{k V}:aX c (λ _ Z=> .ok .none Z) (.Constant .none k V):=by intro J Z Y s Q E f p;exact wpAny_Constant_none (p.here f .none)
theorem BB(b:Bool){k V}:aX c (λ _ Z=> .ok (.bool b) Z) (.Constant (.bool b) k V):=by intro J Z Y s Q E f p;exact wpAny_Constant_bool (p.here f .bool)
theorem EI{k V}:aX c (λ _ Z=> .ok (.ig []) Z) (.Constant (.bytes []) k V):=by intro J Z Y s Q E f p;show wpAny _ _ (mkTextBytes #[]) Q E s;exact wpAny_bind (wpAny_fresh (wpAny_pure (p.tok f (.ig (l:=[]) (λ _ h=>by cases h) (Nat.zero_le _)))))
theorem k9{J:Loc}{Z:Hp}{Y:Zs}{h:Heap}(V:aC c)(f:FS c J Z Y h):c.ev.scope.kind= .function/\c.ev.globals=mainGlobals/\h.Ns c.ev.locals (EF Y.m c.cm):=by refine bf λ O Q=>?_;cases q:c.cm with|none=>refine Q ?_;unfold Cx.ev;rw[q];exact⟨V.hk,rfl,f.F.ns⟩|some k=>obtain@⟨h1,@o,h2,X⟩:=V.EG k q;refine Q ?_;unfold Cx.ev;rw[q];exact⟨h1,rfl,X _ (f.N (k.C,o) (List.mem_append_right _ (List.mem_append_right _ h2))).1⟩
theorem o7:c.ev.builtins=builtinsNs:=by show(Cx.EE c.env c.cm).builtins=_;cases c.cm<;>rfl
theorem dw{J:Loc}{Z:Hp}{Y:Zs}{s:Shared}{x:Str}{v:Value}{X:Pos}{Q:Value->Shared->Prop}{E:Value->Shared->Prop}(O:aC c)(f:FS c J Z Y s.heap)(e:nsIn c.K mainGlobals x=some (some v))(h:Q v s)(N:c.ev.kindOf x=some .globalImplicit)(R:(x==("__debug__":Str))=false):wpAny (model c.prog c.w) c.A (eval (.Name x X) c.ev) Q E s:=by haveI V:=k9 O f;haveI T:=f.T O;exact Name_function_global V.1 N (loadGlobal_global (by rw[V.2.1];exact T.g.keeps f.F.keep) (mg_of (f.K O) T.g e) h) R
theorem tJ{J:Loc}{Z:Hp}{Y:Zs}{s:Shared}{x:Str}{v:Value}{X:Pos}{Q:Value->Shared->Prop}{E:Value->Shared->Prop}(O:aC c)(f:FS c J Z Y s.heap)(e:nsIn c.K mainGlobals x=some none)(G:bootBuiltins x=some v)(N:x≠"__name__")(h:Q v s)(D:c.ev.kindOf x=some .globalImplicit)(R:(x==("__debug__":Str))=false):wpAny (model c.prog c.w) c.A (eval (.Name x X) c.ev) Q E s:=by haveI V:=k9 O f;haveI T:=f.T O;exact Name_function_global V.1 D (loadGlobal_builtin (by rw[V.2.1];exact T.g.keeps f.F.keep) (mg_none_of (f.K O) T.g e) (by rw[o7];exact T.b.keeps f.F.keep) ((T.builtins x N).trans G) h) R
def iQ(c:Cx)(x:Nat)(n:Str):Bool:=c.nt[x]?==some n&&!(n==("__debug__":Str))&&!(n==("__classdict__":Str))&&(match c.ev.kindOf n with|some .local=>true|some .cell=>true|some .free=>true|_=>false)
theorem EJ(M:aC c){x:Nat}{n:Str}{L}(F:iQ c x n=true):aX c (λ J Z=>af (aQ x J) λ v=> .ok v Z) (.Name n L):=by
 intro J Z Y s Q E f p;refine p.some λ v B p=>?_;simp only[iQ,Bool.and_eq_true,beq_iff_eq,Bool.not_eq_true']at F;obtain⟨⟨⟨P,R⟩,I⟩,N⟩:=F;obtain⟨C,G,S,D,A,T⟩:=f.lr x v B;obtain rfl:n=C:=Option.some.inj (P.symm.trans G);haveI X:=k9 M f;cases V:c.ev.kindOf n with
  |none=>rw[V]at N;cases N
  |some k=>
   refine bf λ H O=>?_;cases k with
    |«local»=>refine O ?_;exact wpAny_Name (wpAny_loadName_local X.1 V X.2.2 (A V) (p.here f D)) R
    |cell=>
     obtain⟨a,o,h1,h2,K⟩:=T (.inl V);refine O ?_;refine wpAny_Name (wpAny_loadName_cell X.1 V h1 ⟨o,f.N.get ?_,K⟩ (p.here f D)) R;rcases List.mem_append.mp h2 with q|q;.exact List.mem_append_left _ (List.mem_append_left _ q)
     .exact List.mem_append_right _ (List.mem_append_right _ q)
    |free=>
     obtain⟨a,o,h1,h2,K⟩:=T (.inr V);refine O ?_;refine wpAny_Name (wpAny_loadName_free X.1 V h1 ⟨o,f.N.get ?_,K⟩ (p.here f D) I) R;rcases List.mem_append.mp h2 with q|q;.exact List.mem_append_left _ (List.mem_append_left _ q)
     .exact List.mem_append_right _ (List.mem_append_right _ q)
    |globalExplicit=>refine O ?_;rw[V]at N;cases N
    |globalImplicit=>refine O ?_;rw[V]at N;cases N
def nZ(c:Cx)(n:Str)(i:Int):Bool:=(match nsIn c.K mainGlobals n with|some (some (.int j _))=>i==j|_=>false)&&!(n==("__debug__":Str))&&(c.ev.kindOf n==some .globalImplicit)
set_option tactic.hygienic true in theorem tK(X:aC c){n:Str}{i:Int}{V}(O:nZ c n i=true):aX c (λ _ Z=> .ok (.int i) Z) (.Name n V):=by
 intro J Z Y s Q E f p;simp only[nZ,Bool.and_eq_true,beq_iff_eq,Bool.not_eq_true']at O;obtain⟨⟨h1,N⟩,R⟩:=O;split at h1;.
  rename_i j t e;haveI:i=j:=by simpa using h1
  subst this;exact dw X f e (p.here f .int) R N
 .cases h1
def attrOk(K:Frag)(C:Nat)(x:Str):Bool:=plainGet K C x&&hasDictIn K C&&(match findIn K (.ref C) x with|some a=>noGet K a|none=>false)
def kB(o:Expr):Bool:=o.ctorIdx !=16
theorem o8{o:Expr}{V:Str}{O:Env}{Q:Sem Value}(h:kB o=true):attributeBase o V O Q=Q:=by cases o<;>first|rfl|cases h
section
variable{J:Loc}{Z:Hp}{Y:Zs}{s:Shared}
theorem mJ{k:Nat}{x:Str}{o v:V}{O:Value}{b:Bool}{Q:Value->Shared->Prop}{E:Value->Shared->Prop}(K:aC c)(T:aU)(P:∀C f x,c.nt[f]?=some x->kU T C f=true->attrOk c.K C x=true)(L:c.nt[k]?=some x)(f:FS c J Z Y s.heap)(r:aF c Y o O)(D:iq T Z k o=some v)(h:∀w,aF c Y v w->Q w {s with toks:=s.toks+1}):wpAny (model c.prog c.w) c.A (getAttr O x b) Q E s:=by refine uU D λ C A S G D=>?_;refine f.inst r S λ a j B n R I M=>?_;subst R;refine M.look K.nt L D λ w F H=>?_;have N:=(Bool.and_eq_true _ _).mp (P C k x L G);have h1:=(Bool.and_eq_true _ _).mp N.1;have h2:(match findIn c.K (.ref C) x with|some a=>noGet c.K a|none=>false)=true:=N.2;cases X:findIn c.K (.ref C) x with|none=>rw[X]at h2;exact Bool.noConfusion h2|some a=>rw[X]at h2;exact get_own f.F (f.K K) I h1.1 h1.2 X h2 F (handed H) (h w H)
end
theorem BC(R:aC c)(T:aU)(I:∀C f x,c.nt[f]?=some x->kU T C f=true->attrOk c.K C x=true)(L:aX c U e){x:Str}{k:Nat}{O}(K:c.nt[k]?=some x)(D:kB e=true):aX c (λ J Z=>(U J Z).bind λ o Z=>af (iq T Z k o) λ v=> .ok v Z) (.Attribute e x O):=by intro J Z Y s Q E f p;have F:∀V,attributeBase e x c.ev V=V:=λ V=>o8 D;refine Attribute_any_ (L _ _ _ _ _ _ f (p.bind λ o N B A H G S X r p=>?_)) (by rw[arm_eval_Attribute,F]);refine p.some λ v P p=>?_;exact mJ R T I K X r P λ w M=>p.tok X M
end
section
variable{c:Cx}{Y:Loc}{J:Hp}{Z:Zs}{h U:Heap}{s:Shared}
theorem cB.up{W:Heap}{N Q:Led}{V:List Addr}(u:Up Z.fz Q Z.ρ V)(l:cB c Y Z):cB c Y ⟨W,Z.m,Z.br,N,Q,V⟩:=λ x v e=>by refine bf λ R O=>?_;obtain⟨n,h1,X,h2,D⟩:=l x v e;refine O ?_;exact⟨n,h1,X,h2.up u,D⟩
theorem Ext.lr{W:Zs}(x:Ext c Z W)(l:cB c Y Z):cB c Y W:=by haveI u:=x.up;obtain@@⟨_,O,X⟩:=x;obtain⟨V,N,Q,G,R,D⟩:=W;replace O:N=Z.m:=O;replace X:Q=Z.br:=X;subst O X;exact l.up u
theorem FS.fresh(f:FS c Y J Z h):∀p∈Z.all c,p.1≠h.objs.size:=λ p J=>Nat.ne_of_lt (Heap.lt_size (f.N p J).1)
theorem FS.heap(f:FS c Y J Z h)(F:Fr Z.h₀ c.L U Z.m)(N:News Z.h₀ c.L U (Z.all c)):FS c Y J Z U:=⟨f.B,f.D,F,N,f.R,f.ap,f.lr,f.fc⟩
theorem ah{l:Led}{p:Addr×Obj}(h:p∈l):p.1∈addrs l:=List.mem_map_of_mem h
theorem of_addrs{l:Led}{a:Addr}(h:a∈addrs l){G:Prop}(W:∀p,p∈l->p.1=a->G):G:=(List.mem_map.mp h).elim λ p h=>W p h.1 h.2
theorem FS.Ec{a:Addr}{o:Obj}(f:FS c Y J Z h)(F:Fr Z.h₀ c.L U Z.m)(N:News Z.h₀ c.L U ((a,o)::(Z.all c)))(V:∀p∈Z.all c,p.1≠a):FS c Y J {Z with fz:=(a,o)::Z.fz} U/\Ext c Z {Z with fz:=(a,o)::Z.fz}:=by
 haveI u:Up Z.fz ((a,o)::Z.fz) Z.ρ Z.ρ:=⟨λ p J=> .tail _ J,λ _ _ e=>e⟩;haveI R:a∉addrs c.fr:=λ q=>by refine of_addrs q λ p J e=>?_;exact V p (List.mem_append_right _ (List.mem_append_right _ J)) e
 refine⟨⟨f.B,f.D,F,λ p J=>N p ?_,⟨f.R.cells.up u,f.R.nx⟩,⟨f.ap.once,λ b O q=>?_⟩,f.lr.up u,f.fc⟩,⟨⟨.refl,⟨[(a,o)],rfl,λ p J=>?_⟩,⟨[],(List.append_nil _).symm⟩⟩,rfl,rfl⟩⟩;.
  rcases List.mem_append.mp J with J|J;.exact .tail _ (List.mem_append_left _ J)
  .
   rcases List.mem_append.mp J with J|J;.
    refine bf λ X W=>?_;rcases List.mem_cons.mp J with rfl|J;.refine W ?_;exact .head _
    .refine W ?_;exact .tail _ (List.mem_append_right _ (List.mem_append_left _ J))
   .exact .tail _ (List.mem_append_right _ (List.mem_append_right _ J))
 .
  refine of_addrs q λ p J e=>?_;rcases List.mem_cons.mp (show p∈(a,o)::(Z.fz++c.fr)from J)with rfl|J;.refine of_addrs O λ D Q G=>?_;exact V D (List.mem_append_left _ Q) (G.trans e.symm)
  .exact f.ap.off b O (e▸ah J)
 .rw[List.mem_singleton.mp J];exact R
theorem FS.n4{a:Addr}{o:Obj}{B:Nat}{R:Cell}{x:Addr}{X:Led}(f:FS c Y J Z h)(F:Fr Z.h₀ c.L U Z.m)(N:News Z.h₀ c.L U ((a,o)::((Z.br++Z.cl)++(X++c.fr))))(z:∀p∈(Z.br++Z.cl)++(X++c.fr),p.1≠a)(g:∃L,X=L++Z.fz/\∀p∈L,p.1∉addrs c.fr/\p.1∉addrs (Z.br++Z.cl))(k:cV c.prog c.w c.nt X (Z.ρ++[x]) (B,Z.ρ.length,R) (a,o)){G:Prop}(d:∀D:Zs,FS c Y (J.new B R) D U->Ext c Z D->aF c D (.ref B J.nx) (.ref x)->G):G:=by
 obtain⟨M,m,Q,v,j,E⟩:=Z;obtain⟨L,rfl,P⟩:=g;have u:Up j (L++j) E (E++[x]):=⟨λ p J=>List.mem_append_right _ J,λ i a w=>by obtain⟨h,_⟩:=List.getElem?_eq_some_iff.mp w;rw[List.getElem?_append_left h];exact w⟩;refine aT.put (f.R.cells.up u) k λ V T W K C=>?_;replace K:v=_:=K;subst K;have H:(addrs (Q++(V++W))).Sublist (addrs (Q++(V++T++W))):=by unfold addrs;refine List.Sublist.map _ (List.Sublist.append (List.Sublist.refl _) ?_);rw[List.append_assoc];exact List.Sublist.append (List.Sublist.refl _) (List.sublist_append_right _ _)
 refine d ⟨M,m,Q,V++(a,o)::W,L++j,E++[x]⟩ ⟨f.B,f.D,F,λ p J=>N p ?_,⟨by rw[Hp.new,f.R.nx];exact C,by rw[Hp.new,f.R.nx];simp⟩,⟨?_,λ b r q=>?_⟩,f.lr.up u,f.fc⟩ ⟨⟨.refl,⟨L,rfl,λ p J=>(P p J).1⟩,⟨[x],rfl⟩⟩,rfl,rfl⟩ (.ref (by rw[f.R.nx];simp));.simp only[List.mem_append,List.mem_cons]at J⊢;grind
 .
  haveI h1:(addrs (Q++(V++W))).Nodup:=f.ap.once.sublist H;have h2:a∉addrs (Q++(V++W)):=λ q=>by refine of_addrs (H.subset q) λ p J e=>?_;exact z p (List.mem_append_left _ J) e
  haveI I:(addrs (Q++(V++(a,o)::W))).Perm (a::addrs (Q++(V++W))):=by
   haveI:(Q++(V++(a,o)::W)).Perm ((a,o)::(Q++(V++W))):=by rw[<-List.append_assoc,<-List.append_assoc];exact List.perm_middle
   exact this.map _
  exact I.nodup_iff.mpr (List.nodup_cons.mpr ⟨h2,h1⟩)
 .
  refine of_addrs q λ p J e=>?_;refine of_addrs r λ y A S=>?_;haveI O:y=(a,o)\/y∈Q++(V++T++W):=by simp only[List.mem_append,List.mem_cons]at A⊢;grind
  rcases O with rfl|O;.exact z p (List.mem_append_right _ J) (e.trans S.symm)
  .
   rcases List.mem_append.mp J with J|J;.
    rcases List.mem_append.mp J with J|J;.exact(P p J).2 (e▸S▸ah O)
    .exact f.ap.off b (S▸ah O) (e▸ah (List.mem_append_left _ J))
   .exact f.ap.off b (S▸ah O) (e▸ah (List.mem_append_right _ J))
end
theorem uZ{d:Addr}{o J:Obj}:∀{A B:Led},(∀p∈A,p.1≠d)->(∀p∈B,p.1≠d)->Upd d o J (A++(d,o)::B) (A++(d,J)::B)|[],_,_,hB=> .head hB|p::A,B,Z,hB=> .tail (Z p (.head _)) (uZ (λ q Y=>Z q (.tail _ Y)) hB)
theorem bX{n:Nat}(h:n<=lid):n<=1000:=h
theorem dY{n:Nat}(h:n<=5000):n<=sizeLine:=Nat.le_trans h (by decide)
section
variable{c:Cx}{Z J:Loc->Hp->Res V}{e l r:Expr}
theorem k_{i:Int}(h:small i=true):Builtin.Int.intBits i<=64:=by
 unfold small at h;haveI h:=of_decide_eq_true h;unfold Builtin.Int.intBits;split;.exact Nat.zero_le _
 .
  haveI Y:i.natAbs<2^40:=Br h;haveI U:i.natAbs≠0:=by rename_i q;simpa using q
  haveI:=(Nat.log2_lt U).mpr Y;exact"A&((UkCwGsJ}*" this
theorem tL{x y:Int}(h:small y=true):Builtin.divisionGoesByPylong x y=false:=by
 have Y:=k_ h;unfold Builtin.Int.intBits at Y;unfold Builtin.divisionGoesByPylong;have:(if(y==0)=true then 0 else y.natAbs.log2/30+1)<=300:=by cases q:y==0 with|true=>simp|false=>rw[q]at Y;simp only[Bool.false_eq_true,if_false]at Y⊢;exact"Jc1tDlHK,Py7TpQgeTDio+G" [_,_,y.natAbs.log2%30] [] ⟨rfl,rfl⟩ Y
 simp only[Bool.and_eq_false_imp,decide_eq_true_eq];exact λ z=>absurd this (Nat.not_le.mpr z)
theorem dy{Y:Loc}{Q:Hp}{W:Zs}{h:Heap}(f:FS c Y Q W h){a:Addr}{U:List Value}{n:Nat}(k:(a,aS U n)∈W.fz):h.IsList a U.toArray:=lst_is f.N (f.iP k)
theorem u0{U:Loc}{X:Hp}{Y:Zs}{s:Shared}{Q:Value->Shared->Prop}{E:Value->Shared->Prop}{l:List V}{O:List Value}{W:Heap}{R:Nat}(f:FS c U X Y s.heap)(I:b7 c Y l O)(D:O.length<=lid)(p:aq c (aF c) U Y s Q E (.ok (.lst l) X))(F:Fr Y.h₀ c.L W Y.m)(N:News Y.h₀ c.L W ((s.heap.objs.size,aS O 0)::(Y.all c))):Q (.ref s.heap.objs.size) (bq s W R):=by obtain@⟨G,x⟩:=f.Ec F N f.fresh;exact p W R _ _ x G (.lst (.head _) D (I.up x.up))
theorem Im{Y:Operator}{x y v:V}{R:Operator->V->V->V->Prop}(e:oV Y x y=some v)(h1:∀i j,R .Add (.int i) (.int j) (.int (i+j)))(h2:∀i j,R .Sub (.int i) (.int j) (.int (i-j)))(X:∀i j,small i=true->R .Mult (.int i) (.int j) (.int (i*j)))(Q:∀i j,0<j/\small j=true->R .FloorDiv (.int i) (.int j) (.int (i/j)))(W:∀i j,0<j/\small j=true->R .Mod (.int i) (.int j) (.int (i%j)))(O:∀j,0<=j->j<=64->R .Pow (.int 2) (.int j) (.int (2^j.toNat)))(U:∀i,R .RShift (.int i) (.int 7) (.int (i/128)))(N:∀l m:List V,(l++m).length<=lid->R .Add (.lst l) (.lst m) (.lst (l++m))):R Y x y v:=by
 cases x with
  |int i=>
   cases y with
    |int j=>cases Y with|Add=>exact Option.some.inj e▸h1 i j|Sub=>exact Option.some.inj e▸h2 i j|Mult=>exact uO e λ q e=>e▸X i j ((Bool.and_eq_true _ _).mp q).1|FloorDiv=>exact uO e λ q e=>e▸Q i j q|Mod=>exact uO e λ q e=>e▸W i j q|Pow=>exact uO e λ q e=>e▸q.2.2▸O j q.1 q.2.1|RShift=>exact uO e λ q e=>e▸q▸U i|_=>exact aJ e
    |_=>exact aJ e
  |lst l=>
   cases y with
    |lst m=>cases Y with|Add=>exact uO e λ q e=>e▸N l m q|_=>exact aJ e
    |_=>exact aJ e
  |_=>exact aJ e
theorem u4{W:Loc}{L:Hp}{O:Zs}{s:Shared}{Q:Value->Shared->Prop}{E:Value->Shared->Prop}{K:Operator}{x y v:V}{I G:Value}(f:FS c W L O s.heap)(Y:aF c O x I)(U:aF c O y G)(w:oV K x y=some v)(p:aq c (aF c) W O s Q E (.ok v L)):wpAny (model c.prog c.w) c.A (binaryOp K I G) Q E s:=Im (R:=λ K x y v=>aF c O x I->aF c O y G->aq c (aF c) W O s Q E (.ok v L)->wpAny (model c.prog c.w) c.A (binaryOp K I G) Q E s) w (λ _ _ Y U p=>by obtain⟨_,rfl⟩:=Y;obtain⟨_,rfl⟩:=U;exact wpAny_add_int (p.tok f .int)) (λ _ _ Y U p=>by obtain⟨_,rfl⟩:=Y;obtain⟨_,rfl⟩:=U;exact sub_int (p.tok f .int)) (λ _ _ z Y U p=>by obtain⟨_,rfl⟩:=Y;obtain⟨_,rfl⟩:=U;exact mul_int (p.tok f .int) (IntMulOk.of_left (k_ z))) (λ _ _ X Y U p=>by obtain⟨_,rfl⟩:=Y;obtain⟨_,rfl⟩:=U;exact floordiv_int (hp:= .inl (tL X.2)) (Int.ne_of_gt X.1) ((Int.fdiv_eq_ediv_of_nonneg _ (Int.le_of_lt X.1)).symm▸p.tok f .int)) (λ _ _ X Y U p=>by obtain⟨_,rfl⟩:=Y;obtain⟨_,rfl⟩:=U;exact mod_int' (Int.ne_of_gt X.1) ((Int.fmod_eq_emod_of_nonneg _ (Int.le_of_lt X.1)).symm▸p.tok f .int)) (λ j C T Y U p=>by obtain⟨_,rfl⟩:=Y;obtain⟨_,rfl⟩:=U;exact pow_int C (by rw[show Builtin.Int.intBits 2=2 by decide];exact Int.le_trans (Int.mul_le_mul_of_nonneg_left T (by decide)) (by decide)) (p.tok f .int)) (λ i Y U p=>by obtain⟨_,rfl⟩:=Y;obtain⟨_,rfl⟩:=U;exact rshift_int (by decide) ((Int.fdiv_eq_ediv_of_nonneg i (by decide:(0:Int)<=128)).symm▸p.tok f .int)) (λ _ _ N Y U p=>by obtain⟨_,_,_,rfl,S,u,M⟩:=Y;obtain⟨_,_,_,rfl,P,A,B⟩:=U;have F:=bY.append M B;exact add_arrays f.F f.N (dy f S) (dy f P) (λ H R D=>u0 f F (F.length▸N) p R D) (dY (Ax (bX u) (bX A)))) Y U p
theorem EK(M:aC c){R:Operator}{W}(h1:aX c Z l)(h2:aX c J r):aX c (λ Y U=>(Z Y U).bind λ x U=>(J Y U).bind λ y U=>af (oV R x y) λ v=> .ok v U) (.BinOp l R r W):=by intro Y U j s Q E f p;refine wpAny_BinOp (h1 _ _ _ _ _ _ f (p.bind λ x D C A I B P G T p=>?_));refine h2 _ _ _ _ _ _ G (p.bind λ y N K L X S O V H p=>?_);refine p.some λ v F p=>?_;exact u4 V (T.up O.up) H F p
end
abbrev aY(Y:Loc->Hp->Res V):Loc->Hp->Res Bool:=λ Z J=>(Y Z J).bind λ v J=>af (truth J v) λ b=> .ok b J
abbrev qJ(c:Cx)(J:Loc->Hp->Res V)(e:Expr):Prop:=Ay c uY (aY J) (isTrue e c.ev (eval e c.ev))
section
variable{c:Cx}{Y U:Loc->Hp->Res V}{e l r:Expr}{J:Loc}{Z:Hp}{W:Zs}{s:Shared}{E:Value->Shared->Prop}
set_option tactic.hygienic true in theorem fi{Q:Bool->Shared->Prop}{v:V}{x:Value}{b:Bool}(f:FS c J Z W s.heap)(D:aF c W v x)(e:truth Z v=some b)(p:aq c uY J W s Q E (.ok b Z)):wpAny (model c.prog c.w) c.A (truthy x) Q E s:=by
 refine yj e (λ X=>?_) (λ X R=>?_) λ l K R=>?_;.subst X;obtain rfl:=D;exact wpAny_truthy_bool (p.here f rfl)
 .subst X R;obtain rfl:=D;exact truthy_none (p.here f rfl)
 .
  subst R;refine f.list D K λ a I n N L G O=>?_;subst N;refine wpAny_truthy_list (lst_is f.N L) (iF (bX O)) ?_;have T:(!I.toArray.isEmpty)=!l.isEmpty:=by cases l with|nil=>cases G;rfl|cons _ _=>obtain⟨_,_,rfl,_⟩:=G;rfl
  rw[T];exact p.tok f rfl
theorem yp(N:aX c Y e)(D:isTrue e c.ev (eval e c.ev)=(do
 let v<-eval e c.ev;
 standAt e.pos;
 holding [v] (truthy v))):qJ c Y e:=by intro J Z W s Q E f p;refine isTrue_plain (N _ _ _ _ _ _ f (p.bind λ v V L K R O I X r p=>?_)) D;refine p.some λ b G p=>?_;exact fi X r G p
theorem EL{N}(L:aX c Y e):aX c (λ J Z=>(Y J Z).bind λ v Z=>af (truth Z v) λ b=> .ok (.bool (!b)) Z) (.UnaryOp .Not e N):=by intro J Z W s Q E f p;refine wpAny_UnaryOp (L _ _ _ _ _ _ f (p.bind λ v I P M T X F K r p=>?_));refine p.some λ b H p=>?_;refine not_of (fi K r H ?_);exact λ R G O X V D e=>by subst e;exact p R G O _ V D .bool
theorem Res.bind_assoc{V Q O:Type}(r:Res V)(f:V->Hp->Res Q)(g:Q->Hp->Res O):(r.bind f).bind g=r.bind λ a Z=>(f a Z).bind g:=by cases r<;>rfl
theorem cF{V Q O:Type}(o:Option V)(f:V->Res Q)(g:Q->Hp->Res O):(af o f).bind g=af o λ a=>(f a).bind g:=by cases o<;>rfl
theorem EM{V}(R:qJ c Y e):qJ c (λ J Z=>(Y J Z).bind λ v Z=>af (truth Z v) λ b=> .ok (.bool (!b)) Z) (.UnaryOp .Not e V):=by
 intro J Z W s Q E f p;refine isTrue_not (R _ _ _ _ _ _ f ?_);refine aq.bind (D:=uY) (r:=aY Y J Z) (k:=λ b Z=> .ok (!b) Z) (Q:=Q) ?_ λ v O K I D X G N r p=>?_;.
  haveI:(aY Y J Z).bind (λ b Z=>Res.ok (!b) Z)=aY (λ J Z=>(Y J Z).bind λ v Z=>af (truth Z v) λ b=> .ok (.bool (!b)) Z) J Z:=by simp only[aY,Res.bind_assoc,cF];congr
  rw[this];exact p
 .cases r;exact p.now N rfl
theorem EN{V}(R:aX c Y e):aX c (λ J Z=>(Y J Z).bind λ x Z=>match x with|.int i=> .ok (.int (-i)) Z|_=> .stuck) (.UnaryOp .USub e V):=by intro J Z W s Q E f p;refine wpAny_UnaryOp (R _ _ _ _ _ _ f (p.bind λ v O K I D X G N r p=>?_));cases v with|int i=>obtain⟨_,rfl⟩:=r;exact neg_int (p.tok N .int)|_=>exact p.elim
abbrev rY(Y U:Loc->Hp->Res V):Loc->Hp->Res V:=λ J Z=>(Y J Z).bind λ x Z=>match truth Z x with|some true=>U J Z|some false=> .ok x Z|none=> .stuck
abbrev yr(Y U:Loc->Hp->Res V):Loc->Hp->Res V:=λ J Z=>(Y J Z).bind λ x Z=>match truth Z x with|some true=> .ok x Z|some false=>U J Z|none=> .stuck
theorem Az{O X N R}(h1:aX c Y O)(h2:aX c U (.BoolOp .And (X::N) R)):aX c (rY Y U) (.BoolOp .And (O::X::N) R):=by intro J Z W s Q E f p;refine BoolOp_and (h1 _ _ _ _ _ _ f (p.bind λ v G B S T K P L r p=>?_));cases q:truth G v with|none=>simp only[q]at p;exact p.elim|some b=>refine fi L r q ?_;intro F M I A V D H;cases H;cases b with|true=>simp only[q]at p;exact h2 _ _ _ _ _ _ D (aq.ext V p)|false=>simp only[q]at p;exact p _ _ _ _ V D (r.up V.up)
theorem EO{O X N R}(h1:aX c Y O)(h2:aX c U (.BoolOp .Or (X::N) R)):aX c (yr Y U) (.BoolOp .Or (O::X::N) R):=by intro J Z W s Q E f p;refine BoolOp_or (h1 _ _ _ _ _ _ f (p.bind λ v G B S T K P L r p=>?_));cases q:truth G v with|none=>simp only[q]at p;exact p.elim|some b=>refine fi L r q ?_;intro F M I A V D H;cases H;cases b with|false=>simp only[q]at p;exact h2 _ _ _ _ _ _ D (aq.ext V p)|true=>simp only[q]at p;exact p _ _ _ _ V D (r.up V.up)
theorem AA{O Q V}(h:aX c Y Q):aX c Y (.BoolOp O [Q] V):=λ _ _ _ _ _ _ f p=>BoolOp_one (h _ _ _ _ _ _ f p)
abbrev rZ(c:Cx)(O:BoolOp)(Y:Loc->Hp->Res V)(Q:List Expr):Prop:=Ay c uY (aY Y) (allTrue O Q c.ev)
theorem tM{V}(h:qJ c Y V):rZ c .And Y [V]:=by
 intro J Z W s Q E f p;refine wpAny_allTrue_And_cons (h _ _ _ _ _ _ f ?_);revert p;cases aY Y J Z with
  |ok b O=>exact λ p I G D R X N e=>by cases e;cases b<;>first|exact p _ _ _ _ X N rfl|exact wpAny_pure (p _ _ _ _ X N rfl)
  |exc C O=>exact id
  |stuck=>exact id
theorem u5{V}(h:qJ c Y V):rZ c .Or Y [V]:=by
 intro J Z W s Q E f p;refine wpAny_allTrue_Or_cons (h _ _ _ _ _ _ f ?_);revert p;cases aY Y J Z with
  |ok b O=>exact λ p I G D R X N e=>by cases e;cases b<;>first|exact p _ _ _ _ X N rfl|exact wpAny_pure (p _ _ _ _ X N rfl)
  |exc C O=>exact id
  |stuck=>exact id
theorem u6(J:Loc)(Z:Hp):aY (rY Y U) J Z=(aY Y J Z).bind λ b Z=>if b then aY U J Z else .ok false Z:=by simp only[aY,rY,Res.bind_assoc,cF];congr;funext v Z;cases q:truth Z v with|none=>rfl|some b=>cases b with|true=>simp[af,Res.bind]|false=>simp[af,Res.bind,q]
theorem ys(J:Loc)(Z:Hp):aY (yr Y U) J Z=(aY Y J Z).bind λ b Z=>if b then .ok true Z else aY U J Z:=by simp only[aY,yr,Res.bind_assoc,cF];congr;funext v Z;cases q:truth Z v with|none=>rfl|some b=>cases b with|true=>simp[af,Res.bind,q]|false=>simp[af,Res.bind]
theorem AB{V X}(h1:qJ c Y V)(h2:rZ c .And U X):rZ c .And (rY Y U) (V::X):=by intro J Z W s Q E f p;rw[u6]at p;refine wpAny_allTrue_And_cons (h1 _ _ _ _ _ _ f (p.bind λ v N K I D R G O r p=>?_));cases r;cases v with|true=>exact h2 _ _ _ _ _ _ O p|false=>exact p.now O rfl
theorem EP{V X}(h1:qJ c Y V)(h2:rZ c .Or U X):rZ c .Or (yr Y U) (V::X):=by intro J Z W s Q E f p;rw[ys]at p;refine wpAny_allTrue_Or_cons (h1 _ _ _ _ _ _ f (p.bind λ v N K I D R G O r p=>?_));cases r;cases v with|true=>exact p.now O rfl|false=>exact h2 _ _ _ _ _ _ O p
theorem u7{V O Q}(h:rZ c V Y O):qJ c Y (.BoolOp V O Q):=λ _ _ _ _ _ _ f p=>wpAny_isTrue_BoolOp (h _ _ _ _ _ _ f p)
end
section
open PySem.SeqAt
theorem AD{U:Type}{p:Prop} [Decidable p]{a b c:U}{C:Prop}(e:(if p then a else b)=c)(h:p->a=c->C)(k:¬p->b=c->C):C:=by
 by_cases q:p;.exact h q ((if_pos q).symm.trans e)
 .exact k q ((if_neg q).symm.trans e)
theorem u9{n:Nat}{a b:V}{k:Bool}{Q:V->V->Bool->Prop}(e:bG (n+1) a b=some k)(N:∀i j,Q (.int i) (.int j) (i==j))(W:∀i j,Q (.bool i) (.bool j) (i==j))(X:∀a b,Q (.ig a) (.ig b) (decide (a=b)))(O:∀a b k,a.length=b.length->dR (bG n) a b=some k->Q (.tup a) (.tup b) k)(U:∀a b k,((a.length=b.length/\dR (bG n) a b=some k)\/(a.length≠b.length/\k=false))->Q (.lst a) (.lst b) k):Q a b k:=by
 cases a with
  |int i=>cases b with|int j=>exact Option.some.inj e▸N i j|_=>exact aJ e
  |bool i=>cases b with|bool j=>exact Option.some.inj e▸W i j|_=>exact aJ e
  |ig i=>cases b with|ig j=>exact Option.some.inj e▸X i j|_=>exact aJ e
  |tup i=>cases b with|tup j=>exact AD e (λ q e=>O i j k q e) λ _ e=>aJ e|_=>exact aJ e
  |lst i=>cases b with|lst j=>exact AD e (λ q e=>U i j k (.inl ⟨q,e⟩)) λ q e=>U i j k (.inr ⟨q,(Option.some.inj e).symm⟩)|_=>exact aJ e
  |_=>exact aJ e
set_option tactic.hygienic true in theorem mK{f:V->V->Option Bool}{a:List V}:∀{b:List V}{k:Bool},dR f a b=some k->a.length=b.length/\∃W:List Bool,W.length=a.length/\k=W.all id/\∀(j:Nat)(x y:V),a[j]?=some x->b[j]?=some y->∃X,W[j]?=some X/\f x y=some X:=by
 induction a with
  |nil=>intro b k e;cases b with|nil=>cases e;exact⟨rfl,[],rfl,rfl,λ j x y h _=>by cases h⟩|cons _ _=>cases e
  |cons a O T=>intro b k e;refine bf λ G U=>?_;cases b with|nil=>cases e|cons b Q=>haveI e:(match f a b with|some k=>(match dR f O Q with|some H=>some (k&&H)|none=>none)|none=>none)=some k:=e;cases h1:f a b with|none=>refine U ?_;rw[h1]at e;exact nomatch e|some R=>cases h2:dR f O Q with|none=>refine U ?_;rw[h1,h2]at e;cases e|some M=>rw[h1,h2]at e;cases e;obtain⟨K,W,F,L,I⟩:=T h2;refine U ?_;refine⟨congrArg (·+1) K,R::W,congrArg (·+1) F,congrArg _ L,λ j x y N D=>?_⟩;cases j with|zero=>cases N;cases D;exact⟨R,rfl,h1⟩|succ j=>exact I j x y N D
theorem range_all(U:List Bool):(List.range U.length).all (λ j=>U[j]?.getD false)=U.all id:=by
 haveI:(List.range U.length).map (λ j=>U[j]?.getD false)=U:=by refine List.ext_getElem (by simp) λ i h1 h2=>?_;simp[h2]
 conv=>rhs;rw[<-this]
 rw[List.all_map];rfl
theorem jL{a b:List Int}(Q:∀x∈a,0<=x/\x<256)(V:∀x∈b,0<=x/\x<256):((byteArr a).toList==(byteArr b).toList)=decide (a=b):=by
 unfold byteArr;induction a generalizing b with
  |nil=>cases b<;>simp
  |cons x a U=>
   cases b with
    |nil=>simp
    |cons y b=>
     haveI h1:=Q x (.head _);haveI h2:=V y (.head _);haveI U:=U (b:=b) (λ z W=>Q z (.tail _ W)) (λ z W=>V z (.tail _ W));simp only[List.map_cons]at U⊢;rw[List.cons_beq_cons,U];haveI e:(x.toNat.toUInt8==y.toNat.toUInt8)=decide (x=y):=by
      rw[Bool.eq_iff_iff];simp only[beq_iff_eq,decide_eq_true_eq];constructor;.intro h;haveI:=congrArg UInt8.toNat h;simp only[Nat.toUInt8_eq,UInt8.toNat_ofNat']at this;exact yi h1 h2 this
      .rintro rfl;rfl
     rw[e];by_cases q:x=y<;>simp[q]
section
variable{A:Around}{s:Shared}
theorem EqAt.bytes{a b:Array UInt8}{t u:Tok}:EqAt A s (.bytes a t) (.bytes b u) (a.toList==b.toList):=λ W w E Q h=>by
 unfold eqBool;refine wpAny_holding ?_;refine wpAny_ite_split (λ V=>?_) (λ _=>?_);.
  haveI e:a=b:=by have:=eq_of_beq V;injection this
  subst e;exact wpAny_bind (wpAny_rule (wpAny_pure (by simpa using h)))
 .exact wpAny_bind (U (wpAny_truthy_bool h))where U{W:Program}{w:World}{E:Value->Shared->Prop}{Q:Value->Shared->Prop}(h:Q (.bool (a.toList==b.toList)) s):wpAny (model W w) A (richCompare .Eq (.bytes a t) (.bytes b u)) Q E s:=PySem.W.eq_bytes h
end
section
variable{P:Params}{Y:List Str}{J:Led}{Z:List Addr}{s:Shared}
theorem u_(Q:∀p∈J,s.heap.get? p.1=some p.2){a:Addr}{U W:List Value}{n k:Nat}(h1:(a,aS U n)∈J)(h2:(a,aS W k)∈J):U=W:=by haveI V:s.heap.get? a=some (aS U n):=Q _ h1;haveI X:s.heap.get? a=some (aS W k):=Q _ h2;haveI e:aS U n=aS W k:=Option.some.inj (V.symm.trans X);haveI O:Data.seq U.toArray n=Data.seq W.toArray k:=congrArg Obj.data e;injection O with e3 _;exact List.toArray_inj e3
theorem vb(Q:∀p∈J,s.heap.get? p.1=some p.2){a:Addr}{U W:List Value}{n k:Nat}(h1:(a,iN U n)∈J)(h2:(a,iN W k)∈J):U=W:=by haveI V:s.heap.get? a=some (iN U n):=Q _ h1;haveI X:s.heap.get? a=some (iN W k):=Q _ h2;haveI e:iN U n=iN W k:=Option.some.inj (V.symm.trans X);haveI O:Data.seq U.toArray n=Data.seq W.toArray k:=congrArg Obj.data e;injection O with e3 _;exact List.toArray_inj e3
theorem all_true{U:List Bool}(h:∀(j:Nat)(k:Bool),U[j]?=some k->k=true):U.all id=true:=by rw[List.all_eq_true];intro k W;obtain⟨j,_,e⟩:=List.getElem_of_mem W;exact h j k (by rw[List.getElem?_eq_some_iff];exact⟨_,e⟩)
theorem o9{n:Nat}(H:∀{a b:V}{x:Value}{k:Bool},bG n a b=some k->VR P Y J Z a x->VR P Y J Z b x->k=true){l r:List V}{N:List Value}{k:Bool}(e:dR (bG n) l r=some k)(h1:bY P Y J Z l N)(h2:bY P Y J Z r N):k=true:=by
 obtain⟨W,B,F,rfl,K⟩:=mK e;refine all_true λ j S Q=>?_;have O:j<l.length:=by obtain⟨q,_⟩:=List.getElem?_eq_some_iff.mp Q;exact">3FwvFS~?f%" F q
 obtain⟨x,R⟩:∃x,l[j]?=some x:=⟨_,List.getElem?_eq_getElem O⟩;obtain⟨y,G⟩:∃y,r[j]?=some y:=⟨_,List.getElem?_eq_getElem (W▸O)⟩;obtain⟨L,D,T⟩:=K j x y R G;rw[Q]at D;cases D;refine h1.get R λ u I M=>?_;refine h2.get G λ C U X=>?_;rw[I]at U;cases U;exact H T M X
theorem vc(G:∀p∈J,s.heap.get? p.1=some p.2)(n:Nat){x:Value}:∀{a b:V}{k:Bool},bG n a b=some k->VR P Y J Z a x->VR P Y J Z b x->k=true:=by induction n generalizing x with|zero=>exact λ e _ _=>aJ e|succ n I=>exact λ e U W=>u9 (Q:=λ a b k=>VR P Y J Z a x->VR P Y J Z b x->k=true) e (λ _ _ U W=>by obtain⟨_,rfl⟩:=U;obtain⟨_,h⟩:=W;cases h;exact beq_self_eq_true _) (λ _ _ U W=>by obtain rfl:=U;cases W;exact beq_self_eq_true _) (λ a b U W=>by obtain@⟨@H,T,h1,_⟩:=U;obtain@⟨@F,K,L,_⟩:=W;haveI:=jL h1 L;rw[(Value.bytes.inj (T.symm.trans K)).1,beq_self_eq_true]at this;exact this.symm) (λ _ _ _ _ e U W=>by refine bf λ X Q=>?_;obtain⟨_,_,_,rfl,D,_,N⟩:=U;obtain⟨_,_,_,q,R,_,O⟩:=W;cases q;refine Q ?_;exact o9 I e N (vb G D R▸O)) (λ _ _ _ e U W=>by refine bf λ X Q=>?_;obtain⟨_,_,_,rfl,D,_,N⟩:=U;obtain⟨_,_,_,q,R,_,O⟩:=W;cases q;haveI O:=u_ G D R▸O;refine Q ?_;exact e.elim (λ e=>o9 I e.2 N O) λ h=>absurd (N.length.symm.trans O.length) h.1) U W
theorem vd{n:Nat}{A:Around}(C:∀{a b:V}{x y:Value}{k:Bool},bG n a b=some k->VR P Y J Z a x->VR P Y J Z b y->EqAt A.in1 s x y k){l r:List V}{Q X:List Value}{k:Bool}(e:dR (bG n) l r=some k)(h1:bY P Y J Z l Q)(h2:bY P Y J Z r X):∃f:Nat->Bool,k=(List.range Q.toArray.size).all f/\Q.toArray.size=X.toArray.size/\∀j(h1:j<Q.toArray.size)(h2:j<X.toArray.size),EqAt A.in1 s Q.toArray[j] X.toArray[j] (f j):=by
 refine bf λ W U=>?_;obtain⟨O,L,z,rfl,M⟩:=mK e;haveI R:=h1.length;haveI H:=h2.length;refine U ?_;refine⟨λ j=>L[j]?.getD false,?_,by simp[R,H,O],λ j G I=>?_⟩;.rw[List.size_toArray,R,<-z];exact(range_all L).symm
 .
  simp only[List.size_toArray]at G I;obtain⟨x,K⟩:∃x,l[j]?=some x:=⟨_,List.getElem?_eq_getElem (R▸G)⟩;obtain⟨y,T⟩:∃y,r[j]?=some y:=⟨_,List.getElem?_eq_getElem (H▸I)⟩;obtain⟨d,E,B⟩:=M j x y K T;refine h1.get K λ u F w=>?_;refine h2.get T λ g N D=>?_;haveI v:Q.toArray[j]'(by simpa using G)=u:=by refine bf λ W U=>?_;obtain⟨_,q⟩:=List.getElem?_eq_some_iff.mp F;refine U ?_;simpa using q
  haveI S:X.toArray[j]'(by simpa using I)=g:=by refine bf λ W U=>?_;obtain⟨_,q⟩:=List.getElem?_eq_some_iff.mp N;refine U ?_;simpa using q
  rw[v,S];simp only[E,Option.getD_some];exact C B w D
theorem tup_is(W:∀p∈J,s.heap.get? p.1=some p.2){a:Addr}{U:List Value}{n:Nat}(h:(a,iN U n)∈J):s.heap.IsTuple a U.toArray:=⟨_,W _ h,rfl,n,rfl⟩
theorem dZ(W:∀p∈J,s.heap.get? p.1=some p.2){a:Addr}{U:List Value}{n:Nat}(h:(a,aS U n)∈J):s.heap.IsList a U.toArray:=⟨_,W _ h,rfl,n,rfl⟩
theorem BD(W:∀p∈J,s.heap.get? p.1=some p.2){n:Nat}{A:Around}(G:∀{a b:V}{x y:Value}{k:Bool},bG n a b=some k->VR P Y J Z a x->VR P Y J Z b y->EqAt A.in1 s x y k){l r:List V}{X D:List Value}{i j:Nat}{a b:Addr}{k:Bool}(e:dR (bG n) l r=some k)(h1:(a,iN X i)∈J)(h2:(b,iN D j)∈J)(I:bY P Y J Z l X)(L:bY P Y J Z r D)(N:A.units<cLine)(U:a=b->k=true):EqAt A s (.ref a) (.ref b) k/\RcAt A s (.ref a) (.ref b) k/\RcNeAt A s (.ref a) (.ref b) (!k):=by
 obtain⟨f,rfl,K,O⟩:=vd (A:=A) G e I L;haveI Q:=RcAt.tuples (tup_is W h1) (tup_is W h2) N O;haveI R:=RcNeAt.tuples (tup_is W h1) (tup_is W h2) N O;rw[<-K,Nat.min_self,beq_self_eq_true,Bool.and_true]at Q R;refine⟨?_,Q,R⟩;by_cases q:a=b;.rw[U q,q];exact EqAt.same _
 .exact EqAt.of_refs q Q
theorem BE(U:∀p∈J,s.heap.get? p.1=some p.2){n:Nat}{A:Around}(L:∀{a b:V}{x y:Value}{k:Bool},bG n a b=some k->VR P Y J Z a x->VR P Y J Z b y->EqAt A.in1 s x y k){l r:List V}{N D:List Value}{i j:Nat}{a b:Addr}{k:Bool}(e:(l.length=r.length/\dR (bG n) l r=some k)\/(l.length≠r.length/\k=false))(h1:(a,aS N i)∈J)(h2:(b,aS D j)∈J)(I:bY P Y J Z l N)(K:bY P Y J Z r D)(X:A.units<cLine)(W:a=b->k=true):EqAt A s (.ref a) (.ref b) k/\RcAt A s (.ref a) (.ref b) k/\RcNeAt A s (.ref a) (.ref b) (!k):=by
 rcases e with⟨_,e⟩|⟨R,rfl⟩;.
  obtain⟨f,rfl,O,G⟩:=vd (A:=A) L e I K;have Q:=RcAt.lists (dZ U h1) (dZ U h2) O X G;refine⟨?_,Q,RcNeAt.lists (dZ U h1) (dZ U h2) O X G⟩;by_cases q:a=b;.rw[W q,q];exact EqAt.same _
  .exact EqAt.of_refs q Q
 .
  have O:(N.toArray.size !=D.toArray.size)=true:=by simp only[List.size_toArray,bne_iff_ne,ne_eq];rw[I.length,K.length];exact R
  have Q:=RcAt.lists_lengths (dZ U h1) (dZ U h2) O X;refine⟨?_,Q,RcNeAt.lists_lengths (dZ U h1) (dZ U h2) O X⟩;by_cases q:a=b;.cases W q
  .exact EqAt.of_refs q Q
theorem ve(I:∀p∈J,s.heap.get? p.1=some p.2)(n:Nat):∀{A:Around}{a b:V}{x y:Value}{k:Bool},bG n a b=some k->VR P Y J Z a x->VR P Y J Z b y->A.units+n<cLine->EqAt A s x y k/\RcAt A s x y k/\RcNeAt A s x y (!k):=by induction n with|zero=>exact λ e _ _ _=>aJ e|succ n T=>intro A a b x y k e O X H;have F:∀{a b:V}{x y:Value}{k:Bool},bG n a b=some k->VR P Y J Z a x->VR P Y J Z b y->EqAt A.in1 s x y k:=λ e M S=>(T e M S (Ep H)).1;have R:A.units<cLine:=Nat.lt_of_le_of_lt (Nat.le_add_right ..) H;have U:x=y->k=true:=λ q=>vc I (n+1) e O (q▸X);exact u9 (Q:=λ a b k=>VR P Y J Z a x->VR P Y J Z b y->(x=y->k=true)->EqAt A s x y k/\RcAt A s x y k/\RcNeAt A s x y (!k)) e (λ _ _ O X _=>by obtain⟨_,rfl⟩:=O;obtain⟨_,rfl⟩:=X;exact⟨λ _ _ _ _ h=>EqAt.int_int _ _ _ _ _ _ _ _ h,λ _ _ _ _ h=>RcAt.int_int _ _ _ _ _ _ _ _ h,λ _ _ _ _ h=>RcNeAt.int_int _ _ _ _ _ _ _ _ h⟩) (λ _ _ O X _=>by cases O;cases X;exact⟨λ _ _ _ _ h=>EqAt.bool_bool _ _ _ _ _ _ h,λ _ _ _ _ h=>RcAt.bool_bool _ _ _ _ _ _ h,λ _ _ _ _ h=>RcNeAt.bool_bool _ _ _ _ _ _ h⟩) (λ l r O X _=>by refine bf λ N W=>?_;obtain⟨_,rfl,h1,_⟩:=O;obtain⟨_,rfl,D,_⟩:=X;refine W ?_;rw[<-jL h1 D];exact⟨EqAt.bytes,λ G w E Q h=>PySem.W.eq_bytes h,λ G w E Q h=>PySem.W.ne_bytes h⟩) (λ l r k _ e O X U=>by refine bf λ N W=>?_;obtain⟨_,_,_,rfl,h1,_,D⟩:=O;obtain⟨_,_,_,rfl,K,_,L⟩:=X;refine W ?_;exact BD I F e h1 K D L R λ q=>U (congrArg Value.ref q)) (λ l r k e O X U=>by refine bf λ N W=>?_;obtain⟨_,_,_,rfl,h1,_,D⟩:=O;obtain⟨_,_,_,rfl,K,_,L⟩:=X;refine W ?_;exact BE I F e h1 K D L R λ q=>U (congrArg Value.ref q)) O X U
end
end
section
open PySem.SeqAt PySem.MeetsSeq PySem.MeetsSeq2 PySem.MeetsSeq3 PySem.SeqRoads2
open PySem.AutoSeq1(wpAny_loadPart')
set_option maxHeartbeats 2000000 in theorem tN(l b:Addr)(x y z u:Int)(N D I G:Tok)(n F:Nat):Meets (Builtin.«tuple.__ge__» ⟨[.ref l,.ref b],[]⟩) (λ A R s=>s.heap.get? l=some (iN [.int x N,.int y D] n)/\s.heap.get? b=some (iN [.int z I,.int u G] F)/\R (.ok (.ret (.bool (decide (z<x\/(x=z/\u<=y)))))) s):= .of_wp λ V w A R s h=>by
 obtain⟨Z,g,d,P,M⟩:=s;obtain⟨T,H,h⟩:=h;haveI S:=AutoSeq1.sub_tuple_tuple;wp_walk using wpAny_loadPart' T,wpAny_loadPart' H;show wpAny (model V w) A.in1 (eqBool (.int x N) (.int z I)) _ _ _;refine EqAt.int_int x N z I V w _ _ ?_;by_cases q:x=z;.
  subst q;simp only[beq_self_eq_true,Bool.not_true,Bool.false_eq_true,if_false];wp_walk;show wpAny (model V w) A.in1 (eqBool (.int y D) (.int u G)) _ _ _;refine EqAt.int_int y D u G V w _ _ ?_;by_cases L:y=u;.subst L;simp only[beq_self_eq_true,Bool.not_true,Bool.false_eq_true,if_false];wp_walk;haveI e3:Builtin.Tuple.tupleCompareSizes CmpOp.GtE 2 2= .bool true:=rfl;rw[show(Builtin.Tuple.tupleCompareSizes CmpOp.GtE (#[Value.int x N,Value.int y D]).size (#[Value.int x I,Value.int y G]).size)= .bool true from rfl];simpa using h
  .
   have e:(y==u)=false:=by simpa using L
   simp only[e,Bool.not_false,if_true];refine wpAny_bind (wpAny_rule (wpAny_bind (PyProof.Rows.ge_int (wpAny_bind (wpAny_pure (wpAny_pure (wpAny_pure (wpAny_pure ⟨_,rfl,?_⟩))))))));haveI K:decide (u<=y)=decide (x<x\/(x=x/\u<=y)):=by simp
   rw[K];exact h
 .
  have e:(x==z)=false:=by simpa using q
  simp only[e,Bool.not_false,if_true];refine wpAny_bind (wpAny_rule (wpAny_bind (PyProof.Rows.ge_int (wpAny_bind (wpAny_pure (wpAny_pure (wpAny_pure (wpAny_pure ⟨_,rfl,?_⟩))))))));haveI K:decide (z<x\/(x=z/\u<=y))=decide (z<=x):=by simp only[q,false_and,or_false];exact decide_eq_decide.mpr (by exact"B^TczOfQUCn'54c/>6(uHD," q)
  rw[<-K];exact h
section
variable{c:Cx}{W O X:Loc->Hp->Res V}{e l r:Expr}{J:Loc}{Z:Hp}{U:Zs}{s:Shared}{E:Value->Shared->Prop}
theorem FS.tO(f:FS c J Z U s.heap):∀p∈U.fz,s.heap.get? p.1=some p.2:=λ p Z=>(f.N p (f.iP Z)).1
def n5:V->Bool|.none=>true|_=>false
theorem bY.two{P:Params}{D:List Str}{R:Led}{N:List Addr}{a b:V}{I:List Value}(h:bY P D R N [a,b] I){G:Prop}(K:∀x y,I=[x,y]->VR P D R N a x->VR P D R N b y->G):G:=by obtain⟨_,_,rfl,h1,_,_,rfl,h2,rfl⟩:=h;exact K _ _ rfl h1 h2
theorem mM{P:Params}{D:List Str}{R:Led}{N:List Addr}{a:V}{x:Value}(r:VR P D R N a x):(x== .none)=n5 a:=by cases a with|none=>cases r;rfl|bool b=>cases r;rfl|_=>obtain⟨_,h⟩:=r;first|(cases h;rfl)|(cases h.1;rfl)|(obtain⟨_,_,h,_⟩:=h;cases h;rfl)|(obtain⟨_,_,_,h,_⟩:=h;cases h;rfl)
theorem BF{a b:V}{k:Bool}{f:Int->Int->Bool}{R:V->V->Bool->Prop}(e:(match a,b with|.int x,.int y=>some (f x y)|_,_=>none)=some k)(h:∀x y,R (.int x) (.int y) (f x y)):R a b k:=by
 cases a with
  |int i=>cases b with|int j=>exact Option.some.inj e▸h i j|_=>exact aJ e
  |_=>exact aJ e
theorem ER{b:V}{o:Option Bool}{k:Bool}{C:Prop}(e:(match b with|.none=>o|_=>none)=some k)(h:b= .none->o=some k->C):C:=by cases b with|none=>exact h rfl e|_=>exact aJ e
def Kh(a b:V):Option Bool:=match a,b with|.int x,.int y=>some (decide (y<=x))|.tup [.int x,.int y],.tup [.int z,.int u]=>some (decide (z<x\/(x=z/\u<=y)))|_,_=>none
theorem Ki{a b:V}{k:Bool}{R:V->V->Bool->Prop}(e:Kh a b=some k)(h:∀x y,R (.int x) (.int y) (decide (y<=x)))(h2:∀x y z u,R (.tup [.int x,.int y]) (.tup [.int z,.int u]) (decide (z<x\/(x=z/\u<=y)))):R a b k:=by
 cases a with
  |int i=>cases b with|int j=>exact Option.some.inj e▸h i j|_=>exact aJ e
  |tup l=>
   cases l with
    |nil=>exact aJ e
    |cons x l=>
     cases x with
      |int x=>
       cases l with
        |nil=>exact aJ e
        |cons y l=>
         cases y with
          |int y=>
           cases l with
            |cons _ _=>exact aJ e
            |nil=>
             cases b with
              |tup m=>
               cases m with
                |nil=>exact aJ e
                |cons z m=>
                 cases z with
                  |int z=>
                   cases m with
                    |nil=>exact aJ e
                    |cons u m=>
                     cases u with
                      |int u=>cases m with|cons _ _=>exact aJ e|nil=>exact Option.some.inj e▸h2 x y z u
                      |_=>exact aJ e
                  |_=>exact aJ e
              |_=>exact aJ e
          |_=>exact aJ e
      |_=>exact aJ e
  |_=>exact aJ e
theorem ES{a:V}{k:Bool}(e:(match a with|.none=>some true|.bool _=>some false|.int _=>some false|_=>some false)=some k):n5 a=k:=by cases a<;>exact Option.some.inj e
theorem BH{a:V}{k:Bool}(e:(match a with|.none=>some false|_=>some true)=some k):(!n5 a)=k:=by cases a<;>exact Option.some.inj e
section
variable{Y:CmpOp}{a b:V}{x y:Value}{k:Bool}{Q:Value->Shared->Prop}
theorem yt(A:aC c)(M:c.A.units+5<cLine)(f:FS c J Z U s.heap)(V:aF c U a x)(N:aF c U b y)(e:ew .GtE a b=some k)(p:Q (.bool k) s):wpAny (model c.prog c.w) c.A (compareOp .GtE x y) Q E s:=by exact Ki (R:=λ a b k=>aF c U a x->aF c U b y->Q (.bool k) s->wpAny (model c.prog c.w) c.A (compareOp .GtE x y) Q E s) e (λ _ _ V N p=>by obtain⟨_,rfl⟩:=V;obtain⟨_,rfl⟩:=N;exact PyProof.Rows.ge_int p) (λ _ _ _ _ V N p=>by obtain⟨_,_,_,rfl,h1,_,h2⟩:=V;obtain⟨_,_,_,rfl,P,_,S⟩:=N;refine h2.two λ _ _ R K D=>?_;subst R;obtain⟨_,rfl⟩:=K;obtain⟨_,rfl⟩:=D;refine S.two λ _ _ L I G=>?_;subst L;obtain⟨_,rfl⟩:=I;obtain⟨_,rfl⟩:=G;haveI H:=f.tO _ h1;haveI T:=f.tO _ P;exact richCompare_meets_room (op:= .GtE) ⟨_,H,rfl⟩ ⟨_,T,rfl⟩ F.slot_tuple_ge F.entry_tuple_ge (F.args_tuple_ge_2 _ _) (tN _ _ _ _ _ _ _ _ _ _ _ _) ⟨H,T,(λ z=>by cases z),p⟩ (Nat.lt_of_le_of_lt (Nat.le_add_right ..) M)) V N p
theorem o_(G:aC c)(R:c.A.units+5<cLine)(f:FS c J Z U s.heap)(N:aF c U a x)(V:aF c U b y)(e:ew Y a b=some k)(p:Q (.bool k) s):wpAny (model c.prog c.w) c.A (compareOp Y x y) Q E s:=by
 cases Y with
  |Eq=>exact(ve f.tO 5 e N V R).2.1 _ _ _ _ p
  |NotEq=>have e:(uH a b).map (!·)=some k:=e;cases q:uH a b with|none=>rw[q]at e;exact aJ e|some D=>rw[q]at e;haveI e:(!D)=k:=Option.some.inj e;haveI h:=(ve f.tO 5 q N V R).2.2;rw[e]at h;exact h _ _ _ _ p
  |Lt=>exact BF (R:=λ a b k=>aF c U a x->aF c U b y->Q (.bool k) s->wpAny (model c.prog c.w) c.A (compareOp .Lt x y) Q E s) e (λ _ _ N V p=>by obtain⟨_,rfl⟩:=N;obtain⟨_,rfl⟩:=V;exact PyProof.Rows.lt_int p) N V p
  |LtE=>exact BF (R:=λ a b k=>aF c U a x->aF c U b y->Q (.bool k) s->wpAny (model c.prog c.w) c.A (compareOp .LtE x y) Q E s) e (λ _ _ N V p=>by obtain⟨_,rfl⟩:=N;obtain⟨_,rfl⟩:=V;exact PyProof.Rows.le_int p) N V p
  |Gt=>exact BF (R:=λ a b k=>aF c U a x->aF c U b y->Q (.bool k) s->wpAny (model c.prog c.w) c.A (compareOp .Gt x y) Q E s) e (λ _ _ N V p=>by obtain⟨_,rfl⟩:=N;obtain⟨_,rfl⟩:=V;exact PyProof.Rows.gt_int p) N V p
  |GtE=>exact yt G R f N V e p
  |Is=>refine ER e λ q e=>?_;subst q;cases V;refine is_none ?_;rw[mM N,ES e];exact p
  |IsNot=>refine ER e λ q e=>?_;subst q;cases V;refine isNot_none ?_;rw[mM N,BH e];exact p
  |_=>exact aJ e
end
def vf(Y:CmpOp):Bool:=match Y with|.In=>false|.NotIn=>false|_=>true
theorem ET{Y:CmpOp}{r:Expr}(h:vf Y=true):behindInMarks Y r=false:=by cases r with|Set V k p=>show(k==0&&(Y== .In||Y== .NotIn)&&V.all (constantsAlone 8))=false;rw[show(Y==CmpOp.In||Y==CmpOp.NotIn)=false by(cases Y<;>first|rfl|cases h),Bool.and_false,Bool.false_and]|_=>rfl
abbrev pf(Y:CmpOp)(W O:Loc->Hp->Res V):Loc->Hp->Res V:=λ J Z=>(W J Z).bind λ x Z=>(O J Z).bind λ y Z=>af (ew Y x y) λ v=> .ok (.bool v) Z
theorem EU(K:aC c)(L:c.A.units+5<cLine){Y:CmpOp}{N}(M:vf Y=true)(h1:aX c W l)(h2:aX c O r):aX c (pf Y W O) (.Compare l [Y] [r] N):=by intro J Z U s Q E f p;refine wpAny_Compare1 (h1 _ _ _ _ _ _ f (p.bind λ x I w z H u C T S p=>?_)) (ET M);refine h2 _ _ _ _ _ _ T (p.bind λ y G F P D j R V A p=>?_);refine p.some λ v B p=>?_;exact o_ K L V (S.up R.up) A B (p.here V .bool)
theorem EW(K:aC c)(L:c.A.units+5<cLine){Y:CmpOp}{N}(M:vf Y=true)(h1:aX c W l)(h2:aX c O r):qJ c (pf Y W O) (.Compare l [Y] [r] N):=by
 intro J Z U s Q E f p;haveI e:aY (pf Y W O) J Z=(W J Z).bind λ x Z=>(O J Z).bind λ y Z=>af (ew Y x y) λ v=> .ok v Z:=by simp only[aY,pf,Res.bind_assoc,cF];rfl
 rw[e]at p;refine wpAny_isTrue_Compare1 (h1 _ _ _ _ _ _ f (p.bind λ x I w z H u C T S p=>?_)) (ET M);refine h2 _ _ _ _ _ _ T (p.bind λ y G F P D j R V A p=>?_);refine p.some λ v B p=>?_;exact o_ K L V (S.up R.up) A B (wpAny_truthy_bool (p.here V rfl))
/-! subscripts -/
def iR(e:Expr):Bool:=e.ctorIdx !=26
theorem tP{V:Expr}(h:iR V=true)(o i:Value):subscripted V false o i=operate [o,i] (getItem o i):=by cases V<;>first|rfl|cases h
theorem vg{a:V}{x:Value}{l:List V}{i:Int}{t:Tok}{v:V}{G N:Expr}{Q:Value->Shared->Prop}(C:iR N=true)(f:FS c J Z U s.heap)(S:aF c U a x)(A:a8 Z a=some l)(I:cY l i=some v)(p:aq c (aF c) J U s Q E (.ok v Z)):wpAny (model c.prog c.w) c.A (subscriptTail G N x (.int i t)) Q E s:=by
 refine f.list S A λ b P n T B D K=>?_;subst T;have M:=lst_is f.N B;haveI h1:=bX K;haveI R:=D.length;unfold cY at I;refine tail_any M.typeIs slot_list_getitem.lookup ?_ (tP C _ _);split at I;.refine D.get I λ w L H=>?_;have F:i.toNat<P.length:=(List.getElem?_eq_some_iff.mp L).1;exact wpAny_getItem_list M ‹_› (kS F h1) (by simpa using L) (p.here f H)
 .
  split at I;.refine D.get I λ w L H=>?_;exact wpAny_getItem_list_neg M (Int.not_le.mp ‹_›) (show-(P.length:Int)<=i from oQ (R▸‹_›)) (Int.le_trans (Int.le_trans (by decide:(-2^63:Int)<=-1000) (Int.neg_le_neg (Int.ofNat_le.mpr h1))) (oQ (R▸‹_›))) (by simpa[R]using L) (p.here f H)
  .cases I
theorem EX{V}(A:iR r=true)(h1:aX c W l)(h2:aX c O r):aX c (λ J Z=>(W J Z).bind λ x Z=>(O J Z).bind λ y Z=>af (nP Z x y) λ v=> .ok v Z) (.Subscript l r V):=by intro J Z U s Q E f p;refine Subscript_ (h1 _ _ _ _ _ _ f (p.bind λ x K d q H g u T S p=>?_));refine h2 _ _ _ _ _ _ T (p.bind λ y I M P G w D R B p=>?_);refine p.some λ v z C=>?_;refine uV z λ l j L F N=>?_;subst F;obtain⟨_,rfl⟩:=B;exact vg A R (S.up D.up) L N C
theorem EY(T:aC c){n:Str}{k:Nat}{z F R}(M:c.nt[k]?=some n)(h1:aX c W l):aX c (λ J Z=>(W J Z).bind λ x Z=>af (keyOf Z k x) λ v=> .ok v Z) (.Subscript l (.Constant (.str n) z F) R):=by intro J Z U s Q E f p;refine Subscript_ (h1 _ _ _ _ _ _ f (p.bind λ x K Y i B m t V w p=>?_));refine wpAny_Constant_str ?_;refine p.some λ v d j=>?_;refine rV d λ s g h H L D=>?_;subst H;obtain⟨_,rfl,A⟩:=w;refine V.rX L λ a o G q=>?_;obtain⟨_,C,I,S⟩:=q;cases A.symm.trans C;refine S.look T.nt M D λ P N u=>?_;refine kdt_tail V.N (V.hG G) I ?_;exact kdt_getItem V.N (V.hG G) I (by simp[PySem.strKind,Value.isStrOf]) N (j _ _ _ _ .refl V u)
end
end
abbrev iS(c:Cx)(Z:Loc->Hp->Res (List V))(Y:List Expr):Prop:=∀J,Ay c (b7 c) Z (spliced (backTo J (starEach Y c.ev)))
abbrev vh(c:Cx)(J:Loc->Hp->Res V)(o:Option Expr):Prop:=Ay c (aF c) J (evalPart o c.ev)
def notStar(e:Expr):Bool:=e.ctorIdx !=22
theorem gD{e:Expr}{J:List Expr}{Z:Env}(h:notStar e=true):starEach (e::J) Z=(false,eval e Z)::starEach J Z:=by cases e<;>first|rfl|cases h
section
variable{c:Cx}{W R X:Loc->Hp->Res V}{U:Loc->Hp->Res (List V)}{e l r:Expr}{O:List Expr}{J:Loc}{Z:Hp}{Y:Zs}{s:Shared}{E:Value->Shared->Prop}
theorem c8:iS c (λ _ Z=> .ok [] Z) []:=by intro V J Z Y s Q E f p;exact wpAny_items_nil (p.here f .nil)
theorem bC(S:notStar e=true)(h1:aX c W e)(h2:iS c U O):iS c (λ J Z=>(W J Z).bind λ v Z=>(U J Z).bind λ L Z=> .ok (v::L) Z) (e::O):=by intro V J Z Y s Q E f p;refine wpAny_items_cons (h1 _ _ _ _ _ _ f (p.bind λ x K u j H z B T P p=>?_)) (gD S);refine h2 V _ _ _ _ _ _ T (p.bind λ y I F M G C D N A p=>?_);exact p.here N (.cons (P.up D.up) A)
theorem BI{Q:Value->Shared->Prop}{l:List V}{G:List Value}{D:Heap}{I:Nat}(f:FS c J Z Y s.heap)(T:b7 c Y l G)(K:G.length<=lid)(p:aq c (aF c) J Y s Q E (.ok (.tup l) Z))(F:Fr Y.h₀ c.L D Y.m)(N:News Y.h₀ c.L D ((s.heap.objs.size,iN G 0)::(Y.all c))):Q (.ref s.heap.objs.size) (bq s D I):=by obtain@⟨L,x⟩:=f.Ec F N f.fresh;exact p D I _ _ x L (.tup (.head _) K (T.up x.up))
theorem EZ{k G}(H:∀J Z D V,U J Z= .ok D V->D.length<=lid)(h:iS c U O):aX c (λ J Z=>(U J Z).bind λ D Z=> .ok (.tup D) Z) (.Tuple O k G):=by intro J Z Y s Q E f p;refine Tuple_ (h G _ _ _ _ _ _ f (p.rW λ D V C B M T P A K r p=>?_));haveI L:=r.length;haveI I:=H _ _ _ _ P;exact newTuple_N K.F K.N (λ S F N=>BI K r (L▸I) p F N) (dY (by have:=bX I;exact"6r%AfAhL{Ga6sED%]*" L this))
theorem E0{G}(H:∀J Z D V,U J Z= .ok D V->D.length<=lid)(h:iS c U O):aX c (λ J Z=>(U J Z).bind λ D Z=> .ok (.lst D) Z) (.List O G):=by intro J Z Y s Q E f p;refine List_ (h G _ _ _ _ _ _ f (p.rW λ D V C B M T P A K r p=>?_));have L:=r.length;have I:=H _ _ _ _ P;exact newList_N K.F K.N (λ S F N=>u0 K r (L▸I) p F N) (dY (by have:=bX I;exact"6r%AfAhL{Ga6sED%]*" L this))
theorem n6{Q:Value->Shared->Prop}{l:List V}{I:List Value}{D:Heap}{K n G:Nat}{a:Addr}(f:FS c J Z Y s.heap)(M:b7 c Y l I)(T:I.length<=lid)(p:aq c (aF c) J Y s Q E (.ok (.ref G Z.nx) (Z.new G (.list l))))(F:Fr Y.h₀ c.L D Y.m)(N:News Y.h₀ c.L D ((a,aS I n)::(Y.all c)))(L:∀p∈Y.all c,p.1≠a):Q (.ref a) (bq s D K):=by haveI u:Up Y.fz Y.fz Y.ρ (Y.ρ++[a]):=⟨λ _ h=>h,λ i b e=>by obtain⟨h,_⟩:=List.getElem?_eq_some_iff.mp e;rw[List.getElem?_append_left h];exact e⟩;refine f.n4 (B:=G) (R:= .list l) (x:=a) (X:=Y.fz) F N L ⟨[],rfl,λ _ h=>nomatch h⟩ (.list (by simp) T (M.up u)) λ P H x r=>?_;exact p D K _ _ x H r
theorem BJ{L:Nat}{G}(M:∀J Z D V,U J Z= .ok D V->D.length<=lid)(h:iS c U O):aX c (λ J Z=>(U J Z).bind λ D Z=> .ok (.ref L Z.nx) (Z.new L (.list D))) (.List O G):=by intro J Z Y s Q E f p;refine List_ (h G _ _ _ _ _ _ f (p.rW λ D V j C P H S B K r p=>?_));have T:=r.length;have I:=M _ _ _ _ S;exact newList_N K.F K.N (λ A F N=>n6 K r (T▸I) p F N K.fresh) (dY (by have:=bX I;exact"6r%AfAhL{Ga6sED%]*" T this))
/-! slices -/
theorem BK:vh c (λ _ Z=> .ok .none Z) none:=by intro J Z Y s Q E f p;rw[evalPart_none];exact wpAny_pure (p.here f .none)
theorem BL(h:aX c W e):vh c W (some e):=by intro J Z Y s Q E f p;rw[evalPart_some];exact h _ _ _ _ _ _ f p
theorem vi(n:Nat)(i:Int):av n i=clipAt n i:=by
 unfold av clipAt;split;.
  split;.exact congrArg Int.toNat (tx ‹_›)
  .exact congrArg Int.toNat (uM ‹_› ‹i<0›)
 .exact"Z,P*'lY,kOrcnMk:dTk]smEe+Gbh[>9sgMu!1AM:9O`JYK;n&o]Ni_;#}SR7/$7I|e/_.D&Y;7ZI/pa=GF}%%~fR^Db7Ofpbn2x,9`IAi,{fo:0L[WP[QW:kQA57mvi?3" [i.toNat,_,_,_] [_,min i ↑n,max 0 (min i ↑n)] rfl rfl rfl rfl rfl
def eD:V->Option Int|.int i=>some i|_=>none
theorem part_of{P:Params}{I:List Str}{G:Led}{N:List Addr}{a:V}{x:Value}{n d k:Nat}(r:VR P I G N a x)(e:bound n d a=some k):IsPart x (eD a)/\k=(eD a).elim d (clipAt n):=by
 refine yl e (λ Q K=>?_) λ i Q D=>?_;.subst Q K;cases r;exact⟨.none,rfl⟩
 .subst Q D;obtain⟨_,rfl⟩:=r;exact⟨.int _ _,vi _ _⟩
set_option tactic.hygienic true in theorem mO {G lo u:_} {sp m:Pos} (h1:aX c W G) (h2:vh c R lo) (h3:vh c X u) {Q:Value->Shared->Prop} (f:FS c J Z Y s.heap) {k:List V->List V->Hp->Res V} (p:aq c (aF c) J Y s Q E ((W J Z).bind λ x Z=> (R J Z).bind λ l Z=> (X J Z).bind λ h Z=>match a8 Z x with|some D=>af (fV D l h) λ r=>k D r Z|none=> .stuck)) (ad:∀D r K B g N T,Ext c Y N->FS c J K N B->b7 c N r T->T.length<=lid->aq c (aF c) J N (bq s B g) Q E (k D r K)->∀I,Fr N.h₀ c.L I N.m->News N.h₀ c.L I ((B.objs.size+1,aS T 0):: (N.all c))->Q (.ref (B.objs.size+1)) (bq s I g)):wpAny (model c.prog c.w) c.A (eval (.Subscript G (.Slice lo u none sp) m) c.ev) Q E s:=by
 refine Subscript_ (h1 _ _ _ _ _ _ f (p.bind λ x K B g N vx xt f' rx p=>?_));refine wpAny_Slice (h2 _ _ _ _ _ _ f' (p.bind λ y bi I bn be vy S O ry p=>?_));refine h3 _ _ _ _ _ _ O (p.bind λ z bd d v o vz L H rz p=>?_);rw[evalPart_none];refine wpAny_pure ?_;split at p;.
  rename_i D U;refine p.some λ sl b p=>?_;refine H.list ((rx.up S.up).up L.up) U λ a T n M hm A F=>?_;subst M;haveI hL:=lst_is H.N hm;refine uW b λ i j u hj e=>?_;.
   subst e;obtain ⟨pl,rfl⟩:=part_of (ry.up L.up) u;obtain ⟨pu,rfl⟩:=part_of rz hj;haveI C:=bX F;refine tail_any (hL.push _).typeIs slot_list_getitem.lookup (wpAny_getItem_list_slice (hL.push _) (Heap.IsSliceOf.new ..) pl pu .none (by simp) ?_ (by simp only[List.size_toArray];exact dY (by exact ",#L`ee3!R]{_*e)" C))) rfl;haveI t:=A.length;haveI P:= (A.drop ((eD y).elim 0 (clipAt D.length))).take ((eD z).elim D.length (clipAt D.length)- (eD y).elim 0 (clipAt D.length));rw[slicePick_plain];simp only[List.size_toArray,t];haveI F1:=H.F.push ({cls:= .type "slice",data:= .fields #[vy,vz,.none]}:Obj);haveI N1:=News.push H.F H.N ({cls:= .type "slice",data:= .fields #[vy,vz,.none]}:Obj);rw[Heap.size_push];refine ad D _ bd d v o _ ((xt.trans S).trans L) H P ?_ p _ (F1.push _) (λ q w=>?_);.haveI:=P.length;simp only[List.length_take,List.length_drop]at this⊢;haveI:lid=1000:=rfl;exact "HQ*61OtSkgT6{k4WG~pQ1q0Y=Dz/QkjDNRrJhO>'BOn[t<xxLt'" [(eD z).elim D.length (clipAt D.length),_,_,_,T.length- (eD y).elim 0 (clipAt D.length),_,_] [] rfl rfl C this
   .haveI N2:=News.push F1 (λ q w=>N1 q (.tail _ w)) ({cls:= .type "list",data:= .seq (T.toArray.toList.drop ((eD y).elim 0 (clipAt D.length))|>.take ((eD z).elim D.length (clipAt D.length)- (eD y).elim 0 (clipAt D.length))).toArray}:Obj);rw[Heap.size_push]at N2;exact N2 q w
 .exact p.elim
theorem yu{K L:Option Expr}{C V:Pos}(h1:aX c W e)(h2:vh c R K)(A:vh c X L):aX c (λ J Z=>(W J Z).bind λ x Z=>(R J Z).bind λ l Z=>(X J Z).bind λ h Z=>match a8 Z x with|some I=>af (fV I l h) λ r=> .ok (.lst r) Z|none=> .stuck) (.Subscript e (.Slice K L none C) V):=by intro J Z Y s Q E f p;refine mO h1 h2 A f (k:=λ _ r Z=> .ok (.lst r) Z) p λ I r T u P S y z G j M p D F N=>?_;obtain@⟨B,x⟩:=G.Ec F N λ q H=>Nat.ne_of_lt (Nat.lt_succ_of_lt (Heap.lt_size (G.N q H).1));exact p D P _ _ x B (.lst (.head _) M (j.up x.up))
theorem vj{V:Nat}{L T:Option Expr}{C D:Pos}(h1:aX c W e)(h2:vh c R L)(A:vh c X T):aX c (λ J Z=>(W J Z).bind λ x Z=>(R J Z).bind λ l Z=>(X J Z).bind λ h Z=>match a8 Z x with|some K=>af (fV K l h) λ r=> .ok (.ref V Z.nx) (Z.new V (.list r))|none=> .stuck) (.Subscript e (.Slice L T none C) D):=by intro J Z Y s Q E f p;refine mO h1 h2 A f (k:=λ _ r Z=> .ok (.ref V Z.nx) (Z.new V (.list r))) p λ K r H j I S u y G z P p B F N=>?_;exact n6 (s:=(bq s j I)) (K:=I) G z P p F N λ q M=>Nat.ne_of_lt (Nat.lt_succ_of_lt (Heap.lt_size (G.N q M).1))
end
section
variable{c:Cx}{R X D:Loc->Hp->Res V}{O:Loc->Hp->Res (List V)}{e l r:Expr}{U:List Expr}{J:Loc}{Y:Hp}{Z:Zs}{h W:Heap}{s:Shared}{E:Value->Shared->Prop}
theorem FS.keep(f:FS c J Y Z h)(k:∀b o,h.get? b=some o->W.get? b=some o):FS c J Y Z W:=f.heap (f.F.keeps k) λ p Y=>⟨k _ _ (f.N p Y).1,(f.N p Y).2⟩
abbrev Zs.at(Z:Zs)(c:Cx)(V:Led)(p:Addr×Obj)(Q:Led):Led:=(Z.br++V)++p::(Q++(Z.fz++c.fr))
theorem vk{N G V Q:Led}{p:Addr×Obj}:(N++(V++p::Q))++(G++c.fr)=(N++V)++p::(Q++(G++c.fr)):=by simp
theorem n7{V N Q:Led}{p:Addr×Obj}:V++(N++p::Q)=(V++N)++p::Q:=(List.append_assoc ..).symm
theorem FS.setCell{a:Addr}{o K:Obj}{V Q:Led}{H:Nat}{I:Cell}(f:FS c J Y Z h)(e:Z.cl=V++(a,o)::Q)(F:Fr Z.h₀ c.L W Z.m)(N:News Z.h₀ c.L W (Z.at c V (a,K) Q))(T:aT c.prog c.w c.nt Z.fz Z.ρ (setC H I Y.cells) (V++(a,K)::Q)){G:Prop}(M:∀L,Ext c Z L->FS c J (Y.set H I) L W->G):G:=by
 refine M ⟨Z.h₀,Z.m,Z.br,V++(a,K)::Q,Z.fz,Z.ρ⟩ .cl ⟨f.B,f.D,F,?_,⟨T,f.R.nx⟩,?_,f.lr,f.fc⟩;.show News _ _ _ ((Z.br++(V++(a,K)::Q))++(Z.fz++c.fr));rw[vk];exact N
 haveI:=f.ap;rw[e,n7]at this;show Apart (Z.br++(V++(a,K)::Q)) _;rw[n7];exact this.set
theorem FS.ph{a:Addr}{o N:Obj}{V Q:Led}(f:FS c J Y Z h)(e:Z.cl=V++(a,o)::Q):Upd a o N (Z.at c V (a,o) Q) (Z.at c V (a,N) Q):=by haveI h:=f.ap;rw[e,n7]at h;obtain@⟨h1,h2,G⟩:=h.ne;exact uZ h1 λ p Y=>(List.mem_append.mp Y).elim (h2 p) (G p)
theorem FS.news(f:FS c J Y Z h){a:Addr}{o:Obj}{V Q:Led}(e:Z.cl=V++(a,o)::Q):News Z.h₀ c.L h (Z.at c V (a,o) Q):=by haveI N:=f.N;unfold Zs.all at N;rw[e,vk]at N;exact N
theorem FS.a6{T g:Nat}{l:List V}{x:Value}(f:FS c J Y Z h)(r:aF c Z (.ref T g) x)(e:Y.get T g=some (.list l)){G:Prop}(B:∀a K n I Q,x= .ref a->Z.cl=I++(a,aS K n)::Q->b7 c Z l K->K.length<=lid->(∀L N M,N.length<=lid->b7 c Z L N->aT c.prog c.w c.nt Z.fz Z.ρ (setC T (.list L) Y.cells) (I++(a,aS N M)::Q))->G):G:=by obtain⟨_,rfl,F⟩:=r;refine qI f.R e λ I a o Q H r C _=>?_;obtain⟨K,n,P,A,j,S⟩:=r;cases F.symm.trans A;cases P;exact B a K n I Q rfl H S j λ L N M h1 h2=>C _ _ (.list F h1 h2)
/-! calls -/
def HP(U:List Expr):Bool:=decide (U.length+0<30)
theorem pj{Q:Pos}{V:Env}:∀{U:List Expr},U.all notStar=true->(backTo Q (starEach U V)).any (·.1)=false|[],_=>rfl|e::r,h=>by rw[List.all_cons,Bool.and_eq_true]at h;rw[gD h.1];show(false||(backTo Q (starEach r V)).any (·.1))=false;rw[pj h.2];rfl
theorem pn{Q:Pos}{V:Env}:∀{U:List Expr},U.all notStar=true->(backTo Q (starEach U V)).all (!·.1)=true|[],_=>rfl|e::r,h=>by rw[List.all_cons,Bool.and_eq_true]at h;rw[gD h.1];show(true&&(backTo Q (starEach r V)).all (!·.1))=true;rw[pn h.2];rfl
theorem JK{z:Type}{S:Zs->z->Value->Prop}{f:Value}{N:List Value}{M:Pos}{Q:Value->Shared->Prop}{P:Heap->Prop}{K:List V->Hp->Res z}(g:∀h,P h->∃k,(k=Keeper.frame\/k=Keeper.machine\/k=Keeper.boundFrame)/\Looks (model c.prog c.w) h (keeperOf f) k)(C:U.all notStar=true)(y:iS c O U)(w:U=[]->O=λ _ Y=> .ok [] Y)(j:FS c J Y Z s.heap)(p:aq c S J Z s Q E ((O J Y).bind K))(L:∀F I W A G T,O J Y= .ok F I->Ext c Z G->FS c J I G W->b7 c G F T->aq c S J G (bq s W A) Q E (K F I)->P W/\wpAny (model c.prog c.w) c.A (call f (N++T)) Q E (bq s W A)):wpAny (model c.prog c.w) c.A (callWith M f N (backTo M (starEach U c.ev)) []) Q E s:=by refine callWith_of (by rw[pj C];rfl) g ?_;cases U with|nil=>haveI e:=w rfl;subst e;exact evalArgs_nil3 (L [] Y s.heap s.toks Z [] rfl .refl j .nil p)|cons e r=>haveI h:=y M _ _ _ s (λ F H=>P H.heap/\wpAny (model c.prog c.w) c.A (call f (N++F)) Q E H) E j (p.rW λ F I W A G B v u q r p=>L F I W A G B v u q r p);rw[List.all_cons,Bool.and_eq_true]at C;rw[gD C.1]at h⊢;exact evalArgs_plain h
theorem cw{f:Value}{N:List Value}{H:Pos}{Q:Value->Shared->Prop}{P:Heap->Prop}{K:List V->Hp->Res V}(C:∀h,P h->∃k,(k=Keeper.frame\/k=Keeper.machine\/k=Keeper.boundFrame)/\Looks (model c.prog c.w) h (keeperOf f) k)(j:U.all notStar=true)(S:iS c O U)(B:U=[]->O=λ _ Y=> .ok [] Y)(A:FS c J Y Z s.heap)(p:aq c (aF c) J Z s Q E ((O J Y).bind K))(T:∀F L W M G I,O J Y= .ok F L->Ext c Z G->FS c J L G W->b7 c G F I->aq c (aF c) J G (bq s W M) Q E (K F L)->P W/\wpAny (model c.prog c.w) c.A (call f (N++I)) Q E (bq s W M)):wpAny (model c.prog c.w) c.A (callWith H f N (backTo H (starEach U c.ev)) []) Q E s:=JK C j S B A p T
theorem vl{o:Expr}{I:Str}{G V:Pos}{N:Env}{ov:Value}{Q:Value->Shared->Prop}{A:Around}{M:Model}(S:U.all notStar=true)(H:U.length<30)(Y:G.endLine=V.line)(h:wpAny M A (getMethod ov I (do
 return(<-importBound o N).getD true)) (λ T K=>wpAny M A (callWith V T.1 T.2 (backTo V (starEach U N)) []) Q E K) E s):wpAny M A (methodCall o I G V N ov (U.length+0) (backTo V (starEach U N)) (backToKw V (keywordEach [] N))) Q E s:=by
 haveI P:methodCallForm (U.length+0) (backTo V (starEach U N)) (backToKw V (keywordEach [] N))=true:=by unfold methodCallForm;rw[pn S];show(true&&true&&decide (U.length+0+0<30))=true;simp[H]
 unfold methodCall;rw[P];haveI F:methodCallPos true o N G V=pure V:=by unfold methodCallPos;rw[if_pos (by simp[Y])]
 rw[F];refine wpAny_bind (wpAny_holding (wpAny_mono h (λ T K L=>?_) λ _ _ z=>z));exact wpAny_bind (wpAny_pure L)
def c9(o:Expr)(U:List Expr)(Q V:Pos):Bool:=kB o&&U.all notStar&&decide (U.length<30)&&(Q.endLine==V.line)
theorem fj{V:Str}{N G:Pos}{Q:Value->Shared->Prop}(H:c9 e U N G=true)(h:wpAny (model c.prog c.w) c.A (eval e c.ev) (λ ov I=>wpAny (model c.prog c.w) c.A (getMethod ov V (do
 return(<-importBound e c.ev).getD true)) (λ T K=>wpAny (model c.prog c.w) c.A (callWith G T.1 T.2 (backTo G (starEach U c.ev)) []) Q E K) E I) E s):wpAny (model c.prog c.w) c.A (eval (.Call (.Attribute e V N) U [] G) c.ev) Q E s:=by
 simp only[c9,Bool.and_eq_true,decide_eq_true_eq,beq_iff_eq]at H;obtain⟨⟨⟨h1,h2⟩,F⟩,M⟩:=H;haveI P:eval (.Call (.Attribute e V N) U [] G) c.ev=(do
  let ov<-attributeBase e V c.ev (eval e c.ev)
  standAt N.atName
  methodCall e V N G c.ev ov (U.length+0) (backTo G (starEach U c.ev)) (backToKw G (keywordEach [] c.ev))):=rfl;rw[P,o8 h1];exact wpAny_bind (wpAny_mono h (λ ov I L=>wpAny_bind (wpAny_standAt (vl h2 F M L))) λ _ _ z=>z)
theorem du{M:Model}{f:Value}(Q:∀a,f≠ .ref a)(h:Heap):∃k,(k=Keeper.frame\/k=Keeper.machine\/k=Keeper.boundFrame)/\Looks M h (keeperOf f) k:=by refine⟨.machine,.inr (.inl rfl),Looks.of_pure ?_⟩;unfold keeperOf;cases f<;>first|rfl|exact absurd rfl (Q _)
theorem bY.one{P:Params}{K:List Str}{N:Led}{Q:List Addr}{a:V}{I:List Value}(h:bY P K N Q [a] I){G:Prop}(L:∀x,I=[x]->VR P K N Q a x->G):G:=by obtain⟨_,_,rfl,h1,rfl⟩:=h;exact L _ rfl h1
theorem eU(f:FS c J Y Z h){o:V}{x:Value}{l:List V}(r:aF c Z o x)(e:a6 Y o=some l){G:Prop}(M:∀a L n K Q,x= .ref a->Z.cl=K++(a,aS L n)::Q->b7 c Z l L->L.length<=lid->(∀H I P W,I.length<=lid->b7 c Z H I->Fr Z.h₀ c.L W Z.m->News Z.h₀ c.L W (Z.at c K (a,aS I P) Q)->∀{G:Prop},(∀T,Ext c Z T->FS c J (cj Y H o) T W->G)->G)->G):G:=by refine kX e λ s g B A=>?_;subst B;exact f.a6 r A λ a L n K Q C S y j z=>M a L n K Q C S y j λ H I P W h1 h2 F N G M=>f.setCell S F N (z H I P h1 h2) M
theorem kC{a:Expr}{o:Expr}{Q V:Pos}(N:c9 o [a] Q V=true):[a].all notStar=true:=by simp only[c9,Bool.and_eq_true]at N;exact N.1.1.2
theorem vm{I C:Pos}(g:c9 e [r] I C=true)(h1:aX c R e)(h2:aX c X r):aX c (λ J Y=>(R J Y).bind λ o Y=>af (a6 Y o) λ _=>(X J Y).bind λ v Y=>af (a6 Y o) λ l=>if l.length<lid then .ok .none (cj Y (l++[v]) o)else .stuck) (.Call (.Attribute e "append" I) [r] [] C):=by
 intro J Y Z s Q E f p;refine fj g (h1 _ _ _ _ _ _ f (p.bind λ o ad W tk k vo xt y O p=>?_));refine p.some λ m L p=>?_;refine eU y O L λ a T P z S B V _ _ _=>?_;subst B;have H:(a,aS T P)∈k.all c:=y.hG (by rw[V];simp);refine kl_method y.N H PySem.F.slot_list_append PySem.F.type_list_append ?_;refine cw (P:=λ _=>True) (U:=[r]) (O:=λ J Y=>(X J Y).bind λ v Y=> .ok [v] Y) (K:=λ K Y=>match K with|[v]=>af (a6 Y o) λ l=>if l.length<lid then .ok .none (cj Y (l++[v]) o)else .stuck|_=> .stuck) (λ h _=>du (λ a q=>by cases q) h) (kC g) (bC (by have:=kC g;simpa using this) h2 c8) (by intro q;cases q) y (by rw[Res.bind_assoc];exact p) ?_;intro K U be bi x D eq t G rv p;refine⟨trivial,?_⟩;split at p;.
  rename_i v;refine p.some λ l hl p=>?_;split at p;.
   rename_i w;refine eU G (O.up t.up) hl λ a' K n bn b ha i hv M j=>?_;cases ha;refine rv.one λ d A r1=>?_;subst A;haveI u:=hv.length;haveI:=bX M;refine append_K (its:=K.toArray) (n:=n) G.F (G.news i) (G.ph i) (λ h3 F N=>?_) (by rw[List.size_toArray];exact dY (by exact",#L`ee3!R]{_*e)" this));haveI e3:listOf (K.toArray.push d) (n+1)=aS (K++[d]) (n+1):=by show({cls:= .type "list",data:= .seq (K.toArray.push d) (n+1)}:Obj)=_;rw[List.push_toArray]
   rw[e3]at N;refine j (l++[v]) _ (n+1) h3 (by have:lid=1000:=rfl;simp only[List.length_append,List.length_singleton];exact"_y5T_0)=^;VP" w u) (hv.append (.cons r1 .nil)) F N λ bd x3 f3=>?_;exact p _ _ _ _ x3 f3 .none
  .exact p.elim
 .exact p.elim
end
theorem tQ{J:List Value}:∀{k:Nat}{y:Value},J[k]?=some y->kl_cut J k=some (J.take k,y,J.drop (k+1)):=by induction J with|nil=>exact λ h=>by cases h|cons x r Z=>intro k y h;cases k with|zero=>cases h;rfl|succ k=>unfold kl_cut;rw[Z (show r[k]?=some y from h)];rfl
theorem fits_of{k:Int}{n:Nat}(J:0<=k)(h:k.toNat<n)(Z:n<=1000):Builtin.List.listFitsIndex k=true/\seqIndex? k n=some k.toNat:=by
 constructor;.unfold Builtin.List.listFitsIndex;rw[Bool.and_eq_true,decide_eq_true_eq,decide_eq_true_eq];exact⟨Int.le_trans (by decide) J,kS h Z⟩
 .
  have h1:¬k<0:=by exact"Ha1lG3i=,2F$" J
  have h2:k<(n:Int):=by exact"8nfvwaXV`(s:9W0n_" [_,k.toNat] [_] rfl h
  simp[seqIndex?,h1,J,h2]
section
variable{c:Cx}{O R D:Loc->Hp->Res V}{Y:Loc->Hp->Res (List V)}{e l r:Expr}{X:List Expr}{J:Loc}{Z:Hp}{W:Zs}{h U:Heap}{s:Shared}{E:Value->Shared->Prop}
set_option tactic.hygienic true in theorem E1{H w:Pos}(X:c9 e [r] H w=true)(h1:aX c O e)(h2:aX c R r):aX c (λ J Z=>(O J Z).bind λ o Z=>af (a6 Z o) λ _=>(R J Z).bind λ i Z=>af (a6 Z o) λ l=>match i with|.int i=>if 0<=i then af l[i.toNat]? λ v=> .ok v (cj Z (l.eraseIdx i.toNat) o)else .stuck|_=> .stuck) (.Call (.Attribute e "pop" H) [r] [] w):=by
 intro J Z W s Q E f p;refine fj X (h1 _ _ _ _ _ _ f (p.bind λ o bi U tk Y vo xt m ro p=>?_));refine p.some λ ad B p=>?_;refine eU m ro B λ a S z t d u G _ _ _=>?_;subst u;have P:(a,aS S z)∈Y.all c:=m.hG (by rw[G];simp);refine kl_method m.N P PySem.F.slot_list_pop PySem.F.type_list_pop ?_;refine cw (P:=λ _=>True) (U:=[r]) (O:=λ J Z=>(R J Z).bind λ v Z=> .ok [v] Z) (K:=λ T Z=>match T with|[i]=>af (a6 Z o) λ l=>(match i with|.int i=>if 0<=i then af l[i.toNat]? λ v=> .ok v (cj Z (l.eraseIdx i.toNat) o)else .stuck|_=> .stuck)|_=> .stuck) (λ h _=>du (λ a q=>by cases q) h) (kC X) (bC (by have:=kC X;simpa using this) h2 c8) (by intro q;cases q) m (by rw[Res.bind_assoc];exact p) ?_;intro T I bv ci L be eq x V rv p;refine⟨trivial,?_⟩;split at p;.
  rename_i i;refine p.some λ l hl p=>?_;refine rv.one λ x1 g r1=>?_;subst g;cases i with
   |int k=>
    by_cases b:0<=k;.
     replace p:aq c (aF c) J L _ Q E (if 0<=k then af l[k.toNat]? λ v=>Res.ok v (cj I (l.eraseIdx k.toNat) o)else Res.stuck):=p;rw[if_pos b]at p;refine p.some λ v hv p=>?_;refine eU V (ro.up x.up) hl λ a' T n ce bd ha D M K j=>?_;cases ha;obtain⟨_,rfl⟩:=r1;refine M.get hv λ y hy ry=>?_;have bn:=M.length;have A:=bX K;obtain⟨C,_⟩:=List.getElem?_eq_some_iff.mp hy;refine kl_popAt (its:=T.toArray) (n:=n) (i:=k) V.F (V.news D) (fits_of b C (by exact"Ac}BKzn.xx|d$5'" A)).1 (k:=k.toNat) (by rw[List.size_toArray];exact(fits_of b C (by exact"Ac}BKzn.xx|d$5'" A)).2) (by exact tQ hy) (V.ph D) (dY (by show T.length<=5000;exact",#L`ee3!R]{_*e)" A)) λ h3 F N=>?_;have e3:listOf (T.take k.toNat++T.drop (k.toNat+1)).toArray (n+1)=aS (T.eraseIdx k.toNat) (n+1):=by rw[List.eraseIdx_eq_take_drop_succ]
     rw[e3]at N;refine j (l.eraseIdx k.toNat) _ (n+1) h3 (Nat.le_trans (List.length_eraseIdx_le ..) K) (M.eraseIdx _) F N λ ch x3 f3=>?_;exact p _ _ _ _ x3 f3 (ry.up x3.up)
    .replace p:aq c (aF c) J L _ Q E (if 0<=k then af l[k.toNat]? λ v=>Res.ok v (cj I (l.eraseIdx k.toNat) o)else Res.stuck):=p;rw[if_neg b]at p;exact p.elim
   |_=>exact p.elim
 .exact p.elim
theorem tS{I M:Pos}(b:c9 e [] I M=true)(h1:aX c O e):aX c (λ J Z=>(O J Z).bind λ o Z=>af (a6 Z o) λ l=> .ok .none (cj Z l.reverse o)) (.Call (.Attribute e "reverse" I) [] [] M):=by intro J Z W s Q E f p;refine fj b (h1 _ _ _ _ _ _ f (p.bind λ o d U tk B vo xt A g p=>?_));refine p.some λ l y p=>?_;refine eU A g y λ a T n j H P S u V K=>?_;subst P;have L:(a,aS T n)∈B.all c:=A.hG (by rw[S];simp);refine kl_method A.N L PySem.F.slot_list_reverse PySem.F.type_list_reverse ?_;refine cw (P:=λ _=>True) (U:=[]) (O:=λ J Z=> .ok [] Z) (K:=λ _ Z=> .ok .none (cj Z l.reverse o)) (λ h _=>du (λ a q=>by cases q) h) rfl c8 (λ _=>rfl) A p ?_;intro D v R r w k X C G rv p;cases X;refine⟨trivial,?_⟩;cases rv;refine eU G (g.up C.up) y λ a' T n j H t S u V K=>?_;cases t;have z:=bX V;refine kl_reverse (its:=T.toArray) (n:=n) (l:=T.reverse) G.F (G.news S) rfl (G.ph S) (dY (by show T.length<=5000;exact",#L`ee3!R]{_*e)" z)) λ Y F N=>?_;refine K l.reverse T.reverse n Y (by simpa using V) u.reverse F N λ m x i=>?_;exact p _ _ _ _ x i .none
/-! built-in functions -/
def cx(c:Cx)(n:Str)(v:Value):Bool:=(nsIn c.K mainGlobals n==some none)&&(bootBuiltins n==some v)&&!(n==("__name__":Str))&&!(n==("__debug__":Str))&&(c.ev.kindOf n==some .globalImplicit)
theorem BM(I:aC c){n:Str}{v:Value}{V:Pos}{Q:Value->Shared->Prop}(G:cx c n v=true)(f:FS c J Z W s.heap)(h:Q v s):wpAny (model c.prog c.w) c.A (eval (.Name n V) c.ev) Q E s:=by simp only[cx,Bool.and_eq_true,beq_iff_eq,Bool.not_eq_true']at G;obtain⟨⟨⟨⟨h1,h2⟩,N⟩,K⟩,L⟩:=G;exact tJ I f h1 h2 (λ q=>by rw[q]at N;simp at N) h L K
theorem qK{S:Type}{H:Zs->S->Value->Prop}(B:aC c){n:Str}{v:Value}{y M:Pos}{K:List V->Hp->Res S}{Q:Value->Shared->Prop}(g:cx c n v=true)(k:∀a,v≠ .ref a)(q:X.all notStar=true)(A:iS c Y X)(j:X=[]->Y=λ _ Z=> .ok [] Z)(P:FS c J Z W s.heap)(p:aq c H J W s Q E ((Y J Z).bind K))(T:∀L I U F G N,Y J Z= .ok L I->Ext c W G->FS c J I G U->b7 c G L N->aq c H J G (bq s U F) Q E (K L I)->wpAny (model c.prog c.w) c.A (call v N) Q E (bq s U F)):wpAny (model c.prog c.w) c.A (eval (.Call (.Name n y) X [] M) c.ev) Q E s:=by refine Call_Name rfl (BM B g P ?_);exact JK (P:=λ _=>True) (λ h _=>du k h) q A j P p λ L I U F G N u C z w p=>⟨trivial,T L I U F G N u C z w p⟩
theorem lh(P:aC c){n:Str}{v:Value}{B H:Pos}{K:List V->Hp->Res V}{Q:Value->Shared->Prop}(j:cx c n v=true)(z:∀a,v≠ .ref a)(C:X.all notStar=true)(M:iS c Y X)(A:X=[]->Y=λ _ Z=> .ok [] Z)(S:FS c J Z W s.heap)(p:aq c (aF c) J W s Q E ((Y J Z).bind K))(L:∀T I U F N G,Y J Z= .ok T I->Ext c W N->FS c J I N U->b7 c N T G->aq c (aF c) J N (bq s U F) Q E (K T I)->wpAny (model c.prog c.w) c.A (call v G) Q E (bq s U F)):wpAny (model c.prog c.w) c.A (eval (.Call (.Name n B) X [] H) c.ev) Q E s:=qK P j z C M A S p L
set_option tactic.hygienic true in theorem E2(B:aC c){n:Str}{j F:Pos}(t:cx c n (.builtin "len")=true)(A:notStar e=true)(h1:aX c O e):aX c (λ J Z=>(O J Z).bind λ o Z=>af (lenOf Z o) λ n=> .ok (.int n) Z) (.Call (.Name n j) [e] [] F):=by
 intro J Z W s Q E f p;refine lh B t (λ a q=>by cases q) (by simp[A]) (bC A h1 c8) (by intro q;cases q) f (K:=λ L Z=>match L with|[o]=>af (lenOf Z o) λ n=> .ok (.int n) Z|_=> .stuck) (by rw[Res.bind_assoc];exact p) ?_;intro L P w g M S b v V d p;split at p;.
  rename_i o;refine d.one λ m I T=>?_;subst I;refine p.some λ k u p=>?_;refine yk u (λ l H K=>?_) (λ l H K=>?_) λ l C K=>?_;.subst H K;obtain⟨_,rfl,h1,h2⟩:=T;refine PySem.W.len_bytes (by simp only[byteArr,List.size_toArray,List.length_map];exact Nat.le_trans h2 (by decide)) ?_;simp only[byteArr,List.size_toArray,List.length_map];exact p.tok V .int
  .subst H K;obtain⟨_,_,_,rfl,h1,h2,y⟩:=T;refine len_tuple ⟨_,V.tO _ h1,rfl,_,rfl⟩ (iF (bX h2)) ?_;simp only[List.size_toArray,y.length];exact p.tok V .int
  .subst K;refine V.list T C λ a L n G z i N=>?_;subst G;refine call_len_list (lst_is V.N z) (iF (bX N)) ?_;simp only[List.size_toArray,i.length];exact p.tok V .int
 .exact p.elim
theorem bY.ints{P:Params}{T:List Str}{K:Led}{G:List Addr}{l:List V}:∀{N:List Value}{Q:List Int},bY P T K G l N->intsOf l=some Q->IntsAre N Q:=by
 induction l with
  |nil=>rintro _ _ rfl e;cases e;exact IntsAre.nil
  |cons v l L=>
   rintro _ Q⟨x,r,rfl,h,I⟩e;cases v with
    |int i=>obtain⟨_,rfl⟩:=h;have e:((intsOf l).map (i::·))=some Q:=e;cases q:intsOf l with|none=>rw[q]at e;cases e|some r=>rw[q]at e;cases e;exact IntsAre.cons _ _ (L I q)
    |_=>cases e
set_option tactic.hygienic true in theorem BN(H:aC c){n:Str}{w L:Pos}(m:cx c n (.builtin "min")=true)(C:notStar e=true)(V:notStar r=true)(h1:aX c O e)(h2:aX c R r):aX c (λ J Z=>if c.hd then .stuck else(O J Z).bind λ x Z=>(R J Z).bind λ y Z=>match x,y with|.int i,.int j=> .ok (.int (min i j)) Z|_,_=> .stuck) (.Call (.Name n w) [e,r] [] L):=by
 intro J Z W s Q E f p;by_cases K:c.hd=true;.simp only[K,if_true]at p;exact p.elim
 simp only[K,if_false,Bool.false_eq_true]at p;have o:=H.hh (by simpa using K);refine lh H m (λ a q=>by cases q) (by simp[C,V]) (bC C h1 (bC V h2 c8)) (by intro q;cases q) f (K:=λ F Z=>match F with|[x,y]=>(match x,y with|.int i,.int j=> .ok (.int (min i j)) Z|_,_=> .stuck)|_=> .stuck) (by simp only[Res.bind_assoc];exact p) ?_;intro F A k t S B Y d T b p;split at p;.
  rename_i x y;refine b.two λ U X N z u=>?_;subst N;cases x with
   |int i=>
    cases y with
     |int j=>
      obtain⟨_,rfl⟩:=z;obtain⟨_,rfl⟩:=u;refine min_two_ints o λ v G g=>?_;have M:=T.keep g;have e:(if j<i then j else i)=min i j:=by exact"Op$$}*>B&!Bo}4i9iY#h:jf6G8Z[]0KmNtY{<tV>UW'm_r~9odaZ46P_<E,BG'wPk!:uT3" dj rfl
      by_cases q:j<i;.rw[if_pos q]at e⊢;rw[e];exact p _ _ _ _ .refl M .int
      .rw[if_neg q]at e⊢;have P:=λ I=>p v G _ I .refl M;rw[<-e]at P;exact P _ .int
     |_=>exact p.elim
   |_=>exact p.elim
 .exact p.elim
set_option tactic.hygienic true in theorem BO(H:aC c){n:Str}{w L:Pos}(m:cx c n (.builtin "max")=true)(C:notStar e=true)(V:notStar r=true)(h1:aX c O e)(h2:aX c R r):aX c (λ J Z=>if c.hd then .stuck else(O J Z).bind λ x Z=>(R J Z).bind λ y Z=>match x,y with|.int i,.int j=> .ok (.int (max i j)) Z|_,_=> .stuck) (.Call (.Name n w) [e,r] [] L):=by
 intro J Z W s Q E f p;by_cases K:c.hd=true;.simp only[K,if_true]at p;exact p.elim
 simp only[K,if_false,Bool.false_eq_true]at p;have o:=H.hh (by simpa using K);refine lh H m (λ a q=>by cases q) (by simp[C,V]) (bC C h1 (bC V h2 c8)) (by intro q;cases q) f (K:=λ F Z=>match F with|[x,y]=>(match x,y with|.int i,.int j=> .ok (.int (max i j)) Z|_,_=> .stuck)|_=> .stuck) (by simp only[Res.bind_assoc];exact p) ?_;intro F A k t S B Y d T b p;split at p;.
  rename_i x y;refine b.two λ U X N z u=>?_;subst N;cases x with
   |int i=>
    cases y with
     |int j=>
      obtain⟨_,rfl⟩:=z;obtain⟨_,rfl⟩:=u;refine max_two_ints o λ v G g=>?_;have M:=T.keep g;have e:(if j>i then j else i)=max i j:=by exact"14OvNBh2tVdaTe:;wb='GHke2A4l8|;^JEKkC~eod_q:^7SqXC$8EB_+!XWc*03j'3iR*i,RG," dj rfl
      by_cases q:j>i;.rw[if_pos q]at e⊢;rw[e];exact p _ _ _ _ .refl M .int
      .rw[if_neg q]at e⊢;have P:=λ I=>p v G _ I .refl M;rw[<-e]at P;exact P _ .int
     |_=>exact p.elim
   |_=>exact p.elim
 .exact p.elim
end
theorem tT(l:List Int):∀(a:Int),(l.foldl (λ m x=>if m<x then x else m) a)∈a::l/\∀x∈a::l,x<=l.foldl (λ m x=>if m<x then x else m) a:=by
 induction l with
  |nil=>exact λ a=>⟨.head _,λ x J=>by rw[List.mem_singleton.mp J];exact Int.le_refl _⟩
  |cons b l Y=>
   intro a;haveI W:=Y (if a<b then b else a);rw[List.foldl_cons];generalize l.foldl (λ m x=>if m<x then x else m) (if a<b then b else a)=M at W⊢;obtain⟨h1,h2⟩:=W;haveI Z:=h2 (if a<b then b else a) (.head _);have U:a<=M/\b<=M:=by
    by_cases q:a<b;.rw[if_pos q]at Z;exact"Mb4R,U`oGz>$|}M%_^KG)N#" Z q
    .rw[if_neg q]at Z;exact"Wf;JQ3HlxvB0o1^7tofc0M." Z q
   refine⟨?_,λ x J=>?_⟩;.
    rcases List.mem_cons.mp h1 with e|e;.
     rw[e];by_cases q:a<b;.rw[if_pos q];exact .tail _ (.head _)
     .rw[if_neg q];exact .head _
    .exact .tail _ (.tail _ e)
   .
    rcases List.mem_cons.mp J with rfl|J;.exact U.1
    .
     rcases List.mem_cons.mp J with rfl|J;.exact U.2
     .exact h2 x (.tail _ J)
theorem yv{l:List Int}{i m:Int}(h:nK l=some i)(J:m∈l)(Z:∀x∈l,x<=m):m=i:=by cases l with|nil=>cases h|cons a r=>cases h;haveI:=tT r a;haveI h1:=this.2 m J;haveI h2:=Z _ this.1;exact"g8+EH7!#}$YkO6?p$" h1 h2
section
variable{c:Cx}{Y X R:Loc->Hp->Res V}{O:Loc->Hp->Res (List V)}{e l r:Expr}{N:List Expr}{Z:Loc}{J:Hp}{W:Zs}{h U:Heap}{s:Shared}{E:Value->Shared->Prop}
set_option tactic.hygienic true in theorem BP(C:aC c){n:Str}{R B:Pos}(hb:cx c n (.builtin "max")=true)(b:notStar e=true)(h1:aX c Y e):aX c (λ Z J=>if c.hd then .stuck else(Y Z J).bind λ o J=>match o with|.lst l=>af ((intsOf l).bind nK) λ i=> .ok (.int i) J|_=> .stuck) (.Call (.Name n R) [e] [] B):=by
 intro Z J W s Q E f p;by_cases A:c.hd=true;.simp only[A,if_true]at p;exact p.elim
 simp only[A,if_false,Bool.false_eq_true]at p;have hh:=C.hh (by simpa using A);refine lh C hb (λ a q=>by cases q) (by simp[b]) (bC b h1 c8) (by intro q;cases q) f (K:=λ P J=>match P with|[o]=>(match o with|.lst l=>af ((intsOf l).bind nK) λ i=> .ok (.int i) J|_=> .stuck)|_=> .stuck) (by simp only[Res.bind_assoc];exact p) ?_;intro P w ad be u d eq bd H rv p;split at p;.
  rename_i o;refine rv.one λ x1 L X=>?_;subst L;cases o with
   |lst l=>
    refine aq.some p λ i I p=>?_;obtain⟨P,n,a,rfl,g1,g2,r⟩:=X;cases q:intsOf l with
     |none=>rw[q]at I;cases I
     |some M=>
      rw[q]at I;have I:nK M=some i:=I;have S:=bY.ints r q;obtain⟨V,T⟩:=S.allInts.items;have y:=dy H g1;rw[T]at y;have D:V.size=M.length:=by have g:=congrArg Array.size T;have N:=S.length;simp only[intItems,Array.size_map,List.size_toArray]at g;exact"`PV$Ipb'lx?EqK$" N g
      have F:0<V.size:=by rw[D];cases M with|nil=>cases I|cons=>simp
      have G:∀j k,M[j]?=some k->numAt V j=k:=λ j k K=>by
       obtain⟨t,ht⟩:=S.get j k K;have:(intItems V)[j]?=some (.int k t):=by rw[<-T];simpa using ht
       obtain⟨t',U⟩:=intItems_at this;injection U with U _;exact U.symm
      refine max_intList hh y F λ v h3 m hv K=>?_;have O:=H.keep K;obtain⟨t,rfl⟩:=intItems_at hv;obtain⟨b1,b2⟩:=argBest_gt (numAt V) (V.size-1);have h:numAt V (argBest (λ i j=>decide (numAt V i>numAt V j)) (V.size-1))=i:=by
       refine yv I ?_ λ x T=>?_;.obtain⟨k,K⟩:∃k,M[argBest (λ i j=>decide (numAt V i>numAt V j)) (V.size-1)]?=some k:=⟨_,List.getElem?_eq_getElem (by exact"c4Q?Am};2Bd8/<{!^b[cIPc0" [_,_,_,V.size-1] [] rfl D F b1)⟩;rw[G _ _ K];exact List.mem_of_getElem? K
       .obtain⟨j,z,e⟩:=List.getElem_of_mem T;have:=b2 j (by exact"k;'Z`jec,RfvJXvfDZ`i2" rfl D z);rw[G j x (by rw[List.getElem?_eq_some_iff];exact⟨z,e⟩)]at this;exact this
      rw[h];exact p _ _ _ _ .refl O .int
   |_=>exact p.elim
 .exact p.elim
set_option tactic.hygienic true in theorem vn(T:aC c){n:Str}{j L:Pos}(m:cx c n (.type "bytes")=true)(S:notStar e=true)(h1:aX c Y e):aX c (λ Z J=>if c.hd then .stuck else(Y Z J).bind λ o J=>match o with|.lst [.int i]=>if 0<=i/\i<256 then .ok (.ig [i]) J else .stuck|_=> .stuck) (.Call (.Name n j) [e] [] L):=by
 intro Z J W s Q E f p;by_cases K:c.hd=true;.simp only[K,if_true]at p;exact p.elim
 simp only[K,if_false,Bool.false_eq_true]at p;have t:=T.hh (by simpa using K);refine lh T m (λ a q=>by cases q) (by simp[S]) (bC S h1 c8) (by intro q;cases q) f (K:=λ I J=>match I with|[o]=>(match o with|.lst [.int i]=>if 0<=i/\i<256 then .ok (.ig [i]) J else .stuck|_=> .stuck)|_=> .stuck) (by simp only[Res.bind_assoc];exact p) ?_;intro I F g d H P U k V b p;split at p;.
  rename_i o;refine b.one λ O G B=>?_;subst G;split at p;.
   rename_i i;split at p;.rename_i M;obtain@⟨@I,@n,@a,(rfl),w,N,z⟩:=B;haveI C:IntsAre I [i]:=bY.ints z rfl;refine PySem.W.KBa.make_K V.F V.N t (dy V w) C (λ x D=>by simp at D;exact"9(8~}7F9uy2^VNuxPj4UKarEOPxP!2" M D) (by simp) λ u X v A y _=>?_;exact p u v _ _ .refl (V.heap A y) (.ig (λ x D=>by simp at D;exact"9(8~}7F9uy2^VNuxPj4UKarEOPxP!2" M D) (by simp))
   .exact p.elim
  .exact p.elim
 .exact p.elim
theorem vp{P:Params}{T:List Str}{K:Led}{G:List Addr}{l:List V}:∀{D:List Value}{Q:List Bool},bY P T K G l D->boolsOf l=some Q->D=Q.map .bool:=by
 induction l with
  |nil=>rintro _ _ rfl e;cases e;rfl
  |cons v l L=>
   rintro _ Q⟨x,r,rfl,h,I⟩e;cases v with
    |bool i=>obtain rfl:=h;haveI e:((boolsOf l).map (i::·))=some Q:=e;cases q:boolsOf l with|none=>rw[q]at e;cases e|some r=>rw[q]at e;cases e;rw[L I q];rfl
    |_=>cases e
set_option tactic.hygienic true in theorem E3(C:aC c){n:Str}{x A:Pos}(hb:cx c n (.builtin "all")=true)(u:notStar e=true)(h1:aX c Y e):aX c (λ Z J=>if c.hd then .stuck else(Y Z J).bind λ o J=>match o with|.lst l=>af (boolsOf l) λ V=> .ok (.bool (V.all id)) J|_=> .stuck) (.Call (.Name n x) [e] [] A):=by
 intro Z J W s Q E f p;by_cases M:c.hd=true;.simp only[M,if_true]at p;exact p.elim
 simp only[M,if_false,Bool.false_eq_true]at p;haveI hh:=C.hh (by simpa using M);refine lh C hb (λ a q=>by cases q) (by simp[u]) (bC u h1 c8) (by intro q;cases q) f (K:=λ T J=>match T with|[o]=>(match o with|.lst l=>af (boolsOf l) λ V=> .ok (.bool (V.all id)) J|_=> .stuck)|_=> .stuck) (by simp only[Res.bind_assoc];exact p) ?_;intro T z D ad j y eq h I rv p;split at p;.
  rename_i o;refine rv.one λ x1 G m=>?_;subst G;cases o with
   |lst l=>
    refine aq.some p λ V B p=>?_;refine bf λ w K=>?_;obtain⟨T,n,a,rfl,N,g2,U⟩:=m;haveI d:=vp U B;subst d;have H:=dy I N;haveI r:=H;obtain@⟨@ol,L,_⟩:=r;haveI F:a<D.objs.size:=Heap.lt_size L;refine K ?_;refine call_all_walk (wpAny_pyIter_list H ⟨_,_,_,_,_,_,λ i=>(V[i]?).getD false,rfl,Walks.list (A:=c.A.in1) hh D.objs.size a (Nat.ne_of_lt F) (V.map Value.bool).toArray,⟨⟨_,Heap.get?_push_size _ rfl,rfl,rfl⟩,H.push _⟩,?_,λ O k X=>?_⟩);.
     intro i v s' Q' E' hP g;have:(V.map Value.bool)[i]?=some v:=by simpa using hP
     rw[List.getElem?_map]at this;cases q:V[i]? with|none=>rw[q]at this;cases this|some b=>rw[q]at this;cases this;refine wpAny_truthy_bool ?_;simpa[q]using g
    .
     haveI P:∀b o,D.get? b=some o->O.get? b=some o:=λ b o e=>X b o (λ S=>by
      rcases List.mem_cons.mp S with R|S;.exact absurd (R▸Heap.lt_size e) (Nat.lt_irrefl _)
      .cases S) (Heap.get?_push_of_some _ e);haveI t:=I.keep P;haveI e4:(List.range (V.map Value.bool).toArray.size).all (λ i=>(V[i]?).getD false)=V.all id:=by
      haveI:(V.map Value.bool).toArray.size=V.length:=by simp
      rw[this];exact range_all V
     rw[e4];exact p _ _ _ _ .refl t .bool
   |_=>exact p.elim
 .exact p.elim
end
/-! the parameters -/
theorem pw{J Z:Type}{f g:J->Option Z}:∀{l:List J},(∀x∈l,f x=g x)->l.filterMap f=l.filterMap g|[],_=>rfl|x::l,h=>by rw[List.filterMap_cons,List.filterMap_cons,h x (.head _),pw λ y Y=>h y (.tail _ Y)]
theorem lj{J:List Str}:∀{Z:List Value},J.Nodup->Z.length=J.length->J.filterMap (λ n=>((J.zip Z).lookup n).map (n,·))=J.zip Z/\J.filter (λ n=>((J.zip Z).lookup n).isNone)=[]:=by
 induction J with
  |nil=>intro Z _ U;cases Z with|nil=>exact⟨rfl,rfl⟩|cons _ _=>cases U
  |cons n J V=>
   intro Z Q U;cases Z with
    |nil=>cases U
    |cons v Z=>
     obtain@⟨h1,h2⟩:=List.nodup_cons.mp Q;haveI i:=V h2 (Nat.succ.inj U);have e:∀x∈J,((n::J).zip (v::Z)).lookup x=(J.zip Z).lookup x:=λ x Y=>by rw[List.zip_cons_cons,List.lookup_cons,beq_eq_false_iff_ne.mpr (show x≠n from λ q=>h1 (q▸Y))]
     haveI W:((n::J).zip (v::Z)).lookup n=some v:=by rw[List.zip_cons_cons,List.lookup_cons,beq_self_eq_true]
     constructor;.rw[List.filterMap_cons,W];exact congrArg (List.cons _) ((pw λ x Y=>by rw[e x Y]).trans i.1)
     .rw[List.filter_cons,W];exact(List.filter_congr λ x Y=>by rw[e x Y]).trans i.2
theorem fz{Z Y J:Type}(X:List Z)(m:Nat)(i:J)(f:Z×Y->J->Sem (ForInStep J)):forIn (X.zip (List.drop m ([]:List Y))) i f=pure i:=by rw[List.drop_nil,List.zip_nil_right];rfl
theorem pz{Z:FuncData}{J:List Value}(h1:Z.params.posonlyargs=[])(h2:Z.params.vararg=none)(D:Z.params.kwonlyargs=[])(R:Z.params.kwarg=none)(N:Z.defaults= .none)(Q:(Z.params.args.map (·.arg)).filterMap (λ n=>(((Z.params.args.map (·.arg)).zip J).lookup n).map (n,·))=(Z.params.args.map (·.arg)).zip J)(V:(Z.params.args.map (·.arg)).filter (λ n=>(((Z.params.args.map (·.arg)).zip J).lookup n).isNone)=[])(W:J.length=(Z.params.args.map (·.arg)).length):bindArgs Z ⟨J,[]⟩=pure ((Z.params.args.map (·.arg)).zip J):=by
 obtain⟨n,q,⟨j,Y,y,z,P,E,F⟩,b,H,B,L,d,X,O,I,K,A,G,T⟩:=Z;dsimp only at h1 h2 D R N Q V W⊢;cases h1;cases h2;cases D;cases R;cases N;revert Q V W;suffices∀U:List Str,U=Y.map (·.arg)->U.filterMap (λ n=>(((Y.map (·.arg)).zip J).lookup n).map (n,·))=U.zip J->U.filter (λ n=>(((Y.map (·.arg)).zip J).lookup n).isNone)=[]->J.length=U.length->bindArgs ⟨n,q,⟨[],Y,none,[],P,none,F⟩,b,H,B,L,.none,X,O,I,K,A,G,T⟩ ⟨J,[]⟩=pure (U.zip J)from this _ rfl;intro U S Q V W;subst S;haveI M:decide (J.length>(Y.map (·.arg)).length)=false:=decide_eq_false (by rw[W];exact Nat.lt_irrefl _);haveI C:¬(decide (J.length>(Y.map (·.arg)).length)&&true)=true:=by rw[M];exact Bool.false_ne_true
 refine(if_neg C).trans ?_;show(if(!(List.filter (λ n=>(List.lookup n ((Y.map (·.arg)).zip J)).isNone) (List.take ((Y.map (·.arg)).length-(List.drop (0-(Y.map (·.arg)).length) ([]:List Value)).length) (Y.map (·.arg)))).isEmpty)=true then _ else _)=_;rw[List.drop_nil];refine(if_neg ?_).trans ?_;.show¬(!(List.filter (λ n=>(List.lookup n ((Y.map (·.arg)).zip J)).isNone) (List.take (Y.map (·.arg)).length (Y.map (·.arg)))).isEmpty)=true;rw[List.take_length,V];exact Bool.false_ne_true
 refine(congrArg (λ t:Sem _=>Bind.bind t _) (fz (Y:=Value) _ _ _ _)).trans ?_;exact congrArg (pure (f:=Sem)) ((congrArg (List.filterMap _) (List.append_nil _)).trans Q)
theorem qL{Z:FuncData}{J:List Value}(h1:Z.params.posonlyargs=[])(h2:Z.params.vararg=none)(W:Z.params.kwonlyargs=[])(Q:Z.params.kwarg=none)(V:Z.defaults= .none)(U:(Z.params.args.map (·.arg)).Nodup)(Y:J.length=(Z.params.args.map (·.arg)).length):bindArgs Z ⟨J,[]⟩=pure ((Z.params.args.map (·.arg)).zip J):=pz h1 h2 W Q V (lj U Y).1 (lj U Y).2 Y
/-! the cells of a frame -/
theorem hJ(J:List (Str×NameKind)):∀(n:Nat)(acc:List (Str×Addr)),(∀p∈acc,p.2<n)->(acc.map (·.2)).Nodup->((cellsFrom n J acc).map (·.2)).Nodup/\∀p∈cellsFrom n J acc,p∈acc\/n<=p.2:=by
 induction J with
  |nil=>exact λ n acc _ h2=>⟨h2,λ p Z=> .inl Z⟩
  |cons y r Y=>
   intro n acc h1 h2;show((if y.2== .cell then cellsFrom (n+1) r ((y.1,n)::acc)else cellsFrom n r acc).map (·.2)).Nodup/\∀p∈(if y.2== .cell then cellsFrom (n+1) r ((y.1,n)::acc)else cellsFrom n r acc),p∈acc\/n<=p.2;by_cases z:(y.2== .cell)=true;.
    rw[if_pos z];have b:=Y (n+1) ((y.1,n)::acc) (λ p Z=>by
     rcases List.mem_cons.mp Z with rfl|Z;.exact Nat.lt_succ_self _
     .exact Nat.lt_succ_of_lt (h1 p Z)) (List.nodup_cons.mpr ⟨λ q=>by obtain@⟨@p,Z,e⟩:=List.mem_map.mp q;exact absurd (h1 p Z) (by rw[e];exact Nat.lt_irrefl _),h2⟩);refine⟨b.1,λ p Z=>?_⟩;rcases b.2 p Z with q|q;.
     rcases List.mem_cons.mp q with rfl|q;.exact .inr (Nat.le_refl _)
     .exact .inl q
    .exact .inr (Nat.le_of_succ_le q)
   .rw[if_neg z];exact Y n acc h1 h2
theorem pA{J:List (Str×Addr)}{x:Str}{a:Addr}(h:J.lookup x=some a):(x,a)∈J:=by induction J with|nil=>cases h|cons y r Z=>rw[List.lookup_cons]at h;cases q:x==y.1 with|true=>rw[q]at h;cases h;rw[show x=y.1 from eq_of_beq q];exact .head _|false=>rw[q]at h;exact .tail _ (Z h)
theorem tU{J:List (Str×Addr)}{x y:Str}{a:Addr}(h:(J.map (·.2)).Nodup)(h1:(x,a)∈J)(h2:(y,a)∈J):x=y:=by
 induction J with
  |nil=>cases h1
  |cons z r U=>
   rw[List.map_cons,List.nodup_cons]at h;rcases List.mem_cons.mp h1 with Y|h1;.
    rcases List.mem_cons.mp h2 with Z|h2;.exact congrArg Prod.fst (Y.trans Z.symm)
    .exact absurd (List.mem_map.mpr ⟨(y,a),h2,(show a=z.2 from congrArg Prod.snd Y)⟩) h.1
   .
    rcases List.mem_cons.mp h2 with Z|h2;.exact absurd (List.mem_map.mpr ⟨(x,a),h1,(show a=z.2 from congrArg Prod.snd Z)⟩) h.1
    .exact U h.2 h1 h2
theorem tV{J:List (Str×NameKind)}{n:Nat}{x y:Str}{a:Addr}(h1:(cellsFrom n J []).lookup x=some a)(h2:(cellsFrom n J []).lookup y=some a):x=y:=tU (hJ J n [] (λ _ h=>by cases h) .nil).1 (pA h1) (pA h2)
theorem lq{Y:Str->Option Value}{Z:List (Str×Addr)}{J:Led}(h:CellsAre Y Z J):addrs J=Z.map (·.2):=by induction h with|nil=>rfl|cons _ _ U=>exact congrArg (List.cons _) U
theorem hO{Y:Str->Option Value}{Z:List (Str×Addr)}{J:Led}(C:CellsAre Y Z J){x:Str}{a:Addr}(h:Z.lookup x=some a):∃o,(a,o)∈J/\o.data= .cell (Y x):=by induction C with|nil=>exact nomatch h|@cons y b o Z J W V Q=>rw[List.lookup_cons]at h;cases q:x==y with|true=>rw[q]at h;cases h;exact⟨o,.head _,(show x=y from eq_of_beq q)▸W⟩|false=>rw[q]at h;exact(Q h).elim λ U g=>⟨U,.tail _ g.1,g.2⟩
theorem qM{Z:Str->Option NameKind}{x:Str}{J:List (Str×Value)}:∀{m:Str->Option Value},x∉J.map (·.1)->bindL Z J m x=m x:=by
 induction J with
  |nil=>exact λ _=>rfl
  |cons p r Y=>
   intro m h;rw[List.map_cons,List.mem_cons,not_or]at h;refine(Y h.2).trans ?_;split;.exact if_neg h.1
   .rfl
theorem vq{U:Str->Option NameKind}{x:Str}{v:Value}(W:U x=some .local){J:List (Str×Value)}:∀{m:Str->Option Value},(J.map (·.1)).Nodup->(x,v)∈J->bindL U J m x=some v:=by
 induction J with
  |nil=>exact λ _ h=>by cases h
  |cons p r Q=>
   intro m Z Y;rw[List.map_cons,List.nodup_cons]at Z;rcases List.mem_cons.mp Y with e|Y;.subst e;refine(qM Z.1).trans ?_;rw[if_pos W];exact if_pos rfl
   .exact Q Z.2 Y
theorem qN{Z:Str->Option NameKind}{x:Str}{J:List (Str×Value)}:∀{m:Str->Option Value},x∉J.map (·.1)->bindC Z J m x=m x:=by
 induction J with
  |nil=>exact λ _=>rfl
  |cons p r Y=>
   intro m h;rw[List.map_cons,List.mem_cons,not_or]at h;refine(Y h.2).trans ?_;split;.rfl
   .exact if_neg h.1
theorem vr{U:Str->Option NameKind}{x:Str}{v:Value}(W:U x≠some .local){J:List (Str×Value)}:∀{m:Str->Option Value},(J.map (·.1)).Nodup->(x,v)∈J->bindC U J m x=some v:=by
 induction J with
  |nil=>exact λ _ h=>nomatch h
  |cons p r Q=>
   intro m Z Y;rw[List.map_cons,List.nodup_cons]at Z;rcases List.mem_cons.mp Y with e|Y;.subst e;refine(qN Z.1).trans ?_;rw[if_neg W];exact if_pos rfl
   .exact Q Z.2 Y
theorem pC{P:Params}{O:List Str}{I:Led}{G:List Addr}{W:List Nat}:∀{Q:List Str}{J:List V}{Z:List Value},W.map (λ i=>O[i]?)=Q.map some->bY P O I G J Z->J.length=W.length->∀{x:Nat}{v:V},aQ x (W.zip J)=some v->∃n Y,O[x]?=some n/\(n,Y)∈Q.zip Z/\VR P O I G v Y:=by
 induction W with
  |nil=>exact λ _ _ _ _ _ h=>by cases h
  |cons p W H=>
   intro Q J Z R L D x v h;refine bf λ K U=>?_;cases Q with
    |nil=>cases R
    |cons n Q=>
     cases J with
      |nil=>cases D
      |cons a J=>
       obtain⟨b,Z,rfl,h1,h2⟩:=L;obtain@⟨N,X⟩:=List.cons.inj R;haveI h:(if p=x then some a else aQ x (W.zip J))=some v:=h;by_cases q:p=x;.rw[if_pos q]at h;cases h;refine U ?_;exact⟨n,b,q▸N,.head _,h1⟩
       .rw[if_neg q]at h;obtain@⟨@M,@Y,F,S,T⟩:=H X h2 (Nat.succ.inj D) h;refine U ?_;exact⟨M,Y,F,.tail _ S,T⟩
theorem kD{Y:Env}{L b:Addr}{J:List Env}(Q:Y.frame=some L)(V:b∈kA (Y::J)):b=L\/b∈kA J:=by
 refine bf λ W Z=>?_;obtain⟨e,U,q⟩:=List.mem_filterMap.mp V;rcases List.mem_cons.mp U with rfl|U;.refine Z ?_;exact .inl (Option.some.inj (q.symm.trans Q))
 .refine Z ?_;exact .inr (List.mem_filterMap.mpr ⟨e,U,q⟩)
theorem RaisedS.sub{Y G h:Heap}{l:List Env}{e t:Addr}{U:Value}{W:List Value}{Z J:Led}(R:RaisedS Y G l e U t W Z h)(V:∀p∈J,p∈Z):RaisedS Y G l e U t W J h:=by obtain@⟨@⟨@B,a,b,c,d⟩,x⟩:=R;exact⟨⟨B,a,b,λ q Q=>c q (V q Q),d⟩,x⟩
section
variable{M:Model}{A:Around}{E:Value->Shared->Prop}{V:Shared}{Y g W h:Heap}{J:List Env}{L e t:Addr}{m:Str->Option Value}{Z:Env}{Q:Unit->Shared->Prop}{U:Led}
theorem n8{X:Value}{P:List Value}(K:Below A Y J g)(G:Z.frame=some L)(d:Z.scope.kind= .function)(T:Heap.MadeExcOf h V.heap e X P)(F:Fr g L h m)(N:News g L h U)(j:∀D t,RaisedS Y g J e X t P U D->g.UpToSlots D->Q () {V with heap:=D}):wpAny M (A.deeper Z) (leaving Z (.ref e)) Q E V:=by
 have I:=pushX K F G d;have H:∀x∈Z::J,∀b,x.frame=some b->b∈kA (Z::J):=λ x T b r=>List.mem_filterMap.mpr ⟨x,T,r⟩;have v:Y.StaysIn (hideAll h (kA (Z::J))):=λ b o q=>hideAll_get _ (I.stays b o q) λ R=>by rw[(I.frames.mem R).1]at q;cases q
 have C:∀b o,g.get? b=some o->b∉kA J->(hideAll h (kA (Z::J))).get? b=some o:=λ b o q B=>hideAll_get _ (F.keep b o q) λ R=>by
  rcases kD G R with z|z;.rw[z,nY F]at q;cases q
  .exact B z
 have y:∀q∈U,(hideAll h (kA (Z::J))).get? q.1=some q.2/\g.get? q.1=none/\Y.get? q.1=none:=λ q O=>by
  refine⟨hideAll_get _ (N q O).1 λ R=>?_,(N q O).2.2,fresh_of_stays K.stays (N q O).2.2⟩;rcases kD G R with z|z;.exact(N q O).2.1 z
  .obtain⟨_,o,S,_⟩:=K.frames.mem z;rw[(N q O).2.2]at S;cases S
 exact wpAny_leaves_madeW I.stack G (λ b o q=>of_hideAll _ q) (funFrames_hide I.frames H) T λ D t k f w u=>j D t ⟨⟨_,v,C,y,k,w⟩,f⟩ (((Heap.UpToSlots.of_keeps F.keep).trans (Heap.UpToSlots.of_keeps T.keeps)).trans u)
theorem tW{X:Value}{y:List Value}(K:Below A Y J g)(j:Z.frame=some L)(F:Fr g L W m)(R:RaisedS Y W (Z::J) e X t y U V.heap)(C:W.UpToSlots V.heap)(v:∀G,RaisedS Y g J e X t y U G->g.UpToSlots G->Q () {V with heap:=G}):wpAny M (A.deeper Z) (leaving Z (.ref e)) Q E V:=by
 refine bf λ I O=>?_;obtain⟨⟨B,k,S,P,H,D⟩,N⟩:=R;refine O ?_;exact wpAny_leaves_onW (Around.frames_deeper K.stack) j H λ G f u=>v G ⟨⟨B,k,λ b o q w=>S b o (F.keep b o q) (λ d=>by
  refine bf λ I O=>?_;rcases kD j d with z|z;.rw[z,nY F]at q;cases q
  .refine O ?_;exact w z),λ q T=>⟨(P q T).1,kts_none F.keep (P q T).2.1,(P q T).2.2⟩,f,D⟩,N.of_slots u⟩ ((Heap.UpToSlots.of_keeps F.keep).trans (C.trans u))
end
def aO(c:Cx)(O:Zs)(s:Shared)(Q:Flow->Shared->Prop)(E:Value->Shared->Prop):SR->Prop|.mk .az Z hp=>∀Y U J,ExtS c O J->FS c Z hp J Y->Q .next (bq s Y U)|.mk .brk Z hp=>∀Y U J,ExtS c O J->FS c Z hp J Y->Q .brk (bq s Y U)|.mk (.ret v) Z hp=>∀Y U J V,ExtS c O J->FS c Z hp J Y->aF c J v V->Q (.ret V) (bq s Y U)|.mk (.exc C false) Z hp=>∀Y U J e,ExtS c O J->XS c C Z hp J e Y->E (.ref e) (bq s Y U)|.mk (.exc C true) Z hp=>∀W Y U J e X,ExtS c O J->FS c Z hp J W->Heap.MadeExcOf W Y e (.ref C) X->E (.ref e) (bq s Y U)|.stuck=>False
def tX(c:Cx)(W:Loc->Hp->SR)(Z:List Stmt):Prop:=∀J Y U s Q E,FS c J Y U s.heap->aO c U s Q E (W J Y)->wpAny (model c.prog c.w) c.A (execs Z c.env) Q E s
def qO:SR->Res V|.mk (.ret v) _ hp=> .ok v hp|.mk .az _ hp=> .ok .none hp|.mk (.exc C _) _ hp=> .exc C hp|_=> .stuck
abbrev Cx.callee(c:Cx)(A:Around)(W:Led)(Z:Str)(J:Scope)(U Q:Addr)(Y:Value):Cx:={c with A₀:=A,A:=A.deeper (envOfC Z J U Q Y),outer:=c.env::c.outer,name:=Z,scope:=J,L:=U,fa:=Q,cd:=Y,cells:=cellsFrom (U+1) J.names [],fr:=W++c.fr,cm:=none}
section
variable{c:Cx}{A:Around}{Y:Loc}{J:Hp}{Z:Zs}{s:Shared}
theorem back{g K:Heap}{F:Str->Option Value}{X:Led}{U:Zs}{R:Str}{Q:Scope}{k d:Addr}{L:Value}(f:FS c Y J Z K)(o:Fr Z.h₀ c.L g Z.m)(x:ExtS (c.callee A Z.br R Q k d L) ⟨g,F,X,Z.cl,Z.fz,Z.ρ⟩ U)(I:Apart (U.br++U.cl) (U.fz++(Z.br++c.fr))){G:Prop}(i:∀W,Ext c Z ⟨W,Z.m,Z.br,U.cl,U.fz,U.ρ⟩->Fr W c.L U.h₀ Z.m->Below c.A₀ c.base c.outer W->KtsDicts (kA c.outer) W->Apart (Z.br++U.cl) (U.fz++c.fr)->cB c Y ⟨W,Z.m,Z.br,U.cl,U.fz,U.ρ⟩->G):G:=by
 obtain⟨g',m',s,u,j,ad⟩:=U;obtain⟨S,m,N,cl,E,ρ⟩:=Z;haveI l:=x.up;obtain⟨C,⟨B,z,y⟩,w⟩:=x;replace z:j=B++E:=z;subst z;have D:∀p∈B,p.1∉addrs c.fr/\p.1∉addrs N:=λ p J=>by haveI:=y p J;simp only[addrs,List.map_append,List.mem_append,not_or]at this;exact⟨this.2,this.1⟩
 have V:Apart (N++u) ((B++E)++c.fr):=by
  haveI t:=f.ap.once;haveI v:=I.once;rw[addrs,List.map_append,List.nodup_append]at t v;refine⟨?_,λ a O q=>?_⟩;.rw[addrs,List.map_append,List.nodup_append];refine⟨t.1,v.2.1,λ a O b hb e=>?_⟩;subst e;refine I.off a (by rw[addrs,List.map_append];exact List.mem_append_right _ hb) ?_;refine of_addrs (show a∈addrs N from O) λ p J M=>?_;subst M;exact ah (List.mem_append_right _ (List.mem_append_left _ J))
  .
   rw[addrs,List.map_append]at O;rcases List.mem_append.mp O with O|O;.
    refine of_addrs q λ p J H=>?_;subst H;rcases List.mem_append.mp J with J|J;.
     rcases List.mem_append.mp J with J|J;.exact(D p J).2 O
     .exact f.ap.off p.1 (by rw[addrs,List.map_append];exact List.mem_append_left _ O) (ah (List.mem_append_left _ J))
    .exact f.ap.off p.1 (by rw[addrs,List.map_append];exact List.mem_append_left _ O) (ah (List.mem_append_right _ J))
   .
    refine I.off a (by rw[addrs,List.map_append];exact List.mem_append_right _ O) ?_;refine of_addrs q λ p J P=>?_;subst P;rcases List.mem_append.mp J with J|J;.exact ah (List.mem_append_left _ J)
    .exact ah (List.mem_append_right _ (List.mem_append_right _ J))
 have h:∃n,(B++E)=n++E/\∀p∈n,p.1∉addrs c.fr:=⟨B,rfl,λ p J=>(D p J).1⟩;by_cases r:c.hd=true;.
  haveI e:g'=g:=by unfold Turn at C;rw[if_pos (show(c.callee A N R Q k d L).hd=true from r)]at C;exact C
  subst e;exact i S ⟨⟨.refl,h,w⟩,rfl,rfl⟩ o f.B f.D V (f.lr.up l)
 .obtain@⟨@W,T,F',B',D'⟩:=tI (V:=c.env) f.B o rfl f.D C.Kg;exact i W ⟨⟨by unfold Turn;rw[if_neg r];exact T,h,w⟩,rfl,rfl⟩ F' B' D' V (f.lr.up l)
theorem yw{m:Str->Option Value}{U W Q:Heap}{L:Addr}(F:Fr U L W m)(k:∀b o,W.get? b=some o->Q.get? b=some o):Fr U L Q m:=by obtain@⟨@V,@O,@N,X,r⟩:=F.ns;exact⟨⟨V,O,N,k _ _ X,r⟩,λ b o e=>k b o (F.keep b o e),F.above⟩
theorem tY{m:Str->Option Value}{U O X:Heap}{L R:Addr}{Q W:Led}(F:Fr U L O m)(N:News O R X Q)(I:∀p∈W,p∈Q):News U L X W:=λ p J=>by obtain⟨D,T,V⟩:=N p (I p J);refine⟨D,λ q=>?_,kts_none F.keep V⟩;obtain⟨K,_,_,G,_⟩:=F.ns;rw[q,G]at V;cases V
end
structure FnAt(K:Frag)(G:List Str)(I:Addr)(T:List Nat)(Y:Str)(Q:List Stmt)(Z:Scope)(W:Value)(J:Arguments):Prop where
 at_:∃U L O N D X R od V,K.lookup I=some ⟨R,od,.func (fnX U Y J Q Z [] .none L O N D W X),V⟩
 code:codeIn K W Y=true
 p1:J.posonlyargs=[]
 p2:J.vararg=none
 p3:J.kwonlyargs=[]
 p4:J.kwarg=none
 nd:(J.args.map (·.arg)).Nodup
 ps:T.map (λ i=>G[i]?)=(J.args.map (·.arg)).map some
 kinds:∀x∈J.args.map (·.arg),Z.names.lookup x=some .local\/Z.names.lookup x=some .cell
 Kj:((cellsFrom 0 Z.names []).map (·.1)).Nodup
 co:Z.isCoroutine=false
 gen:Z.isGenerator=false
 kd:Z.kind= .function
theorem kE{Z J:Type}:∀{a:List Z}{b:List J},b.length=a.length->(a.zip b).map (·.1)=a|[],_,_=>by simp|x::a,y::b,h=>by rw[List.zip_cons_cons,List.map_cons,kE (by simpa using h)]|_::_,[],h=>by simp at h
theorem tZ{c:Cx}{A:Around}(Y:aC c)(X:A.frames=some (c.env::c.outer))(Q:c.hd=false->A.handled=none)(R:A.units+20<cLine){W:Led}{Z:Str}{J:Scope}{V O:Addr}{U:Value}(N:J.kind= .function):aC (c.callee A W Z J V O U)where
 X:=Y.X
 T:=Y.T
 frames:=Around.frames_deeper X
 hk:=N
 hh:=Q
 units:=by show A.units+3<cLine;omega
 nt:=Y.nt
 EG:=λ k q=>by cases q
 inj:=λ x y a h1 h2=>tV h1 h2
section
variable{c:Cx}{A:Around}{Z:Loc}{Y:Hp}{J:Zs}{s:Shared}
theorem yx(ok:aC c)(hA:A.frames=some (c.env::c.outer))(bd:A.depth<recursionLimit)(f:FS c Z Y J s.heap){j:Addr}{ps:List Nat}{O:Str}{l:List Stmt}{U:Scope}{D:Value}{W:Arguments}(T:FnAt c.K c.nt j ps O l U D W){φ:Loc->Hp->SR}{I:List V}{N:List Value}(hv:b7 c J I N)(hl:I.length=ps.length)(hb:∀M,tX (c.callee A J.br O U M j D) φ l){R:Result->Shared->Prop}(p:aq c (aF c) Z J s (λ v s'=>R (.ok (.ret v)) s') (λ e s'=>R (.error e) s') (qO (φ (ps.zip I) Y))):codeAny (model c.prog c.w) A (.call (.ref j) ⟨N,[]⟩) R s:=by
 obtain⟨na,kV,sw,pm,an,ct,oc,od,pp,lw⟩:=T.at_;have X:=(f.K ok).keeps f.F.keep;have ga:N.length=(W.args.map (·.arg)).length:=by have h1:=hv.length;have h2:=congrArg List.length T.ps;simp only[List.length_map]at h2⊢;exact"bP}z](xhXk>n+`35$)R$" hl h1 h2
 refine Bz (O:=(W.args.map (·.arg)).zip N) f.B f.D f.F f.N (f.T ok).nolimit hA rfl ok.hk (X _ _ lw) rfl (codeRec_of X T.code) bd (BindsTo.of_eq (qL T.p1 T.p2 T.p3 T.p4 rfl T.nd ga)) (λ n x hx=>?_) T.Kj (λ g M ad tk L FG F' N' CA B' D' st lt nn=>?_) T.co T.gen T.kd;.
  have io:x.1∈W.args.map (·.arg):=(List.of_mem_zip hx).1;rcases T.kinds _ io with q|q;.exact .inl q
  .exact .inr ⟨q,cellsFrom_some _ _ _ (.inl q)⟩
 .
  have hz:((W.args.map (·.arg)).zip N).map (·.1)=W.args.map (·.arg):=kE ga;have ch:=hJ U.names (M+1) [] (λ _ h=>by cases h) .nil;have dL:=lq CA;have ds:∀a∈addrs L,M<a:=λ a E=>by
   rw[dL]at E;obtain⟨q,k,rfl⟩:=List.mem_map.mp E;rcases ch.2 q k with z|z;.cases z
   .exact z
  have fs:FS (c.callee A J.br O U M j D) (ps.zip I) Y ⟨g,bindL (envOfC O U M j D).kindOf ((W.args.map (·.arg)).zip N) λ _=>none,L,J.cl,J.fz,J.ρ⟩ ad:=by
   refine⟨B',D',F',λ q k=>N' q ?_,f.R,⟨?_,λ a E q=>?_⟩,λ x v hx=>?_,λ n hn=>?_⟩;.simp only[List.mem_append]at k⊢;grind
   .rw[addrs,List.map_append,List.nodup_append];have o1:=f.ap.once;rw[addrs,List.map_append,List.nodup_append]at o1;refine⟨by show(addrs L).Nodup;rw[dL];exact ch.1,o1.2.1,λ a E b hb e=>?_⟩;subst e;refine of_addrs (show a∈addrs J.cl from hb) λ q k ci=>?_;subst ci;exact Nat.lt_asymm (ds _ E) (lt q (List.mem_append_left _ (List.mem_append_right _ k)))
   .
    refine of_addrs q λ p' H cr=>?_;subst cr;refine of_addrs E λ q' S e'=>?_;rcases List.mem_append.mp S with S|S;.refine Nat.lt_asymm (ds _ (e'▸ah S)) (lt p' ?_);simp only[List.mem_append]at H⊢;grind
    .
     have o1:=f.ap;rcases List.mem_append.mp H with z|z;.exact o1.off _ (e'▸ah (List.mem_append_right _ S)) (ah (List.mem_append_left _ z))
     .
      rcases List.mem_append.mp z with z|z;.have o2:=o1.once;rw[addrs,List.map_append,List.nodup_append]at o2;exact o2.2.2 p'.1 (ah z) p'.1 (e'▸ah S) rfl
      .exact o1.off _ (e'▸ah (List.mem_append_right _ S)) (ah (List.mem_append_right _ z))
   .
    obtain⟨n,be,h1,h2,h3⟩:=pC T.ps hv hl hx;refine⟨n,h1,be,h3,λ hk=>vq hk (by rw[hz];exact T.nd) h2,λ hk=>?_⟩;have db:U.names.lookup n=some .cell:=by
     rcases T.kinds n (List.of_mem_zip h2).1 with q|q;.
      rcases hk with hk|hk;.exact absurd ((show U.names.lookup n=some .cell from hk).symm.trans q) (by simp)
      .exact absurd ((show U.names.lookup n=some .free from hk).symm.trans q) (by simp)
     .exact q
    obtain⟨a,E⟩:=Option.isSome_iff_exists.mp (cellsFrom_some U.names (M+1) [] (.inl db));obtain⟨o,ho,hd⟩:=hO CA E;refine⟨a,o,E,List.mem_append_left _ ho,?_⟩;rw[hd,vr (λ q=>by rw[show(envOfC O U M j D).kindOf n=some .cell from db]at q;cases q) (by rw[hz];exact T.nd) h2]
   .obtain⟨a,E⟩:=Option.isSome_iff_exists.mp (cellsFrom_some U.names (M+1) [] (.inl hn));obtain⟨o,ho,hd⟩:=hO CA E;exact⟨a,o,_,E,ho,hd⟩
  have ge:=hb M (ps.zip I) Y _ (bq s ad tk) (λ fl s'=>R (.ok (.ret (match fl with|.ret v=>v|_=> .none))) s') (λ e s'=>wpAny (model c.prog c.w) (A.deeper (envOfC O U M j D)) (leaving (envOfC O U M j D) e) (λ _ bn=>R (.error e) bn) (λ e' bn=>R (.error e') bn) s') fs;refine ge ?_;have ce:∀{H:Hp}{i:Heap}{F Q:Zs}{w:Loc},F=⟨g,bindL (envOfC O U M j D).kindOf ((W.args.map (·.arg)).zip N) λ _=>none,L,J.cl,J.fz,J.ρ⟩->ExtS (c.callee A J.br O U M j D) F Q->FS (c.callee A J.br O U M j D) w H Q i->∀{G:Prop},(∀P,Ext c J P->FS c Z H P i->aF c P=aF c Q->G)->G:=by intro H i F Q w e x K G κ;subst e;refine back f FG x K.ap λ u m F2 B2 D2 d y=>?_;refine κ _ m ⟨B2,D2,yw F2 K.F.keep,tY F2 K.N λ q k=>?_,K.R,d,y,f.fc⟩ rfl;simp only[List.mem_append]at k⊢;grind
  revert p;cases φ (ps.zip I) Y with|stuck=>exact λ p=>p|mk o w H=>cases o with|az=>exact λ p i B Q x K=>by refine ce rfl x K λ P m f2 _=>?_;exact p i B P .none m f2 .none|brk=>exact λ p=>p.elim|ret v=>exact λ p i B Q be x K r=>by refine ce rfl x K λ P m f2 er=>?_;exact p i B P be m f2 (er▸r)|exc C bv=>cases bv with|false=>exact λ p i B Q e x K=>by obtain⟨G,t,vs,F3,R3,U3⟩:=K.fl;refine tW K.B rfl F3 R3 U3 λ bi R4 U4=>?_;refine back f FG x K.ap λ u m F2 B2 D2 d y=>?_;refine p bi B _ e m ⟨B2,D2,⟨Q.h₀,t,vs,F2,RaisedS.sub R4 λ q k=>?_,U4⟩,K.R,d,y,f.fc⟩;simp only[List.mem_append]at k⊢;grind|true=>exact λ p pc i B Q e vs x K hx=>by refine n8 K.B rfl T.kd hx K.F K.N λ bi t R4 U4=>?_;refine back f FG x K.ap λ u m F2 B2 D2 d y=>?_;refine p bi B _ e m ⟨B2,D2,⟨Q.h₀,t,vs,F2,RaisedS.sub R4 λ q k=>?_,U4⟩,K.R,d,y,f.fc⟩;simp only[List.mem_append]at k⊢;grind
end
def xU(A:Around)(n:Nat):Prop:=A.depth+3*n<recursionLimit/\A.units+12*n+40<cLine
theorem xU.deeper{A:Around}{J:Env}{n:Nat}(b:xU A (n+1)):xU (A.deeper J) n:=by
 obtain@⟨h1,h2⟩:=b;constructor;.exact Er h1
 .exact Et h2
def BQ(A:Around)(n:Nat):Prop:=A.depth+3*n+1<recursionLimit/\A.units+12*n+41<cLine
theorem xU.yy{A:Around}{J:Env}{n:Nat}(b:xU A (n+1)):BQ (A.deeper J) n:=by
 obtain@⟨h1,h2⟩:=b;constructor;.exact Eu h1
 .exact Ew h2
theorem mx{A:Around}{C:Addr}{J:List Value}:(A.under (.builtin "type.__call__" ⟨.ref C::J,[]⟩)).frames=A.frames:=by show pushEnvs (Code.builtin "type.__call__" ⟨.ref C::J,[]⟩).envs A.frames=A.frames;rfl
theorem n9{A:Around}{C:Addr}{J:List Value}:(A.under (.builtin "type.__call__" ⟨.ref C::J,[]⟩)).depth=A.depth+1:=rfl
theorem n_{A:Around}{C:Addr}{J:List Value}:(A.under (.builtin "type.__call__" ⟨.ref C::J,[]⟩)).units=A.units+1:=rfl
theorem lx{A:Around}{C:Addr}{J:List Value}:(A.under (.builtin "type.__call__" ⟨.ref C::J,[]⟩)).handled=A.handled:=rfl
def jk(K:Frag)(C:Nat)(x:Str)(f:Nat):Bool:=plainGet K C&&(findIn K (.ref C) x==some (some (.ref f)))&&isFn K (.ref f)&&keepIn K (.ref f)where plainGet(K:Frag)(C:Nat):Bool:=PySem.W.plainGet K C x
def r5(K:Frag)(C f:Nat):Bool:=makesIn K C&&(findIn K (.ref C) "__init__"==some (some (.ref f)))&&isFn K (.ref f)&&keepIn K (.ref C)
def setOk(K:Frag)(C:Nat)(x:Str):Bool:=(findIn K (.ref C) "__setattr__"==some (some (.builtin "object.__setattr__")))&&plainOver K C&&(takerIn K C x==some none)&&hasDictIn K C
def pD(K:Frag)(N:List Str)(X:kz)(n:Nat):Prop:=∀(c:Cx)(A:Around),c.K=K->c.nt=N->aC c->A.frames=some (c.env::c.outer)->(c.hd=false->A.handled=none)->xU A n->∀(f W:Nat)(Z:List V)(J:List Value)Y O Q s(R:Result->Shared->Prop),FS c Y O Q s.heap->b7 c Q Z J->aq c (aF c) Y Q s (λ v U=>R (.ok (.ret v)) U) (λ e U=>R (.error e) U) (X c.hd f W Z O)->codeAny (model c.prog c.w) A (.call (.ref f) ⟨J,[]⟩) R s
theorem FR.t5{P:Params}{Z:List Str}{K:Led}{I:List Addr}(N:Z.Nodup){f:Nat}{x:Str}(X:Z[f]?=some x){J:List (Nat×V)}:∀{Y:List DictEntry},FR P Z K I J Y->aQ f J=none->getL x Y=some none:=by
 induction J with
  |nil=>rintro _ rfl _;rfl
  |cons p J R=>
   obtain⟨W,D⟩:=p;rintro _⟨O,Q,L,Y,rfl,h1,h2,G⟩e;haveI e:(if W=f then some D else aQ f J)=none:=e;by_cases q:W=f;.rw[if_pos q]at e;cases e
   .rw[if_neg q]at e;haveI U:=R G e;unfold getL at U⊢;rw[List.find?_cons_of_neg (by show¬(O==x)=true;rw[qH N q h1 X];exact Bool.false_ne_true)];exact U
section
variable{c:Cx}{R D G:Loc->Hp->Res V}{Y:Loc->Hp->Res (List V)}{e l r:Expr}{W:List Expr}{J:Loc}{Z:Hp}{U:Zs}{h N:Heap}{s:Shared}{E:Value->Shared->Prop}{n:Nat}{O:kz}
def a7(K:Frag)(Q:Str->Option NameKind)(x:Str)(f:Nat):Bool:=(nsIn K mainGlobals x==some (some (.ref f)))&&!(x==("__debug__":Str))&&(Q x==some .globalImplicit)
theorem pE(I:aC c){x:Str}{f:Nat}{V:Pos}{Q:Value->Shared->Prop}(X:a7 c.K c.ev.kindOf x f=true)(L:FS c J Z U s.heap)(h:Q (.ref f) s):wpAny (model c.prog c.w) c.A (eval (.Name x V) c.ev) Q E s:=by simp only[a7,Bool.and_eq_true,beq_iff_eq,Bool.not_eq_true']at X;obtain@⟨@⟨h1,T⟩,K⟩:=X;exact dw I L h1 h K T
theorem BR(I:aC c)(z:pD c.K c.nt O n)(w:xU c.A n){x:Str}{f:Nat}{j M:Pos}(V:Nat)(A:a7 c.K c.ev.kindOf x f=true)(P:keepIn c.K (.ref f)=true)(u:W.all notStar=true)(B:iS c Y W)(C:W=[]->Y=λ _ Z=> .ok [] Z):aX c (λ J Z=>(Y J Z).bind λ K Z=>O c.hd f V K Z) (.Call (.Name x j) W [] M):=by intro J Z U s Q E S p;refine Call_Name rfl (pE I A S ?_);refine cw (P:=λ h=>c.K.In h) (K:=λ K Z=>O c.hd f V K Z) (λ h X=>keeps_K P h X) u B C S p λ K T N v F L g q H y p=>⟨(H.K I).keeps H.F.keep,?_⟩;exact wpAny_call (z c c.A rfl rfl I I.frames I.hh w f V K L J T F _ _ H y p)
theorem BS(F:aC c)(l:pD c.K c.nt O n)(hb:xU c.A n)(T:aU)(hM:∀C k x f,c.nt[k]?=some x->fg T C k=some f->jk c.K C x f=true){x:Str}{k:Nat}{V j:Pos}(K:Nat)(q:c.nt[k]?=some x)(u:c9 e W V j=true)(h1:aX c R e)(d:iS c Y W)(D:W=[]->Y=λ _ Z=> .ok [] Z):aX c (λ J Z=>(R J Z).bind λ o Z=>af (iH T Z k o) λ f=>(Y J Z).bind λ S Z=>O c.hd f K (o::S) Z) (.Call (.Attribute e x V) W [] j):=by
 intro J Z U s Q E t p;have hs:W.all notStar=true:=by simp only[c9,Bool.and_eq_true]at u;exact u.1.1.2
 refine fj u (h1 _ _ _ _ _ _ t (p.bind λ o M N G A vo xt y v p=>?_));refine p.some λ f H p=>?_;unfold iH at H;split at H;.
  rename_i C ad hi;split at H;.cases H
  .rename_i g;refine y.inst v hi λ a dx b n' P I i=>?_;subst P;have B:=hM C k x f q H;simp only[jk,jk.plainGet,Bool.and_eq_true,beq_iff_eq]at B;obtain@⟨@⟨@⟨g1,g2⟩,r⟩,m⟩:=B;refine method_inst y.F (y.K F) I g1 g2 r (i.t5 F.nt q g) ?_;refine cw (P:=λ h=>c.K.In h) (N:=[.ref a]) (K:=λ S Z=>O c.hd f K (o::S) Z) (λ h X=>keeps_K m h X) hs d D y p λ S M N G A z eq w L rv p=>⟨(L.K F).keeps L.F.keep,?_⟩;exact wpAny_call (l c c.A rfl rfl F F.frames F.hh hb f K (o::S) (.ref a::z) J M A _ _ L (.cons (v.up w.up) rv) p)
 .cases H
theorem FS.pG{p:Addr×Obj}{V Q:Led}{K:Hp}(f:FS c J Z U h)(P:U.cl=V++p::Q)(B:aT c.prog c.w c.nt U.fz U.ρ K.cells (V++Q))(C:K.nx=Z.nx):FS c J K {U with cl:=V++Q,fz:=p::U.fz} h/\Ext c U {U with cl:=V++Q,fz:=p::U.fz}:=by
 obtain⟨w,m,X,v,j,y⟩:=U;replace P:v=_:=P;subst P;haveI u:Up j (p::j) y y:=⟨λ p Z=> .tail _ Z,λ _ _ e=>e⟩;have I:(X++(V++p::Q)).Perm (p::(X++(V++Q))):=by rw[<-List.append_assoc,<-List.append_assoc];exact List.perm_middle
 have S:(addrs (p::(X++(V++Q)))).Nodup:=((I.map (λ x:Addr×Obj=>x.1)).nodup_iff).mp f.ap.once;haveI F:p.1∈addrs (X++(V++p::Q)):=ah (by simp);obtain@⟨H,L⟩:=List.nodup_cons.mp S;refine⟨⟨f.B,f.D,f.F,λ q M=>f.N q ?_,⟨B.up u,by rw[C];exact f.R.nx⟩,⟨L,λ a z q=>?_⟩,f.lr.up u,f.fc⟩,⟨⟨.refl,⟨[p],rfl,λ q M=>?_⟩,⟨[],(List.append_nil _).symm⟩⟩,rfl,rfl⟩⟩;.simp only[Zs.all,List.mem_append,List.mem_cons]at M⊢;grind
 .
  rcases List.mem_cons.mp (show a∈p.1::addrs (j++c.fr)from q)with e|q;.subst e;exact H z
  .refine f.ap.off a ?_ q;refine of_addrs z λ g A T=>?_;subst T;exact ah (I.mem_iff.mpr (.tail _ A))
 .rw[List.mem_singleton.mp M];exact λ q=>f.ap.off p.1 F (by rw[addrs,List.map_append];exact List.mem_append_right _ q)
theorem E4(S:aC c)(ih:pD c.K c.nt O n)(hb:BQ c.A n)(T:aU)(hC:∀C f,bw C T.jH=some f->r5 c.K C f=true){x:Str}{C fI:Nat}{np bi:Pos}(H:Nat)(d:bw C T.jH=some fI)(hg:a7 c.K c.ev.kindOf x C=true)(hs:W.all notStar=true)(hE:iS c Y W)(hn:W=[]->Y=λ _ Z=> .ok [] Z):aX c (λ J Z=>(Y J Z).bind λ g Z=>newObj O T c.hd H C g Z) (.Call (.Name x np) W [] bi):=by
 intro J Z U s Q E A p;have m:=hC C fI d;simp only[r5,Bool.and_eq_true,beq_iff_eq]at m;obtain@⟨@⟨@⟨g1,g2⟩,g3⟩,g4⟩:=m;refine Call_Name rfl (pE S hg A ?_);refine cw (P:=λ h=>c.K.In h) (K:=λ g Z=>newObj O T c.hd H C g Z) (λ h X=>keeps_K g4 h X) hs hE hn A p λ g K N tk y F eq xt B rv p=>⟨(B.K S).keeps B.F.keep,?_⟩;refine call_cls B.F (B.K S) B.N g1 g2 g3 λ x R db bd be D u=>?_;unfold newObj at p;rw[d]at p;cases i:nN T C H with
  |none=>rw[i]at p;exact p.elim
  |some L=>
   rw[i]at p;haveI hx:∀p∈y.all c,p.1≠x:=λ p Z=>Nat.ne_of_lt (Nat.lt_trans (D p Z) u);refine B.n4 (a:=R) (o:=dictOf [] 0) (B:=L) (R:= .inst C []) (x:=x) (X:=(x,instObj C R)::y.fz) bd (λ q I=>be q (by simp only[List.mem_append,List.mem_cons]at I⊢;grind)) (λ q I=>by
    simp only[List.mem_append,List.mem_cons]at I;rcases I with I|(rfl|I)|I;.exact Nat.ne_of_lt (D q (List.mem_append_left _ (List.mem_append.mpr I)))
    .exact Nat.ne_of_gt u
    .exact Nat.ne_of_lt (D q (List.mem_append_right _ (List.mem_append_left _ I)))
    .exact Nat.ne_of_lt (D q (List.mem_append_right _ (List.mem_append_right _ I)))) ⟨[(x,instObj C R)],rfl,λ q I=>by
    rw[List.mem_singleton.mp I];constructor;.intro k;refine of_addrs k λ q' P e=>?_;exact hx q' (List.mem_append_right _ (List.mem_append_right _ P)) e
    .intro k;refine of_addrs k λ q' P e=>?_;exact hx q' (List.mem_append_left _ P) e⟩ (.inst (by simp) (.head _) (Nat.zero_le _) .nil) λ ad f1 x1 G=>?_;haveI bn:xU (c.A.under (.builtin "type.__call__" ⟨.ref C::F,[]⟩)) n:=by
    obtain@⟨b1,b2⟩:=hb;constructor;.rw[n9];exact Ex b1
    .rw[n_];exact Ey b2
   refine ih c _ rfl rfl S (mx.trans S.frames) (λ q=>lx.trans (S.hh q)) bn fI H (.ref L K.nx::g) (.ref x::F) J _ ad _ _ f1 (.cons G (rv.up x1.up)) ?_;refine aq.bind (aq.ext x1 p) λ r V h2 dL j cr w l rr p=>?_;cases r with
    |none=>
     obtain rfl:=rr;refine⟨rfl,?_⟩;by_cases z:bW C T.nM=true;.
      replace p:aq c (aF c) J j _ Q E (if bW C T.nM then(match V.get L K.nx with|some (.inst a A)=>Res.ok (.obj a A) (V.drop L)|_=> .stuck)else .ok (.ref L K.nx) V):=p;rw[if_pos z]at p;split at p;.rename_i a ci v;refine qI l.R v λ ds R o bv ec t _ M=>?_;refine bf λ ce b=>?_;obtain⟨ch,n',x',k0,k1,k2,k3,k4⟩:=t;cases k0;obtain⟨_,q2,k5⟩:=G.up w.up;cases q2;cases k1.symm.trans k5;obtain@⟨f3,x3⟩:=l.pG (K:=V.drop L) ec M rfl;refine b ?_;exact p _ _ _ _ x3 f3 (.obj (.tail _ k2) (.head _) (k4.up x3.up))
      .exact p.elim
     .replace p:aq c (aF c) J j _ Q E (if bW C T.nM then(match V.get L K.nx with|some (.inst a A)=>Res.ok (.obj a A) (V.drop L)|_=> .stuck)else .ok (.ref L K.nx) V):=p;rw[if_neg z]at p;exact p _ _ _ _ .refl l (G.up w.up)
    |_=>exact p.elim
end
abbrev Cx.sub(c:Cx)(g:Led)(J:Option Cm):Cx:={c with fr:=g++c.fr,cm:=J}
section
variable{c:Cx}{K T P:Loc->Hp->Res V}{H:Loc->Hp->Res (List V)}{e l r:Expr}{M:List Expr}{Z X:Loc}{J O:Hp}{W Y:Zs}{h D:Heap}{s:Shared}{E:Value->Shared->Prop}{g:Led}{I:Option Cm}
theorem FS.into(f:FS c Z J W h)(F:Fr W.h₀ c.L D W.m)(N:News W.h₀ c.L D (W.all (c.sub g I)))(V:∀p∈g,p.1∉addrs (W.br++W.cl))(R:cB (c.sub g I) X W):FS (c.sub g I) X J W D:=by
 refine⟨f.B,f.D,F,N,f.R,⟨f.ap.once,λ a Q q=>?_⟩,R,f.fc⟩;refine of_addrs q λ p J U=>?_;subst U;simp only[List.mem_append]at J;rcases J with J|J|J;.exact f.ap.off _ Q (ah (List.mem_append_left _ J))
 .exact V p J Q
 .exact f.ap.off _ Q (ah (List.mem_append_right _ J))
theorem t6{U h:Heap}{L:Addr}{a b:Led}(N:News U L h a)(Q:∀p∈b,p∈a):News U L h b:=λ p J=>N p (Q p J)
theorem r6{x:Addr×Obj}(U:x∈W.all c):x∈W.all (c.sub g I):=by simp only[Zs.all,List.mem_append]at U⊢;grind
theorem FS.out(f:FS (c.sub g I) X J W h)(V:cB c Z W):FS c Z J W h:=⟨f.B,f.D,f.F,t6 f.N λ _=>r6,f.R,⟨f.ap.once,λ a Q q=>f.ap.off a Q (by
 refine of_addrs q λ p J U=>?_;subst U;rcases List.mem_append.mp J with J|J;.exact ah (List.mem_append_left _ J)
 .exact ah (List.mem_append_right _ (List.mem_append_right _ J)))⟩,V,f.fc⟩
theorem ExtS.out(x:ExtS (c.sub g I) W Y):ExtS c W Y:=by obtain@@⟨t,⟨V,e,U⟩,N⟩:=x;exact⟨t,⟨V,e,λ p J q=>U p J (by refine of_addrs q λ R O Q=>?_;exact Q▸ah (List.mem_append_right _ O))⟩,N⟩
theorem Ext.out(x:Ext (c.sub g I) W Y):Ext c W Y:=⟨x.toExtS.out,x.m,x.br⟩
theorem cB.plus(S:cB c Z W):cB (c.sub g c.cm) Z W:=λ x v e=>by refine bf λ V U=>?_;obtain⟨n,h1,Q,h2,N,G⟩:=S x v e;refine U ?_;refine⟨n,h1,Q,h2,N,λ L=>?_⟩;obtain@⟨@a,@o,R,F,A⟩:=G L;refine⟨a,o,R,?_,A⟩;simp only[List.mem_append]at F⊢;grind
theorem XS.out{C:Nat}{e:Addr}(f:XS (c.sub g I) C X J W e h)(A:cB c Z W):XS c C Z J W e h:=by
 refine bf λ N V=>?_;obtain@⟨@G,@t,@S,F,R,U⟩:=f.fl;refine V ?_;exact⟨f.B,f.D,⟨G,t,S,F,RaisedS.sub R λ _=>r6,U⟩,f.R,⟨f.ap.once,λ a L q=>f.ap.off a L (by
  refine of_addrs q λ p J Q=>?_;subst Q;rcases List.mem_append.mp J with J|J;.exact ah (List.mem_append_left _ J)
  .exact ah (List.mem_append_right _ (List.mem_append_right _ J)))⟩,A,f.fc⟩
theorem aC.sub(U:aC c)(Q:∀k,I=some k->k.scope.kind= .function/\∃o,(k.C,o)∈g++c.fr/\∀h:Heap,h.get? k.C=some o->h.Ns k.C k.m):aC (c.sub g I):=⟨U.X,U.T,U.frames,U.hk,U.hh,U.units,U.nt,Q,U.inj⟩
theorem aC.plus(U:aC c):aC (c.sub g c.cm):=U.sub λ k q=>by obtain@⟨h1,@o,h2,Q⟩:=U.EG k q;exact⟨h1,o,List.mem_append_right _ h2,Q⟩
theorem aq.AE{G S A F:Type}{R:Zs->G->S->Prop}{V:Zs->A->F->Prop}{Q:F->Shared->Prop}{r:Res G}{k:G->Hp->Res A}{L:S->Shared->Prop}(B:cB c Z W)(p:aq c V Z W s Q E (r.bind k))(h:∀v O D N Y U,Ext (c.sub g c.cm) W Y->FS (c.sub g c.cm) Z O Y D->R Y v U->aq c V Z Y (bq s D N) Q E (k v O)->L U (bq s D N)):aq (c.sub g c.cm) R Z W s L E r:=by cases r with|ok v O=>exact λ D N Y U x f r=>h v O D N Y U x f r (aq.ext x.out p)|exc C O=>exact λ D N Y e x f=>p D N Y e x.out (f.out (x.out.lr B))|stuck=>exact p.elim
theorem BU{u:Nat}{A}(h1:aX c K l)(h2:aX c T r):aX c (λ Z J=>(K Z J).bind λ x J=>(T Z J).bind λ y J=>match a8 J x,a8 J y with|some l,some r=>if(l++r).length<=lid then .ok (.ref u J.nx) (J.new u (.list (l++r)))else .stuck|_,_=> .stuck) (.BinOp l .Add r A):=by
 intro Z J W s Q E f p;refine wpAny_BinOp (h1 _ _ _ _ _ _ f (p.bind λ x O D tk Y vx g i H p=>?_));refine h2 _ _ _ _ _ _ i (p.bind λ y d B j v e C U m p=>?_);split at p;.
  rename_i la lb t M;split at p;.rename_i N;refine U.list (H.up C.up) t λ a h n R I X o=>?_;subst R;refine U.list m M λ b ws k V F P z=>?_;subst V;haveI q:=bY.append X P;haveI S:=q.length;refine add_arrays U.F U.N (lst_is U.N I) (lst_is U.N F) (λ w G L=>n6 (s:=(bq s B j)) (n:=0) U q (S▸N) p G L U.fresh) ?_;simp only[List.size_toArray];exact dY (Ax (bX o) (bX z))
  .exact p.elim
 .exact p.elim
end
section
variable{c:Cx}{O I L:Loc->Hp->Res V}{R:Loc->Hp->Res (List V)}{e l r:Expr}{K:List Expr}{J X:Loc}{Z U:Hp}{Y D:Zs}{h W:Heap}{s:Shared}{E:Value->Shared->Prop}{g:Led}{G:Option Cm}
theorem bY.yz{P:Params}{H:List Str}{T:Led}{N:List Addr}{Q:List Int}{V:List Value}(h:IntsAre V Q):bY P H T N (Q.map .int) V:=by induction h with|nil=>exact .nil|cons n t h F=>exact .cons .int F
theorem r8{Q:Value->Shared->Prop}{l:List V}{T:List Value}{H n:Nat}{a:Addr}(f:FS c J Z Y s.heap)(A:b7 c Y l T)(M:T.length<=lid)(p:aq c (aF c) J Y s Q E (.ok (.lst l) Z))(F:Fr Y.h₀ c.L W Y.m)(N:News Y.h₀ c.L W ((a,aS T n)::(Y.all c)))(S:∀p∈Y.all c,p.1≠a):Q (.ref a) (bq s W H):=by obtain@⟨P,x⟩:=f.Ec F N S;exact p W H _ _ x P (.lst (.head _) M (A.up x.up))
theorem vt{Q:List Int}(h:Q.Perm [1,2])(V:Q.Pairwise (·<=·)):Q=[1,2]:=List.Perm.eq_of_pairwise (le:=(·<=·)) (λ _ _ _ _ h1 h2=>Int.le_antisymm h1 h2) V (by decide) h
theorem vu(b:aC c){n:Str}{I C:Pos}(hb:cx c n (.builtin "sorted")=true)(P:notStar e=true)(h1:aX c O e):aX c (λ J Z=>(O J Z).bind λ o Z=>af (iI o) λ v=> .ok v Z) (.Call (.Name n I) [e] [] C):=by
 intro J Z Y s Q E f p;refine lh b hb (λ a q=>by cases q) (by simp[P]) (bC P h1 c8) (by intro q;cases q) f (K:=λ S Z=>match S with|[o]=>af (iI o) λ v=> .ok v Z|_=> .stuck) (by rw[Res.bind_assoc];exact p) ?_;intro S w F y H t eq ad V rv p;have gt:∀p∈H.all c,p.1≠F.objs.size+1:=λ p Z=>Nat.ne_of_lt (Nat.lt_succ_of_lt (Heap.lt_size (V.N p Z).1));cases S with
  |nil=>exact p.elim
  |cons o r=>
   cases r with
    |cons _ _=>exact p.elim
    |nil=>
     refine rv.one λ x1 T X=>?_;subst T;refine p.some λ v hv p=>?_;refine tE hv λ l M R x d P=>?_;subst R x;obtain⟨_,_,_,rfl,L,g2,K⟩:=X;have u:=K.ints d;have W:=IntsAre.length u;have A:PyData.layable0 (.list (M.map .int))=true/\M.length<64/\∀N,List.Perm N M->N.Pairwise (·<=·)->N=M:=by
      rcases P with rfl|rfl;.exact⟨by decide,by decide,λ N h _=>h.eq_nil⟩
      .exact⟨by decide,by decide,λ N h k=>vt h k⟩
     refine sorted_N2 V.F V.N (dy V L) u A.1 (W▸A.2.1) λ h3 g B e' D m bd z i e1 G U j=>?_;have:=A.2.2 B U j;subst this;rw[qC d]at p;exact r8 (s:=(bq s F y)) V (bY.yz z) (Nat.le_trans (Nat.le_of_eq G) g2) p D m gt
end
section
variable{Z:Program}{w:World}{K:Type} [DecidableEq K]{J:KeyKind Z w K}{A:Around}{E:Value->Shared->Prop}{s:Shared}
theorem my{d:Addr}{kvs:List (K×Value)}{k:K}{R v:Value}{Q:Unit->Shared->Prop}(U:J.is k R=true)(u:s.heap.DictOf J d kvs)(P:∀M,M.DictOf J d (stored kvs k v)->Heap.SameBut d s.heap M->Q () {s with heap:=M})(g:kvs.length<=sizeLine:=by size_fits):wpAny (model Z w) A (dictPut d (J.hash k) R v) Q E s:=by
 refine bf λ j D=>?_;obtain⟨o,W,B,N,S,X,F,G,H⟩:=u;have T:W.size<=sizeLine:=by
  have r:=G.length;have f:W.toList.length=W.size:=by simp
  omega
 refine D ?_;unfold dictPut;refine wpAny_bind (wpAny_dictFind_of U N X F ?_);have Y:(W.findIdx? λ e=>J.is k e.key)=kvs.findIdx? λ kv=>decide (kv.1=k):=by rw[<-G.findIdx k];obtain⟨l⟩:=W;simp
 cases I:W.findIdx? λ e=>J.is k e.key with
  |some i=>
   refine wpAny_updateDict N X (P _ ⟨_,_,B,Heap.get?_update_self _ N (Obj.isFreed_of_dict (Obj.data_mapDict X _)),S.mapDict _,Obj.data_mapDict X _,F.modify _ _,?_,?_⟩ (Heap.SameBut.update ..));.
    rw[stored,if_pos (any_of_findIdx_some (Y▸I))];have y:(W.toList.findIdx? λ e=>J.is k e.key)=some i:=by rw[<-I];obtain⟨l⟩:=W;simp
    have:=G.modify H y v;obtain@⟨l⟩:=W;simpa using this
   .rw[stored,if_pos (any_of_findIdx_some (Y▸I)),keys_map_store];exact H
  |none=>
   haveI V:k∉kvs.map (·.1):=not_mem_of_findIdx_none (Y▸I);have O:¬(kvs.any λ kv=>decide (kv.1=k))=true:=by rw[List.any_eq_true];rintro⟨kv,L,q⟩;exact V (List.mem_map.mpr ⟨kv,L,of_decide_eq_true q⟩)
   refine wpAny_updateDictKeys (hz:=T) N X (P _ ⟨_,_,B+1,Heap.get?_update_self _ N (Obj.isFreed_of_dict (Obj.data_mapDictKeys X _)),S.mapDictKeys _,Obj.data_mapDictKeys X _,F.push U _,?_,?_⟩ (Heap.SameBut.update ..));.rw[stored,if_neg O];haveI:=G.append U (J.hash k) v;obtain@⟨l⟩:=W;simpa using this
   .rw[stored,if_neg O,List.map_append,List.nodup_append];refine⟨H,by simp,?_⟩;intro a z b C;simp only[List.map_cons,List.map_nil,List.mem_singleton]at C;subst C;exact λ e=>V (e▸z)
theorem vw{d o:Addr}{kvs U:List (K×Value)}{Q:Unit->Shared->Prop}(ad:d≠o)(be:(o==sysModules)=false)(hd:s.heap.DictOf J d kvs)(bv:kvs≠[])(a:s.heap.DictOf J o U)(hQ:∀R,R.DictOf J d (merged kvs U)->Heap.SameBut d s.heap R->Q () {s with heap:=R})(bn:kvs.length+U.length<=sizeLine:=by size_fits):wpAny (model Z w) A (mergeMapping d (.ref o) false) Q E s:=by
 refine bf λ p D=>?_;obtain@⟨@od,@H,@ce,l,cr,bi,ch,bd,ds⟩:=id hd;obtain⟨oo,Y,db,C,ci,W,n,y,dL⟩:=id a;refine D ?_;unfold mergeMapping;refine wpAny_bind (wpAny_isInstance a.typeIs isSubtype_dict_dict ?_);refine wpAny_bind (wpAny_specialOf a.typeIs F.slot_dict_iter.lookup (wpAny_bind (wpAny_pure ?_)));simp only[beq_self_eq_true,be,Bool.false_eq_true,if_false];refine wpAny_bind (wpAny_dictEntries l bi ?_);have f:H.isEmpty=false:=by cases q:H.isEmpty with|false=>rfl|true=>haveI h0:H=#[]:=Array.isEmpty_iff.mp q;haveI:=bd.length;rw[h0]at this;exact absurd (List.length_eq_zero_iff.mp (by simpa using this.symm)) bv
 rw[f];refine wpAny_bind (wpAny_dictEntries C W ?_);refine wpAny_bind (wpAny_dictEpoch C W ?_);have I:U.length=Y.size:=by rw[<-y.length];simp
 refine wpAny_bind ?_;rw[List.range_eq_range'];refine wpAny_forIn_list _ (λ X _ m=>∃R i,m={s with heap:=R}/\X=List.range' i (Y.size-i)/\i<=Y.size/\R.DictOf J d (merged kvs (U.take i))/\R.get? o=some oo/\Heap.SameBut d s.heap R) _ ?_ ?_ _ _ ⟨s.heap,0,rfl,by simp,Nat.zero_le _,by simpa[merged]using hd,C,Heap.SameBut.refl _ _⟩;.
  rintro x X b m⟨R,i,rfl,P,hi,G,N,B⟩;have V:i<Y.size:=by
   rcases Nat.lt_or_ge i Y.size with h|h;.exact h
   .rw[Nat.sub_eq_zero_of_le h]at P;simp at P
  obtain⟨rfl,j⟩:x=i/\X=List.range' (i+1) (Y.size-(i+1)):=by
   haveI e:Y.size-i=(Y.size-(i+1))+1:=by exact"?&wcNz:4wsjxS</aVp^ih>[_McO[$" rfl rfl V
   rw[e,List.range'_succ]at P;injection P with h1 h2;exact⟨h1,h2⟩
  refine wpAny_bind (wpAny_dictEntries N W ?_);rw[Array.getElem?_eq_getElem V];refine bf λ p D=>?_;obtain⟨kv,z⟩:∃kv,U[x]?=some kv:=⟨U[x]'(by rw[I];exact V),List.getElem?_eq_getElem _⟩;obtain⟨k,v⟩:=kv;obtain@⟨L,u⟩:=y.get? (e:=Y[x]) (by simp[V]) z;obtain@⟨@k',M,S⟩:=n Y[x] (Array.getElem_mem V);obtain rfl:k'=k:=J.inj _ _ _ M L;refine D ?_;show wpAny _ _ (holding [Y[x].key,Y[x].val] (dictPut d Y[x].hash Y[x].key Y[x].val)>>=_) _ _ _;rw[S,u];haveI t:(merged kvs (U.take x)).length<=sizeLine:=by
   haveI e1:=merged_length_le kvs (U.take x);haveI e2:(U.take x).length<=U.length:=by rw[List.length_take];exact"Ov9$$*,Pie7(#" rfl
   exact Nat.le_trans e1 (Nat.le_trans (Nat.add_le_add_left e2 _) bn)
  refine wpAny_bind (wpAny_holding (my (g:=t) L G λ g r T=>?_));have O:g.get? o=some oo:=(T.2 o (Ne.symm ad)).trans N;refine wpAny_bind (wpAny_dictEpoch O W ?_);rw[if_neg (by simp)];exact wpAny_pure ⟨g,x+1,rfl,j,V,by rw[merged_take_succ kvs U x (k',v) z];exact r,O,B.trans T⟩
 .
  rintro b m⟨R,i,rfl,P,hi,G,N,B⟩;have c:i=Y.size:=by
   rcases Nat.lt_or_ge i Y.size with h|h;.
    haveI e:Y.size-i=(Y.size-(i+1))+1:=by exact"?&wcNz:4wsjxS</aVp^ih>[_McO[$" rfl rfl h
    rw[e,List.range'_succ]at P;exact nomatch P
   .exact Nat.le_antisymm hi h
  refine wpAny_pure (hQ R ?_ B);rw[c,<-I,List.take_length]at G;exact G
end
theorem hU{U:Option Addr}(f:(Option (Sem Value)×Sem Value)->(Option Addr×List (Sem Value×Sem Value))->Sem (ForInStep (Option Addr×List (Sem Value×Sem Value))))(W:∀(p:Sem Value×Sem Value)(Z:List (Sem Value×Sem Value)),Z.length+1<17->f (some p.1,p.2) (U,Z)=pure (.yield (U,Z++[p]))):∀(J:List (Sem Value×Sem Value))(Y:List (Option (Sem Value)×Sem Value))(Z:List (Sem Value×Sem Value)),Z.length+J.length<17->forIn ((J.map λ p=>(some p.1,p.2))++Y) (U,Z) f=forIn Y (U,Z++J) f:=by intro J;induction J with|nil=>intro Y Z _;rw[List.append_nil];rfl|cons p J Q=>intro Y Z h;rw[List.map_cons,List.cons_append,List.forIn_cons,W p Z (by simp at h;exact"fMhhec>Aob<]c{.#!" h),pure_bind];haveI:=Q Y (Z++[p]) (by simp at h⊢;exact"6PwKi71fN.yXwRj#!" h);simpa using this
theorem jl(J:List (Sem Value×Sem Value))(q:Sem Value×Sem Value)(Z:List (Sem Value×Sem Value))(h1:J.length=16)(Q:Z≠[])(h2:Z.length<=15):dictDisplay ((J++[q]++Z).map λ p=>(some p.1,p.2))=(do
 let d<-subDict (J++[q])
 let sub<-holding [.ref d] (subDict Z)
 (holding [.ref d,.ref sub] (mergeMapping d (.ref sub) false)).onRaise λ x=>do
  let _<-holding [.ref d,x] (runValue (.builtin "proto.let_go" {}))
 pure (.ref d)):=by
 unfold dictDisplay;dsimp only;rw[List.map_append,List.map_append,List.append_assoc,hU (U:=none) _ (λ p U h=>by
  haveI Y:((U++[(p.1,p.2)]).length==17)=false:=by simp;exact"KU(3uG^PB![s<" h
  simp only[Y,Bool.false_eq_true,if_false]) J _ [] (by simp[h1])];rw[List.map_singleton,List.singleton_append,List.forIn_cons];haveI W:((J++[(q.1,q.2)]).length==17)=true:=by simp[h1]
 haveI Y:(J++[(q.1,q.2)]).isEmpty=false:=by simp
 simp only[List.nil_append,W,if_true,Y,Bool.false_eq_true,if_false,bind_assoc,pure_bind];refine congrArg (subDict (J++[q])>>=·) (funext λ d=>?_);haveI e:(Z.map λ p=>(some p.1,p.2))=(Z.map λ p=>((some p.1:Option (Sem Value)),p.2))++[]:=by simp
 rw[e,hU (U:=some d) _ (λ p U h=>by
  haveI Y:((U++[(p.1,p.2)]).length==17)=false:=by simp;exact"KU(3uG^PB![s<" h
  simp only[Y,Bool.false_eq_true,if_false]) Z [] [] (by simp;exact"GwC.RJ,)I0" h2)];simp[Q]
section
variable{c:Cx}{R T F:Loc->Hp->Res V}{W:Loc->Hp->Res (List V)}{e l r:Expr}{H:List Expr}{Y L:Loc}{J X:Hp}{Z U:Zs}{h O:Heap}{s:Shared}{E:Value->Shared->Prop}{g I:Led}{N G:Option Cm}
theorem eV{l:Led}{d:Addr}(h:d∉addrs l){p:Addr×Obj}(J:p∈l):p.1≠d:=λ e=>h (e▸ah J)
theorem FS.vA{d:Addr}{od Q:Obj}(f:FS (c.sub ((d,od)::g) N) Y J Z h)(B:Heap.SameBut d h O)(K:O.get? d=some Q)(y:d∉addrs Z.fz)(S:d∉addrs (g++c.fr))(z:cB (c.sub ((d,Q)::g) N) Y Z):FS (c.sub ((d,Q)::g) N) Y J Z O:=by
 have D:(d,od)∈(Z.br++Z.cl)++(Z.fz++(((d,od)::g)++c.fr)):=by simp
 obtain@⟨k,C,A⟩:=f.N (d,od) D;haveI M:∀p∈Z.br++Z.cl,p.1≠d:=λ p J e=>f.ap.off d (e▸ah J) (show d∈addrs (Z.fz++(((d,od)::g)++c.fr))from ah (p:=(d,od)) (by simp));refine⟨f.B,f.D,f.F.change B C A,λ p J=>?_,f.R,⟨f.ap.once,λ a j q=>f.ap.off a j ?_⟩,z,f.fc⟩;.
  haveI V:p=(d,Q)\/(p∈(Z.br++Z.cl)++(Z.fz++(((d,od)::g)++c.fr))/\p.1≠d):=by
   simp only[Zs.all,List.mem_append,List.mem_cons]at J;rcases J with J|J|(rfl|J)|J;.exact .inr ⟨List.mem_append_left _ (List.mem_append.mpr J),M p (List.mem_append.mpr J)⟩
   .exact .inr ⟨by simp[J],eV y J⟩
   .exact .inl rfl
   .exact .inr ⟨by simp[J],eV S (List.mem_append_left _ J)⟩
   .exact .inr ⟨by simp[J],eV S (List.mem_append_right _ J)⟩
  rcases V with rfl|⟨J,P⟩;.exact⟨K,C,A⟩
  .obtain@⟨u,w,v⟩:=f.N p J;exact⟨B.extBut _ _ P u,w,v⟩
 .
  haveI:addrs (Z.fz++(((d,Q)::g)++c.fr))=addrs (Z.fz++(((d,od)::g)++c.fr)):=by simp[addrs]
  exact this▸q
theorem Ext.re(e:∀a,a∈addrs I->a∈addrs g)(x:Ext (c.sub g N) Z U):Ext (c.sub I G) Z U:=by
 refine bf λ V Q=>?_;obtain@@⟨⟨t,⟨M,K,D⟩,P⟩,S,A⟩:=x;refine Q ?_;refine⟨⟨t,⟨M,K,λ p J q=>D p J ?_⟩,P⟩,S,A⟩;rw[addrs,List.map_append]at q⊢;rcases List.mem_append.mp q with q|q;.exact List.mem_append_left _ (e _ q)
 .exact List.mem_append_right _ q
theorem ExtS.off{d:Addr}(x:ExtS (c.sub g N) Z U)(D:d∈addrs g)(K:d∉addrs Z.fz):d∉addrs U.fz:=by
 obtain@@⟨_,⟨M,e,V⟩,_⟩:=x;intro q;rw[e]at q;refine of_addrs q λ p J Q=>?_;subst Q;rcases List.mem_append.mp J with J|J;.exact V p J (by rw[addrs,List.map_append];exact List.mem_append_left _ D)
 .exact K (ah J)
inductive yA(c:Cx)(Q:Pos):List Nat->(Loc->Hp->Res (List V))->List (Sem Value×Sem Value)->Prop|nil:yA c Q [] (λ _ J=> .ok [] J) []|cons{k:Nat}{x:Str}{M:Nat}{S:Pos}{R:Loc->Hp->Res V}{e:Expr}{D:List Nat}{W:Loc->Hp->Res (List V)}{K:List (Sem Value×Sem Value)}:c.nt[k]?=some x->(∀g,aX (c.sub g c.cm) R e)->yA c Q D W K->yA c Q (k::D) (λ Y J=>(R Y J).bind λ v J=>(W Y J).bind λ P J=> .ok (v::P) J) ((eval (.Constant (.str x) M S) c.ev,(do
 let x<-eval e c.ev;
 standAt Q;
 pure x))::K)
theorem E5{M:Model}{A:Around}{E:Value->Shared->Prop}{s:Shared}{t:Sem Value}{V:Pos}{Q:Value->Shared->Prop}(h:wpAny M A t Q E s):wpAny M A (do
 let x<-t;
 standAt V;
 pure x) Q E s:=wpAny_bind (wpAny_mono h (λ v D O=>wpAny_bind (wpAny_standAt (wpAny_pure O))) λ _ _ x=>x)
theorem BV{P:Params}{K:List Str}{acc:List (Nat×V)}{k:Nat}{v:V}{D:List Nat}{Q:List V}(h:aQ k acc=none):acc++(k::D).zip (v::Q)=bj k v acc++D.zip Q:=by rw[iO h,List.zip_cons_cons];simp
theorem jM{k:Nat}:∀{a b:List (Nat×V)},aQ k a=none->aQ k b=none->aQ k (a++b)=none
 |[],_,_,h=>h
 |(f,v)::a,b,h1,h2=>by
  unfold aQ at h1;rw[List.cons_append];unfold aQ;refine bf λ D Q=>?_;by_cases q:f=k;.rw[if_pos q]at h1;cases h1
  .refine Q ?_;rw[if_neg q]at h1⊢;exact jM h1 h2
theorem t7{d:Addr}{l:Pos}{Q:Value->Shared->Prop}(ch:d∉addrs c.fr):∀{A:List Nat}{W:Loc->Hp->Res (List V)}{n:List (Sem Value×Sem Value)},yA c l A W n->∀{od:Obj}{J:Hp}{Z:Zs}{s:Shared}{kvs:List (Str×Value)}{acc:List (Nat×V)}{K:List V->Hp->Res V}{b:PUnit->Shared->Prop},FS (c.sub [(d,od)] c.cm) Y J Z s.heap->cB c Y Z->c.nt.Nodup->d∉addrs Z.fz->od.IsDictOf (strKind c.prog c.w) kvs->yo c Z acc kvs->(∀k∈A,aQ k acc=none)->A.Nodup->acc.length+A.length<=40->aq c (aF c) Y Z s Q E ((W Y J).bind K)->(∀S X O tk U w B,Ext (c.sub [(d,od)] c.cm) Z U->FS (c.sub [(d,w)] c.cm) Y X U O->w.IsDictOf (strKind c.prog c.w) B->yo c U (acc++A.zip S) B->S.length=A.length->aq c (aF c) Y U (bq s O tk) Q E (K S X)->b PUnit.unit (bq s O tk))->wpAny (model c.prog c.w) c.A (forIn n PUnit.unit λ(p:Sem Value×Sem Value)(_:PUnit)=>(do
 let kv<-p.1
 let vv<-holding [kv] p.2
 holding [kv,vv] (dictSet d kv vv)
 pure (ForInStep.yield PUnit.unit):Sem (ForInStep PUnit))) b E s:=by
 intro A W n D;induction D with
  |nil=>intro od J Z s kvs acc K b f T nd hz o i L hk M p P;rw[List.forIn_nil];exact wpAny_pure (P [] J s.heap s.toks Z od kvs .refl f o (by simpa using i) rfl p)
  |@cons k x kd kp R e A W n hx he D ih=>
   intro od J Z s kvs acc K b f T nd hz o i L hk M p P;rw[List.forIn_cons];rw[Res.bind_assoc]at p;refine wpAny_bind (wpAny_bind (wpAny_Constant_str (env:=c.ev) (k:=kd) (pos:=kp) (wpAny_bind (wpAny_holding (E5 (he _ _ _ _ {s with toks:=s.toks+1} _ _ f ?_))))));refine aq.AE (W:=Z) (V:=aF c) (Q:=Q) (k:=λ v J=>((W Y J).bind λ S J=> .ok (v::S) J).bind K) T (aq.ext (R:=s.toks+1) (h:=s.heap) .refl p) ?_;intro v X O tk U H m f' r p;haveI u:=m.off (by simp[addrs]) hz;obtain@⟨g1,g2,g3⟩:=f'.N (d,od) (show(d,od)∈(U.br++U.cl)++(U.fz++([(d,od)]++c.fr))by simp);haveI hm:O.DictOf (strKind c.prog c.w) d kvs:=Heap.dictOf_iff.mpr ⟨od,g1,o⟩;haveI a:=i.length;refine wpAny_bind (wpAny_holding (wpAny_dictSet_pairs (k:=x) (key:= .str x s.toks) (by show Value.isStrOf x (.str x s.toks)=true;simp[Value.isStrOf]) hm (λ h2 bv be=>wpAny_pure ?_) (dY (by simp at M;exact"`X4BUjlmd`AFc%z6~gy8$" M a))));refine bf λ cr t=>?_;obtain⟨h,ce,g⟩:=Heap.dictOf_iff.mp bv;haveI z:=m.out.lr T;haveI f2:=f'.vA be ce u (by simpa using ch) z.plus;obtain@⟨@db,@ds,_,_,_,_,I⟩:=id o;haveI ad:=(i.up m.up).stored nd hx r I;have q:=List.nodup_cons.mp hk;have C:=L k (.head _);refine t ?_;refine ih (od:=h) (acc:=bj k v acc) (kvs:=stored kvs x H) (K:=λ S J=>K (v::S) J) f2 z nd u g ad (λ k' j=>?_) q.2 ?_ ?_ ?_;.rw[iO C];refine jM (L k' (.tail _ j)) ?_;unfold aQ;rw[if_neg (show¬k=k' by rintro rfl;exact q.1 j)];rfl
   .rw[iO C];simp only[List.length_append,List.length_cons,List.length_nil]at M⊢;exact"CeSEd=b#maMIvqO21a%" M
   .rw[Res.bind_assoc]at p;exact aq.ext .refl p
   .intro S ci h3 N bn F y x3 f3 bd bi G p3;refine P (v::S) ci h3 N bn F y (m.trans (x3.re (by simp[addrs]))) f3 bd ?_ (by simp[G]) p3;rw[BV (P:=c.P) (K:=c.nt) C];exact bi
end
section
variable{c:Cx}{G T F:Loc->Hp->Res V}{U:Loc->Hp->Res (List V)}{e l r:Expr}{H:List Expr}{Z N:Loc}{J Y:Hp}{W O:Zs}{h X:Heap}{s:Shared}{E:Value->Shared->Prop}{g L:Led}{I R:Option Cm}
theorem qP{w:Pos}{Q:Value->Shared->Prop}:∀{A:List Nat}{U:Loc->Hp->Res (List V)}{j:List (Sem Value×Sem Value)},yA c w A U j->∀{J:Hp}{W:Zs}{s:Shared}{K:List V->Hp->Res V}{C:List (Value×Value)->Shared->Prop},FS (c.sub g c.cm) Z J W s.heap->cB c Z W->aq c (aF c) Z W s Q E ((U Z J).bind K)->(∀P Y X y O B kvs,Ext (c.sub g c.cm) W O->FS (c.sub g c.cm) Z Y O X->Carries (strKind c.prog c.w) B kvs->yo c O (A.zip P) kvs->P.length=A.length->aq c (aF c) Z O (bq s X y) Q E (K P Y)->C B (bq s X y))->wpAny (model c.prog c.w) c.A (evalPairs j) C E s:=by intro A U j D;induction D with|nil=>intro J W s K C f z p M;exact evalPairs_nil (M [] J s.heap s.toks W [] [] .refl f trivial .nil rfl p)|@cons k x n i G e A U j a N D R=>intro J W s K C f z p M;rw[Res.bind_assoc]at p;refine evalPairs_cons (wpAny_Constant_str (env:=c.ev) (k:=n) (pos:=i) (E5 (N _ _ _ _ {s with toks:=s.toks+1} _ _ f ?_)));refine aq.AE (W:=W) (V:=aF c) (Q:=Q) (k:=λ v J=>((U Z J).bind λ P J=> .ok (v::P) J).bind K) z (aq.ext (R:=s.toks+1) (h:=s.heap) .refl p) ?_;intro v Y X y O S t m r p;rw[Res.bind_assoc]at p;refine R (K:=λ P J=>K (v::P) J) m (t.out.lr z) p ?_;intro P u h2 d q B kvs o L I T b H;refine M (v::P) u h2 d q ((.str x s.toks,S)::B) ((x,S)::kvs) (t.trans o) L ⟨by show Value.isStrOf x (.str x s.toks)=true;simp[Value.isStrOf],rfl,I⟩ ?_ (by simp[b]) H;rw[List.zip_cons_cons];exact .cons a (r.up o.up) T
theorem KR.mem{P:Params}{D:List Str}{C:Led}{B:List Addr}{Q:List (Nat×V)}:∀{kvs:List (Str×Value)},KR P D C B Q kvs->∀{x:Str},x∈kvs.map (·.1)->∃f∈Q.map (·.1),D[f]?=some x:=by
 induction Q with
  |nil=>rintro _ rfl _ h;exact nomatch h
  |cons p Q S=>
   rintro _⟨x,K,kvs,rfl,h1,h2,A⟩y h;rcases List.mem_cons.mp h with rfl|h;.exact⟨p.1,.head _,h1⟩
   .obtain@⟨@M,q,e⟩:=S A h;exact⟨M,.tail _ q,e⟩
theorem KR.keys{P:Params}{D:List Str}{y:Led}{j:List Addr}(A:D.Nodup){Q:List (Nat×V)}:∀{kvs:List (Str×Value)},KR P D y j Q kvs->(Q.map (·.1)).Nodup->(kvs.map (·.1)).Nodup:=by induction Q with|nil=>rintro _ rfl _;exact .nil|cons p Q C=>rintro _⟨x,S,kvs,rfl,h1,h2,K⟩h;have h:=List.nodup_cons.mp h;refine List.nodup_cons.mpr ⟨λ q=>?_,C K h.2⟩;obtain@⟨@B,M,e⟩:=K.mem q;haveI z:p.1=B:=k7 A h1 e;exact h.1 (by show p.1∈_;rw[z];exact M)
theorem ly:∀{Q:List Nat}{D:List V},D.length=Q.length->(Q.zip D).map (·.1)=Q:=kE
theorem BW(V:aC c)(f:FS c Z J W h):3<h.objs.size:=by obtain@⟨@Q,@D,@K,o,_⟩:=(f.T V).g.keeps f.F.keep;exact Heap.lt_size o
theorem oa{Q:List (Sem Value×Sem Value)}(h:¬Q.length<=15):subDict Q=(do
 let d<-alloc {cls:= .type "dict",data:= .dict #[]}
 holding [.ref d] (do
  rule "dict.display.long"
  forIn Q PUnit.unit λ(p:Sem Value×Sem Value)(_:PUnit)=>(do
   let kv<-p.1
   let vv<-holding [kv] p.2
   holding [kv,vv] (dictSet d kv vv)
   pure (ForInStep.yield PUnit.unit):Sem (ForInStep PUnit))
  pure ())
 pure d):=by unfold subDict;simp only[h,if_false]
theorem BX(ok:aC c){G:Nat}{U:List (Option Expr)}{z:List Expr}{w:Pos}{M S:List Nat}{ci ad:Loc->Hp->Res (List V)}{H a:List (Sem Value×Sem Value)}{q:Sem Value×Sem Value}(F:(evalEachOpt U c.ev).zip ((evalEach z c.ev).map λ v=>do
 let x<-v;
 standAt w;
 pure x)=(H++[q]++a).map λ p=>(some p.1,p.2))(h1:H.length=16)(h0:a≠[])(h2:a.length<=15)(D1:yA c w M ci (H++[q]))(D2:yA c w S ad a)(hk:(M++S).Nodup)(dL:M≠[])(R:(M++S).length<=40):aX c (λ Z J=>(ci Z J).bind λ B J=>(ad Z J).bind λ A J=>if(M++S).length=(B++A).length then .ok (.ref G J.nx) (J.new G (.dict ((M++S).zip (B++A))))else .stuck) (.Dict U z w):=by
 intro Z J W s Q E f p;rw[arm_eval_Dict,F,jl _ _ _ h1 h0 h2];obtain@⟨tz,ga,wP⟩:=List.nodup_append.mp hk;haveI lw:=BW ok f;have n:s.heap.objs.size∉addrs c.fr:=λ q=>by refine of_addrs q λ p J e=>?_;exact f.fresh p (by simp[J]) e
 have I:s.heap.objs.size∉addrs W.fz:=λ q=>by refine of_addrs q λ p J e=>?_;exact f.fresh p (by simp[J]) e
 haveI io:({cls:= .type "dict",data:= .dict #[]}:Obj).IsDictOf (strKind c.prog c.w) []:=by refine bf λ N C=>?_;obtain⟨o,ho,hd⟩:=Heap.dictOf_iff.mp (Heap.DictOf.new (knd:=strKind c.prog c.w) s.heap);rw[Heap.get?_push_size _ rfl]at ho;cases ho;refine C ?_;exact hd
 haveI N0:=f.N.push f.F ({cls:= .type "dict",data:= .dict #[]}:Obj);haveI f0:FS (c.sub [(s.heap.objs.size,{cls:= .type "dict",data:= .dict #[]})] c.cm) Z J W (s.heap.push {cls:= .type "dict",data:= .dict #[]}):=f.into (f.F.push _) (λ p J=>N0 p (by simp only[Zs.all,List.mem_append,List.mem_cons]at J⊢;grind)) (λ p J q=>by rw[List.mem_singleton.mp J]at q;refine of_addrs q λ p' Y e=>?_;exact f.fresh p' (List.mem_append_left _ Y) e) f.lr.plus;refine wpAny_bind (wpAny_standAt (wpAny_bind ?_));rw[oa (by simp[h1])];refine wpAny_bind (wpAny_alloc (wpAny_bind (wpAny_holding ?_)));refine wpAny_bind (wpAny_rule (wpAny_bind ?_));refine t7 (Q:=Q) (l:=w) (K:=λ B J=>(ad Z J).bind λ A J=>if(M++S).length=(B++A).length then .ok (.ref G J.nx) (J.new G (.dict ((M++S).zip (B++A))))else .stuck) n D1 (acc:=[]) (kvs:=[]) f0 f.lr ok.nt I io .nil (λ _ _=>rfl) tz (by simp at R⊢;exact"*sr&O_R]OZQtj&" R) (aq.ext .refl p) ?_;intro B ut P xz j K y x1 O pp L m p;refine wpAny_pure (wpAny_pure (wpAny_bind (wpAny_holding ?_)));generalize wv:s.heap.objs.size=d at f0 n I x1 O;have bd:=x1.out.lr f.lr;haveI sB:=x1.off (by simp[addrs]) I;have X:d<P.objs.size:=Heap.lt_size (O.N (d,K) (show(d,K)∈(j.br++j.cl)++(j.fz++([(d,K)]++c.fr))by simp)).1;haveI xL:aC (c.sub [(d,K)] c.cm):=ok.plus;haveI N2:=News.push O.F O.N ({cls:= .type "dict",data:= .dict #[]}:Obj);haveI f2:FS (c.sub [(P.objs.size,{cls:= .type "dict",data:= .dict #[]}),(d,K)] c.cm) Z ut j (P.push {cls:= .type "dict",data:= .dict #[]}):=FS.into (c:=c.sub [(d,K)] c.cm) (g:=[(P.objs.size,{cls:= .type "dict",data:= .dict #[]})]) (I:=c.cm) O (O.F.push _) (λ p J=>N2 p (by simp only[Zs.all,List.mem_append,List.mem_cons]at J⊢;grind)) (λ p J q=>by rw[List.mem_singleton.mp J]at q;refine of_addrs q λ p' Y e=>?_;exact O.fresh p' (List.mem_append_left _ Y) e) (show cB (c.sub [(P.objs.size,_),(d,K)] c.cm) Z j from bd.plus);refine wpAny_subDict (knd:=strKind c.prog c.w) h2 ?_;refine qP (Q:=Q) (K:=λ A J=>if(M++S).length=(B++A).length then .ok (.ref G J.nx) (J.new G (.dict ((M++S).zip (B++A))))else .stuck) D2 f2 bd (aq.ext .refl p) ?_;intro A T zn zs D xs k x2 f2 hc l g p;have t:=x2.out.lr bd;have be:d∉addrs D.fz:=x2.off (by simp[addrs]) sB;haveI ww:(d,K)∈(D.br++D.cl)++(D.fz++([(P.objs.size,{cls:= .type "dict",data:= .dict #[]}),(d,K)]++c.fr)):=by simp
 have ul:(P.objs.size,({cls:= .type "dict",data:= .dict #[]}:Obj))∈(D.br++D.cl)++(D.fz++([(P.objs.size,{cls:= .type "dict",data:= .dict #[]}),(d,K)]++c.fr)):=by simp
 refine⟨k,hc,?_,λ h3 r ge=>?_⟩;.refine bf λ N C=>?_;obtain⟨o,ho,hd⟩:=Heap.dictOf_iff.mp (Heap.DictOf.new (knd:=strKind c.prog c.w) P);rw[Heap.get?_push_size _ rfl]at ho;cases ho;refine C ?_;exact Heap.dictOf_iff.mpr ⟨_,(f2.N _ ul).1,hd⟩
 .
  have wr:=l.keys ok.nt (by rw[ly g];exact ga);rw[merged_nil_of_nodup _ wr]at r;obtain@⟨@o3,pc,wS⟩:=Heap.dictOf_iff.mp r;have bi:∀p∈(j.br++j.cl)++(j.fz++([(d,K)]++c.fr)),p.1≠P.objs.size:=O.fresh;have wf:P.objs.size∉addrs j.fz:=λ q=>by refine of_addrs q λ p J e=>?_;exact bi p (by simp[J]) e
  have sw:P.objs.size∉addrs ([(d,K)]++c.fr):=λ q=>by refine of_addrs q λ p J e=>?_;exact bi p (List.mem_append_right _ (List.mem_append_right _ J)) e
  haveI f3:FS (c.sub [(P.objs.size,o3),(d,K)] c.cm) Z T D h3:=FS.vA (g:=[(d,K)]) f2 ge pc (x2.off (by simp[addrs]) wf) sw t.plus;have f4:FS (c.sub [(d,K)] c.cm) Z T D h3:=FS.out (c:=c.sub [(d,K)] c.cm) (g:=[(P.objs.size,o3)]) f3 t.plus;haveI ch:d≠P.objs.size:=Nat.ne_of_lt X;haveI wn:h3.get? d=some K:=(f4.N (d,K) (show(d,K)∈(D.br++D.cl)++(D.fz++([(d,K)]++c.fr))by simp)).1;have ce:h3.DictOf (strKind c.prog c.w) d y:=Heap.dictOf_iff.mpr ⟨K,wn,pp⟩;have l1:=L.length;have l2:=l.length;rw[List.nil_append]at L l1;rw[List.length_zip]at l1 l2;have bn:y≠[]:=λ q=>by rw[q,List.length_nil]at l1;have:0<M.length:=List.length_pos_iff.mpr dL;exact"XEf2FhD&7cfRYE`Ww#4'" [_,_,min M.length B.length] [] rfl m l1 this
  have ds:M.length+S.length<=40:=by simpa using R
  refine wpAny_bind (wpAny_onRaise (wpAny_holding (vw (J:=strKind c.prog c.w) ch (by
   have:P.objs.size≠1:=by exact"MufC$x>;B=}~~V)]%" lw wv X
   simpa[sysModules]using this) ce bn r (λ h5 cr ty=>wpAny_pure ?_) (dY (by exact"i'XYz`/&].S%A|EC)qn4^_976%A!C4yRv)DIyZ'p_w$~At2lS$tdf_p<5oo7F" [_,_,_,_,min M.length B.length,_,_,min S.length A.length] [] rfl rfl l1 l2 ds)))));have db:yo c D (M.zip B++S.zip A) (y++k):=(L.up x2.up).append l;have sK:((y++k).map (·.1)).Nodup:=db.keys ok.nt (by rw[List.map_append,ly m,ly g];exact hk);rw[merged_append_of_fresh _ _ sK]at cr;obtain⟨o5,wp,na⟩:=Heap.dictOf_iff.mp cr;have f5:FS (c.sub [(d,o5)] c.cm) Z T D h5:=FS.vA (g:=[]) f4 ty wp be (by simpa using n) t.plus;have f6:=FS.out f5 t;have bv:(M++S).length=(B++A).length:=by simp[m,g]
  rw[if_pos bv]at p;have ha:∀p∈D.all c,p.1≠d:=λ p J e=>by
   refine bf λ N C=>?_;rcases List.mem_append.mp J with J|J;.refine C ?_;exact f5.ap.off p.1 (ah J) (show p.1∈addrs (D.fz++([(d,o5)]++c.fr))by rw[e];exact ah (p:=(d,o5)) (by simp))
   .
    rcases List.mem_append.mp J with J|J;.refine C ?_;exact be (e▸ah J)
    .refine C ?_;exact n (e▸ah J)
  have u:Up D.fz D.fz D.ρ (D.ρ++[d]):=⟨λ _ h=>h,λ i b e=>by obtain⟨h,_⟩:=List.getElem?_eq_some_iff.mp e;rw[List.getElem?_append_left h];exact e⟩;refine f6.n4 (a:=d) (o:=o5) (B:=G) (R:= .dict ((M++S).zip (B++A))) (x:=d) (X:=D.fz) f6.F (λ p J=>by
   rcases List.mem_cons.mp J with rfl|J;.exact f5.N (d,o5) (show(d,o5)∈(D.br++D.cl)++(D.fz++([(d,o5)]++c.fr))by simp)
   .exact f6.N p J) ha ⟨[],rfl,λ _ h=>nomatch h⟩ (.dict (by simp) na (by rw[List.zip_append m.symm];exact db.up u)) λ wE f7 x7 r7=>?_;exact p _ _ _ _ x7 f7 r7
end
abbrev HQ(a b:Int)(t u v:Tok):Obj:={cls:= .type "range",dict:=none,data:= .fields #[.int a t,.int b u,.int 1 v],slots:=#[]}
abbrev Kk(x J:Int):Obj:={cls:= .type "range_iterator",dict:=none,data:= .fields #[rawInt x,rawInt J,rawInt 1],slots:=#[]}
def BY(P:Params)(U:List Str)(J:Led)(Y:List Addr)(v:V)(x:Value):Prop:=∃l,v= .lst l/\((∃a Z n,x= .ref a/\(a,aS Z n)∈J/\bY P U J Y l Z/\Z.length<=lid)\/(∃r a b t u w,x= .ref r/\(r,HQ a b t u w)∈J/\l=ao a b/\b-a<=1000/\small a=true/\small b=true))
abbrev mA(c:Cx)(J:Zs):V->Value->Prop:=BY c.P c.nt J.fz J.ρ
abbrev d0(c:Cx)(J:Loc->Hp->Res V)(e:Expr):Prop:=Ay c (mA c) J (eval e c.ev)
def jm(P:Params)(W:List Str)(Y:Led)(U:List Addr)(I:Addr)(l:List V)(i:Nat)(o:Obj):Prop:=(∃J Z n,(J,aS Z n)∈Y/\J≠I/\bY P W Y U l Z/\Z.length<=lid/\o.cls= .type "list_iterator"/\o.data= .fields #[.ref J,.int i 0])\/(∃a:Int,(∀j,j<l.length->l[j]?=some (.int (a+(j:Int))))/\l.length<=lid/\o=Kk (a+(i:Int)) ((l.length:Int)-(i:Int)))
abbrev vB(c:Cx)(J:Zs):Addr->List V->Nat->Obj->Prop:=jm c.P c.nt J.fz J.ρ
theorem jm.up{P:Params}{U:List Str}{Q Y:Led}{W Z:List Addr}{I:Addr}{l:List V}{i:Nat}{o:Obj}(u:Up Q Y W Z)(h:jm P U Q W I l i o):jm P U Y Z I l i o:=by
 refine bf λ O J=>?_;rcases h with⟨X,N,n,h1,h2,D,R⟩|h;.refine J ?_;exact .inl ⟨X,N,n,u.objs _ h1,h2,D.up u,R⟩
 .refine J ?_;exact .inr h
theorem jm.len{P:Params}{O:List Str}{Q:Led}{Y:List Addr}{I:Addr}{l:List V}{i:Nat}{o:Obj}(h:jm P O Q Y I l i o):l.length<=lid:=by
 refine bf λ Z J=>?_;rcases h with⟨X,N,n,h1,h2,U,W,_⟩|⟨_,_,h,_⟩;.refine J ?_;rw[<-U.length];exact W
 .refine J ?_;exact h
section
variable{J:Program}{w:World}{A:Around}{E:Value->Shared->Prop}{s:Shared}{P:Params}{U:List Str}{Z:Led}{Y:List Addr}{I:Addr}{l:List V}{i:Nat}{o:Obj}
theorem r9{Q:Option Value->Shared->Prop}(j:A.handled=none)(G:i<l.length)(f:jm P U Z Y I l i o)(C:s.heap.get? I=some o)(u:∀p∈Z,s.heap.get? p.1=some p.2)(h:∀v W O N K,l[i]?=some v->VR P U Z Y v W->O.get? I=some K->jm P U Z Y I l (i+1) K->(∀b x,b∉[I]->s.heap.get? b=some x->O.get? b=some x)->Q (some W) (bq s O N)):wpAny (model J w) A (pyNext (.ref I)) Q E s:=by
 refine bf λ z V=>?_;rcases f with⟨B,D,n,h1,h2,F,q,y,g⟩|⟨a,h1,h2,rfl⟩;.
  haveI X:=F.length;refine V ?_;refine(Walks.list j I B h2 D.toArray).item i s Q E (by simpa[X]using G) ⟨⟨o,C,y,g⟩,⟨_,u _ h1,rfl,n,rfl⟩⟩ λ W O N L H M=>?_;obtain@⟨@K,T,d,r⟩:=H.1;haveI S:∃v,l[i]?=some v:=⟨l[i],List.getElem?_eq_getElem G⟩;obtain⟨v,R⟩:=S;refine F.get R λ x k c=>?_;haveI:x=W:=by
   haveI e:D.toArray[i]?=D[i]?:=by simp
   rw[e,k]at L;exact Option.some.inj L
  subst this;exact h v x O N K R c T (.inl ⟨B,D,n,h1,h2,F,q,d,r⟩) M
 .refine V ?_;refine(LCg.range_walks j a l.length).item i s Q E G (by show s.heap.get? I=_;rw[C];simp) λ W O N L H M=>?_;obtain⟨t,rfl⟩:=L;refine h (.int (a+(i:Int))) _ O N _ (h1 i G) .int H (.inr ⟨a,h1,h2,?_⟩) M;simp
theorem r_{Q:Option Value->Shared->Prop}(X:A.handled=none)(M:jm P U Z Y I l l.length o)(O:s.heap.get? I=some o)(L:∀p∈Z,s.heap.get? p.1=some p.2)(h:∀N T,(∀b x,b∉[I]->s.heap.get? b=some x->N.get? b=some x)->Q none (bq s N T)):wpAny (model J w) A (pyNext (.ref I)) Q E s:=by
 refine bf λ R W=>?_;rcases M with⟨D,G,n,h1,h2,F,S,K,H⟩|⟨a,h1,h2,rfl⟩;.haveI V:=F.length;refine W ?_;refine(Walks.list X I D h2 G.toArray).done s Q E ⟨⟨o,O,K,by simpa[V]using H⟩,⟨_,L _ h1,rfl,n,rfl⟩⟩ h
 .refine W ?_;exact(LCg.range_walks X a l.length).done s Q E (by show s.heap.get? I=_;rw[O];simp) h
theorem yB{Q:Value->Shared->Prop}(O:A.handled=none)(L:jm P U Z Y I l i o)(V:s.heap.get? I=some o)(G:∀p∈Z,s.heap.get? p.1=some p.2)(h:Q (.ref I) s):wpAny (model J w) A (pyIter (.ref I)) Q E s:=by
 refine bf λ X W=>?_;rcases L with⟨N,R,n,h1,h2,H,T,D,K⟩|⟨a,h1,h2,rfl⟩;.refine W ?_;exact(Walks.list O I N h2 R.toArray).self i s Q E ⟨⟨o,V,D,K⟩,⟨_,G _ h1,rfl,n,rfl⟩⟩ h
 .refine W ?_;exact(LCg.range_walks O a l.length).self i s Q E (by show s.heap.get? I=_;rw[V];simp) h
end
section
variable{c:Cx}{W O H:Loc->Hp->Res V}{D:Loc->Hp->Res (List V)}{e l r:Expr}{T:List Expr}{J R:Loc}{Z U:Hp}{Y N:Zs}{h X:Heap}{s:Shared}{E:Value->Shared->Prop}{g L:Led}{K G:Option Cm}
theorem lz{i:Int}(h:small i=true):Builtin.Range.rangeFitsLong i=true:=by unfold small at h;haveI:=of_decide_eq_true h;unfold Builtin.Range.rangeFitsLong;rw[Bool.and_eq_true,decide_eq_true_eq,decide_eq_true_eq];exact⟨Bp this,Bq this⟩
theorem eF(a b:Int):(ao a b).length=(b-a).toNat:=by simp[ao]
theorem qQ(a b:Int)(j:Nat)(h:j<(ao a b).length):(ao a b)[j]?=some (.int (a+(j:Int))):=by rw[eF]at h;simp[ao,h]
theorem rangeSize_one (a b : Int) : Builtin.Range.rangeSize a b 1 = (((b - a).toNat : Nat) : Int) := by
 show (if 1 > 0 then if a < b then (b - a - 1) / 1 + 1 else 0 else if a > b then (a - b - 1) / -1 + 1 else 0) = _;rw [if_pos (by decide)];by_cases h : a < b;. rw [if_pos h];exact Bv h
 . rw [if_neg h];exact Bw h
theorem pH{v:V}{x:Value}{M:Value->Shared->Prop}(f:FS c J Z Y s.heap)(r:mA c Y v x)(h:∀l X I o,v= .lst l->FS (c.sub [(I,o)] c.cm) J Z Y X->vB c Y I l 0 o->I∉addrs Y.fz->I∉addrs c.fr->M (.ref I) {s with heap:=X}):wpAny (model c.prog c.w) c.A (pyIter x) M E s:=by
 haveI Q:∀(l:List V)(o:Obj),o.isFreed=false->v= .lst l->vB c Y s.heap.objs.size l 0 o->M (.ref s.heap.objs.size) {s with heap:=s.heap.push o}:=λ l o F y i=>by
  haveI W:=f.N.push f.F o F;refine h l _ _ o y (f.into (f.F.push _) (λ p Z=>W p (by simp only[Zs.all,List.mem_append,List.mem_cons]at Z⊢;grind)) (λ p Z q=>by rw[List.mem_singleton.mp Z]at q;refine of_addrs q λ k U e=>?_;exact f.fresh k (List.mem_append_left _ U) e) f.lr.plus) i (λ q=>?_) (λ q=>?_);.refine of_addrs q λ p Z e=>?_;exact f.fresh p (by simp[Z]) e
  .refine of_addrs q λ p Z e=>?_;exact f.fresh p (by simp[Z]) e
 obtain⟨l,rfl,⟨a,S,n,rfl,h1,h2,P⟩|⟨r,a,b,t,u,w,rfl,h1,rfl,h2,P,z⟩⟩:=r;.refine wpAny_pyIter_list (lst_is f.N (f.iP h1)) (Q l _ rfl rfl (.inl ⟨a,S,n,h1,?_,h2,P,rfl,rfl⟩));exact f.fresh (a,aS S n) (by simp[h1])
 .
  haveI d:IsRange s.heap r a b 1 t u w:=(f.N _ (f.iP h1)).1;haveI B:=rangeSize_one a b;haveI N:=lz P;haveI A:=lz z;haveI m:Builtin.Range.small a b 1=true:=by
   unfold Builtin.Range.small;haveI C:Builtin.Range.rangeFitsLong 1=true:=by decide
   haveI O:Builtin.Range.rangeFitsLong (Builtin.Range.rangeSize a b 1)=true:=by rw[B];unfold Builtin.Range.rangeFitsLong;rw[Bool.and_eq_true,decide_eq_true_eq,decide_eq_true_eq];exact⟨Int.le_trans (by decide) (Int.natCast_nonneg _),iF (Int.toNat_le.mpr h2)⟩
   haveI j:Builtin.Range.rangeFitsLong (b+(1-1))=true:=by simpa using A
   simp[N,A,C,O,j]
  refine wpAny_pyIter_range d m (Q (ao a b) _ rfl rfl (.inr ⟨a,qQ a b,?_,?_⟩));.rw[eF];show _<=1000;exact":CH4A*vtmhN9SIEC<l;5j}E3|I/" rfl h2
  .rw[B,eF];simp
theorem src_list(h1:aX c W e):d0 c (λ J Z=>(W J Z).bind λ o Z=>match o with|.lst l=> .ok (.lst l) Z|_=> .stuck) e:=by intro J Z Y s Q E f p;refine h1 _ _ _ _ _ _ f (p.bind λ v U X A N V S I r p=>?_);cases v with|lst _=>obtain⟨_,_,_,rfl,M,P,F⟩:=r;exact p.here I ⟨_,rfl,.inl ⟨_,_,_,rfl,M,F,P⟩⟩|_=>exact p.elim
theorem AH{Q:Value->Shared->Prop}{a b:Int}{t u v:Tok}{I:Nat}(f:FS c J Z Y s.heap)(V:b-a<=1000/\small a=true/\small b=true)(p:aq c (mA c) J Y s Q E (.ok (.lst (ao a b)) Z)):Q (.ref s.heap.objs.size) (bq s (s.heap.push (HQ a b t u v)) I):=by obtain@⟨F,x⟩:=f.Ec (f.F.push (HQ a b t u v)) (f.N.push f.F (HQ a b t u v)) f.fresh;exact p _ I _ _ x F ⟨_,rfl,.inr ⟨_,a,b,t,u,v,rfl,.head _,rfl,V.1,V.2.1,V.2.2⟩⟩
abbrev jo(a b:V)(Z:Hp):Res V:=match a,b with|.int i,.int j=>if j-i<=1000/\small i=true/\small j=true then .ok (.lst (ao i j)) Z else .stuck|_,_=> .stuck
set_option tactic.hygienic true in theorem qR(v:aC c){n:Str}{t S:Pos}(x:cx c n (.type "range")=true)(u:notStar e=true)(F:notStar r=true)(h1:aX c W e)(h2:aX c O r):d0 c (λ J Z=>(W J Z).bind λ a Z=>(O J Z).bind λ b Z=>jo a b Z) (.Call (.Name n t) [e,r] [] S):=by
 intro J Z Y s Q E f p;refine qK (H:=mA c) v x (λ a q=>by cases q) (by simp[u,F]) (bC u h1 (bC F h2 c8)) (by intro q;cases q) f (K:=λ z Z=>match z with|[a,b]=>jo a b Z|_=> .stuck) (by simp only[Res.bind_assoc];exact p) ?_;intro z I A C V y U o B m p;split at p;.
  rename_i a b;refine m.two λ X N P k d=>?_;subst P;cases a with
   |int i=>
    refine bf λ w M=>?_;cases b with
     |int j=>
      obtain⟨_,rfl⟩:=k;obtain⟨_,rfl⟩:=d;by_cases q:j-i<=1000/\small i=true/\small j=true;.haveI p:aq c (mA c) J V _ Q E (if j-i<=1000/\small i=true/\small j=true then Res.ok (.lst (ao i j)) I else .stuck):=p;rw[if_pos q]at p;refine M ?_;exact call_range_2 (AH (s:=(bq s A C)) B q p)
      .haveI p:aq c (mA c) J V _ Q E (if j-i<=1000/\small i=true/\small j=true then Res.ok (.lst (ao i j)) I else .stuck):=p;rw[if_neg q]at p;exact p.elim
     |_=>exact p.elim
   |_=>exact p.elim
 .exact p.elim
set_option tactic.hygienic true in theorem qS(u:aC c){n:Str}{v S:Pos}(t:cx c n (.type "range")=true)(M:notStar r=true)(h2:aX c O r):d0 c (λ J Z=>(Res.ok (V.int 0) Z).bind λ a Z=>(O J Z).bind λ b Z=>jo a b Z) (.Call (.Name n v) [r] [] S):=by
 intro J Z Y s Q E f p;refine qK (H:=mA c) u t (λ a q=>by cases q) (by simp[M]) (bC M h2 c8) (by intro q;cases q) f (K:=λ z Z=>match z with|[b]=>jo (.int 0) b Z|_=> .stuck) (by simp only[Res.bind_assoc];exact p) ?_;intro z F A C I y o k B d p;split at p;.
  rename_i b;refine d.one λ i P w=>?_;subst P;cases b with
   |int j=>
    obtain⟨_,rfl⟩:=w;by_cases q:j-0<=1000/\small 0=true/\small j=true;.haveI p:aq c (mA c) J I _ Q E (if j-0<=1000/\small 0=true/\small j=true then Res.ok (.lst (ao 0 j)) F else .stuck):=p;rw[if_pos q]at p;exact call_range_1 (AH (s:=(bq s A C)) B q p)
    .haveI p:aq c (mA c) J I _ Q E (if j-0<=1000/\small 0=true/\small j=true then Res.ok (.lst (ao 0 j)) F else .stuck):=p;rw[if_neg q]at p;exact p.elim
   |_=>exact p.elim
 .exact p.elim
end
/-! names within a comprehension -/
abbrev f_(J:Env)(p:Str×NameKind):Str×NameKind:=if(p.2== .free&&J.scope.kind== .function&&J.kindOf p.1==some .cell)then(p.1,.cell)else(p.1,p.2)
theorem vC(J:Env)(p:Str×NameKind):(f_ J p).1=p.1:=by unfold f_;split<;>rfl
theorem lB{Z:Env}:∀{J:List (Str×NameKind)}{x:Str},(J.map (f_ Z)).lookup x=(J.lookup x).map λ k=>(f_ Z (x,k)).2|[],_=>rfl|(n,k)::r,x=>by rw[List.map_cons];haveI e:f_ Z (n,k)=(n,(f_ Z (n,k)).2):=Prod.ext (vC Z (n,k)) rfl;rw[e,List.lookup_cons,List.lookup_cons];cases q:x==n with|true=>haveI:x=n:=eq_of_beq q;subst this;rfl|false=>exact lB
theorem jq{J:Scope}{Y:List (Str×Addr)}{C:Addr}{Z:Env}(x:Str):(compEnvC J Y C Z).kindOf x=(J.names.lookup x).map λ k=>(f_ Z (x,k)).2:=lB
theorem qT{J:Env}{x:Str}{k:NameKind}(h:(f_ J (x,k)).2= .local):k= .local:=by
 unfold f_ at h;split at h;.cases h
 .exact h
theorem t8{J:Env}{x:Str}{k:NameKind}(Z:k≠ .cell)(h:(f_ J (x,k)).2= .cell\/(f_ J (x,k)).2= .free):k= .free:=by
 unfold f_ at h;split at h;.rename_i q;simp only[Bool.and_eq_true,beq_iff_eq]at q;exact q.1.1
 .
  rcases h with h|h;.exact absurd h Z
  .exact h
theorem qU{Z:Env}(J:List (Str×NameKind)):∀(acc:List (Str×Addr)),(∀p∈J,p.2= .free->(Z.cells.lookup p.1).isSome=true)->∀{G:Prop},(∀W,(forIn J acc λ(x:Str×NameKind)(r:List (Str×Addr))=>(if x.2== .free then do
 let __do_lift<-cellOf Z x.1;
 pure (ForInStep.yield ((x.1,__do_lift)::r))else pure (ForInStep.yield r):Sem (ForInStep (List (Str×Addr)))))=pure W->(∀n a,acc.lookup n=some a->(∀b,Z.cells.lookup n=some b->b=a)->W.lookup n=some a)->(∀n a,(n,NameKind.free)∈J->Z.cells.lookup n=some a->(∀b,acc.lookup n=some b->b=a)->W.lookup n=some a)->G)->G:=by
 induction J with
  |nil=>exact λ acc _ G D=>D acc (List.forIn_nil) (λ n a h _=>h) (λ _ _ h=>nomatch h)
  |cons y r L=>
   intro acc h G D;by_cases R:(y.2== .free)=true;.
    obtain⟨a,N⟩:=Option.isSome_iff_exists.mp (h y (.head _) (eq_of_beq R));refine L ((y.1,a)::acc) (λ p I=>h p (.tail _ I)) λ W e h1 h2=>D W ?_ (λ Y O V U=>?_) (λ Y O V U K=>?_);.rw[List.forIn_cons,if_pos R,show cellOf Z y.1=pure a by unfold cellOf;rw[N]];exact e
    .refine h1 Y O ?_ U;rw[List.lookup_cons];cases q:Y==y.1 with|true=>rw[U a ((show Y=y.1 from eq_of_beq q)▸N)]|false=>exact V
    .
     by_cases Q:Y=y.1;.rw[Q,N]at U;cases U;refine h1 Y a ?_ (λ b X=>by rw[Q,N]at X;exact(Option.some.inj X).symm);rw[Q,List.lookup_cons,beq_self_eq_true]
     .
      refine h2 Y O ?_ U ?_;.
       rcases List.mem_cons.mp V with q|q;.exact absurd (congrArg Prod.fst q) Q
       .exact q
      .intro b X;rw[List.lookup_cons,beq_eq_false_iff_ne.mpr Q]at X;exact K b X
   .
    refine L acc (λ p I=>h p (.tail _ I)) λ W e h1 h2=>D W ?_ h1 (λ Y O V U K=>?_);.rw[List.forIn_cons,if_neg R];exact e
    .
     rcases List.mem_cons.mp V with q|q;.exact absurd (congrArg Prod.snd q▸rfl) R
     .exact h2 Y O q U K
theorem qV{J:Scope}{Z:Env}(h:∀p∈J.names,p.2= .free->(Z.cells.lookup p.1).isSome=true):∃Y,closureFor J Z=pure Y/\∀n a,(n,NameKind.free)∈J.names->Z.cells.lookup n=some a->Y.lookup n=some a:=by refine qU (Z:=Z) J.names [] h λ Y e _ h2=>?_;refine⟨Y,?_,λ n a U W=>h2 n a U W (λ b Q=>by cases Q)⟩;unfold closureFor;simp only[bind_pure];exact e
section
variable(J:Program)(w:World)(A:Around)(R:Result->Shared->Prop)(U Y:Expr)(W:List Expr)(Q acc:Value)(Z:Env)(I:Nat->Shared->Prop)
def CX:Value->Shared->Prop:=notedBy (model J w) A Z λ e V=>R (.error e) V
def E6(n:Nat)(N:Bool)(V:Shared):Prop:=if N=true then wpAny (model J w) A (eval U Z) (λ x X=>wpAny (model J w) A (call (.builtin "list.append") [acc,x]) (λ _ O=>∃m,m<n/\I m O) (CX J w A R Z) X) (CX J w A R Z) V else∃m,m<n/\I m V
def Kl(n:Nat)(V:Shared):Prop:=wpAny (model J w) A (forIn W true λ c r=>if r=true then do
 let X<-isTrue c Z (eval c Z);
 pure (ForInStep.yield X)else pure (ForInStep.yield r)) (λ X O=>E6 J w A R U acc Z I n X O) (CX J w A R Z) V
def Km(n:Nat)(v:Value)(X:Shared):Prop:=wpAny (model J w) A (letOwnedTupleGo Y Q v) (λ _ V=>wpAny (model J w) A (assign Y Z v) (λ _ O=>Kl J w A R U W acc Z I n O) (CX J w A R Z) V) (CX J w A R Z) X
def E7(n:Nat)(s:Shared):Prop:=wpAny (model J w) A (pyNext Q) (λ r V=>match r with|none=>R (.ok .next) V|some v=>Km J w A R U Y W Q acc Z I n v V) (CX J w A R Z) s
variable{J w A R U acc Z I}
theorem E6.ff{n:Nat}{s:Shared}(h:∃m,m<n/\I m s):E6 J w A R U acc Z I n false s:=h
theorem E6.tt{n:Nat}{s:Shared}(h:wpAny (model J w) A (eval U Z) (λ x O=>wpAny (model J w) A (call (.builtin "list.append") [acc,x]) (λ _ V=>∃m,m<n/\I m V) (CX J w A R Z) O) (CX J w A R Z) s):E6 J w A R U acc Z I n true s:=h
end
theorem oe{V:Program}{w:World}{A:Around}{R:Result->Shared->Prop}{s:Shared}{D J O:Expr}{X:List Expr}{Z:Scope}{T:Pos}{F acc:Value}{U:Env}(I:Nat->Shared->Prop)(K:∀n s,I n s->E7 V w A R D J X F acc U I n s)(n:Nat)(h:I n s):codeAny (model V w) A (.compLoop (.ListComp D [⟨J,O,X,0⟩] Z T) 0 F acc U) R s:=by
 refine codeAny_loop rfl I (λ n s z=>?_) n h;show wpAny _ A ((compTurn (.ListComp D [⟨J,O,X,0⟩] Z T) 0 F acc U).onRaise (λ x=>do
  noteFrame x U;
  theTreesLotGoes x)) _ _ s;refine wpAny_noted ?_;rw[compTurn_list];refine wpAny_bind (wpAny_standAt (wpAny_bind (wpAny_mono (K n s z) (λ r C W=>?_) λ _ _ Y=>Y)));cases r with|none=>exact wpAny_pure W|some v=>refine wpAny_bind (wpAny_mono W (λ _ M N=>?_) λ _ _ Y=>Y);refine wpAny_bind (wpAny_mono N (λ _ S H=>wpAny_bind (wpAny_mono H (λ j E Q=>?_) λ _ _ Y=>Y)) λ _ _ Y=>Y);cases j with|false=>exact wpAny_pure ⟨rfl,Q⟩|true=>exact wpAny_bind (wpAny_bind (wpAny_mono Q (λ x P G=>wpAny_bind (wpAny_mono G (λ _ B L=>wpAny_pure (wpAny_pure ⟨rfl,L⟩)) λ _ _ Y=>Y)) λ _ _ Y=>Y))
section
variable{c:Cx}{I K T:Loc->Hp->Res V}{D:Loc->Hp->Res (List V)}{e l r:Expr}{L:List Expr}{Y X U:Loc}{J N:Hp}{Z G:Zs}{h Q:Heap}{s:Shared}{E:Value->Shared->Prop}{g O:Led}{R W:Option Cm}
theorem FS.yC(f:FS (c.sub g R) U J Z h)(d:Addr)(k:∀b x,b∉[d]->h.get? b=some x->Q.get? b=some x)(n:d∈addrs g)(m:d∉addrs Z.fz)(t:d∉addrs c.fr)(B:∀p∈O,(p∈g/\p.1≠d)\/(p.1=d/\Q.get? d=some p.2))(i:cB (c.sub O W) Y Z):FS (c.sub O W) Y J Z Q:=by
 refine of_addrs n λ z S A=>?_;obtain⟨X,v,y⟩:=f.N z (show z∈(Z.br++Z.cl)++(Z.fz++(g++c.fr))by simp[S]);rw[A]at X v y;have w:∀p∈Z.br++Z.cl,p.1≠d:=λ p J e=>f.ap.off d (e▸ah J) (show d∈addrs (Z.fz++(g++c.fr))from A▸ah (p:=z) (by simp[S]));have H:∀p:Addr×Obj,p.1≠d->h.get? p.1=some p.2->Q.get? p.1=some p.2:=λ p F e=>k _ _ (by simpa using F) e;refine⟨f.B,f.D,LCg.fr_but f.F k (Ne.symm v) y,λ p J=>?_,f.R,⟨f.ap.once,λ a o q=>f.ap.off a o ?_⟩,i,f.fc⟩;.
  simp only[Zs.all,List.mem_append]at J;rcases J with J|J|J|J;.refine bf λ j V=>?_;obtain@⟨M,P⟩:=f.N p (List.mem_append_left _ (List.mem_append.mpr J));refine V ?_;exact⟨H p (w p (List.mem_append.mpr J)) M,P⟩
  .obtain@⟨M,P⟩:=f.N p (List.mem_append_right _ (List.mem_append_left _ J));exact⟨H p (eV m J) M,P⟩
  .
   refine bf λ j V=>?_;rcases B p J with⟨J,F⟩|⟨rfl,u⟩;.obtain@⟨M,P⟩:=f.N p (List.mem_append_right _ (List.mem_append_right _ (List.mem_append_left _ J)));refine V ?_;exact⟨H p F M,P⟩
   .refine V ?_;exact⟨u,v,y⟩
  .obtain@⟨M,P⟩:=f.N p (List.mem_append_right _ (List.mem_append_right _ (List.mem_append_right _ J)));exact⟨H p (eV t J) M,P⟩
 .
  refine of_addrs q λ p J C=>?_;subst C;simp only[List.mem_append]at J;rcases J with J|J|J;.exact ah (List.mem_append_left _ J)
  .
   rcases B p J with⟨J,F⟩|⟨u,_⟩;.exact ah (List.mem_append_right _ (List.mem_append_left _ J))
   .rw[u];exact A▸ah (p:=z) (List.mem_append_right _ (List.mem_append_left _ S))
  .exact ah (List.mem_append_right _ (List.mem_append_right _ J))
theorem pI{k:Nat}:∀{a b:List (Nat×V)},aQ k (a++b)=match aQ k a with|some v=>some v|none=>aQ k b
 |[],_=>rfl
 |(f,v)::a,b=>by
  show(if f=k then some v else aQ k (a++b))=match(if f=k then some v else aQ k a)with|some v=>some v|none=>aQ k b;by_cases q:f=k;.rw[if_pos q,if_pos q]
  .rw[if_neg q,if_neg q,pI]
theorem pJ{x:Nat}:∀{H:List Nat}{F:List V},F.length=H.length->aQ x (H.zip F)=none->x∉H
 |[],_,_,_=>by simp
 |t::H,v::F,hl,h=>by
  rw[List.zip_cons_cons]at h;unfold aQ at h;by_cases q:t=x;.rw[if_pos q]at h;cases h
  .rw[if_neg q]at h;haveI:=pJ (by simpa using hl) h;simp only[List.mem_cons,not_or];exact⟨Ne.symm q,this⟩
 |_::_,[],hl,_=>by simp at hl
theorem cB.comp{H:Scope}{A:List (Str×Addr)}{C:Addr}{G:Str->Option Value}{m:List Nat}{w:List Str}{b:List V}{S:List Value}(l:cB c Y Z)(L:c.cm=none)(O:c.nt.Nodup)(d:m.map (λ i=>c.nt[i]?)=w.map some)(hv:b7 c Z b S)(T:b.length=m.length)(hm:∀p∈w.zip S,G p.1=some p.2)(I:∀n∈w,H.names.lookup n=some .local)(u:∀n,H.names.lookup n=some .local->n∈w\/n∉c.nt)(j:∀n,H.names.lookup n≠some .cell)(y:∀n,H.names.lookup n=some .free->c.env.kindOf n=some .cell)(K:∀n a,H.names.lookup n=some .free->c.cells.lookup n=some a->A.lookup n=some a):cB (c.sub g (some ⟨H,A,C,G⟩)) (m.zip b++Y) Z:=by
 intro x v e;rw[pI]at e;haveI Q:∀n,(c.sub g (some ⟨H,A,C,G⟩)).ev.kindOf n=(H.names.lookup n).map λ k=>(f_ c.env (n,k)).2:=λ n=>jq n;cases q:aQ x (m.zip b)with
  |some v'=>rw[q]at e;cases e;obtain⟨n,B,h1,h2,r⟩:=pC d hv T q;haveI U:=I n (List.of_mem_zip h2).1;refine⟨n,h1,B,r,λ _=>hm _ h2,λ M=>?_⟩;rw[Q,U]at M;simp only[Option.map_some]at M;haveI:(f_ c.env (n,NameKind.local)).2= .local:=rfl;rw[this]at M;rcases M with M|M<;>cases M
  |none=>
   rw[q]at e;obtain⟨n,h1,B,h2,r,h⟩:=l x v e;refine⟨n,h1,B,h2,λ M=>?_,λ M=>?_⟩;.
    exfalso;rw[Q]at M;obtain⟨k,F,P⟩:=Option.map_eq_some_iff.mp M;haveI:=qT P;subst this;haveI U:n∈w:=by
     rcases u n F with z|z;.exact z
     .exact absurd (List.mem_of_getElem? h1) z
    haveI R:=pJ T q;obtain⟨i,hi⟩:=List.getElem?_of_mem U;haveI E:=congrArg (·[i]?) d;simp only[List.getElem?_map,hi,Option.map_some]at E;obtain⟨t,W,N⟩:=Option.map_eq_some_iff.mp E;haveI:=k7 O N h1;subst this;exact R (List.mem_of_getElem? W)
   .
    haveI X:∃k,H.names.lookup n=some k/\((f_ c.env (n,k)).2= .cell\/(f_ c.env (n,k)).2= .free):=by
     rw[Q]at M;rcases M with M|M;.obtain⟨k,F,P⟩:=Option.map_eq_some_iff.mp M;exact⟨k,F,.inl P⟩
     .obtain⟨k,F,P⟩:=Option.map_eq_some_iff.mp M;exact⟨k,F,.inr P⟩
    obtain⟨k,F,P⟩:=X;haveI D:=t8 (λ z=>j n (z▸F)) P;subst D;have J:=y n F;have f:c.ev=c.env:=by unfold Cx.ev;rw[L];rfl
    obtain@⟨@a,@o,s,k2,k3⟩:=h (.inl (by rw[f];exact J));rw[f]at s;refine⟨a,o,K n a F s,?_,k3⟩;simp only[List.mem_append]at k2⊢;grind
end
/-! the targets -/
def fF(e:Expr):Option {x:Str×Pos//e= .Name x.1 x.2}:=if h:e.ctorIdx=23 then some (Expr.Name.elim e h λ n p=>⟨(n,p),rfl⟩)else none
def j9(e:Expr):Option Str:=(fF e).map λ y=>y.1.1
theorem qW{e:Expr}{x:Str}(h:j9 e=some x){G:Prop}(J:∀p,e= .Name x p->G):G:=by unfold j9 at h;cases q:fF e with|none=>rw[q]at h;cases h|some y=>rw[q]at h;cases h;exact J _ y.2
def dO:List (Str×Value)->(Str->Option Value)->Str->Option Value|[],m=>m|(x,v)::r,m=>dO r λ y=>if y=x then some v else m y
theorem mB{y:Str}{l:List (Str×Value)}:∀{m:Str->Option Value},y∉l.map (·.1)->dO l m y=m y:=by induction l with|nil=>exact λ _=>rfl|cons p r J=>intro m h;rw[List.map_cons,List.mem_cons,not_or]at h;exact(J h.2).trans (if_neg h.1)
theorem pK{l:List (Str×Value)}:∀{m:Str->Option Value},(l.map (·.1)).Nodup->∀p∈l,dO l m p.1=some p.2:=by
 induction l with
  |nil=>exact λ _ _ h=>nomatch h
  |cons q r Y=>
   intro m J p Z;rw[List.map_cons,List.nodup_cons]at J;rcases List.mem_cons.mp Z with rfl|Z;.exact(mB J.1).trans (if_pos rfl)
   .exact Y J.2 p Z
theorem pL{V:Program}{w:World}{A:Around}{E:Value->Shared->Prop}{Z:Env}(H:(Z.scope.kind== .class||(Z.scope.kind== .module&&Z.locals !=Z.globals))=false):∀{U:List Expr}{Y:List Str}{J:List Value}{s:Shared}{R:Str->Option Value}{Q:Unit->Shared->Prop},U.map j9=Y.map some->J.length=Y.length->(∀n∈Y,Z.kindOf n=some .local)->s.heap.Ns Z.locals R->(∀O G,O.Ns Z.locals (dO (Y.zip J) R)->Heap.SameBut Z.locals s.heap O->Q () (bq s O G))->wpAny (model V w) A (assignInOrder ((assignEach U Z).map (·.2)) J) Q E s:=by
 intro U;induction U with
  |nil=>intro Y J s R Q N X T W h;cases Y with|cons _ _=>exact nomatch N|nil=>cases J with|cons _ _=>exact nomatch X|nil=>exact assignInOrder_nil (h s.heap s.toks W (Heap.SameBut.refl _ _))
  |cons e U M=>intro Y J s R Q N X T W h;cases Y with|nil=>exact nomatch N|cons n Y=>cases J with|nil=>exact nomatch X|cons v J=>obtain⟨h1,h2⟩:=List.cons.inj N;refine qW h1 λ S F=>?_;subst F;show wpAny _ _ (assignInOrder (assign (.Name n S) Z::(assignEach U Z).map (·.2)) (v::J)) _ _ _;refine assignInOrder_cons (wpAny_assign_Name (wpAny_storeName_local (T n (.head _)) W (λ P L K=>?_) H));exact M h2 (Nat.succ.inj X) (λ n W=>T n (.tail _ W)) L λ O G I D=>h O G I (K.trans D)
inductive t9(Y:List Str):Option Nat->List Nat->Expr->List Nat->List Str->Prop|one{X:Nat}{x:Str}{V:Pos}{J:List Nat}:Y[X]?=some x->t9 Y (some X) J (.Name x V) [X] [x]|tup{U:List Nat}{W:List Expr}{k:Nat}{Q:Pos}{Z:List Str}:U.map (λ i=>Y[i]?)=Z.map some->W.map j9=Z.map some->Z.Nodup->t9 Y none U (.Tuple W k Q) U Z
theorem t9.Io{U:List Str}{o:Option Nat}{J:List Nat}{e:Expr}{Y:List Nat}{Z:List Str}(h:t9 U o J e Y Z):Y.map (λ i=>U[i]?)=Z.map some/\Z.Nodup:=by cases h with|one h=>exact⟨by simp[h],by simp⟩|tup h1 h2 W=>exact⟨h1,W⟩
theorem pM{J:Env}{Y:List Expr}:∀{Z:List Str},Y.map j9=Z.map some->(assignEach Y J).length=Z.length/\(assignEach Y J).findIdx? (·.1)=none:=by
 induction Y with
  |nil=>intro Z U;cases Z with|nil=>exact⟨rfl,rfl⟩|cons _ _=>exact nomatch U
  |cons e Y W=>intro Z U;cases Z with|nil=>exact nomatch U|cons n Z=>obtain⟨h1,h2⟩:=List.cons.inj U;refine qW h1 λ V Q=>?_;subst Q;refine⟨congrArg (·+1) (W h2).1,?_⟩;show((false,assign (.Name n V) J)::assignEach Y J).findIdx? (·.1)=none;rw[List.findIdx?_cons,(W h2).2];rfl
theorem t_{R:Program}{w:World}{A:Around}{E:Value->Shared->Prop}{s:Shared}{J:Env}{P:Params}{B:List Str}{C:Led}{ρ:List Addr}{o:Option Nat}{U:List Nat}{e:Expr}{f:List Nat}{j:List Str}{I:Addr}{u:Obj}{l:List V}{i:Nat}{v:V}{N:Value}{K D:Loc}{m':Str->Option Value}(hh:A.handled=none)(T:t9 B o U e f j)(hp:(J.scope.kind== .class||(J.scope.kind== .module&&J.locals !=J.globals))=false)(hk:∀n∈j,J.kindOf n=some .local)(hn:s.heap.Ns J.locals m')(hz:∀p∈C,s.heap.get? p.1=some p.2)(it:jm P B C ρ I l (i+1) u)(m:s.heap.get? I=some u)(d:l[i]?=some v)(r:VR P B C ρ v N)(O:gA o U v K=some D):∃M Z,D=f.zip M++K/\bY P B C ρ M Z/\M.length=f.length/\∀{Q:Unit->Shared->Prop},(∀g tk,g.Ns J.locals (dO (j.zip Z) m')->(∀b x,b∉[J.locals]->s.heap.get? b=some x->g.get? b=some x)->Q () (bq s g tk))->wpAny (model R w) A (letOwnedTupleGo e (.ref I) N) (λ _ s'=>wpAny (model R w) A (assign e J N) Q E s') E s:=by
 refine bf λ S Y=>?_;cases T with
  |@one X x px _ hX=>cases O;refine Y ?_;refine⟨[v],[N],rfl,.cons r .nil,rfl,λ{Q}h=>?_⟩;show wpAny _ _ (pure ()) _ _ _;refine wpAny_pure (wpAny_assign_Name (wpAny_storeName_local (hk x (.head _)) hn (λ bd q t=>?_) hp));exact h bd _ q λ b y O e=>t.extBut b y (by simpa using O) e
  |@tup _ es k tp _ h1 h2 h3=>
   unfold gA at O;cases v with
    |tup M=>
     obtain@⟨@Z,@n,@a,(rfl),g1,g2,g3⟩:=r;simp only at O;split at O;.
      rename_i W;cases O;haveI H:=g3.length;haveI L:U.length=j.length:=by have:=congrArg List.length h1;simpa using this
      refine Y ?_;refine⟨M,Z,rfl,g3,W,λ{Q}h=>?_⟩;haveI G:∃z,s.heap.IsListIter I z (i+1):=by
       refine bf λ S Y=>?_;rcases it with⟨z,be,n',k1,k2,k3,k4,k5,k6⟩|⟨a',k1,k2,k3⟩;.refine Y ?_;exact⟨z,u,m,k5,k6⟩
       .have hi:i<l.length:=(List.getElem?_eq_some_iff.mp d).1;rw[k1 i hi]at d;cases d
      obtain@⟨@z,G⟩:=G;refine wpAny_letOwnedTupleGo_listiter G ?_;obtain@⟨e1,e2⟩:=pM (J:=J) h2;refine assign_Tuple_tuple hh (items:=Z.toArray) ⟨_,hz _ g1,rfl,n,rfl⟩ (by rw[e1,List.size_toArray];exact"#_$;oraT*yDp^HQo:5R$" W H L) e2 λ h4 he=>?_;haveI F:∀b x,s.heap.get? b=some x->h4.get? b=some x:=λ b x e=>he b x (Nat.ne_of_lt (Heap.lt_size e)) e;refine pL hp h2 (by simp;exact"bP}z](xhXk>n+`35$)R$" W H L) hk (hn.keeps F) λ h5 tk ad c=>?_;exact h h5 tk ad λ b x O e=>c.extBut b x (by simpa using O) (F b x e)
     .cases O
    |_=>cases O
structure E8(c:Cx)(J:Scope)(Z:List (Str×Addr))(Y:List Str):Prop where
 kind:J.kind= .function
 sd:∀y∈J.names,y.2≠ .cell
 xV:∀n∈Y,J.names.lookup n=some .local
 pN:∀n,J.names.lookup n=some .local->n∈Y\/n∉c.nt
 vD:∀n,J.names.lookup n≠some .cell
 mP:∀n,J.names.lookup n=some .free->c.env.kindOf n=some .cell
 vE:∀n a,J.names.lookup n=some .free->c.cells.lookup n=some a->Z.lookup n=some a
abbrev gc(W:Option Nat)(Y:List Nat)(O Q:Loc->Hp->Res V)(U:Loc)(v:V)(Z:Hp):Res (Option V):=match gA W Y v U with|some J=>(O J Z).bind λ v Z=>af (truth Z v) λ b=>if b then(Q J Z).bind λ x Z=> .ok (some x) Z else .ok none Z|none=> .stuck
abbrev pO{J:Type}(v:V)(k:List V->Hp->Res J)(Z:Hp):Res J:=match v with|.lst l=>k l Z|_=> .stuck
inductive fG(c:Cx)(J:Loc->Hp->Res V):List Expr->Prop|nil:(J=λ _ Z=> .ok (.bool true) Z)->fG c J []|one{e:Expr}:qJ c J e->fG c J [e]
theorem yD{c:Cx}{Z:Loc->Hp->Res V}{J:List Expr}(h:fG c Z J):Ay c uY (aY Z) (forIn J true λ e r=>if r=true then do
 let ok<-isTrue e c.ev (eval e c.ev);
 pure (ForInStep.yield ok)else pure (ForInStep.yield r)):=by intro Y W U s Q E f p;cases h with|nil h=>subst h;exact wpAny_tests_nil (p.here f rfl)|one h=>exact wpAny_tests_one (h _ _ _ _ _ _ f p)
theorem pQ{f:V->Hp->Res (Option V)}{v:V}{r:List V}{Y:Hp}{N:Type}{K:List V->Hp->Res N}{c:Cx}{X:Type}{U:Zs->N->X->Prop}{Z:Loc}{R:Zs}{s:Shared}{Q:X->Shared->Prop}{E:Value->Shared->Prop}(p:aq c U Z R s Q E ((bg f (v::r) Y).bind K)){G:Prop}(D:∀o J,f v Y= .ok o J->aq c U Z R s Q E ((bg f r J).bind λ l Y=>K (match o with|some x=>x::l|none=>l) Y)->G):G:=by
 unfold bg at p;cases q:f v Y with
  |ok o J=>rw[q]at p;refine D o J q ?_;dsimp only at p;cases W:bg f r J with|ok l O=>rw[W]at p;exact p|exc C O=>rw[W]at p;exact p.elim|stuck=>rw[W]at p;exact p.elim
  |exc C J=>rw[q]at p;exact p.elim
  |stuck=>rw[q]at p;exact p.elim
section
variable{c:Cx}{J:Loc}{Z:Hp}{Y:Zs}{s:Shared}{E:Value->Shared->Prop}
theorem FS.Ip{g:Led}{Q U:Option Cm}{W:Loc}{h:Heap}(f:FS (c.sub g Q) W Z Y h)(V:cB (c.sub g U) J Y):FS (c.sub g U) J Z Y h:=⟨f.B,f.D,f.F,f.N,f.R,f.ap,V,f.fc⟩
theorem yE{g:Led}{U:Option Cm}{p:Addr×Obj}(h:p∈g):p∈Y.all (c.sub g U):=List.mem_append_right _ (List.mem_append_right _ (List.mem_append_left _ h))
theorem HR{p:Addr×Obj}(h:p∈Y.fz):p∈Y.all c:=List.mem_append_right _ (List.mem_append_left _ h)
theorem KQ{p:Addr×Obj}(h:p∈c.fr):p∈Y.all c:=List.mem_append_right _ (List.mem_append_right _ h)
theorem all2{Q:Type}{P:Q->Prop}{a b:Q}(h1:P a)(h2:P b):∀p∈[a,b],P p:=λ p h=>by refine bf λ W U=>?_;cases h with|head=>refine U ?_;exact h1|tail _ h=>refine U ?_;cases h with|head=>exact h2|tail _ h=>cases h
theorem BZ{U:Type}{P:U->Prop}{a b d:U}(h1:P a)(h2:P b)(W:P d):∀p∈[a,b,d],P p:=λ p h=>by cases h with|head=>exact h1|tail _ h=>exact all2 h2 W p h
inductive LoopAt{T L:Type}(c:Cx)(W:Zs->T->L->Prop)(R:L->Shared->Prop)(E:Value->Shared->Prop)(s:Shared)(Y:Zs)(J:Loc)(l:List V)(I C D:Addr)(F:V->Hp->Res (Option V))(K:List V->Hp->Res T):Nat->Shared->Prop|mk{i:Nat}{U:List V}{Q:Hp}{ζ':Zs}{h':Heap}{G:Nat}{X O:Obj}{H:Str->Option Value}{N:List Value}{k:Nat}:i<=l.length->Ext c Y ζ'->FS (c.sub [(I,X),(C,O),(D,aS N k)] none) J Q ζ' h'->LCg.NsObj O H->vB c ζ' I l i X->I∉addrs ζ'.fz->C∉addrs ζ'.fz->D∉addrs ζ'.fz->b7 c ζ' U N->U.length<=i->aq c W J ζ' (bq s h' G) R E ((bg F (l.drop i) Q).bind λ r Z=>K (U++r) Z)->LoopAt c W R E s Y J l I C D F K (l.length+1-i) (bq s h' G)
theorem mQ{γ δ:Type}{w:Zs->γ->δ->Prop}{Qp:δ->Shared->Prop}{K:List V->Hp->Res γ}{x:Value}{v0:V}{RR:Value->Addr->Result->Shared->Prop}{xz pp G:Expr}{wn:List Expr}{U:Scope}{GM:Pos}{j:List (Str×Addr)}{ad B:Loc->Hp->Res V}{ce:Option Nat}{F ts:List Nat}{ns:List Str}(ok:aC c)(bd:c.cm=none)(Lk:c.hd=false)(T:t9 c.nt ce F G ts ns)(S:E8 c U j ns)(hI:∀g k,k.scope=U->aC (c.sub g (some k))->fG (c.sub g (some k)) ad wn)(hE:∀g k,k.scope=U->aC (c.sub g (some k))->aX (c.sub g (some k)) B xz)(fs:FS c J Z Y s.heap)(rs:mA c Y v0 x)(p:aq c w J Y s Qp E (pO v0 (λ l Z=>(bg (gc ce F ad B J) l Z).bind K) Z))(Lq:∀D C h' tk P r oC m' k W O,Ext c Y O->FS (c.sub [(C,oC),(D,aS P k)] none) J W O h'->LCg.NsObj oC m'->C≠D->D∉addrs O.fz->D∉addrs c.fr->C∉addrs O.fz->C∉addrs c.fr->b7 c O r P->aq c w J O (bq s h' tk) Qp E (K r W)->RR (.ref D) C (.ok .next) (bq s h' tk)):wpAny (model c.prog c.w) c.A (pyIter x) (λ it IN=>wpAny (model c.prog c.w) c.A (newList []) (λ acc M=>wpAny (model c.prog c.w) c.A (newFunctionEnv U c.env.globals j [] c.env.qual none .none (some c.env)) (λ pc Ix=>codeAny (model c.prog c.w) c.A (.compStart (.ListComp xz [⟨G,pp,wn,0⟩] U GM) 0 it acc {pc with scope:=relabel U c.env}) (RR acc pc.locals) Ix) E M) E IN) E s:=by
 haveI hh:=ok.hh Lk;refine pH fs rs λ l h1 I oI hv f1 it Ls Id=>?_;subst hv;replace p:aq c w J Y s Qp E ((bg (gc ce F ad B J) l Z).bind K):=p;haveI ty:I<h1.objs.size:=Heap.lt_size (f1.N (I,oI) (yE (.head _))).1;refine wpAny_newObj_type (wpAny_newFunctionEnv S.sd (by intro y hy;simp at hy) (λ h2 wv ga=>?_) S.kind);dsimp only at wv ga⊢;generalize wE:h1.push {cls:= .type "list",dict:=none,data:= .seq ([]:List Value).toArray}=H2 at wv ga⊢;have hC:H2.objs.size=h1.objs.size+1:=by rw[<-wE,Heap.size_push]
 have AC:h1.objs.size≠H2.objs.size:=by rw[hC];exact Nat.ne_of_lt (Nat.lt_succ_self _)
 haveI wr:∀b,b<h1.objs.size->b≠H2.objs.size/\b≠h1.objs.size:=λ b hb=>⟨by rw[hC];exact Nat.ne_of_lt (Nat.lt_succ_of_lt hb),Nat.ne_of_lt hb⟩;have u:∀b o,h1.get? b=some o->h2.get? b=some o:=λ b o e=>ga.extBut b o (wr b (Heap.lt_size e)).1 (Heap.get?_push_of_some _ (wE▸Heap.get?_push_of_some _ e));haveI GE:h2.get? h1.objs.size=some (aS [] 0):=ga.extBut _ _ AC (Heap.get?_push_of_some _ (wE▸Heap.get?_push_size _ rfl));obtain@⟨@oC,KZ,KW⟩:=LCg.ns_obj wv;have zn:∀a,h1.objs.size<=a->h1.get? a=none:=λ a ha=>by cases e:h1.get? a with|none=>rfl|some o'=>exact absurd (Heap.lt_size e) (Nat.not_lt.mpr ha)
 have R:∀a,h1.objs.size<=a->Y.h₀.get? a=none:=λ a ha=>by cases e:Y.h₀.get? a with|none=>rfl|some o'=>have:=f1.F.keep a o' e;rw[zn a ha]at this;cases this
 haveI bv:∀p∈Y.all (c.sub [(I,oI)] c.cm),p.1<h1.objs.size:=λ p Z=>Heap.lt_size (f1.N p Z).1;have sB:c.L<h1.objs.size:=f1.F.ns.lt;generalize hD:h1.objs.size=D at*;generalize Lx:H2.objs.size=C at*;haveI Lr:D≠c.L:=Ne.symm (Nat.ne_of_lt sB);haveI Le:C≠c.L:=by rw[hC];exact Ne.symm (Nat.ne_of_lt (Nat.lt_succ_of_lt sB))
 haveI io:I≠D/\I≠C:=⟨Nat.ne_of_lt ty,by rw[hC];exact Nat.ne_of_lt (Nat.lt_succ_of_lt ty)⟩;have Q:∀p∈Y.all (c.sub [(I,oI)] c.cm),p.1≠D/\p.1≠C:=λ p Z=>⟨Nat.ne_of_lt (bv p Z),by rw[hC];exact Nat.ne_of_lt (Nat.lt_succ_of_lt (bv p Z))⟩;haveI La:cB (c.sub [(I,oI),(C,oC),(D,aS [] 0)] none) J Y:=bd▸fs.lr.plus;have f2:FS (c.sub [(I,oI),(C,oC),(D,aS [] 0)] none) J Z Y h2:=by
  refine FS.into (f1.out fs.lr) (f1.F.keeps u) (λ p Z=>?_) (λ p Z q=>?_) La;.
   simp only[Zs.all,List.mem_append,List.mem_cons,List.not_mem_nil,or_false]at Z;rcases Z with Z|Z|(rfl|rfl|rfl)|Z;.obtain@⟨k1,k2⟩:=f1.N p (List.mem_append_left _ (List.mem_append.mpr Z));exact⟨u _ _ k1,k2⟩
   .obtain@⟨k1,k2⟩:=f1.N p (List.mem_append_right _ (List.mem_append_left _ Z));exact⟨u _ _ k1,k2⟩
   .obtain@⟨k1,k2⟩:=f1.N (I,oI) (yE (.head _));exact⟨u _ _ k1,k2⟩
   .exact⟨KZ,Le,R _ (by rw[hC];exact Nat.le_succ _)⟩
   .exact⟨GE,Lr,R _ (Nat.le_refl _)⟩
   .obtain@⟨k1,k2⟩:=f1.N p (List.mem_append_right _ (List.mem_append_right _ (List.mem_append_right _ Z)));exact⟨u _ _ k1,k2⟩
  .
   refine of_addrs q λ d W e'=>?_;simp only[List.mem_cons,List.not_mem_nil,or_false]at Z;rcases Z with rfl|rfl|rfl;.exact f1.ap.off I (by have:=ah W;rw[e']at this;exact this) (show I∈addrs (Y.fz++([(I,oI)]++c.fr))from ah (p:=(I,oI)) (by simp))
   .exact(Q d (List.mem_append_left _ W)).2 e'
   .exact(Q d (List.mem_append_left _ W)).1 e'
 have KY:C∉addrs Y.fz:=λ q=>by refine of_addrs q λ d W e'=>?_;exact(Q d (by simp[W])).2 e'
 have Lb:D∉addrs Y.fz:=λ q=>by refine of_addrs q λ d W e'=>?_;exact(Q d (by simp[W])).1 e'
 have GT:C∉addrs c.fr:=λ q=>by refine of_addrs q λ d W e'=>?_;exact(Q d (by simp[W])).2 e'
 have Do:D∉addrs c.fr:=λ q=>by refine of_addrs q λ d W e'=>?_;exact(Q d (by simp[W])).1 e'
 have lw:∀M:Shared,(∃tk,M=(bq s h2 tk))->codeAny (model c.prog c.w) c.A (.compLoop (.ListComp xz [⟨G,pp,wn,0⟩] U GM) 0 (.ref I) (.ref D) (compEnvC U j C c.env)) (RR (.ref D) C) M:=by
  rintro M⟨Ly,rfl⟩;refine oe (LoopAt c w Qp E s Y J l I C D (gc ce F ad B J) K) ?_ (l.length+1) (.mk (i:=0) (U:=[]) (N:=[]) (k:=0) (ζ':=Y) (h':=h2) (Nat.zero_le _) .refl f2 KW it Ls KY Lb .nil (Nat.le_refl _) (aq.ext .refl p));intro n s' H;cases H with
   |@mk i na W O h' tk EQ ch m' P k hi xt f sw wP zI zC zD hr ul d=>
    have FB:∀q∈O.fz,h'.get? q.1=some q.2:=λ q hq=>(f.N q (HR hq)).1;have IR:h'.get? I=some EQ:=(f.N (I,EQ) (yE (.head _))).1;have bi:=xt.lr fs.lr;have dI:I≠C/\I≠D/\C≠D:=⟨io.2,io.1,Ne.symm AC⟩;by_cases N:i<l.length;.
     obtain⟨v,cr⟩:∃v,l[i]?=some v:=⟨l[i],List.getElem?_eq_getElem N⟩;have wp:l.drop i=v::l.drop (i+1):=by
      rw[List.drop_eq_getElem_cons N];have:l[i]=v:=by rw[List.getElem?_eq_getElem N]at cr;exact Option.some.inj cr
      rw[this]
     rw[wp]at d;refine pQ d λ o ge hf p1=>?_;refine r9 hh N wP IR FB λ v' Lw h3 ci ds KK rv tz zs xL=>?_;refine bf λ Lv sK=>?_;obtain rfl:v=v':=Option.some.inj (cr.symm.trans KK);unfold gc at hf;cases hb:gA ce F v J with
      |none=>refine sK ?_;rw[hb]at hf;cases hf
      |some Lu=>
       rw[hb]at hf;dsimp only at hf;have f3:FS (c.sub [(I,ds),(C,ch),(D,aS P k)] none) J W O h3:=f.yC I xL (.head _) zI Id (BZ (.inr ⟨rfl,tz⟩) (.inl ⟨.tail _ (.head _),Ne.symm dI.1⟩) (.inl ⟨.tail _ (.tail _ (.head _)),Ne.symm dI.2.1⟩)) (bd▸bi.plus);have Lm:h3.Ns C m':=sw.ns (f3.N (C,ch) (yE (.tail _ (.head _)))).1;obtain⟨m,be,rfl,At,Go,Lg⟩:=t_ (A:=c.A) (R:=c.prog) (w:=c.w) (E:=CX c.prog c.w c.A (RR (.ref D) C) (compEnvC U j C c.env)) (J:=compEnvC U j C c.env) (s:=(bq s h3 ci)) hh T (by simp[compEnvC,relabel,S.kind]) (λ n hn=>by rw[jq,S.xV n hn];rfl) Lm (λ q hq=>(f3.N q (HR hq)).1) zs tz cr rv hb;refine sK ?_;refine Lg λ h4 Lh Lj Ln=>?_;obtain⟨dL,IO,bn⟩:=LCg.ns_obj Lj;have wS:=At.length;have ww:ts.length=ns.length:=by have:=congrArg List.length T.Io.1;simpa using this
       have f4:FS (c.sub [(I,ds),(C,dL),(D,aS P k)] (some ⟨U,j,C,dO (ns.zip be) m'⟩)) (ts.zip m++J) W O h4:=f3.yC C Ln (.tail _ (.head _)) zC GT (BZ (.inl ⟨.head _,dI.1⟩) (.inr ⟨rfl,IO⟩) (.inl ⟨.tail _ (.tail _ (.head _)),Ne.symm dI.2.2⟩)) (bi.comp bd ok.nt T.Io.1 At Go (pK (by rw[kE (by exact"bP}z](xhXk>n+`35$)R$" Go wS ww)];exact T.Io.2)) S.xV S.pN S.vD S.mP S.vE);have FM:aC (c.sub [(I,ds),(C,dL),(D,aS P k)] (some ⟨U,j,C,dO (ns.zip be) m'⟩)):=ok.sub λ k' q=>by cases q;exact⟨S.kind,dL,by simp,λ h e=>bn.ns e⟩
       have A:((aY ad (ts.zip m++J) W).bind λ b Z=>if b then(B (ts.zip m++J) Z).bind λ x Z=>Res.ok (some x) Z else Res.ok none Z)= .ok o ge:=by rw[<-hf];simp only[aY,Res.bind_assoc,cF];rfl
       refine yD (hI _ _ rfl FM) _ _ _ (bq s h4 Lh) _ _ f4 ?_;cases z:aY ad (ts.zip m++J) W with
        |exc C db=>rw[z]at A;cases A
        |stuck=>rw[z]at A;cases A
        |ok b db=>
         rw[z]at A;intro h5 Ld Lz b' t f5 eb;cases eb;have Db:=t.off (d:=I) (.head _) zI;have Da:=t.off (d:=C) (.tail _ (.head _)) zC;have KB:=t.off (d:=D) (.tail _ (.tail _ (.head _))) zD;cases b with
          |false=>have L:Res.ok none db=Res.ok o ge:=A;cases L;exact .ff ⟨_,by exact"3lfdC.PLPNZBt_.xB/?tcaddPQ(," rfl rfl N,.mk (i:=i+1) N (xt.trans t.out) (f5.Ip (bd▸(t.out.lr bi).plus)) bn (zs.up t.up) Db Da KB (hr.up t.up) (Nat.le_succ_of_le ul) (aq.ext t.out p1)⟩
          |true=>
           have L:((B (ts.zip m++J) db).bind λ x Z=>Res.ok (some x) Z)=Res.ok o ge:=A;refine .tt ?_;refine hE _ _ rfl FM _ _ _ (bq s h5 Ld) _ _ f5 ?_;cases ut:B (ts.zip m++J) db with
            |exc C Lo=>rw[ut]at L;cases L
            |stuck=>rw[ut]at L;cases L
            |ok xv Lo=>
             rw[ut]at L;cases L;intro h6 Ll KM X x6 f6 rx;have Lf:=x6.off (d:=I) (.head _) Db;have KF:=x6.off (d:=C) (.tail _ (.head _)) Da;have Fa:=x6.off (d:=D) (.tail _ (.tail _ (.head _))) KB;have wf:=hr.length;have Gc:=wP.len;have Fk:=bX Gc;refine append_at (f6.N (D,aS P k) (yE (.tail _ (.tail _ (.head _))))).1 (λ h7 KE KT=>?_) (dY (by rw[List.size_toArray];exact"^rr_]4B#cr91mR83OF#j>J$'&" ul N wf Fk));have e7:({cls:= .type "list",data:= .seq (P.toArray.push X) (k+1)}:Obj)=aS (P++[X]) (k+1):=by show({cls:= .type "list",data:= .seq (P.toArray.push X) (k+1)}:Obj)={cls:= .type "list",data:= .seq (P++[X]).toArray (k+1)};rw[List.push_toArray]
             have Ch:h7.get? D=some (aS (P++[X]) (k+1)):=KT.trans (congrArg some e7);have f7:FS (c.sub [(I,ds),(C,dL),(D,aS (P++[X]) (k+1))] none) J ge KM h7:=f6.yC D (λ b x hb e=>KE.extBut b x (by simpa using hb) e) (.tail _ (.tail _ (.head _))) Fa Do (BZ (.inl ⟨.head _,dI.2.1⟩) (.inl ⟨.tail _ (.head _),dI.2.2⟩) (.inr ⟨rfl,Ch⟩)) (bd▸(x6.out.lr (t.out.lr bi)).plus);refine⟨_,by exact"3lfdC.PLPNZBt_.xB/?tcaddPQ(," rfl rfl N,.mk (i:=i+1) (U:=na++[xv]) (N:=P++[X]) (k:=k+1) N ((xt.trans t.out).trans x6.out) f7 bn ((zs.up t.up).up x6.up) Lf KF Fa (((hr.up t.up).up x6.up).append (.cons rx .nil)) (by rw[List.length_append];exact Nat.succ_le_succ ul) ?_⟩;have p2:=aq.ext (h:=h7) (R:=Ll) (t.out.trans x6.out) p1;simpa only[List.append_assoc,List.singleton_append]using p2
    .obtain rfl:i=l.length:=Nat.le_antisymm hi (Nat.not_lt.mp N);refine r_ hh wP IR FB λ h3 ci xL=>?_;have f3:FS (c.sub [(C,ch),(D,aS P k)] none) J W O h3:=f.yC I xL (.head _) zI Id (all2 (.inl ⟨.tail _ (.head _),Ne.symm dI.1⟩) (.inl ⟨.tail _ (.tail _ (.head _)),Ne.symm dI.2.1⟩)) (bd▸bi.plus);refine Lq D C h3 ci P na ch m' k W O xt f3 sw dI.2.2 zD Do zC GT hr ?_;have p2:=aq.ext (h:=h3) (R:=ci) .refl d;simpa[bg,Res.bind]using p2
 exact codeAny_compStart_list (lw _ ⟨_,rfl⟩) (yB hh it (u _ _ (f1.N (I,oI) (yE (.head _))).1) (λ q hq=>u _ _ (f1.N q (HR hq)).1) (lw _ ⟨_,rfl⟩))
end
structure E9(c:Cx)(J:Scope)(Z:List Str):Prop where
 kind:J.kind= .function
 sd:∀y∈J.names,y.2≠ .cell
 look:∀y∈J.names,J.names.lookup y.1=some y.2
 xV:∀n∈Z,J.names.lookup n=some .local
 pN:∀y∈J.names,y.2= .local->y.1∈Z\/y.1∉c.nt
 mP:∀y∈J.names,y.2= .free->c.env.kindOf y.1=some .cell
theorem gG{J:Type}{l:List (Str×J)}{x:Str}{a:J}(h:l.lookup x=some a):(x,a)∈l:=by induction l with|nil=>cases h|cons y r Z=>rw[List.lookup_cons]at h;cases q:x==y.1 with|true=>rw[q]at h;cases h;rw[show x=y.1 from eq_of_beq q];exact .head _|false=>rw[q]at h;exact .tail _ (Z h)
def gd(e:Expr):Bool:=e.ctorIdx !=7
theorem jr{e:Expr}{J:Env}(h:gd e=true)(x:Value):foldedSetIterable e J x=pure x:=by cases e<;>first|rfl|cases h
section
variable{c:Cx}{Z:Loc}{J:Hp}{U:Zs}{h Y:Heap}{s:Shared}{E:Value->Shared->Prop}
theorem cG(W:c.cm=none):c.ev=c.env:=by unfold Cx.ev;rw[W];rfl
theorem FS.scope{W:Scope}{X:List Str}(S:E9 c W X)(f:FS c Z J U h){G:Prop}(T:∀Q,closureFor W c.env=pure Q->E8 c W Q X->G):G:=by
 refine bf λ R V=>?_;obtain⟨Q,e,O⟩:=qV (J:=W) (Z:=c.env) λ y L K=>by obtain@⟨@a,@o,@N,h1,h2,H⟩:=f.fc y.1 (S.mP y L K);show(c.cells.lookup y.1).isSome=true;rw[h1];rfl
 refine V ?_;exact T Q e ⟨S.kind,S.sd,S.xV,λ n q=>S.pN _ (gG q) rfl,λ n q=>S.sd _ (gG q) rfl,λ n q=>S.mP _ (gG q) rfl,λ n a I D=>O n a (gG I) D⟩
abbrev fH(l:List V)(J:Hp):Res V:=if l.length<=lid then .ok (.lst l) J else .stuck
abbrev iz(R:Bool)(O:Option Nat)(W:List Nat)(N Q X:Loc->Hp->Res V):Loc->Hp->Res V:=λ Z J=>if R then .stuck else(N Z J).bind λ o J=>pO o (λ l J=>(bg (gc O W Q X Z) l J).bind fH) J
theorem B1{w N X:Expr}{B:List Expr}{W:Scope}{a:Pos}{z j u:Loc->Hp->Res V}{q:Option Nat}{R ts:List Nat}{ns:List Str}(ok:aC c)(L:c.cm=none)(T:t9 c.nt q R X ts ns)(S:E9 c W ns)(P:gd N=true)(hI:∀g k,k.scope=W->aC (c.sub g (some k))->fG (c.sub g (some k)) j B)(hE:∀g k,k.scope=W->aC (c.sub g (some k))->aX (c.sub g (some k)) u w)(hs:d0 c z N):aX c (iz c.hd q R z j u) (.ListComp w [⟨X,N,B,0⟩] W a):=by
 intro Z J U s Q E f p;by_cases F:c.hd=true;.simp only[iz,F,if_true]at p;exact p.elim
 haveI F:c.hd=false:=by simpa using F
 simp only[iz,F,Bool.false_eq_true,if_false]at p;refine f.scope S λ bn H SO=>?_;haveI K:=cG L;rw[K,eval_ListComp];refine wpAny_comprehension_free (use:=none) rfl (jr P) H S.kind (λ y hy _=>by rename_i hk;rw[S.look y hy,hk]) ?_;show wpAny _ _ (eval N c.env) _ _ _;rw[<-K];refine hs _ _ _ _ _ _ f (p.bind λ v bd Y tk bi be xt f' r p=>?_);rw[K];refine mQ (w:=aF c) (Qp:=Q) (K:=fH) ok L F T SO hI hE (s:=(bq s Y tk)) f' r p ?_;intro D C h2 ad d M oC m' k I O x2 f2 m i zD n zC h rv G;refine⟨m',m.ns (f2.N (C,oC) (yE (.head _))).1,λ h3 t=>?_⟩;by_cases l:M.length<=lid;.
  haveI G:aq c (aF c) Z O _ Q E (if M.length<=lid then Res.ok (.lst M) I else .stuck):=G;rw[if_pos l]at G;haveI A:=x2.lr f'.lr;have o:FS (c.sub [(D,aS d k)] none) Z I O h3:=f2.yC C (λ b x hb e=>t.extBut b x (by simpa using hb) e) (.head _) zC h (λ p J=>by rw[List.mem_singleton.mp J];exact .inl ⟨.tail _ (.head _),Ne.symm i⟩) (L▸A.plus);haveI f4:=o.out A;refine r8 (E:=E) (s:=(bq s h3 ad)) (n:=k) f4 rv (by rw[rv.length];exact l) (aq.ext .refl G) f4.F (λ p J=>?_) (λ p J e=>?_);.refine o.N p (show p∈(O.br++O.cl)++(O.fz++([(D,aS d k)]++c.fr))from ?_);simp only[List.mem_append,List.mem_cons,List.not_mem_nil,or_false]at J⊢;grind
  .
   rcases List.mem_append.mp J with J|J;.exact o.ap.off D (by have:=ah J;rw[e]at this;exact this) (show D∈addrs (O.fz++([(D,aS d k)]++c.fr))from ah (p:=(D,aS d k)) (by simp))
   .
    rcases List.mem_append.mp J with J|J;.exact zD (e▸ah J)
    .exact n (e▸ah J)
 .haveI G:aq c (aF c) Z O _ Q E (if M.length<=lid then Res.ok (.lst M) I else .stuck):=G;rw[if_neg l]at G;exact G.elim
theorem pR{x y:Nat}{v:V}{Z:Loc}:aQ y (bj x v Z)=if y=x then some v else aQ y Z:=by
 induction Z with
  |nil=>
   show(if x=y then some v else none)=_;by_cases q:y=x;.rw[if_pos q,if_pos q.symm]
   .rw[if_neg q,if_neg (Ne.symm q)];rfl
  |cons p r Q=>
   show aQ y (if p.1=x then(p.1,v)::r else p::bj x v r)=if y=x then some v else(if p.1=y then some p.2 else aQ y r);by_cases q:p.1=x;.
    rw[if_pos q];show(if p.1=y then some v else aQ y r)=_;by_cases W:y=x;.rw[if_pos W,if_pos (q.trans W.symm)]
    .rw[if_neg W,if_neg (λ h=>W (h.symm.trans q)),if_neg (λ h=>W (h.symm.trans q))]
   .
    rw[if_neg q];show(if p.1=y then some p.2 else aQ y (bj x v r))=_;by_cases W:p.1=y;.rw[if_pos W,if_pos W,if_neg (λ h=>q (W.trans h))]
    .rw[if_neg W,if_neg W,Q]
theorem gf{X:Nat}{x:Str}{v:V}{I:Value}{Q:Unit->Shared->Prop}(g:aC c)(A:c.cm=none)(hx:c.nt[X]?=some x)(F:c.env.kindOf x=some .local\/c.env.kindOf x=some .cell)(f:FS c Z J U s.heap)(r:aF c U v I)(h:∀Y tk i,ExtS c U i->FS c (dS X v Z) J i Y->Q () (bq s Y tk)):wpAny (model c.prog c.w) c.A (storeName c.env x I) Q E s:=by
 have H:=cG A;obtain⟨M,m,l,B,fz,ρ⟩:=U;rcases F with F|F;.
  refine storeX_L f.F f.N (λ Y F' N'=>h Y _ ⟨M,λ y=>if y=x then some I else m y,l,B,fz,ρ⟩ .cl ⟨f.B,f.D,F',N',f.R,f.ap,λ y w e=>?_,f.fc⟩) g.hk F;rw[dS,pR]at e;by_cases q:y=X;.rw[if_pos q]at e;cases e;subst q;refine⟨x,hx,I,r,λ _=>by rw[A];exact if_pos rfl,λ O=>?_⟩;rw[H,F]at O;rcases O with O|O<;>cases O
  .rw[if_neg q]at e;obtain⟨n,h1,G,h2,h3,h4⟩:=f.lr y w e;refine⟨n,h1,G,h2,λ O=>?_,h4⟩;haveI:=h3 O;rw[A]at this⊢;haveI S:n≠x:=λ z=>q (k7 g.nt (z▸h1) hx);show(if n=x then some I else m n)=some G;rw[if_neg S];exact this
 .
  refine bf λ P R=>?_;obtain⟨a,o,be,h1,h2,h3⟩:=f.fc x F;obtain⟨D,N,e⟩:=List.append_of_mem h2;obtain⟨n1,n2,n3⟩:=f.N (a,o) (by simp[h2]);refine R ?_;refine wpAny_storeName_cell g.hk F h1 ⟨o,n1,h3⟩ λ Y hv hs=>?_;refine bf λ P R=>?_;obtain⟨u,ad,k⟩:=hv;haveI ap:=f.ap;replace e:l=_:=e;subst e;dsimp only at ap h2;have e2:∀y:Obj,(D++(a,y)::N)++B=D++(a,y)::(N++B):=λ y=>by simp
  rw[e2]at ap;obtain⟨q1,q2,q3⟩:=ap.ne;have S:∀p∈(D++(a,u)::N)++B,p=(a,u)\/(p∈(D++(a,o)::N)++B/\p.1≠a):=λ p J=>by
   rw[e2]at J⊢;simp only[List.mem_append,List.mem_cons]at J;rcases J with J|rfl|J|J;.exact .inr ⟨by simp[J],q1 p J⟩
   .exact .inl rfl
   .exact .inr ⟨by simp[J],q2 p (by simp[J])⟩
   .exact .inr ⟨by simp[J],q2 p (by simp[J])⟩
  have d:∀K W,K≠a->(K,W)∈(D++(a,o)::N)++c.fr->(K,W)∈(D++(a,u)::N)++c.fr:=λ K W hn L=>by
   simp only[List.mem_append,List.mem_cons]at L⊢;rcases L with(L|L|L)|L;.exact .inl (.inl L)
   .cases L;exact absurd rfl hn
   .exact .inl (.inr (.inr L))
   .exact .inr L
  refine R ?_;refine h Y _ ⟨M,m,D++(a,u)::N,B,fz,ρ⟩ .cl ⟨f.B,f.D,f.F.change hs n2 n3,λ p J=>?_,f.R,by rw[e2];exact ap.set,λ y w e=>?_,λ n hn=>?_⟩;.
   rcases List.mem_append.mp J with J|J;.
    rcases S p J with rfl|⟨J,bd⟩;.exact⟨ad,n2,n3⟩
    .obtain@⟨j,b⟩:=f.N p (List.mem_append_left _ J);exact⟨hs.extBut _ _ bd j,b⟩
   .obtain@⟨j,b⟩:=f.N p (List.mem_append_right _ J);exact⟨hs.extBut _ _ (q3 p J) j,b⟩
  .
   rw[dS,pR]at e;by_cases q:y=X;.rw[if_pos q]at e;cases e;subst q;refine⟨x,hx,I,r,λ O=>?_,λ _=>⟨a,u,by rw[H];exact h1,by simp,k⟩⟩;rw[H,F]at O;cases O
   .rw[if_neg q]at e;obtain⟨n,j,G,b,k3,k4⟩:=f.lr y w e;refine⟨n,j,G,b,k3,λ O=>?_⟩;obtain⟨K,W,C,T,j3⟩:=k4 O;refine⟨K,W,C,d K W (λ z=>?_) T,j3⟩;subst z;rw[H]at C;exact q (k7 g.nt (g.inj _ _ _ C h1▸j) hx)
  .
   refine bf λ P R=>?_;obtain⟨K,W,t,C,T,j3⟩:=f.fc n hn;by_cases z:K=a;.subst z;refine R ?_;exact⟨K,u,_,C,by simp,k⟩
   .
    refine R ?_;refine⟨K,W,t,C,?_,j3⟩;simp only[List.mem_append,List.mem_cons]at T⊢;rcases T with T|T|T;.exact .inl T
    .cases T;exact absurd rfl z
    .exact .inr (.inr T)
end
def bD(c:Cx)(U:Loc->Hp->SR)(W:Stmt):Prop:=∀J Z Y s Q E,FS c J Z Y s.heap->aO c Y s Q E (U J Z)->wpAny (model c.prog c.w) c.A (exec W c.env) Q E s
section
variable{c:Cx}{J:Loc}{Y:Hp}{U Z:Zs}{h W:Heap}{s:Shared}{E:Value->Shared->Prop}{Q:Flow->Shared->Prop}{O D K:Loc->Hp->Res V}{e o i I:Expr}
theorem aO.ext{r:SR}{h:Heap}{V:Nat}(x:ExtS c U Z)(p:aO c U s Q E r):aO c Z (bq s h V) Q E r:=by match r,p with|.mk .az J Y,p=>exact λ W V Z y f=>p W V Z (x.trans y) f|.mk .brk J Y,p=>exact λ W V Z y f=>p W V Z (x.trans y) f|.mk (.ret v) J Y,p=>exact λ W V Z N y f r=>p W V Z N (x.trans y) f r|.mk (.exc C false) J Y,p=>exact λ W V Z e y f=>p W V Z e (x.trans y) f|.mk (.exc C true) J Y,p=>exact λ X W V Z e R y f G=>p X W V Z e R (x.trans y) f G|.stuck,p=>exact p
theorem aO.bind{G L:Type}{R:Zs->G->L->Prop}{r:Res G}{k:G->Hp->SR}{T:L->Shared->Prop}(p:aO c U s Q E (r.toS J k))(h:∀v V W N Z X,Ext c U Z->FS c J V Z W->R Z v X->aO c Z (bq s W N) Q E (k v V)->T X (bq s W N)):aq c R J U s T E r:=by cases r with|ok v V=>exact λ W N Z X x f r=>h v V W N Z X x f r (aO.ext x.toExtS p)|exc C V=>exact λ W N Z e x f=>p W N Z e x.toExtS f|stuck=>exact p.elim
theorem aO.some{V:Type}{o:Option V}{k:V->SR}(p:aO c U s Q E (g9 o k)){G:Prop}(X:∀a,o=some a->aO c U s Q E (k a)->G):G:=by cases o with|none=>exact p.elim|some a=>exact X a rfl p
theorem aO.az{W:Heap}{N:Nat}{V:Loc}{X:Hp}(p:aO c U s Q E (.mk .az V X))(x:ExtS c U Z)(f:FS c V X Z W):Q .next (bq s W N):=p W N Z x f
theorem aX.env(V:c.cm=none)(X:aX c O e):Ay c (aF c) O (eval e c.env):=by rw[<-cG V];exact X
def bZ(e:Expr):Bool:=e.ctorIdx !=8&&e.ctorIdx !=9&&e.ctorIdx !=10
theorem eY{e:Expr}{t:Option Expr}{n:Nat}{V:Env}(h:bZ e=true):swapsWith e t n V=pure false:=by cases e<;>first|rfl|cases h
theorem AI{X:Nat}{x:Str}{R V:Pos}(L:aC c)(N:c.cm=none)(F:c.nt[X]?=some x)(P:c.env.kindOf x=some .local\/c.env.kindOf x=some .cell)(M:aX c O e)(j:swapsWith e (some (.Name x R)) V.line c.env=pure false):bD c (λ J Y=>(O J Y).toS J λ v Y=> .mk .az (dS X v J) Y) (.Assign [.Name x R] e V):=by intro J Y U s Q E f p;refine wpAny_Assign_Name (M.env N _ _ _ _ _ _ f (p.bind λ v G W y Z T z H r p=>?_)) j;exact gf L N F P H r λ h2 B S C A=>p.az C A
set_option tactic.hygienic true in theorem mS{k:Nat}{x:Str}{v ov:V}{N X:Value}{R:Hp}{Q:Unit->Shared->Prop}(A:aC c)(T:aU)(i:∀C f x,c.nt[f]?=some x->kU T C f=true->setOk c.K C x=true)(u:c.nt[k]?=some x)(f:FS c J Y U s.heap)(r:aF c U v N)(I:aF c U ov X)(e:setAttr T Y k v ov=some R)(h:∀W t Z,ExtS c U Z->FS c J R Z W->Q () (bq s W t)):wpAny (model c.prog c.w) c.A (PySem.setAttr X x N) Q E s:=by refine tD e λ sl g C fs p d P G eh=>?_;subst p eh;obtain⟨_,rfl,w⟩:=I;refine qI f.R d λ ad a _ z F L hs _=>?_;obtain⟨M,n,S,l,O,q,g3,j⟩:=L;cases l;cases w.symm.trans O;haveI H:=i C k x u P;simp only[setOk,Bool.and_eq_true,beq_iff_eq]at H;obtain@⟨@⟨@⟨m,D⟩,K⟩,k4⟩:=H;haveI b:(a,dictOf M n)∈U.cl:=F▸List.mem_append_right _ (.head _);haveI B:=j.put A.nt (T:=s.toks+1) u r;have y:=Nat.le_trans (Nat.le_of_eq B.length) G;refine set_dict (es':=putL x (PyData.keyHash c.w.params x) (.str x (s.toks+1)) N M) (n':=putN x M n) f.F (f.K A) (f.news F) (InstAt.of_news f.N (f.iP q) (f.hG b)) rfl m D K k4 (j.sees x) rfl (f.ph F) (Nat.le_trans y (by decide)) λ h2 o N2=>?_;exact f.setCell F o N2 (hs _ _ (.inst w q (Nat.le_trans y (by decide)) B)) λ Z S f2=>h h2 _ Z S.toExtS f2
theorem B3{k:Nat}{x:Str}{z X:Pos}(M:aC c)(V:c.cm=none)(T:aU)(u:∀C f x,c.nt[f]?=some x->kU T C f=true->setOk c.K C x=true)(B:c.nt[k]?=some x)(P:bZ e=true)(j:aX c O e)(g:aX c D o):bD c (λ J Y=>(O J Y).toS J λ v Y=>(D J Y).toS J λ ov Y=>g9 (setAttr T Y k v ov) λ Y=> .mk .az J Y) (.Assign [.Attribute o x z] e X):=by intro J Y U s Q E f p;refine plainObj_wpAny_Assign_Attribute (j.env V _ _ _ _ _ _ f (p.bind λ v F W a Z S l A r p=>?_)) (eY P);refine g.env V _ _ _ _ _ _ A (p.bind λ ov H q m L G R N y p=>?_);refine p.some λ n e3 p=>?_;exact mS M T u B N (r.up R.up) y e3 λ h2 d w t b=>p.az t b
theorem FS.yF{a:Addr}{P ob:Obj}{L V:Led}{M:Nat}{X:Cell}(f:FS c J Y U h)(T:U.cl=L++(a,ob)::V)(S:Heap.SameBut a h W)(H:W.get? a=some P)(F:aT c.prog c.w c.nt U.fz U.ρ (setC M X Y.cells) (L++(a,P)::V)){G:Prop}(C:∀Z,Ext c U Z->FS c J (Y.set M X) Z W->G):G:=by haveI R:=f.ap;rw[T,n7]at R;obtain⟨h1,h2,B⟩:=R.ne;haveI N:=f.news T;obtain@⟨z,j,A⟩:=N (a,ob) (List.mem_append_right _ (.head _));exact f.setCell T (f.F.change S j A) (N.setAt h1 (λ p Y=>(List.mem_append.mp Y).elim (h2 p) (B p)) S H) F C
theorem yG{k:Nat}{v:V}{l:List (Nat×V)}:l.length<=(bj k v l).length:=by
 induction l with
  |nil=>exact Nat.zero_le _
  |cons p l X=>
   show _<=(if p.1=k then(p.1,v)::l else p::bj k v l).length;by_cases q:p.1=k;.rw[if_pos q];exact Nat.le_refl _
   .rw[if_neg q];exact Nat.succ_le_succ X
set_option tactic.hygienic true in theorem mT{k:Nat}{x:Str}{T:Tok}{v ov:V}{L X:Value}{N:Hp}{Q:Unit->Shared->Prop}(d:aC c)(b:c.nt[k]?=some x)(f:FS c J Y U s.heap)(r:aF c U v L)(l:aF c U ov X)(e:ir Y k v ov=some N)(h:∀W t Z,ExtS c U Z->FS c J N Z W->Q () (bq s W t)):wpAny (model c.prog c.w) c.A (setItem X (.str x T) L) Q E s:=by refine uR e λ o g es p q G D=>?_;subst p D;obtain⟨B,rfl,y⟩:=l;refine qI f.R q λ K a ob j C H I _=>?_;obtain⟨kvs,n,u,z⟩:=H;obtain rfl:B=a:=Option.some.inj (y.symm.trans n);haveI R:=(f.N (B,ob) (f.hG (C▸List.mem_append_right _ (.head _)))).1;haveI m:s.heap.DictOf (strKind c.prog c.w) B kvs:=Heap.dictOf_iff.mpr ⟨ob,R,u⟩;refine wpAny_setItem_pairs (knd:=strKind c.prog c.w) (k:=x) (by show Value.isStrOf x (.str x T)=true;simp[Value.isStrOf]) m (λ h2 P F=>?_) (dY (Nat.le_trans (Nat.le_of_eq z.length) (Nat.le_trans (yG) (Nat.le_trans G (by decide)))));obtain⟨i,S,M⟩:=Heap.dictOf_iff.mp P;obtain⟨_,_,_,_,_,_,A⟩:=id u;exact f.yF C F S (I _ _ (.dict y M (z.stored d.nt b r A))) λ Z w O=>h h2 _ Z w.toExtS O
theorem B4{k:Nat}{x:Str}{F:Nat}{T u X:Pos}(A:aC c)(V:c.cm=none)(z:c.nt[k]?=some x)(B:bZ e=true)(y:aX c O e)(g:aX c D o):bD c (λ J Y=>(O J Y).toS J λ v Y=>(D J Y).toS J λ ov Y=>g9 (ir Y k v ov) λ Y=> .mk .az J Y) (.Assign [.Subscript o (.Constant (.str x) F T) u] e X):=by intro J Y U s Q E f p;refine wpAny_Assign_Subscript (y.env V _ _ _ _ _ _ f (p.bind λ v S W l Z C n j r p=>?_)) (eY B);refine g.env V _ _ _ _ _ _ j (p.bind λ ov P N L M H G R w p=>?_);refine p.some λ m e3 p=>?_;refine wpAny_Constant_str (env:=c.env) (k:=F) (pos:=T) ?_;exact mT (s:=(bq s N (L+1))) A z R (r.up G.up) w e3 λ h2 d q t b=>p.az t b
theorem qX{l:List Value}:∀{k:Nat}{v:Value},k<l.length->ki_setL l k v=some (l.set k v):=by induction l with|nil=>exact λ h=>by cases h|cons x r V=>intro k v h;cases k with|zero=>rfl|succ k=>unfold ki_setL;rw[V (Nat.lt_of_succ_lt_succ h)];rfl
set_option tactic.hygienic true in theorem B5{px F:Pos}(ok:aC c)(V:c.cm=none)(I:bZ e=true)(he:aX c O e)(ho:aX c D o)(hi:aX c K i):bD c (λ J Y=>(O J Y).toS J λ v Y=>(D J Y).toS J λ ov Y=>(K J Y).toS J λ H Y=>match H with|.int i=>g9 (nO Y v ov i) λ Y=> .mk .az J Y|_=> .stuck) (.Assign [.Subscript o i px] e F):=by
 intro J Y U s Q E f p;refine wpAny_Assign_Subscript (he.env V _ _ _ _ _ _ f (p.bind λ v b W tk Z T xt f' r p=>?_)) (eY I);refine ho.env V _ _ _ _ _ _ f' (p.bind λ ov u bd bn w j L P ro p=>?_);refine hi.env V _ _ _ _ _ _ P (p.bind λ H M h3 m bi B R X ri p=>?_);cases H with
  |int k=>
   obtain⟨t,rfl⟩:=ri;refine aO.some (o:=nO M v ov k) p λ bv e4 p=>?_;refine uS e4 λ sl g l eo hg d eh=>?_;subst eo eh;obtain⟨a0,rfl,y⟩:=ro.up R.up;refine qI X.R hg λ be a _ C G N hs _=>?_;obtain⟨S,n,g0,g1,q,z⟩:=N;cases g0;obtain rfl:a0=a:=Option.some.inj (y.symm.trans g1);haveI hl:=z.length;haveI rv:=(r.up L.up).up R.up;have A:k.toNat<S.length:=by exact":Ez]pFCo2j].<R%wS&b%'6u8?6" rfl d hl
   refine ki_set (its:=S.toArray) (n:=n) (q:=S.set k.toNat T) X.F (X.news G) d.1 (kS A (bX q)) (by exact qX A) (X.ph G) λ h4 x N4=>?_;exact X.setCell G x N4 (hs _ _ (.list y (by rw[List.length_set];exact q) (z.set _ rv))) λ ad h f4=>p.az h.toExtS f4
  |_=>exact p.elim
theorem ua(k:aC c)(y:c.cm=none):∀{T:List Expr}{R:List Str}{L:List Nat}{G:List V}{N:List Value}{J X:Loc}{U:Zs}{s:Shared}{Q:Unit->Shared->Prop},T.map j9=R.map some->L.map (λ i=>c.nt[i]?)=R.map some->(∀n∈R,c.env.kindOf n=some .local\/c.env.kindOf n=some .cell)->FS c J Y U s.heap->b7 c U G N->tC L G J=some X->(∀W S Z,ExtS c U Z->FS c X Y Z W->Q () (bq s W S))->wpAny (model c.prog c.w) c.A (assignInOrder ((assignEach T c.env).map (·.2)) N) Q E s:=by
 intro T;induction T with
  |nil=>intro R L G N J X U s Q M F j f A e h;refine bf λ q H=>?_;cases R with|cons _ _=>cases M|nil=>refine H ?_;cases L with|cons _ _=>cases F|nil=>cases G with|cons _ _=>cases e|nil=>cases A;cases e;exact assignInOrder_nil (h s.heap s.toks U .refl f)
  |cons e T t=>intro R L G N J X U s Q M F j f A u h;cases R with|nil=>cases M|cons n R=>cases L with|nil=>cases F|cons x L=>cases G with|nil=>cases u|cons v G=>obtain⟨_,_,rfl,r,b⟩:=A;obtain@⟨C,P⟩:=List.cons.inj M;obtain@⟨z,B⟩:=List.cons.inj F;refine qW C λ O d=>?_;subst d;refine assignInOrder_cons (wpAny_assign_Name (gf k y z (j n (.head _)) f r λ h2 a m w l=>?_));exact t P B (λ n p=>j n (.tail _ p)) l (b.up w.up) u λ W S Z g f=>h W S Z (w.trans g) f
def og(e:Expr):Bool:=e.ctorIdx !=25
theorem qY{X:List Expr}{k:Nat}{N:Pos}{e:Expr}{V:Env}(h:og e=true):swappedStores [.Tuple X k N] e V=pure none:=by cases e<;>first|rfl|cases h
theorem E_{C:List Expr}{k:Nat}{m M:Pos}{N:List Nat}{B:List Str}(y:aC c)(F:c.cm=none)(T:C.map j9=B.map some)(P:N.map (λ i=>c.nt[i]?)=B.map some)(hk:∀n∈B,c.env.kindOf n=some .local\/c.env.kindOf n=some .cell)(hn:bZ e=true)(ht:og e=true)(he:aX c O e):bD c (λ J Y=>if c.hd then .stuck else(O J Y).toS J λ v Y=>g9 (kW v) λ l=>g9 (tC N l J) λ J=> .mk .az J Y) (.Assign [.Tuple C k m] e M):=by
 intro J Y U s Q E f p;by_cases t:c.hd=true;.simp only[t,if_true]at p;exact p.elim
 haveI H:c.hd=false:=by simpa using t
 simp only[H,Bool.false_eq_true,if_false]at p;refine Assign_Tuple (he.env F _ _ _ _ _ _ f (p.bind λ v I W tk Z ad xt q r p=>?_)) (show swapsWith e (some (.Tuple C k m)) M.line c.env=pure false from eY hn) (qY ht);refine p.some λ l w u=>?_;refine u.some λ X G p2=>?_;clear p u;cases v with
  |tup l'=>
   refine bf λ D A=>?_;obtain⟨S,n,a,rfl,g1,g2,d⟩:=r;cases w;obtain@⟨e1,e2⟩:=pM (J:=c.env) T;haveI L:=d.length;haveI R:∀{N:List Nat}{l:List V}{J X:Loc},tC N l J=some X->l.length=N.length:=λ{N}=>by
    induction N with
     |nil=>intro l J X h;cases l with|nil=>rfl|cons _ _=>cases h
     |cons x N ih=>intro l J X h;cases l with|nil=>cases h|cons v vs=>exact congrArg (·+1) (ih h)
   haveI K:=R G;haveI z:N.length=B.length:=by have:=congrArg List.length P;simpa using this
   refine A ?_;refine assign_Tuple_tuple (y.hh H) (items:=S.toArray) ⟨_,q.tO _ g1,rfl,n,rfl⟩ (by rw[e1,List.size_toArray];exact"?S[bo7|NQqZ|h[OK[HA$" L K z) e2 λ g j=>?_;haveI f4:=q.keep (W:=g) λ b o e=>j b o (Nat.ne_of_lt (Heap.lt_size e)) e;exact ua y F T P hk (s:=(bq s g tk)) f4 d G λ h5 bd be x5 f5=>p2.az x5 f5
  |_=>cases w
theorem Iq{X:Operator}{x y v:V}{R:Operator->V->V->V->Prop}(e:jX X x y=some v)(h1:∀i j,R .Add (.int i) (.int j) (.int (i+j)))(h2:∀i j,R .Sub (.int i) (.int j) (.int (i-j)))(N:∀i,R .RShift (.int i) (.int 7) (.int (i/128))):R X x y v:=by
 cases x with
  |int i=>
   cases y with
    |int j=>cases X with|Add=>exact Option.some.inj e▸h1 i j|Sub=>exact Option.some.inj e▸h2 i j|RShift=>exact uO e λ q e=>e▸q▸N i|_=>exact aJ e
    |_=>exact aJ e
  |_=>exact aJ e
theorem lD{G:Operator}{a b v:V}{x y:Value}{Q:Value->Shared->Prop}(R:aF c U a x)(N:aF c U b y)(e:jX G a b=some v)(h:∀X,aF c U v X->Q X {s with toks:=s.toks+1}):wpAny (model c.prog c.w) c.A (inplaceOp G x y) Q E s:=by exact Iq (R:=λ G a b v=>aF c U a x->aF c U b y->(∀X,aF c U v X->Q X {s with toks:=s.toks+1})->wpAny (model c.prog c.w) c.A (inplaceOp G x y) Q E s) e (λ _ _ R N h=>by obtain⟨_,rfl⟩:=R;obtain⟨_,rfl⟩:=N;exact PyProof.Rows.iadd_int (h _ .int)) (λ _ _ R N h=>by obtain⟨_,rfl⟩:=R;obtain⟨_,rfl⟩:=N;exact PyProof.Rows.isub_int (h _ .int)) (λ i R N h=>by obtain⟨_,rfl⟩:=R;obtain⟨_,rfl⟩:=N;exact irshift_int (by decide) ((Int.fdiv_eq_ediv_of_nonneg i (by decide:(0:Int)<=128)).symm▸h _ .int)) R N h
theorem Fb{X:Nat}{x:Str}{l:Operator}{px S:Pos}(L:aC c)(V:c.cm=none)(k:c.nt[X]?=some x)(H:iQ c X x=true)(N:c.env.kindOf x=some .local\/c.env.kindOf x=some .cell)(h:aX c O e):bD c (λ J Y=>(af (aQ X J) λ v=>Res.ok v Y).toS J λ a Y=>(O J Y).toS J λ b Y=>g9 (jX l a b) λ v=> .mk .az (dS X v J) Y) (.AugAssign (.Name x px) l e S):=by
 intro J Y U s Q E f p;haveI A:=H;simp only[iQ,Bool.and_eq_true,beq_iff_eq,Bool.not_eq_true']at A;have G:∀{F:Value->Shared->Prop},aq c (aF c) J U s F E (af (aQ X J) λ v=>Res.ok v Y)->wpAny (model c.prog c.w) c.A (loadName c.env x) F E s:=λ{F}p=>by
  refine p.some λ v P p=>?_;refine bf λ D R=>?_;obtain⟨n',M,T,d,w,t⟩:=f.lr X v P;obtain rfl:x=n':=Option.some.inj (k.symm.trans M);haveI y:=cG V;rw[y]at w t;rcases N with N|N;.refine R ?_;refine wpAny_loadName_local L.hk N f.F.ns ?_ (p.here f d);haveI:=w N;rw[V]at this;exact this
  .
   obtain@⟨@a,@o,h1,h2,h3⟩:=t (.inl N);refine R ?_;refine wpAny_loadName_cell L.hk N h1 ⟨o,f.N.get ?_,h3⟩ (p.here f d);rcases List.mem_append.mp h2 with q|q;.exact List.mem_append_left _ (List.mem_append_left _ q)
   .exact List.mem_append_right _ (List.mem_append_right _ q)
 refine wpAny_AugAssign_Name (G (p.bind λ a I W tk Z u xt i K p=>?_));refine h.env V _ _ _ _ _ _ i (p.bind λ b n B z m g j C rb p=>?_);refine p.some λ v H p=>?_;refine lD (K.up j.up) rb H λ T r=>?_;exact gf L V k N (s:=(bq s B (z+1))) C r λ h2 bd ad x2 f2=>p.az x2 f2
end
section
variable{c:Cx}{J:Loc}{Z:Hp}{Y ζ':Zs}{h h':Heap}{s:Shared}{E:Value->Shared->Prop}{Q:Flow->Shared->Prop}{U W N:Loc->Hp->Res V}{e o i O:Expr}{n:Nat}{X:kz}
set_option tactic.hygienic true in theorem B6{k:Nat}{x:Str}{y:Operator}{l D:Pos}(H:aC c)(V:c.cm=none)(T:aU)(t:∀C f x,c.nt[f]?=some x->kU T C f=true->attrOk c.K C x=true)(N:∀C f x,c.nt[f]?=some x->kU T C f=true->setOk c.K C x=true)(A:c.nt[k]?=some x)(h:aX c W o)(m:aX c U e):bD c (λ J Z=>(W J Z).toS J λ ov Z=>g9 (iq T Z k ov) λ a=>(U J Z).toS J λ b Z=>g9 (jX y a b) λ v=>g9 (setAttr T Z k v ov) λ Z=> .mk .az J Z) (.AugAssign (.Attribute o x l) y e D):=by intro J Z Y s Q E f p;refine wpAny_AugAssign_AttributeAny (h.env V _ _ _ _ _ _ f (p.bind λ ov u h' S ζ' F xt P z p=>?_));refine p.some λ a q p=>?_;refine mJ H T t A P z q λ w K=>?_;refine m.env V _ _ _ (bq s h' (S+1)) _ _ P (aO.bind (aO.ext (h:=h') (V:=S+1) .refl p) λ b j G L B M R I O p=>?_);refine p.some λ v d p=>?_;refine lD (K.up R.up) O d λ g r=>?_;refine p.some λ X e3 p=>?_;exact mS (s:=(bq s G (L+1))) H T N A I r (z.up R.up) e3 λ h2 ad n x2 i=>p.az x2 i
theorem vF{k:Nat}{x:Str}{K:Tok}{o v:V}{R:Value}{Q:Value->Shared->Prop}{E:Value->Shared->Prop}(T:aC c)(P:c.nt[k]?=some x)(f:FS c J Z Y s.heap)(r:aF c Y o R)(F:keyOf Z k o=some v)(h:∀w,aF c Y v w->Q w {s with toks:=s.toks+1}):wpAny (model c.prog c.w) c.A (getItem R (.str x K)) Q E s:=by refine rV F λ s g z H L I=>?_;subst H;obtain⟨_,rfl,A⟩:=r;refine f.rX L λ a o S q=>?_;obtain⟨_,B,j,M⟩:=q;cases A.symm.trans B;refine M.look T.nt P I λ G D C=>?_;exact kdt_getItem f.N (f.hG S) j (by simp[PySem.strKind,Value.isStrOf]) D (h G C)
theorem B7{k:Nat}{x:Str}{y:Operator}{A:Nat}{F m G:Pos}(H:aC c)(R:c.cm=none)(B:c.nt[k]?=some x)(i:aX c W o)(t:aX c U e):bD c (λ J Z=>(W J Z).toS J λ ov Z=>g9 (keyOf Z k ov) λ a=>(U J Z).toS J λ b Z=>g9 (jX y a b) λ v=>g9 (ir Z k v ov) λ Z=> .mk .az J Z) (.AugAssign (.Subscript o (.Constant (.str x) A F) m) y e G):=by intro J Z Y s Q E f p;refine wpAny_AugAssign_SubscriptAny (i.env R _ _ _ _ _ _ f (p.bind λ ov u h' D ζ' M xt S z p=>?_)) (by intros;rfl);refine wpAny_Constant_str (env:=c.env) (k:=A) (pos:=F) ?_;refine p.some λ a q p=>?_;refine vF H B (s:=(bq s h' (D+1))) S z q λ w L=>?_;refine t.env R _ _ _ (bq s h' (D+1+1)) _ _ S (aO.bind (aO.ext (h:=h') (V:=D+1+1) .refl p) λ b j I T C P V K l p=>?_);refine p.some λ v d p=>?_;refine lD (L.up V.up) l d λ g r=>?_;refine p.some λ O e3 p=>?_;exact mT (s:=(bq s I (T+1))) H B K r (z.up V.up) e3 λ h2 n N h X=>p.az h X
/-! the plain ones -/
theorem Fc{R:Pos}(D:c.cm=none)(L:aX c U e):bD c (λ J Z=>(U J Z).toS J λ v Z=> .mk (.ret v) J Z) (.Return (some e) R):=by intro J Z Y s Q E f p;exact wpAny_Return_some (L.env D _ _ _ _ _ _ f (p.bind λ v G h' K ζ' V T I r p=>p h' K ζ' V .refl I r))
set_option tactic.hygienic true in theorem B8{G:Pos}(I:c.cm=none)(j:aX c U e):bD c (λ J Z=>(U J Z).toS J λ v Z=>g9 (freeze Z v) λ p=> .mk (.ret p.1) J p.2) (.Return (some e) G):=by intro J Z Y s Q E f p;refine wpAny_Return_some (j.env I _ _ _ _ _ _ f (p.bind λ v D h' B ζ' A x L r p=>?_));refine p.some λ q F p=>?_;refine uT F λ M g l S H w=>?_;subst S w;obtain⟨b,rfl,z⟩:=r;refine qI L.R H λ t a _ K P R O V=>?_;obtain⟨W,k,y,u,m,C⟩:=R;cases y;obtain rfl:b=a:=Option.some.inj (z.symm.trans u);obtain@⟨d,T⟩:=L.pG (K:=D.drop M) P V rfl;exact p h' B _ _ T.toExtS d (.lst (.head _) m (C.up T.up))
theorem B9{V:Pos}:bD c (λ J Z=> .mk (.ret .none) J Z) (.Return none V):=by intro J Z Y s Q E f p;exact wpAny_Return_none (p s.heap s.toks _ _ .refl f .none)
theorem Fd{V:Pos}:bD c (λ J Z=> .mk .brk J Z) (.Break V):=by intro J Z Y s Q E f p;exact wpAny_Break (p s.heap s.toks _ .refl f)
theorem B_{V:Pos}(G:aC c)(R:c.cm=none)(I:bZ e=true)(T:aX c U e):bD c (λ J Z=>(U J Z).toS J λ _ Z=> .mk .az J Z) (.Expr e V):=by intro J Z Y s Q E f p;refine wpAny_Expr_any (T.env R _ _ _ _ _ _ f (p.bind λ v D h' F ζ' K H L r p=>p.az .refl L)) ?_ (eY I);haveI:=G.hk;simp[interactive,this]
theorem Fe{G:Pos}{a b:List Stmt}{D R:Loc->Hp->SR}(K:c.cm=none)(F:qJ c U e)(H:tX c D a)(M:tX c R b):bD c (λ J Z=>(aY U J Z).toS J λ t Z=>if t then D J Z else R J Z) (.If e a b G):=by intro J Z Y s Q E f p;haveI I:=cG K;refine wpAny_If ?_;haveI V:=F;unfold qJ at V;rw[I]at V;refine V _ _ _ _ _ _ f (p.bind λ t T h' S ζ' A P L r p=>?_);cases r;cases t with|true=>exact H _ _ _ _ _ _ L p|false=>exact M _ _ _ _ _ _ L p
theorem Ff:tX c (λ J Z=> .mk .az J Z) []:=by intro J Z Y s Q E f p;exact wpAny_execs_nil (p.az .refl f)
theorem aO.next{r:SR}{k:Loc->Hp->SR}{G:Flow->Shared->Prop}(p:aO c Y s Q E (r.next k))(h:∀V D h' R ζ',ExtS c Y ζ'->FS c V D ζ' h'->aO c ζ' (bq s h' R) Q E (k V D)->G .next (bq s h' R))(L:∀s,Q .brk s->G .brk s)(K:∀v s,Q (.ret v) s->G (.ret v) s):aO c Y s G E r:=by match r,p with|.mk .az J Z,p=>exact λ h' R ζ' x f=>h J Z h' R ζ' x f (aO.ext x p)|.mk .brk J Z,p=>exact λ h' R ζ' x f=>L _ (p h' R ζ' x f)|.mk (.ret v) J Z,p=>exact λ h' R ζ' I x f r=>K _ _ (p h' R ζ' I x f r)|.mk (.exc C false) J Z,p=>exact p|.mk (.exc C true) J Z,p=>exact p|.stuck,p=>exact p
theorem Ca{I:Stmt}{V:List Stmt}{D R:Loc->Hp->SR}(H:bD c D I)(T:tX c R V):tX c (λ J Z=>(D J Z).next R) (I::V):=by intro J Z Y s Q E f p;refine wpAny_execs_cons (H _ _ _ _ _ _ f (p.next (λ G K h' F ζ' x L p=>?_) (λ _ z=>z) (λ _ _ z=>z)));exact T _ _ _ _ _ _ L p
inductive Fg(c:Cx)(Q:Flow->Shared->Prop)(E:Value->Shared->Prop)(R:Loc->Hp->Res Bool)(V:Loc->Hp->SR):Nat->Shared->Prop|mk{n:Nat}{D:Shared}{J:Loc}{Z:Hp}{Y:Zs}:FS c J Z Y D.heap->aO c Y D Q E (dn R V n J Z)->Fg c Q E R V n D
theorem yH{j:Pos}{L:List Stmt}{R:Loc->Hp->SR}{n:Nat}(y:c.cm=none)(q:qJ c U e)(k:tX c R L):bD c (λ J Z=>dn (aY U) R n J Z) (.While e L [] j):=by intro J Z Y s Q E f p;haveI z:=cG y;haveI T:=q;unfold qJ at T;rw[z]at T;refine wpAny_While (codeAny_whileLoop (Fg c Q E (aY U) R) ?_ n (.mk f p));intro n B H;cases H with|@mk J Z Y f p=>cases n with|zero=>exact p.elim|succ n=>unfold dn at p;refine T _ _ _ _ _ _ f ?_;cases V:aY U J Z with|exc C G=>rw[V]at p;exact p.elim|stuck=>rw[V]at p;exact p.elim|ok b G=>rw[V]at p;intro h' w ζ' d S u g;cases g;cases b with|false=>replace p:aO c Y B Q E (.mk .az J G):=p;exact wpAny_execs_nil (p h' w _ S.toExtS u)|true=>replace p:aO c Y B Q E (match R J G with|.mk .az J Z=>dn (aY U) R n J Z|.mk .brk J Z=> .mk .az J Z|.mk (.ret v) J Z=> .mk (.ret v) J Z|_=> .stuck):=p;refine k _ _ _ (bq B h' w) _ _ u ?_;match t:R J G,p with|.mk .az D F,p=>exact λ h2 K I P M=>⟨n,Nat.lt_succ_self _,.mk M (aO.ext (S.toExtS.trans P) p)⟩|.mk .brk D F,p=>exact λ h2 K I P M=>p h2 K I (S.toExtS.trans P) M|.mk (.ret v) D F,p=>exact λ h2 K I A P M r=>p h2 K I A (S.toExtS.trans P) M r|.mk (.exc C b) D F,p=>exact p.elim|.stuck,p=>exact p.elim
end
section
variable{c:Cx}{Z:Loc}{J:Hp}{Y ζ':Zs}{h h':Heap}{s:Shared}{E:Value->Shared->Prop}{Q:Flow->Shared->Prop}{W O N:Loc->Hp->Res V}{e o i U:Expr}{n:Nat}{g:Led}
theorem cB.minus(I:∀p∈g,∀v,p.2.data≠ .cell v)(K:cB (c.sub g c.cm) Z Y):cB c Z Y:=λ x v e=>by
 refine bf λ R V=>?_;obtain⟨n,h1,D,h2,T,L⟩:=K x v e;refine V ?_;refine⟨n,h1,D,h2,T,λ F=>?_⟩;refine bf λ R V=>?_;obtain⟨a,o,H,X,G⟩:=L F;refine V ?_;refine⟨a,o,H,?_,G⟩;haveI X:(a,o)∈Y.br++(g++c.fr):=X;simp only[List.mem_append]at X⊢;rcases X with X|X|X;.exact .inl X
 .exact absurd G (I _ X _)
 .exact .inr X
theorem jm.yI{P:Params}{X:List Str}{K:Led}{G:List Addr}{I:Addr}{l:List V}{i:Nat}{o:Obj}(D:jm P X K G I l i o)(v:Option Value):o.data≠ .cell v:=by
 rcases D with⟨L,T,n,h1,h2,M,F,H,R⟩|⟨a,h1,h2,rfl⟩;.rw[R];exact λ q=>by cases q
 .exact λ q=>by cases q
abbrev Ir(v:V)(k:List V->Hp->SR)(J:Hp):SR:=match v with|.lst l=>k l J|_=> .stuck
inductive AJ(c:Cx)(Q:Flow->Shared->Prop)(E:Value->Shared->Prop)(X:Nat)(R:Loc->Hp->SR)(l:List V)(I:Addr):Nat->Shared->Prop|mk{D:Shared}{i:Nat}{Z:Loc}{J:Hp}{Y:Zs}{G:Obj}:i<=l.length->FS (c.sub [(I,G)] none) Z J Y D.heap->vB c Y I l i G->I∉addrs Y.fz->aO c Y D Q E (jI X R (l.drop i) Z J)->AJ c Q E X R l I (l.length+1-i) D
theorem Fh{X:Nat}{x:Str}{px ci:Pos}{D:Expr}{M:List Stmt}{K:Loc->Hp->SR}(ok:aC c)(G:c.cm=none)(hx:c.nt[X]?=some x)(hk:c.env.kindOf x=some .local\/c.env.kindOf x=some .cell)(N:gd D=true)(hs:d0 c W D)(hb:∀g,aC (c.sub g none)->tX (c.sub g none) K M):bD c (λ Z J=>if c.hd then .stuck else(W Z J).toS Z λ o J=>Ir o (λ l J=>jI X K l Z J) J) (.For (.Name x px) D M [] ci):=by
 intro Z J Y s Q E f p;by_cases O:c.hd=true;.simp only[O,if_true]at p;exact p.elim
 haveI O:c.hd=false:=by simpa using O
 simp only[O,Bool.false_eq_true,if_false]at p;have hh:=ok.hh O;haveI B:=hs;unfold d0 at B;rw[cG G]at B;refine wpAny_For (B _ _ _ _ _ _ f (p.bind λ v bn h' tk ζ' y xt f' r p=>?_)) (jr N);refine pH f' r λ l h1 I u hv f1 m cr bd=>?_;subst hv;replace p:aO c ζ' (bq s h' tk) Q E (jI X K l Z bn):=p;refine codeAny_forLoop (AJ c Q E X K l I) ?_ (l.length+1) (.mk (i:=0) (Nat.zero_le _) (by rw[<-G];exact f1) m cr (aO.ext .refl p));intro n s' H;cases H with
  |@mk _ i Z J Y u hi f m zI p=>
   have ad:∀q∈Y.fz,s'.heap.get? q.1=some q.2:=λ q hq=>(f.N q (HR hq)).1;have be:s'.heap.get? I=some u:=(f.N (I,u) (yE (.head _))).1;have P:∀{u:Obj}{i:Nat}{Z:Loc}{J:Hp}{Y:Zs}{h:Heap},FS (c.sub [(I,u)] none) Z J Y h->vB c Y I l i u->cB c Z Y:=λ{u i Z J Y h}f m=>by haveI:=f.lr;rw[<-G]at this;exact this.minus λ p J v=>by rw[List.mem_singleton.mp J];exact m.yI v
   have lr:=P f m;by_cases V:i<l.length;.
    obtain⟨v,A⟩:∃v,l[i]?=some v:=⟨l[i],List.getElem?_eq_getElem V⟩;haveI w:l.drop i=v::l.drop (i+1):=by
     rw[List.drop_eq_getElem_cons V];haveI:l[i]=v:=by rw[List.getElem?_eq_getElem V]at A;exact Option.some.inj A
     rw[this]
    rw[w]at p;unfold jI at p;refine r9 hh V m be ad λ v' y h3 S t bv rv bi db a=>?_;obtain rfl:v=v':=Option.some.inj (A.symm.trans bv);have f3:FS (c.sub [(I,t)] none) Z J Y h3:=f.yC I a (.head _) zI bd (λ p J=>by rw[List.mem_singleton.mp J];exact .inr ⟨rfl,bi⟩) (G▸lr.plus);have e:aC (c.sub [(I,t)] none):=ok.sub λ k q=>by cases q
    refine wpAny_assign_Name (gf (c:=c.sub [(I,t)] none) (s:=(bq s' h3 S)) e rfl hx hk f3 rv λ h4 ch ds U f4=>?_);haveI z:=db.up U.up;haveI ce:=U.off (.head _) zI;refine hb _ e _ _ _ (bq s' h4 ch) _ _ f4 ?_;match hr:K (dS X v Z) J,p with|.mk .az R d,p=>exact λ h2 T L F j=>⟨_,by exact"3lfdC.PLPNZBt_.xB/?tcaddPQ(," rfl rfl V,.mk (i:=i+1) V j (z.up F.up) (F.off (.head _) ce) (aO.ext (U.out.trans F.out) p)⟩|.mk .brk R d,p=>exact λ h2 T L F j=>p h2 T L (U.out.trans F.out) (j.out (P j (z.up F.up)))|.mk (.ret v) R d,p=>exact λ h2 T L y F j r=>p h2 T L y (U.out.trans F.out) (j.out (P j (z.up F.up))) r|.mk (.exc C b) R d,p=>exact p.elim|.stuck,p=>exact p.elim
   .obtain rfl:i=l.length:=Nat.le_antisymm hi (Nat.not_lt.mp V);rw[List.drop_length]at p;refine r_ hh m be ad λ h3 S a=>wpAny_execs_nil ?_;haveI f3:FS (c.sub [] none) Z J Y h3:=f.yC I a (.head _) zI bd (λ p J=>by cases J) (G▸lr.plus);exact p h3 S _ .refl (f3.out lr)
theorem ub{X:Nat}{x:Str}{px O U:Pos}{m H K:Expr}{t:List Expr}{R:Scope}{A F M:Loc->Hp->Res V}{P:Option Nat}{I ts:List Nat}{ns:List Str}(ok:aC c)(B:c.cm=none)(hx:c.nt[X]?=some x)(hk:c.env.kindOf x=some .local\/c.env.kindOf x=some .cell)(ga:swapsWith (.ListComp m [⟨K,H,t,0⟩] R O) (some (.Name x px)) U.line c.env=pure true)(T:t9 c.nt P I K ts ns)(S:E9 c R ns)(ad:gd H=true)(hI:∀g k,k.scope=R->aC (c.sub g (some k))->fG (c.sub g (some k)) F t)(hE:∀g k,k.scope=R->aC (c.sub g (some k))->aX (c.sub g (some k)) M m)(hs:d0 c A H):bD c (λ Z J=>(iz c.hd P I A F M Z J).toS Z λ v J=> .mk .az (dS X v Z) J) (.Assign [.Name x px] (.ListComp m [⟨K,H,t,0⟩] R O) U):=by
 intro Z J Y s Q E f p;by_cases n:c.hd=true;.simp only[iz,n,if_true]at p;exact p.elim
 haveI n:c.hd=false:=by simpa using n
 simp only[iz,n,Bool.false_eq_true,if_false]at p;refine f.scope S λ na W SO=>?_;haveI bv:=cG B;rw[exec_Assign_Name_used _ _ _ _ ga];refine wpAny_bind (wpAny_standAt (wpAny_bind ?_));show wpAny _ c.A (do
  let _<-comprehension (.ListComp m [⟨K,H,t,0⟩] R O) R c.env _ (newList []) false (eval H c.env) (some (assign (.Name x px) c.env))) _ _ s;refine wpAny_bind (wpAny_mono (wpAny_comprehension_free (use:=some (assign (.Name x px) c.env)) (Q:=λ _ s'=>Q .next s') rfl (jr ad) W S.kind (λ y hy _=>by rename_i hk;rw[S.look y hy,hk]) ?_) (λ _ s' hq=>wpAny_pure (wpAny_pure hq)) λ _ _ e=>e);rw[<-bv];haveI L:((A Z J).bind λ o J=>pO o (λ l J=>(bg (gc P I F M Z) l J).bind fH) J).toS Z (λ v J=>SR.mk .az (dS X v Z) J)=(A Z J).toS Z λ o J=>(pO o (λ l J=>(bg (gc P I F M Z) l J).bind fH) J).toS Z λ v J=> .mk .az (dS X v Z) J:=by cases A Z J<;>rfl
 rw[L]at p;refine hs _ _ _ _ _ _ f (p.bind λ v u h' tk ζ' lw xt f' r p=>?_);rw[bv];have pg:aq c (λ Y(v:V×Hp)(d:V×Hp×Zs×Value)=>d.1=v.1/\d.2.1=v.2/\d.2.2.1=Y/\aF c Y v.1 d.2.2.2) Z ζ' (bq s h' tk) (λ d s'=>aO c d.2.2.1 s' Q E (.mk .az (dS X d.1 Z) d.2.1)) E (pO v (λ l J=>(bg (gc P I F M Z) l J).bind λ l J=>(fH l J).bind λ v J=> .ok (v,J) J) u):=by
  haveI e:pO v (λ l J=>(bg (gc P I F M Z) l J).bind λ l J=>(fH l J).bind λ v J=>Res.ok (v,J) J) u=(pO v (λ l J=>(bg (gc P I F M Z) l J).bind fH) u).bind λ v J=> .ok (v,J) J:=by cases v<;>first|rfl|(exact(Res.bind_assoc _ _ _).symm)
  rw[e];revert p;generalize pO v (λ l J=>(bg (gc P I F M Z) l J).bind fH) u=r;intro p;cases r with|ok v2 L=>intro h2 j G d x2 N⟨e1,e2,e3,e5⟩;obtain⟨d1,d2,d3,d5⟩:=d;dsimp only at e1 e2 e3 e5⊢;subst e1 e2 e3;exact aO.ext x2.toExtS p|exc C L=>exact λ h2 j G e x2 N=>p h2 j G e x2.toExtS N|stuck=>exact p.elim
 refine mQ ok B n T SO hI hE (s:=(bq s h' tk)) f' r pg ?_;intro D C h2 j i a z m' k L G x2 N be h zD bi zC ds rv p2;by_cases hl:a.length<=lid;.
  haveI e:(fH a L).bind (λ v J=>Res.ok (v,J) J)= .ok (V.lst a,L) L:=by unfold fH;rw[if_pos hl];rfl
  rw[e]at p2;haveI bd:=x2.lr f'.lr;haveI f3:FS (c.sub [(C,z)] none) Z L G h2:=N.yC D (λ _ _ _ e=>e) (.tail _ (.head _)) zD bi (λ p J=>by rw[List.mem_singleton.mp J];exact .inl ⟨.head _,h⟩) (B▸bd.plus);haveI ha:∀p∈G.all (c.sub [(C,z)] none),p.1≠D:=λ p J e=>by
   rcases List.mem_append.mp J with J|J;.exact N.ap.off D (by have:=ah J;rw[e]at this;exact this) (show D∈addrs (G.fz++([(C,z),(D,aS i k)]++c.fr))from ah (p:=(D,aS i k)) (by simp))
   .
    rcases List.mem_append.mp J with J|J;.exact zD (e▸ah J)
    .
     rcases List.mem_cons.mp (show p∈(C,z)::c.fr from J)with rfl|J;.exact h e
     .exact bi (e▸ah J)
  obtain⟨f4,x4⟩:=FS.Ec (c:=c.sub [(C,z)] none) (a:=D) (o:=aS i k) f3 f3.F (λ p J=>by refine N.N p (show p∈(G.br++G.cl)++(G.fz++([(C,z),(D,aS i k)]++c.fr))from ?_);haveI J:p∈(D,aS i k)::((G.br++G.cl)++(G.fz++([(C,z)]++c.fr))):=J;simp only[List.mem_append,List.mem_cons,List.not_mem_nil,or_false]at J⊢;grind) ha;generalize ce:({G with fz:=(D,aS i k)::G.fz}:Zs)=w at f4 x4;have rD:aF c w (.lst a) (.ref D):=ce▸ .lst (.head _) (by rw[rv.length];exact hl) (rv.up (ce▸x4.up));haveI x5:=x4.out;haveI db:=x5.lr bd;haveI ps:=p2 h2 j w (V.lst a,L,w,.ref D) x5 (f4.out db) ⟨rfl,rfl,rfl,rD⟩;haveI dL:C∉addrs w.fz:=x4.off (.head _) zC;haveI cr:aC (c.sub [(C,z)] none):=ok.sub λ k q=>by cases q
  show wpAny _ _ (assign (.Name x px) c.env (.ref D)) _ _ _;refine wpAny_assign_Name (gf (c:=c.sub [(C,z)] none) (s:=(bq s h2 j)) cr rfl hx hk f4 rD λ h3 io bn x7 f7=>?_);refine⟨m',be.ns (f7.N (C,z) (yE (.head _))).1,λ h4 ci=>?_⟩;haveI ch:cB c (dS X (.lst a) Z) bn:=by haveI:=f7.lr;rw[<-B]at this;exact this.minus λ p J v q=>by rw[List.mem_singleton.mp J]at q;obtain⟨es,ep,ge,_⟩:=be;rw[ge]at q;cases q
  haveI f8:FS (c.sub [] none) (dS X (.lst a) Z) L bn h4:=f7.yC C (λ b x hb e=>ci.extBut b x (by simpa using hb) e) (.head _) (x7.off (.head _) dL) ds (λ p J=>by cases J) (B▸ch.plus);exact ps.az x7.out (f8.out ch)
 .
  have e:(fH a L).bind (λ v J=>Res.ok (v,J) J)=(.stuck:Res (V×Hp)):=by unfold fH;rw[if_neg hl];rfl
  rw[e]at p2;exact p2.elim
end
inductive se(c:Cx):(Loc->Hp->Res (List V))->List Expr->Prop|nil:se c (λ _ Z=> .ok [] Z) []|str{x:Str}{Q:Nat}{X:Pos}{J:Loc->Hp->Res (List V)}{U:List Expr}:x.length<=1000->se c J U->se c J (.Constant (.str x) Q X::U)|fv{W:Loc->Hp->Res V}{e:Expr}{p:Pos}{J:Loc->Hp->Res (List V)}{U:List Expr}:aX c W e->se c J U->se c (λ Y Z=>(W Y Z).bind λ v Z=>(J Y Z).bind λ O Z=> .ok (v::O) Z) (.FormattedValue e (-1) none p::U)
theorem yJ{i:Int}(h:-18446744073709551616<i/\i<18446744073709551616):i.natAbs.log2<64:=by
 by_cases J:i.natAbs=0;.rw[J];decide
 .refine(Nat.log2_lt J).mpr ?_;exact Bs h
section
variable{c:Cx}{Z:Loc}{Y:Hp}{W U:Zs}{h X:Heap}{s:Shared}{E:Value->Shared->Prop}{D G I:Loc->Hp->Res V}{e o i R:Expr}{n:Nat}{g:Led}
theorem vG(d:c.cm=none){T:Loc->Hp->Res (List V)}{B:List Expr}(J:se c T B):∀{Y H:Hp}{P:List V}{W:Zs}{s:Shared}{O:Str}{Q:Value->Shared->Prop},FS c Z Y W s.heap->T Z Y= .ok P H->bN P=true->O.length+2000*B.length<=sizeLine->(∀y t X k U,Ext c W U->FS c Z H U X->Q (.str y t) (bq s X k))->wpAny (model c.prog c.w) c.A (joinParts O (evalEach B c.env)) Q E s:=by
 induction J with
  |nil=>intro Y H P W s O Q f e N M h;refine bf λ z F=>?_;cases e;refine F ?_;exact joinParts_nil (h _ _ s.heap (s.toks+1) _ .refl f) (by simpa using M)
  |@str x g a T B l J b=>intro Y H P W s O Q f e N M h;show wpAny _ _ (joinParts O (eval (.Constant (.str x) g a) c.env::evalEach B c.env)) _ _ _;simp only[List.length_cons]at M;haveI K:(O++x).length=O.length+x.length:=strLen_append ..;refine joinParts_cons (wpAny_Constant_str ⟨K▸Av M l,?_⟩);exact b (s:={s with toks:=s.toks+1}) f e N (K▸Aw M l) h
  |@fv D e p T B n J b=>
   intro Y H P W s O Q f L N M h;show wpAny _ _ (joinParts O (eval (.FormattedValue e (-1) none p) c.env::evalEach B c.env)) _ _ _;simp only[List.length_cons]at M;dsimp only at L;cases w:D Z Y with
    |exc C A=>rw[w]at L;cases L
    |stuck=>rw[w]at L;cases L
    |ok v A=>
     rw[w]at L;replace L:((T Z A).bind λ P Y=>Res.ok (v::P) Y)= .ok P H:=L;cases u:T Z A with
      |exc C m=>rw[u]at L;cases L
      |stuck=>rw[u]at L;cases L
      |ok ad m=>
       rw[u]at L;cases L;refine joinParts_cons (FormattedValue_plain (n.env d _ _ _ _ _ _ f ?_));rw[w];intro h1 r o R x1 f1 G;refine bf λ z F=>?_;cases v with
        |int i=>
         obtain⟨t,rfl⟩:=G;unfold bN at N;rw[Bool.and_eq_true,decide_eq_true_eq]at N;haveI S:=yJ N.1;refine F ?_;refine formatField_int_small (Nat.lt_trans S (by decide)) ?_;haveI q:=int_text_length_le (k:=64) (by decide) S;haveI K:(O++(toString i:Str)).length=O.length+(toString i:Str).length:=strLen_append ..;haveI j:((toString i:Str)).length<=200:=by haveI I:((toString i:Str)).length=(toString i).length:=PySem.ofString_length _;rw[I];exact"sQsXU?T[9*H]:" q
         refine⟨K▸Av M (Nat.le_trans j (by decide)),?_⟩;exact b (s:=(bq s h1 (r+1+1))) f1 u N.2 (K▸Aw M (Nat.le_trans j (by decide))) λ y t X k U x f=>h y t X k U (x1.trans x) f
        |_=>cases N
def JL:List Value:=[.type "Exception",.type "BaseException",.type "object"]
theorem yK{C:Nat}{x:Str}{F:Loc->Hp->Res (List V)}{L H:Expr}{K:List Expr}{h A a jp:Pos}(k:aC c)(u:c.cm=none)(G:a7 c.K c.env.kindOf x C=true)(hx:excIn c.K C JL "Exception.__new__"=true)(J:se c F (L::H::K))(j:K.length<=100):bD c (λ Z Y=>if c.hd then .stuck else match F Z Y with|.ok B Y=>if bN B then .mk (.exc C true) Z Y else .stuck|_=> .stuck) (.Raise (some (.Call (.Name x h) [.JoinedStr (L::H::K) jp] [] A)) none a):=by
 intro Z Y W s Q E f p;by_cases z:c.hd=true;.simp only[z,if_true]at p;exact p.elim
 have z:c.hd=false:=by simpa using z
 simp only[z,Bool.false_eq_true,if_false]at p;haveI S:=G;simp only[a7,Bool.and_eq_true,beq_iff_eq,Bool.not_eq_true']at S;obtain@⟨@⟨h1,D⟩,hk⟩:=S;haveI O:=own_of_in k.X k.T h1 hx;obtain⟨tl,N,I,q,n,w,sn,U,i,l,g,k0,k1,k2,k3,k5,mN,hC,hN,m,T⟩:=O.obj;cases d:F Z Y with
  |exc C ad=>rw[d]at p;exact p.elim
  |stuck=>rw[d]at p;exact p.elim
  |ok B v=>
   rw[d]at p;by_cases r:bN B=true;.
    replace p:aO c W s Q E (if bN B=true then .mk (.exc C true) Z v else .stuck):=p;rw[if_pos r]at p;haveI P:=cG u;refine wpAny_Raise_call_subT (C:=C) (nm:=I) (q:=q) (N:=N) (bs:=n) (bm:=tl) (hdct:=w) (sn:=sn) (sub:=U) (ab:=i) (col:=l) (dd:=g) (k0:=k0) (k1:=k1) (k2:=k2) (k3:=k3) (k5:=k5) PySem.F.excBase_Exception (mN:=mN) (T.hasType PySem.F.excBase_Exception.hasBase) (k.hh z) rfl m ?_;rw[<-P];refine dw k f h1 ⟨rfl,?_⟩ (by rw[P];exact hk) D;rw[P];refine evalArgs_plain (spliced_more (JoinedStr_many (vG u J f d r ?_ ?_)));.
     haveI:(5000000:Nat)<=sizeLine:=by decide
     simp only[List.length_cons];exact Ez j this
    .
     intro y t h2 X R x2 M;refine spliced_none ⟨rfl,by show 1<=sizeLine;decide,?_,?_,?_,λ h3 e hm=>?_⟩;.exact M.F.keep _ _ (M.B.stays _ _ hC)
     .exact hN.keeps λ b o e=>M.F.keep _ _ (M.B.stays _ _ e)
     .exact T.keeps λ b o e=>M.F.keep _ _ (M.B.stays _ _ e)
     .exact p h2 h3 X R e _ x2.toExtS M hm
   .replace p:aO c W s Q E (if bN B=true then .mk (.exc C true) Z v else .stuck):=p;rw[if_neg r]at p;exact p.elim
end
section
variable{Y:Around}{U g G Z B:Heap}{J:List Env}{L:Addr}{W:Env}{m:Str->Option Value}
theorem jN(M:W.frame=some L)(K:Below Y U J g)(F:Fr g L G m)(I:∀b o,G.get? b=some o->b∉(W::J).filterMap (·.frame)->B.get? b=some o)(D:B.StaysIn Z)(N:G.UpToSlots Z):∃R,KtsTurn (J.filterMap (·.frame)) g R/\Fr R L Z m/\Below Y U J R:=by
 obtain⟨T,S⟩:=kts_turn_at (h:=Z) (fs:=J.filterMap (·.frame)) (g:=g) (λ b E=>by refine bf λ X Q=>?_;obtain⟨_,o,A,_⟩:=K.frames.mem E;refine Q ?_;exact⟨o,A⟩) (λ b o e H=>D b o (I b o (F.keep b o e) (λ O=>by
  rcases kD M O with z|z;.rw[z,kts_self F]at e;cases e
  .exact H z))) (λ b o e O=>by refine bf λ X Q=>?_;obtain⟨_,y,V,P⟩:=K.frames.mem O;rw[e]at V;cases V;refine Q ?_;exact N b o (F.keep b o e) P);refine⟨_,T,⟨N.ns F.ns,S,by rw[T.size];exact F.above⟩,⟨K.stack,λ b o e=>T.other b o (K.stays b o e) (λ O=>by rw[(K.frames.mem O).1]at e;cases e),K.frames.of_keeps λ b o e _=>?_⟩⟩;obtain@⟨@j,C⟩:=T.up e;exact⟨_,C,rfl⟩
end
abbrev Cx.hand(c:Cx)(e:Addr):Cx:={c with A:=c.A.mark (some (.ref e)),hd:=true}
def cH(c:Cx)(X:Expr)(C:Nat):Prop:=∀(e:Addr)Z V W s(Q:Bool->Shared->Prop)(E:Value->Shared->Prop),FS (c.hand e) Z V W s.heap->(∃ob,s.heap.get? e=some ob/\ob.cls= .ref C)->(∀Y O,(∀b o,s.heap.get? b=some o->Y.get? b=some o)->Q true (bq s Y O))->∀U,wpAny (model c.prog c.w) (c.hand e).A (eval X c.env) (λ v J=>wpAny (model c.prog c.w) (c.hand e).A (excMatches (.ref e) v) Q U J) E s
section
variable{c:Cx}{J:Loc}{Y:Hp}{Z O:Zs}{h U:Heap}{s:Shared}{E:Value->Shared->Prop}{X N D:Loc->Hp->Res V}{o i W:Expr}{n:Nat}{g:Led}
theorem yL{C:Nat}{e:Addr}{tt:Expr}{d:Stmt}{A:List Stmt}{db:Pos}{h:List ExceptHandler}{Q:Flow->Shared->Prop}(ok:aC c)(x:XS c C J Y Z e s.heap)(T:cH c tt C)(k:∀U tk M(E':Value->Shared->Prop),KtsTurn (kA c.outer) Z.h₀ M->FS (c.hand e) J Y {Z with h₀:=M} U->wpAny (model c.prog c.w) (c.hand e).A (execs (d::A) c.env) Q E' (bq s U tk)):wpAny (model c.prog c.w) c.A (noteFrame (.ref e) c.env) (λ _ i=>wpAny (model c.prog c.w) c.A (setFlight (.ref e) none) (λ _ ad=>wpAny (model c.prog c.w) c.A (handleBy (.ref e) c.env (.ExceptHandler (some tt) none (d::A) db::h)) Q E ad) E i) E s:=by
 refine bf λ y V=>?_;obtain⟨G,t,vs,F,R,ce⟩:=x.fl;obtain⟨⟨B,hB,o,hl,X,be⟩,bd⟩:=R;have hL:B.get? c.L=none:=by refine bf λ y V=>?_;obtain⟨_,⟨L',_,hf,m,_⟩,_⟩:=X.2.2.1;obtain rfl:c.L=L':=Option.some.inj hf;refine V ?_;exact m
 haveI cr:∀{gg hh:Heap},KtsTurn (kA c.outer) Z.h₀ gg->B.StaysIn hh->News gg c.L hh (Z.all c):=λ{gg hh}T st q b=>⟨st _ _ (hl q b).1,λ z=>(by have:=(hl q b).1;rw[z,hL]at this;cases this),T.none_ _ (kts_none F.keep (hl q b).2.1)⟩;refine V ?_;refine wpAny_looks_onW ok.frames rfl X λ dL H w=>?_;refine wpAny_landsW H λ P K j=>?_;have I:=w.trans j;obtain@⟨@N,p,bn,n⟩:=jN rfl x.B F o K.1 (ce.trans I);haveI D:FS (c.hand e) J Y {Z with h₀:=N} P:=⟨n,x.D.turn p,bn,cr p K.1,x.R,x.ap,x.lr,x.fc⟩;refine wpAny_handleBy_cons (codeAny_handlers_test (T e _ _ _ {s with heap:=P} _ _ D K.there (λ f l kp=>?_) _)) (by intro q;cases q);haveI bv:=RaisedS.keeps (h:=P) (h':=f) ⟨⟨B,hB,o,hl,K,be⟩,bd.of_slots I⟩ kp;obtain⟨⟨B',ga,bi,a,r,ci⟩,_⟩:=bv;haveI v:G.UpToSlots f:=(ce.trans I).trans (Heap.UpToSlots.of_keeps kp);have ds:B'.get? c.L=none:=by refine bf λ y V=>?_;obtain⟨_,⟨L',_,hf,m,_⟩,_⟩:=r.2.2.1;obtain rfl:c.L=L':=Option.some.inj hf;refine V ?_;exact m
 refine codeAny_handlers_suite ?_;refine lands_againW r λ g L u=>?_;refine bf λ y V=>?_;obtain⟨ch,S,W,O⟩:=jN rfl x.B F bi L.1 (v.trans u);refine V ?_;exact k g l ch _ S ⟨O,x.D.turn S,W,λ q b=>⟨L.1 _ _ (a q b).1,λ z=>(by have:=(a q b).1;rw[z,ds]at this;cases this),S.none_ _ (kts_none F.keep (a q b).2.1)⟩,x.R,x.ap,x.lr,x.fc⟩
end
section
variable{c:Cx}{Z:Loc}{Y:Hp}{W J:Zs}{h U:Heap}{s:Shared}{E:Value->Shared->Prop}{X R D:Loc->Hp->Res V}{o i O:Expr}{n:Nat}{g:Led}
theorem aC.hand(Q:aC c)(e:Addr):aC (c.hand e):=⟨Q.X,Q.T,Q.frames,Q.hk,(λ q=>by cases q),Q.units,Q.nt,Q.EG,Q.inj⟩
theorem vH{x:Str}{C:Nat}{p:Pos}(B:aC c)(M:c.cm=none)(S:a7 c.K c.env.kindOf x C=true)(A:ktsIn c.K C "BaseException"=true):cH c (.Name x p) C:=by intro e Z Y W s Q E f⟨ob,H,I⟩k a;have K:=B.hand e;have G:=S;simp only[a7,Bool.and_eq_true,beq_iff_eq,Bool.not_eq_true']at G;obtain⟨⟨h1,F⟩,u⟩:=G;have L:(c.hand e).ev=c.env:=cG (c:=c.hand e) M;rw[<-L];refine dw K f h1 ?_ (by rw[L];exact u) F;obtain⟨d,r,N,m,O,P,X,w,b,z,t,J,U,R,D,g,T,y,V,q⟩:=kts_cls ((f.K K).keeps f.F.keep) A;obtain⟨v,o,i,j,l⟩:=s;exact wpAny_excMatches_sub_self y H I V (k v j λ _ _ e=>e)
theorem pS{j z:Str}{A B C:Nat}{w m p:Pos}{b:Nat}(u:aC c)(P:c.cm=none)(I:a7 c.K c.env.kindOf j A=true)(L:a7 c.K c.env.kindOf z B=true)(v:exmAny c.K (.ref C) [.ref A,.ref B]=some true):cH c (.Tuple [.Name j w,.Name z m] b p) C:=by intro e Z Y W s Q E f⟨ob,H,K⟩k l;have V:=u.hand e;simp only[a7,Bool.and_eq_true,beq_iff_eq,Bool.not_eq_true']at I L;obtain⟨⟨h1,M⟩,r⟩:=I;obtain⟨⟨h2,G⟩,T⟩:=L;have N:(c.hand e).ev=c.env:=cG (c:=c.hand e) P;refine Tuple_ (spliced_more ?_);rw[<-N];refine dw V f h1 ?_ (by rw[N];exact r) M;refine spliced_more (dw V f h2 ?_ (by rw[N];exact T) G);refine spliced_none (newTuple_NK f.F f.N (λ F q d S=>?_) (dY (by simp)));have y:=(f.K V).keeps q.keep;have t:Looks (model c.prog c.w) F (typeOf (.ref e)) (.ref C):=K▸(show Looks (model c.prog c.w) F (typeOf (.ref e)) ob.cls from(Looks.ld (S _ _ H)).andThen .now);refine(exm_tup2 y t (d _ (.head _)).1 v).here ?_;exact k F s.toks S
theorem aO.hand{e:Addr}{r:SR}{V:Heap}{N:Nat}{Q:Flow->Shared->Prop}{H:Value->Shared->Prop}(I:c.hd=false)(T:KtsTurn (kA c.outer) W.h₀ V)(p:aO c W s Q E (match r with|.mk (.exc _ _) _ _=> .stuck|r=>r)):aO (c.hand e) {W with h₀:=V} (bq s h N) Q H r:=by
 have G:∀{J:Zs},ExtS (c.hand e) {W with h₀:=V} J->ExtS c W J:=λ{J}x=>by
  obtain⟨t,a,b⟩:=x;have e:J.h₀=V:=by unfold Turn at t;rw[if_pos (show(c.hand e).hd=true from rfl)]at t;exact t
  exact⟨by unfold Turn;rw[if_neg (by rw[I];decide),e];exact T,a,b⟩
 have L:∀{Z:Loc}{Y:Hp}{W:Zs}{h:Heap},FS (c.hand e) Z Y W h->FS c Z Y W h:=λ f=>⟨f.B,f.D,f.F,f.N,f.R,f.ap,f.lr,f.fc⟩;match r,p with|.mk .az Z Y,p=>exact λ U N J x f=>p U N J (G x) (L f)|.mk .brk Z Y,p=>exact λ U N J x f=>p U N J (G x) (L f)|.mk (.ret v) Z Y,p=>exact λ U N J K x f r=>p U N J K (G x) (L f) r|.mk (.exc C b) Z Y,p=>exact p.elim|.stuck,p=>exact p.elim
theorem Fi{K N:List Stmt}{I:Stmt}{w:Expr}{P j:Pos}{y:List Nat}{T M:Loc->Hp->SR}(u:aC c)(l:∀C,bW C y=true->cH c w C)(d:tX c T K)(q:∀e,aC (c.hand e)->tX (c.hand e) M (I::N)):bD c (λ Z Y=>match T Z Y with|.mk (.exc C H) Z Y=>if c.hd||H then .stuck else if bW C y then(match M Z Y with|.mk (.exc _ _) _ _=> .stuck|r=>r)else .stuck|r=>r) (.Try K [.ExceptHandler (some w) none (I::N) P] [] [] j):=by
 intro Z Y W s Q E f p;refine wpAny_Try_except (d _ _ _ _ _ _ f ?_);dsimp only at p;revert p;generalize T Z Y=r;intro p;match r,p with
  |.mk .az V G,p=>exact λ U L J x f=>wpAny_execs_nil (p U L J x f)
  |.mk .brk V G,p=>exact λ U L J x f=>p U L J x f
  |.mk (.ret v) V G,p=>exact λ U L J S x f r=>p U L J S x f r
  |.mk (.exc C true) V G,p=>simp only[Bool.or_true,if_true]at p;exact p.elim
  |.mk (.exc C false) V G,p=>
   intro U L J e k t;by_cases F:c.hd=true;.simp only[F,Bool.true_or,if_true]at p;exact p.elim
   .
    have F:c.hd=false:=by simpa using F
    simp only[F,Bool.or_false,Bool.false_eq_true,if_false]at p;by_cases B:bW C y=true;.rw[if_pos B]at p;refine yL (s:=(bq s U L)) u t (l C B) λ h2 z A a m b=>?_;exact q e (u.hand e) _ _ _ (bq s h2 z) _ _ b (aO.hand F m (aO.ext k p))
    .rw[if_neg B]at p;exact p.elim
  |.stuck,p=>exact p.elim
end
/-! the shapes of the text -/
def bU{J:Type}(o:Option J)(f:J->Bool):Bool:=match o with|some a=>f a|none=>false
theorem Cb{J:Type}{o:Option J}{f:J->Bool}(h:bU o f=true):∃a,f a=true:=match o,h with|some a,h=>⟨a,h⟩
theorem an{a b:Bool}(h:(a&&b)=true):a=true/\b=true:=match a,h with|true,h=>⟨rfl,h⟩
def sf(e:Expr):Option {x:Expr×Str×Pos//e= .Attribute x.1 x.2.1 x.2.2}:=if h:e.ctorIdx=20 then some (Expr.Attribute.elim e h λ o x p=>⟨(o,x,p),rfl⟩)else none
def Fj(e:Expr):Option {x:Expr×Operator×Expr×Pos//e= .BinOp x.1 x.2.1 x.2.2.1 x.2.2.2}:=if h:e.ctorIdx=2 then some (Expr.BinOp.elim e h λ l J r p=>⟨(l,J,r,p),rfl⟩)else none
def JM(e:Expr):Option {x:UnaryOp×Expr×Pos//e= .UnaryOp x.1 x.2.1 x.2.2}:=if h:e.ctorIdx=3 then some (Expr.UnaryOp.elim e h λ J o p=>⟨(J,o,p),rfl⟩)else none
def AK(e:Expr):Option {x:BoolOp×List Expr×Pos//e= .BoolOp x.1 x.2.1 x.2.2}:=if h:e.ctorIdx=0 then some (Expr.BoolOp.elim e h λ J l p=>⟨(J,l,p),rfl⟩)else none
def It(e:Expr):Option {x:Expr×List CmpOp×List Expr×Pos//e= .Compare x.1 x.2.1 x.2.2.1 x.2.2.2}:=if h:e.ctorIdx=15 then some (Expr.Compare.elim e h λ l J r p=>⟨(l,J,r,p),rfl⟩)else none
def qZ(e:Expr):Option {x:Expr×Expr×Pos//e= .Subscript x.1 x.2.1 x.2.2}:=if h:e.ctorIdx=21 then some (Expr.Subscript.elim e h λ l i p=>⟨(l,i,p),rfl⟩)else none
def vJ(e:Expr):Option {x:Option Expr×Option Expr×Option Expr×Pos//e= .Slice x.1 x.2.1 x.2.2.1 x.2.2.2}:=if h:e.ctorIdx=26 then some (Expr.Slice.elim e h λ a b c p=>⟨(a,b,c,p),rfl⟩)else none
def vK(e:Expr):Option {x:Const×Nat×Pos//e= .Constant x.1 x.2.1 x.2.2}:=if h:e.ctorIdx=19 then some (Expr.Constant.elim e h λ x k p=>⟨(x,k,p),rfl⟩)else none
def Cc(e:Expr):Option {x:List Expr×Nat×Pos//e= .Tuple x.1 x.2.1 x.2.2}:=if h:e.ctorIdx=25 then some (Expr.Tuple.elim e h λ l k p=>⟨(l,k,p),rfl⟩)else none
def dList(e:Expr):Option {x:List Expr×Pos//e= .List x.1 x.2}:=if h:e.ctorIdx=24 then some (Expr.List.elim e h λ l p=>⟨(l,p),rfl⟩)else none
def Fl(e:Expr):Option {x:List (Option Expr)×List Expr×Pos//e= .Dict x.1 x.2.1 x.2.2}:=if h:e.ctorIdx=6 then some (Expr.Dict.elim e h λ l v p=>⟨(l,v,p),rfl⟩)else none
def AL(e:Expr):Option {x:Expr×List Expr×List Keyword×Pos//e= .Call x.1 x.2.1 x.2.2.1 x.2.2.2}:=if h:e.ctorIdx=16 then some (Expr.Call.elim e h λ f J k p=>⟨(f,J,k,p),rfl⟩)else none
def Fm(e:Expr):Option {x:Expr×List Comprehension×Scope×Pos//e= .ListComp x.1 x.2.1 x.2.2.1 x.2.2.2}:=if h:e.ctorIdx=8 then some (Expr.ListComp.elim e h λ e g J p=>⟨(e,g,J,p),rfl⟩)else none
/-! the checker -/
abbrev Kd:=Str->Option NameKind
def yM(Z:List Str)(J:Kd)(x:Nat)(n:Str):Bool:=Z[x]?==some n&&!(n==("__debug__":Str))&&!(n==("__classdict__":Str))&&(match J n with|some .local=>true|some .cell=>true|some .free=>true|_=>false)
def pU(J:Kd)(n:Str):Bool:=(J n==some .local)||(J n==some .cell)
def globK(K:Frag)(J:Kd)(n:Str)(i:Int):Bool:=(match nsIn K mainGlobals n with|some (some (.int j _))=>i==j|_=>false)&&!(n==("__debug__":Str))&&(J n==some .globalImplicit)
def mU(K:Frag)(J:Kd)(n:Str)(v:Value):Bool:=(nsIn K mainGlobals n==some none)&&(bootBuiltins n==some v)&&!(n==("__name__":Str))&&!(n==("__debug__":Str))&&(J n==some .globalImplicit)
def vM(e:Expr):Option {x:Str×Nat×Pos//e= .Constant (.str x.1) x.2.1 x.2.2}:=match vK e with|some ⟨(.str x,k,p),h⟩=>some ⟨(x,k,p),h⟩|_=>none
def one{J:Type}(l:List J)(f:J->Bool):Bool:=match l with|[a]=>f a|_=>false
theorem iA{J:Type}{l:List J}{f:J->Bool}{P:List J->Prop}(h:one l f=true)(k:∀a,f a=true->P [a]):P l:=match l,h with|[a],h=>k a h
def two(l:List Expr)(f:Expr->Expr->List Expr->Bool):Bool:=match l with|a::b::r=>f a b r|_=>false
theorem vO{l:List Expr}{f:Expr->Expr->List Expr->Bool}{P:List Expr->Prop}(h:two l f=true)(k:∀a b r,f a b r=true->P (a::b::r)):P l:=match l,h with|a::b::r,h=>k a b r h
theorem js{J:Type}{l:List J}{P:List J->Prop}(h:l.isEmpty=true)(k:P []):P l:=match l,h with|[],_=>k
theorem bP{Z J:Type}{g:J->Z}{e:Z}{o:Option {x:J//e=g x}}{f:{x:J//e=g x}->Bool}{P:Z->Prop}(h:bU o f=true)(k:∀x(q:e=g x),f ⟨x,q⟩=true->P (g x)):P e:=(Cb h).elim λ x h=>Eq.mpr (congrArg P x.2) (k x.1 x.2 h)
def AM(Z:BoolOp)(r:Expr)(J:List Expr)(p:Pos):Expr:=match J with|[]=>r|_=> .BoolOp Z (r::J) p
def vP(b:Bool)(f:Expr->Bool)(x:Option Expr):Bool:=match x with|none=>b|some x=>f x
def cN(e:Expr)(f:Str->List Expr->Bool):Bool:=bU (AL e) λ y=>bU (fF y.1.1) λ z=>y.1.2.2.1.isEmpty&&f z.1.1 y.1.2.1
theorem Fn{e:Expr}{f:Str->List Expr->Bool}{P:Expr->Prop}(h:cN e f=true)(k:∀x Z J p,f x J=true->P (.Call (.Name x Z) J [] p)):P e:=bP h λ y _ h=>bP (P:=λ g=>P (.Call g y.2.1 y.2.2.1 y.2.2.2)) h λ z _ h=>js (P:=λ l=>P (.Call (.Name z.1 z.2) y.2.1 l y.2.2.2)) (an h).1 (k z.1 z.2 y.2.1 y.2.2.2 (an h).2)
def cA(e:Expr)(f:Expr->Str->Pos->List Expr->Pos->Bool):Bool:=bU (AL e) λ y=>bU (sf y.1.1) λ z=>y.1.2.2.1.isEmpty&&f z.1.1 z.1.2.1 z.1.2.2 y.1.2.1 y.1.2.2.2
theorem HS{e:Expr}{f:Expr->Str->Pos->List Expr->Pos->Bool}{P:Expr->Prop}(h:cA e f=true)(k:∀o x J Z p,f o x J Z p=true->P (.Call (.Attribute o x J) Z [] p)):P e:=bP h λ y _ h=>bP (P:=λ g=>P (.Call g y.2.1 y.2.2.1 y.2.2.2)) h λ z _ h=>js (P:=λ l=>P (.Call (.Attribute z.1 z.2.1 z.2.2) y.2.1 l y.2.2.2)) (an h).1 (k z.1 z.2.1 z.2.2 y.2.1 y.2.2.2 (an h).2)
def b1(K:Frag)(J:Kd)(v:Value)(e:Expr)(f:Expr->Bool):Bool:=cN e λ x Z=>mU K J x v&&one Z λ o=>notStar o&&f o
theorem Ed{K:Frag}{Z:Kd}{v:Value}{e:Expr}{f:Expr->Bool}{P:Expr->Prop}(h:b1 K Z v e f=true)(k:∀x J o p,mU K Z x v=true->notStar o=true->f o=true->P (.Call (.Name x J) [o] [] p)):P e:=Fn h λ x J Y p h=>iA (P:=λ Y=>P (.Call (.Name x J) Y [] p)) (an h).2 λ o q=>k x J o p (an h).1 (an q).1 (an q).2
def b2(K:Frag)(J:Kd)(v:Value)(e:Expr)(f:Expr->Expr->Bool):Bool:=cN e λ x Z=>mU K J x v&&two Z λ a b r=>r.isEmpty&&(notStar a&&(notStar b&&f a b))
theorem Iu{K:Frag}{Z:Kd}{v:Value}{e:Expr}{f:Expr->Expr->Bool}{P:Expr->Prop}(h:b2 K Z v e f=true)(k:∀x J a b p,mU K Z x v=true->notStar a=true->notStar b=true->f a b=true->P (.Call (.Name x J) [a,b] [] p)):P e:=Fn h λ x J Y p h=>vO (P:=λ Y=>P (.Call (.Name x J) Y [] p)) (an h).2 λ a b r q=>js (P:=λ r=>P (.Call (.Name x J) (a::b::r) [] p)) (an q).1 (k x J a b p (an h).1 (an (an q).2).1 (an (an (an q).2).2).1 (an (an (an q).2).2).2)
def AN:V->Option Const|.int i=>some (.int i)|.none=>some .none|.bool b=>some (.bool b)|.ig []=>some (.bytes [])|_=>none
def Iv(v:V):Option {i:Int//v= .int i}:=match v with|.int i=>some ⟨i,rfl⟩|_=>none
def Fo(v:V)(f:Int->Bool):Bool:=bU (Iv v) λ y=>f y.1
def Fp(K:Frag)(J:Kd)(v:V)(e:Expr):Bool:=bU (vK e) (λ x=>AN v==some x.1.1)||Fo v λ i=>bU (fF e) λ y=>globK K J y.1.1 i
def dC(J:PE):Option {v:V//J= .c v}:=match J with|.c v=>some ⟨v,rfl⟩|_=>none
def Iw(v:V):Option {u:Unit//v=(λ _=>V.none) u}:=match v with|.none=>some ⟨(),rfl⟩|_=>none
def Iy(v:V):Option {b:Bool//v= .bool b}:=match v with|.bool b=>some ⟨b,rfl⟩|_=>none
def yN(J:PE)(f:V->Bool):Bool:=bU (dC J) λ y=>f y.1
def iT(J:PE):Bool:=yN J λ v=>bU (Iw v) λ _=>true
def sj(J:PE):Bool:=yN J λ v=>bU (Iy v) λ b=>b.1
def yO(J:PE):Bool:=yN J λ v=>Fo v λ i=>i==0
def Cd(Z:List Str)(o:Option Nat)(J:List Nat)(t:Expr)(f:List Nat->List Str->Bool):Bool:=match o with|some X=>bU (fF t) λ x=>(Z[X]?==some x.1.1)&&f [X] [x.1.1]|none=>bU (Cc t) λ y=>(y.1.1.map j9==(y.1.1.filterMap j9).map some)&&((J.map (λ i=>Z[i]?)==(y.1.1.filterMap j9).map some)&&(decide (y.1.1.filterMap j9).Nodup&&f J (y.1.1.filterMap j9)))
def Iz(U:List Str)(Y:Kd)(J:Scope)(Z:List Str):Bool:=(J.kind== .function)&&J.names.all (λ y=>!(y.2== .cell)&&(J.names.lookup y.1==some y.2)&&(!(y.2== .local)||(Z.contains y.1||!U.contains y.1))&&(!(y.2== .free)||(Y y.1==some .cell)))&&Z.all (λ n=>J.names.lookup n==some .local)
def Fq(J:Kd)(Z:Scope):Kd:=λ x=>(Z.names.lookup x).map λ k=>if(k== .free&&J x==some .cell)then .cell else k
def oc(l:List (Option Expr))(f:Expr->List (Option Expr)->Bool):Bool:=match l with|some e::J=>f e J|_=>false
theorem Kn{l:List (Option Expr)}{f:Expr->List (Option Expr)->Bool}{P:List (Option Expr)->Prop}(h:oc l f=true)(k:∀e J,f e J=true->P (some e::J)):P l:=match l,h with|some e::J,h=>k e J h
def ec{J:Type}(l:List J)(f:J->List J->Bool):Bool:=match l with|e::Z=>f e Z|[]=>false
theorem Ee{Z:Type}{l:List Z}{f:Z->List Z->Bool}{P:List Z->Prop}(h:ec l f=true)(k:∀e J,f e J=true->P (e::J)):P l:=match l,h with|e::J,h=>k e J h
def vQ(J:List Str):List Nat->List (Option Expr)->Bool|[],l=>l.isEmpty|k::Y,l=>oc l λ e Z=>bU (vM e) (λ x=>J[k]?==some x.1.1)&&vQ J Y Z
section
variable(K:Frag)(J:List Str)(T:aU)
mutual noncomputable def aH(Y:Kd)(Z s:Bool):PE->Expr->Bool|.c v,e=>Fp K Y v e|.loc x,e=>bU (fF e) λ y=>yM J Y x y.1.1|.attr a f,e=>bU (sf e) λ y=>(J[f]?==some y.1.2.1)&&(kB y.1.1&&aH Y Z false a y.1.1)|.bin R a b,e=>bU (Fj e) λ y=>(R==y.1.2.1)&&(aH Y Z false a y.1.1&&aH Y Z false b y.1.2.2.1)|.oR _ a b,e=>bU (Fj e) λ y=>(.Add==y.1.2.1)&&(aH Y Z false a y.1.1&&aH Y Z false b y.1.2.2.1)|.neg a,e=>bU (JM e) λ y=>(.USub==y.1.1)&&aH Y Z false a y.1.2.1|.not a,e=>bU (JM e) λ y=>(.Not==y.1.1)&&aH Y Z false a y.1.2.1|.and a b,e=>bU (AK e) λ y=>(.And==y.1.1)&&two y.1.2.1 λ l r Q=>aH Y Z false a l&&aH Y Z false b (AM .And r Q y.1.2.2)|.or a b,e=>bU (AK e) λ y=>(.Or==y.1.1)&&two y.1.2.1 λ l r Q=>aH Y Z false a l&&aH Y Z false b (AM .Or r Q y.1.2.2)|.cmp R a b,e=>bU (It e) λ y=>([R]==y.1.2.1)&&(vf R&&one y.1.2.2.1 λ r=>aH Y Z false a y.1.1&&aH Y Z false b r)|.idx a i,e=>bU (qZ e) λ y=>iR y.1.2.1&&(aH Y Z false a y.1.1&&aH Y Z false i y.1.2.1)|.key a k,e=>bU (qZ e) λ y=>bU (vM y.1.2.1) λ z=>(J[k]?==some z.1.1)&&aH Y Z false a y.1.1|.slice a lo V,e=>bU (qZ e) λ y=>bU (vJ y.1.2.1) λ z=>z.1.2.2.1.isNone&&(aH Y Z false a y.1.1&&(vP (iT lo) (λ x=>aH Y Z false lo x) z.1.1&&vP (iT V) (λ x=>aH Y Z false V x) z.1.2.1))|.fU _ a lo V,e=>bU (qZ e) λ y=>bU (vJ y.1.2.1) λ z=>z.1.2.2.1.isNone&&(aH Y Z false a y.1.1&&(vP (iT lo) (λ x=>aH Y Z false lo x) z.1.1&&vP (iT V) (λ x=>aH Y Z false V x) z.1.2.1))|.tup l,e=>bU (Cc e) λ y=>Nat.ble l.length 100&&hV Y Z l y.1.1|.lst l,e=>bU (dList e) λ y=>Nat.ble l.length 100&&hV Y Z l y.1.1|.eJ _ l,e=>bU (dList e) λ y=>Nat.ble l.length 100&&hV Y Z l y.1.1|.dict _ G l,e=>bU (Fl e) λ y=>Nat.ble 18 l.length&&(Nat.ble l.length 32&&((G.length==l.length)&&(decide G.Nodup&&(vQ J G y.1.1&&hV Y Z l y.1.2.1))))|.call f _ U,e=>cN e λ x W=>a7 K Y x f&&(keepIn K (.ref f)&&hV Y Z U W)|.new C _ U,e=>cN e λ x W=>a7 K Y x C&&((bw C T.jH).isSome&&hV Y Z U W)|.aw a m U,e=>cA e λ o x O W p=>(J[m]?==some x)&&(c9 o W O p&&(aH Y Z false a o&&hV Y Z U W))|.append a v,e=>cA e λ o x O W p=>(x==("append":Str))&&one W λ r=>c9 o [r] O p&&(aH Y Z false a o&&aH Y Z false v r)|.pop a v,e=>cA e λ o x O W p=>(x==("pop":Str))&&one W λ r=>c9 o [r] O p&&(aH Y Z false a o&&aH Y Z false v r)|.reverse a,e=>cA e λ o x O W p=>(x==("reverse":Str))&&(W.isEmpty&&(c9 o [] O p&&aH Y Z false a o))|.len a,e=>b1 K Y (.builtin "len") e λ o=>aH Y Z false a o|.min2 a b,e=>b2 K Y (.builtin "min") e λ l r=>aH Y Z false a l&&aH Y Z false b r|.max2 a b,e=>b2 K Y (.builtin "max") e λ l r=>aH Y Z false a l&&aH Y Z false b r|.nI a,e=>b1 K Y (.builtin "max") e λ o=>aH Y Z false a o|.fb a,e=>b1 K Y (.type "bytes") e λ o=>aH Y Z false a o|.all a,e=>b1 K Y (.builtin "all") e λ o=>aH Y Z false a o|.sorted a,e=>b1 K Y (.builtin "sorted") e λ o=>aH Y Z false a o|.comp L D N I X,e=>bU (Fm e) λ y=>one y.1.2.1 λ g=>(g.is_async==0)&&(!Z&&(gd g.iter&&Cd J D N g.target λ _ H=>Iz J Y y.1.2.2.1 H&&(aH Y Z true I g.iter&&(((g.ifs.isEmpty&&sj X)||one g.ifs λ c=>aH (Fq Y y.1.2.2.1) true false X c)&&aH (Fq Y y.1.2.2.1) true false L y.1.1))))|.mj lo V,e=>s&&(b1 K Y (.type "range") e (λ r=>yO lo&&aH Y Z false V r)||b2 K Y (.type "range") e λ l r=>aH Y Z false lo l&&aH Y Z false V r)noncomputable def hV(Y:Kd)(Z:Bool):List PE->List Expr->Bool|[],l=>l.isEmpty|a::F,l=>ec l λ e W=>notStar e&&(aH Y Z false a e&&hV Y Z F W)end
end
structure yP(T:aU)(K:Frag)(J:List Str):Prop where
 attr:∀C f x,J[f]?=some x->kU T C f=true->attrOk K C x=true
 Fs:∀C f x,J[f]?=some x->kU T C f=true->setOk K C x=true
 aw:∀C k x f,J[k]?=some x->fg T C k=some f->jk K C x f=true
 cls:∀C f,bw C T.jH=some f->r5 K C f=true
structure Sd(T:aU)(Z:kz)(n:Nat)(c:Cx)(Y:Kd)(J:Bool):Prop where
 ok:aC c
 hp:yP T c.K c.nt
 AO:BQ c.A n
 kd:∀x,c.ev.kindOf x=Y x
 ih:pD c.K c.nt Z n
 cm:J=false->c.cm=none
structure b5(c:Cx)(J:Loc->Hp->Res V)(e:Expr):Prop where
 he:aX c J e
 hc:qJ c J e
 hl:∀Z Y p,e= .BoolOp Z Y p->rZ c Z J Y
def Cf(e:Expr):Bool:=match e with|.BoolOp ..=>false|.UnaryOp .Not _ _=>false|.Compare ..=>false|.IfExp ..=>false|_=>true
set_option tactic.hygienic true in theorem b5.plain{c:Cx}{Y:Loc->Hp->Res V}{e:Expr}(J:Cf e=true)(h:aX c Y e):b5 c Y e:=by refine⟨h,yp h ?_,λ Z U p q=>by subst q;cases J⟩;cases e<;>first|rfl|(cases J)|(rename_i Z _ _;cases Z<;>first|rfl|cases J)
abbrev Ft(Y:Loc->Hp->Res V):Loc->Hp->Res V:=λ J Z=>(Y J Z).bind λ o Z=>match o with|.lst l=> .ok (.lst l) Z|_=> .stuck
section
variable{T:aU}{Z:kz}{n:Nat}{c:Cx}{Y:Kd}{J:Bool}
theorem Sd.iQ(S:Sd T Z n c Y J){x:Nat}{y:Str}(h:yM c.nt Y x y=true):iQ c x y=true:=by unfold yM at h;unfold Mine.iQ;rw[S.kd];exact h
theorem Sd.glob(S:Sd T Z n c Y J){y:Str}{i:Int}(h:globK c.K Y y i=true):nZ c y i=true:=by unfold globK at h;unfold nZ;rw[S.kd];exact h
theorem Sd.boot(S:Sd T Z n c Y J){y:Str}{v:Value}(h:mU c.K Y y v=true):cx c y v=true:=by unfold mU at h;unfold cx;rw[S.kd];exact h
theorem Sd.a7(S:Sd T Z n c Y J){y:Str}{f:Nat}(h:Mine.a7 c.K Y y f=true):Mine.a7 c.K c.ev.kindOf y f=true:=by haveI:c.ev.kindOf=Y:=funext S.kd;rw[this];exact h
theorem Sd.un(S:Sd T Z n c Y J):c.A.units+5<cLine:=Nat.lt_of_le_of_lt (by rw[Nat.add_assoc];exact Nat.add_le_add_left (Nat.le_trans (by decide:5<=41) (Nat.le_add_left ..)) _) S.AO.2
theorem Sd.Fu(S:Sd T Z n c Y J):xU c.A n:=⟨Nat.lt_of_succ_lt S.AO.1,Nat.lt_of_succ_lt S.AO.2⟩
theorem mC{U:Type} [BEq U] [LawfulBEq U]{a b:U}{P:U->Prop}(h:(a==b)=true)(k:P a):P b:=eq_of_beq h▸k
theorem vS{U:Type} [BEq U] [LawfulBEq U]{a b:U}{P:U->Prop}(h:(a==b)=true)(k:P b):P a:=(eq_of_beq h).symm▸k
theorem mV{U:Type}{o:Option U}{P:Option U->Prop}(h:o.isNone=true)(k:P none):P o:=match o,h with|none,_=>k
theorem jO{a b:Bool}(h:(a||b)=true):a=true\/b=true:=match a,h with|true,_=> .inl rfl|false,h=> .inr h
theorem Fv(S:Sd T Z n c Y J){v:V}{x:Const}{k:Nat}{p:Pos}(h:(AN v==some x)=true):b5 c (λ _ U=> .ok v U) (.Constant x k p):=match v,eq_of_beq h with|.int _,h=>Option.some.inj h▸ .plain rfl (EH _)|.none,h=>Option.some.inj h▸ .plain rfl BA|.bool _,h=>Option.some.inj h▸ .plain rfl (BB _)|.ig [],h=>Option.some.inj h▸ .plain rfl EI
theorem Fw(S:Sd T Z n c Y J){v:V}{e:Expr}(h:Fp c.K Y v e=true):b5 c (λ _ U=> .ok v U) e:=(jO h).elim (λ h=>bP (P:=b5 c _) h λ x _ h=>Fv S h) λ h=>bP (P:=λ v=>b5 c (λ _ U=> .ok v U) e) h λ i _ h=>bP (P:=b5 c _) h λ x _ h=> .plain rfl (tK S.ok (S.glob h))
theorem yQ{O:Loc->Hp->Res V}{e:Expr}{p:Pos}(Q:b5 c O e):b5 c (λ W U=>(O W U).bind λ v U=>af (truth U v) λ b=> .ok (.bool (!b)) U) (.UnaryOp .Not e p):=⟨EL Q.he,EM Q.hc,λ _ _ _ q=>by cases q⟩
theorem pV{Z:kz}{T:aU}{R:Bool}{W:Nat}{l:List PE}{U:Loc}:∀{O Q:Hp}{X:List V},bc Z T R W l U O= .ok X Q->X.length=l.length:=by induction l with|nil=>intro O Q X h;cases h;rfl|cons e r K=>intro O Q X h;replace h:((a5 Z T R W e U O).bind λ v O=>(bc Z T R W r U O).bind λ X O=>Res.ok (v::X) O)= .ok X Q:=h;cases G:a5 Z T R W e U O with|exc C N=>rw[G]at h;cases h|stuck=>rw[G]at h;cases h|ok v N=>rw[G]at h;replace h:((bc Z T R W r U N).bind λ X O=>Res.ok (v::X) O)= .ok X Q:=h;cases D:bc Z T R W r U N with|exc C I=>rw[D]at h;cases h|stuck=>rw[D]at h;cases h|ok L I=>rw[D]at h;cases h;exact congrArg (·+1) (K D)
theorem Cg{n:Nat}(h:n<=100):n<=lid:=by have:lid=1000:=rfl;exact"Uzb^9^J};tJgS~!Y1" h this
structure Es(c:Cx)(W:Loc->Hp->Res (List V))(U:List Expr):Prop where
 ok:iS c W U
 nil:U=[]->W=λ _ Q=> .ok [] Q
 star:U.all notStar=true
def Claim(T:aU)(Z:kz)(n:Nat)(W:PE):Prop:=∀(c:Cx)(Y:Kd)(J s:Bool)(U:Nat)(e:Expr),Sd T Z n c Y J->aH c.K c.nt T Y J s W e=true->(s=false->b5 c (a5 Z T c.hd U W) e)/\d0 c (Ft (a5 Z T c.hd U W)) e
theorem Claim.of{W:PE}(h:∀(c:Cx)(Y:Kd)(J s:Bool)(U:Nat)(e:Expr),Sd T Z n c Y J->aH c.K c.nt T Y J s W e=true->b5 c (a5 Z T c.hd U W) e):Claim T Z n W:=λ c Y J s U e S Q=>⟨λ _=>h c Y J s U e S Q,src_list (h c Y J s U e S Q).he⟩
def eG(T:aU)(Z:kz)(n:Nat)(l:List PE):Prop:=∀(c:Cx)(Y:Kd)(J:Bool)(W:Nat)(U:List Expr),Sd T Z n c Y J->hV c.K c.nt T Y J l U=true->Es c (bc Z T c.hd W l) U/\U.length=l.length
theorem Claim.get{U:PE}{off:Nat}{e:Expr}(h:Claim T Z n U)(S:Sd T Z n c Y J)(q:aH c.K c.nt T Y J false U e=true):b5 c (a5 Z T c.hd off U) e:=(h c Y J false off e S q).1 rfl
theorem q8{l:List PE}{Q:Nat}(h:Nat.ble l.length 100=true):∀W O V U,bc Z T c.hd Q l W O= .ok V U->V.length<=lid:=λ _ _ _ _ e=>pV e▸Cg (Nat.le_of_ble_eq_true h)
theorem Fy{x:Nat}:Claim T Z n (.loc x):= .of λ c Y J s U e S q=>bP (P:=b5 c _) q λ y _ q=> .plain rfl (EJ S.ok (S.iQ q))
theorem Ko{v:V}:Claim T Z n (.c v):= .of λ c Y J s U e S q=>Fw S q
theorem Ci{a:PE}{f:Nat}(h:Claim T Z n a):Claim T Z n (.attr a f):= .of λ c Y J s U e S q=>bP (P:=b5 c _) q λ y _ q=> .plain rfl (BC S.ok T S.hp.attr (h.get (off:=U) S (an (an q).2).2).he (eq_of_beq (an q).1) (an (an q).2).1)
theorem Fz{Q:Operator}{a b:PE}(h1:Claim T Z n a)(h2:Claim T Z n b):Claim T Z n (.bin Q a b):= .of λ c Y J s U e S q=>bP (P:=b5 c _) q λ y _ q=>mC (P:=λ W=>b5 c _ (.BinOp y.1 W y.2.2.1 y.2.2.2)) (an q).1 (.plain rfl (EK S.ok (h1.get (off:=U) S (an (an q).2).1).he (h2.get (off:=U) S (an (an q).2).2).he))
theorem Cj{Q:Nat}{a b:PE}(h1:Claim T Z n a)(h2:Claim T Z n b):Claim T Z n (.oR Q a b):= .of λ c Y J s U e S q=>bP (P:=b5 c _) q λ y _ q=>mC (P:=λ W=>b5 c _ (.BinOp y.1 W y.2.2.1 y.2.2.2)) (an q).1 (.plain rfl (BU (h1.get (off:=U) S (an (an q).2).1).he (h2.get (off:=U) S (an (an q).2).2).he))
theorem FA{a:PE}(h1:Claim T Z n a):Claim T Z n (.neg a):= .of λ c Y J s W e S q=>bP (P:=b5 c _) q λ y _ q=>mC (P:=λ U=>b5 c _ (.UnaryOp U y.2.1 y.2.2)) (an q).1 (.plain rfl (EN (h1.get (off:=W) S (an q).2).he))
theorem FC{a:PE}(h1:Claim T Z n a):Claim T Z n (.not a):= .of λ c Y J s W e S q=>bP (P:=b5 c _) q λ y _ q=>mC (P:=λ U=>b5 c _ (.UnaryOp U y.2.1 y.2.2)) (an q).1 (yQ (h1.get (off:=W) S (an q).2))
theorem snd_and{Q:Loc->Hp->Res V}{W:Loc->Hp->Res V}{l r:Expr}{U:List Expr}{p:Pos}(O:∀(_:rZ c .And Q (r::U)),rZ c .And W (l::r::U))(X:aX c W (.BoolOp .And (l::r::U) p))(h2:rZ c .And Q (r::U)):b5 c W (.BoolOp .And (l::r::U) p):=⟨X,u7 (O h2),λ _ _ _ q=>by cases q;exact O h2⟩
theorem FD{a b:PE}(h1:Claim T Z n a)(h2:Claim T Z n b):Claim T Z n (.and a b):= .of λ c Y J s W e S q=>bP (P:=b5 c _) q λ y _ q=>mC (P:=λ O=>b5 c _ (.BoolOp O y.2.1 y.2.2)) (an q).1 (vO (P:=λ l=>b5 c _ (.BoolOp .And l y.2.2)) (an q).2 λ l r U q=>by haveI V:=h1.get (off:=W) S (an q).1;haveI Q:=h2.get (off:=W) S (an q).2;cases U with|nil=>exact snd_and (AB V.hc) (Az V.he (AA Q.he)) (tM Q.hc)|cons z U=>exact snd_and (AB V.hc) (Az V.he Q.he) (Q.hl _ _ _ rfl))
theorem vT{Q:Loc->Hp->Res V}{W:Loc->Hp->Res V}{l r:Expr}{U:List Expr}{p:Pos}(O:∀(_:rZ c .Or Q (r::U)),rZ c .Or W (l::r::U))(X:aX c W (.BoolOp .Or (l::r::U) p))(h2:rZ c .Or Q (r::U)):b5 c W (.BoolOp .Or (l::r::U) p):=⟨X,u7 (O h2),λ _ _ _ q=>by cases q;exact O h2⟩
theorem IA{a b:PE}(h1:Claim T Z n a)(h2:Claim T Z n b):Claim T Z n (.or a b):= .of λ c Y J s W e S q=>bP (P:=b5 c _) q λ y _ q=>mC (P:=λ O=>b5 c _ (.BoolOp O y.2.1 y.2.2)) (an q).1 (vO (P:=λ l=>b5 c _ (.BoolOp .Or l y.2.2)) (an q).2 λ l r U q=>by haveI V:=h1.get (off:=W) S (an q).1;haveI Q:=h2.get (off:=W) S (an q).2;cases U with|nil=>exact vT (EP V.hc) (EO V.he (AA Q.he)) (u5 Q.hc)|cons z U=>exact vT (EP V.hc) (EO V.he Q.he) (Q.hl _ _ _ rfl))
theorem yR(S:Sd T Z n c Y J){X N:Loc->Hp->Res V}{U:CmpOp}{l r:Expr}{p:Pos}(O:vf U=true)(W:b5 c X l)(Q:b5 c N r):b5 c (pf U X N) (.Compare l [U] [r] p):=⟨EU S.ok S.un O W.he Q.he,EW S.ok S.un O W.he Q.he,λ _ _ _ q=>by cases q⟩
theorem FE{V:CmpOp}{a b:PE}(h1:Claim T Z n a)(h2:Claim T Z n b):Claim T Z n (.cmp V a b):= .of λ c Y J s U e S q=>bP (P:=b5 c _) q λ y _ q=>mC (P:=λ W=>b5 c _ (.Compare y.1 W y.2.2.1 y.2.2.2)) (an q).1 (iA (P:=λ r=>b5 c _ (.Compare y.1 [V] r y.2.2.2)) (an (an q).2).2 λ r Q=>yR S (an (an q).2).1 (h1.get (off:=U) S (an Q).1) (h2.get (off:=U) S (an Q).2))
theorem FF{a b:PE}(h1:Claim T Z n a)(h2:Claim T Z n b):Claim T Z n (.idx a b):= .of λ c Y J s U e S q=>bP (P:=b5 c _) q λ y _ q=> .plain rfl (EX (an q).1 (h1.get (off:=U) S (an (an q).2).1).he (h2.get (off:=U) S (an (an q).2).2).he)
theorem FH{a:PE}{k:Nat}(h1:Claim T Z n a):Claim T Z n (.key a k):= .of λ c Y J s U e S q=>bP (P:=b5 c _) q λ y _ q=>bP (P:=λ i=>b5 c _ (.Subscript y.1 i y.2.2)) q λ z _ q=> .plain rfl (EY S.ok (eq_of_beq (an q).1) (h1.get (off:=U) S (an q).2).he)
theorem oh{W:PE}{x:Option Expr}{U:Nat}(h1:Claim T Z n W)(S:Sd T Z n c Y J)(q:vP (iT W) (λ x=>aH c.K c.nt T Y J false W x) x=true):vh c (a5 Z T c.hd U W) x:=match x,q with|some _,q=>BL (h1.get (off:=U) S q).he|none,q=>bP (P:=λ W=>vh c (a5 Z T c.hd U W) none) q λ v _ q=>bP (P:=λ v=>vh c (a5 Z T c.hd U (.c v)) none) q λ _ _ _=>BK
theorem yS{a W Q:PE}(h1:Claim T Z n a)(h2:Claim T Z n W)(V:Claim T Z n Q):Claim T Z n (.slice a W Q):= .of λ c Y J s U e S q=>bP (P:=b5 c _) q λ y _ q=>bP (P:=λ i=>b5 c _ (.Subscript y.1 i y.2.2)) q λ z _ q=>mV (P:=λ o=>b5 c _ (.Subscript y.1 (.Slice z.1 z.2.1 o z.2.2.2) y.2.2)) (an q).1 (.plain rfl (yu (h1.get (off:=U) S (an (an q).2).1).he (oh h2 S (an (an (an q).2).2).1) (oh V S (an (an (an q).2).2).2)))
theorem vU{V:Nat}{a W Q:PE}(h1:Claim T Z n a)(h2:Claim T Z n W)(O:Claim T Z n Q):Claim T Z n (.fU V a W Q):= .of λ c Y J s U e S q=>bP (P:=b5 c _) q λ y _ q=>bP (P:=λ i=>b5 c _ (.Subscript y.1 i y.2.2)) q λ z _ q=>mV (P:=λ o=>b5 c _ (.Subscript y.1 (.Slice z.1 z.2.1 o z.2.2.2) y.2.2)) (an q).1 (.plain rfl (vj (h1.get (off:=U) S (an (an q).2).1).he (oh h2 S (an (an (an q).2).2).1) (oh O S (an (an (an q).2).2).2)))
theorem FI{l:List PE}(h1:eG T Z n l):Claim T Z n (.tup l):= .of λ c Y J s U e S q=>bP (P:=b5 c _) q λ y _ q=> .plain rfl (EZ (q8 (an q).1) (h1 c Y J U _ S (an q).2).1.ok)
theorem FJ{l:List PE}(h1:eG T Z n l):Claim T Z n (.lst l):= .of λ c Y J s U e S q=>bP (P:=b5 c _) q λ y _ q=> .plain rfl (E0 (q8 (an q).1) (h1 c Y J U _ S (an q).2).1.ok)
theorem Ck{W:Nat}{l:List PE}(h1:eG T Z n l):Claim T Z n (.eJ W l):= .of λ c Y J s U e S q=>bP (P:=b5 c _) q λ y _ q=> .plain rfl (BJ (q8 (an q).1) (h1 c Y J U _ S (an q).2).1.ok)
theorem Cn{f:Nat}{o:Option Nat}{l:List PE}(h1:eG T Z n l):Claim T Z n (.call f o l):= .of λ c Y J s U e S q=>Fn (P:=b5 c _) q λ x Q W p q=>have E:=(h1 c Y J U W S (an (an q).2).2).1;.plain rfl (BR S.ok S.ih S.Fu _ (S.a7 (an q).1) (an (an q).2).1 E.star E.ok E.nil)
theorem FK{C:Nat}{o:Option Nat}{l:List PE}(h1:eG T Z n l):Claim T Z n (.new C o l):= .of λ c Y J s W e S q=>Fn (P:=b5 c _) q λ x V Q p q=>have E:=(h1 c Y J W Q S (an (an q).2).2).1;(Option.isSome_iff_exists.mp (an (an q).2).1).elim λ O U=> .plain rfl (E4 S.ok S.ih S.AO T S.hp.cls _ U (S.a7 (an q).1) E.star E.ok E.nil)
theorem Cp{a:PE}{m:Nat}{l:List PE}(Q:Claim T Z n a)(h1:eG T Z n l):Claim T Z n (.aw a m l):= .of λ c Y J s U e S q=>HS (P:=b5 c _) q λ o x V W p q=>have E:=(h1 c Y J U W S (an (an (an q).2).2).2).1;.plain rfl (BS S.ok S.ih S.Fu T S.hp.aw U (eq_of_beq (an q).1) (an (an q).2).1 (Q.get (off:=U) S (an (an (an q).2).2).1).he E.ok E.nil)
theorem vV{a b:PE}(h1:Claim T Z n a)(h2:Claim T Z n b):Claim T Z n (.append a b):= .of λ c Y J s U e S q=>HS (P:=b5 c _) q λ o x V Q p q=>vS (P:=λ x=>b5 c _ (.Call (.Attribute o x V) Q [] p)) (an q).1 (iA (P:=λ Q=>b5 c _ (.Call (.Attribute o "append" V) Q [] p)) (an q).2 λ r W=> .plain rfl (vm (an W).1 (h1.get (off:=U) S (an (an W).2).1).he (h2.get (off:=U) S (an (an W).2).2).he))
theorem FL{a b:PE}(h1:Claim T Z n a)(h2:Claim T Z n b):Claim T Z n (.pop a b):= .of λ c Y J s U e S q=>HS (P:=b5 c _) q λ o x V Q p q=>vS (P:=λ x=>b5 c _ (.Call (.Attribute o x V) Q [] p)) (an q).1 (iA (P:=λ Q=>b5 c _ (.Call (.Attribute o "pop" V) Q [] p)) (an q).2 λ r W=> .plain rfl (E1 (an W).1 (h1.get (off:=U) S (an (an W).2).1).he (h2.get (off:=U) S (an (an W).2).2).he))
theorem uc{a:PE}(h1:Claim T Z n a):Claim T Z n (.reverse a):= .of λ c Y J s W e S q=>HS (P:=b5 c _) q λ o x Q U p q=>vS (P:=λ x=>b5 c _ (.Call (.Attribute o x Q) U [] p)) (an q).1 (js (P:=λ U=>b5 c _ (.Call (.Attribute o "reverse" Q) U [] p)) (an (an q).2).1 (.plain rfl (tS (an (an (an q).2).2).1 (h1.get (off:=W) S (an (an (an q).2).2).2).he)))
theorem FN{a:PE}(h1:Claim T Z n a):Claim T Z n (.len a):= .of λ c Y J s U e S q=>Ed (P:=b5 c _) q λ x V o p Q W q=> .plain rfl (E2 S.ok (S.boot Q) W (h1.get (off:=U) S q).he)
theorem Cu{a:PE}(h1:Claim T Z n a):Claim T Z n (.nI a):= .of λ c Y J s U e S q=>Ed (P:=b5 c _) q λ x V o p Q W q=> .plain rfl (BP S.ok (S.boot Q) W (h1.get (off:=U) S q).he)
theorem vW{a:PE}(h1:Claim T Z n a):Claim T Z n (.fb a):= .of λ c Y J s U e S q=>Ed (P:=b5 c _) q λ x V o p Q W q=> .plain rfl (vn S.ok (S.boot Q) W (h1.get (off:=U) S q).he)
theorem FO{a:PE}(h1:Claim T Z n a):Claim T Z n (.all a):= .of λ c Y J s U e S q=>Ed (P:=b5 c _) q λ x V o p Q W q=> .plain rfl (E3 S.ok (S.boot Q) W (h1.get (off:=U) S q).he)
theorem vX{a:PE}(h1:Claim T Z n a):Claim T Z n (.sorted a):= .of λ c Y J s U e S q=>Ed (P:=b5 c _) q λ x V o p Q W q=> .plain rfl (vu S.ok (S.boot Q) W (h1.get (off:=U) S q).he)
theorem Cv{a b:PE}(h1:Claim T Z n a)(h2:Claim T Z n b):Claim T Z n (.min2 a b):= .of λ c Y J s U e S q=>Iu (P:=b5 c _) q λ x O l r p V Q W q=> .plain rfl (BN S.ok (S.boot V) Q W (h1.get (off:=U) S (an q).1).he (h2.get (off:=U) S (an q).2).he)
theorem Cw{a b:PE}(h1:Claim T Z n a)(h2:Claim T Z n b):Claim T Z n (.max2 a b):= .of λ c Y J s U e S q=>Iu (P:=b5 c _) q λ x O l r p V Q W q=> .plain rfl (BO S.ok (S.boot V) Q W (h1.get (off:=U) S (an q).1).he (h2.get (off:=U) S (an q).2).he)
end
theorem iU{a b:Bool}(h:a=true)(k:b=true):(a&&b)=true:=match a,b,h,k with|true,true,_,_=>rfl
theorem FP{U:List Str}{o:Option Nat}{J:List Nat}{t:Expr}{f:List Nat->List Str->Bool}(h:Cd U o J t f=true):∃Y Z,t9 U o J t Y Z/\f Y Z=true:=match o,h with|some X,h=>bP (P:=λ t=>∃Y Z,t9 U (some X) J t Y Z/\f Y Z=true) h λ x _ h=>⟨_,_,.one (eq_of_beq (an h).1),(an h).2⟩|none,h=>bP (P:=λ t=>∃Y Z,t9 U none J t Y Z/\f Y Z=true) h λ y _ h=>⟨_,_,.tup (eq_of_beq (an (an h).2).1) (eq_of_beq (an h).1) (of_decide_eq_true (an (an (an h).2).2).1),(an (an (an h).2).2).2⟩
section
theorem Cy{c:Cx}{W:Kd}{Y:Scope}{U:List Str}(Z:∀x,c.env.kindOf x=W x)(h:Iz c.nt W Y U=true):E9 c Y U:=by
 unfold Iz at h;simp only[Bool.and_eq_true,beq_iff_eq,List.all_eq_true,Bool.or_eq_true,Bool.not_eq_true',beq_eq_false_iff_ne,ne_eq,List.contains_iff_mem]at h;obtain⟨⟨h1,h2⟩,Q⟩:=h;refine⟨h1,λ y J=>(h2 y J).1.1.1,λ y J=>(h2 y J).1.1.2,Q,λ y J O=>?_,λ y J V=>?_⟩;.
  rcases(h2 y J).1.2 with q|q;.exact absurd O q
  .exact q.imp id λ q z=>by rw[List.contains_iff_mem.mpr z]at q;cases q
 .
  rcases(h2 y J).2 with q|q;.exact absurd V q
  .rw[Z];exact q
end
section
variable{T:aU}{J:kz}{n:Nat}{c:Cx}{Y:Kd}{Z:Bool}
theorem Sd.env(S:Sd T J n c Y Z)(U:c.cm=none):∀x,c.env.kindOf x=Y x:=λ x=>by rw[<-S.kd,cG U]
theorem Sd.comp(S:Sd T J n c Y Z)(U:c.cm=none){g:Led}{k:Cm}(W:aC (c.sub g (some k))):Sd T J n (c.sub g (some k)) (Fq Y k.scope) true where
 ok:=W
 hp:=S.hp
 AO:=S.AO
 kd:=λ x=>by
  show(compEnvC k.scope k.cl k.C c.env).kindOf x=_;rw[jq];unfold Fq;cases k.scope.names.lookup x with
   |none=>rfl
   |some z=>
    simp only[Option.map_some,f_];haveI h1:(c.env.scope.kind==ScopeKind.function)=true:=by rw[show c.env.scope.kind= .function from S.ok.hk];rfl
    rw[h1,S.env U x,Bool.and_true];split<;>rfl
 ih:=S.ih
 cm:=λ q=>by cases q
theorem Sd.plus(S:Sd T J n c Y Z)(g:Led):Sd T J n (c.sub g c.cm) Y Z:=⟨S.ok.plus,S.hp,S.AO,S.kd,S.ih,S.cm⟩
theorem sq{Q:Bool}{U:Nat}{N W X:PE}{O:Option Nat}{V:List Nat}:a5 J T Q U (.comp N O V W X)=iz Q O V (Ft (a5 J T Q U W)) (a5 J T Q U X) (a5 J T Q U N):=by
 funext loc hp;show(if Q=true then Res.stuck else _)=if Q=true then Res.stuck else _;split;.rfl
 .show(a5 J T Q U W loc hp).bind _=((a5 J T Q U W loc hp).bind _).bind _;cases a5 J T Q U W loc hp with|exc C R=>rfl|stuck=>rfl|ok v R=>cases v<;>rfl
set_option tactic.hygienic true in theorem yT{J:kz}{T:aU}{V:Bool}{W:Nat}{R N:PE}:Ft (a5 J T V W (.mj R N))=λ U Q=>(a5 J T V W R U Q).bind λ a Q=>(a5 J T V W N U Q).bind λ b Q=>jo a b Q:=by funext U Q;show((a5 J T V W R U Q).bind λ a Q=>(a5 J T V W N U Q).bind λ b Q=>jo a b Q).bind _=_;cases a5 J T V W R U Q with|exc C O=>rfl|stuck=>rfl|ok a O=>show((a5 J T V W N U O).bind λ b Q=>jo a b Q).bind _=(a5 J T V W N U O).bind λ b Q=>jo a b Q;cases a5 J T V W N U O with|exc C X=>rfl|stuck=>rfl|ok b X=>show(jo a b X).bind _=jo a b X;cases a<;>first|rfl|(cases b<;>first|rfl|(rename_i i j;show Res.bind (if j-i<=1000/\small i=true/\small j=true then _ else _) _=(if j-i<=1000/\small i=true/\small j=true then _ else _);split<;>rfl))
theorem FQ{X V:PE}(h1:Claim T J n X)(h2:Claim T J n V):Claim T J n (.mj X V):=λ c Y Z s U e S q=>⟨λ z=>(Bool.false_ne_true (z.symm.trans (an q).1)).elim,by rw[yT];exact(jO (an q).2).elim (λ q=>Ed (P:=d0 c _) q λ x O o p R I q=>bP (P:=λ X=>d0 c (λ W Q=>(a5 J T c.hd U X W Q).bind λ a Q=>(a5 J T c.hd U V W Q).bind λ b Q=>jo a b Q) (.Call (.Name x O) [o] [] p)) (an q).1 λ v _ N=>bP (P:=λ v=>d0 c (λ W Q=>(a5 J T c.hd U (.c v) W Q).bind λ a Q=>(a5 J T c.hd U V W Q).bind λ b Q=>jo a b Q) (.Call (.Name x O) [o] [] p)) N λ i _ N=>vS (P:=λ i=>d0 c (λ W Q=>(a5 J T c.hd U (.c (.int i)) W Q).bind λ a Q=>(a5 J T c.hd U V W Q).bind λ b Q=>jo a b Q) (.Call (.Name x O) [o] [] p)) N (qS S.ok (S.boot R) I (h2.get (off:=U) S (an q).2).he)) λ q=>Iu (P:=d0 c _) q λ x O l r p R G D q=>qR S.ok (S.boot R) G D (h1.get (off:=U) S (an q).1).he (h2.get (off:=U) S (an q).2).he⟩
theorem Cz:eG T J n []:=λ c Y Z W U S q=>js (P:=λ U=>Es c _ U/\U.length=0) q ⟨⟨c8,λ _=>rfl,rfl⟩,rfl⟩
theorem yU{a:PE}{l:List PE}(h1:Claim T J n a)(h2:eG T J n l):eG T J n (a::l):=λ c Y Z U W S q=>Ee (P:=λ W=>Es c (bc J T c.hd U (a::l)) W/\W.length=l.length+1) q λ e W q=>haveI H:=h2 c Y Z U W S (an (an q).2).2;⟨⟨bC (an q).1 (h1.get (off:=U) S (an (an q).2).1).he H.1.ok,(λ z=>by cases z),(List.all_cons ..).trans (iU (an q).1 H.1.star)⟩,congrArg (·+1) H.2⟩
structure q9(T:aU)(J:kz)(c:Cx)(U:Nat)(Q:PE)(O:Option Nat)(W:List Nat)(N X:PE)(K t R:Expr)(I:List Expr)(V:Scope)(G:List Nat)(D:List Str):Prop where
 cm:c.cm=none
 tg:t9 c.nt O W t G D
 JN:E9 c V D
 set:gd R=true
 ifs:∀g k,k.scope=V->aC (c.sub g (some k))->fG (c.sub g (some k)) (a5 J T c.hd U X) I
 elt:∀g k,k.scope=V->aC (c.sub g (some k))->aX (c.sub g (some k)) (a5 J T c.hd U Q) K
 src:d0 c (Ft (a5 J T c.hd U N)) R
theorem IC{b:Bool}(h:(!b)=true):b=false:=match b,h with|false,_=>rfl
theorem CC{c:Cx}{Y:Kd}{U:PE}{Q:List Expr}{W:Nat}(V:Claim T J n U)(S:Sd T J n c Y true)(q:((Q.isEmpty&&sj U)||one Q λ e=>aH c.K c.nt T Y true false U e)=true):fG c (a5 J T c.hd W U) Q:=(jO q).elim (λ q=>js (P:=λ Q=>fG c _ Q) (an q).1 (bP (P:=λ U=>fG c (a5 J T c.hd W U) []) (an q).2 λ v _ q=>bP (P:=λ v=>fG c (a5 J T c.hd W (.c v)) []) q λ b _ q=>(show b=true from q)▸ .nil rfl)) λ q=>iA (P:=λ Q=>fG c _ Q) q λ e q=> .one (V.get (off:=W) S q).hc
theorem lE{X O W:PE}{R:Option Nat}{U:List Nat}{s:Bool}{V:Nat}{e:Expr}(h1:Claim T J n X)(h2:Claim T J n O)(A:Claim T J n W)(S:Sd T J n c Y Z)(q:aH c.K c.nt T Y Z s (.comp X R U O W) e=true):∃G t Q N I p L K,e= .ListComp G [⟨t,Q,N,0⟩] I p/\q9 T J c V X R U O W G t Q N I L K:=bP (P:=λ e=>∃G t Q N I p L K,e= .ListComp G [⟨t,Q,N,0⟩] I p/\q9 T J c V X R U O W G t Q N I L K) q λ y _ q=>iA (P:=λ g=>∃G t Q N I p L K,Expr.ListComp y.1 g y.2.2.1 y.2.2.2= .ListComp G [⟨t,Q,N,0⟩] I p/\q9 T J c V X R U O W G t Q N I L K) q λ g q=>by
 obtain⟨B,Q,N,z⟩:=g;haveI D:=S.cm (IC (an (an q).2).1);obtain@⟨@L,@K,C,H⟩:=FP (an (an (an q).2).2).2;refine⟨y.1,B,Q,N,y.2.2.1,y.2.2.2,L,K,?_,D,C,Cy (S.env D) (an H).1,(an (an (an q).2).2).1,λ P k M F=>?_,λ P k M F=>?_,(h2 c Y Z true V Q S (an (an H).2).1).2⟩;.rw[show z=0 from eq_of_beq (an q).1]
 .exact CC A (M▸S.comp D F) (an (an (an H).2).2).1
 .exact(h1.get (off:=V) (M▸S.comp D F:Sd T J n (c.sub P (some k)) (Fq Y y.2.2.1) true) (an (an (an H).2).2).2).he
theorem CD{O W U:PE}{X:Option Nat}{Q:List Nat}(h1:Claim T J n O)(h2:Claim T J n W)(D:Claim T J n U):Claim T J n (.comp O X Q W U):= .of λ c Y Z s N e S q=>by refine bf λ R V=>?_;obtain⟨K,t,F,I,L,p,H,G,rfl,P⟩:=lE (V:=N) h1 h2 D S q;refine V ?_;rw[sq];exact .plain rfl (B1 S.ok P.cm P.tg P.JN P.set P.ifs P.elt P.src)
end
section
variable{T:aU}{J:kz}{n:Nat}{c:Cx}{Y:Kd}{Z:Bool}
/-! the display of a dict -/
theorem pW{V:Bool}{W:Nat}{b:List PE}{U:Loc}{a:List PE}:∀{Q:Hp},bc J T V W (a++b) U Q=(bc J T V W a U Q).bind λ x Q=>(bc J T V W b U Q).bind λ y Q=> .ok (x++y) Q:=by induction a with|nil=>intro Q;show bc J T V W b U Q=(bc J T V W b U Q).bind λ y Q=> .ok ([]++y) Q;cases bc J T V W b U Q<;>rfl|cons e a R=>intro Q;show(a5 J T V W e U Q).bind (λ v Q=>(bc J T V W (a++b) U Q).bind λ N Q=> .ok (v::N) Q)=((a5 J T V W e U Q).bind (λ v Q=>(bc J T V W a U Q).bind λ N Q=> .ok (v::N) Q)).bind _;cases a5 J T V W e U Q with|exc C X=>rfl|stuck=>rfl|ok v X=>show(bc J T V W (a++b) U X).bind _=((bc J T V W a U X).bind λ N Q=>Res.ok (v::N) Q).bind _;rw[R];cases bc J T V W a U X with|exc C O=>rfl|stuck=>rfl|ok N O=>show((bc J T V W b U O).bind λ y Q=>Res.ok (N++y) Q).bind _=(bc J T V W b U O).bind λ y Q=>Res.ok ((v::N)++y) Q;cases bc J T V W b U O<;>rfl
def yV(c:Cx)(U:Pos)(O:List Nat)(X:List PE->Loc->Hp->Res (List V))(l:List PE)(W:List (Option Expr))(N:List Expr):Prop:=∃Q:List (Sem Value×Sem Value),(evalEachOpt W c.ev).zip ((evalEach N c.ev).map λ v=>do
 let x<-v;
 standAt U;
 pure x)=Q.map (λ p=>(some p.1,p.2))/\Q.length=l.length/\∀k,yA c U (O.take k) (X (l.take k)) (Q.take k)/\yA c U (O.drop k) (X (l.drop k)) (Q.drop k)
theorem CF{Q:Pos}{W:Nat}(S:Sd T J n c Y Z):∀{V:List Nat}{l:List PE}{U:List (Option Expr)}{O:List Expr},(∀a∈l,Claim T J n a)->vQ c.nt V U=true->hV c.K c.nt T Y Z l O=true->V.length=l.length->yV c Q V (bc J T c.hd W) l U O:=by
 intro V l;induction l generalizing V with
  |nil=>intro U O _ _ X G;have M:V=[]:=List.length_eq_zero_iff.mp G;haveI A:O=[]:=List.isEmpty_iff.mp X;subst M A;exact⟨[],by cases U<;>rfl,rfl,λ k=>by rw[List.take_nil,List.drop_nil,List.take_nil,List.drop_nil,List.take_nil,List.drop_nil];exact⟨.nil,.nil⟩⟩
  |cons a l P=>
   intro U O K D X G;cases V with
    |nil=>cases G
    |cons k V=>
     refine Kn (P:=λ U=>yV c Q (k::V) (bc J T c.hd W) (a::l) U O) D λ e U D=>Ee (P:=λ O=>yV c Q (k::V) (bc J T c.hd W) (a::l) (some e::U) O) X λ v O X=>bP (P:=λ e=>yV c Q (k::V) (bc J T c.hd W) (a::l) (some e::U) (v::O)) (an D).1 λ x _ L=>?_;refine bf λ H N=>?_;obtain⟨B,h1,h2,I⟩:=P (λ a F=>K a (.tail _ F)) (an D).2 (an (an X).2).2 (Nat.succ.inj G);refine N ?_;refine⟨(eval (.Constant (.str x.1) x.2.1 x.2.2) c.ev,(do
      let x<-eval v c.ev;
      standAt Q;
      pure x))::B,congrArg (_::·) h1,congrArg (·+1) h2,λ j=>?_⟩;have R:∀g,aX (c.sub g c.cm) (a5 J T c.hd W a) v:=λ g=>((K a (.head _)).get (off:=W) (S.plus g) (an (an X).2).1).he;cases j with|zero=>exact⟨.nil,.cons (eq_of_beq L) R (I 0).2⟩|succ j=>exact⟨.cons (eq_of_beq L) R (I j).1,(I j).2⟩
theorem CG{D:Nat}{V:List Nat}{l:List PE}(E:∀a∈l,Claim T J n a):Claim T J n (.dict D V l):= .of λ c Y Z s U e S q=>bP (P:=b5 c _) q λ y _ q=>by
 haveI v:=Nat.le_of_ble_eq_true (an q).1;haveI w:=Nat.le_of_ble_eq_true (an (an q).2).1;haveI M:V.length=l.length:=eq_of_beq (an (an (an q).2).2).1;haveI j:=of_decide_eq_true (an (an (an (an q).2).2).2).1;obtain⟨O,h1,h2,B⟩:=CF (Q:=y.2.2) (W:=U) S E (an (an (an (an (an q).2).2).2).2).1 (an (an (an (an (an q).2).2).2).2).2 M;have X:16<O.length:=by omega
 haveI K:O.take 17=O.take 16++[O[16]]:=by rw[List.take_succ,List.getElem?_eq_getElem X];rfl
 obtain@⟨F,u⟩:=B 17;rw[K]at F;haveI L:O=O.take 16++[O[16]]++O.drop 17:=by rw[<-K,List.take_append_drop]
 haveI N:V.take 17++V.drop 17=V:=List.take_append_drop ..;refine .plain rfl ?_;haveI H:=BX (G:=D) S.ok (h1.trans (congrArg _ L)) (by rw[List.length_take];exact"dqO1PlM$|(,Bs=d%m&?S40#" rfl X) (by intro z;have:=congrArg List.length z;rw[List.length_drop,List.length_nil]at this;omega) (by rw[List.length_drop];omega) F u (by rw[N];exact j) (by intro z;have:=congrArg List.length z;rw[List.length_take,List.length_nil]at this;exact"1!o1}Vkd]|4}zS^aU['c<5i?P_*" [_,_,_,min 17 V.length] [] rfl M h2 X this) (by rw[N];omega);rw[N]at H;haveI A:a5 J T c.hd U (.dict D V l)=λ W Q=>(bc J T c.hd U (l.take 17) W Q).bind λ I Q=>(bc J T c.hd U (l.drop 17) W Q).bind λ G Q=>if V.length=(I++G).length then .ok (.ref D Q.nx) (Q.new D (.dict (V.zip (I++G))))else .stuck:=by
  funext W Q;show(bc J T c.hd U l W Q).bind _=_;conv=>lhs;rw[<-List.take_append_drop 17 l]
  rw[pW,Res.bind_assoc];cases bc J T c.hd U (l.take 17) W Q with|exc C R=>rfl|stuck=>rfl|ok P R=>show((bc J T c.hd U (l.drop 17) W R).bind λ y Q=>Res.ok (P++y) Q).bind _=(bc J T c.hd U (l.drop 17) W R).bind _;rw[Res.bind_assoc];rfl
 rw[A];exact H
/-! all expressions -/
mutual theorem aI:∀Q:PE,Claim T J n Q|.c v=>Ko|.loc x=>Fy|.attr a f=>Ci (aI a)|.bin U a b=>Fz (aI a) (aI b)|.oR s a b=>Cj (aI a) (aI b)|.neg a=>FA (aI a)|.not a=>FC (aI a)|.and a b=>FD (aI a) (aI b)|.or a b=>IA (aI a) (aI b)|.cmp U a b=>FE (aI a) (aI b)|.idx a b=>FF (aI a) (aI b)|.key a k=>FH (aI a)|.slice a b d=>yS (aI a) (aI b) (aI d)|.fU s a b d=>vU (aI a) (aI b) (aI d)|.tup l=>FI (fk l).1|.lst l=>FJ (fk l).1|.eJ s l=>Ck (fk l).1|.dict s O l=>CG (fk l).2|.call f o l=>Cn (fk l).1|.new C o l=>FK (fk l).1|.aw a m l=>Cp (aI a) (fk l).1|.append a b=>vV (aI a) (aI b)|.pop a b=>FL (aI a) (aI b)|.reverse a=>uc (aI a)|.len a=>FN (aI a)|.min2 a b=>Cv (aI a) (aI b)|.max2 a b=>Cw (aI a) (aI b)|.nI a=>Cu (aI a)|.fb a=>vW (aI a)|.all a=>FO (aI a)|.sorted a=>vX (aI a)|.comp a t V b d=>CD (aI a) (aI b) (aI d)|.mj a b=>FQ (aI a) (aI b)theorem fk:∀l:List PE,eG T J n l/\∀a∈l,Claim T J n a
 |[]=>⟨Cz,λ _ h=>nomatch h⟩
 |a::l=>⟨yU (aI a) (fk l).1,λ b W=>by
  rcases List.mem_cons.mp W with h|h;.exact h▸aI a
  .exact(fk l).2 b h⟩end
end
/-! the shapes of statements -/
def vY(J:Stmt):Option {x:List Expr×Expr×Pos//J= .Assign x.1 x.2.1 x.2.2}:=if h:J.ctorIdx=5 then some (Stmt.Assign.elim J h λ t v p=>⟨(t,v,p),rfl⟩)else none
def CH(J:Stmt):Option {x:Expr×Operator×Expr×Pos//J= .AugAssign x.1 x.2.1 x.2.2.1 x.2.2.2}:=if h:J.ctorIdx=7 then some (Stmt.AugAssign.elim J h λ t Z v p=>⟨(t,Z,v,p),rfl⟩)else none
def Kq(J:Stmt):Option {x:Expr×List Stmt×List Stmt×Pos//J= .If x.1 x.2.1 x.2.2.1 x.2.2.2}:=if h:J.ctorIdx=12 then some (Stmt.If.elim J h λ e a b p=>⟨(e,a,b,p),rfl⟩)else none
def CI(J:Stmt):Option {x:Expr×List Stmt×List Stmt×Pos//J= .While x.1 x.2.1 x.2.2.1 x.2.2.2}:=if h:J.ctorIdx=11 then some (Stmt.While.elim J h λ e a b p=>⟨(e,a,b,p),rfl⟩)else none
def ID(J:Stmt):Option {x:Expr×Expr×List Stmt×List Stmt×Pos//J= .For x.1 x.2.1 x.2.2.1 x.2.2.2.1 x.2.2.2.2}:=if h:J.ctorIdx=9 then some (Stmt.For.elim J h λ t e a b p=>⟨(t,e,a,b,p),rfl⟩)else none
def CJ(J:Stmt):Option {x:Option Expr×Pos//J= .Return x.1 x.2}:=if h:J.ctorIdx=3 then some (Stmt.Return.elim J h λ e p=>⟨(e,p),rfl⟩)else none
def FT(J:Stmt):Option {x:Expr×Pos//J= .Expr x.1 x.2}:=if h:J.ctorIdx=24 then some (Stmt.Expr.elim J h λ e p=>⟨(e,p),rfl⟩)else none
def IE(J:Stmt):Option {x:Pos//J= .Break x}:=if h:J.ctorIdx=26 then some (Stmt.Break.elim J h λ p=>⟨p,rfl⟩)else none
def CK(J:Stmt):Option {x:Option Expr×Option Expr×Pos//J= .Raise x.1 x.2.1 x.2.2}:=if h:J.ctorIdx=16 then some (Stmt.Raise.elim J h λ a b p=>⟨(a,b,p),rfl⟩)else none
def IF(J:Stmt):Option {x:List Stmt×List ExceptHandler×List Stmt×List Stmt×Pos//J= .Try x.1 x.2.1 x.2.2.1 x.2.2.2.1 x.2.2.2.2}:=if h:J.ctorIdx=17 then some (Stmt.Try.elim J h λ b h o f p=>⟨(b,h,o,f,p),rfl⟩)else none
def FU(e:ExceptHandler):Option {x:Option Expr×Option Str×List Stmt×Pos//e= .ExceptHandler x.1 x.2.1 x.2.2.1 x.2.2.2}:=match e with|.ExceptHandler t n b p=>some ⟨(t,n,b,p),rfl⟩
def FV(e:Expr):Option {x:List Expr×Pos//e= .JoinedStr x.1 x.2}:=if h:e.ctorIdx=18 then some (Expr.JoinedStr.elim e h λ l p=>⟨(l,p),rfl⟩)else none
def IG(e:Expr):Option {x:Expr×Int×Option Expr×Pos//e= .FormattedValue x.1 x.2.1 x.2.2.1 x.2.2.2}:=if h:e.ctorIdx=17 then some (Expr.FormattedValue.elim e h λ v i o p=>⟨(v,i,o,p),rfl⟩)else none
def Kr(e:PE):Option {x:PE×Option Nat×List Nat×PE×PE//e= .comp x.1 x.2.1 x.2.2.1 x.2.2.2.1 x.2.2.2.2}:=match e with|.comp a b c d f=>some ⟨(a,b,c,d,f),rfl⟩|_=>none
def oS{J:Type}(o:Option J)(f:J->Bool):Bool:=match o with|some a=>f a|none=>false
theorem HT{J:Type}{o:Option J}{f:J->Bool}{P:Option J->Prop}(h:oS o f=true)(k:∀a,f a=true->P (some a)):P o:=match o,h with|some a,h=>k a h
def AP(K:Frag)(U:Kd)(J:List Nat)(t:Expr):Bool:=bU (fF t) (λ x=>one J λ C=>a7 K U x.1.1 C&&ktsIn K C "BaseException")||bU (Cc t) λ y=>two y.1.1 λ a b r=>r.isEmpty&&(bU (fF a) λ x=>bU (fF b) λ z=>ec J λ Z J=>one J λ Y=>a7 K U x.1.1 Z&&(a7 K U z.1.1 Y&&((exmAny K (.ref Z) [.ref Z,.ref Y]==some true)&&(exmAny K (.ref Y) [.ref Z,.ref Y]==some true))))
section
variable(K:Frag)(J:List Str)(T:aU)(Z:Kd)
def yW:List Expr->List PE->Bool|[],l=>l.isEmpty|e::Y,l=>bU (vM e) (λ x=>Nat.ble x.1.1.length 1000&&yW Y l)||bU (IG e) λ y=>(y.1.2.1==-1)&&(y.1.2.2.1.isNone&&ec l λ a l=>aH K J T Z false false a y.1.1&&yW Y l)
mutual noncomputable def FW:PS->Stmt->Bool|.asg X e,st=>bU (vY st) λ y=>one y.1.1 λ t=>bU (fF t) λ z=>(J[X]?==some z.1.1)&&(pU Z z.1.1&&((bZ y.1.2.1||bU (Kr e) λ _=>true)&&aH K J T Z false false e y.1.2.1))|.ay o f e,st=>bU (vY st) λ y=>one y.1.1 λ t=>bU (sf t) λ z=>(J[f]?==some z.1.2.1)&&(bZ y.1.2.1&&(aH K J T Z false false o z.1.1&&aH K J T Z false false e y.1.2.1))|.dg o k e,st=>bU (vY st) λ y=>one y.1.1 λ t=>bU (qZ t) λ z=>bU (vM z.1.2.1) λ w=>(J[k]?==some w.1.1)&&(bZ y.1.2.1&&(aH K J T Z false false o z.1.1&&aH K J T Z false false e y.1.2.1))|.mq o i e,st=>bU (vY st) λ y=>one y.1.1 λ t=>bU (qZ t) λ z=>bZ y.1.2.1&&(aH K J T Z false false o z.1.1&&(aH K J T Z false false i z.1.2.1&&aH K J T Z false false e y.1.2.1))|.tA xs e,st=>bU (vY st) λ y=>one y.1.1 λ t=>Cd J none xs t λ _ Q=>bZ y.1.2.1&&(og y.1.2.1&&(Q.all (pU Z)&&aH K J T Z false false e y.1.2.1))|.aug X Y e,st=>bU (CH st) λ y=>bU (fF y.1.1) λ z=>(J[X]?==some z.1.1)&&((Y==y.1.2.1)&&(yM J Z X z.1.1&&(pU Z z.1.1&&aH K J T Z false false e y.1.2.2.1)))|.ij o f Y e,st=>bU (CH st) λ y=>bU (sf y.1.1) λ z=>(J[f]?==some z.1.2.1)&&((Y==y.1.2.1)&&(aH K J T Z false false o z.1.1&&aH K J T Z false false e y.1.2.2.1))|.nJ o k Y e,st=>bU (CH st) λ y=>bU (qZ y.1.1) λ z=>bU (vM z.1.2.1) λ w=>(J[k]?==some w.1.1)&&((Y==y.1.2.1)&&(aH K J T Z false false o z.1.1&&aH K J T Z false false e y.1.2.2.1))|.ite e a b,st=>bU (Kq st) λ y=>aH K J T Z false false e y.1.1&&(j_ a y.1.2.1&&j_ b y.1.2.2.1)|.iG e a,st=>bU (CI st) λ y=>y.1.2.2.1.isEmpty&&(aH K J T Z false false e y.1.1&&j_ a y.1.2.1)|.oT X U a,st=>bU (ID st) λ y=>bU (fF y.1.1) λ z=>y.1.2.2.2.1.isEmpty&&((J[X]?==some z.1.1)&&(pU Z z.1.1&&(gd y.1.2.1&&(aH K J T Z false true U y.1.2.1&&j_ a y.1.2.2.1))))|.ret e,st=>bU (CJ st) λ y=>oS y.1.1 λ v=>aH K J T Z false false e v|.gX e,st=>bU (CJ st) λ y=>oS y.1.1 λ v=>aH K J T Z false false e v|.ik,st=>bU (CJ st) λ y=>y.1.1.isNone|.expr e,st=>bU (FT st) λ y=>bZ y.1.1&&aH K J T Z false false e y.1.1|.brk,st=>bU (IE st) λ _=>true|.raise C l,st=>bU (CK st) λ y=>y.1.2.1.isNone&&oS y.1.1 λ e=>cN e λ x O=>a7 K Z x C&&(excIn K C JL "Exception.__new__"&&one O λ j=>bU (FV j) λ w=>two w.1.1 λ a b r=>Nat.ble r.length 100&&yW K J T Z (a::b::r) l)|.try a Cs h,st=>bU (IF st) λ y=>y.1.2.2.1.isEmpty&&(y.1.2.2.2.1.isEmpty&&one y.1.2.1 λ N=>bU (FU N) λ w=>w.1.2.1.isNone&&(oS w.1.1 λ t=>AP K Z Cs t&&(j_ a y.1.1&&ec w.1.2.2.1 λ s W=>j_ h (s::W))))noncomputable def j_:List PS->List Stmt->Bool|[],l=>l.isEmpty|a::V,l=>ec l λ s W=>FW a s&&j_ V W end
end
def bA(T:aU)(Z:kz)(n:Nat)(U:PS):Prop:=∀(c:Cx)(Y:Kd)(J:Nat)(W:Stmt),Sd T Z n c Y false->FW c.K c.nt T Y U W=true->bD c (xT Z T c.hd J U) W
def dP(T:aU)(Z:kz)(n:Nat)(l:List PS):Prop:=∀(c:Cx)(Y:Kd)(J:Nat)(U:List Stmt),Sd T Z n c Y false->j_ c.K c.nt T Y l U=true->tX c (iE Z T c.hd J l) U
section
variable{T:aU}{J:kz}{n:Nat}{c:Cx}{Z:Kd}
theorem kF(S:Sd T J n c Z false){x:Str}(h:pU Z x=true):c.env.kindOf x=some .local\/c.env.kindOf x=some .cell:=by rw[S.env (S.cm rfl) x];exact(jO h).imp eq_of_beq eq_of_beq
theorem Sd.e(S:Sd T J n c Z false){Y:PE}{U:Nat}{e:Expr}(h:aH c.K c.nt T Z false false Y e=true):b5 c (a5 J T c.hd U Y) e:=(aI Y).get S h
theorem yX(S:Sd T J n c Z false){Q N:List Nat}{W:List Str}{e:PE}{t v:Expr}{p:Pos}{Y:Nat}(h:t9 c.nt none Q t N W)(X:bZ v=true)(O:og v=true)(G:W.all (pU Z)=true)(D:aH c.K c.nt T Z false false e v=true):bD c (xT J T c.hd Y (.tA Q e)) (.Assign [t] v p):=by refine bf λ V U=>?_;cases h with|tup h1 h2 I=>refine U ?_;exact E_ S.ok (S.cm rfl) h2 h1 (λ m R=>kF S (List.all_eq_true.mp G m R)) X O (S.e (U:=Y) D).he
theorem CL{o e:PE}{f:Nat}:bA T J n (.ay o f e):=λ c Z Y U S q=>bP (P:=bD c _) q λ y _ q=>iA (P:=λ t=>bD c _ (.Assign t y.2.1 y.2.2)) q λ t q=>bP (P:=λ t=>bD c _ (.Assign [t] y.2.1 y.2.2)) q λ z _ q=>B3 S.ok (S.cm rfl) T S.hp.Fs (eq_of_beq (an q).1) (an (an q).2).1 (S.e (U:=Y) (an (an (an q).2).2).2).he (S.e (U:=Y) (an (an (an q).2).2).1).he
theorem CM{o e:PE}{f:Nat}:bA T J n (.dg o f e):=λ c Z Y U S q=>bP (P:=bD c _) q λ y _ q=>iA (P:=λ t=>bD c _ (.Assign t y.2.1 y.2.2)) q λ t q=>bP (P:=λ t=>bD c _ (.Assign [t] y.2.1 y.2.2)) q λ z _ q=>bP (P:=λ i=>bD c _ (.Assign [.Subscript z.1 i z.2.2] y.2.1 y.2.2)) q λ w _ q=>B4 S.ok (S.cm rfl) (eq_of_beq (an q).1) (an (an q).2).1 (S.e (U:=Y) (an (an (an q).2).2).2).he (S.e (U:=Y) (an (an (an q).2).2).1).he
theorem CN{o i e:PE}:bA T J n (.mq o i e):=λ c Z Y U S q=>bP (P:=bD c _) q λ y _ q=>iA (P:=λ t=>bD c _ (.Assign t y.2.1 y.2.2)) q λ t q=>bP (P:=λ t=>bD c _ (.Assign [t] y.2.1 y.2.2)) q λ z _ q=>B5 S.ok (S.cm rfl) (an q).1 (S.e (U:=Y) (an (an (an q).2).2).2).he (S.e (U:=Y) (an (an q).2).1).he (S.e (U:=Y) (an (an (an q).2).2).1).he
theorem FX{Y:List Nat}{e:PE}:bA T J n (.tA Y e):=λ c Z U V S q=>bP (P:=bD c _) q λ y _ q=>iA (P:=λ t=>bD c _ (.Assign t y.2.1 y.2.2)) q λ t q=>(FP q).elim λ W h=>h.elim λ Q h=>yX S h.1 (an h.2).1 (an (an h.2).2).1 (an (an (an h.2).2).2).1 (an (an (an h.2).2).2).2
theorem FY{X:Nat}{W:Operator}{e:PE}:bA T J n (.aug X W e):=λ c Z U Q S q=>bP (P:=bD c _) q λ y _ q=>bP (P:=λ t=>bD c _ (.AugAssign t y.2.1 y.2.2.1 y.2.2.2)) q λ z _ q=>mC (P:=λ Y=>bD c _ (.AugAssign (.Name z.1 z.2) Y y.2.2.1 y.2.2.2)) (an (an q).2).1 (Fb S.ok (S.cm rfl) (eq_of_beq (an q).1) (S.iQ (an (an (an q).2).2).1) (kF S (an (an (an (an q).2).2).2).1) (S.e (U:=U) (an (an (an (an q).2).2).2).2).he)
theorem CO{o e:PE}{f:Nat}{W:Operator}:bA T J n (.ij o f W e):=λ c Z Y Q S q=>bP (P:=bD c _) q λ y _ q=>bP (P:=λ t=>bD c _ (.AugAssign t y.2.1 y.2.2.1 y.2.2.2)) q λ z _ q=>mC (P:=λ U=>bD c _ (.AugAssign (.Attribute z.1 z.2.1 z.2.2) U y.2.2.1 y.2.2.2)) (an (an q).2).1 (B6 S.ok (S.cm rfl) T S.hp.attr S.hp.Fs (eq_of_beq (an q).1) (S.e (U:=Y) (an (an (an q).2).2).1).he (S.e (U:=Y) (an (an (an q).2).2).2).he)
theorem CP{o e:PE}{f:Nat}{W:Operator}:bA T J n (.nJ o f W e):=λ c Z Y Q S q=>bP (P:=bD c _) q λ y _ q=>bP (P:=λ t=>bD c _ (.AugAssign t y.2.1 y.2.2.1 y.2.2.2)) q λ z _ q=>bP (P:=λ i=>bD c _ (.AugAssign (.Subscript z.1 i z.2.2) y.2.1 y.2.2.1 y.2.2.2)) q λ w _ q=>mC (P:=λ U=>bD c _ (.AugAssign (.Subscript z.1 (.Constant (.str w.1) w.2.1 w.2.2) z.2.2) U y.2.2.1 y.2.2.2)) (an (an q).2).1 (B7 S.ok (S.cm rfl) (eq_of_beq (an q).1) (S.e (U:=Y) (an (an (an q).2).2).1).he (S.e (U:=Y) (an (an (an q).2).2).2).he)
theorem FZ{e:PE}{a b:List PS}(h1:dP T J n a)(h2:dP T J n b):bA T J n (.ite e a b):=λ c Z Y U S q=>bP (P:=bD c _) q λ y _ q=>Fe (S.cm rfl) (S.e (U:=Y) (an q).1).hc (h1 c Z Y _ S (an (an q).2).1) (h2 c Z Y _ S (an (an q).2).2)
theorem yY{e:PE}{a:List PS}(h1:dP T J n a):bA T J n (.iG e a):=λ c Z Y U S q=>bP (P:=bD c _) q λ y _ q=>js (P:=λ b=>bD c _ (.While y.1 y.2.1 b y.2.2.2)) (an q).1 (yH (S.cm rfl) (S.e (U:=Y) (an (an q).2).1).hc (h1 c Z Y _ S (an (an q).2).2))
theorem F0{e:PE}:bA T J n (.ret e):=λ c Z Y U S q=>bP (P:=bD c _) q λ y _ q=>HT (P:=λ v=>bD c _ (.Return v y.2)) q λ v q=>Fc (S.cm rfl) (S.e (U:=Y) q).he
theorem CQ{e:PE}:bA T J n (.gX e):=λ c Z Y U S q=>bP (P:=bD c _) q λ y _ q=>HT (P:=λ v=>bD c _ (.Return v y.2)) q λ v q=>B8 (S.cm rfl) (S.e (U:=Y) q).he
theorem CR:bA T J n (.ik):=λ c Z Y U S q=>bP (P:=bD c _) q λ y _ q=>mV (P:=λ v=>bD c _ (.Return v y.2)) q B9
theorem CT{e:PE}:bA T J n (.expr e):=λ c Z Y U S q=>bP (P:=bD c _) q λ y _ q=>B_ S.ok (S.cm rfl) (an q).1 (S.e (U:=Y) (an q).2).he
theorem F5:bA T J n (.brk):=λ c Z Y U S q=>bP (P:=bD c _) q λ y _ q=>Fd
theorem IH:dP T J n []:=λ c Z Y U S q=>js (P:=tX c _) q Ff
theorem F6{a:PS}{l:List PS}(h1:bA T J n a)(h2:dP T J n l):dP T J n (a::l):=λ c Z Y U S q=>Ee (P:=tX c _) q λ s U q=>Ca (h1 c Z Y s S (an q).1) (h2 c Z Y U S (an q).2)
theorem q_{O:Expr}{V:List Comprehension}{Q:Scope}{p W:Pos}{x:Str}{Y:Nat}{U:Env}:∃b,swapsWith (.ListComp O V Q p) (some (.Name x W)) Y U=pure b:=⟨_,rfl⟩
theorem vZ(S:Sd T J n c Z false){X:Nat}{x:Str}{v:Expr}{D p:Pos}{Q:Nat}{O:PE}{N:Option Nat}{Y:List Nat}{V W:PE}(R:c.nt[X]?=some x)(G:c.env.kindOf x=some .local\/c.env.kindOf x=some .cell)(K:aH c.K c.nt T Z false false (.comp O N Y V W) v=true):bD c (xT J T c.hd Q (.asg X (.comp O N Y V W))) (.Assign [.Name x D] v p):=by refine bf λ I U=>?_;obtain⟨F,t,B,H,M,A,E,C,rfl,P⟩:=lE (V:=Q) (aI O) (aI V) (aI W) S K;obtain⟨b,L⟩:=q_ (O:=F) (V:=[⟨t,B,H,0⟩]) (Q:=M) (p:=A) (W:=D) (x:=x) (Y:=p.line) (U:=c.env);cases b with|false=>refine U ?_;exact AI S.ok (S.cm rfl) R G (S.e (U:=Q) K).he L|true=>haveI:=ub S.ok P.cm R G L P.tg P.JN P.set P.ifs P.elt P.src;rw[<-sq]at this;refine U ?_;exact this
theorem F7{X:Nat}{e:PE}:bA T J n (.asg X e):=λ c Z Y V S q=>bP (P:=bD c _) q λ y _ q=>iA (P:=λ t=>bD c _ (.Assign t y.2.1 y.2.2)) q λ t q=>bP (P:=λ t=>bD c _ (.Assign [t] y.2.1 y.2.2)) q λ z _ q=>have W:=kF S (an (an q).2).1;(jO (an (an (an q).2).2).1).elim (λ U=>AI S.ok (S.cm rfl) (eq_of_beq (an q).1) W (S.e (U:=Y) (an (an (an q).2).2).2).he (eY U)) λ U=>bP (P:=λ e=>aH c.K c.nt T Z false false e y.2.1=true->bD c (xT J T c.hd Y (.asg X e)) (.Assign [.Name z.1 z.2] y.2.1 y.2.2)) U (λ w _ _ Q=>vZ S (eq_of_beq (an q).1) W Q) (an (an (an q).2).2).2
theorem CU(S:Sd T J n c Z false){X:Nat}{W:PE}{a:List PS}(h1:dP T J n a){x:Str}{G p:Pos}{N:Expr}{b:List Stmt}{Y:Nat}(L:c.nt[X]?=some x)(I:pU Z x=true)(M:gd N=true)(F:aH c.K c.nt T Z false true W N=true)(K:j_ c.K c.nt T Z a b=true):bD c (xT J T c.hd Y (.oT X W a)) (.For (.Name x G) N b [] p):=by
 have V:=S.cm rfl;haveI P:=(aI W c Z false true Y N S F).2;haveI:=Fh (K:=λ U O=>iE J T c.hd Y a U O) (M:=b) (ci:=p) (px:=G) S.ok V L (kF S I) M P (λ g A=>by haveI H:Sd T J n (c.sub g none) Z false:=V▸S.plus g;exact h1 (c.sub g none) Z Y b H K);intro U O R s Q E f p;refine this U O R s Q E f ?_;revert p;show aO c R s Q E (if c.hd=true then .stuck else _)->aO c R s Q E (if c.hd=true then .stuck else _);split;.exact id
 .unfold Ft;cases a5 J T c.hd Y W U O with|exc C D=>exact id|stuck=>exact id|ok v D=>cases v<;>exact id
theorem F8{X:Nat}{Y:PE}{a:List PS}(h1:dP T J n a):bA T J n (.oT X Y a):=λ c Z U W S q=>bP (P:=bD c _) q λ y _ q=>bP (P:=λ t=>bD c _ (.For t y.2.1 y.2.2.1 y.2.2.2.1 y.2.2.2.2)) q λ z _ q=>js (P:=λ b=>bD c _ (.For (.Name z.1 z.2) y.2.1 y.2.2.1 b y.2.2.2.2)) (an q).1 (CU S h1 (eq_of_beq (an (an q).2).1) (an (an (an q).2).2).1 (an (an (an (an q).2).2).2).1 (an (an (an (an (an q).2).2).2).2).1 (an (an (an (an (an q).2).2).2).2).2)
theorem rg(S:Sd T J n c Z false){Y:Nat}:∀{U:List Expr}{l:List PE},yW c.K c.nt T Z U l=true->se c (bc J T c.hd Y l) U|[],l,h=>js (P:=λ l=>se c (bc J T c.hd Y l) []) h .nil|e::U,l,h=>(jO h).elim (λ h=>bP (P:=λ e=>se c (bc J T c.hd Y l) (e::U)) h λ x _ h=> .str (Nat.le_of_ble_eq_true (an h).1) (rg S (an h).2)) λ h=>bP (P:=λ e=>se c (bc J T c.hd Y l) (e::U)) h λ y _ h=>vS (P:=λ i=>se c (bc J T c.hd Y l) (.FormattedValue y.1 i y.2.2.1 y.2.2.2::U)) (an h).1 (mV (P:=λ o=>se c (bc J T c.hd Y l) (.FormattedValue y.1 (-1) o y.2.2.2::U)) (an (an h).2).1 (Ee (P:=λ l=>se c (bc J T c.hd Y l) (.FormattedValue y.1 (-1) none y.2.2.2::U)) (an (an h).2).2 λ a l h=> .fv (S.e (U:=Y) (an h).1).he (rg S (an h).2)))
theorem yZ{C:Nat}{l:List PE}:bA T J n (.raise C l):=λ c Z Q V S q=>bP (P:=bD c _) q λ y _ q=>mV (P:=λ o=>bD c _ (.Raise y.1 o y.2.2)) (an q).1 (HT (P:=λ e=>bD c _ (.Raise e none y.2.2)) (an q).2 λ e q=>Fn (P:=λ e=>bD c _ (.Raise (some e) none y.2.2)) q λ x U W Y q=>iA (P:=λ W=>bD c _ (.Raise (some (.Call (.Name x U) W [] Y)) none y.2.2)) (an (an q).2).2 λ j h=>bP (P:=λ j=>bD c _ (.Raise (some (.Call (.Name x U) [j] [] Y)) none y.2.2)) h λ w _ h=>vO (P:=λ l=>bD c _ (.Raise (some (.Call (.Name x U) [.JoinedStr l w.2] [] Y)) none y.2.2)) h λ a b r h=>yK S.ok (S.cm rfl) (cG (S.cm rfl)▸S.a7 (an q).1) (an (an q).2).1 (rg S (an h).2) (Nat.le_of_ble_eq_true (an h).1))
theorem F9{C D:Nat}(h:bW C [D]=true):C=D:=by
 unfold bW at h;by_cases z:D=C;.exact z.symm
 .rw[if_neg z]at h;cases h
theorem II{C Y U:Nat}(h:bW C [Y,U]=true):C=Y\/C=U:=by
 by_cases z:Y=C;.exact .inl z.symm
 .exact .inr (F9 ((if_neg z:bW C [Y,U]=bW C [U]).symm.trans h))
theorem y3(S:Sd T J n c Z false){Y:List Nat}{t:Expr}(h:AP c.K Z Y t=true):∀C,bW C Y=true->cH c t C:=by have U:∀{x:Str}{f:Nat},a7 c.K Z x f=true->a7 c.K c.env.kindOf x f=true:=λ{x f}h=>cG (S.cm rfl)▸S.a7 h;exact(jO h).elim (λ h=>bP (P:=λ t=>∀C,bW C Y=true->cH c t C) h λ x _ h=>iA (P:=λ Y=>∀C,bW C Y=true->cH c (.Name x.1 x.2) C) h λ D h C W=>F9 W▸vH S.ok (S.cm rfl) (U (an h).1) (an h).2) λ h=>bP (P:=λ t=>∀C,bW C Y=true->cH c t C) h λ y _ h=>vO (P:=λ l=>∀C,bW C Y=true->cH c (.Tuple l y.2.1 y.2.2) C) h λ a b r h=>js (P:=λ r=>∀C,bW C Y=true->cH c (.Tuple (a::b::r) y.2.1 y.2.2) C) (an h).1 (bP (P:=λ a=>∀C,bW C Y=true->cH c (.Tuple [a,b] y.2.1 y.2.2) C) (an h).2 λ x _ h=>bP (P:=λ b=>∀C,bW C Y=true->cH c (.Tuple [.Name x.1 x.2,b] y.2.1 y.2.2) C) h λ z _ h=>Ee (P:=λ Y=>∀C,bW C Y=true->cH c (.Tuple [.Name x.1 x.2,.Name z.1 z.2] y.2.1 y.2.2) C) h λ Q Y h=>iA (P:=λ Y=>∀C,bW C (Q::Y)=true->cH c (.Tuple [.Name x.1 x.2,.Name z.1 z.2] y.2.1 y.2.2) C) h λ V h C W=>(II W).elim (λ e=>e▸pS S.ok (S.cm rfl) (U (an h).1) (U (an (an h).2).1) (eq_of_beq (an (an (an h).2).2).1)) λ e=>e▸pS S.ok (S.cm rfl) (U (an h).1) (U (an (an h).2).1) (eq_of_beq (an (an (an h).2).2).2))
theorem F_{a h:List PS}{D:List Nat}(h1:dP T J n a)(h2:dP T J n h):bA T J n (.try a D h):=λ c Z Y G S q=>bP (P:=bD c _) q λ y _ q=>js (P:=λ o=>bD c _ (.Try y.1 y.2.1 o y.2.2.2.1 y.2.2.2.2)) (an q).1 (js (P:=λ f=>bD c _ (.Try y.1 y.2.1 [] f y.2.2.2.2)) (an (an q).2).1 (iA (P:=λ R=>bD c _ (.Try y.1 R [] [] y.2.2.2.2)) (an (an q).2).2 λ Q q=>bP (P:=λ Q=>bD c _ (.Try y.1 [Q] [] [] y.2.2.2.2)) q λ w _ q=>mV (P:=λ O=>bD c _ (.Try y.1 [.ExceptHandler w.1 O w.2.2.1 w.2.2.2] [] [] y.2.2.2.2)) (an q).1 (HT (P:=λ t=>bD c _ (.Try y.1 [.ExceptHandler t none w.2.2.1 w.2.2.2] [] [] y.2.2.2.2)) (an q).2 λ t q=>Ee (P:=λ b=>bD c _ (.Try y.1 [.ExceptHandler (some t) none b w.2.2.2] [] [] y.2.2.2.2)) (an (an q).2).2 λ s V X=>Fi (T:=λ U W=>iE J T c.hd Y a U W) (M:=λ U W=>iE J T true Y h U W) (K:=y.1) (I:=s) (N:=V) (P:=w.2.2.2) (j:=y.2.2.2.2) S.ok (y3 S (an q).1) (h1 c Z Y y.1 S (an (an q).2).1) (λ e N=>h2 (c.hand e) Z Y (s::V) ⟨N,S.hp,S.AO,S.kd,S.ih,S.cm⟩ X))))
mutual theorem Ga:∀U:PS,bA T J n U|.asg x e=>F7|.ay o f e=>CL|.dg o k e=>CM|.mq o i e=>CN|.tA xs e=>FX|.aug x Y e=>FY|.ij o f Y e=>CO|.nJ o k Y e=>CP|.ite c a b=>FZ (iV a) (iV b)|.iG c a=>yY (iV a)|.oT x s a=>F8 (iV a)|.ret e=>F0|.gX e=>CQ|.ik=>CR|.expr e=>CT|.brk=>F5|.raise C l=>yZ|.try a Cs h=>F_ (iV a) (iV h)theorem iV:∀l:List PS,dP T J n l|[]=>IH|a::l=>F6 (Ga a) (iV l)end
end
/-! functions -/
def JO(K:Frag)(Y:List Str)(T:aU)(U:bh)(J:FuncData)(Z:List Stmt):List Bool:=[J.params.posonlyargs.isEmpty,J.params.vararg.isNone,J.params.kwonlyargs.isEmpty,J.params.kwarg.isNone,decide (J.params.args.map (·.arg)).Nodup,U.params.map (λ i=>Y[i]?)==(J.params.args.map (·.arg)).map some,(J.params.args.map (·.arg)).all (λ x=>pU (λ y=>J.scope.names.lookup y) x),decide ((cellsFrom 0 J.scope.names []).map (·.1)).Nodup,!J.scope.isCoroutine,J.globals==mainGlobals,J.closure.isEmpty,J.defaults== .none,J.builtins==builtinsNs,!J.scope.isGenerator,J.scope.kind== .function,codeIn K J.code J.qualname,j_ K Y T (λ y=>J.scope.names.lookup y) U.body Z]
def Gb(K:Frag)(Z:List Str)(T:aU)(f:Nat)(Y:bh):Bool:=match K.lookup f with|some o=>(match o.data with|.func J=>(match J.body with|.stmts body=>(JO K Z T Y J body).all id|_=>false)|_=>false)|none=>false
theorem IJ{l:List Bool}(h:l.all id=true):∀i,l.getD i true=true:=by induction l with|nil=>exact λ _=>rfl|cons a l J=>rw[List.all_cons,Bool.and_eq_true]at h;intro i;cases i with|zero=>exact h.1|succ i=>exact J h.2 i
theorem IK{J:Type}{l:List J}(h:l.isEmpty=true):l=[]:=List.isEmpty_iff.mp h
theorem JP{J:Type}{o:Option J}(h:o.isNone=true):o=none:=Option.isNone_iff_eq_none.mp h
theorem Ge{b:Bool}(h:(!b)=true):b=false:=by cases b;rfl;cases h
theorem CV{K:Frag}{V:List Str}{T:aU}{f:Nat}{O:bh}(h:Gb K V T f O=true){G:Prop}(H:∀Q J Y N U,FnAt K V f O.params Q J Y N U->j_ K V T (λ y=>Y.names.lookup y) O.body J=true->G):G:=by
 unfold Gb at h;cases X:K.lookup f with
  |none=>rw[X]at h;cases h
  |some o=>
   rw[X]at h;obtain⟨D,od,L,W⟩:=o;cases L with
    |func Z=>
     replace h:(match Z.body with|.stmts J=>(JO K V T O Z J).all id|_=>false)=true:=h;cases R:Z.body with
      |stmts J=>
       rw[R]at h;have q:=IJ h;have e:Z=fnX Z.name Z.qualname Z.params J Z.scope [] .none Z.kwdefaults Z.doc Z.pyModule Z.annotations Z.code Z.closureTuple:=by show Z={Z with globals:=mainGlobals,closure:=[],defaults:= .none,builtins:=builtinsNs,body:= .stmts J};rw[<-R,<-(eq_of_beq (q 9):Z.globals=mainGlobals),<-(IK (q 10):Z.closure=[]),<-(eq_of_beq (q 11):Z.defaults= .none),<-(eq_of_beq (q 12):Z.builtins=builtinsNs)]
       exact H Z.qualname J Z.scope Z.code Z.params ⟨⟨_,_,_,_,_,_,D,od,W,X.trans (congrArg (λ d=>some (⟨D,od,.func d,W⟩:Obj)) e)⟩,q 15,IK (q 0),JP (q 1),IK (q 2),JP (q 3),of_decide_eq_true (q 4),eq_of_beq (q 5),λ x I=>(jO (List.all_eq_true.mp (q 6) x I)).imp eq_of_beq eq_of_beq,of_decide_eq_true (q 7),Ge (q 8),Ge (q 13),eq_of_beq (q 14)⟩ (q 16)
      |_=>rw[R]at h;cases h
    |_=>cases h
theorem v3{T:aU}{Y:List (Nat×bh)}{K:Frag}{C:List Str}(B:yP T K C)(u:∀f W,bw f Y=some W->Gb K C T f W=true):∀n,pD K C (bB T Y n) n
 |0=>λ c A w G S z L P f Q J H O B F s R q d p=>p.elim
 |n+1=>λ c A w G S z L P f Q J H O N F s R q d p=>by
  haveI t:=v3 B u n;replace p:aq c (aF c) O F s (λ v X=>R (.ok (.ret v)) X) (λ e X=>R (.error e) X) (match bw f Y with|some W=>jJ (bB T Y n) T c.hd W Q J N|none=> .stuck):=p;cases j:bw f Y with
   |none=>rw[j]at p;exact p.elim
   |some W=>
    rw[j]at p;refine CV (u f W j) λ V I Z D M k r=>?_;subst w G;replace p:aq c (aF c) O F s (λ v X=>R (.ok (.ret v)) X) (λ e X=>R (.error e) X) (if J.length=W.params.length then qO (iE (bB T Y n) T c.hd Q W.body (W.params.zip J) N)else .stuck):=p;by_cases U:J.length=W.params.length;.rw[if_pos U]at p;refine yx S z (Nat.lt_of_le_of_lt (Nat.le_add_right ..) P.1) q k d U (λ g=>?_) p;haveI E:=tZ (W:=F.br) (Z:=V) (J:=Z) (V:=g) (O:=f) (U:=D) S z L (by have:=P.2;omega) k.kd;exact iV W.body (c.callee A F.br V Z g f D) (λ y=>Z.names.lookup y) Q I ⟨E,B,P.yy,λ x=>rfl,t,λ _=>rfl⟩ r
    .rw[if_neg U]at p;exact p.elim
theorem CW{P:Params}{W:List Str}{U:Led}{Y:List Addr}{h:Heap}{J:List Int}:∀{Z:List Value},WellAll P h Z (ofPys (J.map PyData.int))->bY P W U Y (J.map V.int) Z:=by induction J with|nil=>intro Z w;cases w;exact .nil|cons i J Q=>intro Z w;cases w with|cons a b=>cases a;exact .cons .int (Q b)
section
variable{O:Program}{w:World}{K:Frag}{R:List Str}{p:Program}{U:List Str}{M L:Str->Option Value}{s:Shared}{l:Addr}{N:List Value}{D:List Int}{Z:Str}{J:Scope}{W:List Stmt}{I:Addr}{G:Value}{Y:Heap}{H:Nat}{m:Str->Option Value}
theorem y5(X:K.In s.heap)(T:TopRead p U M L s.heap)(d:s.heap.get? l=some (aS N 0))(hv:bY w.params R [(l,aS N 0)] [] (D.map V.int) N)(j:D.length<=63)(bd:∀a o,K.lookup a=some o->a≠l)(u:yP tabs K R)(hf:∀f fn,bw f fns=some fn->Gb K R tabs f fn=true)(nd:R.Nodup)(hk:J.kind= .function)(P:∀n,J.names.lookup n≠some .cell)(ck:j_ K R tabs (λ y=>J.names.lookup y) g_.body W=true)(nm:R[158]?=some ("script":Str))(ls:J.names.lookup ("script":Str)=some .local)(F:Fr s.heap s.heap.objs.size Y m)(hm:m "script"=some (.ref l)){Q:Flow->Shared->Prop}{E:Value->Shared->Prop}(be:∃B u,iE (bB tabs fns 39) tabs false 0 g_.body [(158,.lst (D.map V.int))] ⟨[],0⟩= .mk (.ret (.bool true)) B u)(hQ:∀t A,(∀b o,s.heap.get? b=some o->t.get? b=some o)->Q (.ret (.bool true)) (bq s t A)):wpAny (model O w) (callerA.deeper (envOf Z J s.heap.objs.size I G)) (execs W (envOf Z J s.heap.objs.size I G)) Q E (bq s Y H):=by
 let c:Cx:={prog:=O,w:=w,K:=K,nt:=R,p:=p,loose:=U,mg:=M,mb:=L,A₀:=callerA,A:=callerA.deeper (envOf Z J s.heap.objs.size I G),base:=hideAll s.heap [l],outer:=[],name:=Z,scope:=J,L:=s.heap.objs.size,fa:=I,cd:=G,cells:=[],fr:=[],hd:=false,cm:=none};have bi:∀{a:Addr}{m:Str->Option Value},s.heap.Ns a m->a∉[l]:=λ{a m}g ha=>by obtain⟨o,es,ep,e,hd,_⟩:=g;have:a=l:=List.mem_singleton.mp ha;rw[this,d]at e;cases e;cases hd
 have S:∀{a:Addr}{m:Str->Option Value},s.heap.Ns a m->(hideAll s.heap [l]).Ns a m:=λ{a m}g=>by haveI C:=bi g;obtain@⟨@o,@es,@ep,e,r⟩:=g;exact⟨o,es,ep,hideAll_get _ e C,r⟩
 have ad:aC c:={
  X:=λ a o e=>hideAll_get _ (X a o e) (λ h=>bd a o e (List.mem_singleton.mp h)),T:=⟨S T.g,S T.b,by obtain⟨mc,h1,h2⟩:=T.nolimit;exact⟨mc,S h1,h2⟩,T.builtins,T.free⟩,frames:=rfl,hk:=hk,hh:=λ _=>rfl,units:=by show callerA.units+3<cLine;decide
  nt:=nd,EG:=λ k h=>by cases h
  inj:=λ x y a h=>by cases h};have hB:=iV (T:=tabs) (J:=bB tabs fns 39) (n:=39) g_.body c (λ y=>J.names.lookup y) 0 W ⟨ad,u,⟨by show callerA.depth+1+3*39+1<recursionLimit;decide,by show callerA.units+3+12*39+41<cLine;decide⟩,λ x=>rfl,v3 u hf 39,λ _=>rfl⟩ ck;haveI lt:l<s.heap.objs.size:=Heap.lt_size d;have i:FS c [(158,.lst (D.map V.int))] ⟨[],0⟩ ⟨hideAll s.heap [l],m,[],[],[(l,aS N 0)],[]⟩ Y:={
  B:=below_caller _,D:=λ b z=>by cases z
  F:=⟨F.ns,λ b o e=>F.keep b o (of_hideAll _ e),Nat.le_of_eq (hideAll_size _ _)⟩,N:=λ q C=>by
   haveI C:q=(l,aS N 0):=by
    rcases List.mem_cons.mp C with h|h;.exact h
    .cases h
   subst C;exact⟨F.keep _ _ d,Nat.ne_of_lt lt,hideAll_none _ (List.mem_singleton.mpr rfl)⟩
  R:=⟨.nil,rfl⟩,ap:=⟨List.nodup_nil,λ _ h=>by cases h⟩,lr:=λ x v e=>by
   haveI e:(if 158=x then some (V.lst (D.map V.int))else none)=some v:=e;by_cases q:158=x;.rw[if_pos q]at e;cases e;subst q;haveI lv:=hv.length;rw[List.length_map]at lv;refine⟨_,nm,.ref l,.lst (List.mem_singleton.mpr rfl) (by show N.length<=lid;unfold lid;exact":9.h`$&%Bdm`DsRF#" j lv) hv,λ _=>hm,λ h=>?_⟩;haveI h:J.names.lookup ("script":Str)=some .cell\/J.names.lookup ("script":Str)=some .free:=h;rw[ls]at h;rcases h with h|h<;>cases h
   .rw[if_neg q]at e;cases e
  fc:=λ n h=>absurd h (P n)};obtain@⟨@B,@ce,e⟩:=be;refine hB _ _ _ (bq s Y H) Q E i ?_;show aO c _ _ Q E (iE (bB tabs fns 39) tabs false 0 g_.body [(158,.lst (D.map V.int))] ⟨[],0⟩);rw[e];intro t A bv bn x f v;cases v;refine hQ t A λ b o z=>?_;by_cases q:b=l;.subst q;rw[d]at z;cases z;exact(f.N (b,aS N 0) (List.mem_append_right _ (List.mem_append_left _ (x.up.objs _ (List.mem_singleton.mpr rfl))))).1
 .exact f.F.keep b o (f.B.stays b o (hideAll_get _ z (λ h=>q (List.mem_singleton.mp h))))
end
structure Gn where
 os:BT
 a:Nat
 t:Nat
 es:List DictEntry
 mn:Value
 co:List Value
def v5(P:Params)(x:Str)(t:Nat)(v:Value):DictEntry:=⟨PyData.keyHash P x,.str x t,v⟩
def gO(c:String)(d:Data):Obj:={cls:= .type c,data:=d}
def gN(d:Data):Obj:={cls:= .none,data:=d}
def IL(v:Value)(x:Str):Bool:=match v with|.str y _=>Fast.sEq y x|_=>false
def gF:Str:="/claim/cut.py"
def gi(n:Nat):Value:= .int n 0
def y6(T:BT)(a:Nat):List Obj->BT|[]=>T|o::r=>y6 (T.ins a o) (a+1) r
def v7(t:Nat):List Str->List Value|[]=>[]|x::r=> .str x t::v7 (t+1) r
def y7(P:Params)(x:Str)(t:Nat)(v:Value):List DictEntry->List DictEntry|[]=>[v5 P x t v]|e::r=>if IL e.key x then⟨e.hash,e.key,v⟩::r else e::y7 P x t v r
def JQ(q n:Str)(U:Arguments)(b:List Stmt)(Z:Scope)(Y:Nat)(O:Value)(a t:Nat):List Obj:=let f:FuncData:={name:=n,qualname:=q,params:=U,body:= .stmts b,scope:=Z,globals:=0,closure:=[],defaults:= .none,kwdefaults:= .none};let W:=(Z.names.filter λ p=>p.2== .local).map (·.1);let J:=!Z.more.isEmpty;let k:=if J then a+2 else a+4;let Q:=if J then t+3 else t+3+W.length;let V:=gO "code" (.fields #[.str n t,.str q (t+1),.str gF (t+2),gi Y,gi U.args.length,gi 0,gi 0,gi 3,.ref a,.bool true,gi 181,.ref (a+1),.none,if J then .none else .ref (a+2),if J then .none else .ref (a+3),.ref k,gi Q,gi Y,.str gF (Q+1)]);[gO "tuple" (.seq #[]),gN (.fields #[])]++(if J then[]else[gO "tuple" (.seq (v7 (t+3) W).toArray),gO "tuple" (.seq #[])])++[gN (.func f),V,gO "function" (.func {f with globals:=3,pyModule:=O,code:= .ref (k+1)})]
def Gf(J:Scope):Nat:=if !J.more.isEmpty then 5 else 5+(J.names.filter λ p=>p.2== .local).length
structure Cs where
 os:List Obj
 a:Nat
 t:Nat
 es:List DictEntry
 co:List Value
def rh(P:Params)(c:Str)(J:Value):List Stmt->Cs->Cs|[],s=>s|.FunctionDef n Y b _ _ _ Z _ _ pos::r,s=>let l:=JQ (c++"."++n) n Y b Z pos.line J s.a s.t;let a:=s.a+l.length;let t:=s.t+Gf Z;rh P c J r ⟨s.os++l,a,t+1,s.es++[v5 P n t (.ref (a-1))],s.co++[gi pos.line,gi pos.col,.ref (a-2)]⟩|_::r,s=>rh P c J r s
def Gg(s:Gn):List Expr->Option Value|.Name n _::_=>some (match s.es.find? (λ e=>IL e.key n)with|some e=>e.val|none=> .type "Exception")|_=>none
def Ks(P:Params)(s:Gn):Stmt->Gn|.Assign [.Name n _] (.Constant c _ _) _=>let v:Value:=match c with|.str x=> .str x s.t|.int i=> .int i s.t|_=> .none;{s with t:=s.t+2,es:=y7 P n (s.t+1) v s.es,mn:=if Fast.sEq n "__name__"then v else s.mn}|.FunctionDef n F b _ _ _ G _ _ pos=>let l:=JQ n n F b G pos.line s.mn s.a s.t;let a:=s.a+l.length;let t:=s.t+Gf G;{s with os:=y6 s.os s.a l,a:=a,t:=t+1,es:=y7 P n t (.ref (a-1)) s.es,co:=s.co++[gi pos.line,gi 0,.ref (a-2)]}|.ClassDef n L _ b _ _ _ _ _ K pos=>let a:=s.a;let t:=s.t;let J:=Gg s L;let Y:=match J with|some (.ref _)=>true|_=>false;let W:=match J with|some (.type _)=>true|_=>false;let m:=rh P n s.mn b ⟨[],a+7,t+12,[v5 P "__module__" (t+7) s.mn,v5 P "__qualname__" (t+9) (.str n (t+8)),v5 P "__firstlineno__" (t+11) (.int pos.line (t+10))],[]⟩;let R:=m.a;let U:=m.t+K.length;let X:=m.es++[v5 P "__static_attributes__" U (.ref R)];let c:=R+2;let Z:=if Y then 0 else if W then 1 else 2;let T:=(if Z==2 then[v5 P "__dict__" (U+2) (.ref (c+1))]else[])++(if Y then[]else[v5 P "__weakref__" (U+2*Z) (.ref (c+Z))]);let O:=U+2*Z+1;let D:=match J with|some (.ref b)=>(match s.os.get b with|some o=>(match o.data with|.cls d=>d.mro|_=>[])|none=>[])|some _=>[.type "Exception",.type "BaseException",.type "object"]|none=>[.type "object"];let N:Value:=match J with|some _=> .builtin "Exception.__new__"|none=> .builtin "object.__new__";let H:=gO "code" (.fields #[.str n (t+2),.str n (t+3),.str gF (t+4),gi pos.line,gi 0,gi 0,gi 0,gi 0,.ref (a+3),.bool false,gi 181,.ref (a+4),.none,.none,.none,.none,gi (t+5),gi pos.line,.str gF (t+6)]);let V(x:Str)(k:Nat)(l:List Value):Obj:=gO "getset_descriptor" (.fields (.str x k:: .ref c::l).toArray);let l:=[gO "tuple" (.seq J.toList.toArray),gO "builtin_function_or_method" (.fields #[.builtin "type.__prepare__",.type "type"]),gO "dict" (.dict X.toArray X.length),gO "tuple" (.seq #[]),gN (.fields m.co.toArray),H,({cls:= .type "frame",slots:=#[some (.ref (a+5)),some (.ref 3),some (.ref (a+2)),none,some s.mn,none,some (.ref 0)]}:Obj)]++m.os++[gO "tuple" (.seq (v7 m.t K).toArray),gO "dict" (.dict ((X.filter λ e=>!(IL e.key "__qualname__"))++T++[v5 P "__doc__" O .none]).toArray (2+Z)),({cls:= .type "type",data:= .cls {name:=n,bases:=J.toList++(if J.isNone then[.type "object"]else[]),mro:= .ref c::D,ns:=R+1,qualname:=n},slots:=#[J.map (λ _=> .ref a),none,some (.str n t),some (.str n (t+8)),some N,some (.bool true)]}:Obj)]++(if Z==2 then[V "__dict__" (U+1) [.builtin "function.__dict__",.builtin "function.__dict__#set"]]else[])++(if Y then[]else[V "__weakref__" (U+2*Z-1) [.builtin "ExceptionGroup.__weakref__",.none]])++[gO "super" (.fields #[.ref c,.ref c,.ref c]),gO "builtin_function_or_method" (.fields #[.builtin "object.__init_subclass__",.ref c])];let Q:=y6 s.os a l;let Q:=match J with|some (.ref b)=>Q.set b (Obj.mapCls λ d=>{d with subclasses:=d.subclasses++[.ref c]})|some _=>Q.set 2 (λ _=>gN (.dict #[v5 P "type.__subclasses__.Exception.0" (O+1) (.int c 0),v5 P "type.__subclasses__.Exception.n" (O+2) (.int 1 0)] 2))|none=>Q;let I:=O+(if W then 3 else 1)+1;{s with os:=Q,a:=a+l.length,t:=I+1,es:=y7 P n I (.ref c) s.es,co:=s.co++[gi pos.line,gi 0,.ref (a+5)]}|_=>s
def gT(s:Gn):BT:=(s.os.set 3 (λ o=>{o with data:= .dict s.es.toArray s.es.length})).set 12 (λ o=>{o with data:= .fields s.co.toArray})
def g0(J:List Obj):Gn:=let l:=J++[gO "tuple" (.seq #[]),gN (.fields #[]),gO "code" (.fields #[.str "<module>" 182,.str "<module>" 183,.str gF 184,gi 1,gi 0,gi 0,gi 0,gi 0,.ref 11,.bool false,gi 181,.ref 12,.none,.none,.none,.none,gi 185,gi 1,.str gF 186]),({cls:= .type "frame",slots:=#[some (.ref 13),some (.ref 3),some (.ref 3),none,some (.str "__main__" 164),none,some (.ref 0)]}:Obj)];{os:=y6 .nil 0 l,a:=15,t:=187,mn:= .str "__main__" 164,co:=[],es:=match J[3]? with|some o=>(match o.data with|.dict Z _=>Z.toList|_=>[])|none=>[]}
def Kt(P:Params)(J:List Obj)(b:List Stmt):Gn:=b.foldl (Ks P) (g0 J)
def hp:Program:=PySem.Challenge.rw_xm0824_01.row.toRowW.prog
def hb:List Stmt:=behindTheImports hp
def hS(P:Params)(k:Nat):Gn:=Kt P [boot_o_0 P,boot_o_1 P,boot_o_2 P,boot_o_3 P,boot_o_4 P,boot_o_5 P,boot_o_6 P,boot_o_7 P,boot_o_8 P,boot_o_9 P,boot_o_10 P] (hb.take k)
def hE:Env:={scope:=hp.main.scope,locals:=mainNs,globals:=mainNs,cells:=[],code:= .ref 13,frame:=some 14}
def hC:Code:= .body hb hE
def hT(k a t:Nat)(w:World)(J:OsState):SharedT:=⟨gT (hS w.params k),a,{},#[],{},t,J⟩
def hB:List Frame:=[topFrame ⟨0,0,0,0⟩]
abbrev iW(f:type_of%@segRunT)(Y:type_of%treeTable)(k a t:Nat)(p:Pos)(n Z W Q:Nat)(U:Pos)(w:World):Prop:=(λ J=>f Y hp w 11 (some (.ref 6)) 1 n (hT k a t w J) (piecesOf ((hb.take Z).drop k) hE hC p hB))=λ J=>some (Flow.next,hT Z W Q w J,hC,U)
theorem cI{k a t:Nat}{p:Pos}{n J Y U:Nat}{Z:Pos}{w:World}(h:iW PySem.W.Fast.tw10110043849684766642 PySem.W.Fast.tw14364793385576792824 k a t p n J Y U Z w):iW @segRunT treeTable k a t p n J Y U Z w:=by rw[PySem.W.Fast.te10110043849684766642,PySem.W.Fast.te14364793385576792824];exact h
theorem IM(w):iW @segRunT treeTable 0 15 187 ⟨0,0,0,0⟩ 888 6 71 264 ⟨11,0,12,8⟩ w:=cI (by kernel_rfl)
theorem IP(w):iW @segRunT treeTable 6 71 264 ⟨11,0,12,8⟩ 682 9 107 312 ⟨17,0,18,8⟩ w:=cI (by kernel_rfl)
theorem IQ(w):iW @segRunT treeTable 9 107 312 ⟨17,0,18,8⟩ 682 12 143 360 ⟨23,0,24,8⟩ w:=cI (by kernel_rfl)
theorem IS(w):iW @segRunT treeTable 12 143 360 ⟨23,0,24,8⟩ 750 18 232 485 ⟨31,0,98,76⟩ w:=cI (by kernel_rfl)
theorem IT(w):iW @segRunT treeTable 18 232 485 ⟨31,0,98,76⟩ 627 26 330 623 ⟨186,0,191,14⟩ w:=cI (by kernel_rfl)
theorem IU(w):iW @segRunT treeTable 26 330 623 ⟨186,0,191,14⟩ 739 29 435 761 ⟨222,0,239,59⟩ w:=cI (by kernel_rfl)
theorem IV(w):iW @segRunT treeTable 29 435 761 ⟨222,0,239,59⟩ 623 32 512 870 ⟨270,0,270,8⟩ w:=cI (by kernel_rfl)
theorem IW(w):iW @segRunT treeTable 32 512 870 ⟨270,0,270,8⟩ 620 33 617 1008 ⟨271,0,371,95⟩ w:=cI (by kernel_rfl)
theorem IX(w):iW @segRunT treeTable 33 617 1008 ⟨271,0,371,95⟩ 517 34 701 1115 ⟨372,0,446,47⟩ w:=cI (by kernel_rfl)
theorem IY(w):iW @segRunT treeTable 34 701 1115 ⟨372,0,446,47⟩ 1106 35 911 1379 ⟨447,0,618,66⟩ w:=cI (by kernel_rfl)
theorem Gh(w):iW @segRunT treeTable 35 911 1379 ⟨447,0,618,66⟩ 566 55 1024 1539 ⟨921,0,932,60⟩ w:=cI (by kernel_rfl)
def JR(o:Obj):Bool:=match o.cls with|.none=>false|_=>match o.data with|.func _=>true|.cls _=>true|.dict _ _=>true|.fields _=>true|_=>false
def hH(P:Params):Heap:=absHeap (gT (hS P 55)) 1024 {}
theorem CY(w:World):(λ J=>topGo treeTable hp w 11 (some (.ref 6)) 12 ⟨boot_heap w.params,#[],boot_drawn,boot_toks,J⟩ (topStub hp))=λ J=>some (⟨absHeap (gT (hS w.params 0)) 15 {},#[],{},187,J⟩,⟨denote treeTable hC,hC,⟨0,0,0,0⟩,hB⟩):=by kernel_rfl
theorem v8(w:World):(λ J=>segRun treeTable hp w 11 (some (.ref 6)) 1 1 ⟨absHeap (gT (hS w.params 0)) 15 {},#[],{},187,J⟩ (blockOf hb hE hC ⟨0,0,0,0⟩ hB))=λ J=>some (Flow.next,(hT 0 15 187 w J).abs,hC,⟨0,0,0,0⟩):=by kernel_rfl
theorem CZ(w:World)(J:OsState):topRun treeTable hp w 11 (some (.ref 6)) 2 (hT 55 1024 1539 w J).abs ⟨doneF .next,hC,⟨921,0,932,60⟩,hB⟩=some ⟨hH w.params,#[],{},1539,J⟩:=by kernel_rfl
theorem cJ{k a t:Nat}{p:Pos}{n J U W:Nat}{Y:Pos}{N:Nat}{r:Shared}{w:World}{Z:OsState}(h:iW @segRunT treeTable k a t p n J U W Y w)(Q:topRun treeTable hp w 11 (some (.ref 6)) N (hT J U W w Z).abs (restOf (hb.drop J) hE hC Y hB)=some r)(e:hb.drop k=(hb.take J).drop k++hb.drop J:=by kernel_rfl):topRun treeTable hp w 11 (some (.ref 6)) (n+N) (hT k a t w Z).abs (restOf (hb.drop k) hE hC p hB)=some r:=by rw[e];exact piece_app (segRun_of (congrFun h Z)) Q
abbrev hR(N:Nat)(s:Shared)(t:Thread)(w:World)(J:OsState):Prop:=topRun treeTable hp w 11 (some (.ref 6)) N s t=some ⟨hH w.params,#[],{},1539,J⟩
theorem C3(w:World)(J:OsState):hR 2 (hT 55 1024 1539 w J).abs (restOf (hb.drop 55) hE hC ⟨921,0,932,60⟩ hB) w J:=by rw[show hb.drop 55=[]from by kernel_rfl];exact piece_nil (CZ w J)
theorem C4(w:World)(J:OsState):hR (888+(682+(682+(750+(627+(739+(623+(620+(517+(1106+(566+2))))))))))) (hT 0 15 187 w J).abs (restOf (hb.drop 0) hE hC ⟨0,0,0,0⟩ hB) w J:=(cJ (IM w) (cJ (IP w) (cJ (IQ w) (cJ (IS w) (cJ (IT w) (cJ (IU w) (cJ (IV w) (cJ (IW w) (cJ (IX w) (cJ (IY w) (cJ (Gh w) (C3 w J))))))))))))
theorem C5(w:World)(J:OsState):hR (12+(1+(888+(682+(682+(750+(627+(739+(623+(620+(517+(1106+(566+2))))))))))))) ⟨boot_heap w.params,#[],boot_drawn,boot_toks,J⟩ (topStub hp) w J:=go_top (congrFun (CY w) J) (piece_block (congrFun (v8 w) J) (by have h:=C4 w J;rw[List.drop_zero]at h;exact h))
def hr:RowW:=PySem.Challenge.rw_xm0824_01.row.toRowW
def hq:Program:=view hp [0,2,3,4,5,6,7,8,9,10,11,12,14,15,16,17,18,20,21,23,24,25,26,27,28,29,30,32,33,34,36,37,38,39,40,41,42,43,44,45,46,47,48,49,50,51,52,53,54]
def HU(s:Shared):Bool:=xlAt hq [] s&&recOk (RowW.records hr) s
theorem y8(w:World):(fencedOpening treeTable hp w 16000).map (λ s=>(s.heap,s.gens,s.drawn,s.toks))=some (boot_heap w.params,Array.mk [],boot_drawn,boot_toks):=boot_open (by kernel_rfl) (by kernel_rfl) (λ s=>by kernel_rfl) w
theorem y9(w:World):((boot_heap w.params).isNs mainGlobals&&(Array.mk []:Array GenState).size==0,(boot_heap w.params).objs.size,(boot_heap w.params).nsMap mainGlobals "__annotations__")=(true,11,some (.ref 6)):=by kernel_rfl
theorem y_(w:World):staticsOk (importedModules hp.main.body) (boot_heap w.params) (hH w.params)=true:=by kernel_rfl
theorem v9(w:World):namesBound hp (hH w.params)=true:=by kernel_rfl
theorem za(w:World):laidKept (boot_heap w.params) (hH w.params)=true:=by kernel_rfl
theorem zb(w:World)(J:OsState):openSeen hq [] (importedModules hp.main.body) HU true ⟨hH w.params,#[],{},1539,J⟩=openGood hq []:=by kernel_rfl
def Ef:List Nat:=(List.range 1024).filter λ a=>Nat.beq ((0xc63063060c18318318c18c6318301ec183060c183060c183060c183060c183060c183060c183060007b060c183060c183060007b060c183060c183060c1830003d83060c000f60c18001ec183060c00301ec183060c0030603d83060c183060c1830003d83060c183060c18001801801801801801801801801801801c030000c>>>a)%2) 1
def hK(P:Params):Frag:=Ef.map λ a=>(a,((gT (hS P 55)).get a).getD default)
theorem v_(P:Params):Ef=(hK P).map (·.1):=by unfold hK;rw[List.map_map];exact(List.map_id _).symm
theorem IZ:Ef.length=281:=by kernel_rfl
theorem I0(w:World)(J:OsState):(kHook hK Ef v_).obs ⟨hH w.params,#[],{},1539,J⟩=(kHook hK Ef v_).val w:=by kernel_rfl
abbrev zc:Hook:=kHook hK Ef v_
theorem wa(w:World):(λ J=>((staticsOk (importedModules hp.main.body) (boot_heap w.params) (hH w.params)&&namesBound hp (hH w.params)&&gensDone ⟨hH w.params,#[],{},1539,J⟩&&laidKept (boot_heap w.params) (hH w.params)),openSeen hq [] (importedModules hp.main.body) HU true ⟨hH w.params,#[],{},1539,J⟩,zc.obs ⟨hH w.params,#[],{},1539,J⟩))=λ _=>(true,openGood hq [],zc.val w):=by funext J;rw[zb,I0,y_,v9,za];rfl
theorem zd:LeftO hp hq [] HU zc.obs zc.val 16000:=LeftO.of_pieces (H₀:=boot_heap) (H₁:=hH) y8 y9 C5 (by kernel_rfl) wa
section
open Lean Meta PySem PySem.W
def wb:List Str:=ym.map Str.ofString
def Gi(K:Frag)(J:List Str)(T:aU):Bool:=T.fields.all λ p=>p.2.all λ f=>match J[f]? with|some x=>attrOk K p.1 x&&setOk K p.1 x|none=>false
def AQ(K:Frag)(J:List Str)(T:aU):Bool:=T.meths.all λ p=>p.2.all λ q=>match J[q.1]? with|some x=>jk K p.1 x q.2|none=>false
def Gj(K:Frag)(T:aU):Bool:=T.jH.all λ p=>r5 K p.1 p.2
theorem dz{J:Type}{k:Nat}{v:J}:∀{l:List (Nat×J)},bw k l=some v->(k,v)∈l
 |(a,b)::r,h=>by
  have h:(if a=k then some b else bw k r)=some v:=h;by_cases e:a=k;.rw[if_pos e]at h;cases h;subst e;exact List.mem_cons_self ..
  .rw[if_neg e]at h;exact List.mem_cons_of_mem _ (dz h)
theorem pX{k:Nat}:∀{l:List Nat},bW k l=true->k∈l
 |a::r,h=>by
  have h:(if a=k then true else bW k r)=true:=h;by_cases e:a=k;.subst e;exact List.mem_cons_self ..
  .rw[if_neg e]at h;exact List.mem_cons_of_mem _ (pX h)
theorem ze{K:Frag}{Y:List Str}{T:aU}(a:Gi K Y T=true)(b:AQ K Y T=true)(c:Gj K T=true):yP T K Y:=by
 have F:∀C f x,Y[f]?=some x->kU T C f=true->attrOk K C x=true/\setOk K C x=true:=λ C f x Z J=>by unfold kU at J;cases e:bw C T.fields with|none=>rw[e]at J;cases J|some l=>rw[e]at J;have h1:=List.all_eq_true.mp a _ (dz e);have h2:=List.all_eq_true.mp h1 _ (pX J);rw[Z]at h2;exact Bool.and_eq_true_iff.mp h2
 refine⟨λ C f x Z J=>(F C f x Z J).1,λ C f x Z J=>(F C f x Z J).2,λ C k x f Z J=>?_,λ C f h=>List.all_eq_true.mp c _ (dz h)⟩;unfold fg at J;cases e:bw C T.meths with|none=>rw[e]at J;cases J|some l=>rw[e]at J;have h1:=List.all_eq_true.mp b _ (dz e);have h2:=List.all_eq_true.mp h1 _ (dz J);have h2:(match Y[k]? with|some x=>jk K C x f|none=>false)=true:=h2;rw[Z]at h2;exact h2
def wd(K:Frag):Bool:=K.all λ p=>match p.2.cls with|.type "list"=>false|_=>true
theorem z1(P:Params):Gi (hK P) wb tabs=true:=by kernel_rfl
theorem z2(P:Params):AQ (hK P) wb tabs=true:=by kernel_rfl
theorem z3(P:Params):Gj (hK P) tabs=true:=by kernel_rfl
theorem z4(P:Params):wd (hK P)=true:=by kernel_rfl
theorem z5(P:Params):(fns.all λ p=>Gb (hK P) wb tabs p.1 p.2)=true:=by kernel_rfl
theorem z6:wb.Nodup:=by decide+kernel
end
/-! what is known of the abstract heap: slot, and what stands there (none: unknown) -/
abbrev MH:=List (Nat×Option (Nat×Cell))
def mg(s:Nat):MH->Option (Option (Nat×Cell))|[]=>none|p::r=>if p.1=s then some p.2 else mg s r
def mp(s:Nat)(c:Option (Nat×Cell)):MH->MH|[]=>[(s,c)]|p::r=>if p.1=s then(s,c)::r else p::mp s c r
theorem sy{s J:Nat}{c:Option (Nat×Cell)}:∀{M:MH},mg J (mp s c M)=if s=J then some c else mg J M
 |[]=>rfl
 |p::r=>by
  haveI Z:=sy (s:=s) (J:=J) (c:=c) (M:=r);show mg J (if p.1=s then(s,c)::r else p::mp s c r)=if s=J then some c else(if p.1=J then some p.2 else mg J r);by_cases h:p.1=s;.
   rw[if_pos h];show(if s=J then some c else mg J r)=_;by_cases q:s=J;.rw[if_pos q,if_pos q]
   .rw[if_neg q,if_neg q,if_neg (h▸q)]
  .
   rw[if_neg h];show(if p.1=J then some p.2 else mg J (mp s c r))=_;rw[Z];by_cases q:s=J;.rw[if_pos q,if_pos q,if_neg (q▸h)]
   .rw[if_neg q,if_neg q]
theorem jt{s J:Nat}{c:Cell}:∀{Z:List (Nat×Nat×Cell)},cu J (setC s c Z)=if s=J then(cu s Z).map (λ p=>(p.1,c))else cu J Z
 |[]=>by show none=if s=J then none else none;split<;>rfl
 |p::r=>by
  haveI Y:=jt (s:=s) (J:=J) (c:=c) (Z:=r);show cu J (if p.1=s then(p.1,p.2.1,c)::r else p::setC s c r)=if s=J then(if p.1=s then some (p.2.1,p.2.2)else cu s r).map (λ p=>(p.1,c))else(if p.1=J then some (p.2.1,p.2.2)else cu J r);by_cases h:p.1=s;.
   rw[if_pos h,if_pos h];show(if p.1=J then some (p.2.1,c)else cu J r)=_;by_cases q:s=J;.rw[if_pos q,if_pos (h.trans q)];rfl
   .rw[if_neg q,if_neg (h▸q),if_neg (h▸q)]
  .
   rw[if_neg h,if_neg h];show(if p.1=J then some (p.2.1,p.2.2)else cu J (setC s c r))=_;rw[Y];by_cases q:s=J;.rw[if_pos q,if_pos q,if_neg (q▸h)]
   .rw[if_neg q,if_neg q]
theorem ju{s J g:Nat}{c:Cell}:∀{Z:List (Nat×Nat×Cell)},cu J (oU s g c Z)=if s=J then some (g,c)else cu J Z
 |[]=>rfl
 |p::r=>by
  haveI Y:=ju (s:=s) (J:=J) (g:=g) (c:=c) (Z:=r);show cu J (if p.1=s then(p.1,g,c)::r else p::oU s g c r)=if s=J then some (g,c)else(if p.1=J then some (p.2.1,p.2.2)else cu J r);by_cases h:p.1=s;.
   rw[if_pos h];show(if p.1=J then some (g,c)else cu J r)=_;by_cases q:s=J;.rw[if_pos q,if_pos (h.trans q)]
   .rw[if_neg q,if_neg (h▸q),if_neg (h▸q)]
  .
   rw[if_neg h];show(if p.1=J then some (p.2.1,p.2.2)else cu J (oU s g c r))=_;rw[Y];by_cases q:s=J;.rw[if_pos q,if_pos q,if_neg (q▸h)]
   .rw[if_neg q,if_neg q]
theorem lG{s J:Nat}(q:s≠J):∀{Z:List (Nat×Nat×Cell)},cu J (kT s Z)=cu J Z
 |[]=>rfl
 |p::r=>by
  haveI Y:=lG (s:=s) (J:=J) q (Z:=r);show cu J (if p.1=s then r else p::kT s r)=(if p.1=J then some (p.2.1,p.2.2)else cu J r);by_cases h:p.1=s;.rw[if_pos h,if_neg (h▸q)]
  .rw[if_neg h];show(if p.1=J then some (p.2.1,p.2.2)else cu J (kT s r))=_;rw[Y]
def bE(J:Hp)(M:MH):Prop:=∀s g c,mg s M=some (some (g,c))->cu s J.cells=some (g,c)
def kG(M:MH)(Y:Hp)(Z:MH)(J:Hp):Prop:=bE J Z/\∀s,mg s Z=none->mg s M=none/\cu s J.cells=cu s Y.cells
theorem kG.refl{M:MH}{J:Hp}(h:bE J M):kG M J M J:=⟨h,λ _ e=>⟨e,rfl⟩⟩
theorem kG.trans{M U Y:MH}{W Z J:Hp}(a:kG M W U Z)(b:kG U Z Y J):kG M W Y J:=⟨b.1,λ s e=>have x:=b.2 s e;have y:=a.2 s x.1;⟨y.1,x.2.trans y.2⟩⟩
theorem oi{M:MH}{Y Z:Hp}{s:Nat}{o:Option (Nat×Cell)}(h:bE Y M)(a:∀J,s≠J->cu J Z.cells=cu J Y.cells)(b:∀g c,o=some (g,c)->cu s Z.cells=some (g,c)):kG M Y (mp s o M) Z:=by
 refine⟨λ J g c e=>?_,λ J e=>?_⟩;.
  rw[sy]at e;by_cases q:s=J;.rw[if_pos q]at e;subst q;exact b g c (Option.some.inj e)
  .rw[if_neg q]at e;rw[a J q];exact h J g c e
 .
  rw[sy]at e;by_cases q:s=J;.rw[if_pos q]at e;cases e
  .rw[if_neg q]at e;exact⟨e,a J q⟩
theorem gH{M:MH}{J:Hp}{s:Nat}{c:Cell}(h:bE J M):kG M J (mp s (some (J.nx,c)) M) (J.new s c):=oi h (λ Z q=>ju.trans (if_neg q)) λ g Y e=>by cases e;exact ju.trans (if_pos rfl)
theorem iX{M:MH}{Z:Hp}{s g:Nat}{c J:Cell}(h:bE Z M)(e:mg s M=some (some (g,J))):kG M Z (mp s (some (g,c)) M) (Z.set s c):=oi h (λ U q=>jt.trans (if_neg q)) λ Y W q=>by cases q;exact jt.trans ((if_pos rfl).trans (by rw[h s g J e];rfl))
theorem pY{M:MH}{J:Hp}{s:Nat}(h:bE J M):kG M J (mp s none M) (J.drop s):=oi h (λ Z q=>lG q) λ _ _ e=>by cases e
abbrev QV:=V->MH->Prop
abbrev QX:=Nat->MH->Prop
def bV{U:Type}(M:MH)(Y:Hp)(r:Res U)(Q:U->MH->Prop)(X:QX):Prop:=match r with|.ok v J=>∃Z,kG M Y Z J/\Q v Z|.exc C J=>∃Z,kG M Y Z J/\X C Z|.stuck=>False
inductive G where|no|p(P:Prop)|and(P:Prop)(k:G)|eq(a b:Nat)(k:G)|gj(b:Bool)(t f:G)|ov(o:Option V)(k:V->G)|ob(o:Option Bool)(k:Bool->G)|all(k:Nat->G)|fin(v N:V)(M W:MH)|call(n:Nat)(O:Bool)(f Y:Nat)(U:List V)(M:MH)(Q:V->MH->G)(X:Nat->MH->G)|comp(l:List V)(M:MH)(J:(Option V->MH->Prop)->V->MH->G)(Q:List V->MH->G)|loop(l:List V)(Z:Loc)(M:MH)(J:(Loc->MH->Prop)->V->Loc->MH->G)(Q:Loc->MH->G)|xW(Z:Loc)(M:MH)(J:(Loc->MH->Prop)->Loc->MH->G)
def G.Gk(g:G):Prop:=@G.rec (λ _=>Prop) False (λ P=>P) (λ P _ s=>P/\s) (λ a b _ s=>a=b/\s) (λ b _ _ t f=>(b=true->t)/\(b=false->f)) (λ o _ s=>∃v,o=some v/\s v) (λ o _ s=>∃v,o=some v/\s v) (λ _ s=>∀n,s n) (λ v R M O=>v=R/\M=O) (λ n N f Y W M _ _ Q X=>∀Z,bE Z M->bV M Z (bB tabs fns n N f Y W Z) Q X) (λ l M _ _ B Q=>∃I:List V->List V->MH->Prop,I l [] M/\(∀v r acc M,I (v::r) acc M->B (λ o M=>match o with|some x=>I r (acc++[x]) M|none=>I r acc M) v M)/\∀acc M,I [] acc M->acc.length<=lid/\Q acc M) (λ l J M _ _ B Q=>∃I:List V->Loc->MH->Prop,I l J M/\(∀v r J M,I (v::r) J M->B (I r) v J M)/\∀J M,I [] J M->Q J M) (λ J M _ B=>∃(I:Nat->Loc->MH->Prop)(n:Nat),n<64/\I n J M/\∀k J M,I k J M->B (λ J M=>∃U,U<k/\I U J M) J M) g
structure G.sat(g:G):Prop where
 h:g.Gk
namespace G.sat
theorem j'{P:Prop}{k:G}(h:(G.and P k).sat):P:=h.h.1
theorem iU{P:Prop}{k:G}(h:(G.and P k).sat):k.sat:=⟨h.h.2⟩
theorem we{t f:G}(h:(G.gj true t f).sat):t.sat:=⟨h.h.1 rfl⟩
theorem wg{t f:G}(h:(G.gj false t f).sat):f.sat:=⟨h.h.2 rfl⟩
theorem I3{o:Option V}{k:V->G}(h:(G.ov o k).sat):∃v,o=some v/\(k v).sat:=h.h.elim λ v q=>⟨v,q.1,⟨q.2⟩⟩
theorem I4{o:Option Bool}{k:Bool->G}(h:(G.ob o k).sat):∃v,o=some v/\(k v).sat:=h.h.elim λ v q=>⟨v,q.1,⟨q.2⟩⟩
theorem wh{k:Nat->G}(h:(G.all k).sat)(n:Nat):(k n).sat:=⟨h.h n⟩
theorem wj{n:Nat}{W:Bool}{f J:Nat}{Y:List V}{M:MH}{Q:V->MH->G}{X:Nat->MH->G}(h:(G.call n W f J Y M Q X).sat){Z:Hp}(S:bE Z M):bV M Z (bB tabs fns n W f J Y Z) (λ v M=>(Q v M).sat) λ C M=>(X C M).sat:=by have k:=h.h Z S;cases e:bB tabs fns n W f J Y Z with|ok v h2=>rw[e]at k;obtain⟨O,U,q⟩:=k;exact⟨O,U,⟨q⟩⟩|exc C h2=>rw[e]at k;obtain⟨O,U,q⟩:=k;exact⟨O,U,⟨q⟩⟩|stuck=>rw[e]at k;exact k
theorem Gl{l:List V}{M:MH}{B:(Option V->MH->Prop)->V->MH->G}{Q:List V->MH->G}(h:(G.comp l M B Q).sat):∃I:List V->List V->MH->Prop,I l [] M/\(∀v r acc M,I (v::r) acc M->(B (λ o M=>match o with|some x=>I r (acc++[x]) M|none=>I r acc M) v M).sat)/\∀acc M,I [] acc M->acc.length<=lid/\(Q acc M).sat:=h.h.elim λ I q=>⟨I,q.1,λ v r acc M i=>⟨q.2.1 v r acc M i⟩,λ acc M i=>⟨(q.2.2 acc M i).1,⟨(q.2.2 acc M i).2⟩⟩⟩
theorem Gm{l:List V}{J:Loc}{M:MH}{B:(Loc->MH->Prop)->V->Loc->MH->G}{Q:Loc->MH->G}(h:(G.loop l J M B Q).sat):∃I:List V->Loc->MH->Prop,I l J M/\(∀v r J M,I (v::r) J M->(B (I r) v J M).sat)/\∀J M,I [] J M->(Q J M).sat:=h.h.elim λ I q=>⟨I,q.1,λ v r J M i=>⟨q.2.1 v r J M i⟩,λ J M i=>⟨q.2.2 J M i⟩⟩
theorem I5{J:Loc}{M:MH}{B:(Loc->MH->Prop)->Loc->MH->G}(h:(G.xW J M B).sat):∃(I:Nat->Loc->MH->Prop)(n:Nat),n<64/\I n J M/\∀k J M,I k J M->(B (λ J M=>∃Z,Z<k/\I Z J M) J M).sat:=h.h.elim λ I q=>q.elim λ n q=>⟨I,n,q.1,q.2.1,λ k J M i=>⟨q.2.2 k J M i⟩⟩
end G.sat
def opt{J:Type}(o:Option J)(Q:J->G):G:=Option.rec .no (λ a=>Q a) o
def JS(b:Bool)(g:G):G:=Bool.rec .no g b
def lH(J:Bool)(g:G):G:=Bool.rec g .no J
theorem aW{J:Type}{o:Option J}{Q:J->G}(h:(opt o Q).sat):∃a,o=some a/\(Q a).sat:=by cases o with|none=>exact h.h.elim|some a=>exact⟨a,rfl,h⟩
theorem zf{b:Bool}{g:G}(h:(JS b g).sat):b=true/\g.sat:=by cases b with|false=>exact h.h.elim|true=>exact⟨rfl,h⟩
theorem b8{b:Bool}{g:G}(h:(lH b g).sat):b=false/\g.sat:=by cases b with|true=>exact h.h.elim|false=>exact⟨rfl,h⟩
def look(M:MH)(a g:Nat)(Q:Cell->G):G:=opt (mg a M) λ o=>opt o λ p=> .eq p.1 g (Q p.2)
theorem bE.get{J:Hp}{M:MH}{s g:Nat}{c:Cell}(h:bE J M)(e:mg s M=some (some (g,c))):J.get s g=some c:=by unfold Hp.get;rw[h s g c e];exact if_pos rfl
theorem iY{Y:Hp}{M:MH}{a g:Nat}{Q:Cell->G}(S:bE Y M)(h:(look M a g Q).sat):∃c,mg a M=some (some (g,c))/\Y.get a g=some c/\(Q c).sat:=by refine bf λ U J=>?_;obtain⟨o,e,h⟩:=aW h;obtain⟨⟨W,c⟩,rfl,h⟩:=aW h;have Z:W=g/\(Q c).Gk:=h.h;cases Z.1;refine J ?_;exact⟨c,e,S.get e,⟨Z.2⟩⟩
def zg(v:V)(Q:Nat->Nat->G):G:=match v with|.ref s g=>Q s g|_=> .no
theorem lJ{v:V}{Q:Nat->Nat->G}(h:(zg v Q).sat):∃s g,v= .ref s g/\(Q s g).sat:=by cases v with|ref s g=>exact⟨s,g,rfl,h⟩|_=>exact h.h.elim
def gk(v:V)(Q:Int->G):G:=match v with|.int i=>Q i|_=> .no
theorem a_{v:V}{Q:Int->G}(h:(gk v Q).sat):∃i,v= .int i/\(Q i).sat:=by cases v with|int i=>exact⟨i,rfl,h⟩|_=>exact h.h.elim
def ud(v:V)(Q:List V->G):G:=match v with|.lst l=>Q l|_=> .no
theorem gn{v:V}{Q:List V->G}(h:(ud v Q).sat):∃l,v= .lst l/\(Q l).sat:=by cases v with|lst l=>exact⟨l,rfl,h⟩|_=>exact h.h.elim
def wm(c:Cell)(Q:Nat->List (Nat×V)->G):G:=match c with|.inst C J=>Q C J|_=> .no
theorem ue{c:Cell}{Q:Nat->List (Nat×V)->G}(h:(wm c Q).sat):∃C J,c= .inst C J/\(Q C J).sat:=by cases c with|inst C J=>exact⟨C,J,rfl,h⟩|_=>exact h.h.elim
def wo(c:Cell)(Q:List V->G):G:=match c with|.list l=>Q l|_=> .no
theorem mW{c:Cell}{Q:List V->G}(h:(wo c Q).sat):∃l,c= .list l/\(Q l).sat:=by cases c with|list l=>exact⟨l,rfl,h⟩|_=>exact h.h.elim
section
variable{J:Hp}{M:MH}{v o:V}{T:aU}
def jP(M:MH)(v:V)(Q:List V->G):G:=zg v λ a g=>look M a g λ c=>wo c Q
theorem e6{Q:List V->G}(S:bE J M)(h:(jP M v Q).sat):∃a g l,v= .ref a g/\mg a M=some (some (g,.list l))/\J.get a g=some (.list l)/\(Q l).sat:=by refine bf λ Y Z=>?_;obtain⟨a,g,rfl,h1⟩:=lJ h;obtain⟨c,e,W,h2⟩:=iY S h1;obtain⟨l,rfl,U⟩:=mW h2;refine Z ?_;exact⟨a,g,l,rfl,e,W,U⟩
def zh(M:MH)(v:V)(c:Cell):MH:=match v with|.ref a g=>mp a (some (g,c)) M|_=>M
theorem jQ{Q:List V->G}(S:bE J M)(h:(jP M v Q).sat):∃l,a6 J v=some l/\(Q l).sat:=by refine bf λ Y Z=>?_;obtain⟨a,g,l,rfl,e,W,U⟩:=e6 S h;refine Z ?_;exact⟨l,by show(match J.get a g with|some (.list l)=>some l|_=>none)=some l;rw[W],U⟩
def rj{Z:Type}(vv:V->Option Z)(Y:Cell->Option Z)(M:MH)(v:V)(Q:Z->G):G:=match v with|.ref a g=>look M a g λ c=>opt (Y c) Q|v=>opt (vv v) Q
def rk{Z:Type}(vv:V->Option Z)(Y:Cell->Option Z)(J:Hp)(v:V):Option Z:=match v with|.ref a g=>(J.get a g).bind Y|v=>vv v
theorem bz{Y:Type}{vv:V->Option Y}{Z:Cell->Option Y}{Q:Y->G}(S:bE J M)(h:(rj vv Z M v Q).sat):∃x,rk vv Z J v=some x/\(Q x).sat:=by cases v with|ref a g=>haveI h:(look M a g λ c=>opt (Z c) Q).sat:=h;obtain@⟨@c,e,W,h2⟩:=iY S h;obtain@⟨@x,e3,U⟩:=aW h2;exact⟨x,by show(J.get a g).bind Z=_;rw[W];exact e3,U⟩|_=>exact aW h
def C6:Cell->Option (List V)|.list l=>some l|_=>none
def Gp:V->Option (List V)|.lst l=>some l|_=>none
def pZ(M:MH)(v:V)(Q:List V->G):G:=rj Gp C6 M v Q
theorem e8:a8 J v=rk Gp C6 J v:=by
 cases v with
  |ref a g=>show(match J.get a g with|some (.list l)=>some l|_=>none)=(J.get a g).bind C6;cases J.get a g with|none=>rfl|some c=>cases c<;>rfl
  |_=>rfl
def C7:Cell->Option Bool|.list l=>some (!l.isEmpty)|_=>none
def Gq:V->Option Bool|.bool b=>some b|.none=>some false|.lst l=>some (!l.isEmpty)|_=>none
def lL(M:MH)(v:V)(Q:Bool->G):G:=rj Gq C7 M v Q
theorem gq:truth J v=rk Gq C7 J v:=by
 cases v with
  |ref a g=>show(match(match J.get a g with|some (.list l)=>some l|_=>none)with|some l=>some (!l.isEmpty)|none=>none)=(J.get a g).bind C7;cases J.get a g with|none=>rfl|some c=>cases c<;>rfl
  |_=>rfl
def C8:Cell->Option Nat|.list l=>some l.length|_=>none
def Gr:V->Option Nat|.ig l=>some l.length|.tup l=>some l.length|.lst l=>some l.length|_=>none
def I6(M:MH)(v:V)(Q:Nat->G):G:=rj Gr C8 M v Q
theorem wq:lenOf J v=rk Gr C8 J v:=by
 cases v with
  |ref a g=>show(match J.get a g with|some (.list l)=>some l|_=>none).map List.length=(J.get a g).bind C8;cases J.get a g with|none=>rfl|some c=>cases c<;>rfl
  |_=>rfl
def Gs(T:aU)(f C:Nat)(Z:List (Nat×V)):Option V:=if kU T C f then aQ f Z else none
def C9(T:aU)(f:Nat):Cell->Option V|.inst C Z=>Gs T f C Z|_=>none
def Gu(T:aU)(f:Nat):V->Option V|.obj C Z=>Gs T f C Z|_=>none
def AS(T:aU)(M:MH)(f:Nat)(v:V)(Q:V->G):G:=rj (Gu T f) (C9 T f) M v Q
theorem mX{f:Nat}:iq T J f v=rk (Gu T f) (C9 T f) J v:=by
 cases v with
  |ref a g=>show(match(match J.get a g with|some (.inst C Z)=>some (C,Z)|_=>none)with|some (C,Z)=>if kU T C f then aQ f Z else none|none=>none)=(J.get a g).bind (C9 T f);cases J.get a g with|none=>rfl|some c=>cases c<;>rfl
  |_=>rfl
def Gv(T:aU)(m C:Nat)(Z:List (Nat×V)):Option Nat:=match aQ m Z with|some _=>none|none=>fg T C m
def C_(T:aU)(m:Nat):Cell->Option Nat|.inst C Z=>Gv T m C Z|_=>none
def Gw(T:aU)(m:Nat):V->Option Nat|.obj C Z=>Gv T m C Z|_=>none
def zi(T:aU)(M:MH)(m:Nat)(v:V)(Q:Nat->G):G:=rj (Gw T m) (C_ T m) M v Q
theorem rm{m:Nat}:iH T J m v=rk (Gw T m) (C_ T m) J v:=by
 cases v with
  |ref a g=>show(match(match J.get a g with|some (.inst C Z)=>some (C,Z)|_=>none)with|some (C,Z)=>(match aQ m Z with|some _=>none|none=>fg T C m)|none=>none)=(J.get a g).bind (C_ T m);cases J.get a g with|none=>rfl|some c=>cases c<;>rfl
  |_=>rfl
def Dc(k:Nat):Cell->Option V|.dict Z=>aQ k Z|_=>none
def Gx(M:MH)(k:Nat)(v:V)(Q:V->G):G:=rj (λ _=>none) (Dc k) M v Q
theorem p0{k:Nat}:keyOf J k v=rk (λ _=>none) (Dc k) J v:=by
 cases v with
  |ref a g=>show(match J.get a g with|some (.dict Z)=>aQ k Z|_=>none)=(J.get a g).bind (Dc k);cases J.get a g with|none=>rfl|some c=>cases c<;>rfl
  |_=>rfl
def wt(Z:Cell->Option Cell)(M:MH)(o:V)(Q:MH->G):G:=zg o λ a g=>look M a g λ c=>opt (Z c) λ Y=>Q (mp a (some (g,Y)) M)
def Dd(Z:Cell->Option Cell)(J:Hp)(o:V):Option Hp:=match o with|.ref a g=>(J.get a g).bind λ c=>(Z c).map λ Y=>J.set a Y|_=>none
theorem kH{U:Cell->Option Cell}{Q:MH->G}(S:bE J M)(h:(wt U M o Q).sat):∃Z W,Dd U J o=some Z/\kG M J W Z/\(Q W).sat:=by refine bf λ V Y=>?_;obtain⟨a,g,rfl,h1⟩:=lJ h;obtain⟨c,e,X,h2⟩:=iY S h1;obtain@⟨@N,e3,O⟩:=aW h2;refine Y ?_;exact⟨_,_,by show(J.get a g).bind _=_;rw[X];show(U c).map _=_;rw[e3];rfl,iX S e,O⟩
def zj(T:aU)(f:Nat)(v:V):Cell->Option Cell|.inst C Z=>(if kU T C f&&Nat.ble (bj f v Z).length 40 then some (.inst C (bj f v Z))else none)|_=>none
theorem lM{f:Nat}:setAttr T J f v o=Dd (zj T f v) J o:=by
 cases o with
  |ref a g=>
   show(match J.get a g with|some (.inst C Z)=>if kU T C f then(if(bj f v Z).length<=40 then some (J.set a (.inst C (bj f v Z)))else none)else none|_=>none)=(J.get a g).bind λ c=>(zj T f v c).map λ Y=>J.set a Y;cases J.get a g with
    |none=>rfl
    |some c=>
     cases c with
      |inst C Z=>
       show(if kU T C f then(if(bj f v Z).length<=40 then some (J.set a (.inst C (bj f v Z)))else none)else none)=(if kU T C f&&Nat.ble (bj f v Z).length 40 then some (Cell.inst C (bj f v Z))else none).map λ Y=>J.set a Y;cases kU T C f with
        |false=>rfl
        |true=>
         by_cases q:(bj f v Z).length<=40;.rw[if_pos rfl,if_pos q,Nat.ble_eq_true_of_le q];rfl
         .rw[if_pos rfl,if_neg q,Bool.true_and,if_neg (λ z=>q (Nat.le_of_ble_eq_true z))];rfl
      |list l=>rfl
      |dict l=>rfl
  |_=>rfl
def zk(k:Nat)(v:V):Cell->Option Cell|.dict Z=>(if Nat.ble (bj k v Z).length 40 then some (.dict (bj k v Z))else none)|_=>none
theorem mY{k:Nat}:ir J k v o=Dd (zk k v) J o:=by
 cases o with
  |ref a g=>
   show(match J.get a g with|some (.dict Z)=>if(bj k v Z).length<=40 then some (J.set a (.dict (bj k v Z)))else none|_=>none)=(J.get a g).bind λ c=>(zk k v c).map λ Y=>J.set a Y;cases J.get a g with
    |none=>rfl
    |some c=>
     cases c with
      |dict Z=>
       show(if(bj k v Z).length<=40 then some (J.set a (.dict (bj k v Z)))else none)=(if Nat.ble (bj k v Z).length 40 then some (Cell.dict (bj k v Z))else none).map λ Y=>J.set a Y;by_cases q:(bj k v Z).length<=40;.rw[if_pos q,Nat.ble_eq_true_of_le q];rfl
       .rw[if_neg q,if_neg (λ z=>q (Nat.le_of_ble_eq_true z))];rfl
      |list l=>rfl
      |inst C l=>rfl
  |_=>rfl
end
section
abbrev QG:=V->MH->G
abbrev XG:=Nat->MH->G
abbrev QS:=Out->Loc->MH->G
abbrev qs(Q:QG):QV:=λ v M=>(Q v M).sat
abbrev xs(X:XG):QX:=λ C M=>(X C M).sat
def fm(M:MH)(Y:Hp)(r:SR)(Q:QS):Prop:=match r with|.mk o V J=>∃Z,kG M Y Z J/\(Q o V Z).sat|.stuck=>False
section
variable{U N:Type}{M Z:MH}{Y J:Hp}{X:QX}
theorem bV.ext{r:Res U}{Q:U->MH->Prop}(e:kG M Y Z J)(h:bV Z J r Q X):bV M Y r Q X:=by cases r with|ok v h2=>obtain⟨R,V,q⟩:=h;exact⟨R,e.trans V,q⟩|exc C h2=>obtain⟨R,V,q⟩:=h;exact⟨R,e.trans V,q⟩|stuck=>exact h
theorem fm.ext{r:SR}{Q:QS}(e:kG M Y Z J)(h:fm Z J r Q):fm M Y r Q:=by cases r with|mk o l h2=>obtain⟨R,V,q⟩:=h;exact⟨R,e.trans V,q⟩|stuck=>exact h
theorem bV.ok{v:U}{Q:U->MH->Prop}(S:bE Y M)(q:Q v M):bV M Y (.ok v Y) Q X:=⟨M,.refl S,q⟩
theorem bV.to{v:U}{Q:U->MH->Prop}(e:kG M Y Z J)(q:Q v Z):bV M Y (.ok v J) Q X:=⟨Z,e,q⟩
theorem bV.bind{r:Res U}{f:U->Hp->Res N}{R:U->MH->Prop}{Q:N->MH->Prop}(h:bV M Y r R X)(k:∀v Z J,bE J Z->R v Z->bV Z J (f v J) Q X):bV M Y (r.bind f) Q X:=by cases r with|ok v h2=>obtain⟨D,V,q⟩:=h;exact(k v D h2 V.1 q).ext V|exc C h2=>exact h|stuck=>exact h
theorem bV.toS{r:Res U}{V:Loc}{f:U->Hp->SR}{D:U->MH->Prop}{Q:QS}(h:bV M Y r D λ C M=>(Q (.exc C false) V M).sat)(k:∀v Z J,bE J Z->D v Z->fm Z J (f v J) Q):fm M Y (r.toS V f) Q:=by cases r with|ok v h2=>obtain⟨G,R,q⟩:=h;exact(k v G h2 R.1 q).ext R|exc C h2=>exact h|stuck=>exact h
def hW(R:Loc->MH->G)(Q:QS):QS:=λ o V M=>match o with|.az=>R V M|o=>Q o V M
theorem fm.next{r:SR}{f:Loc->Hp->SR}{Q:QS}{R:Loc->MH->G}(h:fm M Y r (hW R Q))(k:∀V Z J,bE J Z->(R V Z).sat->fm Z J (f V J) Q):fm M Y (r.next f) Q:=by
 cases r with
  |mk o l h2=>obtain⟨I,D,q⟩:=h;cases o with|az=>exact(k l I h2 D.1 q).ext D|_=>exact⟨I,D,q⟩
  |stuck=>exact h
theorem bV.or{o R:Option U}{f:U->Res N}{Q:N->MH->Prop}{V:U->Prop}(z:o=R)(h:∃a,R=some a/\V a)(k:∀a,V a->bV M Y (f a) Q X):bV M Y (af o f) Q X:=by obtain⟨a,rfl,h⟩:=h;subst z;exact k a h
theorem fm.or{o R:Option U}{f:U->SR}{Q:QS}{V:U->Prop}(z:o=R)(h:∃a,R=some a/\V a)(k:∀a,V a->fm M Y (f a) Q):fm M Y (g9 o f) Q:=by obtain⟨a,rfl,h⟩:=h;subst z;exact k a h
end
def I7(T:aU)(a g C:Nat)(Q:QG):QG:=λ r M=>match r with|.none=>Bool.rec (Q (.ref a g) M) (look M a g λ c=>wm c λ V R=>Q (.obj V R) (mp a none M)) (bW C T.nM)|_=> .no
def Gy(n:Nat)(T:aU)(O:Bool)(W C:Nat)(D:List V)(M:MH)(Q:QG)(X:XG):G:=opt (nN T C W) λ a=>opt (bw C T.jH) λ R=> .all λ g=> .call n O R W (.ref a g::D) (mp a (some (g,.inst C [])) M) (I7 T a g C Q) X
def wu(v:V)(Q:V->G):G:=match v with|.lst [.int i]=> .and (0<=i/\i<256) (Q (.ig [i]))|_=> .no
def Gz(R:PySem.Operator)(x y:V)(Q:V->G):G:=match R with|.Mult=>gk x λ i=>gk y λ j=> .and ((small i&&small j)=true) (Q (.int (i*j)))|.FloorDiv=>gk x λ i=>gk y λ j=> .and (0<j/\small j) (Q (.int (i/j)))|.Mod=>gk x λ i=>gk y λ j=> .and (0<j/\small j) (Q (.int (i%j)))|.Add=>(match x with|.lst l=>ud y λ r=> .and ((l++r).length<=lid) (Q (.lst (l++r)))|x=>opt (oV .Add x y) Q)|R=>opt (oV R x y) Q
theorem wz{R:PySem.Operator}{x y:V}{Q:V->G}(h:(Gz R x y Q).sat):∃v,oV R x y=some v/\(Q v).sat:=by
 cases R with
  |Mult=>obtain⟨i,rfl,h1⟩:=a_ h;obtain⟨j,rfl,h2⟩:=a_ h1;exact⟨_,if_pos h2.j',h2.iU⟩
  |FloorDiv=>obtain⟨i,rfl,h1⟩:=a_ h;obtain⟨j,rfl,h2⟩:=a_ h1;exact⟨_,if_pos h2.j',h2.iU⟩
  |Mod=>obtain⟨i,rfl,h1⟩:=a_ h;obtain⟨j,rfl,h2⟩:=a_ h1;exact⟨_,if_pos h2.j',h2.iU⟩
  |Add=>cases x with|lst l=>obtain⟨j,rfl,D⟩:=gn h;exact⟨_,if_pos D.j',D.iU⟩|_=>exact aW h
  |_=>exact aW h
def GA(R:PySem.CmpOp)(x y:V)(Q:Bool->G):G:=match x,y with|.lst _,.lst _=> .ob (ew R x y) Q|.tup _,.tup _=> .ob (ew R x y) Q|_,_=>opt (ew R x y) Q
theorem wA{R:PySem.CmpOp}{x y:V}{Q:Bool->G}(h:(GA R x y Q).sat):∃v,ew R x y=some v/\(Q v).sat:=by
 cases x with
  |lst l=>cases y with|lst m=>exact h.I4|_=>exact aW h
  |tup l=>cases y with|tup m=>exact h.I4|_=>exact aW h
  |_=>exact aW h
variable(n:Nat)(T:aU)(O:Bool)(W:Nat)
mutual noncomputable def gE:PE->Loc->MH->QG->XG->G|.c v,_,s,Q,_=>Q v s|.loc x,D,s,Q,_=>opt (aQ x D) λ v=>Q v s|.attr e f,D,s,Q,X=>gE e D s (λ o s=>AS T s f o λ v=>Q v s) X|.bin E a b,D,s,Q,X=>gE a D s (λ x s=>gE b D s (λ y s=>Gz E x y λ v=>Q v s) X) X|.oR a x y,D,s,Q,X=>gE x D s (λ x s=>gE y D s (λ y s=>pZ s x λ l=>pZ s y λ r=> .and ((l++r).length<=lid) (.all λ g=>Q (.ref a g) (mp a (some (g,.list (l++r))) s))) X) X|.neg e,D,s,Q,X=>gE e D s (λ x s=>gk x λ i=>Q (.int (-i)) s) X|.not e,D,s,Q,X=>gE e D s (λ v s=>lL s v λ b=>Q (.bool (!b)) s) X|.and a b,D,s,Q,X=>gE a D s (λ x s=>lL s x λ t=> .gj t (gE b D s Q X) (Q x s)) X|.or a b,D,s,Q,X=>gE a D s (λ x s=>lL s x λ t=> .gj t (Q x s) (gE b D s Q X)) X|.cmp E a b,D,s,Q,X=>gE a D s (λ x s=>gE b D s (λ y s=>GA E x y λ v=>Q (.bool v) s) X) X|.idx a i,D,s,Q,X=>gE a D s (λ x s=>gE i D s (λ y s=>pZ s x λ l=>gk y λ k=> .ov (cY l k) λ v=>Q v s) X) X|.key a k,D,s,Q,X=>gE a D s (λ x s=>Gx s k x λ v=>Q v s) X|.slice a lo H,D,s,Q,X=>gE a D s (λ x s=>gE lo D s (λ l s=>gE H D s (λ h s=>pZ s x λ S=>opt (fV S l h) λ r=>Q (.lst r) s) X) X) X|.fU t a lo H,D,s,Q,X=>gE a D s (λ x s=>gE lo D s (λ l s=>gE H D s (λ h s=>pZ s x λ S=>opt (fV S l h) λ r=> .all λ g=>Q (.ref t g) (mp t (some (g,.list r)) s)) X) X) X|.tup l,D,s,Q,X=>xX l D s (λ K s=>Q (.tup K) s) X|.lst l,D,s,Q,X=>xX l D s (λ K s=>Q (.lst K) s) X|.eJ t l,D,s,Q,X=>xX l D s (λ K s=> .all λ g=>Q (.ref t g) (mp t (some (g,.list K)) s)) X|.dict t u l,D,s,Q,X=>xX l D s (λ K s=> .and (u.length=K.length) (.all λ g=>Q (.ref t g) (mp t (some (g,.dict (u.zip K))) s))) X|.call f o I,D,s,Q,X=>xX I D s (λ K s=> .call n O f (match o with|some d=>d|none=>W) K s Q X) X|.new C o I,D,s,Q,X=>xX I D s (λ K s=>Gy n T O (match o with|some d=>d|none=>W) C K s Q X) X|.aw e m I,D,s,Q,X=>gE e D s (λ o s=>zi T s m o λ f=>xX I D s (λ K s=> .call n O f W (o::K) s Q X) X) X|.append e x,D,s,Q,X=>gE e D s (λ o s=>jP s o λ _=>gE x D s (λ v s=>jP s o λ l=> .and (l.length<lid) (Q .none (zh s o (.list (l++[v]))))) X) X|.pop e k,D,s,Q,X=>gE e D s (λ o s=>jP s o λ _=>gE k D s (λ i s=>jP s o λ l=>gk i λ i=> .and (0<=i) (.ov l[i.toNat]? λ v=>Q v (zh s o (.list (l.eraseIdx i.toNat))))) X) X|.reverse e,D,s,Q,X=>gE e D s (λ o s=>jP s o λ l=>Q .none (zh s o (.list l.reverse))) X|.len e,D,s,Q,X=>gE e D s (λ o s=>I6 s o λ n=>Q (.int n) s) X|.min2 a b,D,s,Q,X=>lH O (gE a D s (λ x s=>gE b D s (λ y s=>gk x λ i=>gk y λ j=>Q (.int (min i j)) s) X) X)|.max2 a b,D,s,Q,X=>lH O (gE a D s (λ x s=>gE b D s (λ y s=>gk x λ i=>gk y λ j=>Q (.int (max i j)) s) X) X)|.nI e,D,s,Q,X=>lH O (gE e D s (λ o s=>ud o λ l=> .ov (((intsOf l).bind nK).map V.int) λ v=>Q v s) X)|.fb e,D,s,Q,X=>lH O (gE e D s (λ o s=>wu o λ v=>Q v s) X)|.all e,D,s,Q,X=>lH O (gE e D s (λ o s=>ud o λ l=> .ob ((boolsOf l).map λ w=>w.all id) λ b=>Q (.bool b) s) X)|.sorted e,D,s,Q,X=>gE e D s (λ o s=>opt (iI o) λ v=>Q v s) X|.comp z A F B P,D,s,Q,X=>lH O (gE B D s (λ o s=>ud o λ l=> .comp l s (λ R v s=>opt (gA A F v D) λ L=>gE P L s (λ b s=>lL s b λ b=> .gj b (gE z L s (λ x s=> .p (R (some x) s)) λ _ _=> .no) (.p (R none s))) λ _ _=> .no) λ acc s=>Q (.lst acc) s) X)|.mj lo H,D,s,Q,X=>gE lo D s (λ a s=>gE H D s (λ b s=>gk a λ i=>gk b λ j=> .and (j-i<=1000/\small i/\small j) (Q (.lst (ao i j)) s)) X) X noncomputable def xX:List PE->Loc->MH->(List V->MH->G)->XG->G|[],_,s,Q,_=>Q [] s|e::r,D,s,Q,X=>gE e D s (λ v s=>xX r D s (λ K s=>Q (v::K) s) X) X end
end
section
variable{n:Nat}{Z:Bool}{J:Nat}
abbrev CE(n:Nat)(Z:Bool)(J:Nat)(e:PE):Prop:=∀(Y:Loc)(U:Hp)(M:MH)(Q:QG)(X:XG),bE U M->(gE n tabs Z J e Y M Q X).sat->bV M U (a5 (bB tabs fns n) tabs Z J e Y U) (qs Q) (xs X)
abbrev JT(n:Nat)(Z:Bool)(J:Nat)(l:List PE):Prop:=∀(Y:Loc)(U:Hp)(M:MH)(Q:List V->MH->G)(X:XG),bE U M->(xX n tabs Z J l Y M Q X).sat->bV M U (bc (bB tabs fns n) tabs Z J l Y U) (λ v M=>(Q v M).sat) (xs X)
def rn:QX:=λ _ _=>False
theorem bV.Eg{V:Type}{M:MH}{W:Hp}{r:Res V}{Q:V->MH->Prop}(h:bV M W r Q rn):∃v Y U,r= .ok v Y/\kG M W U Y/\Q v U:=by cases r with|ok v h2=>obtain⟨X,O,q⟩:=h;exact⟨v,h2,X,rfl,O,q⟩|exc C h2=>obtain⟨_,_,k⟩:=h;exact k.elim|stuck=>exact h.elim
theorem bV.HV{U:Type}{M:MH}{Y:Hp}{r:Res U}{Q:U->MH->Prop}{X:QX}(h:bV M Y r Q (xs λ _ _=> .no)):bV M Y r Q X:=by cases r with|ok v h2=>exact h|exc C h2=>obtain⟨_,_,k⟩:=h;exact(k.h:False).elim|stuck=>exact h
theorem bV.I8{U:Type}{M:MH}{Y:Hp}{r:Res U}{Q:U->MH->Prop}{X:QX}(h:bV M Y r Q rn):bV M Y r Q X:=by obtain⟨v,W,V,rfl,e,q⟩:=h.Eg;exact⟨V,e,q⟩
theorem rp{f:V->Hp->Res (Option V)}{I:List V->List V->MH->Prop}(L:∀v r acc M Y,bE Y M->I (v::r) acc M->bV M Y (f v Y) (λ o M=>match o with|some x=>I r (acc++[x]) M|none=>I r acc M) rn)(l:List V):∀(acc:List V)(M:MH)(Y:Hp),bE Y M->I l acc M->bV M Y (bg f l Y) (λ r M=>I [] (acc++r) M) rn:=by
 induction l with
  |nil=>exact λ acc M Y S i=> .ok S (by rw[List.append_nil];exact i)
  |cons v r G=>
   intro acc M Y S i;refine bf λ K O=>?_;obtain⟨o,U,D,e,X,q⟩:=(L v r acc M Y S i).Eg;refine O ?_;show bV M Y (match f v Y with|.ok o Y=>(match bg f r Y with|.ok l Y=> .ok (match o with|some x=>x::l|none=>l) Y|_=> .stuck)|_=> .stuck) _ rn;rw[e];cases o with
    |some x=>haveI k:=G _ D U X.1 q;show bV M Y (match bg f r U with|.ok l Y=> .ok (x::l) Y|_=> .stuck) _ rn;cases W:bg f r U with|ok l Q=>rw[W]at k;obtain⟨R,N,k⟩:=k;exact⟨R,X.trans N,by rw[List.append_assoc]at k;exact k⟩|exc C Q=>rw[W]at k;obtain⟨_,_,k⟩:=k;exact k.elim|stuck=>rw[W]at k;exact k.elim
    |none=>have k:=G _ D U X.1 q;show bV M Y (match bg f r U with|.ok l Y=> .ok l Y|_=> .stuck) _ rn;cases W:bg f r U with|ok l Q=>rw[W]at k;obtain⟨R,N,k⟩:=k;exact⟨R,X.trans N,k⟩|exc C Q=>rw[W]at k;obtain⟨_,_,k⟩:=k;exact k.elim|stuck=>rw[W]at k;exact k.elim
theorem uf{C:Nat}{D:List V}{M:MH}{Y:Hp}{Q:QG}{X:XG}(S:bE Y M)(h:(Gy n tabs Z J C D M Q X).sat):bV M Y (newObj (bB tabs fns n) tabs Z J C D Y) (qs Q) (xs X):=by
 refine bf λ T U=>?_;obtain⟨a,H,h1⟩:=aW h;obtain@⟨@K,F,h2⟩:=aW h1;refine U ?_;unfold newObj;rw[H,F];refine bV.ext (gH (s:=a) (c:= .inst C []) S) (bV.bind ((h2.wh Y.nx).wj (gH S).1) λ v W O N q=>?_);cases v with
  |none=>haveI q:(Bool.rec (Q (.ref a Y.nx) W) (look W a Y.nx λ c=>wm c λ R I=>Q (.obj R I) (mp a none W)) (bW C tabs.nM):G).sat:=q;show bV W O (if bW C tabs.nM=true then _ else _) _ _;cases L:bW C tabs.nM with|true=>rw[L]at q;obtain⟨c,e,P,q⟩:=iY N q;obtain⟨R,I,rfl,q⟩:=ue q;rw[if_pos rfl,P];exact .to (pY N) q|false=>rw[L]at q;exact .ok N q
  |_=>exact(q.h:False).elim
set_option tactic.hygienic true in theorem aV(e:PE):CE n Z J e:=by
 refine@PE.rec (λ e=>CE n Z J e) (λ l=>JT n Z J l) ?c ?U ?bd ?ds ?F ?db ?ci ?cr ?or ?ge ?io ?lw ?T ?L ?bv ?ga ?P ?ad ?B ?bn ?A ?D ?be ?N ?ce ?u ?s ?E ?K ?dL ?G ?w ?bi ?ch ?p e;case c=>exact λ v U Y M Q X S h=> .ok S h
 case U=>exact λ x U Y M Q X S h=> .or rfl (aW h) λ v q=> .ok S q
 case bd=>exact λ e f W U Y M Q X S h=>(W _ _ _ _ _ S h).bind λ o M Y S q=> .or mX (bz S q) λ v h=> .ok S h
 case ds=>exact λ op a b O V U Y M Q X S h=>(O _ _ _ _ _ S h).bind λ x M Y S h=>(V _ _ _ _ _ S h).bind λ y M Y S h=> .or rfl (wz h) λ v q=> .ok S q
 case F=>refine λ t a b O V U Y M Q X S h=>(O _ _ _ _ _ S h).bind λ x M Y S h=>(V _ _ _ _ _ S h).bind λ y M Y S h=>?_;obtain⟨l,e1,h1⟩:=bz S h;obtain@⟨@r,e2,h2⟩:=bz S h1;rw[e8,e8,e1,e2];show bV M Y (if(l++r).length<=lid then _ else _) _ _;rw[if_pos h2.j'];exact .to (gH S) (h2.iU.wh _)
 case db=>refine λ e W U Y M Q X S h=>(W _ _ _ _ _ S h).bind λ o M Y S q=>?_;obtain⟨i,rfl,q⟩:=a_ q;exact .ok S q
 case ci=>exact λ e W U Y M Q X S h=>(W _ _ _ _ _ S h).bind λ o M Y S q=> .or gq (bz S q) λ v h=> .ok S h
 case cr=>refine λ a b O V U Y M Q X S h=>(O _ _ _ _ _ S h).bind λ x M Y S h=>?_;obtain⟨b,e,h⟩:=bz S h;rw[gq,e];cases b with|true=>exact V _ _ _ _ _ S h.we|false=>exact .ok S h.wg
 case or=>refine λ a b O V U Y M Q X S h=>(O _ _ _ _ _ S h).bind λ x M Y S h=>?_;obtain⟨b,e,h⟩:=bz S h;rw[gq,e];cases b with|true=>exact .ok S h.we|false=>exact V _ _ _ _ _ S h.wg
 case ge=>exact λ op a b O V U Y M Q X S h=>(O _ _ _ _ _ S h).bind λ x M Y S h=>(V _ _ _ _ _ S h).bind λ y M Y S h=> .or rfl (wA h) λ v q=> .ok S q
 case io=>refine λ a b O V U Y M Q X S h=>(O _ _ _ _ _ S h).bind λ x M Y S h=>(V _ _ _ _ _ S h).bind λ y M Y S h=>?_;obtain⟨l,e,h1⟩:=bz S h;obtain⟨k,rfl,h2⟩:=a_ h1;unfold nP;rw[e8,e];exact .or rfl h2.I3 λ v h=> .ok S h
 case lw=>exact λ e f W U Y M Q X S h=>(W _ _ _ _ _ S h).bind λ o M Y S q=> .or p0 (bz S q) λ v h=> .ok S h
 case T=>refine λ a b c O V ic U Y M Q X S h=>(O _ _ _ _ _ S h).bind λ x M Y S h=>(V _ _ _ _ _ S h).bind λ y M Y S h=>(ic _ _ _ _ _ S h).bind λ z M Y S h=>?_;obtain@⟨@l,e,h1⟩:=bz S h;rw[e8,e];exact .or rfl (aW h1) λ v q=> .ok S q
 case L=>refine λ t a b c O V ic U Y M Q X S h=>(O _ _ _ _ _ S h).bind λ x M Y S h=>(V _ _ _ _ _ S h).bind λ y M Y S h=>(ic _ _ _ _ _ S h).bind λ z M Y S h=>?_;obtain@⟨@l,e,h1⟩:=bz S h;rw[e8,e];exact .or rfl (aW h1) λ v h=> .to (gH S) (h.wh _)
 case bv=>exact λ l W U Y M Q X S h=>(W _ _ _ _ _ S h).bind λ H M Y S q=> .ok S q
 case ga=>exact λ l W U Y M Q X S h=>(W _ _ _ _ _ S h).bind λ H M Y S q=> .ok S q
 case P=>exact λ t l W U Y M Q X S h=>(W _ _ _ _ _ S h).bind λ H M Y S q=> .to (gH S) (q.wh _)
 case ad=>refine λ t ks l W U Y M Q X S h=>(W _ _ _ _ _ S h).bind λ H M Y S q=>?_;rw[if_pos q.j'];exact .to (gH S) (q.iU.wh _)
 case B=>exact λ f o l W U Y M Q X S h=>(W _ _ _ _ _ S h).bind λ H M Y S q=>q.wj S
 case bn=>exact λ C o l W U Y M Q X S h=>(W _ _ _ _ _ S h).bind λ H M Y S q=>uf S q
 case A=>exact λ e m l R W U Y M Q X S h=>(R _ _ _ _ _ S h).bind λ o M Y S q=> .or rm (bz S q) λ f h=>(W _ _ _ _ _ S h).bind λ H M Y S q=>q.wj S
 case D=>refine λ e x R ix U Y M Q X S h=>(R _ _ _ _ _ S h).bind λ o M Y S q=> .or rfl (jQ S q) λ _ h=>(ix _ _ _ _ _ S h).bind λ v M Y S q=>?_;obtain⟨a,g,l,rfl,e,e',q⟩:=e6 S q;show bV M Y (af (match Y.get a g with|some (.list l)=>some l|_=>none) _) _ _;rw[e'];show bV M Y (if l.length<lid then _ else _) _ _;rw[if_pos q.j'];exact .to (iX S e) q.iU
 case be=>refine λ e x R ix U Y M Q X S h=>(R _ _ _ _ _ S h).bind λ o M Y S q=> .or rfl (jQ S q) λ _ h=>(ix _ _ _ _ _ S h).bind λ v M Y S q=>?_;obtain⟨a,g,l,rfl,e,e',q⟩:=e6 S q;obtain⟨j,rfl,q⟩:=a_ q;show bV M Y (af (match Y.get a g with|some (.list l)=>some l|_=>none) _) _ _;rw[e'];show bV M Y (if 0<=j then _ else _) _ _;rw[if_pos q.j'];exact .or rfl q.iU.I3 λ v q=> .to (iX S e) q
 case N=>refine λ e R U Y M Q X S h=>(R _ _ _ _ _ S h).bind λ o M Y S q=>?_;obtain⟨a,g,l,rfl,e,e',q⟩:=e6 S q;show bV M Y (af (match Y.get a g with|some (.list l)=>some l|_=>none) _) _ _;rw[e'];exact .to (iX S e) q
 case ce=>exact λ e W U Y M Q X S h=>(W _ _ _ _ _ S h).bind λ o M Y S q=> .or wq (bz S q) λ v h=> .ok S h
 case u=>intro a b O V U Y M Q X S h;obtain⟨rfl,h⟩:=b8 h;refine(O _ _ _ _ _ S h).bind λ x M Y S h=>(V _ _ _ _ _ S h).bind λ y M Y S h=>?_;obtain⟨i,rfl,h1⟩:=a_ h;obtain⟨j,rfl,h2⟩:=a_ h1;exact .ok S h2
 case s=>intro a b O V U Y M Q X S h;obtain⟨rfl,h⟩:=b8 h;refine(O _ _ _ _ _ S h).bind λ x M Y S h=>(V _ _ _ _ _ S h).bind λ y M Y S h=>?_;obtain⟨i,rfl,h1⟩:=a_ h;obtain⟨j,rfl,h2⟩:=a_ h1;exact .ok S h2
 case E=>intro e W U Y M Q X S h;obtain⟨rfl,h⟩:=b8 h;refine(W _ _ _ _ _ S h).bind λ x M Y S h=>?_;obtain⟨l,rfl,h⟩:=gn h;obtain⟨v,e,q⟩:=h.I3;obtain⟨i,e3,rfl⟩:=Option.map_eq_some_iff.mp e;show bV M Y (af ((intsOf l).bind nK) _) _ _;rw[e3];exact .ok S q
 case K=>
  intro e W U Y M Q X S h;obtain⟨rfl,h⟩:=b8 h;refine(W _ _ _ _ _ S h).bind λ x M Y S h=>?_;haveI d:(wu x λ v=>Q v M).sat:=h;clear h;unfold wu at d;split at d;.rename_i j;show bV M Y (if 0<=j/\j<256 then _ else _) _ _;rw[if_pos d.j'];exact .ok S d.iU
  .exact(d.h:False).elim
 case dL=>intro e W U Y M Q X S h;obtain⟨rfl,h⟩:=b8 h;refine(W _ _ _ _ _ S h).bind λ x M Y S h=>?_;obtain⟨l,rfl,h⟩:=gn h;obtain⟨v,e,q⟩:=h.I4;obtain⟨i,e3,rfl⟩:=Option.map_eq_some_iff.mp e;show bV M Y (af (boolsOf l) _) _ _;rw[e3];exact .ok S q
 case G=>exact λ e W U Y M Q X S h=>(W _ _ _ _ _ S h).bind λ x M Y S h=> .or rfl (aW h) λ v q=> .ok S q
 case w=>
  intro sB sK na sw pp R is ii U Y M Q X S h;obtain@⟨(rfl),h⟩:=b8 h;refine(is _ _ _ _ _ S h).bind λ x M Y S h=>?_;obtain⟨l,rfl,h⟩:=gn h;obtain⟨I,i0,st,en⟩:=h.Gl;refine bV.bind (bV.I8 (rp (I:=I) (λ v r acc M Y S i=>?_) l [] M Y S i0)) λ r M Y S i=>?_;.obtain⟨pc,e,q⟩:=aW (st v r acc M i);rw[e];refine(bV.HV (ii _ _ _ _ _ S q)).bind λ b M Y S q=> .or gq (bz S q) λ b h=>?_;cases b with|true=>exact(bV.HV (R _ _ _ _ _ S h.we)).bind λ x M Y S q=> .ok S q.h|false=>exact .ok S h.wg.h
  .obtain@⟨a,b⟩:=en _ _ i;rw[List.nil_append]at a b;show bV M Y (if r.length<=lid then _ else _) _ _;rw[if_pos a];exact .ok S b
 case bi=>refine λ a b O V U Y M Q X S h=>(O _ _ _ _ _ S h).bind λ x M Y S h=>(V _ _ _ _ _ S h).bind λ y M Y S h=>?_;obtain⟨i,rfl,h1⟩:=a_ h;obtain⟨j,rfl,h2⟩:=a_ h1;show bV M Y (if j-i<=1000/\small i/\small j then _ else _) _ _;rw[if_pos h2.j'];exact .ok S h2.iU
 case ch=>exact λ U Y M Q X S h=> .ok S h
 case p=>exact λ e l R il U Y M Q X S h=>(R _ _ _ _ _ S h).bind λ v M Y S q=>(il _ _ _ _ _ S q).bind λ H M Y S q=> .ok S q
theorem mZ:∀l:List PE,JT n Z J l|[]=>λ Y U M Q X S h=> .ok S h|e::l=>λ Y U M Q X S h=>(aV e _ _ _ _ _ S h).bind λ v M U S q=>(mZ l _ _ _ _ _ S q).bind λ W M U S q=> .ok S q
end
section
def I9(W:List Nat)(v:V)(J:Loc)(Q:Loc->G):G:=opt (kW v) λ l=>opt (tC W l J) Q
def gC(n:Nat)(T:aU)(U:Bool)(Y:Nat)(e:PE)(J:Loc)(M:MH)(Q:Bool->MH->G)(X:XG):G:=gE n T U Y e J M (λ v M=>lL M v λ b=>Q b M) X
def lO(I:Loc->MH->Prop)(Q:QS):QS:=λ o J M=>match o with|.az=> .p (I J M)|.brk=>Q .az J M|.ret v=>Q (.ret v) J M|.exc _ _=> .no
def I_(Q:QS):QS:=λ o J M=>match o with|.exc _ _=> .no|o=>Q o J M
def I'(H:Loc->MH->QS->G)(U:Bool)(V:List Nat)(Q:QS):QS:=λ o J M=>match o with|.exc C W=>lH (U||W) (JS (bW C V) (H J M (I_ Q)))|o=>Q o J M
def gX(J:Loc)(Q:QS):QG:=λ v M=>zg v λ a g=>look M a g λ c=>wo c λ l=>Q (.ret (.lst l)) J (mp a none M)
abbrev e9(J:Loc)(Q:QS):XG:=λ C M=>Q (.exc C false) J M
abbrev JU:XG:=λ _ _=> .no
variable(n:Nat)(T:aU)
mutual noncomputable def gS(U:Bool)(Y:Nat):PS->Loc->MH->QS->G|.asg x e,J,s,Q=>gE n T U Y e J s (λ v s=>Q .az (dS x v J) s) (e9 J Q)|.ay o f e,J,s,Q=>gE n T U Y e J s (λ v s=>gE n T U Y o J s (λ ov s=>wt (zj T f v) s ov (Q .az J)) (e9 J Q)) (e9 J Q)|.dg o k e,J,s,Q=>gE n T U Y e J s (λ v s=>gE n T U Y o J s (λ ov s=>wt (zk k v) s ov (Q .az J)) (e9 J Q)) (e9 J Q)|.mq o i e,J,s,Q=>gE n T U Y e J s (λ v s=>gE n T U Y o J s (λ ov s=>gE n T U Y i J s (λ X s=>gk X λ i=>jP s ov λ l=> .and (0<=i/\i<l.length) (Q .az J (zh s ov (.list (l.set i.toNat v))))) (e9 J Q)) (e9 J Q)) (e9 J Q)|.tA xs e,J,s,Q=>lH U (gE n T U Y e J s (λ v s=>I9 xs v J λ J=>Q .az J s) (e9 J Q))|.aug x W e,J,s,Q=>opt (aQ x J) λ a=>gE n T U Y e J s (λ b s=>opt (jX W a b) λ v=>Q .az (dS x v J) s) (e9 J Q)|.ij o f W e,J,s,Q=>gE n T U Y o J s (λ ov s=>AS T s f ov λ a=>gE n T U Y e J s (λ b s=>opt (jX W a b) λ v=>wt (zj T f v) s ov (Q .az J)) (e9 J Q)) (e9 J Q)|.nJ o k W e,J,s,Q=>gE n T U Y o J s (λ ov s=>Gx s k ov λ a=>gE n T U Y e J s (λ b s=>opt (jX W a b) λ v=>wt (zk k v) s ov (Q .az J)) (e9 J Q)) (e9 J Q)|.ite c a b,J,s,Q=>gC n T U Y c J s (λ t s=> .gj t (gB U Y a J s Q) (gB U Y b J s Q)) (e9 J Q)|.iG c body,J,s,Q=> .xW J s λ R J s=>gC n T U Y c J s (λ t s=> .gj t (gB U Y body J s (lO R Q)) (Q .az J s)) JU|.oT x V body,J,s,Q=>lH U (gE n T U Y V J s (λ o s=>ud o λ l=> .loop l J s (λ R v J s=>gB U Y body (dS x v J) s (lO R Q)) λ J s=>Q .az J s) (e9 J Q))|.ret e,J,s,Q=>gE n T U Y e J s (λ v s=>Q (.ret v) J s) (e9 J Q)|.gX e,J,s,Q=>gE n T U Y e J s (gX J Q) (e9 J Q)|.ik,J,s,Q=>Q (.ret .none) J s|.expr e,J,s,Q=>gE n T U Y e J s (λ _ s=>Q .az J s) (e9 J Q)|.brk,J,s,Q=>Q .brk J s|.raise C l,J,s,Q=>lH U (xX n T U Y l J s (λ O s=> .and (bN O=true) (Q (.exc C true) J s)) JU)|.try body Cs h,J,s,Q=>gB U Y body J s (I' (λ J s Q=>gB true Y h J s Q) U Cs Q)noncomputable def gB(U:Bool)(Y:Nat):List PS->Loc->MH->QS->G|[],J,s,Q=>Q .az J s|a::r,J,s,Q=>gS U Y a J s (hW (λ J s=>gB U Y r J s Q) Q)end
variable{n}
abbrev CS(n:Nat)(a:PS):Prop:=∀(U:Bool)(Y:Nat)(J:Loc)(Z:Hp)(M:MH)(Q:QS),bE Z M->(gS n tabs U Y a J M Q).sat->fm M Z (xT (bB tabs fns n) tabs U Y a J Z) Q
abbrev CB(n:Nat)(l:List PS):Prop:=∀(U:Bool)(Y:Nat)(J:Loc)(Z:Hp)(M:MH)(Q:QS),bE Z M->(gB n tabs U Y l J M Q).sat->fm M Z (iE (bB tabs fns n) tabs U Y l J Z) Q
variable{U:Bool}{Y:Nat}{M:MH}{Z:Hp}{J:Loc}{Q:QS}
theorem fm.to{o:Out}{V:MH}{W:Hp}(e:kG M Z V W)(q:(Q o J V).sat):fm M Z (.mk o J W) Q:=⟨V,e,q⟩
theorem fm.ok{o:Out}(S:bE Z M)(q:(Q o J M).sat):fm M Z (.mk o J Z) Q:=⟨M,.refl S,q⟩
theorem fm.HX{o O:Option Hp}{P:MH->G}(z:o=O)(h:∃W V,O=some W/\kG M Z V W/\(P V).sat)(k:∀V,(P V).sat->(Q .az J V).sat):fm M Z (g9 o λ Z=> .mk .az J Z) Q:=by obtain⟨W,V,rfl,e,p⟩:=h;subst z;exact .to e (k _ p)
theorem fm.Eh{r:SR}(h:fm M Z r Q):∃o J W V,r= .mk o J W/\kG M Z V W/\(Q o J V).sat:=by cases r with|mk o l h2=>obtain⟨X,O,q⟩:=h;exact⟨o,l,h2,X,rfl,O,q⟩|stuck=>exact h.elim
theorem p5{V:Loc->Hp->Res Bool}{W:Loc->Hp->SR}{I:Nat->Loc->MH->Prop}(h:∀k J M Z,bE Z M->I k J M->bV M Z (V J Z) (λ t M=>cond t (∀Z,bE Z M->fm M Z (W J Z) (lO (λ J M=>∃R,R<k/\I R J M) Q)) (Q .az J M).sat) rn)(n:Nat):∀(k:Nat)(J:Loc)(M:MH)(Z:Hp),k<n->bE Z M->I k J M->fm M Z (dn V W n J Z) Q:=by induction n with|zero=>exact λ k J M Z l S i=>absurd l (Nat.not_lt_zero k)|succ n A=>intro k J M Z l S i;refine bf λ G O=>?_;obtain⟨b,X,F,e,D,q⟩:=(h k J M Z S i).Eg;refine O ?_;show fm M Z (match V J Z with|.ok b Z=>if b then(match W J Z with|.mk .az J Z=>dn V W n J Z|.mk .brk J Z=> .mk .az J Z|.mk (.ret v) J Z=> .mk (.ret v) J Z|_=> .stuck)else(SR.mk Out.az J Z)|_=> .stuck) Q;rw[e];refine bf λ G O=>?_;cases b with|false=>refine O ?_;exact .to D q|true=>obtain⟨o,N,L,H,P,K,b⟩:=(show fm F X (W J X) _ from q X D.1).Eh;refine O ?_;show fm M Z (match W J X with|.mk .az J Z=>dn V W n J Z|.mk .brk J Z=> .mk .az J Z|.mk (.ret v) J Z=> .mk (.ret v) J Z|_=> .stuck) Q;rw[P];cases o with|az=>obtain⟨R,B,j⟩:∃R,R<k/\I R N H:=b.h;exact(A R N H L (Nat.lt_of_lt_of_le B (Nat.le_of_lt_succ l)) K.1 j).ext (D.trans K)|brk=>exact .to (D.trans K) b|ret v=>exact .to (D.trans K) b|exc C m=>exact(b.h:False).elim
theorem ug{x:Nat}{W:Loc->Hp->SR}{I:List V->Loc->MH->Prop}(h:∀v r J M Z,bE Z M->I (v::r) J M->fm M Z (W (dS x v J) Z) (lO (I r) Q))(K:∀J M,I [] J M->(Q .az J M).sat)(l:List V):∀(J:Loc)(M:MH)(Z:Hp),bE Z M->I l J M->fm M Z (jI x W l J Z) Q:=by induction l with|nil=>exact λ J M Z S i=> .ok S (K _ _ i)|cons v r L=>intro J M Z S i;refine bf λ D X=>?_;obtain⟨o,O,R,H,G,N,b⟩:=(h v r J M Z S i).Eh;refine X ?_;show fm M Z (match W (dS x v J) Z with|.mk .az J Z=>jI x W r J Z|.mk .brk J Z=> .mk .az J Z|.mk (.ret v) J Z=> .mk (.ret v) J Z|_=> .stuck) Q;rw[G];cases o with|az=>exact(L O H R N.1 b.h).ext N|brk=>exact .to N b|ret v=>exact .to N b|exc C m=>exact(b.h:False).elim
theorem p6{e:PE}{R:Bool->MH->G}{X:XG}(S:bE Z M)(h:(gC n tabs U Y e J M R X).sat):bV M Z (Ij (bB tabs fns n) tabs U Y e J Z) (λ b M=>(R b M).sat) (xs X):=(aV e J Z M _ X S h).bind λ v M Z S q=> .or gq (bz S q) λ b h=> .ok S h
theorem iZ(l:List PS):CB n l:=by
 refine@PS.rec_1 (λ s=>CS n s) (λ l=>CB n l) ?bi ?i ?p ?y ?ch ?ce ?H ?A ?be ?whl ?P ?ad ?E ?B ?F ?bv ?K ?d ?bd ?u l;case bi=>exact λ x e U Y J Z M Q S h=>(aV e _ _ _ _ _ S h).toS λ v M Z S q=> .ok S q
 case i=>exact λ o f e U Y J Z M Q S h=>(aV e _ _ _ _ _ S h).toS λ v M Z S q=>(aV o _ _ _ _ _ S q).toS λ ov M Z S q=> .HX lM (kH S q) λ _ q=>q
 case p=>exact λ o f e U Y J Z M Q S h=>(aV e _ _ _ _ _ S h).toS λ v M Z S q=>(aV o _ _ _ _ _ S q).toS λ ov M Z S q=> .HX mY (kH S q) λ _ q=>q
 case y=>refine λ o j e U Y J Z M Q S h=>(aV e _ _ _ _ _ S h).toS λ v M Z S q=>(aV o _ _ _ _ _ S q).toS λ ov M Z S q=>(aV j _ _ _ _ _ S q).toS λ iv M Z S q=>?_;refine bf λ O W=>?_;obtain⟨k,rfl,q⟩:=a_ q;obtain⟨a,g,l,rfl,e,e',q⟩:=e6 S q;refine W ?_;show fm M Z (g9 (match Z.get a g with|some (.list l)=>if 0<=k/\k<l.length then some (Z.set a (.list (l.set k.toNat v)))else none|_=>none) _) Q;rw[e'];show fm M Z (g9 (if 0<=k/\k<l.length then some (Z.set a (.list (l.set k.toNat v)))else none) _) Q;rw[if_pos q.j'];exact .to (iX S e) q.iU
 case ch=>intro xs e U Y J Z M Q S h;obtain⟨rfl,h⟩:=b8 h;exact(aV e _ _ _ _ _ S h).toS λ v M Z S q=> .or rfl (aW q) λ l q=> .or rfl (aW q) λ l q=> .ok S q
 case ce=>intro x op e U Y J Z M Q S h;exact(bV.or (X:=λ C M=>(Q (.exc C false) J M).sat) (Q:=λ a M=>(gE n tabs U Y e J M (λ b s=>opt (jX op a b) λ v=>Q .az (dS x v J) s) (e9 J Q)).sat) rfl (aW h) λ v q=> .ok S q).toS λ a M Z S q=>(aV e _ _ _ _ _ S q).toS λ b M Z S q=> .or rfl (aW q) λ v q=> .ok S q
 case H=>exact λ o f op e U Y J Z M Q S h=>(aV o _ _ _ _ _ S h).toS λ ov M Z S q=> .or mX (bz S q) λ a h=>(aV e _ _ _ _ _ S h).toS λ b M Z S q=> .or rfl (aW q) λ v q=> .HX lM (kH S q) λ _ q=>q
 case A=>exact λ o f op e U Y J Z M Q S h=>(aV o _ _ _ _ _ S h).toS λ ov M Z S q=> .or p0 (bz S q) λ a h=>(aV e _ _ _ _ _ S h).toS λ b M Z S q=> .or rfl (aW q) λ v q=> .HX mY (kH S q) λ _ q=>q
 case be=>refine λ c a b ia L U Y J Z M Q S h=>(p6 S h).toS λ t M Z S q=>?_;cases t with|true=>exact ia _ _ _ _ _ _ S q.we|false=>exact L _ _ _ _ _ _ S q.wg
 case whl=>intro c N L U Y J Z M Q S h;refine bf λ O W=>?_;obtain⟨I,k,l,j,st⟩:=h.I5;refine W ?_;refine p5 (I:=I) (λ k J M Z S j=>?_) 64 k J M Z l S j;refine bf λ O W=>?_;obtain⟨b,D,T,e,R,q⟩:=(bV.HV (X:=rn) (p6 S (st k J M j))).Eg;refine W ?_;rw[e];refine .to R ?_;cases b with|false=>exact q.wg|true=>exact λ Z S=>L _ _ _ _ _ _ S q.we
 case P=>intro x bn N L U Y J Z M Q S h;obtain⟨rfl,h⟩:=b8 h;refine(aV bn _ _ _ _ _ S h).toS λ v M Z S q=>?_;obtain⟨l,rfl,q⟩:=gn q;obtain⟨I,j,st,en⟩:=q.Gm;exact ug (λ v r J M Z S j=>L _ _ _ _ _ _ S (st v r J M j)) en l J M Z S j
 case ad=>exact λ e U Y J Z M Q S h=>(aV e _ _ _ _ _ S h).toS λ v M Z S q=> .ok S q
 case E=>refine λ e U Y J Z M Q S h=>(aV e _ _ _ _ _ S h).toS λ v M Z S q=>?_;refine bf λ O W=>?_;obtain⟨a,g,rfl,q1⟩:=lJ q;obtain⟨c,e,e',q2⟩:=iY S q1;obtain⟨l,rfl,q3⟩:=mW q2;refine W ?_;show fm M Z (g9 (match Z.get a g with|some (.list l)=>some (V.lst l,Z.drop a)|_=>none) _) Q;rw[e'];exact .to (pY S) q3
 case B=>exact λ U Y J Z M Q S h=> .ok S h
 case F=>exact λ e U Y J Z M Q S h=>(aV e _ _ _ _ _ S h).toS λ v M Z S q=> .ok S q
 case bv=>exact λ U Y J Z M Q S h=> .ok S h
 case K=>intro C l U Y J Z M Q S h;obtain⟨rfl,h⟩:=b8 h;obtain@⟨@b,@D,@T,e,R,q⟩:=(bV.HV (X:=rn) (mZ l J Z M _ _ S h)).Eg;show fm M Z (match bc (bB tabs fns n) tabs false Y l J Z with|.ok vs Z=>if bN vs then .mk (.exc C true) J Z else .stuck|_=> .stuck) Q;rw[e];show fm M Z (if bN b=true then _ else _) Q;rw[if_pos q.j'];exact .to R q.iU
 case d=>intro N Cs h L ih U Y J Z M Q S w;refine bf λ O W=>?_;obtain⟨o,G,D,T,e,R,q⟩:=(L U Y J Z M _ S w).Eh;refine W ?_;show fm M Z (match iE (bB tabs fns n) tabs U Y N J Z with|.mk (.exc C X) J Z=>if U||X then .stuck else if bW C Cs then(match iE (bB tabs fns n) tabs true Y h J Z with|.mk (.exc _ _) _ _=> .stuck|r=>r)else .stuck|r=>r) Q;rw[e];cases o with|az=>exact .to R q|brk=>exact .to R q|ret v=>exact .to R q|exc C X=>refine bf λ O W=>?_;obtain@⟨z,q⟩:=b8 q;obtain@⟨m,q⟩:=zf q;obtain⟨o2,ci,cr,M2,e2,x2,q⟩:=(ih true Y G D T _ R.1 q).Eh;refine W ?_;show fm M Z (if(U||X)=true then _ else if bW C Cs=true then(match iE (bB tabs fns n) tabs true Y h G D with|.mk (.exc _ _) _ _=> .stuck|r=>r)else .stuck) Q;rw[z,if_neg Bool.false_ne_true,if_pos m,e2];cases o2 with|az=>exact .to (R.trans x2) q|brk=>exact .to (R.trans x2) q|ret v=>exact .to (R.trans x2) q|exc _ _=>exact(q.h:False).elim
 case bd=>exact λ U Y J Z M Q S h=> .ok S h
 case u=>exact λ a l ia il U Y J Z M Q S h=>(ia U Y J Z M _ S h).next λ J M Z S q=>il U Y J Z M Q S q
end
namespace G
def nx(g:G):G:=@G.rec (λ _=>G) no p (λ P k _=>and P k) (λ _ _ _ k=>k) (λ b t f _ _=>gj b t f) (λ o k _=>ov o k) (λ o k _=>ob o k) (λ k _=>all k) fin (λ n Y f Z U M Q X _ _=>call n Y f Z U M Q X) (λ l M B Q _ _=>comp l M B Q) (λ l J M B Q _ _=>loop l J M B Q) (λ J M B _=>xW J M B) g
def eqs{J:Type}(z:J)(c:Nat->Nat->J->J)(g:G):J:=@G.rec (λ _=>J) z (λ _=>z) (λ _ _ _=>z) (λ a b _ k=>c a b k) (λ _ _ _ _ _=>z) (λ _ _ _=>z) (λ _ _ _=>z) (λ _ _=>z) (λ _ _ _ _=>z) (λ _ _ _ _ _ _ _ _ _ _=>z) (λ _ _ _ _ _ _=>z) (λ _ _ _ _ _ _ _=>z) (λ _ _ _ _=>z) g
def ea(g:G):List Nat:=eqs [] (λ a _ l=>a::l) g
def eb(g:G):List Nat:=eqs [] (λ _ b l=>b::l) g
def sA(g k:G):G:=eqs k eq g
theorem d4(g:G)(e:ea g=eb g)(h:(nx g).sat):g.sat:=by induction g with|eq a b k J=>exact⟨(List.cons.inj e).1,(J (List.cons.inj e).2 h).h⟩|_=>exact h
theorem d6(g k:G)(h:(sA g k).sat):ea g=eb g/\k.sat:=by induction g with|eq a b g J=>have i:=J ⟨h.h.2⟩;exact⟨(congrArg (List.cons a) i.1).trans (congrArg (λ x=>x::eb g) h.h.1),i.2⟩|_=>exact⟨rfl,h⟩
/-! where a step leads -/
def cb(g:G):Bool:=match nx g with|gj b _ _=>b|_=>true
def T(g:G):G:=sA g (match nx g with|gj _ t _=>t|_=>no)
def F(g:G):G:=sA g (match nx g with|gj _ _ f=>f|_=>no)
def aP(g:G):Prop:=match nx g with|and P _=>P|_=>True
def aG(g:G):G:=sA g (match nx g with|and _ k=>k|_=>no)
def oO(g:G):Option V:=match nx g with|ov o _=>o|_=>none
def oK(g:G)(v:V):G:=sA g (match nx g with|ov _ k=>k v|_=>no)
def bO(g:G):Option Bool:=match nx g with|ob o _=>o|_=>none
def bK(g:G)(v:Bool):G:=sA g (match nx g with|ob _ k=>k v|_=>no)
def lK(g:G)(n:Nat):G:=sA g (match nx g with|all k=>k n|_=>no)
structure Fin where
 v:V
 v':V
 M:MH
 M':MH
def fn(g:G):Fin:=match nx g with|fin v Z M J=>⟨v,Z,M,J⟩|_=>⟨.none,.bool true,[],[]⟩
def pP(g:G):Prop:=match nx g with|p P=>P|_=>False
def cC(g:G)(k:Nat):Bool:=match nx g with|call n _ _ _ _ _ _ _=>Nat.ble k n|_=>false
def cS(g:G):Bool×Nat×Nat×List V:=match nx g with|call _ J f off Z _ _ _=>(J,f,off,Z)|_=>(true,0,0,[])
def cM(g:G):MH:=match nx g with|call _ _ _ _ _ M _ _=>M|_=>[]
def cQ(g:G)(v:V)(M:MH):G:=match nx g with|call _ _ _ _ _ _ Q _=>Q v M|_=>no
def cX(g:G)(C:Nat)(M:MH):G:=match nx g with|call _ _ _ _ _ _ _ X=>X C M|_=>no
theorem wB{P:Prop}(g:G)(h:(sA g no).sat):P:=((d6 g _ h).2.h:False).elim
end G
theorem gj(g:G)(t:g.cb=true->g.T.sat)(f:g.cb=false->g.F.sat):g.sat:=by
 unfold G.cb at t f;unfold G.T at t;unfold G.F at f;cases e:g.nx with
  |gj b x y=>rw[e]at t f;cases b with|true=>have h:=G.d6 g x (t rfl);exact G.d4 g h.1 (e▸⟨λ _=>h.2.h,λ z=>by cases z⟩)|false=>have h:=G.d6 g y (f rfl);exact G.d4 g h.1 (e▸⟨λ z=>(nomatch z),λ _=>h.2.h⟩)
  |_=>rw[e]at t;exact G.wB g (t rfl)
def G.sk(g:G)(l:List Bool):G:=@List.rec Bool (λ _=>G->G) (λ g=>g) (λ b _ k g=>k (@Bool.rec (λ _=>G) g.F g.T b)) l g
def G.Ku(g:G)(l:List Bool):List Bool:=@List.rec Bool (λ _=>G->List Bool) (λ _=>[]) (λ b _ k g=>g.cb::k (@Bool.rec (λ _=>G) g.F g.T b)) l g
theorem sk(g:G)(l:List Bool)(k:(g.sk l).sat)(h:autoParam (g.Ku l=l) krf):g.sat:=by induction l generalizing g with|nil=>exact k|cons b l J=>haveI h:=List.cons.inj h;cases b with|true=>exact gj g (λ _=>J g.T k h.2) λ z=>nomatch h.1.symm.trans z|false=>exact gj g (λ z=>nomatch h.1.symm.trans z) λ _=>J g.F k h.2
theorem Ja(g:G)(a:g.aP)(k:g.aG.sat):g.sat:=by unfold G.aP at a;unfold G.aG at k;cases e:g.nx with|and P x=>rw[e]at a k;have h:=G.d6 g x k;exact G.d4 g h.1 (e▸⟨a,h.2.h⟩)|_=>rw[e]at k;exact G.wB g k
theorem Kv(g:G){v:V}(e:g.oO=some v)(k:(g.oK v).sat):g.sat:=by unfold G.oO at e;unfold G.oK at k;cases z:g.nx with|ov o x=>rw[z]at e k;have h:=G.d6 g _ k;exact G.d4 g h.1 (z▸⟨v,e,h.2.h⟩)|_=>rw[z]at k;exact G.wB g k
theorem Kw(g:G){v:Bool}(e:g.bO=some v)(k:(g.bK v).sat):g.sat:=by unfold G.bO at e;unfold G.bK at k;cases z:g.nx with|ob o x=>rw[z]at e k;have h:=G.d6 g _ k;exact G.d4 g h.1 (z▸⟨v,e,h.2.h⟩)|_=>rw[z]at k;exact G.wB g k
theorem b_(g:G)(k:∀n,(g.lK n).sat):g.sat:=by unfold G.lK at k;cases z:g.nx with|all x=>rw[z]at k;exact G.d4 g (G.d6 g _ (k 0)).1 (z▸⟨λ n=>(G.d6 g _ (k n)).2.h⟩)|_=>rw[z]at k;exact G.wB g (k 0)
theorem p_(g:G)(e:g.ea=g.eb)(h:g.pP):g.sat:=by unfold G.pP at h;cases z:g.nx with|p P=>rw[z]at h;exact G.d4 g e (z▸⟨h⟩)|_=>rw[z]at h;exact h.elim
theorem sC(g:G)(e:g.ea=g.eb)(a:g.fn.v=g.fn.v')(b:g.fn.M=g.fn.M'):g.sat:=by unfold G.fn at a b;cases z:g.nx with|fin v Z M J=>rw[z]at a b;exact G.d4 g e (z▸⟨a,b⟩)|_=>rw[z]at a;cases a
def G.fL(g:G):List Nat×V×MH:=(g.ea,g.fn.v,g.fn.M)
def G.fR(g:G):List Nat×V×MH:=(g.eb,g.fn.v',g.fn.M')
theorem fin(g:G)(h:autoParam (g.fL=g.fR) krf):g.sat:=sC g (congrArg (·.1) h) (congrArg (·.2.1) h) (congrArg (·.2.2) h)
def G.gL(g:G)(v:V)(M:MH):List Nat×(V×V)×MH×MH:=(g.ea,(g.fn.v,v),g.fn.M,M)
def G.gR(g:G)(v:V)(M:MH):List Nat×(V×V)×MH×MH:=(g.eb,(v,g.fn.v'),M,g.fn.M')
def G.vL(g:G)(a b:V):List Nat×(V×V)×MH:=(g.ea,(g.fn.v,g.fn.v'),g.fn.M)
def G.vR(g:G)(a b:V):List Nat×(V×V)×MH:=(g.eb,(a,b),g.fn.M')
theorem bk(g:G){a b:V}(e:a=b)(h:autoParam (g.vL a b=g.vR a b) krf):g.sat:=sC g (congrArg (·.1) h) ((congrArg (·.2.1.1) h).trans (e.trans (congrArg (·.2.1.2) h).symm)) (congrArg (·.2.2) h)
def G.mL(g:G)(a b:MH):List Nat×V×MH×MH:=(g.ea,g.fn.v,g.fn.M,g.fn.M')
def G.mR(g:G)(a b:MH):List Nat×V×MH×MH:=(g.eb,g.fn.v',a,b)
theorem fJ(g:G){a b:MH}(e:a=b)(h:autoParam (g.mL a b=g.mR a b) krf):g.sat:=sC g (congrArg (·.1) h) (congrArg (·.2.1) h) ((congrArg (·.2.2.1) h).trans (e.trans (congrArg (·.2.2.2) h).symm))
def G.bL(g:G)(f:Bool->V×MH)(b c:Bool):List Nat×(V×MH)×V×MH:=(g.ea,(g.fn.v,g.fn.M),g.fn.v',g.fn.M')
def G.bR(g:G)(f:Bool->V×MH)(b c:Bool):List Nat×(V×MH)×V×MH:=(g.eb,f c,f b)
theorem JV(g:G)(f:Bool->V×MH){b c:Bool}(z:b=c)(h:autoParam (g.bL f b c=g.bR f b c) krf):g.sat:=by subst z;haveI k:=congrArg (·.2) h;haveI Z:(g.fn.v,g.fn.M)=f b:=congrArg (·.1) k;haveI Y:(g.fn.v',g.fn.M')=f b:=congrArg (·.2) k;haveI J:=Z.trans Y.symm;exact sC g (congrArg (·.1) h) (congrArg (·.1) J) (congrArg (·.2) J)
/-! what a branch tells -/
theorem yes{q:Prop} [Decidable q]{b:Bool}(z:b=true)(h:autoParam (b=decide q) krf):q:=of_decide_eq_true (h.symm.trans z)
theorem nay{q:Prop} [Decidable q]{b:Bool}(z:b=false)(h:autoParam (b=decide q) krf):¬q:=of_decide_eq_false (h.symm.trans z)
theorem Kx{q:Prop} [Decidable q]{b:Bool}(z:b=true)(h:autoParam (b=!decide q) krf):¬q:=of_decide_eq_false (by have y:=h.symm.trans z;rw[Bool.not_eq_true']at y;exact y)
theorem Ky{q:Prop} [Decidable q]{b:Bool}(z:b=false)(h:autoParam (b=!decide q) krf):q:=of_decide_eq_true (by have y:=h.symm.trans z;rw[Bool.not_eq_false']at y;exact y)
theorem kc{P Q:Prop}(a:P)(h:autoParam (Q=P) krf):Q:=h▸a
/-! contracts -/
def uh:MH->MH->MH|[],M=>M|p::r,M=>mp p.1 p.2 (uh r M)
def HY(k:Nat)(Y:Bool)(f Z:Nat)(U:List V)(M:MH)(Q:QV)(X:QX):Prop:=∀n,k<=n->∀J,bE J M->bV M J (bB tabs fns n Y f Z U J) Q X
structure Ct where
 k:Nat
 hd:Bool
 f:Nat
 off:Nat
 vs:List V
 M:MH
 v:V
 M':MH
structure Ct.ok(c:Ct):Prop where
 h:HY c.k c.hd c.f c.off c.vs c.M (λ v M=>v=c.v/\M=c.M') rn
def fnOf(f:Nat):bh:=(bw f fns).getD ⟨[],[]⟩
def GB(v:V)(M:MH)(c:Ct):G:= .fin v c.v M c.M'
def oj(c:Ct):QS:=λ o _ M=>match o with|.ret v=>GB v M c|.az=>GB .none M c|_=> .no
def Ct.body(c:Ct)(m:Nat):G:=gB (m+(c.k-1)) tabs c.hd c.off (fnOf c.f).body ((fnOf c.f).params.zip c.vs) c.M (oj c)
def Ct.good(c:Ct):Bool:=(bw c.f fns).isSome&&Nat.beq c.vs.length (fnOf c.f).params.length&&Nat.ble 1 c.k
theorem sD{n:Nat}{D:Bool}{U:Nat}{Y:bh}{W:List V}{M:MH}{Z:Hp}{Q:QV}{X:QX}{R:QS}(e:W.length=Y.params.length)(h:fm M Z (iE (bB tabs fns n) tabs D U Y.body (Y.params.zip W) Z) R)(a:∀v J M,(R (.ret v) J M).sat->Q v M)(b:∀J M,(R .az J M).sat->Q .none M)(x:∀C m J M,(R (.exc C m) J M).sat->X C M)(k:∀J M,(R .brk J M).sat->False):bV M Z (jJ (bB tabs fns n) tabs D Y U W Z) Q X:=by refine bf λ I O=>?_;obtain⟨o,J,L,N,K,G,q⟩:=h.Eh;refine O ?_;show bV M Z (if W.length=Y.params.length then(match iE (bB tabs fns n) tabs D U Y.body (Y.params.zip W) Z with|.mk (.ret v) _ Z=> .ok v Z|.mk .az _ Z=> .ok .none Z|.mk (.exc C _) _ Z=> .exc C Z|_=> .stuck)else .stuck) Q X;rw[if_pos e,K];cases o with|az=>exact⟨N,G,b _ _ q⟩|brk=>exact(k _ _ q).elim|ret v=>exact⟨N,G,a _ _ _ q⟩|exc C m=>exact⟨N,G,x _ _ _ _ q⟩
theorem om{n:Nat}{O:Bool}{Z:Nat}{Y:bh}{W:List V}{M:MH}{U:Hp}{Q:QV}{X:QX}{R:QS}(e:W.length=Y.params.length)(S:bE U M)(h:(gB n tabs O Z Y.body (Y.params.zip W) M R).sat)(a:∀v J M,(R (.ret v) J M).sat->Q v M)(b:∀J M,(R .az J M).sat->Q .none M)(x:∀C m J M,(R (.exc C m) J M).sat->X C M)(k:∀J M,(R .brk J M).sat->False):bV M U (jJ (bB tabs fns n) tabs O Y Z W U) Q X:=sD e (iZ Y.body O Z (Y.params.zip W) U M _ S h) a b x k
theorem lP{f:Nat}{Z:bh}(l:bw f fns=some Z)(n:Nat)(U:Bool)(J:Nat)(W:List V)(Y:Hp):bB tabs fns (n+1) U f J W Y=jJ (bB tabs fns n) tabs U Z J W Y:=by show(match bw f fns with|some Z=>jJ (bB tabs fns n) tabs U Z J W Y|none=> .stuck)=_;rw[l]
theorem oq{c:Ct}(h:c.good=true):bw c.f fns=some (fnOf c.f)/\c.vs.length=(fnOf c.f).params.length/\1<=c.k:=by haveI h:=Bool.and_eq_true_iff.mp h;haveI h2:=Bool.and_eq_true_iff.mp h.1;refine⟨?_,Nat.eq_of_beq_eq_true h2.2,Nat.le_of_ble_eq_true h.2⟩;unfold fnOf;obtain@⟨@x,e⟩:=Option.isSome_iff_exists.mp h2.1;rw[e];rfl
theorem Ct.of{c:Ct}(h:∀m,(c.body m).sat)(z:autoParam (c.good=true) krf):c.ok:=⟨λ n Z U S=>by obtain@⟨l,e,Y⟩:=oq z;obtain⟨m,rfl⟩:∃m,n=m+(c.k-1)+1:=⟨n-c.k,by exact"k<%']<,nV^'U`>>$?W{p~8okcCeUpV%" rfl rfl Z Y⟩;rw[lP l];exact om e S (h m) (λ v J M q=>q.h) (λ J M q=>q.h) (λ C m J M q=>(q.h:False).elim) (λ J M q=>(q.h:False))⟩
theorem p7{M:MH}:∀{J:MH},J.map (λ p=>mg p.1 M)=J.map (λ p=>some p.2)->∀{s c},mg s J=some c->mg s M=some c
 |[],_,s,c,e=>by cases e
 |p::r,h,s,c,e=>by
  haveI e:(if p.1=s then some p.2 else mg s r)=some c:=e;haveI h:=List.cons.inj h;by_cases q:p.1=s;.rw[if_pos q]at e;cases e;subst q;exact h.1
  .rw[if_neg q]at e;exact p7 h.2 e
theorem rq{M:MH}{s:Nat}:∀{J:MH},mg s (uh J M)=(match mg s J with|some c=>some c|none=>mg s M)
 |[]=>rfl
 |p::r=>by
  show mg s (mp p.1 p.2 (uh r M))=(match(if p.1=s then some p.2 else mg s r)with|some c=>some c|none=>mg s M);rw[sy,rq];by_cases q:p.1=s;.rw[if_pos q,if_pos q]
  .rw[if_neg q,if_neg q]
theorem kG.frame{U M Z:MH}{Y J:Hp}(S:bE Y M)(h:kG U Y Z J):kG M Y (uh Z M) J:=by
 refine⟨λ s g c e=>?_,λ s e=>?_⟩;.rw[rq]at e;cases q:mg s Z with|some o=>rw[q]at e;exact h.1 s g c (q.trans e)|none=>rw[q]at e;rw[(h.2 s q).2];exact S s g c e
 .rw[rq]at e;cases q:mg s Z with|some o=>rw[q]at e;cases e|none=>rw[q]at e;exact⟨e,(h.2 s q).2⟩
def G.JW(g:G)(c:Ct):G:=g.cQ c.v (uh c.M' g.cM)
def G.kL(g:G)(J:MH)(k:Nat):List Nat×(Bool×Nat×Nat×List V)×Bool×List (Option (Option (Nat×Cell))):=(g.ea,g.cS,g.cC k,J.map (λ p=>mg p.1 g.cM))
def G.kR(g:G)(Z:Bool)(f J:Nat)(Y:List V)(U:MH):List Nat×(Bool×Nat×Nat×List V)×Bool×List (Option (Option (Nat×Cell))):=(g.eb,(Z,f,J,Y),true,U.map (λ p=>some p.2))
theorem bV.mono{O:Type}{M:MH}{U:Hp}{r:Res O}{Q V:O->MH->Prop}{X W:QX}(h:bV M U r Q X)(q:∀v J,Q v J->V v J)(x:∀C J,X C J->W C J):bV M U r V W:=by cases r with|ok v h2=>obtain⟨Y,Z,k⟩:=h;exact⟨Y,Z,q _ _ k⟩|exc C h2=>obtain⟨Y,Z,k⟩:=h;exact⟨Y,Z,x _ _ k⟩|stuck=>exact h
theorem call_of{g:G}{k:Nat}(h:g.cC k=true):∃n Z f J Y M Q X,g.nx= .call n Z f J Y M Q X:=by unfold G.cC at h;generalize g.nx=y at h;cases y with|call n Z f J Y M Q X=>exact⟨n,Z,f,J,Y,M,Q,X,rfl⟩|_=>cases h
theorem lQ(g:G){k:Nat}{Q:Bool}{f Z:Nat}{W:List V}(N:g.ea=g.eb)(U:g.cS=(Q,f,Z,W))(Y:g.cC k=true)(r:∀n,k<=n->∀J,bE J g.cM->bV g.cM J (bB tabs fns n Q f Z W J) (λ v M=>(g.cQ v M).sat) λ C M=>(g.cX C M).sat):g.sat:=by refine G.d4 g N ?_;obtain⟨n,X,D,O,R,M,K,I,e⟩:=call_of Y;unfold G.cS at U;unfold G.cC at Y;unfold G.cM G.cQ G.cX at r;rw[e]at U Y r⊢;cases U;exact⟨λ J S=>(r n (Nat.le_of_ble_eq_true Y) J S).mono (λ _ _ k=>k.h) λ _ _ k=>k.h⟩
theorem bV.frame{U:Type}{M W:MH}{Z:Hp}{r:Res U}{Q:U->MH->Prop}{X:QX}(S:bE Z M)(h:bV W Z r Q X):bV M Z r (λ v m=>∃J,m=uh J M/\Q v J) (λ v m=>∃J,m=uh J M/\X v J):=by cases r with|ok v h2=>obtain⟨V,Y,k⟩:=h;exact⟨_,Y.frame S,_,rfl,k⟩|exc C h2=>obtain⟨V,Y,k⟩:=h;exact⟨_,Y.frame S,_,rfl,k⟩|stuck=>exact h
theorem lR(g:G){k:Nat}{U:Bool}{f J:Nat}{Y:List V}{Z:MH}{Q:QV}{X:QX}(t:HY k U f J Y Z Q X)(z:g.kL Z k=g.kR U f J Y Z)(q:∀v M,Q v M->(g.cQ v (uh M g.cM)).sat)(x:∀C M,X C M->(g.cX C (uh M g.cM)).sat):g.sat:=lQ g (congrArg (·.1) z) (congrArg (·.2.1) z) (congrArg (·.2.2.1) z) λ n N W S=>((t n N W λ a D c O=>S a D c (p7 (congrArg (·.2.2.2) z) O)).frame S).mono (λ v m h=>by obtain⟨R,rfl,k⟩:=h;exact q _ _ k) λ v m h=>by obtain⟨R,rfl,k⟩:=h;exact x _ _ k
theorem call(g:G){c:Ct}(t:c.ok)(q:(g.JW c).sat)(z:autoParam (g.kL c.M c.k=g.kR c.hd c.f c.off c.vs c.M) krf):g.sat:=lR g t.h z (λ v M h=>by obtain⟨rfl,rfl⟩:=h;exact q) λ _ _ h=>h.elim
def Kz(Q:V->MH->G)(X:Nat->MH->G):QS:=λ o _ M=>match o with|.ret v=>Q v M|.az=>Q .none M|.exc C _=>X C M|.brk=> .no
namespace G
def inl(g:G):G:=sA g (match nx g with|call n J f off Z M Q X=>gB (Nat.pred n) tabs J off (fnOf f).body ((fnOf f).params.zip Z) M (Kz Q X)|_=>no)
def aL(g:G):Bool:=match nx g with|call n Z f off J M Q X=>Nat.ble 1 n&&((bw f fns).isSome&&Nat.beq J.length (fnOf f).params.length)|_=>false
end G
theorem inl(g:G)(k:g.inl.sat)(h:g.aL=true):g.sat:=by
 unfold G.inl at k;unfold G.aL at h;cases e:g.nx with
  |call n W f Z U M Q X=>
   rw[e]at k h;have a:=G.d6 g _ k;refine G.d4 g a.1 (e▸⟨λ Y S=>?_⟩);have h:=Bool.and_eq_true_iff.mp h;have h2:=Bool.and_eq_true_iff.mp h.2;have l:bw f fns=some (fnOf f):=by unfold fnOf;obtain@⟨@x,e⟩:=Option.isSome_iff_exists.mp h2.1;rw[e];rfl
   obtain⟨m,rfl⟩:∃m,n=m+1:=⟨n-1,(Nat.sub_add_cancel (Nat.le_of_ble_eq_true h.1)).symm⟩;rw[lP l];exact om (Nat.eq_of_beq_eq_true h2.2) S a.2 (λ v J M q=>q.h) (λ J M q=>q.h) (λ C m J M q=>q.h) λ J M q=>(q.h:False)
  |_=>rw[e]at h;cases h
def G.st(g:G)(c:Nat):G:=@Nat.rec (λ _=>G) g.F (λ c _=>@Nat.rec (λ _=>G) g.T (λ _ _=>g.inl) c) c
def G.stC(g:G)(c:Nat):Nat:=@Nat.rec (λ _=>Nat) (cond g.cb 1 0) (λ c _=>@Nat.rec (λ _=>Nat) (cond g.cb 1 0) (λ _ _=>cond g.aL 2 0) c) c
def G.go(g:G)(l:List Nat):G:=@List.rec Nat (λ _=>G->G) (λ g=>g) (λ c _ k g=>k (g.st c)) l g
def G.KA(g:G)(l:List Nat):List Nat:=@List.rec Nat (λ _=>G->List Nat) (λ _=>[]) (λ c _ k g=>g.stC c::k (g.st c)) l g
theorem go(g:G)(l:List Nat)(k:(g.go l).sat)(h:autoParam (g.KA l=l) krf):g.sat:=by induction l generalizing g with|nil=>exact k|cons c l J=>haveI h:=List.cons.inj h;match c,k,h with|0,k,h=>exact gj g (λ z=>by have e:=h.1;unfold G.stC at e;simp only[z,cond_true]at e;exact nomatch e) λ _=>J g.F k h.2|1,k,h=>exact gj g (λ _=>J g.T k h.2) λ z=>by have e:=h.1;unfold G.stC at e;simp only[z,cond_false]at e;exact nomatch e|n+2,k,h=>refine inl g (J g.inl k h.2) ?_;have e:cond g.aL 2 0=n+2:=h.1;cases z:g.aL with|true=>rfl|false=>rw[z]at e;exact nomatch e
theorem yq(g:G){q:Prop} [i:Decidable q](z:q)(k:g.T.sat)(h:autoParam (g.cb=decide q) krf):g.sat:=gj g (λ _=>k) λ y=>by rw[h,decide_eq_true z]at y;exact nomatch y
theorem nq(g:G){q:Prop} [i:Decidable q](z:¬q)(k:g.F.sat)(h:autoParam (g.cb=decide q) krf):g.sat:=gj g (λ y=>by rw[h,decide_eq_false z]at y;cases y) λ _=>k
theorem yn(g:G){q:Prop} [i:Decidable q](z:¬q)(k:g.T.sat)(h:autoParam (g.cb=!decide q) krf):g.sat:=gj g (λ _=>k) λ y=>by rw[h,decide_eq_false z]at y;exact nomatch y
theorem nn(g:G){q:Prop} [i:Decidable q](z:q)(k:g.F.sat)(h:autoParam (g.cb=!decide q) krf):g.sat:=gj g (λ y=>by rw[h,decide_eq_true z]at y;exact nomatch y) λ _=>k
theorem cn(g:G){o:Option V}{v:V}(e:o=some v)(k:(g.oK v).sat)(h:autoParam (g.oO=o) krf):g.sat:=Kv g (h.trans e) k
theorem au(g:G){P:Prop}(a:P)(k:g.aG.sat)(h:autoParam (g.aP=P) krf):g.sat:=Ja g (h▸a) k
/-! contracts that tell the end by a property -/
structure Cq where
 k:Nat
 hd:Bool
 f:Nat
 off:Nat
 vs:List V
 M:MH
 Q:V->MH->Prop
structure Cq.ok(c:Cq):Prop where
 h:HY c.k c.hd c.f c.off c.vs c.M c.Q rn
def Cq.fin(c:Cq):QS:=λ o _ M=>match o with|.ret v=> .p (c.Q v M)|.az=> .p (c.Q .none M)|_=> .no
def Cq.body(c:Cq)(m:Nat):G:=gB (m+(c.k-1)) tabs c.hd c.off (fnOf c.f).body ((fnOf c.f).params.zip c.vs) c.M c.fin
def Cq.good(c:Cq):Bool:=(bw c.f fns).isSome&&Nat.beq c.vs.length (fnOf c.f).params.length&&Nat.ble 1 c.k
theorem Cq.of{c:Cq}(h:∀m,(c.body m).sat)(z:autoParam (c.good=true) krf):c.ok:=⟨λ n Z U S=>by obtain@⟨l,e,Y⟩:=oq (c:=⟨c.k,c.hd,c.f,c.off,c.vs,c.M,.none,[]⟩) z;obtain⟨m,rfl⟩:∃m,n=m+(c.k-1)+1:=⟨n-c.k,by have:1<=c.k:=Y;exact"k<%']<,nV^'U`>>$?W{p~8okcCeUpV%" rfl rfl Z this⟩;rw[lP l];exact om e S (h m) (λ v J M q=>q.h) (λ J M q=>q.h) (λ C m J M q=>(q.h:False).elim) (λ J M q=>(q.h:False))⟩
theorem e_(g:G){c:Cq}(t:c.ok)(q:∀v M,c.Q v M->(g.cQ v (uh M g.cM)).sat)(z:autoParam (g.kL c.M c.k=g.kR c.hd c.f c.off c.vs c.M) krf):g.sat:=lR g t.h z q λ _ _ h=>h.elim
theorem pk(g:G){P:Prop}(a:P)(h:autoParam ((g.ea,g.pP)=(g.eb,P)) krf):g.sat:=p_ g (congrArg (·.1) h) (by rw[show g.pP=P from congrArg (·.2) h];exact a)
/-! loops -/
namespace G
def Jb(g:G):List V×Loc×MH:=match nx g with|loop l J M B Q=>(l,J,M)|_=>([],[],[])
def JX(g:G)(R:Loc->MH->Prop)(v:V)(J:Loc)(M:MH):G:=match nx g with|loop _ _ _ B Q=>sA g (B R v J M)|_=>no
def JY(g:G)(J:Loc)(M:MH):G:=match nx g with|loop _ _ _ B Q=>sA g (Q J M)|_=>no
def Jc(g:G):Loc×MH:=match nx g with|xW J M B=>(J,M)|_=>([(0,.none)],[])
def JZ(g:G)(R:Loc->MH->Prop)(J:Loc)(M:MH):G:=match nx g with|xW _ _ B=>sA g (B R J M)|_=>no
def GC(g:G):List V×MH:=match nx g with|comp l M B Q=>(l,M)|_=>([],[])
def HZ(g:G)(R:Option V->MH->Prop)(v:V)(M:MH):G:=match nx g with|comp _ _ B Q=>sA g (B R v M)|_=>no
def H0(g:G)(l:List V)(M:MH):G:=match nx g with|comp _ _ B Q=>sA g (Q l M)|_=>no
end G
def G.Jd(g:G):Bool:=match nx g with|loop _ _ _ _ _=>true|_=>false
def G.Je(g:G):Bool:=match nx g with|xW _ _ _=>true|_=>false
def G.yN(g:G):Bool:=match nx g with|comp _ _ _ _=>true|_=>false
theorem zl{g:G}(h:g.Jd=true):∃l J M B Q,g.nx= .loop l J M B Q:=by unfold G.Jd at h;generalize g.nx=y at h;cases y with|loop l J M B Q=>exact⟨l,J,M,B,Q,rfl⟩|_=>exact nomatch h
theorem De{g:G}(h:g.Je=true):∃J M B,g.nx= .xW J M B:=by unfold G.Je at h;generalize g.nx=y at h;cases y with|xW J M B=>exact⟨J,M,B,rfl⟩|_=>cases h
theorem zm{g:G}(h:g.yN=true):∃l M B Q,g.nx= .comp l M B Q:=by unfold G.yN at h;generalize g.nx=y at h;cases y with|comp l M B Q=>exact⟨l,M,B,Q,rfl⟩|_=>cases h
theorem kg(g:G)(J:List V->Loc->MH->Prop){l:List V}{Z:Loc}{M:MH}(j:J l Z M)(U:∀v r Z M,J (v::r) Z M->(g.JX (J r) v Z M).sat)(Y:∀Z M,J [] Z M->(g.JY Z M).sat)(h:autoParam ((g.Jd,g.Jb,g.ea)=(true,(l,Z,M),g.eb)) krf):g.sat:=by have h1:g.Jb=(l,Z,M):=congrArg (·.2.1) h;refine G.d4 g (congrArg (·.2.2) h) ?_;obtain⟨O,W,X,B,Q,e⟩:=zl (congrArg (·.1) h);unfold G.JX at U;unfold G.JY at Y;unfold G.Jb at h1;rw[e]at U Y h1⊢;cases h1;exact⟨J,j,λ v r Z M i=>(G.d6 g _ (U v r Z M i)).2.h,λ Z M i=>(G.d6 g _ (Y Z M i)).2.h⟩
theorem zo(g:G)(J:Nat->Loc->MH->Prop)(n:Nat){Z:Loc}{M:MH}(Q:n<64)(j:J n Z M)(Y:∀k Z M,J k Z M->(g.JZ (λ Z M=>∃U,U<k/\J U Z M) Z M).sat)(h:autoParam ((g.Je,g.Jc,g.ea)=(true,(Z,M),g.eb)) krf):g.sat:=by have h1:g.Jc=(Z,M):=congrArg (·.2.1) h;refine G.d4 g (congrArg (·.2.2) h) ?_;obtain⟨W,V,B,e⟩:=De (congrArg (·.1) h);unfold G.JZ at Y;unfold G.Jc at h1;rw[e]at Y h1⊢;cases h1;exact⟨J,n,Q,j,λ k Z M i=>(G.d6 g _ (Y k Z M i)).2.h⟩
theorem wD(g:G)(J:List V->List V->MH->Prop){l:List V}{M:MH}(j:J l [] M)(Y:∀v r acc M,J (v::r) acc M->(g.HZ (λ o M=>match o with|some x=>J r (acc++[x]) M|none=>J r acc M) v M).sat)(Z:∀acc M,J [] acc M->acc.length<=lid/\(g.H0 acc M).sat)(h:autoParam ((g.yN,g.GC,g.ea)=(true,(l,M),g.eb)) krf):g.sat:=by have h1:g.GC=(l,M):=congrArg (·.2.1) h;refine G.d4 g (congrArg (·.2.2) h) ?_;obtain⟨U,W,B,Q,e⟩:=zm (congrArg (·.1) h);unfold G.HZ at Y;unfold G.H0 at Z;unfold G.GC at h1;rw[e]at Y Z h1⊢;cases h1;exact⟨J,j,λ v r acc M i=>(G.d6 g _ (Y v r acc M i)).2.h,λ acc M i=>⟨(Z acc M i).1,(G.d6 g _ (Z acc M i).2).2.h⟩⟩
theorem hY(g:G)(f:V->Option V){l:List V}{M:MH}(W:∀v,v∈l->∀R:Option V->MH->Prop,R (f v) M->(g.HZ R v M).sat)(U:(l.filterMap f).length<=lid)(k:(g.H0 (l.filterMap f) M).sat)(h:autoParam ((g.yN,g.GC,g.ea)=(true,(l,M),g.eb)) krf):g.sat:=by
 refine wD g (λ r acc m=>(m=M/\∃J,l=J++r)/\acc++r.filterMap f=l.filterMap f) (l:=l) (M:=M) ⟨⟨rfl,[],rfl⟩,rfl⟩ (λ v r acc m h=>?_) (λ acc m h=>?_) h;.obtain@⟨@⟨(rfl),@J,Y⟩,e⟩:=h;refine W v (Y▸List.mem_append_right _ (List.mem_cons_self ..)) _ ?_;have Z:∃J,l=J++r:=⟨J++[v],by rw[Y,List.append_assoc];rfl⟩;cases z:f v with|some x=>rw[List.filterMap_cons_some z]at e;exact⟨⟨rfl,Z⟩,by rw[List.append_assoc];exact e⟩|none=>rw[List.filterMap_cons_none z]at e;exact⟨⟨rfl,Z⟩,e⟩
 .obtain⟨⟨rfl,_⟩,e⟩:=h;rw[List.filterMap_nil,List.append_nil]at e;subst e;exact⟨U,k⟩
theorem G.sat.KC{g:G}(h:g.sat):g.nx.sat:=by induction g with|eq a b k J=>exact J ⟨h.h.2⟩|_=>exact h
theorem qz(g:G){J:G}(k:J.sat)(h:autoParam ((g.ea,g.nx)=(g.eb,J.nx)) krf):g.sat:=G.d4 g (congrArg (·.1) h) (by rw[show g.nx=J.nx from congrArg (·.2) h];exact k.KC)
theorem wk(g:G){J:Nat->Loc->MH->Prop}{k:Nat}(Z:Nat){Y:Loc}{M:MH}(U:Z<k)(j:J Z Y M)(h:autoParam ((g.ea,g.pP)=(g.eb,∃Z,Z<k/\J Z Y M)) krf):g.sat:=pk g ⟨Z,U,j⟩ h
structure Ce where
 k:Nat
 f:Nat
 off:Nat
 vs:List V
 M:MH
 C:Nat
structure Ce.ok(c:Ce):Prop where
 h:HY c.k false c.f c.off c.vs c.M (λ _ _=>False) λ C M=>C=c.C/\M=c.M
def Ce.fin(c:Ce):QS:=λ o _ M=>match o with|.exc C _=> .fin (.int C) (.int c.C) M c.M|_=> .no
def Ce.body(c:Ce)(m:Nat):G:=gB (m+(c.k-1)) tabs false c.off (fnOf c.f).body ((fnOf c.f).params.zip c.vs) c.M c.fin
set_option tactic.hygienic true in theorem Ce.of{c:Ce}(h:∀m,(c.body m).sat)(z:autoParam (Ct.good ⟨c.k,false,c.f,c.off,c.vs,c.M,.none,[]⟩=true) krf):c.ok:=⟨λ n Z U S=>by obtain@⟨l,e,Y⟩:=oq (c:=⟨c.k,false,c.f,c.off,c.vs,c.M,.none,[]⟩) z;obtain⟨m,rfl⟩:∃m,n=m+(c.k-1)+1:=⟨n-c.k,by have:1<=c.k:=Y;exact"k<%']<,nV^'U`>>$?W{p~8okcCeUpV%" rfl rfl Z this⟩;rw[lP l];exact om e S (h m) (λ v J M q=>(q.h:False)) (λ J M q=>(q.h:False)) (λ C m J M q=>⟨Int.ofNat.inj (V.Ii q.h.1),q.h.2⟩) (λ J M q=>(q.h:False))⟩
theorem sE(g:G){c:Ce}(t:c.ok)(q:(g.cX c.C (uh c.M g.cM)).sat)(z:autoParam (g.kL c.M c.k=g.kR false c.f c.off c.vs c.M) krf):g.sat:=lR g t.h z (λ _ _ h=>h.elim) λ C M h=>by obtain⟨rfl,rfl⟩:=h;exact q
theorem hZ(g:G){c:Ct}(t:c.ok)(J:List V)(e:J=c.vs)(q:(g.JW c).sat)(z:autoParam (g.kL c.M c.k=g.kR c.hd c.f c.off J c.M) krf):g.sat:=call g t q (e▸z)
theorem p8(g:G){o:Option Bool}{b:Bool}(e:o=some b)(k:(g.bK b).sat)(h:autoParam (g.bO=o) krf):g.sat:=Kw g (h.trans e) k
theorem Ct.ok.kill{k:Nat}{U:Bool}{f J:Nat}{Y:List V}{M Q:MH}{v:V}(t:Ct.ok ⟨k,U,f,J,Y,M,v,Q⟩)(a:Nat):Ct.ok ⟨k,U,f,J,Y,M,v,mp a none Q⟩:=⟨λ n O Z S=>by haveI h:=t.h n O Z S;show bV M Z (bB tabs fns n U f J Y Z) _ _;cases e:bB tabs fns n U f J Y Z with|stuck=>rw[e]at h;exact h|exc C h2=>rw[e]at h;obtain⟨_,_,k⟩:=h;exact k.elim|ok X h2=>rw[e]at h;obtain⟨m,W,e3,rfl⟩:=h;exact⟨mp a none m,W.trans (oi W.1 (λ _ _=>rfl) λ _ _ z=>by cases z),e3,rfl⟩⟩
theorem tq(g:G){b:Bool}(z:b=true)(k:g.T.sat)(h:autoParam (g.cb=b) krf):g.sat:=gj g (λ _=>k) λ y=>by rw[h,z]at y;exact nomatch y
theorem fq(g:G){b:Bool}(z:b=false)(k:g.F.sat)(h:autoParam (g.cb=b) krf):g.sat:=gj g (λ y=>by rw[h,z]at y;exact nomatch y) λ _=>k
theorem da(g:G){c:Cq}(t:c.ok)(q:∀v M,c.Q v M->(g.cQ v M).sat)(z:autoParam ((g.ea,g.cS,g.cC c.k,g.cM)=(g.eb,(c.hd,c.f,c.off,c.vs),true,c.M)) krf):g.sat:=lQ g (congrArg (·.1) z) (congrArg (·.2.1) z) (congrArg (·.2.2.1) z) λ n J Z S=>by haveI Y:g.cM=c.M:=congrArg (·.2.2.2) z;rw[Y]at S⊢;exact(t.h n J Z S).mono q λ _ _ h=>h.elim
theorem J3(g:G){a b:Prop} [Decidable a] [Decidable b](h:a\/b)(k:g.T.T.sat)(h1:autoParam ((g.cb,g.T.cb,g.F.cb)=(decide a,decide a,decide b)) krf)(h2:autoParam ((g.F.T.ea,g.F.T.nx)=(g.F.T.eb,g.T.T.nx)) krf):g.sat:=by
 haveI J:g.cb=decide a:=congrArg (·.1) h1;haveI Y:g.T.cb=decide a:=congrArg (·.2.1) h1;haveI Z:g.F.cb=decide b:=congrArg (·.2.2) h1;by_cases z:a;.exact yq g z (yq _ z k Y) J
 .exact nq g z (yq _ (h.resolve_left z) (qz _ k h2) Z) J
theorem ou(g:G){c:Cq}(t:c.ok)(J:List V)(e:J=c.vs)(q:∀v M,c.Q v M->(g.cQ v M).sat)(z:autoParam ((g.ea,g.cS,g.cC c.k,g.cM)=(g.eb,(c.hd,c.f,c.off,J),true,c.M)) krf):g.sat:=da g t q (e▸z)
/-! a call that is told all that is known, in another order -/
def lS(M:MH)(J:List Nat):Bool:=M.all λ p=>J.any λ k=>k==p.1
theorem sF{s:Nat}:∀{M:MH},mg s M=none->(M.map (·.1)).any (λ k=>k==s)=false
 |[],_=>rfl
 |p::r,h=>by
  haveI h:(if p.1=s then some p.2 else mg s r)=none:=h;by_cases e:p.1=s;.rw[if_pos e]at h;cases h
  .rw[if_neg e]at h;show(p.1==s||(r.map (·.1)).any (λ k=>k==s))=false;rw[sF h,Bool.or_false,beq_eq_false_iff_ne];exact e
theorem jR{J:List Nat}{s:Nat}(h:J.any (λ k=>k==s)=false):∀{M:MH},lS M J=true->mg s M=none
 |[],_=>rfl
 |p::r,k=>by
  haveI k:((J.any λ k=>k==p.1)&&lS r J)=true:=k;obtain⟨Z,Y⟩:=Bool.and_eq_true_iff.mp k;show(if p.1=s then some p.2 else mg s r)=none;by_cases e:p.1=s;.subst e;rw[h]at Z;cases Z
  .rw[if_neg e];exact jR h Y
def xY(M:MH):MH:=M.filter λ p=>p.2.isSome
theorem ow{M:MH}:∀{J:MH},(xY J).map (λ p=>mg p.1 M)=(xY J).map (λ p=>some p.2)->∀{s c},mg s J=some (some c)->mg s M=some (some c)
 |[],_,s,c,e=>nomatch e
 |(a,o)::r,h,s,c,e=>by
  haveI e:(if a=s then some o else mg s r)=some (some c):=e;cases o with
   |none=>
    by_cases q:a=s;.rw[if_pos q]at e;cases e
    .rw[if_neg q]at e;exact ow (J:=r) h e
   |some x=>
    haveI h:mg a M::(xY r).map (λ p=>mg p.1 M)=some (some x)::(xY r).map (λ p=>some p.2):=h;haveI h:=List.cons.inj h;by_cases q:a=s;.rw[if_pos q]at e;cases e;subst q;exact h.1
    .rw[if_neg q]at e;exact ow (J:=r) h.2 e
theorem bV.wide{Y:Type}{M N:MH}{J:Hp}{r:Res Y}{Q:Y->MH->Prop}(h:bV N J r Q rn)(U:List Nat)(X:∀v m,Q v m->m.map (·.1)=U)(O:lS M U=true):bV M J r Q rn:=by cases r with|ok v h2=>obtain⟨V,W,k⟩:=h;exact⟨V,⟨W.1,λ s Z=>⟨jR (by rw[<-X v V k];exact sF Z) O,(W.2 s Z).2⟩⟩,k⟩|exc C h2=>obtain⟨_,_,k⟩:=h;exact k.elim|stuck=>exact h
theorem GD(g:G){c:Cq}(t:c.ok)(J:List Nat)(Y:∀v M,c.Q v M->M.map (·.1)=J)(q:∀v M,c.Q v M->(g.cQ v M).sat)(z:autoParam ((g.kL (xY c.M) c.k,lS g.cM J)=(g.kR c.hd c.f c.off c.vs (xY c.M),true)) krf):g.sat:=by haveI y:g.kL (xY c.M) c.k=g.kR c.hd c.f c.off c.vs (xY c.M):=congrArg (·.1) z;exact lQ g (congrArg (·.1) y) (congrArg (·.2.1) y) (congrArg (·.2.2.1) y) λ n Z U S=>((t.h n Z U λ a W c Q=>S a W c (ow (congrArg (·.2.2.2) y) Q)).wide J Y (congrArg (·.2) z)).mono q λ _ _ h=>h.elim
def Jf(Y J Z U:Int)(g:Nat):Cell:= .inst 227 [(1,.int Y),(2,.int 0),(3,.int J),(4,.int Z),(5,.int U),(6,.ref 3 g)]
def Jg(m u U Z:Int)(J:Bool)(Y:Nat):Cell:= .inst 311 [(15,.int m),(16,.int u),(19,.int U),(20,.int Z),(21,.bool false),(22,.bool J),(17,.ref 2 Y),(18,.bool false)]
theorem dT{p:Prop} [Decidable p](h:decide p=true):p:=of_decide_eq_true h
theorem dF{p:Prop} [Decidable p](h:decide p=false):¬p:=of_decide_eq_false h
section
variable{V:Bool}{W g N Q:Nat}{m u R X:Int}{O:Bool}{Z J Y U:Int}
end
def item(p:Int×Int):V:= .tup [.int p.1,.int p.2]
def IB(Y J Z W:Int)(g Q:Nat)(U:List V):MH:=[(2,some (g,Jf Y J Z W Q)),(3,some (Q,.list U))]
def grown(Z J:Int):Int:=min Z (if J*2=0 then 1 else J*2)
theorem aB{i:Int}(a:0<=i)(b:i<1099511627776):small i=true:=decide_eq_true ⟨by exact"h&L`ocf>>)(%/ep>&" a,b⟩
theorem Ei{a b:Int}(h:0<=a)(k:a<1099511627776)(Z:0<=b)(J:b<1099511627776):oV .Mult (.int a) (.int b)=some (.int (a*b)):=if_pos (by rw[aB h k,aB Z J];rfl)
section
variable{X:Bool}{Q g D O:Nat}{m u G R:Int}{N:Bool}{Z J Y W:Int}{U:List V}
end
def pos(Z J k:Nat):Nat:=if J+k<Z then J+k else J+k-Z
structure RR(J Z:Nat)(U:List (Int×Int))(Y:List V):Prop where
 s0:Z<J
 s3:J<=3
 le:U.length<=J
 rs:Y.length<=J
 sp:Y.length=J\/Z+U.length<=Y.length
 at_:∀k p,U[k]?=some p->Y[pos J Z k]?=some (item p)
theorem Df{J Z k:Nat}(a:Z<J)(b:k<J):pos J Z k<J:=by unfold pos;exact"ZLDS=A&??l>u0r^4tU1k`b<vGw(HdtBKw%hh%SwKDWWn1" [_,_,_,Z+k-J,_] [] rfl dj a b
theorem Dg{Z J k j:Nat}(a:J<Z)(b:k<j)(c:j<Z):pos Z J j≠pos Z J k:=by unfold pos;exact"UICyPAr7]_/uRtwz{3X!kpVLzb)Kq{sW?LQLmLC{!Qep;ZUc2<`bdmh8;^wUK6yXG|Oo;O+ok[8q*o<2|BE3GN%^F#8(wlM09p:#|3}zEBn'" [_,_,_,J+j-Z,_,_,J+k-Z,_] [] rfl dj rfl dj b c
theorem RR.add{Y Z:Nat}{W:List (Int×Int)}{U J:List V}{p:Int×Int}(R:RR Y Z W U)(h:W.length<Y)(e:∀k,k<U.length->J[k]?=U[k]?)(l:U.length<=J.length)(Q:J.length<=Y)(X:pos Y Z W.length<J.length)(O:J.length=Y\/Z+W.length+1<=J.length):RR Y Z (W++[p]) (J.set (pos Y Z W.length) (item p)):=by
 refine⟨R.s0,R.s3,by rw[List.length_append];exact h,by rw[List.length_set];exact Q,by rw[List.length_set,List.length_append];exact O,λ k q z=>?_⟩;by_cases c:k<W.length;.rw[List.getElem?_append_left c]at z;haveI w:=R.at_ k q z;rw[List.getElem?_set_ne (Dg R.s0 c h),e _ (List.getElem?_eq_some_iff.mp w).1,w]
 .
  haveI:k=W.length:=by haveI:=(List.getElem?_eq_some_iff.mp z).1;rw[List.length_append]at this;simp only[List.length_cons,List.length_nil]at this;exact"giwn&KWF]2dGjWv2" c this
  subst this;rw[List.getElem?_append_right (Nat.le_refl _),Nat.sub_self]at z;cases z;rw[List.getElem?_set_self X]
theorem RR.nil{J:Nat}{Z:List V}(a:0<J)(b:J<=3)(c:Z.length<=J):RR J 0 [] Z:=⟨a,b,Nat.zero_le _,c,.inr (Nat.zero_le _),λ _ _ h=>by cases h⟩
def Ring(Z:Nat)(g Q:Nat)(W:List (Int×Int))(M:MH):Prop:=∃(J:Nat)(U:Int)(Y:List V),RR Z J W Y/\M=IB Z J W.length U g Q Y
section
variable{X:Bool}{Q g G O:Nat}{m u I D:Int}{N:Bool}{Z J:Nat}{W:Int}{Y:List V}{U:List (Int×Int)}
theorem RR.tail{p:Int×Int}{x:V}(R:RR Z J (p::U) Y):RR Z (if J+1<Z then J+1 else 0) U (Y.set J x):=by
 haveI F:=R.s0;haveI K:U.length+1<=Z:=R.le;refine⟨by exact"t*esqFH<aufeNLo$/WO_;#H7%^h)(,S7o^O{&" dj K,R.s3,by exact"<lZ[=>Nc" K,by rw[List.length_set];exact R.rs,?_,λ k q z=>?_⟩;.rw[List.length_set];haveI T:Y.length=Z\/J+(U.length+1)<=Y.length:=R.sp;haveI:=R.rs;exact"<za4j?Zz3{DF~DY5R?NC4ll`AwIS|%Kj%$<0fDLE^:BJ7u2;{dL)" dj T
 .
  have L:=(List.getElem?_eq_some_iff.mp z).1;haveI w:=R.at_ (k+1) q z;have e:pos Z (if J+1<Z then J+1 else 0) k=pos Z J (k+1):=Bo F (Nat.lt_of_lt_of_le (Nat.succ_lt_succ L) K);haveI H:J≠pos Z J (k+1):=by unfold pos;exact"/jR8BrlN]rc]i<C%l0:~Q3x*:c0CD`7OAYI}X<pVLm)~AKUx,tP<}^/vl=" [_,_,_,J+(k+1)-Z,_,_] [] rfl dj K L
  rw[e,List.getElem?_set_ne H,w]
def freed(i:Int)(U:List (Int×Int)):List (Int×Int):=U.dropWhile λ p=>decide (p.1<=i)
abbrev lF(g:Nat)(i:Int)(r:Loc):Loc:=(0,.ref 2 g)::(8,.int i)::r
end
theorem d7{a:Int}{k:Nat}:ao a (a+(k+1:Nat))= .int a::ao (a+1) (a+1+k):=by
 unfold ao;haveI Z:(a+(k+1:Nat)-a).toNat=k+1:=by exact"4f={V).NxA:ueK.$9Ur<I" rfl
 haveI J:(a+1+k-(a+1)).toNat=k:=by exact"cz2T,6:6Y,Edt?.$9Ur<I" rfl
 rw[Z,J,List.range_succ_eq_map,List.map_cons,List.map_map];refine congr (congrArg _ (congrArg V.int (Int.add_zero a))) (List.map_congr_left λ i _=>congrArg V.int ?_);show a+((i+1:Nat):Int)=a+1+i;exact"EM5x=Mm%o|;vF;+"
theorem fu{a b:Int}(h:b<=a):ao a b=[]:=by unfold ao;rw[show(b-a).toNat=0 by exact"c$>Oft8&ruBi'IUyHSb3SN<t)" rfl h];rfl
section
variable{X:Bool}{W g D Q:Nat}{m u G R:Int}{N:Bool}{Z J:Nat}{U:Int}{Y:List V}{O:List (Int×Int)}
end
section
variable{X:Bool}{W g D Q:Nat}{m u G R:Int}{N:Bool}{Z J:Nat}{U:Int}{Y:List V}{O:List (Int×Int)}
end
def ent(d t:Int)(p:Nat)(x:Int):V:= .obj 374 [(33,.int (x+t)),(8,.int (d+p)),(34,.int 0),(35,.ig [x])]
def ents(d t:Int):Nat->List Int->List V|_,[]=>[]|p,x::r=>ent d t p x::ents d t (p+1) r
theorem aD{d t:Int}:∀{p:Nat}{l:List Int},(ents d t p l).length=l.length|_,[]=>rfl|p,x::r=>congrArg (·+1) aD
theorem dQ{d t:Int}:∀{p:Nat}{l r:List Int},ents d t p (l++r)=ents d t p l++ents d t (p+l.length) r|p,[],r=>rfl|p,x::l,r=>by show ent d t p x::ents d t (p+1) (l++r)=ent d t p x::(ents d t (p+1) l++ents d t (p+(l.length+1)) r);rw[dQ,Nat.add_right_comm p 1,Nat.add_assoc]
theorem dA{d t:Int}:∀{k p:Nat}{l:List Int},(ents d t p l).drop k=ents d t (p+k) (l.drop k)|0,p,l=>rfl|k+1,p,[]=>rfl|k+1,p,x::l=>by show(ents d t (p+1) l).drop k=ents d t (p+(k+1)) (l.drop k);rw[dA,Nat.add_right_comm p 1,Nat.add_assoc]
theorem dD{d t:Int}:∀{k p:Nat}{l:List Int},(ents d t p l).take k=ents d t p (l.take k)|0,p,l=>rfl|k+1,p,[]=>rfl|k+1,p,x::l=>congrArg (ent d t p x::·) dD
theorem bH{d t:Int}:∀{k p:Nat}{l:List Int}{x:Int},l[k]?=some x->(ents d t p l)[k]?=some (ent d t (p+k) x)|0,p,y::l,x,h=>by cases h;rfl|k+1,p,y::l,x,h=>by show(ents d t (p+1) l)[k]?=_;rw[bH (l:=l) (x:=x) h,Nat.add_right_comm p 1,Nat.add_assoc]
structure Bd(d t:Int):Prop where
 d1:1<=d
 d2:d<2199023255552
 t1:0<=t
 t2:t<2199023255552
def Tm(l:List Int):Prop:=l.length<=20/\∀x,x∈l->1<=x/\x<256
section
variable{Z:Bool}{J g:Nat}{d t:Int}
end
abbrev i3:Int:=18446744073709551615
section
variable{Z:Bool}{J g:Nat}{d t:Int}
end
def ui(W Z Y:V)(b J:Int)(U:List V):Cell:= .inst 612 [(51,W),(49,Z),(52,Y),(53,.int b),(54,.int J),(38,.lst U)]
def snap(J:V)(i x:Int):V:= .obj 507 [(8,.int i),(33,.int x),(49,J),(35,.ig [])]
theorem bb{l:List V}{k:Nat}{v:V}{i:Int}(e:i=k)(h:l[k]?=some v):cY l i=some v:=by subst e;unfold cY;rw[if_pos (by exact"7A,x&aJ")];exact h
theorem jv{l:List V}{i j:Int}{a b:Nat}(Z:i=a)(Y:j=b)(U:a<=l.length)(W:b<=l.length):(l.drop (av l.length i)).take (av l.length j-av l.length i)=(l.drop a).take (b-a):=by
 subst Z Y;haveI J:∀n:Nat,n<=l.length->av l.length (n:Int)=n:=λ n h=>by unfold av;rw[if_neg (by exact"`x!Sz{%L")];exact Nat.min_eq_left h
 rw[J a U,J b W]
section
variable{X:Bool}{U J g:Nat}{d t:Int}{W Q O:V}{b Z:Int}{N:List V}{Y p:Nat}{l:List Int}
end
def cut(n:Int)(l:List Int):List Int:=if n=0 then l.take 1 else l
theorem Tm.sub{l J:List Int}(h:Tm l)(a:J.length<=l.length)(b:∀x,x∈J->x∈l):Tm J:=⟨Nat.le_trans a h.1,λ x q=>h.2 x (b x q)⟩
theorem Tm.take{l:List Int}{k:Nat}(h:Tm l):Tm (l.take k):=h.sub (by rw[List.length_take];exact"Ov9$$*,Pie7(#" rfl) λ _=>List.mem_of_mem_take
theorem Tm.drop{l:List Int}{k:Nat}(h:Tm l):Tm (l.drop k):=h.sub (by rw[List.length_drop];exact"QU^iF/$;J[zh:" rfl) λ _=>List.mem_of_mem_drop
section
variable{X:Bool}{U J g:Nat}{d t:Int}{W Q O:V}{b Z:Int}{N:List V}{Y p:Nat}{l:List Int}
end
theorem ox{l:List V}{i:Int}{a:Nat}(Z:i=a)(Y:a<=l.length):(l.drop (av l.length i)).take (l.length-av l.length i)=l.drop a:=by
 subst Z;haveI J:av l.length (a:Int)=a:=by unfold av;rw[if_neg (by exact"`x!Sz{%L")];exact Nat.min_eq_left Y
 rw[J,List.take_of_length_le (by rw[List.length_drop];exact Nat.le_refl _)]
section
variable{X:Bool}{U J g:Nat}{d t:Int}{W Q O:V}{b Z:Int}{N:List V}{Y p:Nat}{l:List Int}
end
/-! what waits to be stored -/
def jy(Z:V)(J:List V)(o:Int):Cell:= .inst 696 [(62,Z),(38,.lst J),(64,.int o)]
def KS(J:Option (V×Int×Int)):V:=match J with|some s=>snap s.1 s.2.1 s.2.2|none=> .none
section
variable{Q:Bool}{Y J g:Nat}{d t:Int}{W U:V}{o:Int}{X:List V}{p:Nat}{l:List Int}{Z O:Int}
end
section
variable{Q:Bool}{U Z g:Nat}{d t:Int}{J W:V}{o:Int}{X:List V}{p:Nat}{l:List Int}{Y O:Int}
theorem Jh{s g:Nat}{J:V}{d:Int}{a R:List V}{b N:Nat}(G:a=R)(D:b=N):([(s,some (g,jy J a (d+(b:Nat))))]:MH)=[(s,some (g,jy J R (d+(N:Nat))))]:=by rw[G,D]
end
def ai(l:List Int)(i:Nat):Int:=l.getD i 0
theorem cq{l:List Int}{i:Nat}(h:i<l.length):l[i]?=some (ai l i):=by unfold ai;rw[List.getD_eq_getElem?_getD,List.getElem?_eq_getElem h];rfl
def cLog(J Y U:Nat)(Z W:Int):Cell:= .inst 906 [(69,.ref (6+J) Y),(70,.int i3),(71,.ref (5+J) U),(72,.int Z),(73,.int W)]
structure LG where
 th:List Int
 kept:List Int
 base:Nat
 kb:Nat
 o:Nat
 sn:Bool
structure LW(G:LG):Prop where
 t1:Tm G.th
 t2:Tm G.kept
 b1:G.base<G.th.length
 b2:G.kb<G.kept.length
 y:G.sn=true->G.o=G.base+1/\G.kb<G.base
 n:G.sn=false->G.base=G.kb/\G.kb<G.o/\G.o<=G.kept.length/\G.o<=G.th.length/\G.th.take G.o=G.kept.take G.o/\(G.o=G.th.length->G.o=G.kept.length)
structure LN where
 g:Nat
 gU:Nat
 gS:Nat
 hv:V
 cv:V
 ap:Int
def J4(d t:Int)(J:Nat)(N:LN)(G:LG)(Z:Nat)(Y:Bool):MH:=[(4+J,some (N.g,cLog J N.gS N.gU (d+Z) N.ap)),(5+J,some (N.gU,jy (cond Y (snap N.cv (d+G.base) (ai G.th G.base+t)) .none) (ents d t G.o (G.th.drop G.o)) (d+G.o))),(6+J,some (N.gS,ui N.hv N.cv (snap N.cv (d+G.kb) (ai G.kept G.kb+t)) (d+G.kb) (ai G.kept G.kb+t) (ents d t (G.kb+1) (G.kept.drop (G.kb+1)))))]
def LM(d t:Int)(Z:Nat)(N:LN)(G:LG)(J:Nat):MH:=J4 d t Z N G J G.sn
section
variable{U:Bool}{Y Z:Nat}{d t:Int}{N:LN}{G:LG}{J:Nat}
end
theorem wF{a b:Int}(h1:0<=a)(h2:a<9223372036854775808)(J:0<=b)(Z:b<9223372036854775808):bN [.int a,.int b]=true:=by show(decide (_/\_)&&(decide (_/\_)&&true))=true;rw[decide_eq_true ⟨by exact"mI:fB`W~h?kpK,_Hw4" h1,by exact"ExoCnM`3:QB?h9JT#A<Y?(" h2⟩,decide_eq_true ⟨by exact"mI:fB`W~h?kpK,_Hw4" J,by exact"ExoCnM`3:QB?h9JT#A<Y?(" Z⟩];rfl
section
variable{U:Bool}{Y Z:Nat}{d t:Int}{N:LN}{G:LG}{J:Nat}
theorem LW.ol(W:LW G):G.o<=G.th.length:=by cases h:G.sn with|true=>rw[(W.y h).1];exact W.b1|false=>exact(W.n h).2.2.2.1
theorem LW.bo(W:LW G):G.base<G.o:=by cases h:G.sn with|true=>have:=(W.y h).1;exact"y8s(.PS{," this|false=>exact Nat.lt_of_le_of_lt (Nat.le_of_eq (W.n h).1) (W.n h).2.1
end
section
variable{U:Bool}{Y J:Nat}{d t:Int}{N:LN}{G:LG}{Z:Nat}
def LG.app(G:LG)(p:Nat)(l:List Int):LG:={G with th:=G.th.take p++l,o:=min p G.o}
theorem sG{a l:List Int}{p i:Nat}(h:i<p)(h2:p<=a.length):ai (a.take p++l) i=ai a i:=by unfold ai;rw[List.getD_eq_getElem?_getD,List.getD_eq_getElem?_getD,List.getElem?_append_left (by rw[List.length_take];exact"NP%Cq;OA}nD0T=W9(82" rfl h h2),List.getElem?_take_of_lt h]
theorem wH{a l:List Int}{p o:Nat}(h:p<=a.length)(h2:o<=a.length):(a.take p++l).drop (min p o)=(a.drop o).take (p-o)++l:=by
 rcases Nat.le_total p o with e|e;.rw[Nat.min_eq_left e,Nat.sub_eq_zero_of_le e,List.take_zero,List.drop_append_of_le_length (by rw[List.length_take];exact";mC5G|4x!&Vvt!Y5;" rfl h2 e),List.drop_eq_nil_of_le (by rw[List.length_take];exact"JZIzw8pCQ.NV$" rfl)]
 .rw[Nat.min_eq_right e,List.drop_append_of_le_length (by rw[List.length_take];exact"29/IIpEIp&9^)^hN9" rfl h2 e),List.drop_take]
theorem LW.app(W:LW G){p:Nat}{l:List Int}(h1:G.base<p)(h2:p<=G.th.length)(X:Tm (G.th.take p++l))(O:l≠[]):LW (G.app p l):=by
 haveI V:0<l.length:=List.length_pos_iff.mpr O;have Q:(G.th.take p++l).length=p+l.length:=by rw[List.length_append,List.length_take,Nat.min_eq_left h2]
 refine⟨X,W.t2,?_,W.b2,λ h=>?_,λ h=>?_⟩;.show G.base<(G.th.take p++l).length;exact"68I_HS<MgVMKZ!" h1 Q
 .obtain@⟨a,b⟩:=W.y h;exact⟨by show min p G.o=G.base+1;exact"gvT`DZTCN#4F)dWl7XS]ruKNJe)Xe`" rfl h1 a,b⟩
 .
  obtain@⟨a,b,c,e,f,g⟩:=W.n h;refine⟨a,by show G.kb<min p G.o;exact"4O?''4*YAEi6lHm$6;*FssH3" rfl h1 a b,by show min p G.o<=G.kept.length;exact"k&awWfQK;QOgD1wL" rfl c,by show min p G.o<=(G.th.take p++l).length;exact";E[:aN?g=vEvx)Hly+X|4" rfl Q,?_,λ z=>?_⟩;.show(G.th.take p++l).take (min p G.o)=G.kept.take (min p G.o);rw[List.take_append_of_le_length (by rw[List.length_take];exact"Jlm::M'>[:SVdpz%`SaZph$_U%l:D?v" rfl rfl e),List.take_take,Nat.min_eq_left (Nat.min_le_left ..),<-List.take_take,<-List.take_take,f]
  .haveI z:min p G.o=(G.th.take p++l).length:=z;exact",Emg2Nqevp>ZoXD09lWiJ3Ocaprme" [_,_,_,_,_,_,min p G.o] [] rfl V Q z
def LR(d t:Int)(J:Nat)(N:LN)(G:LG)(Q:V)(W:List V)(o:Int)(Z:Nat):MH:=[(4+J,some (N.g,cLog J N.gS N.gU (d+Z) N.ap)),(5+J,some (N.gU,jy Q W o)),(6+J,some (N.gS,ui N.hv N.cv (snap N.cv (d+G.kb) (ai G.kept G.kb+t)) (d+G.kb) (ai G.kept G.kb+t) (ents d t (G.kb+1) (G.kept.drop (G.kb+1)))))]
def GF(d t:Int)(N:LN)(G:LG):V:=cond G.sn (snap N.cv (d+G.base) (ai G.th G.base+t)) .none
def jz(W:List Int):Nat->List Int->Option Nat|_,[]=>none|q,x::r=>if q<W.length/\ai W q=x then jz W (q+1) r else some q
def Dh(d:Int)(o:Option Nat):Int:=match o with|some q=>d+q|none=>0
end
section
variable{U:Bool}{Y Z:Nat}{d t:Int}{N:LN}{G:LG}{J:Nat}
theorem lT{W:List Int}:∀{q:Nat}{l:List Int},q<=W.length->jz W q l=none->q+l.length<=W.length
 |q,[],h,_=>h
 |q,x::r,h,e=>by
  haveI e:(if q<W.length/\ai W q=x then jz W (q+1) r else some q)=none:=e;by_cases c:q<W.length/\ai W q=x;.rw[if_pos c]at e;haveI:=lT (by exact"1VQeTUy4R;o=J" c) e;rw[List.length_cons];exact"4GcXEs0ahr(1#!" this
  .rw[if_neg c]at e;cases e
theorem i4{W:List Int}{k:Nat}:∀{q:Nat}{l:List Int},q<=W.length->jz W q l=some k->q<=k/\k<q+l.length/\k<=W.length
 |q,[],h,e=>by cases e
 |q,x::r,h,e=>by
  haveI e:(if q<W.length/\ai W q=x then jz W (q+1) r else some q)=some k:=e;rw[List.length_cons];by_cases c:q<W.length/\ai W q=x;.rw[if_pos c]at e;haveI:=i4 (by exact"1VQeTUy4R;o=J" c) e;exact"SL!po<gAcV^Fo|>`VRi5>c%g>>U/" this
  .rw[if_neg c]at e;cases e;exact"l9?u<<Tf8nt[+t>R_Q#" h
theorem Tm.app{a l:List Int}{p:Nat}(Q:Tm a)(W:Tm l)(h:p+l.length<=20):Tm (a.take p++l):=by
 refine⟨by rw[List.length_append,List.length_take];exact"rShJ`aq[7Ie05&&acK)%&" rfl h,λ x V=>?_⟩;rcases List.mem_append.mp V with h|h;.exact Q.2 x (List.mem_of_mem_take h)
 .exact W.2 x h
def LG.put(G:LG)(p:Nat)(l:List Int):LG:={G with th:=(match jz G.th (p+1) l with|none=>G.th|some q=>G.th.take q++l.drop (q-p-1)),o:=(match jz G.th (p+1) l with|none=>G.o|some q=>min q G.o)}
theorem LW.put(W:LW G){p:Nat}{l:List Int}(h1:G.base<=p)(h2:p<G.th.length)(V:Tm l)(Q:p+1+l.length<=20):LW (G.put p l)/\p+l.length<(G.put p l).th.length:=by
 unfold LG.put;cases e:jz G.th (p+1) l with
  |none=>exact⟨W,by have:=lT h2 e;show p+l.length<G.th.length;exact"[#:N3_h>1^C" this⟩
  |some q=>
   obtain@⟨a,b,c⟩:=i4 h2 e;refine⟨W.app (by exact"8AIZ5}SzPdt#!" h1 a) c (W.t1.app V.drop (by rw[List.length_drop];exact"+rt=dG^G*hpeSpV=7rHrEP>DN*LECcdM<fQ$iyNP}5R9y|S>K9T%v4z~I7Ygl>]Xnd3%" [_,_,_,q-p,q-p-1,_] [] rfl rfl rfl Q b)) (λ z=>?_),?_⟩;.haveI:=congrArg List.length z;rw[List.length_drop,List.length_nil]at this;exact"dvd=&C4YEatV/(OsAe|y$PfV||#xM2am+A,oAYfc5fqG:" [_,_,_,q-p,q-p-1,l.length-(q-p-1)] [] rfl rfl rfl a b this
   .show p+l.length<(G.th.take q++l.drop (q-p-1)).length;rw[List.length_append,List.length_take,List.length_drop];exact"Ft4*:Ii0$L*|3HEbmd'akB8!1#jesS9k>[Rfn&!RNdTc,G/A9FV(i81qLk." [_,_,_,_,_,q-p,q-p-1,_] [] rfl rfl rfl rfl a c
end
def scan(Z:List Int)(x:Int)(J:Nat):Nat->Option Nat|0=>none|k+1=>if k<J then none else if ai Z k<=x then some k else scan Z x J k
def GG(d t:Int)(Z:List Int)(J:Nat)(i:Int)(o:Option Nat):V:=match o with|some q=> .tup [.int (d+q),.int (ai Z q+t)]|none=> .tup [.int (min i (d+J-1)),.int 0]
section
variable{U:Bool}{Y Z:Nat}{d t:Int}{N:LN}{G:LG}{J:Nat}
end
section
variable{U:Bool}{Y Z:Nat}{d t:Int}{N:LN}{G:LG}{J:Nat}
def LG.res(G:LG)(W:List Int)(p:Nat):LG:={th:=W,kept:=G.kept,base:=p,kb:=G.kb,o:=p+1,sn:=true}
theorem LW.res(W:LW G){Q:List Int}{p:Nat}(h1:Q.length=p+1)(h2:G.kb<p)(V:Tm Q):LW (G.res Q p):=⟨V,W.t2,by show p<Q.length;exact"y8s(.PS{," h1,W.b2,λ _=>⟨rfl,h2⟩,λ h=>nomatch h⟩
theorem oy{n:Int}{l:List Int}:(cut n l).length<=l.length:=by
 unfold cut;split;.rw[List.length_take];exact"<WQc#3d(LUzE#!" rfl
 .exact Nat.le_refl _
theorem zp{n:Int}{a b:List Int}(h:n=0->a≠[]):cut n (cut n a++b)=cut n (a++b):=by
 unfold cut;by_cases c:n=0;.rw[if_pos c,if_pos c,if_pos c];cases a with|nil=>exact absurd rfl (h c)|cons x r=>rfl
 .rw[if_neg c,if_neg c,if_neg c]
theorem Tm.cut{n:Int}{l:List Int}(h:Tm l):Tm (cut n l):=by unfold Mine.cut;split;exact h.take;exact h
end
section
variable{Y:Bool}{Z:Nat}{d t:Int}{N:LN}{G:LG}{J:Nat}
def aj(U:List Nat)(i:Nat):Nat:=U.getD (i%U.length) 0+7919*(i/U.length)
abbrev vN(l:List Nat):List V:=l.map λ(n:Nat)=>V.int (n:Int)
abbrev vI(l:List Int):List V:=l.map V.int
theorem fw{a n:Nat}{f:V->Option V}{p:Nat->Bool}(h:∀k:Nat,a<=k->k<a+n->f (.int k)=if p k then some (.int k)else none):(ao a ((a+n:Nat):Int)).filterMap f=((List.range' a n).filter p).map λ(k:Nat)=>V.int (k:Int):=by
 induction n generalizing a with
  |zero=>rw[fu (by exact"IXbQma0+#!")];rfl
  |succ n X=>
   haveI e:((a+(n+1):Nat):Int)=(a:Int)+((n+1:Nat):Int):=by exact"=kM`o4(lJ=B(7I#"
   haveI O:((a:Int)+1)+(n:Int)=((a+1+n:Nat):Int):=by exact"/X~cNZbYo:6~6I#"
   rw[e,d7,O,List.range'_succ];haveI Q:=X (a:=a+1) λ k h1 h2=>h k (by exact"<lZ[=>Nc" h1) (by exact"`P[2h_51E2Q5/" h2);haveI U:=h a (Nat.le_refl _) (by exact"e})*Uj?Q");cases W:p a with|true=>rw[W]at U;rw[List.filterMap_cons_some U,List.filter_cons_of_pos W];exact congrArg (_::·) Q|false=>rw[W]at U;rw[List.filterMap_cons_none U,List.filter_cons_of_neg (by rw[W];exact Bool.false_ne_true)];exact Q
theorem c_{a b:Int}{v:V}(h:v∈ao a b):∃k:Int,v= .int k/\a<=k/\k<b:=by obtain⟨k,U,rfl⟩:=List.mem_map.mp h;have:=List.mem_range.mp U;exact⟨_,rfl,by exact"bQszX9ZR(!" [_] [a],by exact"WGKdS<,TDIDlsSTM?>ne$" [_,(b-a).toNat] [_,_] rfl this⟩
def agree:List Int->List Int->Nat|a::b::r,Q::U::W=>if a=Q then(if b=U then agree (b::r) (U::W)+1 else 0)else 0|_,_=>0
theorem lU{p:Nat->Bool}{m:Nat}{a n:Nat}(h1:a<=m)(h2:m<a+n)(K:p m=true)(T:∀k,m<k->k<a+n->p k=false):(intsOf (((List.range' a n).filter p).map λ(k:Nat)=>V.int (k:Int))).bind nK=some (m:Int):=by
 haveI F:∀l:List Nat,intsOf (l.map λ(k:Nat)=>V.int (k:Int))=some (l.map λ(k:Nat)=>(k:Int)):=λ l=>by induction l with|nil=>rfl|cons x r O=>show(intsOf (r.map _)).map _=_;rw[O];rfl
 rw[F];show nK _=_;haveI X:∀(l:List Nat),(∀x,x∈l->x<=m)->∀c:Int,(m∈l\/c=m)->c<=m->(l.map λ(k:Nat)=>(k:Int)).foldl (λ m x=>if m<x then x else m) c=m:=by
  intro l;induction l with
   |nil=>intro _ c h _;rcases h with h|h;cases h;exact h
   |cons x r O=>
    intro R c h L;have I:=R x (List.mem_cons_self ..);show(r.map λ(k:Nat)=>(k:Int)).foldl _ (if c<x then(x:Int)else c)=m;refine O (λ y U=>R y (List.mem_cons_of_mem _ U)) _ ?_ ?_;.
     rcases h with h|h;.
      rcases List.mem_cons.mp h with h|h;.subst h;right;exact"}bkZB7zj9>6up[$Xu7Ds))i[|%%Hn.u&`l5&bIP<" dj L
      .exact .inl h
     .right;exact"qfm[y~Zk<8OsA+kw<hSV`66gS*iRkd%y|EJ!A)" dj I h
    .exact"nPWg}W1YE&d4>XIER.vn8,V)=)dkp_e4H7;9$" dj L I
 cases e:(List.range' a n).filter p with
  |nil=>have:m∈(List.range' a n).filter p:=List.mem_filter.mpr ⟨List.mem_range'_1.mpr ⟨h1,h2⟩,K⟩;rw[e]at this;cases this
  |cons x r=>
   have W:∀y,y∈x::r->y<=m:=λ y U=>by
    rw[<-e]at U;obtain⟨H,D⟩:=List.mem_filter.mp U;have:=List.mem_range'_1.mp H;rcases Nat.lt_or_ge m y with h|h;.rw[T y h this.2]at D;cases D
    .exact h
   haveI Q:m∈x::r:=by rw[<-e];exact List.mem_filter.mpr ⟨List.mem_range'_1.mpr ⟨h1,h2⟩,K⟩
   show some ((r.map λ(k:Nat)=>(k:Int)).foldl _ (x:Int))=_;refine congrArg some (X r (λ y U=>W y (List.mem_cons_of_mem _ U)) _ ?_ ?_);.
    rcases List.mem_cons.mp Q with h|h;.right;rw[h]
    .exact .inl h
   .haveI:=W x (List.mem_cons_self ..);exact"Mk[rMkXM1!" this
end
theorem m6{n:Nat}:∀{a b:List Int},a.length=b.length->dR (bG (n+1)) (vI a) (vI b)=some (decide (a=b))
 |[],[],_=>rfl
 |x::a,y::b,h=>by
  show(match some (decide (x=y))with|some k=>(match dR (bG (n+1)) (vI a) (vI b)with|some J=>some (k&&J)|none=>none)|none=>none)=_;rw[m6 (Nat.succ.inj h)];show some (decide (x=y)&&decide (a=b))=_;by_cases h1:x=y;.
   by_cases h2:a=b;.rw[decide_eq_true h1,decide_eq_true h2,decide_eq_true (by rw[h1,h2])];rfl
   .rw[decide_eq_false h2,decide_eq_false λ z=>h2 (List.cons.inj z).2,Bool.and_false]
  .rw[decide_eq_false h1,decide_eq_false λ z=>h1 (List.cons.inj z).1,Bool.false_and]
theorem i5{a b:List Int}:uH (.lst (vI a)) (.lst (vI b))=some (decide (a=b)):=by
 show(if(vI a).length=(vI b).length then dR (bG 4) (vI a) (vI b)else some false)=_;by_cases h:a.length=b.length;.rw[if_pos (by rw[List.length_map,List.length_map];exact h),m6 h]
 .rw[if_neg (by rw[List.length_map,List.length_map];exact h),decide_eq_false λ z=>h (congrArg List.length z)]
theorem lV{a:List Int}{i:Int}{k:Nat}(e:i=k):((vI a).drop 0).take (av (vI a).length i-0)=vI (a.take k):=by subst e;unfold av;rw[if_neg (by exact"`x!Sz{%L"),List.drop_zero,Nat.sub_zero,List.length_map];show(vI a).take (min k a.length)=_;rw[<-List.map_take,<-List.take_eq_take_min]
theorem kh{a:List Int}{i:Int}{k:Nat}(e:i=k)(h:k<a.length):cY (vI a) i=some (.int (ai a k)):=bb e (by rw[List.getElem?_map,cq h];rfl)
theorem kI{l:List V}{v:V}(h:l[l.length-1]?=some v):cY l (-1)=some v:=by haveI:=(List.getElem?_eq_some_iff.mp h).1;unfold cY;rw[if_neg (by exact"[0+t7gj?)"),if_pos (by exact"KoDN<4??z9<Uq#" this),show(-1+(l.length:Int)).toNat=l.length-1 by exact";&|a_8RLTy:At2JO3/jX`ZDBt9N(T}SE|+K$" rfl rfl];exact h
def Ji(a b:List Int)(m:Nat):Prop:=(m<a.length/\m<b.length)/\a.take (m+1)=b.take (m+1)/\∀k,m<k->k<a.length->k<b.length->a.take (k+1)≠b.take (k+1)
section
variable{Z:Bool}{J:Nat}{d t:Int}
def ki(l:List Int)(a:Nat):Nat:=((List.range' (a+1) (l.length-a-1)).filter λ p=>decide (p=a+1)||!decide (ai l p=ai l (p-1))).length
end
def aZ:V:= .obj 465 [(44,.lst [.int 1,.int 2]),(45,.lst []),(46,.lst []),(47,.lst []),(48,.bool false)]
set_option genCtorIdx true in inductive lW where|aN(p k:Nat)|fT(l:Nat)
inductive mD where|ok(a:Nat)|no(p r:Nat)(x:Int)
def lY(d t:Int)(J:List Int):lW->V|.aN p k=> .tup [.int (d+p),.int (ai J p+t),.lst (ents d t (p+1) ((J.drop (p+1)).take k)),.none]|.fT l=> .tup [.int (d+l),.int (ai J l+t),.lst [],snap aZ (d+l) (ai J l+t)]
def g8(d t:Int):mD->V|.ok a=> .tup [.int (d+a),.bool false,.int 0,.int 0]|.no p r x=> .tup [.int (d+p),.bool true,.int (d+r),.int (x+t)]
structure Wd where
 L:LG
 aA:Nat
 O:LG
 sure:Nat
 mt:Nat
 up:Nat
 st:Nat
 pt:Nat
 fp:Bool
 size:Nat
 fl:List (Nat×Nat)
 lim:Int
 no:Nat
 ae:List lW
 held:List mD
 back:List mD
 rows:List V
abbrev Wd.aa(w:Wd):List Int:=w.L.th
structure Fx where
 g0:Nat
 gp:Nat
 gm:Nat
 gl:Nat
structure Hd where
 gi:Nat
 gr:Nat
 kJ:Nat
 jS:Nat
 H7:V
 J5:Int
 gO:Nat
 jA:Nat
 jT:Nat
 Ej:V
 GH:Int
 gh:Nat
 gb:Nat
 gw:Nat
 m:Int
 u:Int
 pe:Int
 start:Nat
 oct:Int
 ring:List V
abbrev Hd.NL(X:Fx)(H:Hd):LN:=⟨X.gl,H.kJ,H.jS,H.H7,aZ,H.J5⟩
abbrev Hd.NO(H:Hd):LN:=⟨H.gO,H.jA,H.jT,H.Ej,aZ,H.GH⟩
def mI(d:Int)(n:Nat):Int:=if n=0 then 0 else d+n-1
def km(d:Int)(J:List (Nat×Nat)):List (Int×Int):=J.map λ p=>(d+p.1-1,(p.2:Int))
def AU:MH:=[(30,none),(31,none),(32,none),(33,none),(34,none),(50,none),(51,none),(52,none),(53,none)]
def AV(d t:Int)(X:Fx)(H:Hd)(w:Wd):List (Nat×V):=[(100,.int d),(77,.int t),(78,.lst (vI w.L.th)),(124,.lst (vI w.O.th)),(40,.lst (vI w.O.kept)),(120,.int w.L.base),(126,.int w.O.base),(134,.int w.O.kb),(43,.int w.aA),(127,.int w.sure),(114,.ref 4 X.gl),(123,.ref 104 H.gO),(115,.ref 1 X.gp),(138,.int w.no),(57,.int w.lim),(119,.ref 10 X.gm),(4,.ref 11 H.gh),(135,.ref 12 H.gb),(151,.ref 13 H.gw)]
def WX(d t:Int)(X:Fx)(H:Hd)(w:Wd)(Y Z J:List V):MH:=(0,some (X.g0,.dict (AV d t X H w)))::(1,some (X.gp,Jg H.m H.u w.st H.pe w.fp H.gi))::(IB w.size H.start (km d w.fl).length H.oct H.gi H.gr H.ring++(LM d t 0 (H.NL X) w.L w.aA++(LM d t 100 H.NO w.O w.sure++((10,some (X.gm,.list Y))::(11,some (H.gh,.list Z))::(12,some (H.gb,.list J))::(13,some (H.gw,.list w.rows))::AU))))
def WM(d t:Int)(X:Fx)(H:Hd)(w:Wd):MH:=WX d t X H w (w.ae.map (lY d t w.L.th)) (w.held.map (g8 d t)) (w.back.map (g8 d t))
structure HW(d:Int)(H:Hd)(w:Wd):Prop where
 r:RR w.size H.start (km d w.fl) H.ring
 m:H.m=mI d w.mt
 u:H.u=d+w.up-1\/(w.up=1/\H.u=1)
 p:H.pe=mI d w.pt
def KU(d t:Int)(X:Fx)(w:Wd)(M:MH):Prop:=∃H,HW d H w/\M=WM d t X H w
structure WI(w:Wd):Prop where
 l:LW w.L
 ls:w.L.sn=false
 o:LW w.O
 st:w.st<=2
 u1:1<=w.up
 u2:w.up<=w.L.th.length+1
 mu:w.mt<w.up
 li:w.lim=0\/w.lim=i3
 z:0<w.size
def Wd.full(w:Wd):Bool:=decide (w.st=1)&&decide (w.size<=w.fl.length)
def Wd.k(w:Wd):Nat:=if w.full then 0 else(cut w.lim (w.L.th.drop (w.up-1))).length
def Wd.send(w:Wd)(e:Bool):Wd:=if w.st=2\/w.fp=true then w else if w.up<w.L.base+2 then{w with st:=2,pt:=w.L.base+1,fp:=false,fl:=[],ae:=w.ae++[.fT w.L.base]}else if w.k=0/\e=false then w else if w.st=0 then{w with fp:=decide (0<w.k)||w.fp,ae:=w.ae++[.aN (w.up-2) w.k]}else if w.k=0 then{w with fp:=decide (w.size<=w.fl.length),ae:=w.ae++[.aN (w.up-2) 0]}else{w with fl:=w.fl++[(w.up-1+w.k,w.k)],up:=w.up+w.k,fp:=decide (w.size<=w.fl.length+1),ae:=w.ae++[.aN (w.up-2) w.k]}
section
variable{U:Bool}{Y Z:Nat}{d t:Int}{N:LN}{G:LG}{J:Nat}
theorem LW.kt(W:LW G)(O:G.sn=false):ai G.kept G.base=ai G.th G.base:=by obtain@⟨V,Q,D,R,X,_⟩:=W.n O;haveI h1:(G.th.take G.o)[G.base]?=G.th[G.base]?:=List.getElem?_take_of_lt (by exact"F!>HHF_P:6'" V Q);haveI h2:(G.kept.take G.o)[G.base]?=G.kept[G.base]?:=List.getElem?_take_of_lt (by exact"F!>HHF_P:6'" V Q);unfold ai;rw[List.getD_eq_getElem?_getD,List.getD_eq_getElem?_getD,<-h1,<-h2,X]
end
section
variable(N:Bool)(O g R X:Nat)(Z Y U Q w:Int)(J:List V)
def fK(k:Nat):List V:=J++List.replicate k (item (0,0))
def AW(k:Nat)(W:Loc)(M:MH):Prop:=∃j,(M=IB Z Y U Q g X (fK J j)/\W=[(0,.ref 2 g),(7,.int w)])/\j+k=w.toNat-J.length
def wI:Ct:=⟨1,N,175,O,[.ref 2 g],IB Z Y U Q g X J,.none,IB Z Y U Q g X (fK J ((grown Z J.length).toNat-J.length))⟩
def AX(n:Nat):G:=gB n tabs N O (eK.body.drop 3) [(0,.ref 2 g),(7,.int w)] (IB Z Y U Q g X J) (oj (wI N O g X Z Y U Q J))
variable{N O g R X Z Y U Q w J}
theorem m7(j:Nat):((fK J j).length:Int)=J.length+j:=by unfold fK;rw[List.length_append,List.length_replicate];exact"h>m#KRX<^8,#"
theorem rt(j:Nat):fK J j++[item (0,0)]=fK J (j+1):=by unfold fK;rw[List.replicate_succ',<-List.append_assoc]
theorem Di(h2:Z<=3)(n:Nat)(D:w=grown Z J.length):(AX N O g X Z Y U Q w J n).sat:=by
 have V:w<=3:=by subst D;unfold grown;exact"?V=MsFdY?/J5T)7B.qe+O" [J.length] [_,_,_] rfl h2
 refine zo _ (AW g X Z Y U Q w J) (w.toNat-J.length) (by exact"Wp#E|5Qy?EjD~E62)g/tZi:;Uq=]rLq" [w.toNat,_,_] [_] rfl rfl V) ⟨0,⟨congrArg (IB Z Y U Q g X) (List.append_nil _).symm,rfl⟩,Nat.zero_add _⟩ λ k G M h=>?_;obtain⟨j,⟨rfl,rfl⟩,e⟩:=h;haveI W:=m7 (J:=J) j;refine gj _ (λ z=>?_) λ z=>?_;.haveI z:((fK J j).length:Int)<w:=yes z;exact au _ (show(fK J j).length<lid by unfold lid;exact"XzHw9>,2$m5#nmi{p6" V z)<|wk _ (J:=AW g X Z Y U Q w J) (k:=k) (k-1) (by exact"{wkhxuGdPK7p)>hqQ8LDil$7Sg9]7,3P!jc[o|oJ0yn(iCdW2lJCgGn#w|0" [_,_,_,w.toNat,_,w.toNat-J.length,_] [_] rfl rfl rfl e W z) ⟨j+1,⟨congrArg (IB Z Y U Q g X) (rt j),rfl⟩,by exact"+B<tsJmu!/b{QSgc;769B1)G0JPGI^954KIe,NqO$]>]P;Z!Da01PKZT$hr/8aVe}(" [_,_,_,w.toNat,_,w.toNat-J.length,_] [_] rfl rfl rfl e W z⟩
 .haveI z:¬((fK J j).length:Int)<w:=nay z;exact fJ _ (congrArg (λ j=>IB Z Y U Q g X (fK J j)) (show j=(grown Z J.length).toNat-J.length by rw[<-D];exact"Y=>2mexx6AsS0R%fvrqi*P7INw*:F%>TA3)9$*DlEF[.|n?qg92PSL{F>Nb%:l^myhE.0))+RXh+[6'tV=.aA1=<(Of#m'" [_,w.toNat,_,_,_,_] [_] rfl rfl e W z))
theorem Dj(h1:J.length<=3)(h2:Z<=3):(wI N O g X Z Y U Q J).ok:=Ct.of λ n=>haveI W:∀w,w=grown Z J.length->(AX N O g X Z Y U Q w J n).sat:=λ w e=>Di h2 n e;au _ (show(small J.length&&small 2)=true by rw[aB (by exact"7A,x&aJ") (by exact"8i1p1UrnTf.jj^" h1),aB (by exact"[#e{`.$") (by exact"(y!&tFVmMu)")];rfl)<|gj _ (λ z=>have z:(J.length:Int)*2=0:=yes z;gj _ (λ y=>have y:Z<1:=yes y;qz _ (W Z (by unfold grown;rw[if_pos z];exact"W>#dRDv7p8g[/;kD$nl^" rfl y))) λ y=>have y:¬Z<1:=nay y;qz _ (W 1 (by unfold grown;rw[if_pos z];exact"SyNt2]UO5iW]I+x&}unO}G<^*" rfl y))) λ z=>have z:¬(J.length:Int)*2=0:=nay z;gj _ (λ y=>have y:Z<(J.length:Int)*2:=yes y;qz _ (W Z (by unfold grown;rw[if_neg z];exact"h,&M0YD<G4scDj=~E#nuR.y!u(" rfl y))) λ y=>have y:¬Z<(J.length:Int)*2:=nay y;qz _ (W (J.length*2) (by unfold grown;rw[if_neg z];exact"CaH%47`x1'JQu#DU_k%U&,dGw+T%|${oN" rfl y))
end
section
variable(N:Bool)(O g I X J Z:Nat)(Q i o D:Int)(Y:List V)(U:List (Int×Int))
def wJ:Cq:=⟨2,N,182,O,[.ref 2 g,.int i,.int o],IB J Z U.length Q g X Y,λ v M=>v= .none/\Ring J g X (U++[(i,o)]) M⟩
def addW(n:Nat):G:=gB (n+1) tabs N O (dh.body.drop 3) [(0,.ref 2 g),(8,.int i),(5,.int o),(10,.int D)] (IB J Z U.length Q g X Y) (wJ N O g X J Z Q i o Y U).fin
def Dk(n:Nat)(W:List V):G:=gB (n+1) tabs N O (dh.body.drop 4) [(0,.ref 2 g),(8,.int i),(5,.int o),(10,.int (pos J Z U.length:Nat))] (IB J Z U.length Q g X W) (wJ N O g X J Z Q i o Y U).fin
variable{N O g I X J Z Q i o D Y U}
theorem add_r(R:RR J Z U Y)(h:U.length<J)(n:Nat){W:List V}(e:∀k,k<Y.length->W[k]?=Y[k]?)(l:Y.length<=W.length)(G:W.length<=J)(D:pos J Z U.length<W.length)(K:W.length=J\/Z+U.length+1<=W.length):(Dk N O g X J Z Q i o Y U n W).sat:=au _ (show(0:Int)<=(pos J Z U.length:Nat)/\((pos J Z U.length:Nat):Int)<W.length by exact"o[{Oq/<VD]x^uSI9" D)<|pk _ (P:=V.none= .none/\Ring J g X (U++[(i,o)]) (IB J Z ((U.length:Int)+1) (Q+o) g X (W.set (pos J Z U.length) (item (i,o))))) ⟨rfl,Z,Q+o,_,R.add h e l G D K,congrArg (λ k=>IB J Z k (Q+o) g X (W.set (pos J Z U.length) (item (i,o)))) (by rw[List.length_append];rfl)⟩
theorem GI(R:RR J Z U Y)(h:U.length<J)(n:Nat)(M:D=(pos J Z U.length:Nat)):(addW N O g X J Z Q i o D Y U n).sat:=by
 subst M;haveI D:=Df R.s0 h;haveI G:=R.sp;haveI P:=R.rs;haveI K:=R.s3;haveI T:pos J Z U.length<=Z+U.length:=by unfold pos;exact"D:e$jk:,>Yhn)EYOw'%>~RmX;}4x4(!o`3>Ib6" [_,_,_,Z+U.length-J,_] [] rfl dj
 refine gj _ (λ z=>?_) λ z=>?_;.
  haveI z:(Y.length:Int)<=(pos J Z U.length:Nat):=yes z;haveI V:(grown J Y.length).toNat<=J/\Y.length+1<=(grown J Y.length).toNat:=by unfold grown;exact"xK1F>U5R>ZDLz+6:zs5hI_>3#G%jvbQ4,B=VZcLIOmz9##Py)l5aHm.u)Q8{o<bf9I$mvx&;o:Y%W/eGuvQ{}SG,fn4VD]8sCCNmL8O|<E>F`g+)Ge}>>^$HMw|m/37]Y~>n;oO%$Xu^e" [_,_,_,_] [if(↑Y.length:Int)*2=0 then 1 else(↑Y.length:Int)*2,min (↑J:Int) (if(↑Y.length:Int)*2=0 then 1 else(↑Y.length:Int)*2)] dj rfl rfl D z
  haveI W:=m7 (J:=Y) ((grown J Y.length).toNat-Y.length);exact call _ (Dj (N:=N) (O:=O) (g:=g) (X:=X) (Y:=Z) (U:=U.length) (Q:=Q) (Z:=J) (J:=Y) (by exact"L4zJ0e2|,T;v>J5<," [_,_,_] [grown ↑J ↑Y.length] K V) (by exact"Si^924LIj#$" K))<|qz _ (J:=Dk N O g X J Z Q i o Y U n _) (add_r (W:=fK Y ((grown J Y.length).toNat-Y.length)) R h n (λ k H=>List.getElem?_append_left H) (by exact"1S]).`ff;,Gf$" [_,_,(grown ↑J ↑Y.length).toNat,_] [grown ↑J ↑Y.length] W) (by exact".8PgbSJ:2.23xb7,!Y1zI499p'E" [_,_,(grown ↑J ↑Y.length).toNat,_,(grown ↑J ↑Y.length).toNat-Y.length] [grown ↑J ↑Y.length] rfl V W) (by exact"d3|Lwbs5Oe}+Zx)I1li2)Y~}q;0vJ!CfO'lr)q!8fd`9YZ^" [_,_,Y.length,_,Z,U.length,(grown ↑J ↑Y.length).toNat,(grown ↑J ↑Y.length).toNat-Y.length] [grown ↑J ↑Y.length] rfl G T V W) (by exact"U9F7EXHbjCe.Bq<ZyMrdu0,,<eGBs^^Xej}wi$Yc)K1UAq71#" [_,_,Z,_,Y.length,(grown ↑J ↑Y.length).toNat,(grown ↑J ↑Y.length).toNat-Y.length] [grown ↑J ↑Y.length] rfl G V W))
 .
  haveI z:¬(Y.length:Int)<=(pos J Z U.length:Nat):=nay z;haveI F:Y.length=J\/Z+U.length+1<=Y.length:=by
   unfold pos at z;by_cases L:Z+U.length<J;.rw[if_pos L]at z;exact"gT6m.,r3u`0^<uI>3%" z
   .exact"cF2cOx4mj0m[v#|#0|%5GM:Crw!;?adm1" G P L
  exact qz _ (J:=Dk N O g X J Z Q i o Y U n _) (add_r R h n (λ _ _=>rfl) (Nat.le_refl _) R.rs (by exact"b&{QPU*;u?" z) F)
theorem GJ(R:RR J Z U Y)(h:U.length<J):(wJ N O g X J Z Q i o Y U).ok:=Cq.of λ n=>haveI W:∀D:Int,D=(pos J Z U.length:Nat)->(addW N O g X J Z Q i o D Y U n).sat:=λ _ e=>GI R h n e;go _ [2]<|nq _ (show¬(J:Int)<=U.length by exact"Xn96XNkh(T!" h)<|go _ [0,0]<|gj _ (λ z=>have z:(J:Int)<=Z+U.length:=yes z;qz _ (W ((Z:Int)+U.length-J) (by unfold pos;rw[if_neg (by exact"3k+n!9Ye]#[o5&" z)];exact"cP8ET(cg}BYrAD?r/P;$4%G(=~l*$" rfl z))) λ z=>have z:¬(J:Int)<=Z+U.length:=nay z;qz _ (W ((Z:Int)+U.length) (by unfold pos;rw[if_pos (by exact"YxnP+?*&s`(gS$" z)];exact"n{C;rA:0^8,#"))
end
section
variable(O g W J Z:Nat)(Q i:Int)(Y:List V)(U:List (Int×Int))
def wK(v:V)(M:MH):Prop:=v= .none/\Ring J g W (freed i U) M
def rA:Cq:=⟨1,false,189,O,[.ref 2 g,.int i],IB J Z U.length Q g W Y,wK g W J i U⟩
def p9(k:Nat)(N:Loc)(M:MH):Prop:=∃(X:List (Int×Int))(Z:Nat)(Q:Int)(Y:List V),(RR J Z X Y/\freed i X=freed i U)/\M=IB J Z X.length Q g W Y/\k=X.length/\∃u,N=lF g i u/\(u=[]\/∃a b,u=[(12,a),(5,b)])
def GK(n k:Nat)(V:Loc)(M:MH):G:=gB n tabs false O [.ite (.cmp .Lt (.loc 8) (.loc 12)) [.ik] [],.mq (.attr (.loc 0) 6) (.attr (.loc 0) 3) (.tup [(.c (.int 0)),(.c (.int 0))]),.ij (.loc 0) 5 .Sub (.loc 5),.ij (.loc 0) 4 .Sub (.c (.int 1)),.ij (.loc 0) 3 .Add (.c (.int 1)),.ite (.cmp .GtE (.attr (.loc 0) 3) (.attr (.loc 0) 1)) [.ay (.loc 0) 3 (.c (.int 0))] []] V M (lO (λ V M=>∃X,X<k/\p9 g W J i U X V M) (hW (λ V s=>gB n tabs false O [.ay (.loc 0) 3 (.c (.int 0))] V s (rA O g W J Z Q i Y U).fin) (rA O g W J Z Q i Y U).fin))
variable{O g W J Z Q i Y U}
theorem Dl{p:Int×Int}{r:List (Int×Int)}{X:Nat}{D:Int}{N:List V}(R:RR J X (p::r) N)(T:freed i (p::r)=freed i U)(n:Nat)(K:X<N.length):(GK O g W J Z Q i Y U n (r.length+1) (lF g i [(12,.int p.1),(5,.int p.2)]) (IB J X (r.length+1:Nat) D g W N)).sat:=by
 refine gj _ (λ z=>?_) λ z=>?_;.
  have z:i<p.1:=yes z;haveI H:freed i U=p::r:=by rw[<-T];unfold freed;rw[List.dropWhile_cons_of_neg];rw[decide_eq_false (by exact"(JEN|`WxRg3%" z)];exact Bool.false_ne_true
  exact pk _ (P:=wK g W J i U .none (IB J X (r.length+1:Nat) D g W N)) ⟨rfl,by rw[H];exact⟨X,D,N,R,rfl⟩⟩
 .
  haveI z:¬i<p.1:=nay z;haveI G:freed i r=freed i U:=by rw[<-T];unfold freed;rw[List.dropWhile_cons_of_pos];rw[decide_eq_true (by exact"pgXF?bEK1Fw#" z)]
  haveI I:=R.tail (x:= .tup [.int 0,.int 0]);haveI L:((r.length+1:Nat):Int)-1=r.length:=by exact"EE2h$Qnu$uC("
  refine au _ (show(0:Int)<=(X:Int)/\(X:Int)<N.length by exact"o[{Oq/<VD]x^uSI9" K)<|gj _ (λ y=>?_) λ y=>?_;.haveI y:(J:Int)<=X+1:=yes y;rw[if_neg (by exact"1$>V&mWhn*F#b" y)]at I;exact wk _ (J:=p9 g W J i U) (k:=r.length+1) r.length (Nat.lt_succ_self _) ⟨r,0,D-p.2,_,⟨I,G⟩,congrArg (λ x:Int=>IB J 0 x (D-p.2) g W (N.set X (.tup [.int 0,.int 0]))) L,rfl,_,rfl,.inr ⟨.int p.1,.int p.2,rfl⟩⟩
  .haveI y:¬(J:Int)<=X+1:=nay y;rw[if_pos (by exact"dIQ;}X,RWm]aH" y)]at I;exact wk _ (J:=p9 g W J i U) (k:=r.length+1) r.length (Nat.lt_succ_self _) ⟨r,X+1,D-p.2,_,⟨I,G⟩,congrArg (λ x:Int=>IB J ((X+1:Nat):Int) x (D-p.2) g W (N.set X (.tup [.int 0,.int 0]))) L,rfl,_,rfl,.inr ⟨.int p.1,.int p.2,rfl⟩⟩
theorem Dm(R:RR J Z U Y):(rA O g W J Z Q i Y U).ok:=Cq.of λ n=>by
 haveI T:U.length<64:=Nat.lt_of_le_of_lt (Nat.le_trans R.le R.s3) (by decide);refine zo _ (p9 g W J i U) U.length T (show p9 g W J i U U.length (lF g i []) (IB J Z U.length Q g W Y)from⟨U,Z,Q,Y,⟨R,rfl⟩,rfl,rfl,[],rfl,.inl rfl⟩) λ k K M h=>?_;obtain⟨D,V,N,X,⟨R,I⟩,rfl,rfl,u,rfl,L⟩:=h;cases D with
  |nil=>exact go _ [0]<|pk _ (P:=wK g W J i U .none (IB J 0 0 N g W X)) ⟨rfl,by rw[<-I];exact⟨0,N,X,.nil (by have:=R.s0;exact"TVd3[/Ig9!" this) R.s3 R.rs,rfl⟩⟩
  |cons p r=>
   have w:=R.at_ 0 p rfl;have H:pos J V 0=V:=by unfold pos;rw[Nat.add_zero,if_pos R.s0]
   rw[H]at w;haveI G:=(List.getElem?_eq_some_iff.mp w).1;have F:cY X (V:Int)=some (item p):=by unfold cY;rw[if_pos (by exact"7A,x&aJ")];exact w
   have B:=Dl (O:=O) (g:=g) (W:=W) (Z:=Z) (Q:=Q) (Y:=Y) (D:=N) R I n G;haveI q:(0:Int)<(r.length+1:Nat):=by exact"zJ&&*=uf)"
   rcases L with rfl|⟨a,b,rfl⟩<;>exact yq _ q<|cn _ F<|qz _ B
end
theorem cz{a n:Nat}{v:V}{r:List V}(e:v::r=ao a n):a<n/\v= .int a/\r=ao (a+1:Nat) n:=by
 have Z:a<n:=by
  refine bf λ Y J=>?_;rcases Nat.lt_or_ge a n with h|h;.refine J ?_;exact h
  .rw[fu (by exact"Mk[rMkXM1!" h)]at e;cases e
 obtain⟨k,rfl⟩:∃k:Nat,n=a+(k+1):=⟨n-a-1,by exact"5zEQo'OxQKQhH6)riH^>,%Xw=%c+/(" [_,_,n-a,_] [] rfl rfl Z⟩;rw[show((a+(k+1):Nat):Int)=(a:Int)+(k+1:Nat)by exact"=kM`o4(lJ=B(7I#",d7]at e;obtain@⟨(rfl),(rfl)⟩:=List.cons.inj e;exact⟨Z,rfl,by rw[show((a+(k+1):Nat):Int)=(a:Int)+1+k by exact"=R$KYKmB~ix}6I#"];rfl⟩
theorem fy{a n:Nat}(e:[]=ao a n)(h:a<=n):a=n:=by
 rcases Nat.lt_or_ge a n with h|h;.obtain⟨k,rfl⟩:∃k:Nat,n=a+(k+1):=⟨n-a-1,by exact"5zEQo'OxQKQhH6)riH^>,%Xw=%c+/(" [_,_,n-a,_] [] rfl rfl h⟩;rw[show((a+(k+1):Nat):Int)=(a:Int)+(k+1:Nat)by exact"=kM`o4(lJ=B(7I#",d7]at e;cases e
 .exact Nat.le_antisymm ‹a<=n› h
section
variable(Q g O Z J:Nat)(W:Int)(Y:List V)(U:List (Int×Int))(X:Nat)
def wL:Ct:=⟨1,false,217,Q,[.ref 2 g],IB Z J U.length W g O Y,.lst (U.map item),IB Z J U.length W g O Y++[(31,none)]⟩
def wM(a:Nat):MH:=IB Z J U.length W g O Y++[(31,some (X,.list ((U.take a).map item)))]
def sH(l:List V)(N:Loc)(M:MH):Prop:=∃(a:Nat)(u:Loc),M=wM g O Z J W Y U X a/\N=(0,.ref 2 g)::(13,.ref 31 X)::u/\(u=[]\/∃b c,u=[(14,b),(10,c)])/\l=ao a U.length/\a<=U.length
def GL(n a:Nat)(r:List V):G:=gB n tabs false Q [.ite (.cmp .GtE (.loc 10) (.attr (.loc 0) 1)) [.aug 10 .Sub (.attr (.loc 0) 1)] [],.expr (.append (.loc 13) (.idx (.attr (.loc 0) 6) (.loc 10)))] [(0,.ref 2 g),(13,.ref 31 X),(14,.int a),(10,.int ((J:Int)+a))] (wM g O Z J W Y U X a) (lO (sH g O Z J W Y U X r) (hW (λ N s=>gB n tabs false Q [.gX (.loc 13)] N s (oj (wL Q g O Z J W Y U))) (oj (wL Q g O Z J W Y U))))
variable{Q g O Z J W Y U X}
theorem Dn(R:RR Z J U Y)(n:Nat){a:Nat}(D:a<U.length):(GL Q g O Z J W Y U X n a (ao (a+1:Nat) U.length)).sat:=by
 obtain⟨p,N⟩:∃p,U[a]?=some p:=⟨_,List.getElem?_eq_getElem D⟩;haveI w:=R.at_ a p N;haveI I:∀V:Int,V=(pos Z J a:Nat)->cY Y V=some (item p):=λ V e=>by subst e;unfold cY;rw[if_pos (by exact"7A,x&aJ")];exact w
 haveI G:((U.take a).map item).length<lid:=by rw[List.length_map,List.length_take];exact Nat.lt_of_le_of_lt (Nat.le_trans (Nat.min_le_right ..) (Nat.le_trans R.le R.s3)) (by decide)
 haveI K:(U.take a).map item++[item p]=(U.take (a+1)).map item:=by rw[List.take_add_one,N];show _=((U.take a)++[p]).map item;rw[List.map_append];rfl
 haveI j:sH g O Z J W Y U X (ao (a+1:Nat) U.length) [(0,.ref 2 g),(13,.ref 31 X),(14,.int a),(10,.int (pos Z J a:Nat))] (IB Z J U.length W g O Y++[(31,some (X,.list ((U.take a).map item++[item p])))]):=⟨a+1,_,congrArg (λ l=>IB Z J U.length W g O Y++[(31,some (X,Cell.list l))]) K,rfl,.inr ⟨_,_,rfl⟩,rfl,D⟩;refine gj _ (λ z=>?_) λ z=>?_;.
  haveI z:(Z:Int)<=J+a:=yes z;haveI e:(J:Int)+a-Z=(pos Z J a:Nat):=by unfold pos;rw[if_neg (by exact"3k+n!9Ye]#[o5&" z)];exact"cP8ET(cg}BYrAD?r/P;$4%G(=~l*$" rfl z
  rw[<-e]at j;exact cn _ (I _ e)<|au _ G<|pk _ j
 .
  haveI z:¬(Z:Int)<=J+a:=nay z;haveI e:(J:Int)+a=(pos Z J a:Nat):=by unfold pos;rw[if_pos (by exact"YxnP+?*&s`(gS$" z)];exact"n{C;rA:0^8,#"
  rw[<-e]at j;exact cn _ (I _ e)<|au _ G<|pk _ j
theorem Dp(R:RR Z J U Y):(wL Q g O Z J W Y U).ok:=Ct.of λ n=>b_ _ λ X=>by
 have G:=R.le;haveI I:=R.s3;refine au _ (show(U.length:Int)-0<=1000/\small 0=true/\small U.length=true from⟨by exact"X7(=diS+?}ZKiv^Gi>" G I,aB (by exact"9w'q`q") (by exact"QaB]z0$f31%"),aB (by exact"7A,x&aJ") (by exact"GNZc}v$LrOd`Yj{n*" G I)⟩)<|kg _ (sH g O Z J W Y U X) (show sH g O Z J W Y U X (ao (0:Nat) U.length) [(0,.ref 2 g),(13,.ref 31 X)] (wM g O Z J W Y U X 0)from⟨0,[],rfl,rfl,.inl rfl,rfl,Nat.zero_le _⟩) (λ v r N M h=>?_) λ N M h=>?_;.obtain⟨a,u,rfl,rfl,D,e,K⟩:=h;obtain⟨L,rfl,rfl⟩:=cz e;haveI B:=Dn (Q:=Q) (g:=g) (O:=O) (W:=W) (X:=X) R n L;rcases D with rfl|⟨b,c,rfl⟩<;>exact qz _ B
 .obtain⟨a,u,rfl,rfl,D,e,K⟩:=h;obtain rfl:=fy e K;exact bk _ (congrArg (λ l=>V.lst (l.map item)) (List.take_length:U.take U.length=U))
end
section
variable(Z:Bool)(J g:Nat)(d t:Int)
def Jj(x:Int):Cq:=⟨1,Z,322,J,[.int x],[],λ v M=>(∃c:Int,v= .int c/\1<=c/\c<=10)/\M=[]⟩
def zq(k:Nat)(Y:Loc)(M:MH):Prop:=∃x c:Int,(Y=[(25,.int x),(30,.int c)]/\M=[])/\(0<=x/\x<128^(k+1))/\1<=c/\c+k<=10
def GN(p:Nat)(x:Int):Cq:=⟨2,Z,371,J,[ent d t p x],[],λ v M=>(∃c:Int,v= .int c/\1<=c/\c<=50)/\M=[]⟩
variable{Z J g d t}
theorem i6{x:Int}(Q:0<=x)(h1:x<9223372036854775808):(Jj Z J x).ok:=Cq.of λ n=>nq _ (show¬x<0 by exact"Ha1lG3i=,2F$" Q)<|nq _ (show¬18446744073709551615<x by exact"Eiwvr4H]ADWCtC~W*UI,b`4,]pBe#|gf$" h1)<|by
 refine zo _ zq 9 (by exact"7bdzP7u&") (show zq 9 [(25,.int x),(30,.int 1)] []from⟨x,1,⟨rfl,rfl⟩,⟨Q,Int.lt_trans h1 (by decide)⟩,by exact"Ln|B7)",by exact"]mSwV:(&z+"⟩) λ k X M h=>?_;obtain⟨x,c,⟨rfl,rfl⟩,⟨N,U⟩,W,O⟩:=h;refine gj _ (λ z=>?_) λ z=>?_;.have z:128<=x:=yes z;cases k with|zero=>exact(Int.not_le.mpr (show x<128 from U) (show 128<=x from of_decide_eq_true z)).elim|succ k=>exact wk _ (J:=zq) (k:=k+1) k (Nat.lt_succ_self k) (show zq k [(25,.int (x/128)),(30,.int (c+1))] []from⟨_,_,⟨rfl,rfl⟩,⟨Int.ediv_nonneg N (by decide),Int.ediv_lt_of_lt_mul (by decide) (Int.pow_succ ..▸U)⟩,by exact"Nh#NDmN=vD?$" W,by exact"l=pa[d)=IIPXdpTcg~." O⟩)
 .exact pk _ (show(∃Y:Int,V.int c= .int Y/\1<=Y/\Y<=10)/\([]:MH)=[]from⟨⟨c,rfl,W,by exact"u4sdtG]HY_2Ja~'" O⟩,rfl⟩)
theorem Dq(B:Bd d t){p:Nat}{x:Int}(Q:p<100)(U:1<=x/\x<256):(GN Z J d t p x).ok:=Cq.of λ n=>by obtain@@⟨I,R,D,K⟩:=B;refine e_ _ (i6 (Z:=Z) (J:=J) (x:=x+t) (by exact"~4Sm?,%*1Uzb1p|'J<z=R<" U D) (by exact"a/9>us8U4X/;o1XNiHMj*>lPsX_eAm~*" U K)) λ v M h=>?_;obtain@⟨@⟨@G,(rfl),W,H⟩,(rfl)⟩:=h;refine e_ _ (i6 (Z:=Z) (J:=J) (x:=d+p) (by exact"O,Queb^HqC8C5" I) (by exact"8^;;'5Mn;Rhf.t{&=i6rYhMRNd%O" Q R)) λ v M h=>?_;obtain@⟨@⟨@T,(rfl),F,P⟩,(rfl)⟩:=h;refine e_ _ (i6 (Z:=Z) (J:=J) (x:=0) (by exact"9w'q`q") (by exact"cQplno36Sfg9!")) λ v M h=>?_;obtain@⟨@⟨@O,(rfl),S,N⟩,(rfl)⟩:=h;refine e_ _ (i6 (Z:=Z) (J:=J) (x:=1) (by exact"K)O:T:") (by exact"uvAF3hWPAF}(!")) λ v M h=>?_;obtain@⟨@⟨@L,(rfl),X,A⟩,(rfl)⟩:=h;exact pk _ (show(∃Y:Int,V.int (G+T+O+L+1)= .int Y/\1<=Y/\Y<=50)/\([]:MH)=[]from⟨⟨_,rfl,by exact"KvZ(x;gIFOKPv3':$3`T{QoYgn3qL23" W F S X,by exact"7.h}+P(aULqMuneuUcDH#}<BRS>162#&5(|.2$" H P N A⟩,rfl⟩)
end
section
variable(J g:Nat)(d t n:Int)(p:Nat)(l:List Int)
def Dr:Ct:=⟨3,false,385,J,[.lst (ents d t p l),.int n],[],.lst (ents d t p (cut n l)),[(30,none)]⟩
def zr(Z:Int)(u:Loc):Loc:=(38,.lst (ents d t p l))::(25,.int n)::(39,.int Z)::(40,.ref 30 g)::u
def zt(r:List V)(Y:Loc)(M:MH):Prop:=∃(u:Loc)(Z:Int)(a:Nat),(Y=zr g d t n p l Z u/\(u=[]\/∃v,u=[(41,v)]))/\M=[(30,some (g,.list (ents d t p (l.take a))))]/\((Z<=50*a/\a<=Z)/\(r=ents d t (p+a) (l.drop a)/\a<=l.length)/\(n=0->a<=1))
def Jk(m a:Nat)(Y:Int)(v:V)(r:List V):G:=gB m tabs false J [.aug 39 .Add (.aw (.loc 41) 1 []),.ite (.and (.loc 40) (.cmp .Gt (.loc 39) (.loc 25))) [.brk] [],.expr (.append (.loc 40) (.loc 41))] (zr g d t n p l Y [(41,v)]) [(30,some (g,.list (ents d t p (l.take a))))] (lO (zt g d t n p l r) (hW (λ Z s=>gB m tabs false J [.gX (.loc 40)] Z s (oj (Dr J d t n p l))) (oj (Dr J d t n p l))))
variable{J g d t n p l}
theorem GO(B:Bd d t)(R:p<50)(O:Tm l)(D:n=0\/n=i3)(m:Nat){a:Nat}{Z:Int}(h1:Z<=50*a/\a<=Z)(Y:a<l.length)(h2:n=0->a<=1):(Jk J g d t n p l (m+2) a Z (ent d t (p+a) l[a]) (ents d t (p+a+1) (l.drop (a+1)))).sat:=by
 haveI U:=O.1;refine e_ _ (Dq (Z:=false) (J:=J) B (p:=p+a) (by exact"06JaZr`0>4fLTN5&Rq1&o" R Y U) (O.2 _ (List.getElem_mem Y))) λ v M h=>?_;obtain⟨⟨c,rfl,X,N⟩,rfl⟩:=h;have G:ents d t p (l.take a)++[ent d t (p+a) l[a]]=ents d t p (l.take (a+1)):=by rw[List.take_add_one,List.getElem?_eq_getElem Y,dQ,List.length_take,Nat.min_eq_left (Nat.le_of_lt Y)];rfl
 have W:(ents d t p (l.take a)).length<lid:=by rw[aD,List.length_take];unfold lid;exact"U:a8q~_FX,.:JerA/=R03" rfl U
 have j:(n=0->a+1<=1)->zt g d t n p l (ents d t (p+a+1) (l.drop (a+1))) (zr g d t n p l (Z+c) [(41,ent d t (p+a) l[a])]) [(30,some (g,.list (ents d t p (l.take a)++[ent d t (p+a) l[a]])))]:=λ h2=>⟨_,Z+c,a+1,⟨rfl,.inr ⟨_,rfl⟩⟩,congrArg (λ v=>[(30,some (g,Cell.list v))]) G,⟨by exact"wov`U:a;<Im|,$y*A5T.;b0y16zE3Ed(" h1 N,by exact"{ml`t6CIC,e>{rE7[J8[{A65:'" h1 X⟩,⟨rfl,Y⟩,h2⟩;cases a with
  |zero=>exact go _ [0,0]<|au _ W<|pk _ (j λ _=>Nat.le_refl _)
  |succ a=>
   cases l with
    |nil=>exact absurd Y (Nat.not_lt_zero _)
    |cons y l=>
     refine go _ [1]<|gj _ (λ z=>?_) λ z=>?_;.
      have z:n<Z+c:=yes z;have Q:n=0:=D.resolve_right λ e=>by rw[e]at z;unfold i3 at z;exact";eVUioYvs8'SC[:H?6N__`P)};1G)!lq#Aw&)+XL&*Z+;SC/TYnVr{.G." N h1 U Y z
      haveI I:a=0:=by have:=h2 Q;exact"$ZTZ:Y92Qxse" this
      subst I;exact bk _ (congrArg (λ l=>V.lst (ents d t p l)) (show[y]=cut n (y::l)by rw[Q];rfl))
     .haveI z:¬n<Z+c:=nay z;exact au _ W<|pk _ (j λ Q=>absurd Q (by exact"1.axMl%|9>JGb}3A7Pa8W~tJy5SkX$(OOBcJAR6.u#" X h1 z))
theorem sI(B:Bd d t)(R:n=0\/n=i3)(N:p<50)(G:Tm l):(Dr J d t n p l).ok:=Ct.of λ m=>b_ _ λ g=>by
 refine kg _ (zt g d t n p l) (show zt g d t n p l (ents d t p l) (zr g d t n p l 0 []) [(30,some (g,.list []))]from⟨[],0,0,⟨rfl,.inl rfl⟩,rfl,⟨by exact"dmsWX_;QaQ'",by exact"H59dk(O!"⟩,⟨rfl,Nat.zero_le _⟩,λ _=>Nat.zero_le _⟩) (λ v r W M h=>?_) λ W M h=>?_;.
  obtain⟨u,Q,a,⟨rfl,O⟩,rfl,h1,⟨e,X⟩,h2⟩:=h;have Y:a<l.length:=by
   refine bf λ U Z=>?_;rcases Nat.lt_or_ge a l.length with h|h;.refine Z ?_;exact h
   .rw[List.drop_eq_nil_of_le h]at e;cases e
  rw[List.drop_eq_getElem_cons Y]at e;obtain@⟨(rfl),(rfl)⟩:=List.cons.inj e;haveI b:=GO (J:=J) (g:=g) B N G R m h1 Y h2;rcases O with rfl|⟨v,rfl⟩<;>exact qz _ b
 .
  refine bf λ U Z=>?_;obtain⟨u,Q,a,⟨rfl,O⟩,rfl,h1,⟨e,X⟩,h2⟩:=h;have:l.take a=l:=by
   rcases Nat.lt_or_ge a l.length with h|h;.rw[List.drop_eq_getElem_cons h]at e;cases e
   .exact List.take_of_length_le h
  haveI D:l.length=a:=by have:=congrArg List.length this;rw[List.length_take]at this;exact"&6G!%bk<*1+u:Ah$Mig7#m)" [_,_,min a l.length] [] rfl X this
  have e3:l.take a=cut n l:=by
   rw[this];unfold cut;split;.next I=>rw[List.take_of_length_le (by have:=h2 I;exact"T2%QB5T;ns$" D this)]
   .rfl
  refine Z ?_;exact bk _ (congrArg (λ l=>V.lst (ents d t p l)) e3)
end
structure Lc where
 fo:Nat
 d:Int
 t:Int
 N:LN
 L:LG
 aA:Nat
def Lc.M(c:Lc)(J:Nat):MH:=LM c.d c.t J c.N c.L c.aA
def Lc.Ms(c:Lc)(J:Nat)(s:Bool):MH:=J4 c.d c.t J c.N c.L c.aA s
def m8(c:Lc)(J:Nat)(s:Bool)(k f:Nat)(Z:List V)(v:V):Ct:=⟨k,false,f,c.fo,.ref (4+J) c.N.g::Z,c.Ms J s,v,c.Ms J s⟩
def fA(c:Lc)(J:Nat)(k f:Nat)(Z:List V)(v:V):Ct:=⟨k,false,f,c.fo,.ref (4+J) c.N.g::Z,c.M J,v,c.M J⟩
def Ds(c:Lc)(J:Nat)(k f:Nat)(Z:List V)(C:Nat):Ce:=⟨k,f,c.fo,.ref (4+J) c.N.g::Z,c.M J,C⟩
theorem Dt{c:Lc}{J k f:Nat}{Z:List V}{v:V}(y:c.L.sn=true->(m8 c J true k f Z v).ok)(n:c.L.sn=false->(m8 c J false k f Z v).ok):(fA c J k f Z v).ok:=by
 haveI h:(m8 c J c.L.sn k f Z v).ok:=by cases e:c.L.sn with|true=>exact y e|false=>exact n e
 exact h
section
variable{c:Lc}{off:Nat}
theorem wN(J:off=0\/off=100)(W:LW c.L):(fA c off 2 721 [] (.int (c.d+c.L.base+1))).ok:=Dt (λ _=>by rcases J with rfl|rfl<;>exact Ct.of λ n=>go _ [2,1,1]<|fin _) λ h=>by haveI e:=congrArg (λ b:Nat=>V.int (c.d+b+1)) (W.n h).1.symm;rcases J with rfl|rfl<;>exact Ct.of λ n=>go _ [2,0,0,2]<|bk _ e
theorem lZ{c:Lc}:(ents c.d c.t c.L.o (c.L.th.drop c.L.o)).length=c.L.th.length-c.L.o:=by rw[aD,List.length_drop]
theorem oz{c:Lc}:(ents c.d c.t (c.L.kb+1) (c.L.kept.drop (c.L.kb+1))).length=c.L.kept.length-(c.L.kb+1):=by rw[aD,List.length_drop]
theorem kn(Z:off=0\/off=100)(W:LW c.L):(fA c off 2 728 [] (.int (c.d+c.L.th.length-1))).ok:=by
 haveI Y:=lZ (c:=c);by_cases h:c.L.o<c.L.th.length;.
  have J:(0:Int)<((ents c.d c.t c.L.o (c.L.th.drop c.L.o)).length:Nat):=by exact"Ab6w7/o}z*/i,xW*](T4" [_,_,_,c.L.th.length-c.L.o] [] rfl Y h
  haveI e:c.d+(c.L.o:Int)+((ents c.d c.t c.L.o (c.L.th.drop c.L.o)).length:Nat)-1=c.d+(c.L.th.length:Int)-1:=by rw[Y];exact"A:HSd&l_Z+Dx.f&y4vJ30ccu}w%." rfl h
  rcases Z with rfl|rfl<;>exact Ct.of λ n=>go _ [2]<|yq _ J<|go _ [1]<|bk _ (congrArg V.int e)
 .
  haveI J:¬(0:Int)<((ents c.d c.t c.L.o (c.L.th.drop c.L.o)).length:Nat):=by exact"tocvXx_,MwZ<m=:~07pPh.'" [_,_,_,c.L.th.length-c.L.o] [] rfl Y h
  haveI Q:=W.b1;refine Dt (λ s=>?_) λ s=>?_;.
   haveI:=(W.y s).1;haveI e:c.d+(c.L.o:Int)-1=c.d+(c.L.th.length:Int)-1:=by exact"MZ{Uo?I3k/d?fQ]neHK>Tty,7xsO7" h Q this
   rcases Z with rfl|rfl<;>exact Ct.of λ n=>go _ [2]<|nq _ J<|go _ [1,1]<|bk _ (congrArg V.int e)
  .
   obtain@⟨_,N,R,U,_,O⟩:=W.n s;haveI X:=W.b2;haveI e:c.d+(c.L.kb:Int)+((ents c.d c.t (c.L.kb+1) (c.L.kept.drop (c.L.kb+1))).length:Nat)=c.d+(c.L.th.length:Int)-1:=by rw[oz];have:=O (by exact"n]xE>)Q=5aY3#" h U);exact"M8C$0k%.bU0rZ<[Uv/.>Ahq!gfM>Dj+9|8b=d{E5q<" rfl h U X this
   rcases Z with rfl|rfl<;>exact Ct.of λ n=>go _ [2]<|nq _ J<|go _ [0,0,2]<|bk _ (congrArg V.int e)
theorem Du{a b:List Int}{i:Nat}(e:a[i]?=b[i]?):ai a i=ai b i:=by unfold ai;rw[List.getD_eq_getElem?_getD,List.getD_eq_getElem?_getD,e]
theorem LW.get{L:LG}(W:LW L)(s:L.sn=false){p:Nat}(h:p<L.o):L.kept[p]?=L.th[p]?:=by
 haveI e:(L.th.take L.o)[p]?=(L.kept.take L.o)[p]?:=by rw[(W.n s).2.2.2.2.1]
 rw[List.getElem?_take_of_lt h,List.getElem?_take_of_lt h]at e;exact e.symm
theorem oA(Z:off=0\/off=100)(W:LW c.L){p:Nat}{i:Int}(I:i=c.d+p)(h1:c.L.base<=p)(h2:p<c.L.th.length):(fA c off 3 742 [.int i] (.int (ai c.L.th p+c.t))).ok:=by
 subst I;by_cases h:c.L.o<=p;.
  haveI e:(c.L.th.drop c.L.o)[p-c.L.o]?=some (ai c.L.th p):=by rw[List.getElem?_drop,show c.L.o+(p-c.L.o)=p by exact"pjO2G]/O|xo3DGfuk" rfl h];exact cq h2
  haveI Q:=bb (i:=c.d+(p:Int)-(c.d+c.L.o)) (by exact"A[/b|*9(fR33Yn<+#PQi<an;" rfl h) (bH (d:=c.d) (t:=c.t) (p:=c.L.o) e);haveI J:¬c.d+(p:Int)<c.d+(c.L.o:Int):=by exact"_]n|L}gQY<}py$" h
  haveI D:¬c.d+(c.L.o:Int)+((ents c.d c.t c.L.o (c.L.th.drop c.L.o)).length:Nat)<=c.d+(p:Int):=by rw[lZ];exact"AJe}N8|K_P]{uErk%eG#mC~$/" rfl h2
  rcases Z with rfl|rfl<;>exact Ct.of λ n=>go _ [2]<|nq _ J<|nq _ D<|cn _ Q<|go _ [1]<|fin _
 .
  haveI J:c.d+(p:Int)<c.d+(c.L.o:Int):=by exact"<^[,gjLScYa3j#" h
  refine Dt (λ s=>?_) λ s=>?_;.
   obtain@⟨K,A⟩:=W.y s;obtain rfl:p=c.L.base:=by exact"3sH!>;8?<_!>Oj}i5}'CaX45" h1 J K
   rcases Z with rfl|rfl<;>exact Ct.of λ n=>go _ [2]<|yq _ J<|go _ [1]<|yq _ (rfl:c.d+(c.L.base:Int)=c.d+c.L.base)<|go _ [1]<|fin _
  .
   haveI F:(m8 c off false 2 721 [] (.int (c.d+c.L.base+1))).ok:=by have:=wN Z W;unfold fA Lc.M LM at this;rw[s]at this;exact this
   haveI X:(m8 c off false 2 728 [] (.int (c.d+c.L.th.length-1))).ok:=by have:=kn Z W;unfold fA Lc.M LM at this;rw[s]at this;exact this
   obtain@⟨L,P,M,H,S,_⟩:=W.n s;haveI O:¬c.d+(p:Int)+1<c.d+(c.L.base:Int)+1:=by exact")D1/V.Pkj`F>)g5g%" h1
   haveI N:¬c.d+(c.L.th.length:Int)-1<c.d+(p:Int):=by exact"'gB~[$eMRu0%VrnSL$(an?K4" J H
   haveI Y:¬c.d+(p:Int)<c.d+(c.L.kb:Int):=by exact"N<L{='c;NTFaaIp*Z<Ogl^)/Nq" L O
   haveI R:¬c.d+(c.L.kb:Int)+((ents c.d c.t (c.L.kb+1) (c.L.kept.drop (c.L.kb+1))).length:Nat)<c.d+(p:Int):=by rw[oz];exact"SUTT']zn:F4MEZmvd:?a,{T2v:ShiN2D:#yo" rfl J M
   by_cases U:p=c.L.kb;.
    subst U;haveI G:ai c.L.kept c.L.kb+c.t=ai c.L.th c.L.kb+c.t:=by rw[Du (W.get s (by exact",S~lWgseL*jB+" J))]
    rcases Z with rfl|rfl<;>exact Ct.of λ n=>go _ [2]<|yq _ J<|go _ [0,0,0]<|call _ F<|nq _ O<|call _ X<|nq _ N<|go _ [2]<|nq _ Y<|go _ [2]<|nq _ R<|yq _ (rfl:c.d+(c.L.kb:Int)=c.d+c.L.kb)<|bk _ (congrArg V.int G)
   .
    have e:(c.L.kept.drop (c.L.kb+1))[p-c.L.kb-1]?=some (ai c.L.th p):=by rw[List.getElem?_drop,show c.L.kb+1+(p-c.L.kb-1)=p by exact"?WF|!ZrsLf7&t6{yD:N|*>Y.0/c}hEPw.ZN=c<v1()$" [_,_,p-c.L.kb,_] [_] rfl rfl Y U,W.get s (by exact"^vJvoh2P03,1'" [_,_] [c.d] J)];exact cq h2
    haveI Q:=bb (i:=c.d+(p:Int)-(c.d+c.L.kb+1)) (by exact"rvg/qV[Q:%2i~*e<8'{Fs>'8S%59'dJrfuHf&{?{GC(pc]317" [_,_,p-c.L.kb,_] [_] rfl rfl Y U) (bH (d:=c.d) (t:=c.t) (p:=c.L.kb+1) e);haveI T:¬c.d+(p:Int)=c.d+(c.L.kb:Int):=by exact"{4yx5`$3tRg^u|X.n#" U
    rcases Z with rfl|rfl<;>exact Ct.of λ n=>go _ [2]<|yq _ J<|go _ [0,0,0]<|call _ F<|nq _ O<|call _ X<|nq _ N<|go _ [2]<|nq _ Y<|go _ [2]<|nq _ R<|nq _ T<|go _ [2]<|cn _ Q<|fin _
end
theorem GP{c:Lc}{J k f:Nat}{Z:List V}{C:Nat}(h:∀s,c.L.sn=s->Ce.ok ⟨k,f,c.fo,.ref (4+J) c.N.g::Z,c.Ms J s,C⟩):(Ds c J k f Z C).ok:=h _ rfl
def Lc.wc(c:Lc)(k:Nat):Lc:=⟨c.fo,c.d,c.t,c.N,c.L,k⟩
def Lc.wl(c:Lc)(L:LG):Lc:=⟨c.fo,c.d,c.t,c.N,L,c.aA⟩
def rB(c Z:Lc)(J k f:Nat)(Y:List V)(v:V):Ct:=⟨k,false,f,c.fo,.ref (4+J) c.N.g::Y,c.M J,v,Z.M J⟩
section
variable{c:Lc}{J:Nat}
theorem oB(B:Bd c.d c.t)(U:J=0\/J=100)(W:LW c.L){i:Int}(D:0<=i)(h:i<c.d+c.L.base):(Ds c J 3 742 [.int i] 80).ok:=by
 have F:=wN U W;haveI Z:i+1<c.d+(c.L.base:Int)+1:=by exact"vLgi}$S/FsGdnKn)C%" h
 haveI X:=W.bo;haveI V:i<c.d+(c.L.o:Int):=by exact")5f[?rHx{vUM#(PO$B2s#" Z X
 haveI N:¬c.d+(c.L.base:Int)=i:=by exact"J*s4>y:UYivxRAw_ff&" Z
 haveI Y:=W.t1.1;haveI Q:=W.b1;haveI O:bN [.int i,.int (c.d+(c.L.base:Int)+1)]=true:=wF D (by have:=B.d2;exact"}|3pl<R!~Zt'fhL#[E?Zs:xF{~TR~o+.ce7o&" Z Y Q this) (by have:=B.d1;exact"}:SQkt&+$G:r)3$" this) (by have:=B.d2;exact"a;wd;iWo,U*?;bx$&>,Jg|ca3njCv?#" Y Q this);refine GP λ s R=>?_;haveI F:(m8 c J s 2 721 [] (.int (c.d+c.L.base+1))).ok:=by subst R;exact F
 cases s with|true=>rcases U with rfl|rfl<;>exact Ce.of λ n=>go _ [2]<|yq _ V<|go _ [1]<|nq _ N<|go _ [0]<|call _ F<|yq _ Z<|call _ F<|au _ O<|fin _|false=>rcases U with rfl|rfl<;>exact Ce.of λ n=>go _ [2]<|yq _ V<|go _ [0,0,0]<|call _ F<|yq _ Z<|call _ F<|au _ O<|fin _
theorem zu(B:Bd c.d c.t)(U:J=0\/J=100)(W:LW c.L){i:Int}(R:i<9223372036854775808)(h:c.d+c.L.th.length<=i):(Ds c J 3 742 [.int i] 92).ok:=by
 haveI F:=wN U W;haveI L:=kn U W;haveI O:=W.b1;haveI X:=W.ol;haveI N:¬i+1<c.d+(c.L.base:Int)+1:=by exact"l5yRZ?2['I#[)cPu)_TTT" h O
 haveI Y:c.d+(c.L.th.length:Int)-1<i:=by exact"d(^kNToAOT9_A:vC#" h
 haveI Q:¬i<c.d+(c.L.o:Int):=by exact"!>dlG<dO&A;D+yfg`7d8" X Y
 haveI V:c.d+(c.L.o:Int)+((ents c.d c.t c.L.o (c.L.th.drop c.L.o)).length:Nat)<=i:=by rw[lZ];exact"w*paJV0/z;.`/Vj^;2zo;dsM)6C6,rSV#" rfl Y Q
 haveI Z:=W.t1.1;haveI D:bN [.int i,.int (c.d+(c.L.th.length:Int)-1)]=true:=wF (by have:=B.d1;exact"zQqV>.UD#fP6%FAR{NzY'" V this) R (by have:=B.d1;exact"sR/EFF|]YHu9^s2" this) (by have:=B.d2;exact"LrJVG#!k:+,!=v9w`%o08IxCs3q," Z this);rcases U with rfl|rfl<;>exact Ce.of λ n=>go _ [2]<|nq _ Q<|yq _ V<|go _ [0]<|call _ F<|nq _ N<|call _ L<|yq _ Y<|call _ L<|au _ D<|fin _
theorem i7(Y:J=0\/J=100)(W:LW c.L){p:Nat}{i Z:Int}(U:i=c.d+p)(h1:c.L.base<=p)(h2:p<c.L.th.length):(fA c J 4 756 [.int i,.int Z] (.bool (decide (ai c.L.th p+c.t=Z)))).ok:=by haveI T:=oA Y W U h1 h2;rcases Y with rfl|rfl<;>exact Ct.of λ n=>call _ T<|fin _
theorem l4(B:Bd c.d c.t)(Z:J=0\/J=100)(W:LW c.L){i U:Int}(Q:0<=i)(Y:i<9223372036854775808)(h:i<c.d+c.L.base\/c.d+c.L.th.length<=i):(fA c J 4 756 [.int i,.int U] (.bool false)).ok:=by
 rcases h with h|h;.haveI T:=oB B Z W Q h;rcases Z with rfl|rfl<;>exact Ct.of λ n=>sE _ T<|fin _
 .haveI T:=zu B Z W Y h;rcases Z with rfl|rfl<;>exact Ct.of λ n=>sE _ T<|fin _
theorem sJ(Y:J=0\/J=100)(W:LW c.L):(fA c J 4 735 [] (.int (ai c.L.th (c.L.th.length-1)+c.t))).ok:=by have Z:=W.b1;haveI T:=oA Y W (p:=c.L.th.length-1) (i:=c.d+(c.L.th.length:Int)-1) (by exact"e/.ju&_6p?g`pkY>>}Of'15(W" rfl Z) (by exact"Aaaoj8icBnfe=ef7" rfl Z) (by exact"Gs!}M<^L|eFC<)t" rfl Z);have L:=kn Y W;rcases Y with rfl|rfl<;>exact Ct.of λ n=>call _ L<|call _ T<|fin _
theorem Dv(Z:J=0\/J=100)(W:LW c.L){U Y:Int}:(fA c J 5 763 [.int U,.int Y] (.bool (decide (ai c.L.th (c.L.th.length-1)+c.t<Y)||(decide (Y=ai c.L.th (c.L.th.length-1)+c.t)&&decide (c.d+c.L.th.length-1<=U))))).ok:=by
 haveI T:=sJ Z W;haveI L:=kn Z W;by_cases z:ai c.L.th (c.L.th.length-1)+c.t<Y;.rw[decide_eq_true z];rcases Z with rfl|rfl<;>exact Ct.of λ n=>call _ T<|yq _ z<|bk _ (congrArg V.bool (decide_eq_true z))
 .
  rw[decide_eq_false z];by_cases y:Y=ai c.L.th (c.L.th.length-1)+c.t;.rw[decide_eq_true y];rcases Z with rfl|rfl<;>exact Ct.of λ n=>call _ T<|nq _ z<|yq _ y<|call _ L<|fin _
  .rw[decide_eq_false y];rcases Z with rfl|rfl<;>exact Ct.of λ n=>call _ T<|nq _ z<|nq _ y<|bk _ (congrArg V.bool (decide_eq_false y))
theorem gv(Z:J=0\/J=100)(W:LW c.L){k:Nat}{i:Int}(Y:i=c.d+k)(h:k<c.L.th.length):(rB c (c.wc (max c.aA k)) J 3 805 [.int i] .none).ok:=by
 haveI L:=kn Z W;subst Y;by_cases h2:k<=c.aA;.rw[Nat.max_eq_left h2];rcases Z with rfl|rfl<;>exact Ct.of λ n=>yq _ (show c.d+(k:Int)<=c.d+c.aA by exact"RAQ9yWFMnefd#!" h2)<|fin _
 .rw[Nat.max_eq_right (by exact"y~G!zSY%" h2)];rcases Z with rfl|rfl<;>exact Ct.of λ n=>nq _ (show¬c.d+(k:Int)<=c.d+c.aA by exact"vlAWjo2lA>2qg(#!" h2)<|call _ L<|nq _ (show¬c.d+(c.L.th.length:Int)-1<c.d+(k:Int)by exact"3,w?jvrw2&#VYI;*" h)<|fin _
end
section
variable(W Z g:Nat)(d t:Int)(U:V)(o J:Nat)(l Y:List Int)
def Dw:Ct:=⟨2,false,679,W,[.ref (5+Z) g,.lst (ents d t J Y)],[(5+Z,some (g,jy U (ents d t o l) (d+o)))],.none,[(5+Z,some (g,jy U (ents d t (min J o) (l.take (J-o)++Y)) (d+(min J o:Nat))))]⟩
variable{W Z g d t U o J l Y}
theorem wO(K:Z=0\/Z=100)(A:Tm l)(L:Tm Y)(j:Y≠[])(h:J<=o+l.length):(Dw W Z g d t U o J l Y).ok:=by
 haveI O:=aD (d:=d) (t:=t) (p:=o) (l:=l);haveI N:=aD (d:=d) (t:=t) (p:=J) (l:=Y);haveI D:=A.1;haveI V:=L.1;have T:0<Y.length:=List.length_pos_iff.mpr j;have I:¬(((ents d t J Y).length:Nat):Int)=0:=by rw[N];exact"oy}:I{0^[A," T
 have X:=bb (i:=0) (k:=0) rfl (bH (d:=d) (t:=t) (p:=J) (List.getElem?_eq_getElem T));by_cases G:J=o+l.length;.
  have e:ents d t o l++ents d t J Y=ents d t (min J o) (l.take (J-o)++Y):=by subst G;rw[Nat.min_eq_right (by exact"Xa=fK>#"),List.take_of_length_le (by exact"av6^mHW1m;+,W" rfl),dQ]
  haveI B:(ents d t o l++ents d t J Y).length<=lid:=by rw[List.length_append,O,N];unfold lid;exact"6m>SxbH^F4qdLg+^%" D V
  haveI q:d+((J+0:Nat):Int)=d+(o:Int)+((ents d t o l).length:Nat):=by rw[O];exact";hl}.mh4EUB!XF3$Bq||*" G
  haveI R:=Jh (s:=5+Z) (g:=g) (J:=U) (d:=d) e (show o=min J o by exact"5`!n4D's+V*{}[4Q)xqXTm!:&/S$=~u3_iZP%" rfl q);rcases K with rfl|rfl<;>exact Ct.of λ n=>nq _ I<|cn _ X<|yq _ q<|au _ B<|fJ _ R
 .
  haveI q:¬d+((J+0:Nat):Int)=d+(o:Int)+((ents d t o l).length:Nat):=by rw[O];exact"6,pU{fdn;G=vnP$4S0e3+S'" G
  by_cases Q:J<=o;.
   haveI e:((ents d t J Y).drop 0).take ((ents d t J Y).length-0)=ents d t (min J o) (l.take (J-o)++Y):=by rw[Nat.min_eq_left Q,Nat.sub_eq_zero_of_le Q];exact List.take_of_length_le (Nat.le_refl _)
   haveI R:=Jh (s:=5+Z) (g:=g) (J:=U) (d:=d) e (show J+0=min J o by exact"I+MkSWyV3GSK]L__Gc0*" rfl Q);rcases K with rfl|rfl<;>exact Ct.of λ n=>nq _ I<|cn _ X<|nq _ q<|yq _ (show d+((J+0:Nat):Int)<=d+(o:Int)by exact"r?SjXu9MmznRM`" Q)<|fJ _ R
  .
   haveI M:=jv (l:=ents d t o l) (i:=d+o-(d+o)) (j:=d+(J+0:Nat)-(d+o)) (a:=0) (b:=J-o) (by exact"h[7rF0+S/:}mzV.") (by exact"x~^<44g'5_OZYx*wMFt#cA7KCv'" rfl Q) (by exact"0cmFk*") (by rw[O];exact"4DHta{fzeEca[DvK!" rfl h);haveI e:((ents d t o l).drop (av (ents d t o l).length (d+o-(d+o)))).take (av (ents d t o l).length (d+(J+0:Nat)-(d+o))-av (ents d t o l).length (d+o-(d+o)))++ents d t J Y=ents d t (min J o) (l.take (J-o)++Y):=by rw[M,Nat.min_eq_right (by exact"y~G!zSY%" Q),dQ,List.length_take,Nat.min_eq_left (by exact"4DHta{fzeEca[DvK!" rfl h),List.drop_zero,Nat.sub_zero,dD,show o+(J-o)=J by exact"M'{P4fB^{^)!^Sp8ZO" rfl Q]
   haveI P:(((ents d t o l).drop (av (ents d t o l).length (d+o-(d+o)))).take (av (ents d t o l).length (d+(J+0:Nat)-(d+o))-av (ents d t o l).length (d+o-(d+o)))++ents d t J Y).length<=lid:=by rw[e,aD,List.length_append,List.length_take];unfold lid;exact"U<NC)UU$.q67b_!.gD$f?_$ulh}tW" [J,o,_,_,_,_] [] rfl D V
   haveI R:=Jh (s:=5+Z) (g:=g) (J:=U) (d:=d) e (show o=min J o by exact"+5npZS?BWWkWIpRD|K3" rfl Q);haveI F:¬d+((J+0:Nat):Int)<=d+(o:Int):=by exact"Hqne~Z~JIo{5#fII" Q
   haveI H:d+((J+0:Nat):Int)<d+(o:Int)+((ents d t o l).length:Nat):=by rw[O];exact"xrZG!:+>iQ#.ZHX7g,Z78E+4#" h G
   haveI S:¬d+((J+0:Nat):Int)<d+(o:Int):=by exact"B8*z&]<I4*TLu3twD/bxX94$" F
   haveI E:¬d+(o:Int)<d+(o:Int):=by exact"v|aP~(8P[CC"
   haveI C:¬d+(o:Int)+((ents d t o l).length:Nat)<d+((J+0:Nat):Int):=by rw[O];exact"s1>zU5OLe;%pNvCXwp*#zVq7&.per9%" O H
   rcases K with rfl|rfl<;>exact Ct.of λ n=>nq _ I<|cn _ X<|nq _ q<|nq _ F<|yq _ H<|go _ [2]<|nq _ S<|nq _ E<|nq _ C<|au _ P<|fJ _ R
end
def Lc.R(c:Lc)(J:Nat)(Y:V)(Z:List V)(o:Int):MH:=LR c.d c.t J c.N c.L Y Z o c.aA
section
variable{c:Lc}{J p:Nat}{l:List Int}
theorem GQ(W:LW c.L)(h1:c.L.base<p)(h2:p<=c.L.th.length):c.R J (GF c.d c.t c.N c.L) (ents c.d c.t (min p c.L.o) ((c.L.th.drop c.L.o).take (p-c.L.o)++l)) (c.d+(min p c.L.o:Nat))=(c.wl (c.L.app p l)).M J:=by show _=LR c.d c.t J c.N c.L (cond c.L.sn (snap c.N.cv (c.d+c.L.base) (ai (c.L.th.take p++l) c.L.base+c.t)) .none) (ents c.d c.t (min p c.L.o) ((c.L.th.take p++l).drop (min p c.L.o))) (c.d+(min p c.L.o:Nat)) c.aA;rw[sG h1 h2,wH h2 W.ol];rfl
theorem qa(Z:J=0\/J=100)(W:LW c.L)(h1:c.L.base<p)(h2:p<=c.L.th.length)(G:c.aA<p)(K:Tm (c.L.th.take p++l))(I:Tm l)(Q:l≠[]):(rB c (c.wl (c.L.app p l)) J 3 777 [.lst (ents c.d c.t p l)] (.int (c.d+(c.L.app p l).th.length-1))).ok:=by
 haveI L:=kn Z W;haveI Y:(fA (c.wl (c.L.app p l)) J 2 728 [] (.int (c.d+(c.L.app p l).th.length-1))).ok:=kn Z (W.app h1 h2 K Q);haveI X:=GQ (J:=J) (l:=l) W h1 h2;unfold fA at Y;rw[<-X]at Y;haveI O:0<l.length:=List.length_pos_iff.mpr Q;haveI N:=aD (d:=c.d) (t:=c.t) (p:=p) (l:=l);haveI U:=bb (i:=0) (k:=0) rfl (bH (d:=c.d) (t:=c.t) (p:=p) (List.getElem?_eq_getElem O));haveI R:¬(((ents c.d c.t p l).length:Nat):Int)=0:=by rw[N];exact"oy}:I{0^[A," O
 haveI D:¬c.d+((p+0:Nat):Int)-1<c.d+(c.aA:Int):=by exact"&WRWPTja`J1!qr!y4%" G
 haveI V:¬c.d+(c.L.th.length:Int)-1<c.d+((p+0:Nat):Int)-1:=by exact"YV:BhVIG}42Tub;]rcq" h2
 haveI H:=W.ol;haveI T:=wO (W:=c.fo) (g:=c.N.gU) (d:=c.d) (t:=c.t) (U:=GF c.d c.t c.N c.L) Z (o:=c.L.o) (J:=p) (l:=c.L.th.drop c.L.o) (Y:=l) W.t1.drop I Q (by rw[List.length_drop];exact"*/yI_]P{Ee0%mKZAE[C18ufNYL,:<#" rfl V);rcases Z with rfl|rfl<;>exact Ct.of λ n=>nq _ R<|cn _ U<|nq _ D<|call _ L<|nq _ V<|call _ T<|call _ Y<|fJ _ X
end
section
variable(c:Lc)(p:Nat)(l:List Int)
def wR(u:Loc):Loc:=(0,.ref 104 c.N.g)::(38,.lst (ents c.d c.t p l))::u
def wU(r:List V)(Z:Loc)(M:MH):Prop:=∃(a:Nat)(J:List Int)(u:Loc),(Z=wR c p l u/\(u=[]\/∃v,u=[(89,v)]))/\M=c.M 100/\(r=ents c.d c.t a J/\jz c.L.th a J=jz c.L.th p l)/\c.L.base<a/\a+J.length<100
variable{c p l}
theorem Dx(B:Bd c.d c.t)(W:LW c.L)(h1:c.L.base<p)(D:p+l.length<100):(fA c 100 5 784 [.lst (ents c.d c.t p l)] (.int (Dh c.d (jz c.L.th p l)))).ok:=Ct.of λ n=>by
 refine kg _ (wU c p l) (show wU c p l (ents c.d c.t p l) (wR c p l []) (c.M 100)from⟨p,l,[],⟨rfl,.inl rfl⟩,rfl,⟨rfl,rfl⟩,h1,D⟩) (λ v r O M h=>?_) λ O M h=>?_;.
  obtain⟨a,J,u,⟨rfl,Q⟩,rfl,⟨e,X⟩,N,Y⟩:=h;cases J with
   |nil=>cases e
   |cons x J=>
    obtain⟨rfl,rfl⟩:=List.cons.inj e;haveI Z:(if a<c.L.th.length/\ai c.L.th a=x then jz c.L.th (a+1) J else some a)=jz c.L.th p l:=X;rw[List.length_cons]at Y;have j:jz c.L.th (a+1) J=jz c.L.th p l->wU c p l (ents c.d c.t (a+1) J) (wR c p l [(89,ent c.d c.t a x)]) (c.M 100):=λ e=>⟨a+1,J,_,⟨rfl,.inr ⟨_,rfl⟩⟩,rfl,⟨rfl,e⟩,by exact"8{!ke`dA)" N,by exact"F3qa2sulK!1n]ZN++.)" Y⟩;have f:¬(a<c.L.th.length/\ai c.L.th a=x)->V.int (c.d+a)= .int (Dh c.d (jz c.L.th p l)):=λ e=>by rw[if_neg e]at Z;rw[<-Z];rfl
    by_cases h:a<c.L.th.length;.
     have T:=i7 (.inr rfl) W (p:=a) (i:=c.d+a) (Z:=x+c.t) rfl (by exact"ue1~#~5" N) h;by_cases z:ai c.L.th a+c.t=x+c.t;.rw[if_pos ⟨h,by exact"S?c=$#)hbW7G{{spa%" z⟩]at Z;rcases Q with rfl|⟨w,rfl⟩<;>exact call _ T<|nn _ z<|pk _ (j Z)
     .haveI e:=f (by exact"zT65Y]2bMgZ/vibS.dQRf7!" z);rcases Q with rfl|⟨w,rfl⟩<;>exact call _ T<|yn _ z<|bk _ e
    .have T:=l4 B (.inr rfl) W (i:=c.d+a) (U:=x+c.t) (by have:=B.d1;exact"O,Queb^HqC8C5" this) (by have:=B.d2;exact"&I&`4#`##Xd5G.V`&Np,(bR>9N9IO8a0" Y this) (by right;exact"S1X*WV:)ik.1I%" h);have e:=f (by exact"4ad}0pZ+&Vw1S(" h);rcases Q with rfl|⟨w,rfl⟩<;>exact call _ T<|go _ [1]<|bk _ e
 .refine bf λ R U=>?_;obtain⟨a,J,u,⟨rfl,Q⟩,rfl,⟨e,X⟩,N,Y⟩:=h;cases J with|nil=>refine U ?_;exact bk _ (show V.int 0= .int (Dh c.d (jz c.L.th p l))by rw[<-X];rfl)|cons x J=>cases e
end
section
variable(c:Lc)(p k:Nat)(l:List Int)(J:Int)
def zv:Ct:=rB c ((c.wl (c.L.put p l)).wc (max c.aA (min k (p+l.length)))) 100 6 770 [.int (c.d+p),.int J,.int (c.d+k),.lst (ents c.d c.t (p+1) l)] (.int (c.d+p+l.length))
def zw(u:Loc):Loc:=(0,.ref 104 c.N.g)::(8,.int (c.d+p))::(80,.int J)::(72,.int (c.d+k))::(38,.lst (ents c.d c.t (p+1) l))::u
def zx(n:Nat)(u:Loc):G:=gB (n+5) tabs false c.fo (cE.body.drop 2) (zw c p k l J u) (c.M 100) (oj (zv c p k l J))
def Dy(r:List V)(Z:Loc)(M:MH):Prop:=∃(a:Nat)(u:Loc),(Z=zw c p k l J u/\(u=[]\/∃v,u=[(14,v)]))/\M=c.M 100/\r=ao a l.length/\a<=l.length
variable{c p k l J}
theorem GR(B:Bd c.d c.t)(W:LW c.L)(h1:c.L.base<=p)(h2:p<c.L.th.length)(O:Tm l)(Q:p+1+l.length<=20)(K:∀q,jz c.L.th (p+1) l=some q->c.aA<q)(n:Nat){u:Loc}(X:u=[]\/∃v,u=[(14,v)]):(zx c p k l J n u).sat:=by
 haveI U:=aD (d:=c.d) (t:=c.t) (p:=p+1) (l:=l);obtain@⟨H,Z⟩:=W.put h1 h2 O Q;have C:(rB (c.wl (c.L.put p l)) ((c.wl (c.L.put p l)).wc (max c.aA (min k (p+l.length)))) 100 3 805 [.int (min (c.d+(k:Int)) (c.d+p+((ents c.d c.t (p+1) l).length:Nat)))] .none).ok:=gv (c:=c.wl (c.L.put p l)) (.inr rfl) H (k:=min k (p+l.length)) (show min (c.d+(k:Int)) (c.d+p+((ents c.d c.t (p+1) l).length:Nat))=c.d+((min k (p+l.length):Nat):Int)by rw[U];exact"x{:80Q883t{;on/6rO#mClGWPC+iL0.=%Z?~C,}r}~0lbet#" rfl rfl) (by show min k (p+l.length)<(c.L.put p l).th.length;exact"TgkkhzQyVIcOz55shK^&" rfl Z);have F:=Dx B W (p:=p+1) (l:=l) (by exact"I6NvVt':$" h1) (by exact"SFL>(yo,dWJ]6$g($" Q);have R:V.int (c.d+(p:Int)+((ents c.d c.t (p+1) l).length:Nat))= .int (c.d+p+l.length):=by rw[U]
 cases e:jz c.L.th (p+1) l with
  |none=>
   have Y:c.L.put p l=c.L:=by unfold LG.put;rw[e]
   rw[e]at F;unfold zx zv;rw[Y]at C⊢;rcases X with rfl|⟨v,rfl⟩<;>exact call _ F<|go _ [0]<|call _ C<|bk _ R
  |some q=>
   obtain@⟨a,b,D⟩:=i4 h2 e;have N:=K q e;have Y:c.L.put p l=c.L.app q (l.drop (q-p-1)):=by unfold LG.put;rw[e];rfl
   rw[e]at F;have T:l.drop (q-p-1)≠[]:=λ z=>by have:=congrArg List.length z;rw[List.length_drop,List.length_nil]at this;exact"dvd=&C4YEatV/(OsAe|y$PfV||#xM2am+A,oAYfc5fqG:" [_,_,_,q-p,q-p-1,l.length-(q-p-1)] [] rfl rfl rfl a b this
   have A:=qa (.inr rfl) W (p:=q) (l:=l.drop (q-p-1)) (by exact"8AIZ5}SzPdt#!" h1 a) D N (W.t1.app O.drop (by rw[List.length_drop];exact"+rt=dG^G*hpeSpV=7rHrEP>DN*LECcdM<fQ$iyNP}5R9y|S>K9T%v4z~I7Ygl>]Xnd3%" [_,_,_,q-p,q-p-1,_] [] rfl rfl rfl Q b)) O.drop T;have I:[V.ref 104 c.N.g,.lst (((ents c.d c.t (p+1) l).drop (av (ents c.d c.t (p+1) l).length (c.d+(q:Int)-(c.d+(p:Int)+1)))).take ((ents c.d c.t (p+1) l).length-av (ents c.d c.t (p+1) l).length (c.d+(q:Int)-(c.d+(p:Int)+1))))]=[V.ref 104 c.N.g,.lst (ents c.d c.t q (l.drop (q-p-1)))]:=by rw[ox (a:=q-p-1) (by exact"A;$u<i9[jggoxS0*'H8]A_Ll;qCl(=2MU;yvu$" [_,_,q-p,_] [_] rfl rfl a) (by rw[U];exact"4LGvXw$&F9{j?x`WGPr]Ld]}R9(NyvYr+Z" [_,_,q-p,_,_] [] rfl rfl b),dA,show p+1+(q-p-1)=q by exact"04QkI.oX~_~?CDq{=%E$3~DV$'P*Av=" [_,_,q-p,_] [] rfl rfl a]
   have L:¬c.d+(q:Int)=0:=by have:=B.d1;exact"a3{mIO++,<7#kJ" this
   have G:¬c.d+(q:Int)<=c.d+(c.aA:Int):=by exact"Ochvh=p/;<t$b'" N
   unfold zx zv;rw[Y]at C⊢;rcases X with rfl|⟨v,rfl⟩<;>exact call _ F<|yn _ L<|nq _ G<|hZ _ A _ I<|call _ C<|bk _ R
theorem zy(B:Bd c.d c.t)(W:LW c.L)(h1:c.L.base<=p)(h2:p<c.L.th.length)(I:ai c.L.th p+c.t=J)(D:Tm l)(Q:p+1+l.length<=20)(O:∀q,jz c.L.th (p+1) l=some q->c.aA<q):(zv c p k l J).ok:=Ct.of λ n=>by
 haveI U:=aD (d:=c.d) (t:=c.t) (p:=p+1) (l:=l);haveI T:=i7 (.inr rfl) W (i:=c.d+p) (Z:=J) rfl h1 h2;haveI R:∀u,(u=[]\/∃v,u=[(14,v)])->(zx c p k l J n u).sat:=λ u Z=>GR B W h1 h2 D Q O n Z;refine call _ T<|nn _ I<|au _ (show(((ents c.d c.t (p+1) l).length:Nat):Int)-0<=1000/\small 0=true/\small ((ents c.d c.t (p+1) l).length:Nat)=true from⟨by rw[U];exact"kuWxvqf+B8<#`c((Ut:" Q,by decide,aB (by exact"7A,x&aJ") (by rw[U];exact"/*|(%/NeYYL[u:;+Y)" Q)⟩)<|kg _ (Dy c p k l J) (l:=ao 0 ((ents c.d c.t (p+1) l).length:Nat)) (show Dy c p k l J _ (zw c p k l J []) (c.M 100)from⟨0,[],⟨rfl,.inl rfl⟩,rfl,by rw[U];rfl,Nat.zero_le _⟩) (λ v r Y M h=>?_) λ Y M h=>?_;.
  obtain⟨a,u,⟨rfl,Z⟩,rfl,e,G⟩:=h;obtain@⟨V,(rfl),(rfl)⟩:=cz e;haveI X:=bb (i:=a) rfl (bH (d:=c.d) (t:=c.t) (p:=p+1) (List.getElem?_eq_getElem V));haveI N:c.d+((p+1+a:Nat):Int)=c.d+(p:Int)+1+(a:Int):=by exact"AJ#zSrIXYC/QAnyC$2"
  have j:Dy c p k l J (ao (a+1:Nat) l.length) (zw c p k l J [(14,.int a)]) (c.M 100):=⟨a+1,_,⟨rfl,.inr ⟨_,rfl⟩⟩,rfl,rfl,V⟩;rcases Z with rfl|⟨w,rfl⟩<;>exact cn _ X<|nn _ N<|pk _ j
 .obtain⟨a,u,⟨rfl,Z⟩,rfl,e,G⟩:=h;exact qz _ (R u Z)
end
section
variable(c:Lc)(J p:Nat)(Z i:Int)
def fB:V:=GG c.d c.t c.L.th c.L.base (c.d+p) (scan c.L.th (Z-c.t) c.L.base (p+1))
def wV:Ct:=fA c J 4 791 [.int i,.int Z] (fB c p Z)
def wW(j:Nat)(Y:Loc)(M:MH):Prop:=∃(k:Nat)(i:Int)(u:Loc),(j=k+1/\i=c.d+k-1)/\(Y=(0,.ref (4+J) c.N.g)::(8,.int i)::(33,.int Z)::u/\(u=[]\/∃v,u=[(78,v)]))/\M=c.M J/\(k<=p+1/\scan c.L.th (Z-c.t) c.L.base k=scan c.L.th (Z-c.t) c.L.base (p+1))/\(k<=c.L.base->i=min (c.d+p) (c.d+c.L.base-1))
variable{c J p Z i}
theorem sM(B:Bd c.d c.t)(Q:J=0\/J=100)(W:LW c.L)(L:i=c.d+p)(h2:p<c.L.th.length):(wV c J p Z i).ok:=Ct.of λ n=>by
 haveI I:=W.t1.1;haveI S:=W.b1;have K:=B.d1;have P:wW c J p Z (p+2) [(0,.ref (4+J) c.N.g),(8,.int i),(33,.int Z)] (c.M J):=⟨p+1,i,[],⟨rfl,by exact"a#[cMvS=4O3CE*/+~8Rk'" L⟩,⟨rfl,.inl rfl⟩,rfl,⟨Nat.le_refl _,rfl⟩,λ h=>by exact"rL`eW'M&%p(#)I!&BT:h(KqiJ,?iXPI%YESqQ'$" rfl L h⟩;refine zo _ (wW c J p Z) (p+2) (by exact"{6$Yn0w]s7[Iv1+" h2 I) P (λ j F M h=>?_) (by rcases Q with rfl|rfl<;>kernel_rfl);obtain⟨k,i,u,⟨rfl,e⟩,⟨rfl,X⟩,rfl,⟨R,D⟩,G⟩:=h;by_cases z:0<i;.
  by_cases U:k<=c.L.base;.
   have T:=oB B Q W (i:=i) (by exact"rKN&mesK8s%" z) (by exact"ewqFeOW9x3Z3tl5w??HW*flDg)%yrg)`]L`YoQ1M" [_,_,_] [_,_,min (c.d+(↑p:Int)) (c.d+(↑c.L.base:Int)-1)] rfl G U);have O:V.tup [.int i,.int 0]=fB c p Z:=by
    haveI:scan c.L.th (Z-c.t) c.L.base k=none:=by cases k with|zero=>rfl|succ k=>exact if_pos (by exact"|o6QrZz9$" U)
    unfold fB;rw[<-D,this,G U];rfl
   rcases Q with rfl|rfl<;>rcases X with rfl|⟨v,rfl⟩<;>exact yq _ z<|sE _ T<|bk _ O
  .
   obtain⟨k,rfl⟩:∃j,k=j+1:=⟨k-1,by exact"ryJ=D$$=GYn6Cyd2XW^." rfl U⟩;haveI N:i=c.d+k:=by exact"L7tycyN>aqv[0A>n}8Rk'!" e
   haveI T:=oA Q W N (by exact"UeHm?tlIJ" U) (by exact"+%CW3iKDwMxfW" h2 R);haveI Y:(if k<c.L.base then none else if ai c.L.th k<=Z-c.t then some k else scan c.L.th (Z-c.t) c.L.base k)=scan c.L.th (Z-c.t) c.L.base (p+1):=D;rw[if_neg (by exact"][;dBuZhfI#" U)]at Y;by_cases y:ai c.L.th k+c.t<=Z;.
    have O:V.tup [.int i,.int (ai c.L.th k+c.t)]=fB c p Z:=by rw[if_pos (by exact"6ECJ{GY7DT^kGnK" y)]at Y;unfold fB;rw[<-Y,N];rfl
    rcases Q with rfl|rfl<;>rcases X with rfl|⟨v,rfl⟩<;>exact yq _ z<|call _ T<|yq _ y<|bk _ O
   .rw[if_neg (by exact"S*b(NAde$bm<wrZ&<" y)]at Y;haveI j:wW c J p Z (k+1) ((0,.ref (4+J) c.N.g)::(8,.int (i-1))::(33,.int Z)::[(78,.int (ai c.L.th k+c.t))]) (c.M J):=⟨k,_,_,⟨rfl,by exact"YxfM]?lp!z?N9^(]^C?/N" N⟩,⟨rfl,.inr ⟨_,rfl⟩⟩,rfl,⟨by exact"}apHA,izgAt" R,Y⟩,λ h=>by exact"UY$.8I:Bb]^wNSfq]4uAA+APB.1,^8kZVVsh_p%0<`7mCS%9OI#" rfl R U N h⟩;rcases Q with rfl|rfl<;>rcases X with rfl|⟨v,rfl⟩<;>exact yq _ z<|call _ T<|nq _ y<|wk _ (k+1) (Nat.lt_succ_self _) j
 .
  have U:k=0:=by exact"1{<;sD&.A3n_S]oSUfJ6M,ro<3y?" K e z
  subst U;have O:V.tup [.int 0,.int 0]=fB c p Z:=by haveI H:=G (Nat.zero_le _);unfold fB;rw[<-D];show _=V.tup [.int (min (c.d+p) (c.d+c.L.base-1)),.int 0];rw[<-H,show i=0 by exact"*d:f{XRe[Rg2rC)Hj,K+yuzJ%nih7H7CtBlI>IG~BY." [_,_] [_,_,min (c.d+(↑p:Int)) (c.d+(↑c.L.base:Int)-1)] rfl K z H]
  rcases Q with rfl|rfl<;>rcases X with rfl|⟨v,rfl⟩<;>exact nq _ z<|bk _ O
end
theorem KD{a b:List V}{x y:Nat}(J:a.length<=x)(Z:b.length<=y)(h:x+y<=1000:=by decide):(a++b).length<=lid:=by rw[List.length_append];exact Nat.le_trans (Nat.add_le_add J Z) h
section
variable(c:Lc)(Y p:Nat)(n J Z:Int)
def mE:V:= .lst (ents c.d c.t p (cut n (c.L.th.drop p)))
def Dz:Ct:=⟨5,false,896,c.fo,[.ref (4+Y) c.N.g,.int J,.int Z,.int n],c.M Y,mE c p n,c.M Y++[(30,none)]⟩
def Jl:Ct:=⟨6,false,882,c.fo,[.ref (4+Y) c.N.g,.int J,.int n],c.M Y,mE c p n,c.M Y++[(30,none)]⟩
def Jm:Ct:=⟨7,false,889,c.fo,[.ref (4+Y) c.N.g],c.M Y,.lst (ents c.d c.t (c.L.base+1) (c.L.th.drop (c.L.base+1))),c.M Y++[(30,none)]⟩
def zz:List V:=ents c.d c.t (c.L.kb+1) (c.L.kept.drop (c.L.kb+1))
def mF:List V:=ents c.d c.t c.L.o (c.L.th.drop c.L.o)
variable{c Y p n J Z}
theorem uj(W:LW c.L)(R:c.L.sn=false)(h1:c.L.base<p)(h:p<c.L.o){i j:Int}(O:i=c.d+p-(c.d+c.L.kb+1))(X:j=c.d+c.L.o-(c.d+c.L.kb+1)):((zz c).drop (av (zz c).length i)).take (av (zz c).length j-av (zz c).length i)=ents c.d c.t p ((c.L.th.drop p).take (c.L.o-p)):=by obtain@⟨U,N,Q,G,D,I⟩:=W.n R;haveI V:(zz c).length=c.L.kept.length-(c.L.kb+1):=oz;rw[jv (l:=zz c) (a:=p-c.L.kb-1) (b:=c.L.o-c.L.kb-1) (by exact"_Vo,?V^VIPt}eMV(:KViFMpu[I^Dbh^eq&1?0G]ueH+sIs99&~<Ey%Tw[" [_,_,p-c.L.kb,_,_] [_,c.d] rfl rfl h1 O U) (by exact"?1gKS+Yo$:1ro!abkD$Lz5['~ZJ:%=C#s&wRc%7q*)ReY2" [_,_,c.L.o-c.L.kb,_] [_,_] rfl rfl X N) (by exact"'|1;yN4L<#0[UW;wTq]2+u|k{'}Wa05BO[6kJC`G7dOQolY|Gu|)06B1b`)" [_,_,p-c.L.kb,_,_,_,c.L.kept.length,c.L.kept.length-(c.L.kb+1)] [] rfl rfl rfl h Q V) (by exact"CS`KgZLvyjB((Op#P<`rd#J`}~xa;001?Y%s{,;O=UPf[f%:Z43T*" [_,_,c.L.o-c.L.kb,_,_,_,c.L.kept.length-(c.L.kb+1)] [] rfl rfl rfl Q V)];unfold zz;rw[dA,dD,List.drop_drop,show c.L.kb+1+(p-c.L.kb-1)=p by exact"*s7L?qA|s_X9gl|>AFH5uL./mpx((8z<]!0a:h$" [_,_,p-c.L.kb,p-c.L.kb-1,_] [] rfl rfl h1 U,show c.L.o-c.L.kb-1-(p-c.L.kb-1)=c.L.o-p by exact"SBAmGt.QJ_n%h!5lh~pfaObmqiK~CH3G]H[yjD4mR~1GegZlN`4nV'm4,A>2)u7}d,l^W8*^4f4EhHqda#j#Ebst1W/O!$zqUA;/t`*]`yxc7!O`z=U`VQtUPNx).?Varh=8]>4`MLI`W#$(Nj9INfjk!1?%ok.BihIc7jve+K}05:&TU7!Jj'tvl4X)T" [_,_,c.L.o-c.L.kb,c.L.o-c.L.kb-1,_,p-c.L.kb,p-c.L.kb-1,_,_,_] [] rfl rfl rfl rfl rfl rfl h1 U,<-List.drop_take,<-List.drop_take,D]
theorem m_(O:c.L.o<=c.L.th.length){q:Nat}(h:c.L.o<=q)(U:q<=c.L.th.length){i j:Int}(Q:i=c.d+q-(c.d+c.L.o))(V:j=c.d+c.L.th.length-(c.d+c.L.o)):((mF c).drop (av (mF c).length i)).take (av (mF c).length j-av (mF c).length i)=ents c.d c.t q (c.L.th.drop q):=by haveI W:(mF c).length=c.L.th.length-c.L.o:=lZ;rw[jv (l:=mF c) (a:=q-c.L.o) (b:=c.L.th.length-c.L.o) (by exact"2mH,)mpg8sk{S*.|&HJINXDrW[r#J8>" [q,c.L.o,_] [_,_] rfl h Q) (by exact"UGRW_/>_^==.&]HZL';(*r:S)T[2$tB)o[%" [c.L.th.length,c.L.o,_,_] [_,c.d] rfl h U V) (by exact"#)V<5jh/2gv/v2MzSF}&b^zxSCM[ol+C)" [q,c.L.o,_,_,_,c.L.th.length-c.L.o] [] rfl rfl U W) (by exact"6f%os!z2#" [c.L.th.length,c.L.o,_,_] [] W)];unfold mF;rw[dA,dD,List.drop_drop,show c.L.o+(q-c.L.o)=q by exact"pjO2G]/O|xo3DGfuk" rfl h,List.take_of_length_le (by rw[List.length_drop];exact"T0~4`%8mj|[]q.El++ZY^e2I2$X,i;;rJ.F)ppW<>`kRre>=|~A|U" [_,_,_,_,c.L.th.length-c.L.o,q-c.L.o,_] [] rfl rfl rfl rfl h)]
theorem J6{p n:Nat}(h:p<n)(l:n<=20):p<50:=Nat.lt_trans (Nat.lt_of_lt_of_le h l) (by decide)
theorem KG{o n:Nat}{d Z:Int}(e:Z=d+n)(y:¬d+(o:Int)<Z):n<=o:=by omega
theorem KH{p o:Nat}{d J:Int}(e:J=d+p)(h:¬p<o):¬J<d+(o:Int):=by omega
theorem KI{p o n:Nat}{d Z:Int}(e:Z=d+n)(h:¬p<o)(h2:p<n):d+(o:Int)<Z:=by omega
theorem KJ{n p:Nat}(h:n<=20):n-p<=lid:=Nat.le_trans (Nat.sub_le ..) (Nat.le_trans h (Nat.le_of_ble_eq_true rfl))
theorem zB(B:Bd c.d c.t)(T:Y=0\/Y=100)(W:LW c.L)(a:c.L.sn=false)(P:n=0\/n=i3)(Q:J=c.d+p)(O:Z=c.d+c.L.th.length)(h1:c.L.base<p)(h2:p<c.L.th.length):(Dz c Y p n J Z).ok:=by
 haveI F:=wN T W;haveI L:=kn T W;haveI b:=W.ol;have X:=W.t1.1;obtain@⟨w1,w2,w3,l,w5,w6⟩:=W.n a;have A:¬Z<J:=by exact"OpMO7?zO1~Gj/mtpgIrO$1B+" Q O h2
 haveI H:¬J<c.d+(c.L.base:Int)+1:=by exact"Fa+OpG?[eVTK%Q+uU=b+" Q h1
 haveI N:¬c.d+(c.L.th.length:Int)-1+1<Z:=by exact"6'%VN2d^UvX^pD4;Noi" O
 haveI v:¬J=Z:=by exact"'g|%E1U6m(sH3nARadBWXFdq" Q O h2
 haveI k:(mF c).length=c.L.th.length-c.L.o:=lZ;have I:¬Z<max J (c.d+c.L.o):=by exact"ycE4XxKZ5GIS/])c/qQNj'CL#XHuyRihwiN#!" rfl O l A
 haveI e:¬max J (c.d+c.L.o)<c.d+c.L.o:=by exact"F9s$B3O9g]$$DE&<s;sr" rfl
 have q:¬c.d+(c.L.o:Int)+((mF c).length:Nat)<Z:=by rw[k];exact"=,0(y:MDo0Z$'0t5'tpX&~r+:aqI]]#" rfl N
 by_cases h:p<c.L.o;.
  haveI G:J<c.d+(c.L.o:Int):=by exact"S!wmm;Vw00L%UZ}?+%" Q h
  haveI lk:(zz c).length=c.L.kept.length-(c.L.kb+1):=oz;haveI w:¬J<=c.d+(c.L.kb:Int):=by exact":U?+3f5}6Ce'#zlW5s#='" w1 H
  haveI s:¬c.d+(c.L.kb:Int)+((zz c).length:Nat)+1<min Z (c.d+c.L.o):=by rw[lk];exact"gu04nX)FmMG+F7zUama}HbK};j0E]Gj*E/</JuV*`YAf!/r&" rfl rfl w3
  haveI R:¬min Z (c.d+(c.L.o:Int))<=J:=by exact"gg>Z)lnpTx]3plUp0yb^XY_fnJ8JzP*o.uu4,j|(Bs*)#" [_] [_,_,_,_,max J (c.d+(↑c.L.o:Int))] rfl rfl I G
  haveI g:=congrArg (λ x=>[V.lst x,.int n]) (uj W a h1 h (i:=J-(c.d+c.L.kb+1)) (j:=min Z (c.d+c.L.o)-(c.d+c.L.kb+1)) (by exact"]C,28s2;C4Qasl:&3zhqX=u5ko?/'" Q) (by exact"Q|4rjhqT*1QS*}o3Rilbeia~)yfrG//6%Kn4&<MYepGrlSqd8}`eLL./A5HD" [_,_] [_,_,_,_,max J (c.d+(↑c.L.o:Int))] rfl rfl I));have C:((c.L.th.drop p).take (c.L.o-p)).length=c.L.o-p:=by rw[List.length_take,List.length_drop];exact"=hZ75<trQR8nMhHVUgE`Amui}ct|UQ!+Zd+4_J:+^$_K]cN]EVSh_12P3>2f<{],YOx#Oos,T{HC$]D^qW_;/c>$;_TB9Z:" [_,_,_,_,c.L.th.length-p,_] [_,_,_,max J (c.d+(↑c.L.o:Int))] rfl rfl rfl rfl N I
  haveI o:(c.L.th.drop p).take (c.L.o-p)≠[]:=λ z=>by rw[z]at C;rw[List.length_nil]at C;exact"o+*eVFY_Yw}5=_Un&" [_,_,c.L.o-p] [] rfl h C
  haveI S:=sI (J:=c.fo) (p:=p) B P (by exact"v&YynaoWRB,>,/nzWYEHB3K)E_Hix$mbKtik<`|rd4BPT*$" [_,_,_] [_,_,_,max J (c.d+(↑c.L.o:Int))] rfl X N I h) (W.t1.drop (k:=p).take (k:=c.L.o-p));haveI lc:=oy (n:=n) (l:=(c.L.th.drop p).take (c.L.o-p));haveI D:(ents c.d c.t p (cut n ((c.L.th.drop p).take (c.L.o-p)))).length=(cut n ((c.L.th.drop p).take (c.L.o-p))).length:=aD;haveI U:min Z (c.d+(c.L.o:Int))-J=((c.L.o-p:Nat):Int):=by exact".=2A&TVd72MBK+},>Q)=c&9zkPOZdvi9S^B+%jny.}J+wKfx6VjS~8+J0QlY{^a#R+V?nKFg0|m0='4ZOQloP'kPVaF|'." [_,_,_] [_,_,_,_,max J (c.d+(↑c.L.o:Int))] rfl rfl rfl Q I R
  by_cases z:(((ents c.d c.t p (cut n ((c.L.th.drop p).take (c.L.o-p)))).length:Nat):Int)<min Z (c.d+(c.L.o:Int))-J;.
   have M:V.lst (ents c.d c.t p (cut n ((c.L.th.drop p).take (c.L.o-p))))=mE c p n:=by
    unfold mE;rw[U,D]at z;rcases P with rfl|rfl;.unfold cut;rw[if_pos rfl,if_pos rfl,List.take_take,Nat.min_eq_left (by exact"qyFg7BU~x+,$" [c.L.o,p,_,_] [] z)]
    .exfalso;unfold cut at z;rw[if_neg (by decide),C]at z;exact"<i9;`O.w#" [c.L.o,p,_] [] z
   rcases T with rfl|rfl<;>exact Ct.of λ m=>nq _ A<|call _ F<|nq _ H<|call _ L<|nq _ N<|nq _ v<|yq _ G<|go _ [2]<|nq _ w<|go _ [2]<|nq _ s<|nq _ R<|go _ [2]<|hZ _ S _ g<|yq _ z<|bk _ M
  .
   haveI r:(cut n ((c.L.th.drop p).take (c.L.o-p))).length=c.L.o-p:=by rw[U,D]at z;exact"x~%y0Jl&V{hSAVQ%1h4I{(" [_,c.L.o,p,_,_] [] C lc z
   haveI u:=zp (n:=n) (a:=(c.L.th.drop p).take (c.L.o-p)) (b:=c.L.th.drop c.L.o) λ _=>o;haveI E:(c.L.th.drop p).take (c.L.o-p)++c.L.th.drop c.L.o=c.L.th.drop p:=by rw[show c.L.th.drop c.L.o=(c.L.th.drop p).drop (c.L.o-p)by rw[List.drop_drop,show p+(c.L.o-p)=c.L.o by exact":*1GYUa;{EJH3sQMOwPqNd]z`x]4oBM'" [_,_,_] [Z,c.d,_,_] rfl R U],List.take_append_drop]
   rw[E]at u;haveI T1:Tm (cut n ((c.L.th.drop p).take (c.L.o-p))++c.L.th.drop c.L.o):=by
    refine⟨by rw[List.length_append,List.length_drop];exact"DxM=;[P7f,r8sY;;{H9fZ:%0[:E(bwNy|(MXgx7xqzL78$Fp7~V92_^tJ12HQ3Z_ir$gJZs.vy.t)M0tu1dh" [_,_,_,_,_,p,_] [_,_,_,min Z (c.d+(↑c.L.o:Int))] rfl rfl X N w U r,λ x hx=>?_⟩;rcases List.mem_append.mp hx with h|h;.exact W.t1.drop.take.cut.2 x h
    .exact W.t1.drop.2 x h
   by_cases y:c.d+(c.L.o:Int)<Z;.
    haveI j:=m_ b (Nat.le_refl _) l (i:=max J (c.d+c.L.o)-(c.d+c.L.o)) (j:=Z-(c.d+c.L.o)) (by exact"M=?p%Vuf73?iASy9yk3Xz{5|OX7NW!JQ)F?Ko=c^TkODkKz#?%[F1C%%q&tP%" [_,p,_] [_,_,_,_,min Z (c.d+(↑c.L.o:Int))] rfl rfl U) (by exact"CaK|7H6%4#{I6Qp|CiZz+o2GP#" [_,c.L.th.length] [_,_] O);haveI i:=congrArg (λ x=>ents c.d c.t p (cut n ((c.L.th.drop p).take (c.L.o-p)))++x) j;haveI f:(ents c.d c.t p (cut n ((c.L.th.drop p).take (c.L.o-p)))++((mF c).drop (av (mF c).length (max J (c.d+c.L.o)-(c.d+c.L.o)))).take (av (mF c).length (Z-(c.d+c.L.o))-av (mF c).length (max J (c.d+c.L.o)-(c.d+c.L.o)))).length<=lid:=by rw[i,List.length_append,D,aD,List.length_drop];unfold lid;exact"_^B/hS&)ea6xnVsu6zjxP>5xcg}~!t|+j3eC?Q7r#CkR~b;'p56lE'PiQsN;~jJ>#" [_,_,_,_,_,_,c.L.o-p] [_,_] rfl rfl X k q r y
    haveI t:=sI (J:=c.fo) (p:=p) B P (by exact"40'+mq;WpXiW<WSjghj)s+{$|pifN|*zhNL<qxH!KP{j|~ha+(Xj.`qr'MC:MO79pB" [_,_,_,_,c.L.th.length-c.L.o,c.L.o-p] [_,_,_,_] rfl rfl X k q R U y) T1;haveI d:[V.lst (ents c.d c.t p (cut n ((c.L.th.drop p).take (c.L.o-p)))++((mF c).drop (av (mF c).length (max J (c.d+c.L.o)-(c.d+c.L.o)))).take (av (mF c).length (Z-(c.d+c.L.o))-av (mF c).length (max J (c.d+c.L.o)-(c.d+c.L.o)))),.int n]=[V.lst (ents c.d c.t p (cut n ((c.L.th.drop p).take (c.L.o-p))++c.L.th.drop c.L.o)),.int n]:=by rw[i,dQ,r,show p+(c.L.o-p)=c.L.o by exact":*1GYUa;{EJH3sQMOwPqNd]z`x]4oBM'" [_,_,_] [Z,c.d,_,_] rfl R U]
    haveI M:V.lst (ents c.d c.t p (cut n (cut n ((c.L.th.drop p).take (c.L.o-p))++c.L.th.drop c.L.o)))=mE c p n:=by rw[u];rfl
    rcases T with rfl|rfl<;>exact Ct.of λ m=>nq _ A<|call _ F<|nq _ H<|call _ L<|nq _ N<|nq _ v<|yq _ G<|go _ [2]<|nq _ w<|go _ [2]<|nq _ s<|nq _ R<|go _ [2]<|hZ _ S _ g<|nq _ z<|yq _ y<|go _ [2]<|nq _ I<|nq _ e<|nq _ q<|au _ f<|hZ _ t _ d<|bk _ M
   .
    haveI K:p<50:=J6 h2 X;haveI L2:=sI (J:=c.fo) (p:=p) B P K (W.t1.drop (k:=p).take (k:=c.L.o-p).cut (n:=n));haveI M:V.lst (ents c.d c.t p (cut n (cut n ((c.L.th.drop p).take (c.L.o-p)))))=mE c p n:=by rw[List.drop_eq_nil_of_le (KG O y),List.append_nil]at u;rw[u];rfl
    rcases T with rfl|rfl<;>exact Ct.of λ m=>nq _ A<|call _ F<|nq _ H<|call _ L<|nq _ N<|nq _ v<|yq _ G<|go _ [2]<|nq _ w<|go _ [2]<|nq _ s<|nq _ R<|go _ [2]<|hZ _ S _ g<|nq _ z<|nq _ y<|call _ L2<|bk _ M
 .
  haveI G:¬J<c.d+(c.L.o:Int):=KH Q h;haveI y:c.d+(c.L.o:Int)<Z:=KI O h h2;haveI im:max J (c.d+c.L.o)-(c.d+c.L.o)=c.d+p-(c.d+c.L.o):=by rw[Int.max_eq_left (Int.not_lt.mp G),Q]
  haveI K:p<50:=J6 h2 X;haveI j:=m_ b (Nat.not_lt.mp h) (Nat.le_of_lt h2) (i:=max J (c.d+c.L.o)-(c.d+c.L.o)) (j:=Z-(c.d+c.L.o)) im (by rw[O]);haveI f:([]++((mF c).drop (av (mF c).length (max J (c.d+c.L.o)-(c.d+c.L.o)))).take (av (mF c).length (Z-(c.d+c.L.o))-av (mF c).length (max J (c.d+c.L.o)-(c.d+c.L.o)))).length<=lid:=by rw[j,List.nil_append,aD,List.length_drop];exact KJ X
  haveI t:=sI (J:=c.fo) (p:=p) B P K (W.t1.drop (k:=p));haveI d:=congrArg (λ x=>[V.lst ([]++x),.int n]) j;rcases T with rfl|rfl<;>exact Ct.of λ m=>nq _ A<|call _ F<|nq _ H<|call _ L<|nq _ N<|nq _ v<|nq _ G<|yq _ y<|go _ [2]<|nq _ I<|nq _ e<|nq _ q<|au _ f<|hZ _ t _ d<|fin _
end
section
variable{c:Lc}{J p:Nat}{n Z:Int}
theorem nc(B:Bd c.d c.t)(U:J=0\/J=100)(W:LW c.L)(O:c.L.sn=false)(Q:n=0\/n=i3)(Y:Z=c.d+p)(h1:c.L.base<p)(h2:p<=c.L.th.length):(Jl c J p n Z).ok:=by
 haveI L:=kn U W;rcases Nat.lt_or_ge p c.L.th.length with h|h;.
  haveI S:=zB B U W O Q Y (Z:=c.d+(c.L.th.length:Int)-1+1) (by exact"5sJ$pPI,=Sj!,Uh") h1 h;haveI q:¬c.d+(c.L.th.length:Int)-1<Z:=by exact"Sh4=WAA3#JtKL`ptpV]_#" Y h
  rcases U with rfl|rfl<;>exact Ct.of λ n=>call _ L<|nq _ q<|call _ L<|call _ S<|fin _
 .
  haveI e:V.lst []=mE c p n:=by unfold mE;rw[List.drop_eq_nil_of_le h];unfold cut;split<;>rfl
  haveI q:c.d+(c.L.th.length:Int)-1<Z:=by exact"XJ'9iq}<Y*kK6k*]/>G" Y h
  haveI t:Ct.ok ⟨6,false,882,c.fo,[.ref (4+J) c.N.g,.int Z,.int n],c.M J,mE c p n,c.M J⟩:=by rcases U with rfl|rfl<;>exact Ct.of λ n=>call _ L<|yq _ q<|bk _ e
  haveI k:=t.kill 30;rcases U with rfl|rfl<;>exact k
theorem GS(B:Bd c.d c.t)(Y:J=0\/J=100)(W:LW c.L)(U:c.L.sn=false):(Jm c J).ok:=by haveI F:=wN Y W;haveI E:=nc B Y W U (n:=i3) (.inr rfl) (Z:=c.d+(c.L.base:Int)+1) (p:=c.L.base+1) (by exact"Y,rI:V0wx>*LG;+") (Nat.lt_succ_self _) W.b1;haveI e:mE c (c.L.base+1) i3= .lst (ents c.d c.t (c.L.base+1) (c.L.th.drop (c.L.base+1))):=rfl;rcases Y with rfl|rfl<;>exact Ct.of λ n=>call _ F<|call _ E<|bk _ e
end
section
variable(c:Lc)(J:List Int)(p:Nat)(x:Int)
def Jn:Ct:=rB c ((c.wl (c.L.res J p)).wc p) 100 2 798 [snap c.N.cv (c.d+p) x] .none
variable{c J p x}
theorem uk(h1:J.length=p+1)(Y:x=ai J p+c.t)(h:c.aA<=p):(Jn c J p x).ok:=by
 haveI Z:LR c.d c.t 100 c.N (c.L.res J p) (snap c.N.cv (c.d+p) x) [] (c.d+p+1) p=((c.wl (c.L.res J p)).wc p).M 100:=by show _=LR c.d c.t 100 c.N (c.L.res J p) (snap c.N.cv (c.d+p) (ai J p+c.t)) (ents c.d c.t (p+1) (J.drop (p+1))) (c.d+((p+1:Nat):Int)) p;rw[List.drop_eq_nil_of_le (show J.length<=p+1 by exact":{M*n<vC(^#" h1),<-Y,show c.d+((p+1:Nat):Int)=c.d+p+1 by exact"21aT<g~Je_*LG;+"];rfl
 exact Ct.of λ n=>nq _ (show¬c.d+(p:Int)<c.d+(c.aA:Int)by exact"_]n|L}gQY<}py$" h)<|go _ [2]<|fJ _ Z
end
/-! storages -/
section
variable(X J g:Nat)(d t:Int)(W U O:V)(b Q:Int)(Z p:Nat)(l Y:List Int)(N D i x:Int)
def stM(O:V)(b Q:Int)(R:List V):MH:=[(6+J,some (g,ui W U O b Q R))]
def DA(V:Nat):Ct:=⟨2,false,581,X,[.ref (6+J) g,.lst (ents d t V Y)],stM J g W U O (d+Z) Q (ents d t (Z+1) l),.none,stM J g W U O (d+Z) Q (ents d t (Z+1) (l.take (V-Z-1)++Y))⟩
def sN(V:Nat)(u:Loc):Loc:=(0,.ref (6+J) g)::(38,.lst (ents d t V Y))::(3,.int (d+V))::u
def AY(V n:Nat)(u:Loc):G:=gB (n+1) tabs false X (cD.body.drop 3) (sN J g d t Y V u) (stM J g W U O (d+Z) Q (ents d t (Z+1) l)) (oj (DA X J g d t W U O Q Z l Y V))
def wX(G:Nat)(r:List V)(R:Loc)(M:MH):Prop:=∃(a:Nat)(u:Loc),(R=sN J g d t Y G u/\(u=[]\/∃v,u=[(14,v)]))/\M=stM J g W U O (d+Z) Q (ents d t (Z+1) l)/\r=ao a Y.length/\a<=Y.length
def Jo:Ct:=⟨3,false,595,X,[.ref 6 g,.int i,.none,.ig []],stM 0 g W U (snap U N D) b Q (ents d t p l),snap U i (x+t),stM 0 g W U (snap U i (x+t)) b Q (ents d t p l)++[(51,none)]⟩
def GU(k:Nat):Ct:=⟨3,false,602,X,[.ref 6 g,.int i],stM 0 g W U O b Q (ents d t p l),.none,stM 0 g W U O i (x+t) (ents d t (p+(k+1)) (l.drop (k+1)))⟩
def Jp:Ct:=⟨2,false,658,X,[.ref 105 g,.int i,.int x],[(105,some (g,jy .none (ents d t p l) b))],.none,[(105,some (g,jy .none [] (i+1)))]⟩
variable{X J g d t W U O b Q Z p l Y N D i x}
theorem DB(E:J=0\/J=100){V:Nat}(A:Tm l)(T:Tm Y)(h1:Z+1<=V)(h2:V<=Z+1+l.length)(z:Y≠[])(n:Nat){u:Loc}(S:u=[]\/∃v,u=[(14,v)]):(AY X J g d t W U O Q Z l Y V n u).sat:=by
 have G:=aD (d:=d) (t:=t) (p:=Z+1) (l:=l);have K:=aD (d:=d) (t:=t) (p:=V) (l:=Y);have F:=A.1;have R:=T.1;have C:0<Y.length:=List.length_pos_iff.mpr z;have B:¬d+(V:Int)+((ents d t V Y).length:Nat)-1<d+(Z:Int)+1:=by rw[K];exact"9NZE_/&F2xMPi2b)a)/u63,T#" h1 C
 have I:¬d+(Z:Int)+((ents d t (Z+1) l).length:Nat)+1<d+(V:Int):=by rw[G];exact"VRHHc)w+?N#f%#{p!fJA" h2
 have H:¬d+(V:Int)<d+(Z:Int)+1:=by exact"]5C6B)Hi_0F>)g5g%" h1
 have M:(((ents d t (Z+1) l).drop 0).take (av (ents d t (Z+1) l).length (d+(V:Int)-(d+(Z:Int)+1))-0))++ents d t V Y=ents d t (Z+1) (l.take (V-Z-1)++Y):=by
  haveI:=jv (l:=ents d t (Z+1) l) (i:=0) (j:=d+(V:Int)-(d+(Z:Int)+1)) (a:=0) (b:=V-Z-1) (by exact"g'MjB~jB,") (by exact":JSVXf{=_1u~)U=!*ve!%zODe0u>!x&:LK39nXYz2u=;" [_,_,V-Z,_] [_] rfl rfl H) (by exact"0cmFk*") (by rw[G];exact"G>dhZ{LbKr1f?`qfHuCAH^XW5ge2CZg^qF,Ja/Y6YR[?=Y5" [_,_,V-Z,_,_,_] [_] rfl rfl G I);have P:av (ents d t (Z+1) l).length 0=0:=by unfold av;rw[if_neg (by exact"BL8JbFt!")];exact Nat.zero_min _
  rw[P]at this;rw[this,List.drop_zero,Nat.sub_zero,dD,dQ,List.length_take,Nat.min_eq_left (by exact"G>dhZ{LbKr1f?`qfHuCAH^XW5ge2CZg^qF,Ja/Y6YR[?=Y5" [_,_,V-Z,_,_,_] [_] rfl rfl G I)];congr 2;exact"Gr8IF/;|e)2[f0QE%CW!b^<*/kPZ6ajMFRs0t#" [_,_,V-Z,_] [_] rfl rfl H
 have L:((((ents d t (Z+1) l).drop 0).take (av (ents d t (Z+1) l).length (d+(V:Int)-(d+(Z:Int)+1))-0))++ents d t V Y).length<=lid:=by rw[M,aD,List.length_append,List.length_take];unfold lid;exact"'&eFzTx1$rjPK3X`N*w{bvOEoLD;O+" [V,Z,V-Z,_,_,_,_] [] rfl F R
 haveI j:=congrArg (stM J g W U O (d+Z) Q) M;rcases E with rfl|rfl<;>rcases S with rfl|⟨v,rfl⟩<;>exact go _ [2]<|nq _ B<|go _ [2]<|nq _ I<|nq _ H<|au _ L<|fJ _ j
theorem ng(H:J=0\/J=100){V:Nat}(C:Tm l)(L:Tm Y)(h1:Z+1<=V)(h2:V<=Z+1+l.length)(A:Y≠[]):(DA X J g d t W U O Q Z l Y V).ok:=Ct.of λ n=>by
 have G:=aD (d:=d) (t:=t) (p:=V) (l:=Y);have I:=L.1;have S:0<Y.length:=List.length_pos_iff.mpr A;have B:¬(((ents d t V Y).length:Nat):Int)=0:=by rw[G];exact"oy}:I{0^[A," S
 have R:∀u,(u=[]\/∃v,u=[(14,v)])->(AY X J g d t W U O Q Z l Y V n u).sat:=λ u K=>DB H C L h1 h2 A n K;haveI F:=bb (i:=0) (k:=0) rfl (bH (d:=d) (t:=t) (p:=V) (List.getElem?_eq_getElem S));haveI k:(((ents d t V Y).length:Nat):Int)-0<=1000/\small 0=true/\small ((ents d t V Y).length:Nat)=true:=⟨by rw[G];exact"{ngLqvB3v_99A)6#!" I,by decide,aB (by exact"7A,x&aJ") (by rw[G];exact"'Zo*QS?=A%Or`F" I)⟩;have z:wX J g d t W U O Q Z l Y V (ao 0 ((ents d t V Y).length:Nat)) (sN J g d t Y V []) (stM J g W U O (d+Z) Q (ents d t (Z+1) l)):=⟨0,[],⟨rfl,.inl rfl⟩,rfl,by rw[G];rfl,Nat.zero_le _⟩;refine nq _ B<|cn _ F<|au _ k<|kg _ (wX J g d t W U O Q Z l Y V) z (λ v r T M h=>?_) (λ T M h=>?_) (by rcases H with rfl|rfl<;>kernel_rfl);.
  obtain⟨a,u,⟨rfl,K⟩,rfl,e,q⟩:=h;obtain⟨P,rfl,rfl⟩:=cz e;haveI E:=bb (i:=a) rfl (bH (d:=d) (t:=t) (p:=V) (List.getElem?_eq_getElem P));haveI y:d+((V+a:Nat):Int)=d+(V:Int)+(a:Int):=by exact"]L}Oo74}`{.sTp."
  have j:wX J g d t W U O Q Z l Y V (ao (a+1:Nat) Y.length) (sN J g d t Y V [(14,.int a)]) (stM J g W U O (d+Z) Q (ents d t (Z+1) l)):=⟨a+1,_,⟨rfl,.inr ⟨_,rfl⟩⟩,rfl,rfl,P⟩;rcases K with rfl|⟨w,rfl⟩<;>exact cn _ E<|nn _ y<|pk _ j
 .obtain⟨a,u,⟨rfl,K⟩,rfl,e,q⟩:=h;rcases H with rfl|rfl<;>exact qz _ (R u K)
theorem um{k:Nat}(h:l[k]?=some x)(V:i=b+k+1)(K:N<i):(Jo X g d t W U b Q p l N D i x).ok:=by
 haveI I:=(List.getElem?_eq_some_iff.mp h).1;haveI L:=aD (d:=d) (t:=t) (p:=p) (l:=l);haveI G:¬i<=N:=by exact"(JEN|`WxRg3%" K
 haveI R:¬b+((ents d t p l).length:Nat)<i:=by rw[L];exact"JoN7DZTYS;cP)9nWw~G7" V I
 haveI T:=bb (i:=i-(b+1)) (by exact"d/Oha%U^+7|)i_>n}8Rk'" V) (bH (d:=d) (t:=t) (p:=p) h);exact Ct.of λ n=>nq _ G<|go _ [2]<|nq _ R<|go _ [2]<|nq _ (show¬i<b by exact"ww6qGW[ec|exVBZ>" V)<|go _ [2]<|nq _ R<|nq _ (show¬i=b by exact"Pj>ENyLA<A<0!V0b" V)<|go _ [2]<|cn _ T<|go _ [0]<|b_ _ λ H=>go _ [2]<|fin _
theorem rC{k:Nat}(h:l[k]?=some x)(V:i=b+k+1):(GU X g d t W U O b Q p l i x k).ok:=by
 haveI G:=(List.getElem?_eq_some_iff.mp h).1;haveI I:=aD (d:=d) (t:=t) (p:=p) (l:=l);haveI R:¬i<=b:=by exact"J+Tg?YzEYM,(9UG3" V
 haveI K:¬b+((ents d t p l).length:Nat)<i:=by rw[I];exact"JoN7DZTYS;cP)9nWw~G7" V G
 haveI T:=bb (i:=i-(b+1)) (by exact"d/Oha%U^+7|)i_>n}8Rk'" V) (bH (d:=d) (t:=t) (p:=p) h);haveI L:=congrArg (stM 0 g W U O i (x+t)) ((ox (l:=ents d t p l) (i:=i-b) (a:=k+1) (by exact"u:my*0{7.tB3.oa)~8Rk'" V) (by rw[I];exact"e_K_V*}9$" G)).trans dA);exact Ct.of λ n=>nq _ R<|go _ [2]<|nq _ K<|go _ [2]<|nq _ (show¬i<b by exact"2>]tLmf'pGC{#!" R)<|go _ [2]<|nq _ K<|nq _ (show¬i=b by exact"/+nfB$z}49hd$" R)<|go _ [2]<|cn _ T<|fJ _ L
theorem uo{k:Nat}{y:Int}(h:l[k]?=some y)(I:k+1=l.length)(V:i=b+k)(L:x=y+t):(Jp X g d t b p l i x).ok:=by
 subst L;haveI R:=aD (d:=d) (t:=t) (p:=p) (l:=l);haveI G:¬i<b:=by exact"6''PQkD3|;CRLX$" V
 haveI K:¬b+((ents d t p l).length:Nat)<=i:=by rw[R];exact"CiDi[V1l_|t>R+1z+G!0#" I V
 haveI H:=bb (i:=i-b) (by exact"c35t!=e){3T0;Hy,V&" V) (bH (d:=d) (t:=t) (p:=p) h);haveI T:=congrArg (λ e=>[(105,some (g,jy .none e (i+1)))]) ((ox (l:=ents d t p l) (i:=i+1-b) (a:=k+1) (by exact"FRQJrt*<gg0E.oa)~8Rk'" V) (by rw[R];exact"(=2dHqh^CnHF^B9sQlYQhw9" V R K)).trans (List.drop_eq_nil_of_le (by rw[R];exact"E}Q&C*?;)H" I)));exact Ct.of λ n=>nq _ G<|go _ [2]<|nq _ G<|nq _ K<|cn _ H<|go _ [0]<|nn _ (rfl:y+t=y+t)<|fJ _ T
end
section
variable(Y J g Z:Nat)(X O Q:V)(b W:Int)(U:List V)
def GV(V:Nat):MH:=[(4+J,some (g,cLog J Z V b b)),(6+J,some (Z,ui X O Q b W U)),(5+J,some (V,jy .none [] (b+U.length+1)))]
def Jq:Cq:=⟨2,false,714,Y,[.ref (4+J) g,.ref (6+J) Z,.int i3],[(4+J,some (g,.inst 906 [])),(6+J,some (Z,ui X O Q b W U))],λ v M=>v= .none/\∃V,M=GV J g Z X O Q b W U V⟩
variable{Y J g Z X O Q b W U}
theorem qb(e:Y=J)(G:J=0\/J=100):(Jq Y J g Z X O Q b W U).ok:=by
 subst e;haveI e:b+1-1=b:=by exact"q8yl(O/S2EP#!"
 haveI D:∀N,V.none= .none/\∃R,([(4+Y,some (g,cLog Y Z N (b+1-1) (b+1-1))),(6+Y,some (Z,ui X O Q b W U)),(5+Y,some (N,jy .none [] (b+U.length+1)))]:MH)=GV Y g Z X O Q b W U R:=λ N=>⟨rfl,N,by rw[e];rfl⟩;rcases G with rfl|rfl<;>exact Cq.of λ n=>go _ [2,2]<|b_ _ λ N=>go _ [2]<|pk _ (D N)
end
section
variable(Z:Nat)(J:List Nat)(i m:Nat)(a b:List Int)
def GW:Ct:=⟨1,false,917,Z,[.lst (vN J),.int i],[],.int (aj J i),[]⟩
def Jr:Ct:=⟨1,false,934,Z,[.lst (vI a),.lst (vI b)],[],.int m,[]⟩
def Js:Ct:=⟨1,false,939,Z,[.lst (vI a),.int m],[],.int (ki a m),[]⟩
variable{Z J i m a b}
theorem iB(D:0<J.length)(l:J.length<=100)(G:i<=100):(GW Z J i).ok:=by
 haveI Y:(vN J).length=J.length:=List.length_map ..;haveI U:i%J.length<J.length:=Nat.mod_lt _ D;haveI R:(vN J)[i%J.length]?=some (.int ((J.getD (i%J.length) 0:Nat):Int)):=by rw[List.getElem?_map,List.getElem?_eq_getElem U,List.getD_eq_getElem?_getD,List.getElem?_eq_getElem U];rfl
 haveI X:small ((vN J).length:Nat)=true:=aB (by exact"7A,x&aJ") (by rw[Y];exact"eA>Wd'hz}WquC%^H" l);haveI Q:(0:Int)<((vN J).length:Nat)/\small ((vN J).length:Nat)=true:=⟨by rw[Y];exact"12Q$mMq]tW" U,X⟩;haveI W:(i:Int)/((vN J).length:Nat)=((i/J.length:Nat):Int):=by rw[Y];rfl
 haveI O:i/J.length<=i:=Nat.div_le_self ..;haveI N:(small 7919&&small ((i:Int)/((vN J).length:Nat)))=true:=by rw[W];generalize i/J.length=j at O;exact Bool.and_eq_true_iff.mpr ⟨aB (by exact"|RofQ>/ck>1") (by exact"s*QN4<WBHA}Fq#Y"),aB (by exact"7A,x&aJ") (by exact"6YF~9:y`9|js=+0bqI(" G O)⟩
 exact Ct.of λ n=>au _ Q<|cn _ (bb (i:=(i:Int)%((vN J).length:Nat)) (by rw[Y];rfl) R)<|au _ Q<|au _ N<|bk _ (show V.int (((J.getD (i%J.length) 0:Nat):Int)+7919*((i:Int)/((vN J).length:Nat)))= .int (aj J i)by rw[W];rfl)
def wY(a b:List Int)(v:V):Option V:=match v with|.int i=>if a.take (i+1).toNat=b.take (i+1).toNat then some v else none|_=>none
theorem GX:(ao (0:Nat) ((0+min a.length b.length:Nat):Int)).filterMap (wY a b)=((List.range' 0 (min a.length b.length)).filter λ k=>decide (a.take (k+1)=b.take (k+1))).map λ(k:Nat)=>V.int k:=fw λ k _ _=>by
 show(if a.take ((k:Int)+1).toNat=b.take ((k:Int)+1).toNat then _ else _)=_;rw[show((k:Int)+1).toNat=k+1 by exact"pwmqBm_`^cY(`2pAO" rfl];by_cases c:a.take (k+1)=b.take (k+1);.rw[if_pos c,decide_eq_true c];rfl
 .rw[if_neg c,decide_eq_false c];rfl
theorem sP(h:Ji a b m)(U:a.length<=100):(Jr Z m a b).ok:=by
 obtain@⟨@⟨h1,h2⟩,K,G⟩:=h;haveI D:(vI a).length=a.length:=List.length_map ..;haveI T:(vI b).length=b.length:=List.length_map ..;haveI Y:min (((vI a).length:Nat):Int) ((vI b).length:Nat)=((0+min a.length b.length:Nat):Int):=by rw[D,T];exact"0nlA%g4T*b[0sTo~qt{zp[Z'8s_uscF<jcF_[z9M%" rfl rfl
 haveI H:min (((vI a).length:Nat):Int) ((vI b).length:Nat)-0<=1000/\small 0=true/\small (min (((vI a).length:Nat):Int) ((vI b).length:Nat))=true:=⟨by rw[Y];exact"`IJ^7ni[8t+s+90tkod*Y?45=R5D" rfl U,by decide,aB (by exact"t5I~jMj]Bb5jqQQ]" rfl) (by rw[Y];exact"mz(/lPVoUN|Pu2#+Oj8T7RqY,8," rfl U)⟩;haveI X:(ao 0 (min (((vI a).length:Nat):Int) ((vI b).length:Nat))).filterMap (wY a b)=((List.range' 0 (min a.length b.length)).filter λ k=>decide (a.take (k+1)=b.take (k+1))).map λ(k:Nat)=>V.int k:=by rw[Y];exact GX
 haveI W:=lU (p:=λ k=>decide (a.take (k+1)=b.take (k+1))) (m:=m) (a:=0) (n:=min a.length b.length) (Nat.zero_le _) (by exact"oxd??e$5/4w^}G1Q?lx'" [_,_,_,min a.length b.length] [] rfl h1 h2) (decide_eq_true K) λ k L Q=>decide_eq_false (G k L (by exact"mOc/'ToaFH.74zT0g*#" [_,_,_,min a.length b.length] [] rfl Q) (by exact"+2uTRC4yI,wg0Dk7S8#" [_,_,_,min a.length b.length] [] rfl Q));rw[<-X]at W;refine Ct.of λ n=>au _ H<|hY _ (wY a b) (l:=ao 0 (min (((vI a).length:Nat):Int) ((vI b).length:Nat))) (M:=[]) (λ v I R r=>?_) ?_<|cn _ (congrArg (Option.map V.int) W)<|fin _;.
  obtain⟨i,rfl,N,_⟩:=c_ I;haveI O:uH (.lst (((vI a).drop 0).take (av (vI a).length (i+1)-0))) (.lst (((vI b).drop 0).take (av (vI b).length (i+1)-0)))=some (decide (a.take (i+1).toNat=b.take (i+1).toNat)):=by rw[lV (k:=(i+1).toNat) (by exact"^=cA%{R#H#A>9lcHT:e5^m#" rfl N),lV (k:=(i+1).toNat) (by exact"^=cA%{R#H#A>9lcHT:e5^m#" rfl N)];exact i5
  by_cases c:a.take (i+1).toNat=b.take (i+1).toNat;.exact p8 _ O<|yq _ c<|pk _ (show R (some (.int i)) []by have:=r;unfold wY at this;dsimp only at this;rw[if_pos c]at this;exact this)
  .exact p8 _ O<|nq _ c<|pk _ (show R none []by have:=r;unfold wY at this;dsimp only at this;rw[if_neg c]at this;exact this)
 .rw[X,List.length_map];exact Nat.le_trans (List.length_filter_le ..) (by rw[List.length_range'];unfold lid;exact"V]Z:'AZfA$zWbg_wlr!({d(" rfl U)
def zE(l:List Int)(a:Nat)(v:V):Option V:=match v with|.int i=>if i=(a:Int)+1\/¬ai l i.toNat=ai l (i-1).toNat then some v else none|_=>none
theorem GY:(ao (m+1:Nat) ((m+1+(a.length-m-1):Nat):Int)).filterMap (zE a m)=((List.range' (m+1) (a.length-m-1)).filter λ p=>decide (p=m+1)||!decide (ai a p=ai a (p-1))).map λ(k:Nat)=>V.int k:=fw λ k _ _=>by
 show(if(k:Int)=(m:Int)+1\/¬ai a (k:Int).toNat=ai a ((k:Int)-1).toNat then _ else _)=_;rw[show(k:Int).toNat=k by exact"c6}sCe=H[x(h/F" rfl,show((k:Int)-1).toNat=k-1 by exact"OC*P^PMC2hvGOwae5F`h|]Hy?KA(O9*v(G" rfl rfl];by_cases c:k=m+1;.rw[if_pos (.inl (by exact"+O6Jw!jngW)n1`C" c)),decide_eq_true c];rfl
 .
  rw[decide_eq_false c];by_cases Y:ai a k=ai a (k-1);.rw[if_neg λ h=>by rcases h with h|h;exact"3?6_]?mbj1:],o<hK" c h;exact h Y,decide_eq_true Y];rfl
  .rw[if_pos (.inr Y),decide_eq_false Y];rfl
theorem qc(G:m<a.length)(Q:a.length<=100):(Js Z m a).ok:=by
 haveI O:(vI a).length=a.length:=List.length_map ..;have U:(((vI a).length:Nat):Int)=((m+1+(a.length-m-1):Nat):Int):=by rw[O];exact"gSB;V)B!^e.*~7HeQo7Xe8d*l5JJXvw'" [_,_,a.length-m,_] [] rfl rfl G
 haveI N:(ao ((m:Int)+1) ((vI a).length:Nat)).filterMap (zE a m)=((List.range' (m+1) (a.length-m-1)).filter λ p=>decide (p=m+1)||!decide (ai a p=ai a (p-1))).map λ(k:Nat)=>V.int k:=by rw[U];exact GY
 haveI I:(((vI a).length:Nat):Int)-((m:Int)+1)<=1000/\small ((m:Int)+1)=true/\small ((vI a).length:Nat)=true:=⟨by exact"'A?[<Q]<lxs_66f{6poElGG2G5iXUSG.sF,F*Vql8152,p<[&!8" [_,_,_,a.length-m,a.length-m-1] [] rfl rfl Q U,aB (by exact"G/xL[Y?Y&") (by exact"F^pK0jTsTsNwq_^<[!VY<jk(dk29=X8" [_,_,_,a.length-m,a.length-m-1] [] Q O U),aB (by exact"7A,x&aJ") (by exact"CN[w59a[lCUlrQxzN0)$" Q O)⟩;refine Ct.of λ n=>au _ I<|hY _ (zE a m) (l:=ao ((m:Int)+1) ((vI a).length:Nat)) (M:=[]) (λ v K R r=>?_) ?_<|bk _ (congrArg (λ n:Nat=>V.int n) (show((ao ((m:Int)+1) ((vI a).length:Nat)).filterMap (zE a m)).length=ki a m by rw[N,List.length_map];rfl));.
  obtain⟨i,rfl,W,Y⟩:=c_ K;haveI r:R (if i=(m:Int)+1\/¬ai a i.toNat=ai a (i-1).toNat then some (.int i)else none) []:=r;by_cases z:i=(m:Int)+1;.rw[if_pos (.inl z)]at r;exact yq _ z<|yq _ z<|pk _ r
  .
   haveI X:=kh (i:=i) (k:=i.toNat) (by exact"Y!.abiP:OU_N4p(#(Kg,gZ" rfl W) (show i.toNat<a.length by exact"o(PDHjQQUguG3#%3R#!JLIl6yTL~Tf~1uy$EHWtXS%gO#|;I^t*G?7:,O~" [_,_,_,_,a.length-m,a.length-m-1] [_] rfl rfl rfl U W Y);haveI D:=kh (i:=i-1) (k:=(i-1).toNat) (by exact"*1L%|0a0gpb{N8d8,l&_?(cL|L" rfl W) (show(i-1).toNat<a.length by exact"sQ|04Jr;KX[klRIRI_A8]5839bv#KD{mw,=/l'163[(=bx,X|Oa8V5_7c,[7bubF" [_,_,_,_,a.length-m,a.length-m-1] [_] rfl rfl rfl U W Y);by_cases y:ai a i.toNat=ai a (i-1).toNat;.rw[if_neg λ h=>by rcases h with h|h;exact z h;exact h y]at r;exact nq _ z<|cn _ X<|cn _ D<|nn _ y<|pk _ r
   .rw[if_pos (.inr y)]at r;exact nq _ z<|cn _ X<|cn _ D<|yn _ y<|pk _ r
 .rw[N,List.length_map];exact Nat.le_trans (List.length_filter_le ..) (by rw[List.length_range'];unfold lid;exact"PH3(7tC%:*S?^;4$9I??=3fs{lahXljUG'" [_,_,a.length-m,_] [] rfl rfl Q)
end
structure Ev where
 off:Nat
 d:Int
 t:Int
 X:Fx
def Ev.Mx(e:Ev)(H:Hd)(w:Wd)(Y Z J:List V):MH:=WX e.d e.t e.X H w Y Z J
def Ev.M(e:Ev)(H:Hd)(w:Wd):MH:=WM e.d e.t e.X H w
def Ev.lead(e:Ev)(H:Hd)(w:Wd):Lc:=⟨e.off,e.d,e.t,H.NL e.X,w.L,w.aA⟩
def Ev.other(e:Ev)(H:Hd)(w:Wd):Lc:=⟨e.off,e.d,e.t,H.NO,w.O,w.sure⟩
def Ev.ml(e:Ev)(w:Wd):List V:=w.ae.map (lY e.d e.t w.L.th)
def Ev.hl(e:Ev)(w:Wd):List V:=w.held.map (g8 e.d e.t)
def Ev.bl(e:Ev)(w:Wd):List V:=w.back.map (g8 e.d e.t)
def wQ(e:Ev)(v:V)(J:Wd)(Z:V)(M:MH):Prop:=Z=v/\∃H,HW e.d H J/\M=e.M H J
def wC(e:Ev)(H:Hd)(w Z:Wd)(k f:Nat)(J:List V)(v:V):Cq:=⟨k,false,f,e.off,.ref 0 e.X.g0::J,e.M H w,wQ e v Z⟩
def DC(e:Ev)(v:V)(J:Wd):QS:=λ o _ M=>match o with|.ret Z=> .p (wQ e v J Z M)|.az=> .p (wQ e v J .none M)|_=> .no
def wG(e:Ev)(v:V)(Z:Wd)(n f k:Nat)(J:Loc)(M:MH):G:=gB n tabs false e.off ((fnOf f).body.drop k) J M (DC e v Z)
def rR(Y n f k:Nat)(R:QS)(J:Loc)(M:MH):Prop:=∀Z,bE Z M->fm M Z (iE (bB tabs fns n) tabs false Y ((fnOf f).body.drop k) J Z) R
def rS(e:Ev)(v:V)(Z:Wd)(n f k:Nat)(J:Loc)(M:MH):Prop:=rR e.off n f k (DC e v Z) J M
theorem kq{e:Ev}{v:V}{Z:Wd}{n f k:Nat}{J:Loc}{M:MH}(h:(wG e v Z n f k J M).sat):rS e v Z n f k J M:=λ Y S=>iZ _ _ _ _ _ _ _ S h
theorem GZ{Z n f k:Nat}{R:QS}{J:Loc}{M:MH}(h:(gB n tabs false Z ((fnOf f).body.drop k) J M R).sat):rR Z n f k R J M:=λ Y S=>iZ _ _ _ _ _ _ _ S h
theorem sQ{U:kz}{T:aU}{W:Bool}{Z:Nat}{V:List PS}:∀{Q:List PS}{J:Loc}{Y:Hp},iE U T W Z (Q++V) J Y=(iE U T W Z Q J Y).next λ J Y=>iE U T W Z V J Y|[],_,_=>rfl|a::Q,J,Y=>by show(xT U T W Z a J Y).next (λ J Y=>iE U T W Z (Q++V) J Y)=((xT U T W Z a J Y).next λ J Y=>iE U T W Z Q J Y).next _;cases xT U T W Z a J Y with|stuck=>rfl|mk o J Y=>cases o with|az=>exact sQ|_=>rfl
def wT(e:Ev)(v:V)(Z:Wd)(n f k m:Nat)(J:Loc)(M:MH)(K:Loc->MH->G):G:=gB n tabs false e.off (((fnOf f).body.drop k).take m) J M (hW K (DC e v Z))
theorem jB{Z n f k:Nat}{R:QS}{J:Loc}{M:MH}(m:Nat)(K:Loc->MH->G)(r:∀J s,(K J s).sat->rR Z n f (k+m) R J s)(h:(gB n tabs false Z (((fnOf f).body.drop k).take m) J M (hW K R)).sat):rR Z n f k R J M:=λ Q S=>by rw[<-List.take_append_drop m ((fnOf f).body.drop k),sQ,List.drop_drop];exact(iZ _ _ _ _ _ _ _ S h).next λ J W Y U q=>r J W q Y U
theorem AZ{e:Ev}{v:V}{Z:Wd}{n f k:Nat}{J:Loc}{M:MH}(m:Nat)(K:Loc->MH->G)(r:∀J s,(K J s).sat->rS e v Z n f (k+m) J s)(h:(wT e v Z n f k m J M K).sat):rS e v Z n f k J M:=jB m K r h
theorem rR.mono{Z n f k:Nat}{R Y:QS}{J:Loc}{M:MH}(h:rR Z n f k R J M)(q:∀o J M,(R o J M).sat->(Y o J M).sat):rR Z n f k Y J M:=λ W S=>by obtain@⟨@o,@J,@O,@V,Q,U,k⟩:=(h W S).Eh;rw[Q];exact⟨V,U,q _ _ _ k⟩
theorem Cq.H8{c:Cq}(h:∀n,rR c.off (n+(c.k-1)) c.f 0 c.fin ((fnOf c.f).params.zip c.vs) c.M)(z:autoParam ((c.good&&!c.hd)=true) krf):c.ok:=⟨λ n U Y S=>by obtain⟨W,Q⟩:=Bool.and_eq_true_iff.mp z;obtain@⟨l,V,Z⟩:=oq (c:=⟨c.k,c.hd,c.f,c.off,c.vs,c.M,.none,[]⟩) W;obtain⟨m,rfl⟩:∃m,n=m+(c.k-1)+1:=⟨n-c.k,by have:1<=c.k:=Z;have:c.k<=n:=U;exact"$n<nmjLnndd=;z|/?V$J0PVQB05]yU%" rfl rfl Z this⟩;rw[lP l,(Bool.not_eq_true' c.hd).mp Q];exact sD V (h m Y S) (λ v J M q=>q.h) (λ J M q=>q.h) (λ C m J M q=>(q.h:False).elim) (λ J M q=>(q.h:False))⟩
def zF(J:Loc)(Y:MH)(Z:Loc)(s:MH):G:= .fin (.obj 0 Z) (.obj 0 J) s Y
theorem cK{e:Ev}{v:V}{U:Wd}{n f k:Nat}{Z J:Loc}{M Y:MH}(m:Nat)(r:rS e v U n f (k+m) J Y)(h:(wT e v U n f k m Z M (zF J Y)).sat):rS e v U n f k Z M:=AZ m (zF J Y) (λ _ _ q=>by obtain⟨h1,h2⟩:=(⟨V.ED q.h.1,q.h.2⟩:_=J/\_=Y);subst h1 h2;exact r) h
theorem J7{e:Ev}{v:V}{Y:Wd}{n f k:Nat}{Z:Loc}{M:MH}(m:Nat)(J:Loc->MH->Prop)(r:∀Z s,J Z s->rS e v Y n f (k+m) Z s)(h:(wT e v Y n f k m Z M λ Z s=> .p (J Z s)).sat):rS e v Y n f k Z M:=AZ m (λ Z s=> .p (J Z s)) (λ Z s q=>r Z s (show J Z s from q.h)) h
theorem sR{e:Ev}{H:Hd}{w Z:Wd}{c f:Nat}{J:List V}{v:V}(h:∀n,rS e v Z (n+(c-1)) f 0 ((fnOf f).params.zip (.ref 0 e.X.g0::J)) (e.M H w))(z:autoParam (((wC e H w Z c f J v).good&&!(wC e H w Z c f J v).hd)=true) krf):(wC e H w Z c f J v).ok:=Cq.H8 (c:=wC e H w Z c f J v) (λ n=>(h n).mono λ o Y M q=>by cases o<;>exact q) z
def J8(e:Ev)(H:Hd)(w:Wd):List Nat:=(e.M H w).map (·.1)
theorem cf(g:G){e:Ev}{H:Hd}{w Z:Wd}{k f:Nat}{Y:List V}{v:V}(t:(wC e H w Z k f Y v).ok)(q:∀J,HW e.d J Z->(g.cQ v (e.M J Z)).sat)(z:autoParam ((g.ea,g.cS,g.cC k,g.cM)=(g.eb,(false,f,e.off,.ref 0 e.X.g0::Y),true,e.M H w)) krf):g.sat:=da g t (λ W M h=>by obtain⟨rfl,J,U,rfl⟩:=h;exact q J U) z
theorem DD(g:G){e:Ev}{H:Hd}{w Z:Wd}{k f:Nat}{Y:List V}{v:V}(t:(wC e H w Z k f Y v).ok)(q:∀J,HW e.d J Z->(g.cQ v (e.M J Z)).sat)(z:autoParam ((g.kL (xY (e.M H w)) k,lS g.cM (J8 e H w))=(g.kR false f e.off (.ref 0 e.X.g0::Y) (xY (e.M H w)),true)) krf):g.sat:=GD g t (J8 e H w) (λ W M h=>by obtain⟨rfl,J,U,rfl⟩:=h;rfl) (λ W M h=>by obtain⟨rfl,J,U,rfl⟩:=h;exact q J U) z
theorem wx(g:G){e:Ev}{Q J:Wd}(v:V){W:V}(N:Q=J)(H:Hd){U Y Z:List V}(D:HW e.d H J)(R:W=v)(X:U=e.ml J)(O:Y=e.hl J)(e3:Z=e.bl J)(h:autoParam ((g.ea,g.pP)=(g.eb,wQ e v Q W (e.Mx H J U Y Z))) krf):g.sat:=by subst X O e3 N;exact pk g ⟨R,H,D,rfl⟩ h
theorem dc{J Z:Type}(f:J->Z)(l:List J)(x:J):l.map f++[f x]=(l++[x]).map f:=by rw[List.map_append];rfl
theorem zG{c:Lc}(W:LW c.L)(J:c.L.sn=false)(Z:Bool):Ct.ok ⟨2,Z,875,c.fo,[.ref 4 c.N.g],c.M 0,snap c.N.cv (c.d+c.L.base) (ai c.L.th c.L.base+c.t),c.M 0⟩:=by
 haveI Y:snap c.N.cv (c.d+c.L.kb) (ai c.L.kept c.L.kb+c.t)=snap c.N.cv (c.d+c.L.base) (ai c.L.th c.L.base+c.t):=by rw[<-W.kt J,(W.n J).1]
 haveI q:¬c.d+(c.L.kb:Int)<c.d+(c.L.kb:Int):=Int.lt_irrefl _;haveI h:∀s,s=false->Ct.ok ⟨2,Z,875,c.fo,[.ref 4 c.N.g],c.Ms 0 s,snap c.N.cv (c.d+c.L.base) (ai c.L.th c.L.base+c.t),c.Ms 0 s⟩:=λ s z=>by subst z;exact Ct.of λ n=>go _ [0,2]<|nq _ q<|bk _ Y
 exact h _ J
section
variable{e:Ev}{w:Wd}{H:Hd}{b J:Bool}
def sS(e:Ev)(H:Hd)(w:Wd)(b J:Bool)(u:Loc):Loc:=[(112,.ref 0 e.X.g0),(113,.bool b),(114,.ref 4 e.X.gl),(115,.ref 1 e.X.gp),(78,.lst (vI w.L.th)),(100,.int e.d),(87,.int (H.u-1)),(9,.bool J)]++u
theorem wZ{a b c d:Int}(h1:a=c)(h2:b=d):ew .Eq (.tup [.int a,.int b]) (.tup [.int c,.int d])=some true:=by subst h1 h2;show some (decide (a=a)&&(decide (b=b)&&true))=_;rw[decide_eq_true rfl,decide_eq_true rfl];rfl
theorem G0(B:Bd e.d e.t)(I:WI w)(Z:HW e.d H w)(R:w.ae.length<900)(N:¬(w.st=2\/w.fp=true))(V:w.up<w.L.base+2)(n:Nat):rS e (.bool true) (w.send b) (n+6) 956 7 (sS e H w b J []) (e.M H w):=by
 haveI Q:=Z.u;haveI O:=I.u1;haveI U:=B.d1;haveI T:=oB (c:=e.lead H w) B (.inl rfl) I.l (i:=H.u-1) (by exact"mhEan$8&nR4~!5.RIiZI{ea&(dXa%B3O*" Q O U) (show H.u-1<e.d+w.L.base by exact"!35Uc/_0hZrg2Tj`7;ae_pu3^YadQK=ds|&,}NC" V Q U);haveI S:=zG (c:=e.lead H w) I.l I.ls true;haveI X:H.u-1<e.d+(w.L.base:Int):=by exact"!35Uc/_0hZrg2Tj`7;ae_pu3^YadQK=ds|&,}NC" V Q U
 haveI D:w.send b={w with st:=2,pt:=w.L.base+1,fp:=false,fl:=[],ae:=w.ae++[.fT w.L.base]}:=by unfold Wd.send;rw[if_neg N,if_pos V]
 haveI Y:HW e.d {H with pe:=e.d+w.L.base,oct:=0,start:=0} {w with st:=2,pt:=w.L.base+1,fp:=false,fl:=[],ae:=w.ae++[.fT w.L.base]}:=⟨RR.nil I.z Z.r.s3 Z.r.rs,Z.m,Z.u,by show e.d+(w.L.base:Int)=mI e.d (w.L.base+1);unfold mI;rw[if_neg (by exact"izwoDjBo%")];exact"Ri&KrNL}n[9(1Uh"⟩;haveI W:(e.ml w).length<lid:=by unfold Ev.ml;rw[List.length_map];unfold lid;exact"YKcuUT2#)n]75;&" R
 exact kq<|sE _ T<|call _ S<|go _ [2,2,2]<|au _ W<|yq _ X<|cn _ (kh (k:=w.L.base) rfl I.l.b1)<|p8 _ (wZ (rfl:e.d+(w.L.base:Int)=_) (rfl:ai w.L.th w.L.base+e.t=_))<|wx _ (.bool true) D _ Y rfl (dc (lY e.d e.t w.L.th) w.ae (.fT w.L.base)) rfl rfl
end
theorem Wd.jC{w:Wd}(I:WI w)(h:¬w.up<w.L.base+2):w.k<=w.L.th.length-(w.up-1):=by
 unfold Wd.k;split;.exact"`j({We%" [w.L.th.length,w.up,w.up-1,_] []
 .haveI:=oy (n:=w.lim) (l:=w.L.th.drop (w.up-1));rw[List.length_drop]at this;exact this
section
variable{e:Ev}{w:Wd}{H:Hd}{b:Bool}{J:List V}
def A0(e:Ev)(H:Hd)(w:Wd)(b:Bool)(J:List V)(u:Loc):Loc:=sS e H w b w.full ((117,.lst J)::(33,.int (ai w.L.th (w.up-2)+e.t))::u)
def qd(e:Ev)(H:Hd)(w:Wd)(b:Bool)(J:List V)(n:Nat):G:=wG e (.bool true) (w.send b) (n+6) 956 13 (A0 e H w b J [(102,.int (H.u-1-e.d))]) (e.M H w)
theorem gI{Y:Wd}(U:H.u-1=e.d+((w.up-2:Nat):Int))(Z:J=ents e.d e.t (w.up-2+1) ((w.L.th.drop (w.up-2+1)).take w.k))(h1:Y.L=w.L)(h2:Y.ae=w.ae++[.aN (w.up-2) w.k]):e.ml w++[.tup [.int (H.u-1),.int (ai w.L.th (w.up-2)+e.t),.lst J,.none]]=e.ml Y:=by unfold Ev.ml;rw[h1,h2,U,Z];exact dc (lY e.d e.t w.L.th) w.ae (.aN (w.up-2) w.k)
theorem G1(U:HW e.d H w)(Z:w.send b=w)(q:¬(0:Int)<(J.length:Nat))(Y:b=false)(n:Nat):(qd e H w b J n).sat:=nq _ q<|fq _ Y<|wx _ (.bool true) Z H U rfl rfl rfl rfl
theorem G3(Z:HW e.d H w)(X:(e.ml w).length<lid)(Y:J.length=w.k)(Q:H.u-1=e.d+((w.up-2:Nat):Int))(U:J=ents e.d e.t (w.up-2+1) ((w.L.th.drop (w.up-2+1)).take w.k))(N:w.st=0)(G:¬(w.k=0/\b=false))(V:w.send b={w with fp:=decide (0<w.k)||w.fp,ae:=w.ae++[.aN (w.up-2) w.k]})(n:Nat):(qd e H w b J n).sat:=by
 haveI O:¬(w.st:Int)=1:=by exact"4oL,Vzznee5" N
 have R:(w.st:Int)=0:=by exact"aU)ZXLqYfU6>$" N
 by_cases W:w.k=0;.
  haveI q:¬(0:Int)<(J.length:Nat):=by exact"%!cSXpaRb?u=sP" Y W
  have D:b=true:=by cases b;exact absurd ⟨W,rfl⟩ G;rfl
  rw[decide_eq_false (show¬0<w.k by exact"AuZ66B%b!/" W),Bool.false_or]at V;exact nq _ q<|tq _ D<|go _ [2]<|nq _ O<|yq _ R<|nq _ q<|au _ X<|wx _ (.bool true) V H ⟨Z.r,Z.m,Z.u,Z.p⟩ rfl (gI Q U rfl rfl) rfl rfl
 .
  haveI q:(0:Int)<(J.length:Nat):=by exact"X_6Jq(1)G_F}&+m:'$" Y W
  rw[decide_eq_true (show 0<w.k by exact"~i+;=+fT1C_H" W),Bool.true_or]at V;exact yq _ q<|yq _ q<|go _ [2]<|nq _ O<|yq _ R<|yq _ q<|au _ X<|wx _ (.bool true) V H ⟨Z.r,Z.m,Z.u,Z.p⟩ rfl (gI Q U rfl rfl) rfl rfl
theorem l5{d:Int}{l:List (Nat×Nat)}:(km d l).length=l.length:=List.length_map ..
theorem G4(Z:HW e.d H w)(N:(e.ml w).length<lid)(V:J.length=w.k)(W:H.u-1=e.d+((w.up-2:Nat):Int))(Y:J=ents e.d e.t (w.up-2+1) ((w.L.th.drop (w.up-2+1)).take w.k))(G:w.st=1)(D:w.k=0)(R:b=true)(Q:w.send b={w with fp:=decide (w.size<=w.fl.length),ae:=w.ae++[.aN (w.up-2) w.k]})(n:Nat):(qd e H w b J n).sat:=by
 haveI X:(w.st:Int)=1:=by exact"Z&t<cs*p8uS6" G
 haveI q:¬(0:Int)<(J.length:Nat):=by exact"%!cSXpaRb?u=sP" V D
 haveI U:=l5 (d:=e.d) (l:=w.fl);by_cases z:w.size<=w.fl.length;.
  haveI O:(w.size:Int)<=(km e.d w.fl).length:=by exact"sI[Fs!jxzo4X" U z
  rw[decide_eq_true z]at Q;exact nq _ q<|tq _ R<|go _ [2]<|yq _ X<|nq _ q<|go _ [2]<|yq _ O<|au _ N<|wx _ (.bool true) Q H ⟨Z.r,Z.m,Z.u,Z.p⟩ rfl (gI W Y rfl rfl) rfl rfl
 .
  haveI O:¬(w.size:Int)<=(km e.d w.fl).length:=by exact",VoZ?4iro`,DZM" U z
  rw[decide_eq_false z]at Q;exact nq _ q<|tq _ R<|go _ [2]<|yq _ X<|nq _ q<|go _ [2]<|nq _ O<|go _ [0]<|au _ N<|wx _ (.bool true) Q H ⟨Z.r,Z.m,Z.u,Z.p⟩ rfl (gI W Y rfl rfl) rfl rfl
theorem G5(K:HW e.d H w)(L:(e.ml w).length<lid)(U:J.length=w.k)(Y:H.u-1=e.d+((w.up-2:Nat):Int))(O:J=ents e.d e.t (w.up-2+1) ((w.L.th.drop (w.up-2+1)).take w.k))(C:w.st=1)(P:0<w.k)(T:2<=w.up)(F:w.fl.length<w.size)(N:w.send b={w with fl:=w.fl++[(w.up-1+w.k,w.k)],up:=w.up+w.k,fp:=decide (w.size<=w.fl.length+1),ae:=w.ae++[.aN (w.up-2) w.k]})(n:Nat):(qd e H w b J n).sat:=by
 haveI B:(w.st:Int)=1:=by exact"Z&t<cs*p8uS6" C
 haveI q:(0:Int)<(J.length:Nat):=by exact"h+h';s~DW>L2*" U P
 haveI R:=l5 (d:=e.d) (l:=w.fl);haveI I:km e.d w.fl++[(H.u-1+(J.length:Nat),((J.length:Nat):Int))]=km e.d (w.fl++[(w.up-1+w.k,w.k)]):=by unfold km;rw[List.map_append,U];refine congrArg (_++·) ?_;show[(_,_)]=[(_,_)];rw[show H.u-1+(w.k:Int)=e.d+((w.up-1+w.k:Nat):Int)-1 by exact"y[=yqhUM<6[6'z7rse+_HML+DLwdc_;V#v>I5+Xw8xzO5N!+#" [_,_,_,w.up-2] [_,_] rfl rfl Y T]
 haveI A:=GJ (N:=false) (O:=e.off) (g:=H.gi) (X:=H.gr) (Q:=H.oct) (i:=H.u-1+(J.length:Nat)) (o:=(J.length:Nat)) K.r (by exact"Jfo0jbe/#U0!" F R);refine yq _ q<|yq _ q<|go _ [2]<|yq _ B<|yq _ q<|e_ _ A λ v M h=>?_;obtain⟨rfl,h⟩:=h;rw[I]at h;obtain⟨Z,X,W,S,rfl⟩:=h;haveI Q:∀G,HW e.d {H with u:=H.u-1+(J.length:Nat)+1,start:=Z,oct:=X,ring:=W} {w with fl:=w.fl++[(w.up-1+w.k,w.k)],up:=w.up+w.k,fp:=G,ae:=w.ae++[.aN (w.up-2) w.k]}:=λ _=>⟨S,K.m,.inl (by show H.u-1+(J.length:Nat)+1=e.d+((w.up+w.k:Nat):Int)-1;rw[U];exact"p_qt+PlcaqexD_#Tma1J4BFQIs<X0hLniy{2&Ie." [_,_,w.up-2] [_,_] rfl Y T),K.p⟩;haveI V:(km e.d (w.fl++[(w.up-1+w.k,w.k)])).length=w.fl.length+1:=by rw[l5,List.length_append];rfl
 by_cases z:w.size<=w.fl.length+1;.
  haveI D:(w.size:Int)<=(km e.d (w.fl++[(w.up-1+w.k,w.k)])).length:=by exact"aMWoVJ~>g_o8C9g" V z
  rw[decide_eq_true z]at N;exact go _ [2]<|yq _ D<|au _ L<|wx _ (.bool true) N _ (Q _) rfl (gI Y O rfl rfl) rfl rfl
 .
  haveI D:¬(w.size:Int)<=(km e.d (w.fl++[(w.up-1+w.k,w.k)])).length:=by exact"7JCi)b?y+`fs)47mX" V z
  rw[decide_eq_false z]at N;exact go _ [2]<|nq _ D<|go _ [0]<|au _ L<|wx _ (.bool true) N _ (Q _) rfl (gI Y O rfl rfl) rfl rfl
theorem G6(I:WI w)(N:HW e.d H w)(O:w.ae.length<900)(R:¬(w.st=2\/w.fp=true))(D:¬w.up<w.L.base+2)(Y:J.length=w.k)(Q:H.u-1=e.d+((w.up-2:Nat):Int))(U:J=ents e.d e.t (w.up-2+1) ((w.L.th.drop (w.up-2+1)).take w.k))(n:Nat):(qd e H w b J n).sat:=by
 have O:(e.ml w).length<lid:=by unfold Ev.ml;rw[List.length_map];unfold lid;exact"YKcuUT2#)n]75;&" O
 have Z:w.send b=(if w.k=0/\b=false then w else if w.st=0 then{w with fp:=decide (0<w.k)||w.fp,ae:=w.ae++[.aN (w.up-2) w.k]}else if w.k=0 then{w with fp:=decide (w.size<=w.fl.length),ae:=w.ae++[.aN (w.up-2) 0]}else{w with fl:=w.fl++[(w.up-1+w.k,w.k)],up:=w.up+w.k,fp:=decide (w.size<=w.fl.length+1),ae:=w.ae++[.aN (w.up-2) w.k]}):=by unfold Wd.send;rw[if_neg R,if_neg D]
 by_cases V:w.k=0/\b=false;.rw[if_pos V]at Z;exact G1 N Z (by rw[Y,V.1];exact Int.lt_irrefl 0) V.2 n
 .
  rw[if_neg V]at Z;by_cases X:w.st=0;.rw[if_pos X]at Z;exact G3 N O Y Q U X V Z n
  .
   rw[if_neg X]at Z;have h1:w.st=1:=JH I.st X λ z=>R (.inl z);by_cases W:w.k=0;.
    rw[if_pos W]at Z;have G:b=true:=by cases b;exact absurd ⟨W,rfl⟩ V;rfl
    exact G4 N O Y Q U h1 W G (by rw[W];exact Z) n
   .
    rw[if_neg W]at Z;refine G5 N O Y Q U h1 (by exact"~i+;=+fT1C_H" W) (by exact"xvDI&it/1SH," D) ?_ Z n;haveI:w.full=false:=by cases z:w.full with|false=>rfl|true=>exfalso;apply W;unfold Wd.k;rw[z];rfl
    unfold Wd.full at this;rw[decide_eq_true h1,Bool.true_and]at this;haveI:=of_decide_eq_false this;exact"1Kcsl)b.!" this
end
theorem l6{d t:Int}{v:V}:∀{p:Nat}{l:List Int},v∈ents d t p l->∃(q:Nat)(x:Int),v=ent d t q x
 |p,x::l,h=>by
  rcases List.mem_cons.mp h with h|h;.exact⟨p,x,h⟩
  .exact l6 h
def A3(t:Int):V->Option V|.obj _ ((_,.int x)::_)=>some (.int (x-t))|_=>none
theorem qe{d t:Int}:∀{p:Nat}{l:List Int},(ents d t p l).filterMap (A3 t)=vI l|_,[]=>rfl|p,x::l=>by show(ent d t p x::ents d t (p+1) l).filterMap (A3 t)=_;rw[List.filterMap_cons_some (f:=A3 t) (b:= .int (x+t-t)) rfl,qe,show x+t-t=x by exact"EIcvc#V49V58!"];rfl
theorem w7{n:Int}{l:List Int}:cut n l=l.take (cut n l).length:=by
 unfold cut;split;.rw[List.length_take,<-List.take_eq_take_min]
 .rw[List.take_length]
theorem zH{n:Int}{l:List Int}(h:(cut n l).length=0):l=[]:=by cases l with|nil=>rfl|cons x r=>unfold cut at h;split at h<;>cases h
theorem w8{p:Prop} [Decidable p]{b:Bool}(h:p↔b=true):(!(decide p==b))=false:=by cases b with|false=>rw[decide_eq_false λ z=>Bool.false_ne_true (h.mp z)];rfl|true=>rw[decide_eq_true (h.mpr rfl)];rfl
section
variable{e:Ev}{w:Wd}{H:Hd}{b Z:Bool}{J:List V}
theorem w9(I:WI w)(z:HW e.d H w)(B:w.ae.length<900)(A:¬(w.st=2\/w.fp=true))(W:¬w.up<w.L.base+2)(U:J.length=w.k)(Y:H.u-1=e.d+((w.up-2:Nat):Int))(Q:J=ents e.d e.t (w.up-2+1) ((w.L.th.drop (w.up-2+1)).take w.k))(N:w.k=0↔(w.full=true\/w.up-2=w.L.th.length-1))(n:Nat):rS e (.bool true) (w.send b) (n+6) 956 9 (A0 e H w b J []) (e.M H w):=by
 haveI X:=I.u2;haveI P:=Wd.jC I W;haveI K:=I.l.t1.1;haveI E:=G6 (b:=b) I z B A W U Y Q n;haveI G:(vI w.L.th).length=w.L.th.length:=List.length_map ..;haveI C:¬H.u-1-e.d<(w.L.base:Int):=by exact"rG:5r^'T;,lsAl_.xIOw9Yf;m*)~4%&wnpH/$" [_,_,w.up-2] [_,_] rfl W Y
 haveI j:=kh (a:=w.L.th) (i:=H.u-1-e.d) (k:=w.up-2) (by exact"0$a,XQcL,[.JsLHoKI$I;#" [w.up,_] [_,_] Y) (by exact"!RIhP~^BL!sTORion^P70Cir" [w.up,_,_,_] [] rfl W X);haveI T:J.filterMap (A3 e.t)=vI ((w.L.th.drop (w.up-2+1)).take w.k):=by rw[Q];exact qe
 haveI M:∀v,v∈J->∃q x,v=ent e.d e.t q x:=λ v V=>by rw[Q]at V;exact l6 V
 haveI S:((vI w.L.th).drop (av (vI w.L.th).length (H.u-1-e.d+1))).take (av (vI w.L.th).length (H.u-1-e.d+1+(J.length:Nat))-av (vI w.L.th).length (H.u-1-e.d+1))=vI ((w.L.th.drop (w.up-2+1)).take w.k):=by rw[jv (a:=w.up-1) (b:=w.up-1+w.k) (by exact"4?S{|Ybk!0$Tl3c~Dh+3CrZzoxeEn7^U!!t!RKH:gI3W`s)%n?" [w.up,_,_,w.up-2] [H.u,_] rfl rfl W Y) (by rw[U];exact";(Po}$%}'&u|..gh|/^h6LJ!;QD9Pa3JvO8!Wy|v^K~FV}U9s/sq0(" [w.k,_,_,w.L.base,w.up-2] [_,_] rfl rfl W Y) (by rw[G];exact"Igh>KxYU]j]+0{ab$" [w.up,_,_] [] rfl X) (by rw[G];exact";d0,1[Iz60u,i<#oT%fug[1~ayzVa'*t%i%" [w.up,_,_,w.L.th.length,w.L.th.length-(w.up-1)] [] rfl rfl X P),show w.up-1+w.k-(w.up-1)=w.k by exact"$%yJ+Uk/Y3EYtca0" [w.up,_,_,w.up-1+w.k-(w.up-1)] [] rfl,show w.up-2+1=w.up-1 by exact"fRpL;=Na&)b}d^tRqBV'iV6[,S%z'*pe%" [w.up,_,_,w.L.base] [] rfl rfl W];rw[<-List.map_drop,<-List.map_take]
 haveI L:ew .NotEq (.lst (J.filterMap (A3 e.t))) (.lst (((vI w.L.th).drop (av (vI w.L.th).length (H.u-1-e.d+1))).take (av (vI w.L.th).length (H.u-1-e.d+1+(J.length:Nat))-av (vI w.L.th).length (H.u-1-e.d+1))))=some false:=by rw[S,T];show(uH _ _).map (!·)=some false;rw[i5,decide_eq_true rfl];rfl
 haveI F:(J.filterMap (A3 e.t)).length<=lid:=by rw[T,List.length_map,List.length_take];unfold lid;exact"rIh]fl'0,,(05`unduB;t6#Iwe!LkJM$GwfmVEfuL)YRQ/" [_,_,_,_,w.up,_,w.L.th.length-(w.up-1)] [] rfl rfl P K
 refine cK (k:=9) 4 (kq E)<|nq _ C<|cn _ j<|nn _ (rfl:ai w.L.th (w.up-2)+e.t=_) ?_;cases O:w.full with|true=>haveI D:(!(decide (((J.length:Nat):Int)=0)==w.full))=false:=w8 (by rw[O];exact⟨λ _=>rfl,λ _=>by have:=N.mpr (.inl O);exact"zV:#wZgdnJw(+n5'%" U this⟩);exact tq _ O<|fq _ D<|hY _ (A3 e.t) (l:=J) (M:=e.M H w) (λ v V R r=>by obtain⟨q,x,rfl⟩:=M v V;exact go _ [1]<|pk _ r) F<|p8 _ L<|go _ [0]<|fin _|false=>haveI D:(!(decide (((J.length:Nat):Int)=0)==decide (H.u-1-e.d=((vI w.L.th).length:Nat)-1)))=false:=w8 (by rw[decide_eq_true_iff,G];exact⟨λ h=>by rcases N.mp (by exact"f9M+a=zmCe$PL!|Q'" [w.k,_] [] U h)with h|h;exact(Bool.false_ne_true (O.symm.trans h)).elim;exact"={^HAq>'+(J>6)Z2<hN&~5s?3Zq&;8[mz'bPOMIp^hCM6k)FH#" [w.L.th.length,_,_,_,w.L.th.length-1] [_,_] rfl W Y X h,λ h=>by have:=N.mpr (.inr (by exact"yK#UqKs;ap8]=B|thcfIMI9E%==5npN+B+q|GBd#" [w.up,_,_,_] [H.u,_] rfl Y h));exact"*ZRyhq/Y6{YVv{TO'" [J.length,_] [] U this⟩);exact fq _ O<|fq _ D<|hY _ (A3 e.t) (l:=J) (M:=e.M H w) (λ v V R r=>by obtain⟨q,x,rfl⟩:=M v V;exact go _ [1]<|pk _ r) F<|p8 _ L<|go _ [0]<|fin _
theorem G8(B:Bd e.d e.t)(I:WI w)(X:HW e.d H w)(D:w.ae.length<900)(N:¬(w.st=2\/w.fp=true))(U:¬w.up<w.L.base+2)(n:Nat):rS e (.bool true) (w.send b) (n+6) 956 7 (sS e H w b w.full []) (e.M H w):=by
 haveI G:=X.u;haveI L:=I.u1;haveI O:=I.u2;haveI K:=Wd.jC I U;haveI Y:H.u-1=e.d+((w.up-2:Nat):Int):=by exact".FM6V~V2tSAts`F$KyB&MvPmNQ+QWh';y5!DP05l<J)D?B$" rfl U G
 haveI T:=oA (c:=e.lead H w) (.inl rfl) I.l (p:=w.up-2) Y (by show w.L.base<=_;exact"+r=q)[k~0209xZbUuF,#" rfl U) (by show _<w.L.th.length;exact";*]d7,tq|)AfN)W0j[c(>HDO" rfl U O);haveI V:w.up-2+1=w.up-1:=by exact"Ly*nSG11z|_BWP|Ar;7j(=Im&83,!sd($" rfl rfl U
 rcases Bool.eq_false_or_eq_true w.full with z|z;rotate_left;.
  haveI W:w.k=(cut w.lim (w.L.th.drop (w.up-1))).length:=by unfold Wd.k;rw[z];rfl
  haveI E:=nc (c:=e.lead H w) B (.inl rfl) I.l I.ls I.li (p:=w.up-1) (Z:=H.u) (show H.u=e.d+((w.up-1:Nat):Int)by exact"2}/%jkmrGpv1sX3u+;'zEA3S5" [w.up,_,_] [_,_] Y V) (by show w.L.base<_;exact"t2Ye(vRS,nQ&5eVcCol" [w.L.base,_,_] [] rfl U) (by show _<=w.L.th.length;exact"Igh>KxYU]j]+0{ab$" [w.up,_,_] [] rfl O);haveI Q:(!w.full)=true:=by rw[z];rfl
  haveI R:=w9 (b:=b) (J:=ents e.d e.t (w.up-1) (cut w.lim (w.L.th.drop (w.up-1)))) I X D N U (by rw[aD,W]) Y (by rw[V,W,<-w7]) (by
   rw[z,W];refine⟨λ h=> .inr ?_,λ h=>?_⟩;.haveI:=congrArg List.length (zH h);rw[List.length_drop,List.length_nil]at this;exact".AX`UQRC|z|A!.+jeG*VN9b&'K^,VY!Nks1WhJ'+I|tRnN_7j]*jO|9}}a&}NltBT8QAcu0+[}Eh=`F`RQQc3j$7J`[_'/;Fl2Gt" [_,_,_,_,w.up-1,w.L.th.length-(w.up-1)] [] rfl rfl rfl rfl O this
   .
    rcases h with h|h;.exact(Bool.false_ne_true h).elim
    .rw[List.drop_eq_nil_of_le (by exact"8FW`CnZo7m}pm?Z:O~ZXDvm]" [_,w.up,_,_,w.L.th.length-1] [] rfl V h)];unfold cut;split<;>rfl) n;exact cK (k:=7) 2 R<|call _ T<|tq _ Q<|call _ E<|fin _
 .
  haveI W:w.k=0:=by unfold Wd.k;rw[z];rfl
  haveI Q:(!w.full)=false:=by rw[z];rfl
  haveI R:=w9 (b:=b) (J:=[]) I X D N U (by rw[W];rfl) Y (by rw[W];rfl) (by rw[W,z];exact⟨λ _=> .inl rfl,λ _=>rfl⟩) n;exact cK (k:=7) 2 R<|call _ T<|fq _ Q<|fin _
def w_(e:Ev)(H:Hd)(w:Wd)(b:Bool):Cq:=wC e H w (w.send b) 7 956 [.bool b] (.bool true)
theorem di(B:Bd e.d e.t)(I:WI w)(O:HW e.d H w)(R:w.ae.length<900):(w_ e H w b).ok:=sR λ n=>by
 haveI G:=I.st;by_cases Q:w.st=2\/w.fp=true;.
  have N:w.send b=w:=if_pos Q;by_cases h2:w.st=2;.exact kq<|go _ [2]<|nq _ (show¬(w.st:Int)=0 by exact"fEfhYO$mA^J" h2)<|nq _ (show¬(w.st:Int)=1 by exact"G0>C/}B+[r.!" h2)<|yq _ (show(w.st:Int)=2 by exact"89c+luPT>d+G1!" h2)<|go _ [1]<|wx _ (.bool true) N H O rfl rfl rfl rfl
  .
   haveI W:=Q.resolve_left h2;by_cases Y:w.st=0;.exact kq<|go _ [2]<|yq _ (show(w.st:Int)=0 by exact"aU)ZXLqYfU6>$" Y)<|yq _ (show(w.st:Int)=0 by exact"aU)ZXLqYfU6>$" Y)<|tq _ W<|wx _ (.bool true) N H O rfl rfl rfl rfl
   .exact kq<|go _ [2]<|nq _ (show¬(w.st:Int)=0 by exact"=Jal`{#33<P#PI#" Y)<|yq _ (show(w.st:Int)=1 by exact"=~L^5)*rj62j?Z,'D4!=6_F`Z%" G h2 Y)<|tq _ W<|wx _ (.bool true) N H O rfl rfl rfl rfl
 .
  have W:w.fp=false:=by cases h:w.fp;rfl;exact absurd (.inr h) Q
  have h2:¬w.st=2:=λ h=>Q (.inl h);haveI V:=l5 (d:=e.d) (l:=w.fl);have X:∀Z,Z=w.full->rS e (.bool true) (w.send b) (n+6) 956 7 (sS e H w b Z []) (e.M H w):=λ Z T=>by
   subst T;by_cases D:w.up<w.L.base+2;.exact G0 B I O R Q D n
   .exact G8 B I O R Q D n
  by_cases Y:w.st=0;.
   haveI L:decide ((w.st:Int)=1)=w.full:=by unfold Wd.full;rw[decide_eq_false (show¬(w.st:Int)=1 by exact"4oL,Vzznee5" Y),decide_eq_false (show¬w.st=1 by exact"*DOYEuCcu," Y)];rfl
   exact cK (k:=0) 7 (X _ L)<|go _ [2]<|yq _ (show(w.st:Int)=0 by exact"aU)ZXLqYfU6>$" Y)<|yq _ (show(w.st:Int)=0 by exact"aU)ZXLqYfU6>$" Y)<|fq _ W<|nq _ (show¬(w.st:Int)=1 by exact"4oL,Vzznee5" Y)<|fin _
  .
   haveI U:(w.st:Int)=1:=by exact"=~L^5)*rj62j?Z,'D4!=6_F`Z%" G h2 Y
   haveI K:w.full=decide (w.size<=w.fl.length):=by unfold Wd.full;rw[decide_eq_true (show w.st=1 by exact"s/Mth|*p8uS6" U),Bool.true_and]
   by_cases z:w.size<=w.fl.length;.exact cK (k:=0) 7 (X true (by rw[K,decide_eq_true z]))<|go _ [2]<|nq _ (show¬(w.st:Int)=0 by exact"/,DSDP>NeZ0*" U)<|yq _ U<|fq _ W<|yq _ U<|go _ [2]<|yq _ (show(w.size:Int)<=(km e.d w.fl).length by exact"sI[Fs!jxzo4X" V z)<|fin _
   .exact cK (k:=0) 7 (X false (by rw[K,decide_eq_false z]))<|go _ [2]<|nq _ (show¬(w.st:Int)=0 by exact"/,DSDP>NeZ0*" U)<|yq _ U<|fq _ W<|yq _ U<|go _ [2]<|nq _ (show¬(w.size:Int)<=(km e.d w.fl).length by exact",VoZ?4iro`,DZM" V z)<|go _ [0]<|fin _
end
def LG.store(G:LG):LG:={th:=G.th,kept:=G.th,base:=G.base,kb:=G.base,o:=G.th.length,sn:=false}
theorem LW.store{G:LG}(W:LW G):LW G.store:=⟨W.t1,W.t1,W.b1,W.b1,λ h=>(by cases h),λ _=>⟨rfl,W.b1,Nat.le_refl _,Nat.le_refl _,rfl,λ _=>rfl⟩⟩
def Wd.store(w:Wd):Wd:={w with O:=w.O.store,held:=[],back:=w.back++w.held}
def Ev.Z(e:Ev)(H:Hd)(w:Wd)(U Z:Cell)(Y J:List V):MH:=(0,some (e.X.g0,.dict (AV e.d e.t e.X H w)))::(1,some (e.X.gp,Jg H.m H.u w.st H.pe w.fp H.gi))::(IB w.size H.start (km e.d w.fl).length H.oct H.gi H.gr H.ring++(LM e.d e.t 0 (H.NL e.X) w.L w.aA++((104,some (H.gO,cLog 100 H.jT H.jA (e.d+w.sure) H.GH))::(105,some (H.jA,U))::(106,some (H.jT,Z))::(10,some (e.X.gm,.list (e.ml w)))::(11,some (H.gh,.list Y))::(12,some (H.gb,.list J))::(13,some (H.gw,.list w.rows))::AU)))
def xa(e:Ev)(H:Hd)(w:Wd)(l:List Int):Cell:=ui H.Ej aZ (snap aZ (e.d+w.O.base) (ai w.O.th w.O.base+e.t)) (e.d+w.O.base) (ai w.O.th w.O.base+e.t) (ents e.d e.t (w.O.base+1) l)
section
variable(O Y g U:Nat)(J Q:Int)(W:V)(Z:List V)(o:Int)
def A4:MH:=[(104,some (g,cLog 100 U Y J Q)),(105,some (Y,jy W Z o))]
variable{O Y g U J Q W Z o}
theorem DE:Ct.ok ⟨1,false,840,O,[.ref 104 g],A4 Y g U J Q W Z o,.lst Z,A4 Y g U J Q W Z o⟩:=Ct.of λ n=>bk _ (congrArg V.lst (List.take_of_length_le (Nat.le_refl _):(Z.drop 0).take (Z.length-0)=Z))
end
section
variable{e:Ev}{w:Wd}{H:Hd}{M:MH}
theorem xb(Y:HW e.d H w)(X:w.back.length+w.held.length<900)(n:Nat){u:Loc}(N:M=e.Z H w (jy .none [] (e.d+w.O.th.length)) (xa e H w (w.O.th.drop (w.O.base+1))) (e.hl w) (e.bl w)):rS e .none w.store (n+4) 968 5 ((112,.ref 0 e.X.g0)::u) M:=kq<|by
 subst N;haveI U:(e.bl w++e.hl w).length<=lid:=by unfold Ev.bl Ev.hl;rw[List.length_append,List.length_map,List.length_map];unfold lid;exact"/'e=Y|X6BNCO]j/l%" X
 haveI Q:e.bl w++e.hl w=(w.back++w.held).map (g8 e.d e.t):=List.map_append.symm;have O:∀J Z,V.none=V.none/\∃W,HW e.d W w.store/\e.Z {H with gb:=J,gh:=Z} w.store (jy .none [] (e.d+w.O.th.length)) (xa e H w (w.O.th.drop (w.O.base+1))) [] (e.bl w++e.hl w)=e.M W w.store:=λ J Z=>⟨rfl,{H with gb:=J,gh:=Z},⟨Y.r,Y.m,Y.u,Y.p⟩,by rw[Q,show jy .none [] (e.d+w.O.th.length)=jy .none (ents e.d e.t w.O.th.length (w.O.th.drop w.O.th.length)) (e.d+w.O.th.length)by rw[List.drop_eq_nil_of_le (Nat.le_refl _)];rfl];rfl⟩;exact au _ U<|b_ _ λ J=>b_ _ λ Z=>pk _ (O J Z)
theorem xc(I:WI w)(X:HW e.d H w)(U:w.back.length+w.held.length<900)(n:Nat){l:List Int}(T:Tm l)(D:w.O.o<=w.O.base+1+l.length)(L:l.take (w.O.o-w.O.base-1)++w.O.th.drop w.O.o=w.O.th.drop (w.O.base+1))(R:w.O.o=w.O.th.length->l=w.O.th.drop (w.O.base+1))(Y:V):rS e .none w.store (n+4) 968 3 [(112,.ref 0 e.X.g0),(123,.ref 104 H.gO),(52,Y)] (e.Z H w (jy .none (ents e.d e.t w.O.o (w.O.th.drop w.O.o)) (e.d+w.O.o)) (xa e H w l) (e.hl w) (e.bl w)):=by
 haveI W:=I.o;haveI F:=W.t1.1;haveI G:=W.ol;haveI K:=W.bo;haveI J:(ents e.d e.t w.O.o (w.O.th.drop w.O.o)).length=w.O.th.length-w.O.o:=by rw[aD,List.length_drop]
 haveI Q:=DE (O:=e.off) (g:=H.gO) (Y:=H.jA) (U:=H.jT) (J:=e.d+w.sure) (Q:=H.GH) (W:= .none) (Z:=ents e.d e.t w.O.o (w.O.th.drop w.O.o)) (o:=e.d+w.O.o);by_cases h:w.O.o=w.O.th.length;.
  haveI e3:=R h;haveI Z:¬(0:Int)<((ents e.d e.t w.O.o (w.O.th.drop w.O.o)).length:Nat):=by rw[J];exact"}uh*Tpl0qSu'#B8[W" rfl h
  refine cK (k:=3) 2 (xb (u:=[(123,.ref 104 H.gO),(52,Y),(132,.lst (ents e.d e.t w.O.o (w.O.th.drop w.O.o)))]) (M:=e.Z H w (jy .none (ents e.d e.t w.O.o (w.O.th.drop w.O.o)) (e.d+w.O.o)) (xa e H w l) (e.hl w) (e.bl w)) X U n ?_)<|call _ Q<|nq _ Z<|fin _;rw[<-e3,show w.O.th.drop w.O.o=[]from List.drop_eq_nil_of_le (by exact"57#v+I?" h),h];rfl
 .
  haveI Z:(0:Int)<((ents e.d e.t w.O.o (w.O.th.drop w.O.o)).length:Nat):=by rw[J];exact"ReIlEJDwYb~i;/r/u7%H=#" rfl G h
  haveI A:=ng (J:=100) (X:=e.off) (g:=H.jT) (d:=e.d) (t:=e.t) (W:=H.Ej) (U:=aZ) (O:=snap aZ (e.d+w.O.base) (ai w.O.th w.O.base+e.t)) (Q:=ai w.O.th w.O.base+e.t) (Z:=w.O.base) (l:=l) (.inr rfl) (V:=w.O.o) (Y:=w.O.th.drop w.O.o) T W.t1.drop (by exact"yPI8iz!&&" [_,w.O.o] [] K) D (λ z=>by have:=congrArg List.length z;rw[List.length_drop,List.length_nil]at this;exact";m>X<rU4RH6iPpW" [_,w.O.th.length,w.O.o,_] [] J Z this);haveI O:(w.O.th.drop w.O.o)[w.O.th.length-w.O.o-1]?=some (ai w.O.th (w.O.th.length-1)):=by rw[List.getElem?_drop,show w.O.o+(w.O.th.length-w.O.o-1)=w.O.th.length-1 by exact">|[FG^VkiW!%vb)`:^y[+CE5Wb9nBE(r0^&Vf6{I]=zC7dl$Q`6R$" [_,_,w.O.th.length-w.O.o,_,w.O.th.length-1,_] [] rfl rfl rfl J Z];exact cq (by exact"0:xY^k!u}nC_u<iMG_Q]0%epbXYT37$" [_,_,(ents e.d e.t w.O.o (List.drop w.O.o w.O.th)).length,_,w.O.th.length-w.O.o] [] rfl rfl J Z)
  haveI N:cY (ents e.d e.t w.O.o (w.O.th.drop w.O.o)) (-1)=some (ent e.d e.t (w.O.o+(w.O.th.length-w.O.o-1)) (ai w.O.th (w.O.th.length-1))):=kI (by rw[J];exact bH O);haveI S:=uo (X:=e.off) (g:=H.jA) (d:=e.d) (t:=e.t) (b:=e.d+w.O.o) (p:=w.O.o) (i:=e.d+((w.O.o+(w.O.th.length-w.O.o-1):Nat):Int)) (x:=ai w.O.th (w.O.th.length-1)+e.t) O (by rw[List.length_drop];exact"Dbi1P4aS6rkMaE*oZDlEY6]}WvH*y" [w.O.th.length,w.O.o,w.O.th.length-w.O.o,_,_] [] rfl J Z) (by exact"2v#Z0^#iP})swO/&" [w.O.o,w.O.th.length,w.O.th.length-w.O.o,_] [_]) rfl;refine cK (k:=3) 2 (xb (u:=[(123,.ref 104 H.gO),(52,Y),(132,.lst (ents e.d e.t w.O.o (w.O.th.drop w.O.o)))]) (M:=e.Z H w (jy .none [] (e.d+((w.O.o+(w.O.th.length-w.O.o-1):Nat):Int)+1)) (xa e H w (l.take (w.O.o-w.O.base-1)++w.O.th.drop w.O.o)) (e.hl w) (e.bl w)) X U n ?_)<|call _ Q<|yq _ Z<|call _ A<|cn _ N<|cn _ N<|go _ [2]<|call _ S<|fin _;rw[L,show e.d+((w.O.o+(w.O.th.length-w.O.o-1):Nat):Int)+1=e.d+w.O.th.length by exact"1jX#:xh/oH7Ew,Z?>#IJ{?C|}:9^Uev0H<k0Q,S7,69!c" [_,_,w.O.th.length-w.O.o,_,_] [_] rfl rfl J Z]
def xd(e:Ev)(H:Hd)(w:Wd):Cq:=wC e H w w.store 5 968 [] .none
theorem eZ(e:Ev)(H:Hd)(w:Wd):e.M H w=e.Z H w (jy (cond w.O.sn (snap aZ (e.d+w.O.base) (ai w.O.th w.O.base+e.t)) .none) (ents e.d e.t w.O.o (w.O.th.drop w.O.o)) (e.d+w.O.o)) (ui H.Ej aZ (snap aZ (e.d+w.O.kb) (ai w.O.kept w.O.kb+e.t)) (e.d+w.O.kb) (ai w.O.kept w.O.kb+e.t) (ents e.d e.t (w.O.kb+1) (w.O.kept.drop (w.O.kb+1)))) (e.hl w) (e.bl w):=rfl
theorem d8(I:WI w)(O:HW e.d H w)(U:w.back.length+w.held.length<900):(xd e H w).ok:=sR λ n=>by
 have W:=I.o;have F:=W.b1;haveI D:=eZ e H w;rw[D];cases Y:w.O.sn with
  |true=>
   obtain@⟨Z,R⟩:=W.y Y;haveI K:=xc (e:=e) (l:=[]) I O U n ⟨by decide,λ _ h=>by cases h⟩ (by rw[Z];exact Nat.le_refl _) (by rw[Z,List.take_nil];rfl) (λ h=>(List.drop_eq_nil_of_le (by exact"%9bkvTf/|:fr;'" Z h)).symm) (snap aZ (e.d+w.O.base) (ai w.O.th w.O.base+e.t));haveI Q:¬e.d+(w.O.base:Int)<=e.d+w.O.kb:=by exact"Ochvh=p/;<t$b'" R
   haveI N:¬e.d+(w.O.base:Int)<e.d+w.O.kb:=by exact">h%}%gNJS>d<%qqTkM_1" Q
   exact cK (k:=0) 3 K<|go _ [1,2]<|nq _ Q<|nq _ N<|go _ [2,2,1]<|yq _ (rfl:e.d+(w.O.base:Int)=e.d+w.O.base)<|fin _
  |false=>obtain@⟨V,X,T,L,J,G⟩:=W.n Y;haveI K:=xc (e:=e) (l:=w.O.kept.drop (w.O.base+1)) I O U n W.t2.drop (by rw[List.length_drop];exact"g(`WL]7}zZK/m)/KcrU5" rfl T) (by rw[show w.O.o-w.O.base-1=w.O.o-(w.O.base+1)by exact"{&i!X'1w^.VoON9M%m,pXmPq4XMVUrSdw7PGh2IU6T1LXUhKq!y0T#~W0!y6&i" [_,_,w.O.o-w.O.base,_,_] [] rfl rfl rfl,<-List.drop_take,<-J,<-List.drop_append_of_le_length (by rw[List.length_take];exact"&00eGZ~%jhu~3IWG3+y|76Z1/" [_,_,w.O.th.length,_,_] [] rfl V X L),List.take_append_drop]) (λ h=>by haveI h2:=G h;rw[h,List.take_length,<-h,h2,List.take_length]at J;rw[J]) .none;rw[<-V,W.kt Y];exact cK (k:=0) 3 K<|go _ [0]<|fin _
end
theorem dE{Z:List Int}{x:Int}{J r:Nat}:∀{k:Nat},scan Z x J k=some r->(J<=r/\r<k)/\ai Z r<=x/\∀j,r<j->j<k->¬ai Z j<=x
 |0,e=>nomatch e
 |k+1,e=>by
  haveI e:(if k<J then none else if ai Z k<=x then some k else scan Z x J k)=some r:=e;by_cases h:k<J;.rw[if_pos h]at e;cases e
  .
   rw[if_neg h]at e;by_cases h2:ai Z k<=x;.rw[if_pos h2]at e;cases e;exact⟨⟨by exact"^Hv+i(b." h,by exact"=}jV1L"⟩,h2,λ j a b=>by exact",$SgZf^FK{CwJ$" a b⟩
   .
    rw[if_neg h2]at e;obtain⟨⟨a,b⟩,c,f⟩:=dE e;refine⟨⟨a,by exact"8{!ke`dA)" b⟩,c,λ j g i=>?_⟩;by_cases z:j=k;.subst z;exact h2
    .exact f j g (by exact"7vu6[+w=(dqU9A" i z)
theorem sT{Z:List Int}{x:Int}{J:Nat}(U:ai Z J<=x):∀{k:Nat},J<k->∃r,scan Z x J k=some r
 |0,h=>absurd h (Nat.not_lt_zero _)
 |k+1,h=>by
  show∃r,(if k<J then none else if ai Z k<=x then some k else scan Z x J k)=some r;rw[if_neg (by exact"ksEvKdyeP)!" h)];by_cases h2:ai Z k<=x;.rw[if_pos h2];exact⟨_,rfl⟩
  .
   rw[if_neg h2];refine sT U ?_;rcases Nat.lt_or_ge J k with Y|Y;.exact Y
   .
    haveI:k=J:=by exact"^`Z>xPU.m)IX7" h Y
    subst this;exact absurd U h2
def Wd.holds(w:Wd)(p:Nat):Bool:=decide (w.O.base<=p)&&(decide (p<w.O.th.length)&&decide (ai w.O.th p=ai w.L.th p))
def Wd.right(w:Wd)(p:Nat):Nat:=(scan w.O.th (ai w.L.th p) w.O.base (min p (w.O.th.length-1)+1)).getD 0
def Wd.pg(w:Wd)(p k:Nat):List Int:=(w.L.th.drop (p+1)).take k
def Wd.recv(w:Wd):lW->Wd|.fT l=>if w.sure<l then(if w.holds l then{w with sure:=l,held:=w.held++[.ok l]}else{w with O:=w.O.res (w.L.th.take (l+1)) l,sure:=l,held:=w.held++[.ok l]})else{w with held:=w.held++[.ok w.sure]}|.aN p k=>if p<w.sure then{w with held:=w.held++[.ok w.sure]}else if w.holds p then{w with O:=w.O.put p (w.pg p k),sure:=max w.sure (min w.aA (p+k)),held:=w.held++[.ok (p+k)]}else{w with held:=w.held++[.no p (w.right p) (ai w.O.th (w.right p))]}
section
variable{J:Nat}{d t:Int}{X:Fx}{w:Wd}{H:Hd}{M:MH}
end
theorem oD{J:List Int}{k:Nat}:∀{q:Nat}{l:List Int},jz J q l=some k->∃x,l[k-q]?=some x/\q<=k/\¬(k<J.length/\ai J k=x)
 |q,[],e=>nomatch e
 |q,x::r,e=>by
  haveI e:(if q<J.length/\ai J q=x then jz J (q+1) r else some q)=some k:=e;by_cases c:q<J.length/\ai J q=x;.rw[if_pos c]at e;obtain@⟨@y,h1,h2,Z⟩:=oD e;refine⟨y,?_,by exact"<lZ[=>Nc" h2,Z⟩;rw[show k-q=(k-(q+1))+1 by exact"Yvc;iRf,sBchOvnm4XF{8{MJkiGcZ*" rfl rfl h2];exact h1
  .rw[if_neg c]at e;cases e;exact⟨x,by rw[Nat.sub_self];rfl,Nat.le_refl _,c⟩
structure rE(w:Wd)(p k:Nat):Prop where
 pk:p+k<w.L.th.length
 sb:w.O.base<=w.sure
 sl:w.sure<w.O.th.length
 sa:∀j,j<=w.sure->ai w.O.th j=ai w.L.th j
 lm:w.holds p=true->∀j,j<=p->ai w.O.th j=ai w.L.th j
 bs:¬p<w.sure->ai w.O.th w.O.base<=ai w.L.th p
theorem sU{a b:List Int}(l:a.length=b.length)(h:∀j,j<a.length->ai a j=ai b j):a=b:=by
 apply List.ext_getElem?;intro i;by_cases c:i<a.length;.rw[cq c,cq (l▸c),h i c]
 .rw[List.getElem?_eq_none (by exact"^Hv+i(b." c),List.getElem?_eq_none (by exact"Y9w%IriD<NS" l c)]
theorem de{a:List Int}{k i:Nat}(h:i<k):ai (a.take k) i=ai a i:=by unfold ai;rw[List.getD_eq_getElem?_getD,List.getD_eq_getElem?_getD,List.getElem?_take_of_lt h]
theorem sV{J:List Int}:∀{q:Nat}{l:List Int},jz J q l=none->∀j,j<l.length->ai J (q+j)=ai l j
 |q,[],_,j,h=>absurd h (Nat.not_lt_zero _)
 |q,x::r,e,j,h=>by
  haveI e:(if q<J.length/\ai J q=x then jz J (q+1) r else some q)=none:=e;by_cases c:q<J.length/\ai J q=x;.rw[if_pos c]at e;cases j with|zero=>exact c.2|succ j=>have:=sV e j (by rw[List.length_cons]at h;exact"V#^yagYh=s" h);rw[show q+(j+1)=q+1+j by exact"/nE&]qRYkXZ$"];exact this
  .rw[if_neg c]at e;cases e
theorem ni{J:List Int}{k:Nat}:∀{q:Nat}{l:List Int},jz J q l=some k->∀j,q+j<k->ai J (q+j)=ai l j
 |q,[],e,_,_=>nomatch e
 |q,x::r,e,j,h=>by
  haveI e:(if q<J.length/\ai J q=x then jz J (q+1) r else some q)=some k:=e;by_cases c:q<J.length/\ai J q=x;.rw[if_pos c]at e;cases j with|zero=>exact c.2|succ j=>have:=ni e j (by exact"QgGMnr(3mBJ5/!" h);rw[show q+(j+1)=q+1+j by exact"/nE&]qRYkXZ$"];exact this
  .rw[if_neg c]at e;cases e;exact":8vZ#*>`3a," h
section
variable{w:Wd}{p k:Nat}
theorem jC(J:p+k<w.L.th.length):(w.pg p k).length=k:=by unfold Wd.pg;rw[List.length_take,List.length_drop];exact"G(0bC2K{J,TX'20n=krk6O~X4hJO7g=" [_,_,_,w.L.th.length-(p+1),_] [] rfl rfl J
theorem l7(J:p+k<w.L.th.length){j:Nat}(h:j<k):ai (w.pg p k) j=ai w.L.th (p+1+j):=by unfold Wd.pg;rw[de h];unfold ai;rw[List.getD_eq_getElem?_getD,List.getD_eq_getElem?_getD,List.getElem?_drop]
theorem xe(P:rE w p k)(I:WI w)(N:w.holds p=true)(U:p<w.O.th.length):(w.O.put p (w.pg p k)).th=if w.O.th.take (p+k+1)=w.L.th.take (p+k+1)then w.O.th else w.L.th.take (p+k+1):=by
 have Z:=P.pk;have Y:=jC Z;haveI V:=P.lm N;unfold LG.put;cases e:jz w.O.th (p+1) (w.pg p k)with
  |none=>
   haveI h1:=lT U e;haveI h2:=sV e;rw[if_pos];refine sU (by rw[List.length_take,List.length_take];exact"#9GF{{B]'K5yECp{XENaGM!j;/1w5C8w>N;*x75X6GVg*3?O2`/d[sW~&" rfl rfl Z Y h1) λ j J=>?_;rw[List.length_take]at J;rw[de (by exact".0+8r7C+N=Z:TDQ$+A;0sL$" [_,_,_,_,min (p+k+1) w.O.th.length] [] rfl J),de (by exact".0+8r7C+N=Z:TDQ$+A;0sL$" [_,_,_,_,min (p+k+1) w.O.th.length] [] rfl J)];by_cases c:j<=p;.exact V j c
   .haveI:=h2 (j-p-1) (by exact"(cgRg'ao`D`2==Ia;yCX=aJr;3r|e}<a0{5*Bj^'dUA_19?Zg" [_,_,j-p,_,_,_,_,min (p+k+1) w.O.th.length] [] rfl rfl rfl Y J c);rw[l7 Z (by exact"4JDl_]7!K$P)]l98?o|AgJ!{;(HdG;0WDWF<+!heUMQ<" [_,_,j-p,_,_,_,min (p+k+1) w.O.th.length] [] rfl rfl rfl J c),show p+1+(j-p-1)=j by exact"6eJ!G)8B)MFn+QqN}pmL5PTC^f/(BU#" [_,_,j-p,_] [] rfl rfl c]at this;exact this
  |some q=>
   obtain@⟨a,b,c⟩:=i4 U e;obtain@⟨@x,h1,_,X⟩:=oD e;haveI h2:=ni e;haveI O:x=ai w.L.th q:=by
    haveI:ai (w.pg p k) (q-(p+1))=x:=by unfold ai;rw[List.getD_eq_getElem?_getD,h1];rfl
    rw[<-this,l7 Z (by exact"n$gVD+Fj9zq|xd$A1/%tyknNtwP%," rfl Y a b),show p+1+(q-(p+1))=q by exact"M`ULCvc|fx7RF'K/:Djab," rfl a]
   subst O;have W:(w.O.th.take q++(w.pg p k).drop (q-p-1)).length=p+k+1:=by rw[List.length_append,List.length_take,List.length_drop];exact"vYFM45SJ7mUr8s8+)4U*x~9Vn9p^.WiP4Felj91ByV:[M3jAxjPwn_DWxCbvMeQtl4<?faS$OX9/G*2*8$" [_,_,_,_,_,q-p,q-p-1,_,_] [] rfl rfl rfl rfl Y a b c
   rw[if_neg];.
    refine sU (by rw[List.length_take];show(w.O.th.take q++_).length=_;rw[W];exact"cQf6b%9;|=:UnDM~Bz:&$t_jB" rfl Z) λ j J=>?_;show ai (w.O.th.take q++(w.pg p k).drop (q-p-1)) j=_;haveI J:j<(w.O.th.take q++(w.pg p k).drop (q-p-1)).length:=J;rw[W]at J;rw[de (by exact"J4[yEk.1&6Q5/" J)];by_cases z:j<q;.
     rw[sG z c];by_cases y:j<=p;.exact V j y
     .haveI:=h2 (j-p-1) (by exact"V>mnO>XN`SDQe51eb~'vYQhKfO$JP%" [_,_,j-p,_,_] [] rfl rfl z y);rw[l7 Z (by exact"2p?P?:t.|+/[ab[Ey3lJiKetkV}YD7" [_,_,j-p,_,_] [] rfl rfl J y),show p+1+(j-p-1)=j by exact"6eJ!G)8B)MFn+QqN}pmL5PTC^f/(BU#" [_,_,j-p,_] [] rfl rfl y]at this;exact this
    .
     haveI:ai (w.O.th.take q++(w.pg p k).drop (q-p-1)) j=ai (w.pg p k) (j-p-1):=by unfold ai;rw[List.getD_eq_getElem?_getD,List.getD_eq_getElem?_getD,List.getElem?_append_right (by rw[List.length_take];exact">;W12sNO[4$|oflI]#" rfl z),List.getElem?_drop,List.length_take];rw[show q-p-1+(j-min q w.O.th.length)=j-p-1 by exact"9i8<5+$8lE1FkGX$7PWOcqN[`A>8sMKv9Xoz2e'rdvl%DZjWq;A[(r6FcIb#AK/Af/)xU4?a17L^X3d^V+`yl19&FD%S+j=Cz}dKbUcAMpW&" [_,_,q-p,_,_,_,min q w.O.th.length,_,j-p,_] [] rfl rfl rfl rfl rfl rfl a c z]
     rw[this,l7 Z (by exact"mKvv%f(;6TIU`~p?gh91%V2IV7%r({mmg~vg&" [_,_,j-p,_,_,_] [] rfl rfl a J z),show p+1+(j-p-1)=j by exact"y%x'kj%1:^]aUokjGVt$0./;eietsJs`Lgd1#" [_,_,j-p,_,_] [] rfl rfl a z]
   .intro z;apply X;have Q:=congrArg List.length z;rw[List.length_take,List.length_take]at Q;refine⟨by exact"bwZt>LY5,6^0sU&LC>myx[<,w/&?lutH#A+:$.C,]QU_QAPv<&&0yaPRoS*" [_,_,_,_,_,_,min (p+k+1) w.O.th.length,min (p+k+1) w.L.th.length] [] rfl rfl Z Y b Q,?_⟩;haveI:=congrArg (ai · q) z;rw[de (by exact"[!aUj(cOAA2|A<yj#" Y b),de (by exact"[!aUj(cOAA2|A<yj#" Y b)]at this;exact this
end
def Wd.pop(w:Wd)(i:Nat)(ag:Bool):Wd:={w with ae:=if ag then w.ae else w.ae.eraseIdx i}
def Wd.take(w:Wd)(i:Nat)(J:Bool):Wd:=match w.ae[i]? with|some m=>(w.pop i J).recv m|none=>w
def A5(w:Wd):lW->Prop|.aN p k=>rE w p k|.fT l=>l<w.L.th.length/\w.O.base<=w.sure/\w.O.kb<=w.sure
theorem gJ{J Z:Type}(f:J->Z):∀(l:List J)(i:Nat),(l.map f).eraseIdx i=(l.eraseIdx i).map f|[],_=>rfl|x::l,0=>rfl|x::l,i+1=>congrArg (f x::·) (gJ f l i)
section
variable{J:Nat}{d t:Int}{X:Fx}{w:Wd}{H:Hd}{M:MH}{p k:Nat}
theorem WI.pop(I:WI w){i:Nat}{ag:Bool}:WI (w.pop i ag):=⟨I.l,I.ls,I.o,I.st,I.u1,I.u2,I.mu,I.li,I.z⟩
end
def Ev.Q(e:Ev)(H:Hd)(w:Wd)(Y:List V)(Z:Int)(J:List V):MH:=(0,some (e.X.g0,.dict [(100,.int e.d),(77,.int e.t),(78,.lst (vI w.L.th)),(124,.lst Y),(40,.lst (vI w.O.kept)),(120,.int w.L.base),(126,.int w.O.base),(134,.int w.O.kb),(43,.int w.aA),(127,.int Z),(114,.ref 4 e.X.gl),(123,.ref 104 H.gO),(115,.ref 1 e.X.gp),(138,.int w.no),(57,.int w.lim),(119,.ref 10 e.X.gm),(4,.ref 11 H.gh),(135,.ref 12 H.gb),(151,.ref 13 H.gw)]))::(WX e.d e.t e.X H w (e.ml w) J (e.bl w)).drop 1
theorem wy(g:G){e:Ev}{Q J:Wd}(v:V){W:V}(N:Q=J)(H:Hd){U:List V}{Y:Int}{Z:List V}(D:HW e.d H J)(R:W=v)(X:U=vI J.O.th)(O:Y=J.sure)(e3:Z=e.hl J)(h:autoParam ((g.ea,g.pP)=(g.eb,wQ e v Q W (e.Q H J U Y Z))) krf):g.sat:=by subst X O e3 N;exact pk g ⟨R,H,D,rfl⟩ h
def xf(e:Ev)(H:Hd)(w:Wd)(i:Int)(U b:Bool)(p:Nat)(Z:Int)(J Y:V):Loc:=[(112,.ref 0 e.X.g0),(14,.int i),(122,.bool U),(8,.int (e.d+p)),(33,.int (ai w.L.th p+e.t)),(117,J),(52,Y),(123,.ref 104 H.gO),(78,.lst (vI w.L.th)),(124,.lst (vI w.O.th)),(100,.int e.d),(77,.int e.t),(102,.int Z),(125,.bool b)]
section
variable{e:Ev}{w:Wd}{H:Hd}{p k:Nat}
theorem holds_iff:w.holds p=true↔w.O.base<=p/\p<w.O.th.length/\ai w.O.th p=ai w.L.th p:=by unfold Wd.holds;rw[Bool.and_eq_true,Bool.and_eq_true,decide_eq_true_iff,decide_eq_true_iff,decide_eq_true_iff]
theorem DF(I:WI w)(Z:w.holds p=true):(fA (e.other H w) 100 4 756 [.int (e.d+p),.int (ai w.L.th p+e.t)] (.bool true)).ok:=by obtain@⟨h1,h2,J⟩:=holds_iff.mp Z;haveI T:=i7 (c:=e.other H w) (.inr rfl) I.o (i:=e.d+p) (Z:=ai w.L.th p+e.t) rfl h1 h2;rw[decide_eq_true (show ai (e.other H w).L.th p+(e.other H w).t=ai w.L.th p+e.t by rw[<-J];rfl)]at T;exact T
theorem xg(B:Bd e.d e.t)(I:WI w)(J:p<100)(U:w.holds p=false):(fA (e.other H w) 100 4 756 [.int (e.d+p),.int (ai w.L.th p+e.t)] (.bool false)).ok:=by
 haveI Z:=B.d1;haveI Y:=B.d2;by_cases h1:w.O.base<=p;.
  by_cases h2:p<w.O.th.length;.haveI T:=i7 (c:=e.other H w) (.inr rfl) I.o (i:=e.d+p) (Z:=ai w.L.th p+e.t) rfl h1 h2;rw[decide_eq_false (show¬ai (e.other H w).L.th p+(e.other H w).t=ai w.L.th p+e.t from λ z=>Bool.false_ne_true (U.symm.trans (holds_iff.mpr ⟨h1,h2,by have z:ai w.O.th p+e.t=ai w.L.th p+e.t:=z;exact"S?c=$#)hbW7G{{spa%" z⟩)))]at T;exact T
  .exact l4 (c:=e.other H w) B (.inr rfl) I.o (by exact"O,Queb^HqC8C5" Z) (by exact"8^;;'5Mn;Rhf.t{&=i6rYhMRNd%O" J Y) (.inr (show e.d+(w.O.th.length:Int)<=_ by exact"S1X*WV:)ik.1I%" h2))
 .exact l4 (c:=e.other H w) B (.inr rfl) I.o (by exact"O,Queb^HqC8C5" Z) (by exact"8^;;'5Mn;Rhf.t{&=i6rYhMRNd%O" J Y) (.inl (show _<e.d+(w.O.base:Int)by exact"<^[,gjLScYa3j#" h1))
theorem G9(B:Bd e.d e.t)(I:WI w)(J:HW e.d H w)(G:w.held.length<900){l:Nat}(O:l<w.L.th.length)(M:w.O.base<=w.sure)(F:w.O.kb<=w.sure)(n:Nat){i:Int}{K b:Bool}(L:b=w.holds l){N:Int}(Q:N=l):rS e (.bool true) (w.recv (.fT l)) (n+6) 961 9 (xf e H w i K b l N (.lst []) (snap aZ (e.d+l) (ai w.L.th l+e.t))) (e.M H w):=kq<|by
 subst L Q;haveI V:=I.l.t1.1;haveI Y:(e.hl w).length<lid:=by unfold Ev.hl;rw[List.length_map];unfold lid;exact"YKcuUT2#)n]75;&" G
 by_cases U:w.sure<l;.
  haveI X:e.d+(w.sure:Int)<e.d+(l:Int):=by exact"+z!t.IVsGzsB+" U
  rcases Bool.eq_false_or_eq_true (w.holds l)with Z|Z;.
   haveI W:w.recv (.fT l)={w with sure:=l,held:=w.held++[.ok l]}:=by show(if _ then(if _ then _ else _)else _)=_;rw[if_pos U,if_pos Z]
   haveI C:=gv (c:=e.other H w) (.inr rfl) I.o (k:=l) (i:=e.d+l) rfl (holds_iff.mp Z).2.1;rw[show max (e.other H w).aA l=l from Nat.max_eq_right (Nat.le_of_lt U)]at C;haveI T:=DF (e:=e) (H:=H) I Z;rw[Z];exact go _ [1]<|yq _ X<|call _ T<|go _ [0,1]<|call _ C<|go _ [1,1]<|au _ Y<|wx _ (.bool true) W H ⟨J.r,J.m,J.u,J.p⟩ rfl rfl (dc (g8 e.d e.t) w.held (.ok l)) rfl
  .
   haveI W:w.recv (.fT l)={w with O:=w.O.res (w.L.th.take (l+1)) l,sure:=l,held:=w.held++[.ok l]}:=by show(if _ then(if _ then _ else _)else _)=_;rw[if_pos U,if_neg (by rw[Z];exact Bool.false_ne_true)]
   haveI T:=xg (e:=e) (H:=H) B I (by exact";11=b?a!F,0%?<" O V) Z;haveI R:=uk (c:=e.other H w) (J:=w.L.th.take (l+1)) (p:=l) (x:=ai w.L.th l+e.t) (by rw[List.length_take];exact"7rtLNn:jp1]Uk0+f%N6v{" rfl O) (by rw[de (Nat.lt_succ_self l)];rfl) (Nat.le_of_lt U);haveI D:((vI w.L.th).drop 0).take (av (vI w.L.th).length ((l:Int)+1)-0)=vI (w.L.th.take (l+1)):=lV (by exact":{ZnwoQsVPs");rw[Z];exact go _ [1]<|yq _ X<|call _ T<|go _ [0,0]<|call _ R<|go _ [1,1]<|au _ Y<|wy _ (.bool true) W H ⟨J.r,J.m,J.u,J.p⟩ rfl D rfl (dc (g8 e.d e.t) w.held (.ok l))
 .
  have W:w.recv (.fT l)={w with held:=w.held++[.ok w.sure]}:=by show(if _ then(if _ then _ else _)else _)=_;rw[if_neg U]
  exact go _ [1]<|nq _ (show¬e.d+(w.sure:Int)<e.d+(l:Int)by exact"RRd)s51CZE7w1t'!" U)<|go _ [1,1]<|au _ Y<|wx _ (.bool true) W H ⟨J.r,J.m,J.u,J.p⟩ rfl rfl (dc (g8 e.d e.t) w.held (.ok w.sure)) rfl
theorem G_(B:Bd e.d e.t)(I:WI w)(Z:HW e.d H w)(M:w.held.length<900)(P:rE w p k)(y:¬p<w.sure)(X:w.holds p=true)(n:Nat){i:Int}{A:Bool}:rS e (.bool true) (w.recv (.aN p k)) (n+6) 961 11 (xf e H w i A true p p (.lst (ents e.d e.t (p+1) (w.pg p k))) .none) (e.M H w):=kq<|by
 haveI N:=I.l.t1.1;haveI Y:=jC P.pk;haveI Q:(e.hl w).length<lid:=by unfold Ev.hl;rw[List.length_map];unfold lid;exact"YKcuUT2#)n]75;&" M
 obtain⟨h1,h2,C⟩:=holds_iff.mp X;haveI S:=P.pk;haveI T:=zy (c:=e.other H w) B I.o (p:=p) (k:=w.aA) (l:=w.pg p k) (J:=ai w.L.th p+e.t) h1 h2 (show ai w.O.th p+e.t=_ by rw[C]) I.l.t1.drop.take (by rw[Y];exact"$U*>n}4Q0Lfsv2*1" N S) (λ r z=>by
  obtain@⟨@x,K,F,e3⟩:=oD z;rcases Nat.lt_or_ge w.sure r with z|z;.exact z
  .
   exfalso;apply e3;haveI E:=(List.getElem?_eq_some_iff.mp K).1;haveI:ai (w.pg p k) (r-(p+1))=x:=by unfold ai;rw[List.getD_eq_getElem?_getD,K];rfl
   rw[<-this,l7 P.pk (by exact"OQy!rCDaa?w!#" [r,p,_,_,_] [] Y E),show p+1+(r-(p+1))=r by exact"pcep+qz>C398{agdhH3[16!" [p,r,_] [] rfl F];exact⟨by have:=P.sl;show r<w.O.th.length;exact"S!Y2UN4fXW" z this,P.sa r z⟩);haveI J:=xe P I X h2;haveI G:w.recv (.aN p k)={w with O:=w.O.put p (w.pg p k),sure:=max w.sure (min w.aA (p+(w.pg p k).length)),held:=w.held++[.ok (p+k)]}:=by show(if _ then _ else(if _ then _ else _))=_;rw[if_neg y,if_pos X,Y]
 haveI O:(((ents e.d e.t (p+1) (w.pg p k)).length:Nat):Int)=k:=by rw[aD,Y]
 haveI j:((vI w.O.th).drop 0).take (av (vI w.O.th).length ((p:Int)+((ents e.d e.t (p+1) (w.pg p k)).length:Nat)+1)-0)=vI (w.O.th.take (p+k+1)):=lV (by rw[O];exact"*~PdPU&/_&<(7I#");haveI D:((vI w.L.th).drop 0).take (av (vI w.L.th).length ((p:Int)+((ents e.d e.t (p+1) (w.pg p k)).length:Nat)+1)-0)=vI (w.L.th.take (p+k+1)):=lV (by rw[O];exact"*~PdPU&/_&<(7I#");haveI R:ew .NotEq (.lst (((vI w.O.th).drop 0).take (av (vI w.O.th).length ((p:Int)+((ents e.d e.t (p+1) (w.pg p k)).length:Nat)+1)-0))) (.lst (((vI w.L.th).drop 0).take (av (vI w.L.th).length ((p:Int)+((ents e.d e.t (p+1) (w.pg p k)).length:Nat)+1)-0)))=some (!decide (w.O.th.take (p+k+1)=w.L.th.take (p+k+1))):=by rw[j,D];show(uH _ _).map (!·)=_;rw[i5];rfl
 haveI W:max (w.sure:Int) (min (w.aA:Int) ((p:Int)+((ents e.d e.t (p+1) (w.pg p k)).length:Nat)))=((max w.sure (min w.aA (p+(w.pg p k).length)):Nat):Int):=by rw[O,Y];exact"`$,4.#1mHh3aq_~4%XaK[QKrW2JY`nT||poRgnWSS/d)t&+[vg[lFnq$u2:a!>ccKDWI|<47lwdvS(e77vX*f!Q8!Jq0Fc_x4c'SX=jZ(c}t71L6ia[H(,!(JosaLl[XEf8" [_,_,_,_,min w.aA (p+k),_] [min (↑w.aA:Int) ((↑p:Int)+(↑k:Int)),_] rfl rfl rfl rfl
 haveI U:e.hl w++[V.tup [.int (e.d+p+(w.pg p k).length),.bool false,.int 0,.int 0]]=(w.held++[mD.ok (p+k)]).map (g8 e.d e.t):=by rw[<-dc,Y,show e.d+(p:Int)+k=e.d+((p+k:Nat):Int)by exact"FLKzJZ6MktaqTp.!"];rfl
 haveI L:V.bool (decide (e.d+(p:Int)+(w.pg p k).length=e.d+((p:Int)+((ents e.d e.t (p+1) (w.pg p k)).length:Nat))))= .bool true:=by rw[O,Y,decide_eq_true (by exact"1iV9(.DLL=DP;c_(")]
 by_cases z:w.O.th.take (p+k+1)=w.L.th.take (p+k+1);.rw[if_pos z]at J;exact call _ T<|go _ [0,1]<|p8 _ R<|nn _ z<|au _ Q<|wy _ (.bool true) G H ⟨Z.r,Z.m,Z.u,Z.p⟩ L (congrArg vI J.symm) W U
 .rw[if_neg z]at J;exact call _ T<|go _ [0,1]<|p8 _ R<|yn _ z<|au _ Q<|wy _ (.bool true) G H ⟨Z.r,Z.m,Z.u,Z.p⟩ L (D.trans (congrArg vI J.symm)) W U
def Ek(J:List Int)(x:Int)(v:V):Option V:=match v with|.int i=>if ai J i.toNat<=x then some v else none|_=>none
theorem G'{J:List Int}{x:Int}{a m:Nat}:(ao (a:Nat) ((a+m:Nat):Int)).filterMap (Ek J x)=((List.range' a m).filter λ j=>decide (ai J j<=x)).map λ(k:Nat)=>V.int k:=fw λ j _ _=>by
 show(if ai J (j:Int).toNat<=x then _ else _)=_;rw[show(j:Int).toNat=j by exact"c6}sCe=H[x(h/F" rfl];by_cases c:ai J j<=x;.rw[if_pos c,decide_eq_true c];rfl
 .rw[if_neg c,decide_eq_false c];rfl
theorem Ha(B:Bd e.d e.t)(I:WI w)(Q:HW e.d H w)(g:w.held.length<900)(P:rE w p k)(G:¬p<w.sure)(y:w.holds p=false)(n:Nat){i:Int}{f:Bool}:rS e (.bool true) (w.recv (.aN p k)) (n+6) 961 11 (xf e H w i f false p p (.lst (ents e.d e.t (p+1) (w.pg p k))) .none) (e.M H w):=kq<|by
 have K:=I.l.t1.1;have J:=I.o.t1.1;haveI U:=I.o.b1;haveI d:=P.pk;have o:=P.sb;haveI D:(e.hl w).length<lid:=by unfold Ev.hl;rw[List.length_map];unfold lid;exact"YKcuUT2#)n]75;&" g
 haveI T:=xg (e:=e) (H:=H) B I (show p<100 by exact"sMc#T%Qyj>K0k,^=#" K d) y;haveI L:=kn (c:=e.other H w) (.inr rfl) I.o;obtain⟨r,X⟩:=sT (Z:=w.O.th) (J:=w.O.base) (P.bs G) (k:=min p (w.O.th.length-1)+1) (by exact"ldjja'g/ulrl6fwC&Z427qyd*iA5:RpcmJ5" [_,_,_,w.O.th.length-1,_,_] [] rfl rfl G U o);obtain@⟨@⟨M,O⟩,b,c⟩:=dE X;haveI C:(fA (e.other H w) 100 4 791 [.int (min (e.d+(p:Int)) (e.d+(w.O.th.length:Int)-1)),.int (ai w.L.th p+e.t)] (.tup [.int (e.d+r),.int (ai w.O.th r+e.t)])).ok:=by haveI C:=sM (c:=e.other H w) B (.inr rfl) I.o (p:=min p (w.O.th.length-1)) (i:=min (e.d+(p:Int)) (e.d+(w.O.th.length:Int)-1)) (Z:=ai w.L.th p+e.t) (show min (e.d+(p:Int)) (e.d+(w.O.th.length:Int)-1)=e.d+((min p (w.O.th.length-1):Nat):Int)by exact"{yNq2>eDgJq>PxY]h!{/m.h,lBFP7]PZnH2I!)1GQfMhD'*_,AF[RVU&~(6;vXEj%Abp[gt&" [_,_,w.O.th.length-1,_,_] [_,_] rfl rfl rfl U) (show min p (w.O.th.length-1)<w.O.th.length by exact"i~~j1+aVW(xm!^yHq](*rynr5$" [_,_,w.O.th.length-1,_,_] [] rfl rfl U);unfold wV fB at C;rw[show scan (e.other H w).L.th (ai w.L.th p+e.t-(e.other H w).t) (e.other H w).L.base (min p (w.O.th.length-1)+1)=some r by rw[<-X,show ai w.L.th p+e.t-(e.other H w).t=ai w.L.th p from Int.add_sub_cancel ..];rfl]at C;exact C
 haveI t:w.recv (.aN p k)={w with held:=w.held++[.no p r (ai w.O.th r)]}:=by show(if _ then _ else(if _ then _ else _))=_;rw[if_neg G,if_neg (by rw[y];exact Bool.false_ne_true),show w.right p=r by unfold Wd.right;rw[X];rfl]
 haveI W:(vI w.O.th).length=w.O.th.length:=List.length_map ..;have Z:min ((p:Int)+1) ((vI w.O.th).length:Nat)=((w.O.base+(min (p+1) w.O.th.length-w.O.base):Nat):Int):=by rw[W];exact"6Z&fI=egNYXMH)~R2asjb1!O;b3u>qpF4Lm>Ps;8#j]4uc2]J;hM}}_o51=O?|eJ*5V33`SN;8ibmRE}Me{2YHm/+IH`PTjyl'l+9ZU0#~/j9YaubfU12P2&<~aoY/" [_,_,_,min (p+1) w.O.th.length,_,_,w.O.th.length-1,min p (w.O.th.length-1)] [_] rfl rfl rfl rfl rfl M O
 haveI m:min ((p:Int)+1) ((vI w.O.th).length:Nat)-(w.O.base:Int)<=1000/\small (w.O.base:Int)=true/\small (min ((p:Int)+1) ((vI w.O.th).length:Nat))=true:=⟨by rw[Z];exact"8:)GVK3A.OI4yA2y}3i&&(=Ch*_R$_5xIQHdq!|48*" [_,p,w.O.th.length,min (p+1) w.O.th.length,min (p+1) w.O.th.length-w.O.base] [] rfl rfl J,aB (by exact"7A,x&aJ") (by exact"d&_#)ja}^OxkMEB+2o89M7~wd'UbIau0lwGp|JEtR;" [_,w.O.th.length,(vI w.O.th).length,p,min (p+1) w.O.th.length,_] [min ((↑p:Int)+1) (↑(vI w.O.th).length:Int)] rfl J W Z),aB (by rw[Z];exact"i/*9L!dTOo#" [_,p,w.O.th.length,min (p+1) w.O.th.length,min (p+1) w.O.th.length-w.O.base] []) (by rw[Z];exact"8dr(P828x^`Z2]/~mO?1eCl%*Wl~4aB!~2Uyh9}`>#" [_,p,w.O.th.length,min (p+1) w.O.th.length,min (p+1) w.O.th.length-w.O.base,_] [min ((↑p:Int)+1) (↑(vI w.O.th).length:Int)] rfl J W Z)⟩;haveI E:(ao (w.O.base:Int) (min ((p:Int)+1) ((vI w.O.th).length:Nat))).filterMap (Ek w.O.th (ai w.L.th p))=((List.range' w.O.base (min (p+1) w.O.th.length-w.O.base)).filter λ j=>decide (ai w.O.th j<=ai w.L.th p)).map λ(k:Nat)=>V.int k:=by rw[Z];exact G'
 haveI S:=lU (p:=λ j=>decide (ai w.O.th j<=ai w.L.th p)) (m:=r) (a:=w.O.base) (n:=min (p+1) w.O.th.length-w.O.base) M (by exact"EL~.Cj6e79Du6Vj6ds4SBI}((%9p!3`x./U*m38o17Ihp;(CvddFVI{_u*P8>Fnba>q1JgKI_FUVtz~Qg%e8/(|TqT" [_,_,_,w.O.th.length,min (p+1) w.O.th.length,_,w.O.th.length-1,min p (w.O.th.length-1)] [] rfl rfl rfl rfl U O) (decide_eq_true b) λ j q s=>decide_eq_false (c j q (by exact"nx6N+0f2+5l#8QZ_=iW%;aszN46x3+ZXfv|.kFcN`O*pDvsk;,I0s`M%'.q537ay;(7US_3(HE}r/y;lWVO" [_,_,_,w.O.th.length-1,min p (w.O.th.length-1),_,w.O.base,min (p+1) w.O.th.length,_] [min ((↑p:Int)+1) (↑(vI w.O.th).length:Int)] rfl rfl rfl W Z s));rw[<-E]at S;refine go _ [2]<|call _ T<|go _ [1,0,0]<|call _ L<|call _ C<|au _ m<|hY _ (Ek w.O.th (ai w.L.th p)) (l:=ao (w.O.base:Int) (min ((p:Int)+1) ((vI w.O.th).length:Nat))) (M:=e.M H w) (λ v u R Y=>?_) ?_<|cn _ (congrArg (Option.map V.int) S)<|au _ D<|cn _ (kh (a:=w.O.th) (k:=r) rfl (by exact"XVXa'&HMQOg+$=4!PD|p%+jzCdQ2AQLU" [_,_,_,_,w.O.th.length-1,min p (w.O.th.length-1)] [] rfl rfl U O))<|p8 _ (wZ (rfl:e.d+(r:Int)=_) (rfl:ai w.O.th r+e.t=_))<|wx _ (.bool true) t H ⟨Q.r,Q.m,Q.u,Q.p⟩ rfl rfl (dc (g8 e.d e.t) w.held (.no p r (ai w.O.th r))) rfl;.
  rw[Z]at u;obtain⟨j,rfl,F,N⟩:=c_ u;haveI Y:R (if ai w.O.th j.toNat<=ai w.L.th p then some (.int j)else none) (e.M H w):=Y;haveI A:=kh (a:=w.O.th) (i:=j) (k:=j.toNat) (by exact"Law#!*GJ1yx*2/Y_,^w,'" rfl F) (by exact"5Jmuu(<Y|Z:7Nz1Cg|StRM%R[|o5CK&P6Mn.!,lQ`+EWJ{p;>(" [_,_,_,_,min (p+1) w.O.th.length,min (p+1) w.O.th.length-w.O.base] [_] rfl rfl rfl F N);by_cases z:ai w.O.th j.toNat<=ai w.L.th p;.rw[if_pos z]at Y;exact cn _ A<|yq _ (show ai w.O.th j.toNat<=ai w.L.th p+e.t-e.t by exact"`AnpiCoocvqjGnK" z)<|pk _ Y
  .rw[if_neg z]at Y;exact cn _ A<|nq _ (show¬ai w.O.th j.toNat<=ai w.L.th p+e.t-e.t by exact"I3NltMW5wS.*{rZ&<" z)<|pk _ Y
 .rw[E,List.length_map];exact Nat.le_trans (List.length_filter_le ..) (by rw[List.length_range'];unfold lid;exact"OOxzM0`0y}_?_PNRkP[<$_?Z#^b%U:f{kO6D'" [_,_,min (p+1) w.O.th.length,_,_] [] rfl rfl J)
end
section
variable{e:Ev}{w:Wd}{H:Hd}{p k:Nat}
theorem Hb(B:Bd e.d e.t)(I:WI w)(J:HW e.d H w)(W:w.held.length<900)(P:rE w p k)(n:Nat){i:Int}{O b:Bool}(N:b=w.holds p){X:Int}(Q:X=p):rS e (.bool true) (w.recv (.aN p k)) (n+6) 961 9 (xf e H w i O b p X (.lst (ents e.d e.t (p+1) (w.pg p k))) .none) (e.M H w):=by
 subst N Q;by_cases Y:p<w.sure;.
  have V:(e.hl w).length<lid:=by unfold Ev.hl;rw[List.length_map];unfold lid;exact"YKcuUT2#)n]75;&" W
  haveI R:w.recv (.aN p k)={w with held:=w.held++[.ok w.sure]}:=if_pos Y;haveI U:e.d+(p:Int)<e.d+(w.sure:Int):=by exact"+z!t.IVsGzsB+" Y
  exact kq<|go _ [0,0,0]<|yq _ U<|au _ V<|wx _ (.bool true) R H ⟨J.r,J.m,J.u,J.p⟩ rfl rfl (dc (g8 e.d e.t) w.held (.ok w.sure)) rfl
 .
  haveI U:¬e.d+(p:Int)<e.d+(w.sure:Int):=by exact"RRd)s51CZE7w1t'!" Y
  rcases Bool.eq_false_or_eq_true (w.holds p)with Z|Z;.rw[Z];exact cK (k:=9) 2 (G_ (i:=i) (A:=O) B I J W P Y Z n)<|go _ [0,0,0]<|nq _ U<|fin _
  .rw[Z];exact cK (k:=9) 2 (Ha (i:=i) (f:=O) B I J W P Y Z n)<|go _ [0,0,0]<|nq _ U<|fin _
def A6(e:Ev)(w:Wd)(i:Int)(Y:Bool)(p:Nat)(J Z:V):Loc:=[(112,.ref 0 e.X.g0),(14,.int i),(122,.bool Y),(8,.int (e.d+p)),(33,.int (ai w.L.th p+e.t)),(117,J),(52,Z)]
theorem qf(n:Nat){i:Int}{W:Bool}{Y U:V}{R:Wd}(J:∀b:Bool,b=w.holds p->rS e (.bool true) R (n+6) 961 9 (xf e H w i W b p (e.d+p-e.d) Y U) (e.M H w)):rS e (.bool true) R (n+6) 961 2 (A6 e w i W p Y U) (e.M H w):=by
 haveI Q:(vI w.O.th).length=w.O.th.length:=List.length_map ..;by_cases z:w.O.base<=p;.
  haveI Z:(w.O.base:Int)<=e.d+p-e.d:=by exact"M+pi<b4$d.PL/" z
  by_cases y:p<w.O.th.length;.haveI X:=kh (a:=w.O.th) (i:=e.d+p-e.d) (k:=p) (by exact"an{DF~vm}o6Y") y;refine cK (k:=2) 7 (J (decide (ai w.O.th p=ai w.L.th p+e.t-e.t)) ?_)<|yq _ Z<|yq _ (show e.d+(p:Int)-e.d<((vI w.O.th).length:Nat)by exact"1C,y)F|uQfIpy$cf$" Q y)<|cn _ X<|fin _;unfold Wd.holds;rw[decide_eq_true z,decide_eq_true y];exact decide_eq_decide.mpr (by exact"[F'e*aJ1VI=<pyui(%[46tH%")
  .
   haveI O:¬e.d+(p:Int)-e.d<((vI w.O.th).length:Nat):=by exact"s_9VayA}>Z~6{G+1o2$" Q y
   refine cK (k:=2) 7 (J (decide (e.d+(p:Int)-e.d<((vI w.O.th).length:Nat))) ?_)<|yq _ Z<|nq _ O<|fin _;unfold Wd.holds;rw[decide_eq_false O,decide_eq_false y,Bool.false_and,Bool.and_false]
 .
  have Z:¬(w.O.base:Int)<=e.d+p-e.d:=by exact"?]22aGwmQ=]4!p)" z
  refine cK (k:=2) 7 (J (decide ((w.O.base:Int)<=e.d+p-e.d)) ?_)<|nq _ Z<|fin _;unfold Wd.holds;rw[decide_eq_false Z,decide_eq_false z,Bool.false_and]
def rF:lW->Nat|.aN p _=>p|.fT l=>l
def zJ(e:Ev)(w:Wd):lW->V|.aN p k=> .lst (ents e.d e.t (p+1) (w.pg p k))|.fT l=> .lst []
def zK(e:Ev)(w:Wd):lW->V|.aN p k=> .none|.fT l=>snap aZ (e.d+l) (ai w.L.th l+e.t)
def A7(e:Ev)(H:Hd)(w:Wd)(i:Nat)(J:Bool):Cq:=wC e H w (w.take i J) 7 961 [.int i,.bool J] (.bool true)
theorem DI(m:lW):lY e.d e.t w.L.th m= .tup [.int (e.d+rF m),.int (ai w.L.th (rF m)+e.t),zJ e w m,zK e w m]:=by cases m<;>rfl
theorem jD(B:Bd e.d e.t)(I:WI w)(Z:HW e.d H w)(Q:w.held.length<900){i:Nat}{m:lW}(O:w.ae[i]?=some m)(X:A5 w m){ag:Bool}:(A7 e H w i ag).ok:=sR λ n=>by
 have V:=I.pop (i:=i) (ag:=ag);have J:HW e.d H (w.pop i ag):=⟨Z.r,Z.m,Z.u,Z.p⟩;have R:w.take i ag=(w.pop i ag).recv m:=by unfold Wd.take;rw[O]
 rw[R];have Y:(e.ml w)[i]?=some (.tup [.int (e.d+rF m),.int (ai w.L.th (rF m)+e.t),zJ e w m,zK e w m]):=by unfold Ev.ml;rw[List.getElem?_map,O,<-DI];rfl
 have K:rS e (.bool true) ((w.pop i ag).recv m) (n+6) 961 2 (A6 e (w.pop i ag) i ag (rF m) (zJ e w m) (zK e w m)) (e.M H (w.pop i ag)):=by cases m with|aN p k=>haveI P:rE w p k:=X;exact qf n λ b W=>Hb B V J Q ⟨P.pk,P.sb,P.sl,P.sa,P.lm,P.bs⟩ n W (by show e.d+(p:Int)-e.d=p;exact"an{DF~vm}o6Y")|fT l=>obtain⟨N,L,D⟩:l<w.L.th.length/\w.O.base<=w.sure/\w.O.kb<=w.sure:=X;exact qf n λ b W=>G9 B V J Q N L D n W (by show e.d+(l:Int)-e.d=l;exact"an{DF~vm}o6Y")
 cases ag with
  |true=>exact cK (k:=0) 2 K<|cn _ (bb rfl Y)<|go _ [0]<|fin _
  |false=>
   haveI U:(e.ml w)[((i:Nat):Int).toNat]?=some (.tup [.int (e.d+rF m),.int (ai w.L.th (rF m)+e.t),zJ e w m,zK e w m]):=by rw[Int.toNat_natCast];exact Y
   haveI G:e.Mx H (w.pop i false) ((e.ml w).eraseIdx ((i:Nat):Int).toNat) (e.hl w) (e.bl w)=e.M H (w.pop i false):=by rw[Int.toNat_natCast,show(e.ml w).eraseIdx i=e.ml (w.pop i false)from gJ ..];rfl
   exact cK (k:=0) 2 K<|cn _ (bb rfl Y)<|go _ [1]<|au _ (show(0:Int)<=(i:Int)by exact"7A,x&aJ")<|cn _ U<|fJ _ G
end
def Wd.gs(w:Wd)(r:Nat)(x:Int):Nat:=match scan w.L.th x w.L.base (r+1)with|some q=>q+1|none=>min (r+1) w.L.base
def Wd.told(w:Wd)(p r:Nat)(x:Int):Wd:=if w.st=1 then(if w.mt<p+1 then{w with no:=w.no+1,st:=0,up:=w.mt+1,pt:=0,fp:=false,fl:=[]}else{w with no:=w.no+1})else if w.up=p+2 then{w with no:=w.no+1,up:=max (min (p+1) (w.gs r x+1)) (w.mt+1),fp:=false}else{w with no:=w.no+1}
def Wd.fresh(w:Wd)(p:Nat):Bool:=if w.st=1 then decide (w.mt<p+1)else decide (w.up=p+2)
def Wd.refused(w:Wd)(p r:Nat)(x:Int):Wd:=if w.fresh p then(w.told p r x).send true else w.told p r x
section
variable{J:Nat}{d t:Int}{X:Fx}{w:Wd}{H:Hd}{M:MH}{p r:Nat}{x:Int}
theorem WI.told(I:WI w):WI (w.told p r x):=by
 haveI Z:=I.u2;haveI Y:=I.mu;haveI U:=I.st;unfold Wd.told;split;.
  split;.exact⟨I.l,I.ls,I.o,Nat.zero_le _,by show 1<=w.mt+1;exact"$7jDpn?",by show w.mt+1<=w.L.th.length+1;exact"bY|!Eaa4a>0#4u#" Z Y,Nat.lt_succ_self _,I.li,I.z⟩
  .exact⟨I.l,I.ls,I.o,I.st,I.u1,I.u2,I.mu,I.li,I.z⟩
 .
  split;.exact⟨I.l,I.ls,I.o,I.st,by show 1<=max _ _;exact"u8L78uJkMfN(ID:{5'" [p,w.gs r x,min (p+1) (w.gs r x+1),_,_] [] rfl,Nat.max_le.mpr ⟨Nat.le_trans (Nat.min_le_left ..) (Nat.le_trans (Nat.le_succ _) (‹w.up=p+2›▸Z:p+2<=w.L.th.length+1)),Nat.le_trans Y Z⟩,by show w.mt<max _ _;exact"k5Dw?]'BUE#x254" [w.mt,p,w.gs r x,_,_] [] rfl,I.li,I.z⟩
  .exact⟨I.l,I.ls,I.o,I.st,I.u1,I.u2,I.mu,I.li,I.z⟩
theorem qg{d:Int}(Z:1<=d){n p:Nat}:mI d n<d+p↔n<p+1:=by
 unfold mI;by_cases h:n=0;.rw[if_pos h];exact"B?)58Zod#;{$3wrMeD##Y7f,'" Z h
 .rw[if_neg h];exact"<,,%5%Ekhi7d7{=C8Np"
end
theorem jU{Z:List Int}{x:Int}{J:Nat}:∀n:Nat,scan Z x J (J+n)=((List.range' J n).filter λ q=>decide (ai Z q<=x)).getLast?
 |0=>by cases J with|zero=>rfl|succ l=>exact if_pos (Nat.lt_succ_self _)
 |n+1=>by
  show(if J+n<J then none else if ai Z (J+n)<=x then some (J+n)else scan Z x J (J+n))=_;rw[if_neg (by exact"rkRsjaZ$"),jU n,List.range'_1_concat,List.filter_append];by_cases h:ai Z (J+n)<=x;.
   haveI e:([J+n].filter λ q=>decide (ai Z q<=x))=[J+n]:=by rw[List.filter_cons,if_pos (decide_eq_true h)];rfl
   rw[if_pos h,e];exact List.getLast?_concat.symm
  .
   haveI e:([J+n].filter λ q=>decide (ai Z q<=x))=[]:=by rw[List.filter_cons,if_neg (by rw[decide_eq_false h];exact Bool.false_ne_true)];rfl
   rw[if_neg h,e,List.append_nil]
section
variable{J:Nat}{d t:Int}{X:Fx}{w:Wd}{H:Hd}{M:MH}{p r:Nat}{x:Int}
end
theorem A8{a b c d:Int}(h1:a=c)(h2:b=d):ew .NotEq (.tup [.int a,.int b]) (.tup [.int c,.int d])=some false:=by show(ew .Eq (.tup [.int a,.int b]) (.tup [.int c,.int d])).map (!·)=_;rw[wZ h1 h2];rfl
theorem bT{p:Prop} [Decidable p](h:p):(!(true==decide p))=false:=by rw[decide_eq_true h];rfl
theorem bF{p:Prop} [Decidable p](h:¬p):(!(false==decide p))=false:=by rw[decide_eq_false h];rfl
section
variable{e:Ev}{w:Wd}{H:Hd}{p r:Nat}{x:Int}
def Jt(e:Ev)(w:Wd)(p r:Nat)(x Z:Int)(J U Y:V):Loc:=[(112,.ref 0 e.X.g0),(8,.int (e.d+p)),(27,.int (e.d+r)),(76,.int (x+e.t)),(114,.ref 4 e.X.gl),(115,.ref 1 e.X.gp),(78,.lst (vI w.L.th)),(100,.int e.d),(136,.int Z),(65,J),(137,U),(130,Y)]
theorem sW(B:Bd e.d e.t)(I:WI w)(J:HW e.d H w)(N:w.ae.length<900){Q:Int}(D:Q=e.d+w.gs r x-1)(n:Nat){K L G:V}:rS e (.bool true) (w.refused p r x) (n+7) 973 9 (Jt e w p r x Q K L G) (e.M H w):=kq<|by
 haveI X:=B.d1;haveI F:=I.st;haveI R:=J.u;by_cases h1:w.st=1;.
  haveI U:(w.st:Int)=1:=by exact"Z&t<cs*p8uS6" h1
  by_cases Z:w.mt<p+1;.
   haveI Y:H.m<e.d+(p:Int):=by rw[J.m];exact(qg X).mpr Z
   haveI W:(w.told p r x).send true=w.refused p r x:=by unfold Wd.refused Wd.fresh;rw[if_pos h1,decide_eq_true Z];rfl
   haveI O:=I.told (p:=p) (r:=r) (x:=x);rw[show w.told p r x={w with no:=w.no+1,st:=0,up:=w.mt+1,pt:=0,fp:=false,fl:=[]}by unfold Wd.told;rw[if_pos h1,if_pos Z]]at O W;haveI S:=di (e:=e) (H:={H with u:=H.m+1,pe:=0,start:=0,oct:=0}) (b:=true) B O ⟨RR.nil I.z J.r.s3 J.r.rs,J.m,by
    show H.m+1=e.d+((w.mt+1:Nat):Int)-1\/(w.mt+1=1/\H.m+1=1);rw[J.m];unfold mI;by_cases z:w.mt=0;.rw[if_pos z];right;exact"Doi63SL:YH`u%KI~665_=" z
    .rw[if_neg z];left;exact"I(t,;;ZdzO>)$'2lXy(",rfl⟩ N;exact yq _ U<|go _ [2]<|yq _ U<|nq _ (show¬e.d+(p:Int)<=H.m by exact">j?h6&qMAUP0h/Z#" Y)<|fq _ (bT Y)<|nn _ Y<|nn _ (rfl:H.m+1=H.m+1)<|nn _ (rfl:H.m=H.m)<|nn _ (rfl:(w.st:Int)=w.st)<|yq _ U<|go _ [2]<|nq _ (show¬(w.st:Int)=2 by exact"f*&h.C*+aBGu" U)<|go _ [2,2]<|da _ S λ v M h=>pk _ (W▸h:wQ e (.bool true) (w.refused p r x) v M)
  .
   haveI Y:¬H.m<e.d+(p:Int):=by rw[J.m];exact λ h=>Z ((qg X).mp h)
   haveI W:w.refused p r x={w with no:=w.no+1}:=by unfold Wd.refused Wd.fresh Wd.told;rw[if_pos h1,if_pos h1,decide_eq_false Z,if_neg Z];exact if_neg Bool.false_ne_true
   exact yq _ U<|go _ [2]<|yq _ U<|yq _ (show e.d+(p:Int)<=H.m by exact"uxNa%Th2<E<lq_{" Y)<|fq _ (bF Y)<|yn _ Y<|yq _ (rfl:H.u=H.u)<|yq _ (rfl:H.m=H.m)<|wx _ (.bool true) W H ⟨J.r,J.m,J.u,J.p⟩ (congrArg V.bool (decide_eq_true (rfl:(w.st:Int)=w.st))) rfl rfl rfl
 .
  haveI U:¬(w.st:Int)=1:=by exact"2L#aIr&>}AKT#/" h1
  by_cases Z:w.up=p+2;.
   haveI Y:H.u-1=e.d+(p:Int):=by exact"t$[7NEU&M.?U=^JR=K$,)eY_Dq+VhuvO={2TLH" R Z
   haveI e3:e.d+(p:Int)=H.u-1:=Y.symm;haveI W:(w.told p r x).send true=w.refused p r x:=by unfold Wd.refused Wd.fresh;rw[if_neg h1,decide_eq_true Z];rfl
   haveI O:=I.told (p:=p) (r:=r) (x:=x);rw[show w.told p r x={w with no:=w.no+1,up:=max (min (p+1) (w.gs r x+1)) (w.mt+1),fp:=false}by unfold Wd.told;rw[if_neg h1,if_pos Z]]at O W;haveI S:=di (e:=e) (H:={H with u:=max (min (e.d+(p:Int)) (Q+1)) (H.m+1)}) (b:=true) B O ⟨J.r,J.m,by left;show max (min (e.d+(p:Int)) (Q+1)) (H.m+1)=e.d+((max (min (p+1) (w.gs r x+1)) (w.mt+1):Nat):Int)-1;rw[J.m,D];exact Bm X,J.p⟩ N;haveI T:max (min (e.d+(p:Int)) (Q+1)) (H.m+1)=max H.m (min (e.d+(p:Int)-1) Q)+1:=by exact"~6g>slWOQ5(>Io0Myy#_$o%t$i*0)f*&`U+,2Mo!JRA(pgwTaB(Z/55^sH90DTio$nw]L!4V+w0aFf22oA,)'3xw6k8A3^6tAng/{`#?QSY%^HckYE}Etw6pLXX.UO!bFr3/J#.^C!]hf?nDN#lk6:8.{q'M*" [_] [_,_,min (e.d+(↑p:Int)) (Q+1),_,_,min (e.d+(↑p:Int)-1) Q,_] rfl rfl rfl rfl
   exact nq _ U<|go _ [2]<|nq _ U<|nn _ Y<|fq _ (bT e3)<|nn _ e3<|nn _ T<|nn _ (rfl:H.m=H.m)<|nn _ (rfl:(w.st:Int)=w.st)<|nq _ U<|da _ S λ v M h=>pk _ (W▸h:wQ e (.bool true) (w.refused p r x) v M)
  .
   haveI Y:¬H.u-1=e.d+(p:Int):=by exact"/]=gBYKPNEzEDyCL?#<'%f*pB^ZXs.j4kVZBCcE7Nn.7#" X R Z
   haveI e3:¬e.d+(p:Int)=H.u-1:=by exact"6m>v.m~iIpUiHLLKG4/},PJ" Y
   haveI W:w.refused p r x={w with no:=w.no+1}:=by unfold Wd.refused Wd.fresh Wd.told;rw[if_neg h1,if_neg h1,decide_eq_false Z,if_neg Z];exact if_neg Bool.false_ne_true
   exact nq _ U<|go _ [2]<|nq _ U<|yn _ Y<|fq _ (bF e3)<|yn _ e3<|yq _ (rfl:H.u=H.u)<|yq _ (rfl:H.m=H.m)<|wx _ (.bool true) W H ⟨J.r,J.m,J.u,J.p⟩ (congrArg V.bool (decide_eq_true (rfl:(w.st:Int)=w.st))) rfl rfl rfl
def Ju(e:Ev)(H:Hd)(w:Wd)(p r:Nat)(x:Int):Cq:=wC e H w (w.refused p r x) 8 973 [.int (e.d+p),.int (e.d+r),.int (x+e.t)] (.bool true)
def l8(w:Wd)(x:Int)(J:Nat):List V:=((List.range' w.L.base J).filter λ q=>decide (ai w.L.th q<=x)).map λ(k:Nat)=>V.int k
theorem Hc(w:Wd)(d x:Int)(r:Nat)(Z:r<20):∃J:Nat,(ao (w.L.base:Int) (d+(r:Int)-d+1)).filterMap (Ek w.L.th x)=l8 w x J/\J<=20/\scan w.L.th x w.L.base (r+1)=((List.range' w.L.base J).filter λ q=>decide (ai w.L.th q<=x)).getLast?:=by
 by_cases h:r+1<=w.L.base;.exact⟨0,by rw[fu (by exact"lAf{N?mCtvid9Rl2" h)];rfl,by exact"56KgNi!",if_pos (by exact"|o6QrZz9$" h)⟩
 .
  refine⟨r+1-w.L.base,?_,by exact"qxlr&{:Z2$%r{jDBp9)" rfl Z,?_⟩;.rw[show d+(r:Int)-d+1=((w.L.base+(r+1-w.L.base):Nat):Int)by exact"MM?UgJjB>wr8UG.GhTvCa$=;MNP*&" rfl h];exact G'
  .rw[<-jU,show w.L.base+(r+1-w.L.base)=r+1 by exact"WZB}4i8yav(6+^Kp}J,$LW(" rfl h]
theorem uq(B:Bd e.d e.t)(I:WI w)(E:HW e.d H w)(S:w.ae.length<900)(N:r<w.L.th.length):(Ju e H w p r x).ok:=sR λ n=>by
 haveI f:=B.d1;have U:=I.l.t1.1;haveI q:=I.l.b1;haveI o:(vI w.L.th).length=w.L.th.length:=List.length_map ..;haveI C:=sM (c:=e.lead H w) B (.inl rfl) I.l (p:=r) (i:=e.d+r) (Z:=x+e.t) rfl N;unfold wV fB at C;rw[show x+e.t-(e.lead H w).t=x from Int.add_sub_cancel ..]at C;obtain⟨O,A,M,Y⟩:=Hc w e.d x r (by exact",OLm3R7qM]z:" N U);have y:e.d+(r:Int)-e.d+1-(w.L.base:Int)<=1000/\small (w.L.base:Int)=true/\small (e.d+(r:Int)-e.d+1)=true:=⟨by exact"&ojYYzH>%OS(CQM$ucqal'#9s#" N U,aB (by exact"7A,x&aJ") (by exact"x0lrS~s=x%0AZ}Hg6" U q),aB (by exact"9xl96YTK)w`z%") (by exact"m5=&+m#3X=m7:JZ9U]YA0i#" N U)⟩;have d:(l8 w x O).length<=lid:=by unfold l8;rw[List.length_map];exact Nat.le_trans (List.length_filter_le ..) (by rw[List.length_range'];unfold lid;exact"b1Gm`8P9$7l*" M)
 have T:∀(g:G)(k:(g.H0 (l8 w x O) (e.M H w)).sat)(Q:∀v,v∈ao (w.L.base:Int) (e.d+(r:Int)-e.d+1)->∀R:Option V->MH->Prop,R (Ek w.L.th x v) (e.M H w)->(g.HZ R v (e.M H w)).sat)(h:(g.yN,g.GC,g.ea)=(true,(ao (w.L.base:Int) (e.d+(r:Int)-e.d+1),e.M H w),g.eb)),g.sat:=λ g k Q h=>hY g (Ek w.L.th x) Q (A▸d) (A▸k) h;have Q:∀j:Int,(w.L.base:Int)<=j->j<e.d+(r:Int)-e.d+1->cY (vI w.L.th) j=some (.int (ai w.L.th j.toNat)):=λ j h1 h2=>kh (k:=j.toNat) (by exact"Law#!*GJ1yx*2/Y_,^w,'" rfl h1) (by exact"(zATYcCx~J5*AM(B4_T+FLr^IA(" rfl N h2);cases X:scan w.L.th x w.L.base (r+1)with
  |some s=>
   rw[X]at Y;rw[show scan (e.lead H w).L.th x (e.lead H w).L.base (r+1)=some s from X]at C;obtain@⟨@⟨t,u⟩,_,_⟩:=dE X;haveI F:w.gs r x=s+1:=by unfold Wd.gs;rw[X]
   haveI W:(l8 w x O)[(l8 w x O).length-1]?=some (.int (s:Int)):=by unfold l8;rw[List.length_map,List.getElem?_map,<-List.getLast?_eq_getElem?,<-Y];rfl
   haveI D:(0:Int)<((l8 w x O).length:Nat):=by have:=(List.getElem?_eq_some_iff.mp W).1;exact"12Q$mMq]tW" this
   refine cK (k:=0) 9 (sW (K:= .int (ai w.L.th s+e.t)) (L:= .lst (l8 w x O)) (G:= .tup [.int (e.d+s),.int (ai w.L.th s+e.t)]) B I E S (Q:=e.d+s) (by rw[F];exact"Ri&KrNL}n[9(1Uh") n)<|call _ C<|au _ y<|T _ (yq _ D<|cn _ (kI W)<|cn _ (kI W)<|cn _ (kh (a:=w.L.th) (k:=s) rfl (by exact"U1e}OkSw`;f2" N u))<|p8 _ (A8 (rfl:e.d+(s:Int)=_) (rfl:ai w.L.th s+e.t=_))<|go _ [0]<|fin _) (λ v P R J=>?_) (by kernel_rfl);obtain@⟨@j,(rfl),K,Z⟩:=c_ P;haveI J:R (if ai w.L.th j.toNat<=x then some (.int j)else none) (e.M H w):=J;by_cases z:ai w.L.th j.toNat<=x;.rw[if_pos z]at J;exact cn _ (Q j K Z)<|yq _ (show ai w.L.th j.toNat<=x+e.t-e.t by exact"`AnpiCoocvqjGnK" z)<|pk _ J
   .rw[if_neg z]at J;exact cn _ (Q j K Z)<|nq _ (show¬ai w.L.th j.toNat<=x+e.t-e.t by exact"I3NltMW5wS.*{rZ&<" z)<|pk _ J
  |none=>
   rw[X]at Y;rw[show scan (e.lead H w).L.th x (e.lead H w).L.base (r+1)=none from X]at C;have F:w.gs r x=min (r+1) w.L.base:=by unfold Wd.gs;rw[X]
   haveI L:l8 w x O=[]:=by unfold l8;rw[List.getLast?_eq_none_iff.mp Y.symm];rfl
   rw[L]at T;refine cK (k:=0) 9 (sW (K:= .int 0) (L:= .lst []) (G:= .tup [.int (min (e.d+r) (e.d+w.L.base-1)),.int 0]) B I E S (Q:=min (e.d+r) (e.d+w.L.base-1)) (by rw[F];exact"SprPv_FKcf)Vrphnn;vuFS7wqbKv=Q&SDL+He$y)w6'T;RELl" rfl rfl) n)<|call _ C<|au _ y<|T _ (go _ [0]<|p8 _ (A8 (rfl:min (e.d+(r:Int)) (e.d+w.L.base-1)=_) (rfl:(0:Int)=0))<|go _ [0]<|fin _) (λ v P R J=>?_) (by kernel_rfl);obtain@⟨@j,(rfl),K,Z⟩:=c_ P;haveI J:R (if ai w.L.th j.toNat<=x then some (.int j)else none) (e.M H w):=J;by_cases z:ai w.L.th j.toNat<=x;.rw[if_pos z]at J;exact cn _ (Q j K Z)<|yq _ (show ai w.L.th j.toNat<=x+e.t-e.t by exact"`AnpiCoocvqjGnK" z)<|pk _ J
   .rw[if_neg z]at J;exact cn _ (Q j K Z)<|nq _ (show¬ai w.L.th j.toNat<=x+e.t-e.t by exact"I3NltMW5wS.*{rZ&<" z)<|pk _ J
end
def Wd.upd(w:Wd)(a:Nat):Wd:=if w.mt<a+1 then{w with mt:=a+1,up:=max w.up (a+2),fp:=false}else w
def Wd.cy(w:Wd):Wd:={w with st:=1,up:=w.mt+1,pt:=0,fp:=false,fl:=[]}
def Wd.free(w:Wd)(a:Nat):Wd:={w with fl:=w.fl.dropWhile λ p=>decide (p.1<=a+1)}
def Wd.go(w:Wd)(a:Nat):Wd:=if w.st=0 then w.cy.send false else if w.st=1 then(w.free a).send false else if w.pt<=w.mt then w.cy.send false else w.send false
def Wd.news(w:Wd)(J:Bool)(a:Nat):Wd:=if J=false/\¬(w.st=0/\w.mt=a+1)then w else w.go a
section
variable{J:Nat}{d t:Int}{X:Fx}{w:Wd}{H:Hd}{M:MH}{a:Nat}
theorem WI.upd(I:WI w)(Z:a<w.L.th.length):WI (w.upd a):=by
 unfold Wd.upd;split;.have:=I.u1;have:=I.u2;exact⟨I.l,I.ls,I.o,I.st,by show 1<=max _ _;exact"LSaiGec_by<lO7'?2" rfl,by show max w.up (a+2)<=w.L.th.length+1;exact"QER?_nv7_Eg11j^GR!bo{s1" rfl Z this,by show a+1<max w.up (a+2);exact"Ped<yfN_!cOu|bs," rfl,I.li,I.z⟩
 .exact I
theorem WI.cy(I:WI w):WI w.cy:=by haveI:=I.mu;have:=I.u2;exact⟨I.l,I.ls,I.o,by show 1<=2;exact"I<_oQ)!",by show 1<=w.mt+1;exact"$7jDpn?",Nat.le_trans I.mu I.u2,Nat.lt_succ_self _,I.li,I.z⟩
theorem WI.free(I:WI w):WI (w.free a):=⟨I.l,I.ls,I.o,I.st,I.u1,I.u2,I.mu,I.li,I.z⟩
theorem nj{d:Int}:∀Z:List (Nat×Nat),freed (d+a) (km d Z)=km d (Z.dropWhile λ p=>decide (p.1<=a+1))
 |[]=>rfl
 |p::Z=>by
  unfold freed km;rw[List.map_cons];by_cases h:p.1<=a+1;.rw[List.dropWhile_cons_of_pos (by rw[decide_eq_true (EB h)]),List.dropWhile_cons_of_pos (by rw[decide_eq_true h])];exact nj Z
  .rw[List.dropWhile_cons_of_neg (by rw[decide_eq_false (Bx h)];exact Bool.false_ne_true),List.dropWhile_cons_of_neg (by rw[decide_eq_false h];exact Bool.false_ne_true),List.map_cons]
theorem qh{d:Int}{n:Nat}(h:n≠0):mI d n=d+n-1:=if_neg h
theorem HW.upd(B:Bd d t)(Z:HW d H w)(Q:w.mt<a+1)(W:1<=w.up):HW d {H with m:=d+a,u:=max H.u (d+a+1)} {w with mt:=a+1,up:=max w.up (a+2),fp:=false}:=by
 haveI U:=Z.u;haveI Y:=B.d1;refine⟨Z.r,?_,?_,Z.p⟩;.show d+(a:Int)=mI d (a+1);rw[qh (by exact"izwoDjBo%")];exact"Ri&KrNL}n[9(1Uh"
 .left;show max H.u (d+(a:Int)+1)=d+((max w.up (a+2):Nat):Int)-1;exact"l{wO~,Fetb!~:l7/ip^w)/DkM+%u6QNxL`B;$V53B5IB4a:e{Ld|I*d;Mosal}$^IbqPxbV{hZy{QHa<V;E)cL!#XiC'8DsPip=%" rfl rfl U Y
theorem HW.cy(Z:HW d H w)(z:0<w.size):HW d {H with u:=H.m+1,pe:=0,start:=0,oct:=0} w.cy:=by
 refine⟨RR.nil z Z.r.s3 Z.r.rs,Z.m,?_,rfl⟩;show H.m+1=d+((w.mt+1:Nat):Int)-1\/(w.mt+1=1/\H.m+1=1);rw[Z.m];unfold mI;by_cases z:w.mt=0;.rw[if_pos z];right;exact"Doi63SL:YH`u%KI~665_=" z
 .rw[if_neg z];left;exact"I(t,;;ZdzO>)$'2lXy("
theorem sX{d:Int}(Z:1<=d){n p:Nat}:mI d n<=mI d p↔n<=p:=by
 unfold mI;by_cases h:n=0;.rw[if_pos h];exact"Va.Qte`i~X7Eq2_(yH<[V%6N8awl[{3jdI)flNw^<y?!$r_Z$HU]R_Y!*" dj Z h
 .rw[if_neg h];exact"ik8Y~mWygw=!nEDxQ&f.slCE^(JVeT/CtIx&.~R/,BfdLh~,E+QK*;Xct]^ln<&K/q+%Wrbrptk8+" dj Z h
end
def Wd.dW(w:Wd)(i:Nat)(ag:Bool):Wd:={w with back:=if ag then w.back else w.back.eraseIdx i}
def Wd.qi(w:Wd):mD->Wd|.no p r x=>w.refused p r x|.ok a=>(w.upd a).news (decide (w.mt<a+1)) a
def Wd.read(w:Wd)(i:Nat)(J:Bool):Wd:=match w.back[i]? with|some m=>(w.dW i J).qi m|none=>w
def He(w:Wd):mD->Prop|.no _ r _=>r<w.L.th.length|.ok a=>a<w.L.th.length
section
variable{J:Nat}{d t:Int}{X:Fx}{w:Wd}{H:Hd}{M:MH}{a:Nat}
theorem WI.dW(I:WI w){i:Nat}{ag:Bool}:WI (w.dW i ag):=⟨I.l,I.ls,I.o,I.st,I.u1,I.u2,I.mu,I.li,I.z⟩
theorem A9{d:Int}(Z:1<=d){n a:Nat}:mI d n=d+a↔n=a+1:=by
 unfold mI;by_cases h:n=0;.rw[if_pos h];exact"_VrQ`nx.,^JIcukNE2A0zW}*5#" Z h
 .rw[if_neg h];exact"XqD1<K(,02&eauVy;r7$t]/N%"
end
section
variable{J:Nat}{d t:Int}{X:Fx}{w:Wd}{H:Hd}{M:MH}{a:Nat}
end
def Wd.dX(w:Wd):Wd:={w with fp:=false,sure:=if w.mt=0 then w.sure else max w.sure (min (w.mt-1) w.aA)}
def Wd.bJ(w:Wd):Wd:=if w.mt<w.L.th.length\/w.st=0 then w.dX.send true else w.dX
section
variable{J:Nat}{d t:Int}{X:Fx}{w:Wd}{H:Hd}{M:MH}{a:Nat}
theorem WI.dX(I:WI w):WI w.dX:=⟨I.l,I.ls,I.o,I.st,I.u1,I.u2,I.mu,I.li,I.z⟩
end
def LG.fold(G:LG)(l:Nat):LG:={G with base:=l,kb:=l}
theorem LW.fold{G:LG}(W:LW G)(Z:G.sn=false){l:Nat}(h1:G.base<l)(h2:l<G.o):LW (G.fold l):=by obtain@⟨O,V,Y,J,U,Q⟩:=W.n Z;exact⟨W.t1,W.t2,by show l<G.th.length;exact"OdtwoN4fXW!" h2 J,by show l<G.kept.length;exact"OdtwoN4fXW!" h2 Y,λ h=>(Bool.false_ne_true (Z.symm.trans h)).elim,λ _=>⟨rfl,h2,Y,J,U,Q⟩⟩
def Wd.sY(w:Wd)(y:Nat):Wd:={w with st:=0,up:=max (w.mt+1) ((if y%4=0 then 0 else w.pt)+1),pt:=0,fp:=true,fl:=[]}
def Wd.low(w:Wd)(y:Nat):Nat:=w.L.base+(1+y/2%(w.aA-w.L.base))
def Wd.bM(w:Wd)(y:Nat):Wd:=if w.st=2/\y%2=0 then w.sY y else if w.L.base<w.aA then{w with L:=w.L.fold (w.low y)}else w
section
variable{J:Nat}{d t:Int}{X:Fx}{w:Wd}{H:Hd}{M:MH}{a:Nat}
end
def A_(p:Nat×Nat):V:= .tup [.int p.1,.int p.2]
def Wd.row(w:Wd):V:= .tup [.int w.mt,.int w.up,.int w.st,.int w.pt,.bool w.fp,.lst (w.fl.map A_)]
def Wd.aE(w:Wd):Wd:={w with rows:=w.rows++[w.row]}
def oE(d x:Int):Int:=if x<d-1 then x else x-d+1
theorem xh{d:Int}(h:d=1\/3<=d)(n:Nat):oE d (mI d n)=n:=by
 unfold oE mI;by_cases z:n=0;.rw[if_pos z];exact"q]jdd'w^?$|K<t?J,%a=!GPPh'UoTnud'/NV.Q]3!6(SkD`1)*'%`ILk5:xU~dv5$" dj h z
 .rw[if_neg z,if_neg (by exact"]`<x&/1C,Qql0+")];exact"4j=XwJ<MXZD'a,N'"
theorem xi{d:Int}(n:Nat):oE d (d+n-1)=n:=by unfold oE;rw[if_neg (by exact"]`<x&/1C,Qql0+")];exact"4j=XwJ<MXZD'a,N'"
def rG(d:Int):V->Option V|.tup [.int i,.int k]=>some (.tup [.int (oE d i),.int k])|_=>none
theorem xj{d:Int}:∀J:List (Nat×Nat),((km d J).map item).filterMap (rG d)=J.map A_|[]=>rfl|p::J=>by show((item (d+p.1-1,(p.2:Int)))::(km d J).map item).filterMap (rG d)=_;rw[List.filterMap_cons_some (f:=rG d) (b:= .tup [.int (oE d (d+p.1-1)),.int p.2]) rfl,xj J,xi];rfl
section
variable{J:Nat}{d t:Int}{X:Fx}{w:Wd}{H:Hd}{M:MH}{a:Nat}
end
section
variable{e:Ev}{w:Wd}{H:Hd}{a:Nat}
def xk(e:Ev)(a:Nat)(J W:V)(Y:Bool)(Z U:V)(u:Loc):Loc:=[(112,.ref 0 e.X.g0),(14,J),(122,W),(8,.int (e.d+a)),(138,.bool Y),(27,Z),(76,U)]++u
theorem xl(B:Bd e.d e.t)(I:WI w)(J:HW e.d H w)(X:w.ae.length<900)(n:Nat){T A G K P:V}:rS e (.bool true) (w.go a) (n+8) 980 6 (xk e a T A false G K [(115,.ref 1 e.X.gp),(143,P)]) (e.M H w):=kq<|by
 haveI L:=I.st;haveI D:=B.d1;haveI S:=di (b:=false) B I.cy (J.cy I.z) X;by_cases W:w.st=0;.haveI Y:w.cy.send false=w.go a:=(if_pos W).symm;exact yq _ (show(w.st:Int)=0 by exact"aU)ZXLqYfU6>$" W)<|go _ [2,2,2]<|da _ S λ v M h=>pk _ (Y▸h:wQ e (.bool true) (w.go a) v M)
 .
  haveI O:¬(w.st:Int)=0:=by exact"=Jal`{#33<P#PI#" W
  by_cases h1:w.st=1;.
   haveI Y:(w.free a).send false=w.go a:=by unfold Wd.go;rw[if_neg W,if_pos h1]
   refine nq _ O<|yq _ (show(w.st:Int)=1 by exact"Z&t<cs*p8uS6" h1)<|e_ _ (Dm (O:=e.off) (g:=H.gi) (W:=H.gr) (Q:=H.oct) (i:=e.d+a) J.r) λ v M h=>?_;obtain⟨rfl,h⟩:=h;rw[nj]at h;obtain⟨Z,Q,U,C,rfl⟩:=h;haveI F:=di (b:=false) B I.free (⟨C,J.m,J.u,J.p⟩:HW e.d {H with start:=Z,oct:=Q,ring:=U} (w.free a)) X;exact da _ F λ v M h=>pk _ (Y▸h:wQ e (.bool true) (w.go a) v M)
  .
   haveI R:¬(w.st:Int)=1:=by exact"2L#aIr&>}AKT#/" h1
   by_cases h2:w.pt<=w.mt;.
    haveI Y:w.cy.send false=w.go a:=by unfold Wd.go;rw[if_neg W,if_neg h1,if_pos h2]
    haveI N:H.pe<=H.m:=by rw[J.p,J.m];exact(sX D).mpr h2
    exact nq _ O<|nq _ R<|yq _ N<|go _ [2]<|yq _ (show(w.st:Int)=2 by exact"<mekyvh{/K#jMcBzlRCyb?3v!Pd3" L O R)<|go _ [2,2,2,2,2]<|da _ S λ v M h=>pk _ (Y▸h:wQ e (.bool true) (w.go a) v M)
   .
    haveI Y:w.send false=w.go a:=by unfold Wd.go;rw[if_neg W,if_neg h1,if_neg h2]
    haveI N:¬H.pe<=H.m:=by rw[J.p,J.m];exact λ h=>h2 ((sX D).mp h)
    exact nq _ O<|nq _ R<|nq _ N<|da _ (di (b:=false) B I J X) λ v M h=>pk _ (Y▸h:wQ e (.bool true) (w.go a) v M)
theorem DJ(B:Bd e.d e.t)(I:WI w)(J:HW e.d H w)(R:w.ae.length<900)(G:a<w.L.th.length)(n:Nat){O N W Q:V}:rS e (.bool true) ((w.upd a).news (decide (w.mt<a+1)) a) (n+8) 980 3 (xk e a O N false W Q []) (e.M H w):=by
 haveI K:=I.st;haveI Y:=B.d1;by_cases h:w.mt<a+1;.
  haveI X:H.m<e.d+(a:Int):=by rw[J.m];exact(qg Y).mpr h
  haveI D:=I.upd G;haveI Z:(w.upd a).news (decide (w.mt<a+1)) a=(w.upd a).go a:=by unfold Wd.news;rw[decide_eq_true h];exact if_neg λ z=>Bool.noConfusion z.1
  rw[Z];rw[show w.upd a={w with mt:=a+1,up:=max w.up (a+2),fp:=false}from if_pos h]at D⊢;exact cK (k:=3) 3 (xl (a:=a) (T:=O) (A:=N) (G:=W) (K:=Q) (P:= .bool true) B D (J.upd B h I.u1) R n)<|go _ [2]<|nq _ (show¬e.d+(a:Int)<=H.m by exact">j?h6&qMAUP0h/Z#" X)<|go _ [0,0]<|fin _
 .
  haveI X:¬H.m<e.d+(a:Int):=by rw[J.m];exact λ z=>h ((qg Y).mp z)
  haveI U:e.d+(a:Int)<=H.m:=by exact"uxNa%Th2<E<lq_{" X
  rw[show w.upd a=w from if_neg h,decide_eq_false h];by_cases z:(w.st:Int)=0;.
   by_cases y:H.m=e.d+(a:Int);.haveI Z:w.news false a=w.go a:=if_neg λ x=>x.2 ⟨by exact"Uv/,AwpYfU6>$" z,(A9 Y).mp (J.m▸y)⟩;rw[Z];exact cK (k:=3) 3 (xl (a:=a) (T:=O) (A:=N) (G:=W) (K:=Q) (P:= .bool false) B I J R n)<|go _ [2]<|yq _ U<|go _ [1]<|nn _ z<|nn _ y<|fin _
   .haveI Z:w.news false a=w:=if_pos ⟨rfl,λ x=>y (by rw[J.m];exact(A9 Y).mpr x.2)⟩;exact kq<|go _ [2]<|yq _ U<|go _ [1]<|nn _ z<|yn _ y<|wx _ (.bool true) Z H J rfl rfl rfl rfl
  .have Z:w.news false a=w:=if_pos ⟨rfl,λ y=>z (by rw[y.1];rfl)⟩;exact kq<|go _ [2]<|yq _ U<|go _ [1]<|yn _ z<|yn _ z<|wx _ (.bool true) Z H J rfl rfl rfl rfl
def zL(e:Ev):mD->Nat|.ok a=>a|.no p r x=>p
def zM:mD->Bool|.ok a=>false|.no p r x=>true
def qj(e:Ev):mD->V×V|.ok a=>(.int 0,.int 0)|.no p r x=>(.int (e.d+r),.int (x+e.t))
theorem DK(e:Ev)(m:mD):g8 e.d e.t m= .tup [.int (e.d+zL e m),.bool (zM m),(qj e m).1,(qj e m).2]:=by cases m<;>rfl
def A'(e:Ev)(H:Hd)(w:Wd)(i:Nat)(J:Bool):Cq:=wC e H w (w.read i J) 9 980 [.int i,.bool J] (.bool true)
theorem jE(B:Bd e.d e.t)(I:WI w)(Z:HW e.d H w)(W:w.ae.length<900){i:Nat}{m:mD}(V:w.back[i]?=some m)(O:He w m){ag:Bool}:(A' e H w i ag).ok:=sR λ n=>by
 have Q:=I.dW (i:=i) (ag:=ag);have J:HW e.d H (w.dW i ag):=⟨Z.r,Z.m,Z.u,Z.p⟩;have X:w.read i ag=(w.dW i ag).qi m:=by unfold Wd.read;rw[V]
 rw[X];have Y:(e.bl w)[i]?=some (.tup [.int (e.d+zL e m),.bool (zM m),(qj e m).1,(qj e m).2]):=by unfold Ev.bl;rw[List.getElem?_map,V,<-DK];rfl
 have K:rS e (.bool true) ((w.dW i ag).qi m) (n+8) 980 2 (xk e (zL e m) (.int i) (.bool ag) (zM m) (qj e m).1 (qj e m).2 []) (e.M H (w.dW i ag)):=by cases m with|ok a=>exact cK (k:=2) 1 (DJ (O:= .int i) (N:= .bool ag) (W:= .int 0) (Q:= .int 0) B Q J W O n)<|go _ [0]<|fin _|no p r x=>exact kq<|go _ [1]<|da _ (uq (p:=p) (r:=r) (x:=x) B Q J W O) λ v M h=>pk _ h
 cases ag with
  |true=>exact cK (k:=0) 2 K<|cn _ (bb rfl Y)<|go _ [0]<|fin _
  |false=>
   have U:(e.bl w)[((i:Nat):Int).toNat]?=some (.tup [.int (e.d+zL e m),.bool (zM m),(qj e m).1,(qj e m).2]):=by rw[Int.toNat_natCast];exact Y
   have N:e.Mx H (w.dW i false) (e.ml w) (e.hl w) ((e.bl w).eraseIdx ((i:Nat):Int).toNat)=e.M H (w.dW i false):=by rw[Int.toNat_natCast,show(e.bl w).eraseIdx i=e.bl (w.dW i false)from gJ ..];rfl
   exact cK (k:=0) 2 K<|cn _ (bb rfl Y)<|go _ [1]<|au _ (show(0:Int)<=(i:Int)by exact"7A,x&aJ")<|cn _ U<|fJ _ N
def Ba(e:Ev)(H:Hd)(w:Wd):Cq:=wC e H w w.bJ 8 987 [] (.bool true)
theorem Hf(B:Bd e.d e.t)(I:WI w)(Z:HW e.d H w)(V:w.ae.length<900)(n:Nat){u:Loc}:rS e (.bool true) w.bJ (n+7) 987 3 ((112,.ref 0 e.X.g0)::(115,.ref 1 e.X.gp)::u) (e.M H w.dX):=kq<|by
 have Q:=B.d1;haveI U:=I.l.b1;haveI O:(vI w.L.th).length=w.L.th.length:=List.length_map ..;have Y:HW e.d H w.dX:=⟨Z.r,Z.m,Z.u,Z.p⟩;have S:=di (b:=true) B I.dX Y V;haveI W:H.m<e.d+((vI w.L.th).length:Nat)-1↔w.mt<w.L.th.length:=by rw[Z.m,O];haveI:=qg Q (n:=w.mt) (p:=w.L.th.length-1);rw[show e.d+(w.L.th.length:Int)-1=e.d+((w.L.th.length-1:Nat):Int)by exact"e/.ju&_6p?g`pkY>>}Of'15(W" rfl U,this];exact"+l5`<e>fB#k/HXxb/VKOv]:#" rfl U
 by_cases z:H.m<e.d+((vI w.L.th).length:Nat)-1;.haveI J:w.dX.send true=w.bJ:=(if_pos (.inl (W.mp z))).symm;exact yq _ z<|yq _ z<|da _ S λ v M h=>pk _ (J▸h:wQ e (.bool true) w.bJ v M)
 .
  by_cases y:(w.st:Int)=0;.haveI J:w.dX.send true=w.bJ:=(if_pos (.inr (by exact"Uv/,AwpYfU6>$" y))).symm;exact nq _ z<|yq _ y<|da _ S λ v M h=>pk _ (J▸h:wQ e (.bool true) w.bJ v M)
  .
   haveI J:w.bJ=w.dX:=if_neg λ h=>by
    rcases h with h|h;.exact z (W.mpr h)
    .exact y (by exact"aU)ZXLqYfU6>$" h)
   exact nq _ z<|nq _ y<|wx _ (.bool true) J H Y rfl rfl rfl rfl
theorem l9(B:Bd e.d e.t)(I:WI w)(Z:HW e.d H w)(O:w.ae.length<900)(X:w.mt≠0->min (w.mt-1) w.aA<w.O.th.length):(Ba e H w).ok:=sR λ n=>by
 haveI V:=B.d1;haveI K:=λ u=>Hf B I Z O n (u:=u);by_cases J:w.mt=0;.
  haveI Y:¬0<H.m:=by rw[Z.m];unfold mI;rw[if_pos J];exact"BL8JbFt!"
  haveI U:w.dX={w with fp:=false}:=by unfold Wd.dX;rw[if_pos J]
  rw[U]at K;exact cK (k:=0) 3 (K [])<|nq _ Y<|fin _
 .
  haveI Y:0<H.m:=by rw[Z.m,qh J];exact"GsrL`O3iNe$x:+*'b,KEW" V J
  haveI W:min (H.m-e.d) (w.aA:Int)=((min (w.mt-1) w.aA:Nat):Int):=by rw[Z.m,qh J];exact";,?.w~Nv1yiceR|b8,3]*`Ky8,veI#_9j'blW2FdC=m=Ee6f]0'GeJ{jeDR5Gr^wkI~N}JAO9" [_,_,w.mt-1,_] [_,_] rfl rfl rfl J
  haveI C:=gv (c:=e.other H w) (.inr rfl) I.o (k:=min (w.mt-1) w.aA) (i:=e.d+min (H.m-e.d) (w.aA:Int)) (by rw[W];rfl) (X J);haveI U:w.dX={w with fp:=false,sure:=max w.sure (min (w.mt-1) w.aA)}:=by unfold Wd.dX;rw[if_neg J]
  haveI Q:e.Q H {w with fp:=false,sure:=max w.sure (min (w.mt-1) w.aA)} (vI w.O.th) (max (w.sure:Int) (min (H.m-e.d) (w.aA:Int))) (e.hl w)=e.M H w.dX:=by rw[show max (w.sure:Int) (min (H.m-e.d) (w.aA:Int))=((max w.sure (min (w.mt-1) w.aA):Nat):Int)by rw[W];exact"5#!,P+tn%M!_[aNNg`7.|Xl${>XlWj|q_VKY!Lf{0" [_,w.mt,w.mt-1,w.aA,_,_] [_] rfl rfl,U];rfl
  exact cK (k:=0) 3 (K [(102,.int (min (H.m-e.d) (w.aA:Int)))])<|yq _ Y<|call _ C<|fJ _ Q
end
def Ev.F(e:Ev)(H:Hd)(w:Wd)(J:Int)(k:Nat):MH:=(0,some (e.X.g0,.dict [(100,.int e.d),(77,.int e.t),(78,.lst (vI w.L.th)),(124,.lst (vI w.O.th)),(40,.lst (vI w.O.kept)),(120,.int J),(126,.int w.O.base),(134,.int w.O.kb),(43,.int w.aA),(127,.int w.sure),(114,.ref 4 e.X.gl),(123,.ref 104 H.gO),(115,.ref 1 e.X.gp),(138,.int w.no),(57,.int w.lim),(119,.ref 10 e.X.gm),(4,.ref 11 H.gh),(135,.ref 12 H.gb),(151,.ref 13 H.gw)]))::(1,some (e.X.gp,Jg H.m H.u w.st H.pe w.fp H.gi))::(IB w.size H.start (km e.d w.fl).length H.oct H.gi H.gr H.ring++((4,some (e.X.gl,cLog 0 H.jS H.kJ (e.d+w.aA) H.J5))::(5,some (H.kJ,jy (cond w.L.sn (snap aZ (e.d+w.L.base) (ai w.L.th w.L.base+e.t)) .none) (ents e.d e.t w.L.o (w.L.th.drop w.L.o)) (e.d+w.L.o)))::(6,some (H.jS,ui H.H7 aZ (snap aZ (e.d+J) (ai w.L.kept k+e.t)) (e.d+J) (ai w.L.kept k+e.t) (ents e.d e.t (k+1) (w.L.kept.drop (k+1)))))::(e.M H w).drop 7))
section
variable{e:Ev}{w:Wd}{H:Hd}{y:Nat}
def Hg(e:Ev)(H:Hd)(w:Wd)(y:Nat):Cq:=wC e H w (w.bM y) 4 994 [.int y] .none
theorem m2:(0:Int)<2/\small 2=true:=⟨by decide,by decide⟩
theorem m4:(0:Int)<4/\small 4=true:=⟨by decide,by decide⟩
theorem Hh{d:Int}{b:Nat}:mI d b+1=d+((b+1:Nat):Int)-1\/(b+1=1/\mI d b+1=1):=by
 unfold mI;split;.exact .inr ⟨congrArg (·+1) ‹_›,rfl⟩
 .exact .inl By
theorem DL{d:Int}(J:1<=d){a b:Nat}:max (mI d a+1) (mI d b+1)=d+((max (a+1) (b+1):Nat):Int)-1\/(max (a+1) (b+1)=1/\max (mI d a+1) (mI d b+1)=1):=by
 rcases Nat.le_total a b with h|h;.rw[Int.max_eq_right (Int.add_le_add_right ((sX J).mpr h) 1),Nat.max_eq_right (Nat.succ_le_succ h)];exact Hh
 .rw[Int.max_eq_left (Int.add_le_add_right ((sX J).mpr h) 1),Nat.max_eq_left (Nat.succ_le_succ h)];exact Hh
theorem sZ(Y:1<=e.d)(I:WI w)(Z:HW e.d H w){J:Int}(U:J=mI e.d (if y%4=0 then 0 else w.pt)):HW e.d {H with u:=max (H.m+1) (J+1),pe:=0,start:=0,oct:=0} (w.sY y):=by refine⟨RR.nil I.z Z.r.s3 Z.r.rs,Z.m,?_,rfl⟩;show max (H.m+1) (J+1)=e.d+((max (w.mt+1) ((if y%4=0 then 0 else w.pt)+1):Nat):Int)-1\/(max (w.mt+1) ((if y%4=0 then 0 else w.pt)+1)=1/\max (H.m+1) (J+1)=1);rw[U,Z.m];exact DL Y
theorem DM(I:WI w)(V:w.aA<w.L.o)(h:w.L.base<w.aA):((w.L.base:Int)+(1+(y:Int)/2%((w.aA:Int)-w.L.base))=(w.low y:Nat)/\w.L.base<w.low y/\w.low y<=w.aA)/\(w.L.kept.drop (w.L.kb+1))[w.low y-w.L.kb-1]?=some (ai w.L.kept (w.low y)):=by
 obtain@⟨W,X,Q,O,N,R⟩:=I.l.n I.ls;haveI Y:y/2%(w.aA-w.L.base)<w.aA-w.L.base:=Nat.mod_lt _ (by exact"k*+cg!m2)7CRHk'" rfl h);haveI U:(y:Int)/2%((w.aA:Int)-w.L.base)=((y/2%(w.aA-w.L.base):Nat):Int):=by rw[show(w.aA:Int)-w.L.base=((w.aA-w.L.base:Nat):Int)by exact"/1=;7cSc$G29jx<)EV/x68" rfl Y];rfl
 haveI Z:w.L.base<w.low y:=by unfold Wd.low;exact"V<}ibq>Q!"
 haveI J:w.low y<=w.aA:=by unfold Wd.low;exact"<ZXtLOngI;RJ|Z~IpA" [_,_,_,w.aA-w.L.base] [] rfl Y
 exact⟨⟨by rw[U];unfold Wd.low;exact"7H5&i.Y?WQ9~6I#",Z,J⟩,by rw[List.getElem?_drop,show w.L.kb+1+(w.low y-w.L.kb-1)=w.low y by exact"IU>qMnke4(}(Q,25)3>l05m0VZoQvaJpO1=^o4&" [_,_,w.low y-w.L.kb,_,_] [] rfl rfl W Z];exact cq (by exact"%(MZzZMU[;9`C%" [_,_,w.aA,_] [] V Q J)⟩
theorem xm(B:Bd e.d e.t)(I:WI w)(Z:HW e.d H w)(j:y<1000000000)(M:w.aA<w.L.o):(Hg e H w y).ok:=sR λ n=>kq<|by
 haveI L:=B.d1;haveI R:=I.l.t1.1;haveI E:=I.l.ol;by_cases h2:w.st=2/\y%2=0;.
  have Y:w.bM y=w.sY y:=if_pos h2;haveI J:(w.st:Int)=2:=by exact"7TT{_Of?`Q1|J9J<P#" [_,y,y/2,_] [] h2
  haveI G:(y:Int)%2=0:=by exact"<AO&krlJ=A#feeQzs^:{)a6qhujhtAv_N08M02g+:X$" [_,_,y/2,_] [_,_] ⟨rfl,rfl⟩ ⟨rfl,rfl⟩ h2
  by_cases Q:y%4=0;.exact yq _ J<|au _ m2<|yq _ G<|au _ m4<|yq _ (show(y:Int)%4=0 by exact"=GZHm5xv'LaLa6NPd.;sX!#P}Q5k59~7;Gfw#)Q#" [_,y/4,_] [_,_] ⟨rfl,rfl⟩ ⟨rfl,rfl⟩ Q)<|go _ [2]<|yq _ J<|go _ [2,2]<|wx _ .none Y _ (sZ (y:=y) L I Z (J:=0) (by rw[if_pos Q];rfl)) rfl rfl rfl rfl
  .exact yq _ J<|au _ m2<|yq _ G<|au _ m4<|nq _ (show¬(y:Int)%4=0 by exact"oW;{5d[bgBK'J~q&1J6{=YsH<qTo~[K?ZB~N}5L>4" [_,y/4,_] [_,_] ⟨rfl,rfl⟩ ⟨rfl,rfl⟩ Q)<|go _ [2]<|yq _ J<|go _ [2,2]<|wx _ .none Y _ (sZ (y:=y) L I Z (J:=H.pe) (by rw[if_neg Q];exact Z.p)) rfl rfl rfl rfl
 .
  by_cases h:w.L.base<w.aA;.
   haveI Y:w.bM y={w with L:=w.L.fold (w.low y)}:=by unfold Wd.bM;rw[if_neg h2,if_pos h]
   obtain@⟨X,A,u,P,C,z⟩:=I.l.n I.ls;obtain@⟨@⟨O,W,S⟩,T⟩:=DM (y:=y) I M h;haveI F:=um (X:=e.off) (g:=H.jS) (d:=e.d) (t:=e.t) (W:=H.H7) (U:=aZ) (b:=e.d+w.L.kb) (Q:=ai w.L.kept w.L.kb+e.t) (p:=w.L.kb+1) (N:=e.d+w.L.kb) (D:=ai w.L.kept w.L.kb+e.t) (i:=e.d+((w.L.base:Int)+(1+(y:Int)/2%((w.aA:Int)-w.L.base)))) T (by rw[O];exact"^S?te8/cYO7NT^V9mM5zgHdd3I*Gt~K|54'<,[C[ieLL)" [_,_,w.low y-w.L.kb,_,_] [_] rfl rfl X W) (by rw[O];exact"/chQSbP<:im'PL{7" [_,_,w.L.base] [_] X W);haveI N:=rC (X:=e.off) (g:=H.jS) (d:=e.d) (t:=e.t) (W:=H.H7) (U:=aZ) (O:=snap aZ (e.d+((w.L.base:Int)+(1+(y:Int)/2%((w.aA:Int)-w.L.base)))) (ai w.L.kept (w.low y)+e.t)) (b:=e.d+w.L.kb) (Q:=ai w.L.kept w.L.kb+e.t) (p:=w.L.kb+1) (i:=e.d+((w.L.base:Int)+(1+(y:Int)/2%((w.aA:Int)-w.L.base)))) T (by rw[O];exact"^S?te8/cYO7NT^V9mM5zgHdd3I*Gt~K|54'<,[C[ieLL)" [_,_,w.low y-w.L.kb,_,_] [_] rfl rfl X W);unfold GU at N;rw[List.drop_drop,show w.L.kb+1+(w.low y-w.L.kb-1+1)=w.low y+1 by exact"u$U3QtNy[f)Ho|*xiULCaXi<pjnEoArh<%C`fx_SA'" [_,_,w.low y-w.L.kb,_,_] [] rfl rfl X W]at N;haveI U:(w.L.base:Int)<w.aA:=by exact"^w|:R+wlMK/g" W S
   haveI D:(0:Int)<(w.aA:Int)-w.L.base/\small ((w.aA:Int)-w.L.base)=true:=⟨by exact"JT{]x.rQB+&R<'" U,aB (by exact"A_u&Y',in1:J/%" U) (by exact"fv0GIB|b?4&'t%9>e!/s1V+)#" M R P)⟩;haveI K:wQ e .none (w.bM y) .none (e.F H w ((w.L.base:Int)+(1+(y:Int)/2%((w.aA:Int)-w.L.base))) (w.low y)):=by refine⟨rfl,H,Y▸⟨Z.r,Z.m,Z.u,Z.p⟩,?_⟩;rw[O,Y];unfold Ev.F;rw[show cond w.L.sn (snap aZ (e.d+w.L.base) (ai w.L.th w.L.base+e.t)) V.none=cond w.L.sn (snap aZ (e.d+(w.low y:Nat)) (ai w.L.th (w.low y)+e.t)) V.none by rw[I.ls];rfl];rfl
   by_cases J:(w.st:Int)=2;.exact yq _ J<|au _ m2<|nq _ (show¬(y:Int)%2=0 by exact"H}um/8v[I8L/QfkydbJHfi,YB,a)4dff$j%Kk`IB|e~JMBW~;5t2t0" [_,_,y/2,_] [_,_] ⟨rfl,rfl⟩ ⟨rfl,rfl⟩ h2 J)<|yq _ U<|au _ m2<|au _ D<|call _ F<|call _ N<|pk _ K
   .exact nq _ J<|nq _ J<|yq _ U<|au _ m2<|au _ D<|call _ F<|call _ N<|pk _ K
  .
   haveI Y:w.bM y=w:=by unfold Wd.bM;rw[if_neg h2,if_neg h]
   haveI U:¬(w.L.base:Int)<w.aA:=by exact"~TvxV&td<kU" h
   by_cases J:(w.st:Int)=2;.exact yq _ J<|au _ m2<|nq _ (show¬(y:Int)%2=0 by exact"H}um/8v[I8L/QfkydbJHfi,YB,a)4dff$j%Kk`IB|e~JMBW~;5t2t0" [_,_,y/2,_] [_,_] ⟨rfl,rfl⟩ ⟨rfl,rfl⟩ h2 J)<|nq _ U<|wx _ .none Y H Z rfl rfl rfl rfl
   .exact nq _ J<|nq _ J<|nq _ U<|wx _ .none Y H Z rfl rfl rfl rfl
theorem zN{J:Nat}{d x:Int}:Ct.ok ⟨1,false,951,J,[.int x,.int d],[],.int (oE d x),[]⟩:=Ct.of λ n=>gj _ (λ z=>bk _ (show V.int x= .int (oE d x)from congrArg V.int (if_pos (yes z:x<d-1)).symm)) λ z=>bk _ (show V.int (x-d+1)= .int (oE d x)from congrArg V.int (if_neg (nay z:¬x<d-1)).symm)
def xn(e:Ev)(H:Hd)(w:Wd):Cq:=wC e H w w.aE 3 1006 [] (.bool true)
def xo(e:Ev)(H:Hd):Loc:=[(112,.ref 0 e.X.g0),(115,.ref 1 e.X.gp),(123,.ref 104 H.gO),(100,.int e.d)]
theorem DN(B:Bd e.d e.t)(U:e.d=1\/3<=e.d)(I:WI w)(J:HW e.d H w)(K:w.rows.length<900)(n:Nat):rS e (.bool true) w.aE (n+2) 1006 6 (xo e H) (e.M H w):=kq<|by
 haveI R:=Dp (Q:=e.off) (g:=H.gi) (O:=H.gr) (W:=H.oct) J.r;haveI Z:=λ x:Int=>zN (J:=e.off) (d:=e.d) (x:=x);haveI W:=xj (d:=e.d) w.fl;haveI Y:(km e.d w.fl).length<=3:=Nat.le_trans J.r.le J.r.s3;haveI O:(((km e.d w.fl).map item).filterMap (rG e.d)).length<=lid:=by rw[W,List.length_map];have:=l5 (d:=e.d) (l:=w.fl);unfold lid;exact"zVo(00l;HM1sh!:" Y this
 haveI D:oE e.d H.m=w.mt:=by rw[J.m];exact xh U _
 haveI Q:oE e.d H.u=w.up:=by
  haveI F:=B.d1;rcases J.u with h|⟨h,L⟩;.rw[h];exact xi _
  .rw[L,h];unfold oE;exact"F:{NcIh#7)K6+R=S9k;kdx6vI(x0XcY:AZQgG)Hc/)[;kPVfoLobI<I#" dj U
 haveI e3:oE e.d H.pe=w.pt:=by rw[J.p];exact xh U _
 haveI G:V.tup [.int (oE e.d H.m),.int (oE e.d H.u),.int w.st,.int (oE e.d H.pe),.bool w.fp,.lst (((km e.d w.fl).map item).filterMap (rG e.d))]=w.row:=by rw[D,Q,e3,W];rfl
 haveI X:wQ e (.bool true) w.aE (.bool true) (e.M H {w with rows:=w.rows++[.tup [.int (oE e.d H.m),.int (oE e.d H.u),.int w.st,.int (oE e.d H.pe),.bool w.fp,.lst (((km e.d w.fl).map item).filterMap (rG e.d))]]}):=⟨rfl,H,⟨J.r,J.m,J.u,J.p⟩,by rw[G];rfl⟩;refine call _ R<|hY _ (rG e.d) (l:=(km e.d w.fl).map item) (M:=e.M H w) (λ v N R r=>?_) O<|call _ (Z H.m)<|call _ (Z H.u)<|call _ (Z H.pe)<|au _ (show w.rows.length<lid by unfold lid;exact"YKcuUT2#)n]75;&" K)<|pk _ X;obtain@⟨@p,T,(rfl)⟩:=List.mem_map.mp N;exact go _ [1]<|call _ (Z p.1)<|pk _ r
theorem DO(B:Bd e.d e.t)(Q:e.d=1\/3<=e.d)(I:WI w)(Z:HW e.d H w)(G:w.rows.length<900)(n:Nat):rS e (.bool true) w.aE (n+2) 1006 4 (xo e H) (e.M H w):=by
 haveI U:=B.d1;haveI W:=Z.u;haveI R:=Z.m;haveI V:=I.mu;haveI D:=I.u2;haveI J:(vI w.L.th).length=w.L.th.length:=List.length_map ..;haveI Y:(vI w.O.th).length=w.O.th.length:=List.length_map ..;haveI L:=kn (c:=e.other H w) (.inr rfl) I.o;haveI O:¬H.u<=H.m:=by rw[R];unfold mI;exact"vR/aPB_.5o|A)hl2<9*xzXM|0N%$~kynk6/Lan(>f,YrXqR%`)iW73B[lOQ:SFT}j|MU`;'" dj U W V
 haveI X:¬e.d+((vI w.L.th).length:Nat)<H.u:=by rw[J];exact"jLb5]][99FVv1XOch$)_{d`;ABAw.;ZIdZTe+" U W D
 haveI N:e.d+(w.O.th.length:Int)-1=e.d+((vI w.O.th).length:Nat)-1:=by rw[Y]
 exact cK (k:=4) 2 (DN B Q I Z G n)<|nq _ O<|nq _ X<|nn _ (rfl:e.d+(w.sure:Int)=e.d+w.sure)<|call _ L<|nn _ N<|fin _
theorem gx(B:Bd e.d e.t)(U:e.d=1\/3<=e.d)(I:WI w)(Z:HW e.d H w)(O:w.rows.length<900){m:Nat}(A:Ji w.L.th w.O.kept m)(V:w.mt<=m+1):(xn e H w).ok:=sR λ n=>by
 haveI Y:=I.l.t1.1;haveI G:=sP (Z:=e.off) A (by exact",i8z_l]7~c2" Y);haveI K:=DO B U I Z O n;by_cases z:H.m=0;.exact cK (k:=0) 4 K<|nn _ z<|nn _ z<|fin _
 .
  haveI J:w.mt≠0:=λ h=>z (by rw[Z.m,h];rfl);haveI W:¬H.m<e.d:=by rw[Z.m,qh J];exact"A{$Ag95YBe2bP3DvX0" J
  haveI Q:¬(m:Int)<H.m-e.d:=by rw[Z.m,qh J];exact"ZtAuM3}?#5p*ndU=5$" V
  exact cK (k:=0) 4 K<|yn _ z<|nq _ W<|call _ G<|nq _ Q<|fin _
end
structure Pair(J Z:List Int)(s:Nat):Prop where
 s1:1<=s
 sm:s<J.length
 st:s<Z.length
 tm:Tm J
 tt:Tm Z
 eq:∀j,j<s->ai J j=ai Z j
 ne:∀i j,s<=i->i<J.length->s<=j->j<Z.length->ai J i≠ai Z j
 mm:∀i j,i<=j->j<J.length->ai J i<=ai J j
 mt:∀i j,i<=j->j<Z.length->ai Z i<=ai Z j
def cW(J Z l:List Int):Prop:=l=Z\/∃n,1<=n/\n<=J.length/\l=J.take n
open Classical in def a9(J:List Int)(s:Nat)(l:List Int):Nat:=if l=J then s-1 else l.length-1
section
variable{J Z l:List Int}{s:Nat}
theorem bu{a:List Int}{k i:Nat}(h:i<k):ai (a.take k) i=ai a i:=by unfold ai;rw[List.getD_eq_getElem?_getD,List.getD_eq_getElem?_getD,List.getElem?_take_of_lt h]
theorem d9:a9 Z s Z=s-1:=if_pos rfl
theorem zO(P:Pair J Z s){n:Nat}:J.take n≠Z:=λ h=>by
 haveI e:=congrArg List.length h;rw[List.length_take]at e;haveI:=P.st;haveI h2:ai J s=ai Z s:=by rw[<-h,bu (by exact"dC;3i>l|Va{<,Fm,gkZ}/(" [_,_,_,min n J.length,_] [] rfl e this)]
 exact P.ne s s (Nat.le_refl _) P.sm (Nat.le_refl _) P.st h2
theorem cL(P:Pair J Z s){n:Nat}(h:n<=J.length):a9 Z s (J.take n)=n-1:=by unfold a9;rw[if_neg (zO P),List.length_take,Nat.min_eq_left h]
theorem cW.pos(P:Pair J Z s)(h:cW J Z l):a9 Z s l<l.length/\a9 Z s l<J.length:=by
 have:=P.s1;have:=P.sm;have:=P.st;rcases h with rfl|⟨n,h1,h2,rfl⟩;.rw[d9];exact⟨Nat.lt_of_le_of_lt (Nat.sub_le ..) P.st,Nat.lt_of_le_of_lt (Nat.sub_le ..) P.sm⟩
 .rw[cL P h2,List.length_take];exact"|o?mIoFN$l[(99DXz4>FRee*uOMqIKM,6mwm$" rfl rfl h1 h2
theorem cW.tm(P:Pair J Z s)(h:cW J Z l):Tm l:=by
 rcases h with rfl|⟨n,h1,h2,rfl⟩;.exact P.tt
 .exact P.tm.take
theorem cW.same(P:Pair J Z s)(h:cW J Z l){j:Nat}(Y:j<=a9 Z s l):ai l j=ai J j:=by
 haveI:=P.s1;rcases h with rfl|⟨n,h1,h2,rfl⟩;.rw[d9]at Y;exact(P.eq j (by exact"[p35^^Y{$|FFZ9.L[0" [_,_,s-1] [] rfl this Y)).symm
 .rw[cL P h2]at Y;exact bu (by exact"[p35^^Y{$|FFZ9.L[0" [_,_,n-1] [] rfl h1 Y)
theorem cW.lm(P:Pair J Z s)(h:cW J Z l){p:Nat}(h1:p<l.length)(h2:p<J.length)(e:ai l p=ai J p):p<=a9 Z s l:=by
 haveI:=P.s1;rcases h with rfl|⟨n,U,Y,rfl⟩;.
  rw[d9];rcases Nat.lt_or_ge p s with z|z;.exact"Aaaoj8icBnfe=ef7" rfl z
  .exact absurd e.symm (P.ne p p z h2 z h1)
 .rw[cL P Y];rw[List.length_take]at h1;exact"tBU2`yFKzL4Hu.aRax4{bMb>8$Pw*I$77{$(" [_,_,_,_,min n J.length] [] rfl rfl h1
theorem cW.mono(P:Pair J Z s)(h:cW J Z l){i j:Nat}(a:i<=j)(b:j<l.length):ai l i<=ai l j:=by
 rcases h with rfl|⟨n,h1,h2,rfl⟩;.exact P.mt i j a b
 .rw[List.length_take]at b;rw[bu (by exact"O[LOV>7^CCLcvBQL{x)g=" [_,_,_,J.length,min n J.length] [] rfl a b),bu (by exact"pIsspNx^nTrwo);p$" [_,_,_,min n J.length] [] rfl b)];exact P.mm i j a (by exact"^k2YvFArT5+34(B5%" [_,_,_,min n J.length] [] rfl b)
theorem qk{a b:List Int}(l:a.length=b.length)(h:∀j,j<a.length->ai a j=ai b j):a=b:=by
 apply List.ext_getElem?;intro i;by_cases c:i<a.length;.rw[cq c,cq (l▸c),h i c]
 .rw[List.getElem?_eq_none (by exact"^Hv+i(b." c),List.getElem?_eq_none (by exact"Y9w%IriD<NS" l c)]
theorem cW.J9(P:Pair J Z s)(h:cW J Z l):Ji J l (a9 Z s l):=by
 obtain@⟨a,b⟩:=h.pos P;refine⟨⟨b,a⟩,?_,λ k U W Q e=>?_⟩;.refine qk (by rw[List.length_take,List.length_take];exact"Xc#DS0+DboA`z8wca5}JxZ1!E+_vJ%E!6.tXde#" rfl rfl a b) λ j Y=>?_;rw[List.length_take]at Y;rw[bu (by exact"`rZSZkU=lJt&T7mF#}Y%" [_,_,_,min (a9 Z s l+1) J.length] [] rfl Y),bu (by exact"`rZSZkU=lJt&T7mF#}Y%" [_,_,_,min (a9 Z s l+1) J.length] [] rfl Y)];exact(h.same P (by exact"]Nh#_i``y0%.QIOjA+" [_,_,_,min (a9 Z s l+1) J.length] [] rfl Y)).symm
 .haveI:=congrArg (ai · k) e;haveI this:ai (J.take (k+1)) k=ai (l.take (k+1)) k:=this;rw[bu (by exact"=}jV1L"),bu (by exact"=}jV1L")]at this;haveI:=h.lm P Q W this.symm;exact"{hdZq~p:" U this
theorem cW.up(P:Pair J Z s)(h:cW J Z l){n:Nat}(h1:n<=J.length)(h2:¬(l.take n=J.take n)):a9 Z s l<=a9 Z s (J.take n):=by
 rw[cL P h1];rcases Nat.lt_or_ge (a9 Z s l) n with z|z;.exact"Aaaoj8icBnfe=ef7" rfl z
 .exfalso;apply h2;obtain@⟨a,b⟩:=h.pos P;refine qk (by rw[List.length_take,List.length_take];exact"tU^HcQSVC2Y=wS_{LgOv}{!yp_TS:')F(P.oh.D[j" rfl rfl z a b) λ j Y=>?_;rw[List.length_take]at Y;rw[bu (by exact"pIsspNx^nTrwo);p$" [_,_,_,min n l.length] [] rfl Y),bu (by exact"pIsspNx^nTrwo);p$" [_,_,_,min n l.length] [] rfl Y)];exact h.same P (by exact"n0F`LGKzW;|!htbF*!]A)" [_,_,_,_,min n l.length] [] rfl z Y)
end
def zP(w:Wd):lW->Prop|.aN p k=>p+k<w.L.th.length|.fT l=>l<=w.aA
def ur(w:Wd)(m:Nat):mD->Prop|.ok a=>a<=m|.no _ r _=>r<w.L.th.length
structure Inv(J:List Int)(s c:Nat)(w:Wd):Prop where
 P:Pair w.L.th J s
 wi:WI w
 th:cW w.L.th J w.O.th
 ke:cW w.L.th J w.O.kept
 kt:a9 J s w.O.kept<=a9 J s w.O.th
 bs:w.O.base<=w.sure
 sa:w.sure<=a9 J s w.O.th
 kb:w.O.kb<=w.O.base
 ka:w.O.kb<=a9 J s w.O.kept
 lc:w.L.base<=w.aA
 co:w.aA<w.L.o
 ma:w.mt<=a9 J s w.O.kept+1
 ml:∀m,m∈w.ae->zP w m
 he:∀m,m∈w.held->ur w (a9 J s w.O.th) m
 ba:∀m,m∈w.back->ur w (a9 J s w.O.kept) m
 so:w.st=1->1<=w.mt/\(∀p,p∈w.fl->w.mt<p.1/\p.1<w.up)/\w.fl.Pairwise λ p q=>p.1<q.1
 pb:w.pt<=w.aA+1
 c1:w.ae.length<=c
 c2:w.held.length+w.back.length<=c
 c3:w.rows.length<=c
section
variable{J:List Int}{s c:Nat}{w:Wd}
theorem Inv.mono{Z:Nat}(V:Inv J s c w)(h:c<=Z):Inv J s Z w:={V with c1:=Nat.le_trans V.c1 h,c2:=Nat.le_trans V.c2 h,c3:=Nat.le_trans V.c3 h}
theorem cg{Z:Type}{P:Z->Prop}{l:List Z}{x:Z}(h:∀m,m∈l->P m)(U:P x):∀m,m∈l++[x]->P m:=λ m W=>by
 rcases List.mem_append.mp W with Y|Y;.exact h m Y
 .rw[List.mem_singleton.mp Y];exact U
theorem gy{Z:Type}{l:List Z}{x:Z}{c:Nat}(h:l.length<=c):(l++[x]).length<=c+1:=by rw[List.length_append];exact Nat.succ_le_succ h
theorem uu(h:¬w.up<w.L.base+2):w.k<=w.L.th.length-(w.up-1):=by
 unfold Wd.k;split;.exact"`j({We%" [w.L.th.length,w.up,w.up-1,_] []
 .haveI:=oy (n:=w.lim) (l:=w.L.th.drop (w.up-1));rw[List.length_drop]at this;exact this
theorem Inv.send(V:Inv J s c w)(e:Bool):Inv J s (c+1) (w.send e):=by
 have I:=V.wi;unfold Wd.send;by_cases h1:w.st=2\/w.fp=true;.rw[if_pos h1];exact V.mono (Nat.le_succ _)
 rw[if_neg h1];by_cases h2:w.up<w.L.base+2;.
  rw[if_pos h2];exact{V with
   wi:=⟨I.l,I.ls,I.o,Nat.le_refl _,I.u1,I.u2,I.mu,I.li,I.z⟩,ml:=cg V.ml V.lc,pb:=Nat.succ_le_succ V.lc,so:=λ h=>by have h:(2:Nat)=1:=h;exact("U/`A3:2" h).elim
   c1:=gy V.c1,c2:=Nat.le_succ_of_le V.c2,c3:=Nat.le_succ_of_le V.c3}
 rw[if_neg h2];by_cases X:w.k=0/\e=false;.rw[if_pos X];exact V.mono (Nat.le_succ _)
 rw[if_neg X];haveI N:=uu h2;haveI L:=I.u2;haveI T:=I.l.b1;haveI U:zP w (.aN (w.up-2) w.k):=by show w.up-2+w.k<w.L.th.length;exact"/M`IECoZ(<L)H5>s3:Ck8)ooiQ+fL^Ae%{!DwY+Xu#Xb|NVEf_Z" [_,_,_,_,_,w.up-1,w.L.th.length-(w.up-1)] [] rfl rfl rfl h2 N L
 by_cases Y:w.st=0;.
  rw[if_pos Y];exact{V with
   wi:=⟨I.l,I.ls,I.o,I.st,I.u1,I.u2,I.mu,I.li,I.z⟩,ml:=cg V.ml U,so:=λ h=>by have h:w.st=1:=h;exact("7ez[vAX<89!" Y h).elim
   c1:=gy V.c1,c2:=Nat.le_succ_of_le V.c2,c3:=Nat.le_succ_of_le V.c3}
 rw[if_neg Y];by_cases Z:w.k=0;.rw[if_pos Z];rw[Z]at U;exact{V with wi:=⟨I.l,I.ls,I.o,I.st,I.u1,I.u2,I.mu,I.li,I.z⟩,ml:=cg V.ml U,so:=V.so,c1:=gy V.c1,c2:=Nat.le_succ_of_le V.c2,c3:=Nat.le_succ_of_le V.c3}
 .rw[if_neg Z];haveI K:w.st=1:=JH I.st Y λ z=>h1 (.inl z);obtain@⟨G,O,D⟩:=V.so K;haveI Q:=I.mu;exact{V with wi:=⟨I.l,I.ls,I.o,I.st,by show 1<=w.up+w.k;exact"BF[1RBp,$[*" Q,by show w.up+w.k<=w.L.th.length+1;exact"Rm>+'XE5+%gR}7f!|d&I)LsuBo2J1&(:5*g:u4$?v&" [_,_,_,w.up-1,w.L.th.length-(w.up-1)] [] rfl rfl N Z,by show w.mt<w.up+w.k;exact"!A4kc+HQb#" Q,I.li,I.z⟩,ml:=cg V.ml U,so:=λ _=>⟨G,cg (λ p W=>by have:=O p W;show w.mt<p.1/\p.1<w.up+w.k;exact"wEf6W)75RFPj>yDT2!" this) (by show w.mt<w.up-1+w.k/\w.up-1+w.k<w.up+w.k;exact"4]cZG9UY$l?%n?LLr2<|'Fnq/*<9#r]i!$" rfl Z Q),List.pairwise_append.mpr ⟨D,List.pairwise_singleton ..,λ p W q R=>by rw[List.mem_singleton.mp R];have:=O p W;show p.1<w.up-1+w.k;exact"rm8~/X5!7t(GD)(/~;lAAw}:U|?9`$" rfl Z this⟩⟩,c1:=gy V.c1,c2:=Nat.le_succ_of_le V.c2,c3:=Nat.le_succ_of_le V.c3}
end
section
variable{J:List Int}{s c:Nat}{w:Wd}
theorem ur.mono{m Z:Nat}(h:m<=Z){a:mD}(k:ur w m a):ur w Z a:=match a,k with|.ok _,k=>Nat.le_trans k h|.no _ _ _,k=>k
theorem Inv.store(V:Inv J s c w):Inv J s c w.store:=by
 haveI I:=V.wi;exact{
  P:=V.P,wi:=⟨I.l,I.ls,I.o.store,I.st,I.u1,I.u2,I.mu,I.li,I.z⟩,th:=V.th,ke:=V.th,kt:=Nat.le_refl _,bs:=V.bs,sa:=V.sa,kb:=Nat.le_refl _,ka:=Nat.le_trans V.bs V.sa,lc:=V.lc,co:=V.co,ma:=Nat.le_trans V.ma (Nat.succ_le_succ V.kt),ml:=V.ml,he:=λ _ h=>by cases h
  ba:=λ m Z=>by
   rcases List.mem_append.mp Z with h|h;.exact(V.ba m h).mono V.kt
   .exact V.he m h
  so:=V.so,pb:=V.pb,c1:=V.c1,c2:=by show 0+(w.back++w.held).length<=c;rw[List.length_append];have:=V.c2;exact"`1S`&z_kReC" this
  c3:=V.c3}
theorem Inv.holds(V:Inv J s c w){p:Nat}(Y:p<w.L.th.length)(h:w.holds p=true):p<=a9 J s w.O.th/\p<w.O.th.length:=by unfold Wd.holds at h;obtain@⟨h1,h2⟩:=Bool.and_eq_true_iff.mp h;obtain@⟨h2,Z⟩:=Bool.and_eq_true_iff.mp h2;haveI h2:=of_decide_eq_true h2;haveI Z:=of_decide_eq_true Z;exact⟨V.th.lm V.P h2 Y Z,h2⟩
theorem Inv.Hi(V:Inv J s c w){p k:Nat}(h:p+k<w.L.th.length):rE w p k:=by refine bf λ Q Z=>?_;obtain@⟨a,b⟩:=V.th.pos V.P;haveI W:=V.bs;haveI Y:=V.sa;refine Z ?_;exact⟨h,V.bs,by exact"wlneFLMOiL!" a Y,λ j U=>V.th.same V.P (by exact"/]wv[49Xr%" Y U),λ O j U=>V.th.same V.P (by have:=V.holds (by exact"H/[WB*G<u#" h) O;exact"zj`/(Khj8wNd," U this),λ X=>by rw[V.th.same V.P (by exact"9^+`E:utt&" W Y)];exact V.P.mm _ _ (by exact"ZyG<hX%_vi+" W X) (by exact"H/[WB*G<u#" h)⟩
theorem Inv.Hj(V:Inv J s c w){m:lW}(h:zP w m):A5 w m:=match m,h with|.aN p k,h=>V.Hi h|.fT l,h=>by haveI:=V.co;haveI:=V.wi.l.ol;haveI h:l<=w.aA:=h;exact⟨Nat.lt_of_le_of_lt h (Nat.lt_of_lt_of_le V.co V.wi.l.ol),V.bs,Nat.le_trans V.kb V.bs⟩
theorem Inv.recv(V:Inv J s c w){m:lW}(Z:zP w m):Inv J s (c+1) (w.recv m):=by
 have I:=V.wi;haveI P:=V.P;obtain@⟨M,q⟩:=V.th.pos P;have Q:∀a:mD,(w.held++[a]).length+w.back.length<=c+1:=λ a=>by rw[List.length_append];have:=V.c2;show w.held.length+1+_<=_;exact"u.Id1r`(*:)1#" this
 haveI W:Inv J s (c+1) {w with held:=w.held++[.ok w.sure]}:={V with wi:=⟨I.l,I.ls,I.o,I.st,I.u1,I.u2,I.mu,I.li,I.z⟩,he:=cg V.he V.sa,c1:=Nat.le_succ_of_le V.c1,c2:=Q _,c3:=Nat.le_succ_of_le V.c3};cases m with
  |fT l=>
   have Z:l<=w.aA:=Z;have X:=V.co;have O:=I.l.ol;show Inv J s (c+1) (if w.sure<l then(if w.holds l then _ else _)else _);by_cases h1:w.sure<l;.
    rw[if_pos h1];by_cases h2:w.holds l=true;.
     rw[if_pos h2];haveI R:=V.holds (by exact"KOyWTTl/3S~6S#" Z X O) h2;have U:=V.bs;exact{V with
      wi:=⟨I.l,I.ls,I.o,I.st,I.u1,I.u2,I.mu,I.li,I.z⟩,bs:=by show w.O.base<=l;exact"X7e'v4!5U/" h1 U
      sa:=R.1,he:=cg V.he R.1,c1:=Nat.le_succ_of_le V.c1,c2:=Q _,c3:=Nat.le_succ_of_le V.c3}
    .
     rw[if_neg h2];have U:=V.bs;have H:=V.kb;have T:a9 J s w.O.th<=l:=by
      rcases Nat.lt_or_ge l (a9 J s w.O.th)with z|z;.exfalso;apply h2;unfold Wd.holds;rw[decide_eq_true (show w.O.base<=l by exact"X7e'v4!5U/" h1 U),decide_eq_true (show l<w.O.th.length by exact"(aM>T0N{IN#!" M z),decide_eq_true (V.th.same P (by exact"ue1~#~5" z))];rfl
      .exact z
     haveI E:(w.L.th.take (l+1)).length=l+1:=by rw[List.length_take];exact"AD,/#:clwU&#iuYHl5SGs+?]CbkP(" rfl Z X O
     haveI N:a9 J s (w.L.th.take (l+1))=l:=cL P (by exact"/|=ezS9fx!p_J#'" Z X O);exact{V with
      wi:=⟨I.l,I.ls,I.o.res E (by exact"nh4wJ?l/j`Q#3#" h1 U H) P.tm.take,I.st,I.u1,I.u2,I.mu,I.li,I.z⟩,th:= .inr ⟨l+1,by exact"$7jDpn?",(show l+1<=w.L.th.length by exact"/|=ezS9fx!p_J#'" Z X O),rfl⟩,kt:=by show a9 J s w.O.kept<=a9 J s (w.L.th.take (l+1));rw[N];exact Nat.le_trans V.kt T
      bs:=Nat.le_refl _,sa:=by show l<=a9 J s (w.L.th.take (l+1));rw[N];exact Nat.le_refl _
      kb:=by show w.O.kb<=l;exact"W4p5e5&PyS}]D" h1 U H
      he:=by show∀m,m∈w.held++[.ok l]->ur w (a9 J s (w.L.th.take (l+1))) m;rw[N];exact cg (λ m Z=>(V.he m Z).mono T) (Nat.le_refl _)
      c1:=Nat.le_succ_of_le V.c1,c2:=Q _,c3:=Nat.le_succ_of_le V.c3}
   .rw[if_neg h1];exact W
  |aN p k=>
   have Z:p+k<w.L.th.length:=Z;have u:=V.Hi Z;show Inv J s (c+1) (if p<w.sure then _ else(if w.holds p then _ else _));by_cases h1:p<w.sure;.rw[if_pos h1];exact W
   rw[if_neg h1];by_cases h2:w.holds p=true;.
    rw[if_pos h2];obtain@⟨R,L⟩:=V.holds (by exact"H/[WB*G<u#" Z) h2;haveI S:=xe u I h2 L;haveI U:=V.bs;haveI A:=jC Z;have K:=I.l.t1.1;obtain@⟨y,_⟩:=I.o.put (p:=p) (l:=w.pg p k) (by exact"$h]m.3:hNe)" h1 U) L I.l.t1.drop.take (by rw[A];exact"^ZC2L3j#N>^n`q;/" Z K);have G:cW w.L.th J (w.O.put p (w.pg p k)).th/\a9 J s w.O.th<=a9 J s (w.O.put p (w.pg p k)).th/\p+k<=a9 J s (w.O.put p (w.pg p k)).th:=by
     rw[S];by_cases z:w.O.th.take (p+k+1)=w.L.th.take (p+k+1);.rw[if_pos z];haveI Y:=congrArg List.length z;rw[List.length_take,List.length_take]at Y;refine⟨V.th,Nat.le_refl _,V.th.lm P (by exact"N}Y3'v',fR*^&pg<og]S=Y7EA,Q}Bge*QEK2ewpw)" [_,_,_,_,min (p+k+1) w.O.th.length,min (p+k+1) w.L.th.length] [] rfl rfl Z Y) Z ?_⟩;haveI:=congrArg (ai · (p+k)) z;haveI this:ai (w.O.th.take (p+k+1)) (p+k)=ai (w.L.th.take (p+k+1)) (p+k):=this;rw[bu (by exact"(>KFxsp<#!"),bu (by exact"(>KFxsp<#!")]at this;exact this
     .rw[if_neg z];refine⟨.inr ⟨p+k+1,by exact"uxh4kQ80T!",by exact"?&bjq(37;^C" Z,rfl⟩,V.th.up P (by exact"?&bjq(37;^C" Z) z,?_⟩;rw[cL P (by exact"?&bjq(37;^C" Z)];exact"L<(]pWo2wJQ{$?se" rfl
    obtain@⟨B,D,F⟩:=G;have j:=V.sa;exact{V with
     wi:=⟨I.l,I.ls,y,I.st,I.u1,I.u2,I.mu,I.li,I.z⟩,th:=B,kt:=Nat.le_trans V.kt D,bs:=by show w.O.base<=max w.sure _;exact"}?P2E#%#.%.hTzH3=" [_,_,w.aA,p,k,_,_] [] rfl U
     sa:=by show max w.sure (min w.aA (p+k))<=a9 J s (w.O.put p (w.pg p k)).th;exact"9t0<rw5#K|L&4.`|6ou:'(OMpBf~9nW$dd{NAv%~Rz%" [_,_,_,_,min w.aA (p+k),_,_,_] [] rfl rfl D F j
     he:=cg (λ m Z=>(V.he m Z).mono D) F,c1:=Nat.le_succ_of_le V.c1,c2:=Q _,c3:=Nat.le_succ_of_le V.c3}
   .
    rw[if_neg h2];have C:w.right p<w.L.th.length:=by unfold Wd.right;cases e:scan w.O.th (ai w.L.th p) w.O.base (min p (w.O.th.length-1)+1)with|none=>show 0<_;exact"kPJ(GI9|u!##" Z|some r=>have:=(dE e).1.2;show r<_;exact"5,1nOPiFB(wmt_]&&Xm(L~PiFA0%" [_,_,_,_,w.O.th.length,_,min p (w.O.th.length-1)] [] rfl Z this
    exact{V with wi:=⟨I.l,I.ls,I.o,I.st,I.u1,I.u2,I.mu,I.li,I.z⟩,he:=cg V.he C,c1:=Nat.le_succ_of_le V.c1,c2:=Q _,c3:=Nat.le_succ_of_le V.c3}
end
def LG.fM(G:LG):LG:={th:=G.kept,kept:=G.kept,base:=G.kb,kb:=G.kb,o:=G.kept.length,sn:=false}
def Wd.fM(w:Wd):Wd:={w with O:=w.O.fM,sure:=w.O.kb,held:=[]}
def Wd.turn(w:Wd):Wd:={w with ae:=w.ae.reverse,back:=w.back.reverse}
theorem LW.fM{G:LG}(W:LW G):LW G.fM:=⟨W.t2,W.t2,W.b2,W.b2,λ h=>(by cases h),λ _=>⟨rfl,W.b2,Nat.le_refl _,Nat.le_refl _,rfl,λ _=>rfl⟩⟩
section
variable{J:List Int}{s c:Nat}{w:Wd}
theorem Inv.pop(V:Inv J s c w)(i:Nat)(ag:Bool):Inv J s c (w.pop i ag):=by
 haveI I:=V.wi;exact{V with
  wi:=I.pop,ml:=λ m Z=>by
   haveI Z:m∈(if ag then w.ae else w.ae.eraseIdx i):=Z;split at Z;.exact V.ml m Z
   .exact V.ml m (List.mem_of_mem_eraseIdx Z)
  c1:=by
   show(if ag then w.ae else w.ae.eraseIdx i).length<=c;split;.exact V.c1
   .exact Nat.le_trans (List.length_eraseIdx_le ..) V.c1}
theorem Inv.dW(V:Inv J s c w)(i:Nat)(ag:Bool):Inv J s c (w.dW i ag):=by
 haveI I:=V.wi;exact{V with
  wi:=I.dW,ba:=λ m Z=>by
   haveI Z:m∈(if ag then w.back else w.back.eraseIdx i):=Z;split at Z;.exact V.ba m Z
   .exact V.ba m (List.mem_of_mem_eraseIdx Z)
  c2:=by
   show w.held.length+(if ag then w.back else w.back.eraseIdx i).length<=c;haveI:=V.c2;split;.exact this
   .exact Nat.le_trans (Nat.add_le_add_left (List.length_eraseIdx_le ..) _) V.c2}
theorem Inv.take(V:Inv J s c w){i:Nat}{m:lW}(h:w.ae[i]?=some m)(Z:Bool):Inv J s (c+1) (w.take i Z):=by
 haveI e:w.take i Z=(w.pop i Z).recv m:=by unfold Wd.take;rw[h]
 rw[e];exact(V.pop i Z).recv (V.ml m (List.mem_of_getElem? h))
theorem Inv.pr(V:Inv J s c w){Z Y W Q R:Nat}{G:Bool}{U:List (Nat×Nat)}(h1:W<=2)(h2:1<=Y)(O:Y<=w.L.th.length+1)(X:Z<Y)(I:Z<=a9 J s w.O.kept+1)(D:Q<=w.aA+1)(N:W=1->1<=Z/\(∀p,p∈U->Z<p.1/\p.1<Y)/\U.Pairwise λ p q=>p.1<q.1):Inv J s c {w with mt:=Z,up:=Y,st:=W,pt:=Q,no:=R,fp:=G,fl:=U}:={V with wi:=⟨V.wi.l,V.wi.ls,V.wi.o,h1,h2,O,X,V.wi.li,V.wi.z⟩,ma:=I,so:=N,pb:=D}
theorem jV{a:Nat}:∀{Z:List (Nat×Nat)},Z.Pairwise (λ p q=>p.1<q.1)->(∀p,p∈Z.dropWhile (λ p=>decide (p.1<=a+1))->a+1<p.1/\p∈Z)/\(Z.dropWhile (λ p=>decide (p.1<=a+1))).Pairwise λ p q=>p.1<q.1
 |[],_=>⟨λ _ h=>(by cases h),.nil⟩
 |x::Z,h=>by
  obtain@⟨h1,h2⟩:=List.pairwise_cons.mp h;by_cases c:x.1<=a+1;.rw[List.dropWhile_cons_of_pos (by rw[decide_eq_true c])];obtain@⟨W,Q⟩:=jV h2;exact⟨λ p Y=>⟨(W p Y).1,List.mem_cons_of_mem _ (W p Y).2⟩,Q⟩
  .
   rw[List.dropWhile_cons_of_neg (by rw[decide_eq_false c];exact Bool.false_ne_true)];refine⟨λ p Y=>⟨?_,Y⟩,h⟩;rcases List.mem_cons.mp Y with U|U;.rw[U];exact"qWmv?KK(4o1" c
   .haveI:=h1 p U;exact"}J8FlfmC:qgw:L" c this
theorem Inv.news(V:Inv J s c w){a:Nat}(O:a<=a9 J s w.O.kept):Inv J s (c+1) ((w.upd a).news (decide (w.mt<a+1)) a):=by
 haveI I:=V.wi;haveI G:=I.st;haveI C:=I.u1;haveI L:=I.u2;haveI B:=I.mu;haveI P:=(V.ke.pos V.P).2;unfold Wd.news;by_cases h1:decide (w.mt<a+1)=false/\¬((w.upd a).st=0/\(w.upd a).mt=a+1);.rw[if_pos h1];haveI:w.upd a=w:=if_neg (of_decide_eq_false h1.1);rw[this];exact V.mono (Nat.le_succ _)
 rw[if_neg h1];haveI U:∃Z Y,w.upd a={w with mt:=a+1,up:=Z,fp:=Y}/\a+1<Z/\Z<=w.L.th.length+1/\w.up<=Z:=by
  unfold Wd.upd;by_cases h:w.mt<a+1;.rw[if_pos h];exact⟨max w.up (a+2),false,rfl,by exact"Ped<yfN_!cOu|bs," rfl,by exact"EnAsf2h<4#M:2m}S|L]sY]?#(<%" rfl O L P,by exact"wRrDo3SQX(^94<" rfl⟩
  .
   rw[if_neg h];haveI e:w.upd a=w:=if_neg h;rw[e]at h1;haveI:w.mt=a+1:=by haveI h2:¬¬(w.st=0/\w.mt=a+1):=λ z=>h1 ⟨decide_eq_false h,z⟩;exact(Classical.not_not.mp h2).2
   exact⟨w.up,w.fp,by rw[<-this],by exact"27W38IB^{c6|3&" B this,L,Nat.le_refl _⟩
 obtain⟨Z,Y,e,W,N,H⟩:=U;rw[e];haveI Q:Inv J s c (Wd.cy {w with mt:=a+1,up:=Z,fp:=Y}):=V.pr (Z:=a+1) (Y:=a+1+1) (W:=1) (Q:=0) (G:=false) (U:=[]) (R:=w.no) (by exact"I<_oQ)!") (by exact"r+a2`|#J%") (by exact"/itQDF+)T)O/~<PD%%" W N) (Nat.lt_succ_self _) (by exact"qUh8SaN%J)" O) (Nat.zero_le _) λ _=>⟨by exact"$7jDpn?",λ _ h=>(nomatch h),.nil⟩;unfold Wd.go;by_cases h2:w.st=0;.rw[if_pos h2];exact Q.send false
 rw[if_neg h2];by_cases X:w.st=1;.rw[if_pos X];obtain@⟨E,F,M⟩:=V.so X;obtain@⟨K,S⟩:=jV (a:=a) M;haveI T:Inv J s c (Wd.free {w with mt:=a+1,up:=Z,fp:=Y} a):=V.pr (Z:=a+1) (Y:=Z) (G:=Y) (U:=w.fl.dropWhile λ p=>decide (p.1<=a+1)) (R:=w.no) (Q:=w.pt) (W:=w.st) G (by exact"&(gkCD,w{9" W) N W (by exact"qUh8SaN%J)" O) V.pb λ _=>⟨by exact"$7jDpn?",λ p R=>⟨(K p R).1,by have:=(F p (K p R).2).2;exact"c)1csKMOiL!" H this⟩,S⟩;exact T.send false
 rw[if_neg X];by_cases D:w.pt<=a+1;.rw[if_pos D];exact Q.send false
 .rw[if_neg D];haveI A:Inv J s c {w with mt:=a+1,up:=Z,fp:=Y}:=V.pr (Z:=a+1) (Y:=Z) (G:=Y) (R:=w.no) (Q:=w.pt) (W:=w.st) (U:=w.fl) G (by exact"&(gkCD,w{9" W) N W (by exact"qUh8SaN%J)" O) V.pb λ h=>absurd h X;exact A.send false
theorem Inv.told(V:Inv J s c w)(p r:Nat)(x:Int):Inv J s c (w.told p r x):=by
 haveI I:=V.wi;haveI U:=I.u1;haveI Y:=I.u2;haveI W:=I.mu;haveI Z:=V.ma;haveI Q:=(V.ke.pos V.P).2;unfold Wd.told;split;.
  split;.exact V.pr (Z:=w.mt) (Y:=w.mt+1) (W:=0) (Q:=0) (G:=false) (U:=[]) (R:=w.no+1) (by exact"1aF;M;") (by exact"$7jDpn?") (by exact":H&_'K_$Tl;eFG$" Z Q) (Nat.lt_succ_self _) Z (Nat.zero_le _) λ h=>by exact("E>,,.85" h).elim
  .exact V.pr (R:=w.no+1) I.st U Y W Z V.pb V.so
 .
  rename_i h1;split;.rename_i h2;exact V.pr (Z:=w.mt) (Y:=max (min (p+1) (w.gs r x+1)) (w.mt+1)) (G:=false) (R:=w.no+1) (W:=w.st) (Q:=w.pt) (U:=w.fl) I.st (by exact"u8L78uJkMfN(ID:{5'" [p,w.gs r x,min (p+1) (w.gs r x+1),_,_] [] rfl) (by exact"qNJ{K9zYzH5I9hT}>cX$_v|?G7jJgOvzauNm[s(2WA*b>2*Pp~UBt#ef'" [p,w.gs r x,min (p+1) (w.gs r x+1),_,_,_,_,_] [] rfl rfl Y Z Q h2) (by exact"k5Dw?]'BUE#x254" [w.mt,p,w.gs r x,_,_] [] rfl) Z V.pb λ h=>absurd h h1
  .exact V.pr (R:=w.no+1) I.st U Y W Z V.pb V.so
theorem Inv.refused(V:Inv J s c w)(p r:Nat)(x:Int):Inv J s (c+1) (w.refused p r x):=by
 unfold Wd.refused;split;.exact(V.told p r x).send true
 .exact(V.told p r x).mono (Nat.le_succ _)
theorem Inv.read(V:Inv J s c w){i:Nat}{m:mD}(h:w.back[i]?=some m)(Z:Bool):Inv J s (c+1) (w.read i Z):=by
 have e:w.read i Z=(w.dW i Z).qi m:=by unfold Wd.read;rw[h]
 rw[e];have Y:=V.ba m (List.mem_of_getElem? h);cases m with|ok a=>exact(V.dW i Z).news Y|no p r x=>exact(V.dW i Z).refused p r x
theorem Inv.dX(V:Inv J s c w):Inv J s c w.dX:=by
 haveI I:=V.wi;haveI U:=V.bs;haveI Y:=V.sa;haveI Z:=V.ma;haveI W:=V.kt;exact{V with
  wi:=I.dX,bs:=by show w.O.base<=(if w.mt=0 then w.sure else max w.sure (min (w.mt-1) w.aA));exact"]:odRrMz7wqaV(IDQyLO*!dhm/a)3~vmhno!0}pqC~oa09iGru{j)" [_,_,_,w.mt-1,w.aA,_,max w.sure (min (w.mt-1) w.aA),_] [] rfl dj U
  sa:=by show(if w.mt=0 then w.sure else max w.sure (min (w.mt-1) w.aA))<=a9 J s w.O.th;exact"4[Hd[TebI8cNNG|CFZ7(G38lX:ErB+?s8t)SYW|2A!Q,:J$+zy$BI[,[?tw|np5tFBsQiMzc^'A{WGV4#PxHLgtxJ[};AP/" [_,_,w.mt-1,_,min (w.mt-1) w.aA,max w.sure (min (w.mt-1) w.aA),_,_,_] [] rfl rfl rfl dj Y Z W}
theorem Inv.bJ(V:Inv J s c w):Inv J s (c+1) w.bJ:=by
 unfold Wd.bJ;split;.exact V.dX.send true
 .exact V.dX.mono (Nat.le_succ _)
theorem Inv.bM(V:Inv J s c w)(y:Nat):Inv J s c (w.bM y):=by
 haveI I:=V.wi;haveI Q:=V.ma;haveI U:=I.mu;haveI R:=I.u2;unfold Wd.bM;split;.haveI O:=V.pb;haveI Z:=V.co;haveI W:=I.l.ol;unfold Wd.sY;exact V.pr (Z:=w.mt) (Y:=max (w.mt+1) ((if y%4=0 then 0 else w.pt)+1)) (W:=0) (Q:=0) (G:=true) (U:=[]) (R:=w.no) (Nat.zero_le _) (by exact"'EgzF;cHx'2$`A])GS>" [_,y,y/4,y%4,w.pt,if y%4=0 then 0 else w.pt,_] [] rfl) (by exact"10>XnY6%m9U7{yyE^NI_mX=b*D?19d%OPa^PDB8zR+(Ktm<V/7k|~W~~C.e?dt_;Bx&?dd5+Er~(k&" [_,y,y/4,y%4,w.pt,if y%4=0 then 0 else w.pt,_,_,_,_,_] [] dj rfl U R O Z W) (by exact"TmWJ(X6]Q;|*C#MZ:" [_,y,y/4,y%4,w.pt,if y%4=0 then 0 else w.pt,_] [] rfl) Q (Nat.zero_le _) λ h=>by exact("E>,,.85" h).elim
 .
  split;.
   rename_i h1 h;haveI Z:=V.co;haveI N:y/2%(w.aA-w.L.base)<w.aA-w.L.base:=Nat.mod_lt _ (by exact"k*+cg!m2)7CRHk'" rfl h);haveI X:w.L.base<w.low y:=by unfold Wd.low;exact"V<}ibq>Q!"
   haveI Y:w.low y<=w.aA:=by unfold Wd.low;exact"<ZXtLOngI;RJ|Z~IpA" [_,_,_,w.aA-w.L.base] [] rfl N
   exact{V with wi:=⟨I.l.fold I.ls X (by exact"wlneFLMOiL!" Z Y),I.ls,I.o,I.st,I.u1,I.u2,I.mu,I.li,I.z⟩,lc:=Y}
  .exact V
theorem Inv.fM(V:Inv J s c w):Inv J s c w.fM:=by haveI I:=V.wi;haveI Z:=V.c2;exact{V with wi:=⟨I.l,I.ls,I.o.fM,I.st,I.u1,I.u2,I.mu,I.li,I.z⟩,th:=V.ke,kt:=Nat.le_refl _,bs:=Nat.le_refl _,sa:=V.ka,kb:=Nat.le_refl _,he:=λ _ h=>(by cases h),c2:=by show 0+w.back.length<=c;exact"r,X(VLxD^8(" Z}
theorem Inv.turn(V:Inv J s c w):Inv J s c w.turn:=by
 haveI I:=V.wi;exact{V with
  wi:=⟨I.l,I.ls,I.o,I.st,I.u1,I.u2,I.mu,I.li,I.z⟩,ml:=λ m Z=>V.ml m (List.mem_reverse.mp Z),ba:=λ m Z=>V.ba m (List.mem_reverse.mp Z),c1:=by show w.ae.reverse.length<=c;rw[List.length_reverse];exact V.c1
  c2:=by show w.held.length+w.back.reverse.length<=c;rw[List.length_reverse];exact V.c2}
theorem Inv.aE(V:Inv J s c w):Inv J s (c+1) w.aE:=by haveI I:=V.wi;exact{V with wi:=⟨I.l,I.ls,I.o,I.st,I.u1,I.u2,I.mu,I.li,I.z⟩,c1:=Nat.le_succ_of_le V.c1,c2:=Nat.le_succ_of_le V.c2,c3:=gy V.c3}
end
def Wd.xp(w:Wd)(y:Nat):Wd:=if w.ae=[]then w else w.pop (y/4%w.ae.length) false
def Wd.d_(w:Wd)(y:Nat):Wd:=let J:=if w.back=[]then w.store else w;if J.back=[]then J else J.read (y/3%J.back.length) (decide (y%3=1))
def Wd.takes(w:Wd)(y:Nat):Wd:=let J:=if w.ae=[]then w.send true else w;if J.ae=[]then J else(let Z:=J.take (y/15%J.ae.length) (decide (y%3=1));if y/3%5%3=1 then Z else Z.store)
def Wd.act(w:Wd)(x:Nat):Wd:=if x%10=0\/x%10=9 then w.send (decide (x/10%2=0))else if x%10=5 then w.bJ else if x%10=7 then w.bM (x/10)else if x%10=1 then(if x/10%4%3=0 then w.fM else if x/10%4=1 then w.turn else w.xp (x/10))else if x%10=3\/x%10=6 then w.d_ (x/10)else w.takes (x/10)
section
variable{Z:Nat}{d t:Int}{X:Fx}{w:Wd}{H:Hd}{M:MH}{J:List Int}{s c:Nat}
theorem fC{Y:Type}{l:List Y}(h:l≠[]):0<l.length:=List.length_pos_iff.mpr h
theorem Inv.d_(W:Inv J s c w)(y:Nat):Inv J s (c+1) (w.d_ y):=by
 haveI U:Inv J s c (if w.back=[]then w.store else w):=by split;exact W.store;exact W
 unfold Wd.d_;generalize(if w.back=[]then w.store else w)=Y at U;show Inv J s (c+1) (if Y.back=[]then Y else Y.read (y/3%Y.back.length) (decide (y%3=1)));by_cases h:Y.back=[];.rw[if_pos h];exact U.mono (Nat.le_succ _)
 .rw[if_neg h];haveI Q:=Nat.mod_lt (y/3) (fC h);exact U.read (List.getElem?_eq_getElem Q) _
theorem Inv.takes(Q:Inv J s c w)(y:Nat):Inv J s (c+2) (w.takes y):=by
 have U:Inv J s (c+1) (if w.ae=[]then w.send true else w):=by split;exact Q.send _;exact Q.mono (Nat.le_succ _)
 unfold Wd.takes;generalize(if w.ae=[]then w.send true else w)=Y at U;show Inv J s (c+2) (if Y.ae=[]then Y else(if y/3%5%3=1 then Y.take (y/15%Y.ae.length) (decide (y%3=1))else(Y.take (y/15%Y.ae.length) (decide (y%3=1))).store));by_cases h:Y.ae=[];.rw[if_pos h];exact U.mono (Nat.le_succ _)
 .
  rw[if_neg h];haveI V:=Nat.mod_lt (y/15) (fC h);haveI W:=U.take (List.getElem?_eq_getElem V) (decide (y%3=1));split;.exact W
  .exact W.store
theorem Inv.act(Y:Inv J s c w)(x:Nat):Inv J s (c+2) (w.act x):=by
 unfold Wd.act;by_cases h1:x%10=0\/x%10=9;.rw[if_pos h1];exact(Y.send _).mono (Nat.le_succ _)
 rw[if_neg h1];by_cases h2:x%10=5;.rw[if_pos h2];exact Y.bJ.mono (Nat.le_succ _)
 rw[if_neg h2];by_cases U:x%10=7;.rw[if_pos U];exact(Y.bM _).mono (Nat.le_add_right ..)
 rw[if_neg U];by_cases W:x%10=1;.
  rw[if_pos W];split;.exact Y.fM.mono (Nat.le_add_right ..)
  .
   split;.exact Y.turn.mono (Nat.le_add_right ..)
   .
    unfold Wd.xp;split;.exact Y.mono (Nat.le_add_right ..)
    .exact(Y.pop _ _).mono (Nat.le_add_right ..)
 rw[if_neg W];by_cases Q:x%10=3\/x%10=6;.rw[if_pos Q];exact(Y.d_ _).mono (Nat.le_succ _)
 .rw[if_neg Q];exact Y.takes _
end
def gz(l:List Int)(a:Nat):Nat->Nat|0=>0|p+1=>gz l a p+(if p=a\/(a<p/\ai l (p+1)≠ai l p)then 1 else 0)
section
variable{l:List Int}{a:Nat}
theorem xq{p:Nat}:gz l a p<=gz l a (p+1):=Nat.le_add_right ..
theorem ql{p:Nat}:∀k,gz l a p<=gz l a (p+k)|0=>Nat.le_refl _|k+1=>Nat.le_trans (ql k) xq
theorem oF{p q:Nat}(h:p<=q):gz l a p<=gz l a q:=by haveI:=ql (l:=l) (a:=a) (p:=p) (q-p);rw[show p+(q-p)=q by exact"pjO2G]/O|xo3DGfuk" rfl h]at this;exact this
theorem i8:∀{p:Nat},p<=a->gz l a p=0|0,_=>rfl|p+1,h=>by show gz l a p+(if p=a\/(a<p/\ai l (p+1)≠ai l p)then 1 else 0)=0;rw[i8 (by exact"<lZ[=>Nc" h),if_neg (by exact"*EsBNgVdYfdmo#'^BGj)" h)]
theorem xr:∀{p:Nat},gz l a p<=p-a|0=>Nat.zero_le _|p+1=>by show gz l a p+(if p=a\/(a<p/\ai l (p+1)≠ai l p)then 1 else 0)<=_;haveI:=xr (p:=p);exact":imVVCy^'6h(v4>?+d8nm(Vv2GRvi'v7<Jdv&LTw(~5a3&#Ytb&RCXnr:1ru|CwyU~y^<<p1W{wk'Ih=IoKWA6l0M3}uoDn%:e2l^Y5RDD]QVcSxkylD&`e=O0" [_,_,_,_,_,p-a] [_,_] dj rfl rfl this
theorem s6{p:Nat}(h:a<p):1<=gz l a p:=by
 haveI e:gz l a (a+1)=gz l a a+1:=by show gz l a a+(if a=a\/_ then 1 else 0)=_;rw[if_pos (.inl rfl)]
 haveI:=oF (l:=l) (a:=a) (show a+1<=p from h);exact"z$Z.gXGzZ[AD5" e this
theorem rH{p:Nat}(h:a<p):∀{q:Nat},p<=q->ai l p≠ai l q->gz l a p<gz l a q
 |0,h2,_=>by exact"3ECF}wfUQ0~'" h h2
 |q+1,h2,n=>by
  haveI J:p≠q+1:=λ z=>n (by rw[z]);show _<gz l a q+(if q=a\/(a<q/\ai l (q+1)≠ai l q)then 1 else 0);by_cases c:ai l (q+1)=ai l q;.haveI:=rH (q:=q) h (by exact"vp{MrwqA1OOzl[A!" h2 J) (by rw[<-c];exact n);exact"{c[Vdk4si6!" [_,_,q,a,_] [ai l (q+1),ai l q] this
  .rw[if_pos (.inr ⟨by exact"{Ko88^%.nK47o4tX$V'" h h2 J,c⟩)];haveI:=oF (l:=l) (a:=a) (show p<=q by exact"vp{MrwqA1OOzl[A!" h2 J);exact"I6NvVt':$" this
theorem nk:∀n:Nat,((List.range' (a+1) n).filter λ p=>decide (p=a+1)||!decide (ai l p=ai l (p-1))).length=gz l a (a+n)
 |0=>(i8 (Nat.le_refl a)).symm
 |n+1=>by
  rw[List.range'_concat,List.filter_append,List.length_append,nk n];show _=gz l a (a+n)+(if a+n=a\/(a<a+n/\ai l (a+n+1)≠ai l (a+n))then 1 else 0);congr 1;rw[show a+1+1*n=a+n+1 by exact"6MBJRjPFUFKu)$"];by_cases c:n=0;.rw[if_pos (.inl (by exact";lbsTDWJDY~+" c)),List.filter_cons_of_pos (by rw[decide_eq_true (by exact"N7oYeMwL*D$9gb/" c)];rfl)];rfl
  .
   by_cases J:ai l (a+n+1)=ai l (a+n);.rw[if_neg (λ h=>by rcases h with h|h;exact"=:J'=#[C;0(PU/" c h;exact h.2 J),List.filter_cons_of_neg (by rw[decide_eq_false (by exact"~[T<9{%8jA!&C,Lm)" c),Nat.add_sub_cancel,decide_eq_true J];decide)];rfl
   .rw[if_pos (.inr ⟨by exact"gzrf,~>Ou^?%%" c,J⟩),List.filter_cons_of_pos (by rw[Nat.add_sub_cancel,decide_eq_false J];exact Bool.or_true _)];rfl
theorem kK(h:a<l.length):ki l a=gz l a (l.length-1):=by show(List.filter _ _).length=_;rw[nk,show a+(l.length-a-1)=l.length-1 by exact"QRYyn8S/?TKWTZ~o$5}/r(u9=h{*&].n/5]%0`pzIbUc&?%" [_,_,l.length-a,_,_] [] rfl rfl rfl h]
end
def Wd.gK(w:Wd):Wd:=((w.take 0 false).store).read 0 false
structure Calm(w:Wd):Prop where
 h:w.held=[]
 b:w.back=[]
 k:w.O.kept=w.O.th
def Gd(w:Wd):lW->Prop|.aN p k=>p+k<w.L.th.length/\((w.st=0/\w.up=p+2/\(k=0->p+1=w.L.th.length))\/(w.st=1/\w.up=p+k+2/\(p<w.sure->p+k<=w.sure)/\w.mt<p+k+1))|.fT l=>w.st=2/\l=w.L.base/\w.pt=w.L.base+1/\w.mt<=w.L.base
structure Ready(w:Wd):Prop where
 st:w.st=1
 fp:w.fp=false
 fl:w.fl=[]
 up:w.up=w.mt+1
 m1:1<=w.mt
 su:w.sure+1<=w.mt
section
variable{J:List Int}{s c:Nat}{w:Wd}
theorem xu{m:lW}{Y:LG}{Z:Nat}{U:mD}(W:w.ae=[m])(V:w.back=[])(O:({w with ae:=[]}:Wd).recv m={w with ae:=[],O:=Y,sure:=Z,held:=[U]}):w.gK=Wd.qi {w with ae:=[],O:=Y.store,sure:=Z,held:=[],back:=[]} U:=by
 haveI Q:w.take 0 false={w with ae:=[],O:=Y,sure:=Z,held:=[U]}:=by
  haveI:w.take 0 false=(w.pop 0 false).recv m:=by unfold Wd.take;rw[W];rfl
  rw[this,<-O];show Wd.recv {w with ae:=w.ae.eraseIdx 0} m=_;rw[W];rfl
 unfold Wd.gK;rw[Q];show Wd.read {w with ae:=[],O:=Y.store,sure:=Z,held:=[],back:=w.back++[U]} 0 false=_;rw[V];rfl
theorem qm{a:Nat}:∀{Z:List (Nat×Nat)},(∀p,p∈Z->p.1<=a+1)->Z.dropWhile (λ p=>decide (p.1<=a+1))=[]|[],_=>rfl|x::Z,h=>by rw[List.dropWhile_cons_of_pos (by rw[decide_eq_true (h x (List.mem_cons_self ..))])];exact qm λ p Y=>h p (List.mem_cons_of_mem _ Y)
theorem zQ{w:Wd}{e:Nat}(V:w.st<=2)(D:w.st=0->w.mt<=e+1)(h1:w.st=1->w.mt<e+1/\w.up<=e+2/\∀p,p∈w.fl->p.1<=e+1)(h2:w.st=2->w.mt<e+1/\w.pt<=e+1):∃U,w.qi (.ok e)=Wd.send {w with mt:=e+1,up:=e+2,st:=1,pt:=U,fp:=false,fl:=[]} false:=by
 show∃U,(w.upd e).news (decide (w.mt<e+1)) e=_;by_cases Y:w.st=0;.
  refine⟨0,?_⟩;haveI W:=D Y;have R:(w.upd e).mt=e+1:=by
   unfold Wd.upd;split;.rfl
   .exact Nat.le_antisymm W (Nat.not_lt.mp ‹_›)
  haveI Q:(w.upd e).st=0:=by unfold Wd.upd;split<;>exact Y
  haveI N:(w.upd e).cy={w with mt:=e+1,up:=e+2,st:=1,pt:=0,fp:=false,fl:=[]}:=by
   unfold Wd.upd Wd.cy;split;.rfl
   .haveI:w.mt=e+1:=Nat.le_antisymm W (Nat.not_lt.mp ‹_›);rw[this]
  unfold Wd.news;rw[if_neg (λ h=>h.2 ⟨Q,R⟩)];unfold Wd.go;rw[if_pos Q,N]
 .
  have O:w.mt<e+1:=by
   by_cases Z:w.st=1;.exact(h1 Z).1
   .exact(h2 (by exact"7,*?zd;RY.i;o/F:y8[C*ZV=%" V Y Z)).1
  haveI X:w.upd e={w with mt:=e+1,up:=max w.up (e+2),fp:=false}:=if_pos O;unfold Wd.news;rw[if_neg (λ h=>Bool.false_ne_true (h.1.symm.trans (decide_eq_true O))),X];unfold Wd.go;rw[if_neg Y];by_cases Z:w.st=1;.refine⟨w.pt,?_⟩;obtain@⟨_,b,f⟩:=h1 Z;rw[if_pos Z];unfold Wd.free;show Wd.send {w with mt:=e+1,up:=max w.up (e+2),fp:=false,fl:=w.fl.dropWhile λ p=>decide (p.1<=e+1)} false=_;rw[qm f,show max w.up (e+2)=e+2 by exact"EBxWCQcZ+_;1'CG'JW[s^w&;" rfl b];exact congrArg (λ z=>Wd.send {w with mt:=e+1,up:=e+2,st:=z,fp:=false,fl:=[]} false) Z
  .refine⟨0,?_⟩;rw[if_neg Z,if_pos (h2 (by exact"7,*?zd;RY.i;o/F:y8[C*ZV=%" V Y Z)).2];rfl
theorem Inv.KL(V:Inv J s c w){p:Nat}(h:p<=a9 J s w.O.th)(Z:¬p<w.sure):w.holds p=true:=by haveI Y:=V.bs;haveI:=V.th.pos V.P;unfold Wd.holds;rw[decide_eq_true (show w.O.base<=p by exact"$h]m.3:hNe)" Z Y),decide_eq_true (show p<w.O.th.length by exact")G/p$^YKm7r}9#" h this),decide_eq_true (V.th.same V.P h)];rfl
theorem zR(V:Inv J s c w)(C:Calm w){m:lW}(P:w.ae=[m])(g:Gd w m)(E:∀p k,m= .aN p k->p<=a9 J s w.O.th):∃W Z R e,w.gK=Wd.send {w with ae:=[],O:=LG.store W,sure:=Z,held:=[],back:=[],mt:=e+1,up:=e+2,st:=1,pt:=R,fp:=false,fl:=[]} false/\Z<=e/\(w.st≠0->w.mt<e+1):=by
 have K:=V.wi.st;haveI L:=V.wi.mu;haveI G:∃W Z e,({w with ae:=[]}:Wd).recv m={w with ae:=[],O:=W,sure:=Z,held:=[.ok e]}/\Z<=e/\(w.st=0->w.mt<=e+1)/\(w.st=1->w.mt<e+1/\w.up<=e+2)/\(w.st=2->w.mt<e+1/\w.pt<=e+1):=by
  cases m with
   |aN p k=>
    refine bf λ H Y=>?_;obtain@⟨O,Q⟩:=g;have F:=E p k rfl;by_cases h1:p<w.sure;.refine Y ?_;refine⟨w.O,w.sure,w.sure,?_,Nat.le_refl _,by exact"49Lb8Z)b1I~BU]6NQutmnTcC_lg=Hyyx;Jf!wv/,}:<F,KXs]3d:c~z_5Z" L Q h1,by exact"xSM4sNd8|C0yl(I`8=RUinj&W?o*&DhO*}i(R*X'qV!Ul.;Zg29$r&u^F+tA{m[He5%" Q h1,by exact"/1DvIq:sO1pH#cqZ.<%#yac^3tt>A?>lz>u0lkY_o:,`1FRkYhLy{Mc;F&" Q⟩;haveI:({w with ae:=[]}:Wd).recv (.aN p k)={w with ae:=[],held:=w.held++[.ok w.sure]}:=if_pos h1;rw[this,C.h];rfl
    .haveI X:=V.KL F h1;refine Y ?_;refine⟨w.O.put p (w.pg p k),max w.sure (min w.aA (p+k)),p+k,?_,by exact"iq%1t+rI&0wMILMuS0YmF?}+3|:^MaNGs<;EPo" [_,_,_,_,min w.aA (p+k),_] [] rfl rfl h1,by exact"A>L!0DF/2nNmE)o4k0?*7k&7]H#N{*{fZ<1Wk}VD/lhxFC7OJVQLTZC3" [_,_,_,_,w.up,_,_] [] L Q,by exact"?~bop#QPBv`})<LI=beq!_Y;){bEEmbw]6zJN5?SbQv]A*U.IjmbFs3Pu*l0u<'" [_,_,_,_,w.up,_,_] [] Q,by exact"tW3aj{8l0+S$_o7IOPW*fk`(pG~38MNkiVImh`i8ejQ}tyg8{rlR5Em4s9&" [_,_,_,_,w.pt,_,_,_] [] Q⟩;haveI:({w with ae:=[]}:Wd).recv (.aN p k)={w with ae:=[],O:=w.O.put p (w.pg p k),sure:=max w.sure (min w.aA (p+k)),held:=w.held++[.ok (p+k)]}:=(if_neg h1).trans (if_pos X);rw[this,C.h];rfl
   |fT l=>
    obtain@⟨O,(rfl),D,U⟩:=g;by_cases h1:w.sure<w.L.base;.
     by_cases X:w.holds w.L.base=true;.refine⟨w.O,w.L.base,w.L.base,?_,Nat.le_refl _,by exact"45%4IO^BD_:)" U,by exact")Y'W,6$Dc#Adth.b9%" O,by exact"+he*b_'_0$fV2ctW_*^}(<[$.#" D U⟩;haveI:({w with ae:=[]}:Wd).recv (.fT w.L.base)={w with ae:=[],sure:=w.L.base,held:=w.held++[.ok w.L.base]}:=(if_pos h1).trans (if_pos X);rw[this,C.h];rfl
     .refine⟨w.O.res (w.L.th.take (w.L.base+1)) w.L.base,w.L.base,w.L.base,?_,Nat.le_refl _,by exact"45%4IO^BD_:)" U,by exact")Y'W,6$Dc#Adth.b9%" O,by exact"+he*b_'_0$fV2ctW_*^}(<[$.#" D U⟩;haveI:({w with ae:=[]}:Wd).recv (.fT w.L.base)={w with ae:=[],O:=w.O.res (w.L.th.take (w.L.base+1)) w.L.base,sure:=w.L.base,held:=w.held++[.ok w.L.base]}:=(if_pos h1).trans (if_neg X);rw[this,C.h];rfl
    .refine⟨w.O,w.sure,w.sure,?_,Nat.le_refl _,by exact"rzOU{Mu_)DaHLBLa!" U h1,by exact")Y'W,6$Dc#Adth.b9%" O,by exact"rt9E;mk&H7ll>gvN;]b}CY')J7Gj3" D U h1⟩;haveI:({w with ae:=[]}:Wd).recv (.fT w.L.base)={w with ae:=[],held:=w.held++[.ok w.sure]}:=if_neg h1;rw[this,C.h];rfl
 obtain⟨W,Z,e,S,A,B,N,T⟩:=G;obtain⟨R,h⟩:=zQ (w:={w with ae:=[],O:=LG.store W,sure:=Z,held:=[],back:=[]}) (e:=e) K B (λ z=>⟨(N z).1,(N z).2,λ p M=>Nat.le_of_lt_succ (Nat.lt_of_lt_of_le ((V.so z).2.1 p M).2 (N z).2)⟩) T;exact⟨W,Z,R,e,(xu P C.b S).trans h,A,λ z=>by
  by_cases I:w.st=1;.exact(N I).1
  .exact(T (by exact"7,*?zd;RY.i;o/F:y8[C*ZV=%" K z I)).1⟩
end
section
variable{J:List Int}{s c:Nat}{w:Wd}
structure Jv(w Z:Wd):Prop where
 mt:Z.mt=w.mt
 no:Z.no=w.no
 O:Z.O=w.O
 L:Z.L=w.L
 h:Z.held=w.held
 b:Z.back=w.back
 su:Z.sure=w.sure
 r:Z.rows=w.rows
theorem bI(e:Bool):Jv w (w.send e):=by
 unfold Wd.send;by_cases h1:w.st=2\/w.fp=true;.rw[if_pos h1];exact⟨rfl,rfl,rfl,rfl,rfl,rfl,rfl,rfl⟩
 rw[if_neg h1];by_cases h2:w.up<w.L.base+2;.rw[if_pos h2];exact⟨rfl,rfl,rfl,rfl,rfl,rfl,rfl,rfl⟩
 rw[if_neg h2];by_cases Z:w.k=0/\e=false;.rw[if_pos Z];exact⟨rfl,rfl,rfl,rfl,rfl,rfl,rfl,rfl⟩
 rw[if_neg Z];by_cases Y:w.st=0;.rw[if_pos Y];exact⟨rfl,rfl,rfl,rfl,rfl,rfl,rfl,rfl⟩
 rw[if_neg Y];by_cases U:w.k=0;.rw[if_pos U];exact⟨rfl,rfl,rfl,rfl,rfl,rfl,rfl,rfl⟩
 .rw[if_neg U];exact⟨rfl,rfl,rfl,rfl,rfl,rfl,rfl,rfl⟩
theorem xw{n:Int}{l:List Int}(h:(cut n l).length=0):l=[]:=by
 unfold cut at h;split at h;.rw[List.length_take]at h;exact List.length_eq_zero_iff.mp (by exact"|GvG>|3aRzDWR]q|1HH0" [_,min 1 l.length] [] rfl h)
 .exact List.length_eq_zero_iff.mp h
theorem oG(h:w.k=0)(f:w.full=false):w.L.th.length<=w.up-1:=by unfold Wd.k at h;rw[f,if_neg Bool.false_ne_true]at h;haveI:=congrArg List.length (xw h);rw[List.length_drop]at this;haveI:w.L.th.length-(w.up-1)=0:=this;exact",Y:d(ocBO9|TradD" [_,w.up,_,w.L.th.length-(w.up-1)] [] rfl this
theorem oH(z:0<w.size)(h:w.st≠1\/w.fl=[]):w.full=false:=by
 unfold Wd.full;rcases h with h|h;.rw[decide_eq_false h];rfl
 .rw[h,decide_eq_false (p:=w.size<=[].length) (by show¬w.size<=0;exact"i'M*X$Gf!#" z),Bool.and_false]
theorem rI(R:Ready w)(Q:w.ae=[])(z:0<w.size)(N:w.mt<=w.L.th.length)(b:w.L.base<w.L.th.length):(w.mt=w.L.th.length/\w.send false=w)\/∃m,(w.send false).ae=[m]/\Gd (w.send false) m/\(w.send false).st≠0/\∀p k,m= .aN p k->p+1=w.mt:=by
 haveI X:=oH z (.inr R.fl);haveI W:=R.st;haveI U:=R.up;haveI G:=R.m1;haveI O:=R.su;unfold Wd.send;rw[if_neg (show¬(w.st=2\/w.fp=true)from λ h=>by rcases h with h|h;exact"KNYzR[u5Y[!" W h;exact Bool.false_ne_true (R.fp.symm.trans h))];by_cases h2:w.up<w.L.base+2;.rw[if_pos h2];exact .inr ⟨.fT w.L.base,by show w.ae++[_]=_;rw[Q];rfl,⟨rfl,rfl,rfl,by show w.mt<=w.L.base;exact"Wh?B,]i3l',br*" U h2⟩,λ h=>(by cases h),λ _ _ h=>(by cases h)⟩
 rw[if_neg h2];refine bf λ V Z=>?_;by_cases Y:w.k=0;.refine Z ?_;rw[if_pos ⟨Y,rfl⟩];haveI:=oG Y X;exact .inl ⟨by exact"a/9G>,X}cT?r4mX|~,H|icfl{8xehY" [_,_,_,w.up-1] [] rfl N U this,rfl⟩
 .
  refine Z ?_;rw[if_neg (λ h=>Y h.1),if_neg (by exact"YhKwW2]Xi$" W),if_neg Y];haveI D:=uu h2;refine .inr ⟨.aN (w.up-2) w.k,by show w.ae++[_]=_;rw[Q];rfl,⟨by show w.up-2+w.k<w.L.th.length;exact"!K?JyhvCP!/LJ=OTr;UKpK)N'&MlJ+uP+G;)RVA?$UpBnGqp$;" [_,_,_,_,_,w.up-1,w.L.th.length-(w.up-1)] [] rfl rfl rfl h2 Y D,.inr ⟨W,?_,?_,?_⟩⟩,λ h=>by have h:w.st=0:=h;exact"%n>I*_};^'" W h,λ p k h=>by cases h;exact"vqg]cgz4l|Nk#ID&cz`ds?umC4,4S/)" rfl U h2⟩;.show w.up+w.k=w.up-2+w.k+2;exact"%G8!:SO&QdJV<tZmy3#Q;FG{i(" rfl h2
  .show w.up-2<w.sure->_;exact λ h=>(EC U O h).elim
  .show w.mt<w.up-2+w.k+1;exact"t9;!&:aH!C>t0L{}o|&R)f6FC$rgzT1" rfl U Y
theorem l_(Z:w.st=0)(Q:w.fp=false)(U:w.ae=[])(z:0<w.size)(b:w.L.base<w.L.th.length)(V:w.mt<w.up)(W:w.up<=w.L.th.length+1):∃m,(w.send true).ae=[m]/\Gd (w.send true) m/\∀p k,m= .aN p k->w.up=p+2/\w.L.base+2<=w.up:=by
 haveI O:=oH z (.inl (by exact"*DOYEuCcu," Z:w.st≠1));unfold Wd.send;rw[if_neg (show¬(w.st=2\/w.fp=true)from λ h=>by rcases h with h|h;exact";.LwGK:2(#$" Z h;exact Bool.false_ne_true (Q.symm.trans h))];by_cases h2:w.up<w.L.base+2;.rw[if_pos h2];exact⟨.fT w.L.base,by show w.ae++[_]=_;rw[U];rfl,⟨rfl,rfl,rfl,by show w.mt<=w.L.base;exact"}br0JieEqGtU!" V h2⟩,λ _ _ h=>(nomatch h)⟩
 rw[if_neg h2,if_neg (λ h=>Bool.false_ne_true h.2.symm),if_pos Z];haveI X:=uu h2;refine⟨.aN (w.up-2) w.k,by show w.ae++[_]=_;rw[U];rfl,⟨by show w.up-2+w.k<w.L.th.length;exact"`XM[W].}WqY|2%cU%kiF+!6<tccPW{tn[AMA'i1}yHR%:LR7so3" [_,_,_,_,_,w.up-1,w.L.th.length-(w.up-1)] [] rfl rfl rfl W h2 X,.inl ⟨Z,?_,?_⟩⟩,λ p k h=>by cases h;exact"GudNjoSgj*y6EbRQ.$a2E[hqSHo.*E=#" rfl h2⟩;.show w.up=w.up-2+2;exact"%|gwoOF_Z//>Rw>q}^,)Sy=" rfl h2
 .intro Y;have Y:w.k=0:=Y;haveI:=oG Y O;show w.up-2+1=w.L.th.length;exact"~)BF]oeR[03~Pk}<&%4>$Yb>97+Kyf0=,tTWS66R_C#" [_,_,_,_,w.up-1] [] rfl rfl W h2 this
theorem md(V:Inv J s c w)(K:w.st=1->w.lim=0\/w.up=w.L.th.length+1)(R:w.st<=1)(D:w.fp=false)(U:w.ae=[])(H:w.mt<w.L.th.length):∃m,(w.send true).ae=[m]/\Gd (w.send true) m/\∀p k,m= .aN p k->p<w.L.th.length:=by
 haveI I:=V.wi;haveI b:=I.l.b1;haveI N:=I.mu;haveI Q:=I.u2;by_cases X:w.st=0;.refine bf λ G Y=>?_;obtain⟨m,h1,h2,L⟩:=l_ X D U I.z (by have:=V.lc;have:=V.co;have:=I.l.ol;exact"NDGy8cb!" b) N Q;refine Y ?_;exact⟨m,h1,h2,λ p k h=>by have:=(L p k h).1;exact"N;huJtj?,$ArP," Q this⟩
 haveI h1:w.st=1:=by exact"uV{W=>}#1pVGp(5[B" R X
 unfold Wd.send;rw[if_neg (show¬(w.st=2\/w.fp=true)from λ h=>by rcases h with h|h;exact"KNYzR[u5Y[!" h1 h;exact Bool.false_ne_true (D.symm.trans h))];by_cases h2:w.up<w.L.base+2;.rw[if_pos h2];exact⟨.fT w.L.base,by show w.ae++[_]=_;rw[U];rfl,⟨rfl,rfl,rfl,by show w.mt<=w.L.base;exact"}br0JieEqGtU!" N h2⟩,λ _ _ h=>(by cases h)⟩
 rw[if_neg h2,if_neg (λ h=>Bool.false_ne_true h.2.symm),if_neg X];haveI O:=uu h2;by_cases Z:w.k=0;.
  rw[if_pos Z];refine⟨.aN (w.up-2) 0,by show w.ae++[_]=_;rw[U];rfl,⟨by show w.up-2+0<w.L.th.length;exact"rLkq14oJtOg;h=nWNn,8;.iwOZ" rfl Q h2,.inr ⟨h1,?_,?_,?_⟩⟩,λ p k h=>by cases h;exact".fqi]n/[&y9Qc]*sOkDY0QsV#" rfl Q h2⟩;.show w.up=w.up-2+0+2;exact"[[UYme.QPQh0UK[UIftTACkI," rfl h2
  .show w.up-2<w.sure->w.up-2+0<=w.sure;exact"Gzr/dc'ee!" [w.up,_,_] []
  .
   show w.mt<w.up-2+0+1;by_cases f:w.full=true;.have W:w.size<=w.fl.length:=of_decide_eq_true (Bool.and_eq_true_iff.mp f).2;have z:=I.z;cases e:w.fl with|nil=>rw[e]at W;have W:w.size<=0:=W;exact"1yp*4.Q763z.y)1" [_,w.up,_,_] [] z W|cons x r=>have:=(V.so h1).2.1 x (by rw[e];exact List.mem_cons_self ..);exact"F:cE9AhA'/%x17UAS7+V'baO<" rfl this
   .haveI:=oG Z (Bool.not_eq_true _▸f);exact"vkyoWFRoM8SrRiyV5aQpZA}km_aH}4ocnOvz;7Q=" [_,_,_,_,w.up-1] [] rfl rfl H this
 .
  rw[if_neg Z];haveI T:w.k<=1:=by
   rcases K h1 with r|r;.
    unfold Wd.k;split;.exact"f!'?!%"
    .unfold cut;rw[if_pos r,List.length_take];exact"'sG'qkT5c,ku*" rfl
   .exact"b^xdy8S9:,3!~Ns,/nf*5U_2Iboub%$" [_,_,_,w.up-1,w.L.th.length-(w.up-1)] [] rfl rfl O r
  refine⟨.aN (w.up-2) w.k,by show w.ae++[_]=_;rw[U];rfl,⟨by show w.up-2+w.k<w.L.th.length;exact"h>2P.pQFavT5]D;M,e2QHH|C!yt(YJ7uz92~E|)Sq59'p/;hG)" [_,_,_,_,w.L.base,w.up-1,w.L.th.length-(w.up-1)] [] rfl rfl rfl h2 O Z,.inr ⟨h1,?_,?_,?_⟩⟩,λ p k h=>by cases h;exact"*WnCiCySQegF[3B'4P+7No9X>q{gEASl'~Y!sQ[E8Y^ifoLxAZJFm=v'" [_,_,_,_,w.up-1,w.L.th.length-(w.up-1)] [] rfl rfl rfl O Z⟩;.show w.up+w.k=w.up-2+w.k+2;exact"%G8!:SO&QdJV<tZmy3#Q;FG{i(" rfl h2
  .show w.up-2<w.sure->w.up-2+w.k<=w.sure;exact"aOS'9?,VmRoL" [w.up,_,_,_] [] T
  .show w.mt<w.up-2+w.k+1;exact"lThCaiLCv)#5Aq|OBKwBtf`oL79S/" rfl N Z
end
section
variable{J:List Int}{s c:Nat}{w:Wd}
theorem right_of{p r:Nat}(h:w.right p=r)(Z:0<r):r<=p/\r<w.O.th.length/\ai w.O.th r<=ai w.L.th p:=by unfold Wd.right at h;cases e:scan w.O.th (ai w.L.th p) w.O.base (min p (w.O.th.length-1)+1)with|none=>rw[e]at h;have h:0=r:=h;exact"p=&QT/}^wJ*(g9guf+" Z h|some q=>rw[e]at h;haveI h:q=r:=h;subst h;obtain@⟨@⟨a,b⟩,f,_⟩:=dE e;exact⟨by exact"?Rfg4.eT1O+zr[y/*b" [_,_,w.O.th.length,w.O.th.length-1,min p (w.O.th.length-1)] [] rfl b,by exact"FG7ESF{$ONp`7r;CCD+Girn#uH6Xs#mCvU=HJs" [_,_,p,w.O.th.length-1,min p (w.O.th.length-1)] [] rfl rfl Z b,f⟩
theorem uv(V:Inv J s c w){p q:Nat}(W:p<w.L.th.length)(h1:a9 J s w.O.th<q)(h2:q<p)(Z:q+1<=w.gs (w.right p) (ai w.O.th (w.right p)))(S:w.L.base+1<=q+1):gz w.L.th (a9 J s w.O.th) q<gz w.L.th (a9 J s w.O.th) p/\gz w.O.th (a9 J s w.O.th) (w.right q)<gz w.O.th (a9 J s w.O.th) (w.right p):=by
 haveI P:=V.P;generalize K:w.right p=r at Z;have N:a9 J s w.O.th<r/\ai w.L.th q<=ai w.O.th r:=by unfold Wd.gs at Z;cases e:scan w.L.th (ai w.O.th r) w.L.base (r+1)with|none=>rw[e]at Z;have Z:q+1<=min (r+1) w.L.base:=Z;exact"?8HatcB!,PX1m9q)j.<}>rU]s^%2}$" [_,_,_,_,min (r+1) w.L.base] [_,_] rfl S Z|some g=>rw[e]at Z;haveI Z:q+1<=g+1:=Z;obtain@⟨@⟨a,b⟩,f,_⟩:=dE e;refine⟨by exact"2N]rqV&xJAH8d$c!4h" h1 Z b,Int.le_trans (P.mm q g (by exact"U/_v(<(`I)" Z) ?_) f⟩;haveI:=(right_of K (by exact"}fj_yBmhru,}#`|2i.I+#" h1 Z b)).1;exact"35#c!p;g_zW5lbW" W b this
 obtain@⟨U,O⟩:=N;obtain@⟨M,L,C⟩:=right_of K (by exact"TVd3[/Ig9!" U);have H:∀i j,a9 J s w.O.th<i->i<w.L.th.length->a9 J s w.O.th<j->j<w.O.th.length->ai w.L.th i≠ai w.O.th j:=by
  refine bf λ F Y=>?_;rcases V.th with h|⟨n,R,D,h⟩;.refine Y ?_;rw[h,d9];intro i j T I Q X;haveI:=P.s1;exact P.ne i j (by exact"2.h_+t#`KL#TXL|H" [_,_,s-1] [] rfl T) I (by exact"2.h_+t#`KL#TXL|H" [_,_,s-1] [] rfl Q) X
  .refine Y ?_;rw[h,cL P D,List.length_take];intro i j T I Q X;exact"B3&wLtEgYVo*y*dDF6L)vYv^c:?^wcT#a>T</L^{_B56" [_,n-1,_,_,min n w.L.th.length] [_,_] rfl rfl Q X
 have R:=H q r h1 (by exact"(aM>T0N{IN#!" W h2) U L;haveI D:=H p r (by exact"OdtwoN4fXW!" U M) W U L;refine⟨rH h1 (by exact"ue1~#~5" h2) λ z=>by exact"jfUihE[RjM}7^U>}^Kt*&.26," O C D z,?_⟩;by_cases c:a9 J s w.O.th<w.right q;.
  obtain@⟨E,A,G⟩:=right_of (w:=w) (p:=q) rfl (by exact"TVd3[/Ig9!" c);have B:¬r<=w.right q:=λ z=>by have:=V.th.mono P z A;exact"*0kmAYBpylC}L<V}i{!ZdW7*" O R G this
  exact rH c (by exact"y~G!zSY%" B) λ z=>by exact"IDu<!mKZ|Ow,6U_=bjj!HA$8I," O R G z
 .rw[i8 (by exact"^Hv+i(b." c)];exact s6 U
theorem s7(V:Inv J s c w)(C:Calm w){p k:Nat}(F:w.ae=[.aN p k])(g:Gd w (.aN p k))(R:a9 J s w.O.th<p):∃Y D I,w.gK=Wd.send {w with ae:=[],O:=LG.store w.O,held:=[],back:=[],no:=w.no+1,st:=0,up:=Y,pt:=D,fp:=false,fl:=I} true/\w.mt<Y/\Y<=w.L.th.length+1/\∀q,Y=q+2->w.L.base+2<=Y->a9 J s w.O.th<q->gz w.L.th (a9 J s w.O.th) q<gz w.L.th (a9 J s w.O.th) p/\gz w.O.th (a9 J s w.O.th) (w.right q)<gz w.O.th (a9 J s w.O.th) (w.right p):=by
 obtain@⟨O,S⟩:=g;haveI P:=V.sa;haveI Q:=V.ma;haveI K:=V.wi.mu;haveI X:a9 J s w.O.kept=a9 J s w.O.th:=by rw[C.k]
 haveI H:¬w.holds p=true:=λ h=>by have:=(V.holds (by exact"H/[WB*G<u#" O) h).1;exact"{hdZq~p:" R this
 haveI M:({w with ae:=[]}:Wd).recv (.aN p k)={w with ae:=[],O:=w.O,sure:=w.sure,held:=[.no p (w.right p) (ai w.O.th (w.right p))]}:=by haveI:({w with ae:=[]}:Wd).recv (.aN p k)={w with ae:=[],held:=w.held++[.no p (w.right p) (ai w.O.th (w.right p))]}:=(if_neg (show¬p<w.sure by exact":BCbB_kO2(<" R P)).trans (if_neg H);rw[this,C.h];rfl
 rw[xu F C.b M];show∃Y D I,Wd.refused {w with ae:=[],O:=LG.store w.O,sure:=w.sure,held:=[],back:=[]} p (w.right p) (ai w.O.th (w.right p))=_/\_;refine bf λ L Z=>?_;rcases S with⟨N,U,_⟩|⟨h1,U,_,_⟩;.
  refine Z ?_;refine⟨max (min (p+1) (w.gs (w.right p) (ai w.O.th (w.right p))+1)) (w.mt+1),w.pt,w.fl,?_,by exact"k5Dw?]'BUE#x254" [_,p,w.gs (w.right p) (ai w.O.th (w.right p)),_,_] [] rfl,by exact"JaJM>w]${E9Znc&YGa8u1UM}Vo:}{Kxt&vJdss'n<1EQYvk)m*djf>Jhm=DEO" [_,w.gs (w.right p) (ai w.O.th (w.right p)),min (p+1) (w.gs (w.right p) (ai w.O.th (w.right p))+1),_,_,_,_,_] [] rfl rfl O K U,λ q W G e3=>?_⟩;.unfold Wd.refused;rw[if_pos (show Wd.fresh {w with ae:=[],O:=LG.store w.O,sure:=w.sure,held:=[],back:=[]} p=true from(if_neg (show¬w.st=1 by exact"*DOYEuCcu," N)).trans (decide_eq_true U))];haveI:Wd.told {w with ae:=[],O:=LG.store w.O,sure:=w.sure,held:=[],back:=[]} p (w.right p) (ai w.O.th (w.right p))={w with ae:=[],O:=LG.store w.O,sure:=w.sure,held:=[],back:=[],no:=w.no+1,up:=max (min (p+1) (w.gs (w.right p) (ai w.O.th (w.right p))+1)) (w.mt+1),fp:=false}:=(if_neg (show¬w.st=1 by exact"*DOYEuCcu," N)).trans (if_pos U);rw[this];exact congrArg (λ z=>Wd.send {w with ae:=[],O:=LG.store w.O,held:=[],back:=[],no:=w.no+1,st:=z,up:=max (min (p+1) (w.gs (w.right p) (ai w.O.th (w.right p))+1)) (w.mt+1),fp:=false} true) N
  .exact uv V (by exact"|](yibaEG%" [_,_,k] [] O) e3 (by exact")Z?Yg&2HA8?Y|,2T;:^A&XS<1(2XFOv{(^qai47;%{#pv[]7bx$Ls#" [_,_,w.mt,a9 J s w.O.kept,a9 J s w.O.th,w.gs (w.right p) (ai w.O.th (w.right p)),min (p+1) (w.gs (w.right p) (ai w.O.th (w.right p))+1),max (min (p+1) (w.gs (w.right p) (ai w.O.th (w.right p))+1)) (w.mt+1)] [] rfl rfl Q X W e3) (by exact"|M!)*0%Oo7s/f6}p%a$O54,mh+ajY':tc~?&&7us+OcLU.}If+`?g**" [_,_,w.mt,a9 J s w.O.kept,a9 J s w.O.th,p,min (p+1) (w.gs (w.right p) (ai w.O.th (w.right p))+1),max (min (p+1) (w.gs (w.right p) (ai w.O.th (w.right p))+1)) (w.mt+1)] [] rfl rfl Q X W e3) (by exact"qd.*fA>UD,R/=D[VR]" [_,_,p,w.gs (w.right p) (ai w.O.th (w.right p)),min (p+1) (w.gs (w.right p) (ai w.O.th (w.right p))+1),w.mt,max (min (p+1) (w.gs (w.right p) (ai w.O.th (w.right p))+1)) (w.mt+1)] [] W G)
 .
  refine Z ?_;refine⟨w.mt+1,0,[],?_,by exact"=}jV1L",by exact"0hB/qzPK6Ck`]#u2qrL!k}" O K U,λ q W G e3=>by exact"'<|{P_84S|sk7TSx}vD{vseUCFc%" Q X W e3⟩;unfold Wd.refused;haveI T:w.mt<p+1:=by exact"ylIF4s1UU~hW`fQ!!#" R Q X
  rw[if_pos (show Wd.fresh {w with ae:=[],O:=LG.store w.O,sure:=w.sure,held:=[],back:=[]} p=true from(if_pos h1).trans (decide_eq_true T))];haveI:Wd.told {w with ae:=[],O:=LG.store w.O,sure:=w.sure,held:=[],back:=[]} p (w.right p) (ai w.O.th (w.right p))={w with ae:=[],O:=LG.store w.O,sure:=w.sure,held:=[],back:=[],no:=w.no+1,st:=0,up:=w.mt+1,pt:=0,fp:=false,fl:=[]}:=(if_pos h1).trans (if_pos T);rw[this]
end
section
variable{J:List Int}{s c:Nat}{w:Wd}
theorem Inv.low{Y:Nat}(V:Inv J s Y w)(h1:w.ae.length<=c)(h2:w.held.length+w.back.length<=c)(Z:w.rows.length<=c):Inv J s c w:={V with c1:=h1,c2:=h2,c3:=Z}
theorem Inv.gK(V:Inv J s c w){m:lW}(U:w.ae=[m]):Inv J s (c+2) w.gK:=by have Z:=(V.take (i:=0) (m:=m) (by rw[U];rfl) false).store;unfold Wd.gK;generalize(w.take 0 false).store=Y at Z;cases e:Y.back[0]? with|some m=>exact Z.read e false|none=>unfold Wd.read;rw[e];exact Z.mono (Nat.le_succ _)
theorem qn{w Z:Wd}(h1:Z.O.th=w.O.th)(h2:Z.O.base=w.O.base)(Y:Z.L=w.L)(q:Nat):Z.right q=w.right q:=by unfold Wd.right;rw[h1,h2,Y]
def Jw(Z:List Int)(A Y U:Nat)(w:Wd):lW->Prop|.fT _=>True|.aN p _=>w.O.th=Z/\(p<=A\/(w.no+gz w.L.th A p<=Y/\w.no+gz Z A (w.right p)<=U))
structure Lp(J:List Int)(s c:Nat)(Z:List Int)(Y U j:Nat)(w:Wd):Prop where
 V:Inv J s c w
 C:Calm w
 n1:w.no<=Y
 n2:w.no<=U+1
 k:(w.ae=[]/\w.mt=w.L.th.length)\/∃m,w.ae=[m]/\Gd w m/\((w.st≠0/\(∀p k,m= .aN p k->p+1=w.mt)/\w.L.th.length-w.mt<=j)\/(Jw Z (a9 J s Z) Y U w m/\w.no<=3/\9<=j+w.no))
theorem Lp.step{L:List Int}{G y j:Nat}(Z:Lp J s c L G y (j+1) w)(h3:min G (y+1)<=3)(N6:w.L.th.length<=6)(c1:1<=c){m:lW}(N:w.ae=[m]):Lp J s c L G y j w.gK/\w.gK.L=w.L:=by
 obtain@@⟨V,C,n1,n2,k⟩:=Z;haveI I:=V.wi;haveI Q:=V.gK N;haveI lb:=I.l.b1;rcases k with⟨k,_⟩|⟨m',x,g,k⟩;.rw[k]at N;cases N
 have:m'=m:=by rw[x]at N;cases N;rfl
 subst this;haveI ka:a9 J s w.O.kept=a9 J s w.O.th:=by rw[C.k]
 haveI ma:=V.ma;by_cases rf:∃p k,m'= .aN p k/\a9 J s w.O.th<p;.
  obtain⟨p,kk,rfl,d⟩:=rf;rcases k with⟨_,v,_⟩|⟨⟨b1,W⟩,v,k3⟩;.haveI:=v p kk rfl;exact("`G}{3?sY0w?L:$$x4K#" ka ma d this).elim
  haveI i:=b1;subst i;have W:w.no+gz w.L.th (a9 J s w.O.th) p<=G/\w.no+gz w.O.th (a9 J s w.O.th) (w.right p)<=y:=by
   rcases W with W|W;.exact"F=|l>ZKM3SfDr?y/#" d W
   .exact W
  obtain⟨up,O,fl,e,u1,u2,H⟩:=s7 V C N g d;haveI bp:=s6 (l:=w.L.th) d;rw[e]at Q⊢;obtain⟨F,P,r,e2⟩:=l_ (w:={w with ae:=[],O:=LG.store w.O,held:=[],back:=[],no:=w.no+1,st:=0,up:=up,pt:=O,fp:=false,fl:=fl}) rfl rfl rfl I.z lb u1 u2;haveI S:=bI (w:={w with ae:=[],O:=LG.store w.O,held:=[],back:=[],no:=w.no+1,st:=0,up:=up,pt:=O,fp:=false,fl:=fl}) true;generalize Wd.send {w with ae:=[],O:=LG.store w.O,held:=[],back:=[],no:=w.no+1,st:=0,up:=up,pt:=O,fp:=false,fl:=fl} true=U at Q P r S⊢;haveI Y:U.no=w.no+1:=S.no;haveI X:U.L=w.L:=S.L;haveI D:U.O=LG.store w.O:=S.O;haveI A:U.held=[]:=S.h;haveI T:U.back=[]:=S.b;haveI a:U.rows=w.rows:=S.r;haveI n:=V.c3;refine⟨⟨Q.low (by rw[P];exact c1) (by rw[A,T];exact Nat.zero_le _) (by rw[a];exact n),⟨A,T,by rw[D];rfl⟩,by exact"iTM9_QB4q/wtg(1#C#&qY" [_,_,_,gz w.L.th (a9 J s w.O.th) p,_,_] [] W bp Y,by exact"slIRnC|SbjPKK+jAsfhO#" [_,_,_,gz w.L.th (a9 J s w.O.th) p,_,_] [] W Y,.inr ⟨F,P,r,.inr ⟨?_,by exact"Q4ploKCv.'Cw;82V)ktiI6,{N>1b7L=*7W|EVuOHY$" [_,_,_,min G (y+1),_,_,_] [] rfl h3 W bp Y,by exact"ekS)Dd6>>8/`x=sXO#" k3 Y⟩⟩⟩,X⟩;cases F with
   |fT l=>trivial
   |aN q k'=>
    obtain⟨e3,e4⟩:=e2 q k' rfl;refine⟨by rw[D];rfl,?_⟩;rcases Nat.lt_or_ge (a9 J s w.O.th) q with z|z;.obtain@⟨M,B⟩:=H q e3 e4 z;haveI x3:U.right q=w.right q:=qn (by rw[D];rfl) (by rw[D];rfl) X q;rw[Y,X,x3];exact .inr ⟨by exact"EXHztTT9]=vI.c'F,E#" W M,by exact"c#+s|_}Yh+[+6gbOxM$" W B⟩
    .exact .inl z
 .
  refine bf λ ad E=>?_;obtain⟨f,o,O,e,eq,s1,s2⟩:=zR V C N g λ p k h=>Nat.le_of_not_lt λ z=>rf ⟨p,k,h,z⟩;refine E ?_;rw[eq]at Q⊢;haveI R:Ready {w with ae:=[],O:=LG.store f,sure:=o,held:=[],back:=[],mt:=e+1,up:=e+2,st:=1,pt:=O,fp:=false,fl:=[]}:=⟨rfl,rfl,rfl,rfl,Nat.le_add_left ..,Nat.succ_le_succ s1⟩;haveI S:=bI (w:={w with ae:=[],O:=LG.store f,sure:=o,held:=[],back:=[],mt:=e+1,up:=e+2,st:=1,pt:=O,fp:=false,fl:=[]}) false;have mN:e+1<=w.L.th.length:=by haveI t:=Q.ma;haveI u:=(Q.ke.pos Q.P).2;rw[S.mt]at t;rw[S.L]at u;haveI t:e+1<=_:=t;haveI u:_<w.L.th.length:=u;exact Nat.le_trans t u
  haveI K:=rI R rfl I.z mN lb;generalize bd:Wd.send {w with ae:=[],O:=LG.store f,sure:=o,held:=[],back:=[],mt:=e+1,up:=e+2,st:=1,pt:=O,fp:=false,fl:=[]} false=U at Q K S⊢;haveI Y:U.no=w.no:=S.no;haveI X:U.L=w.L:=S.L;haveI D:U.O=LG.store f:=S.O;haveI A:U.held=[]:=S.h;haveI T:U.back=[]:=S.b;haveI a:U.rows=w.rows:=S.r;haveI b:U.mt=e+1:=S.mt;haveI n:=V.c3;haveI ml:U.ae.length<=c:=by
   rcases K with⟨_,k⟩|⟨m,k,_⟩;.rw[k];exact Nat.zero_le _
   .rw[k];exact c1
  refine⟨⟨Q.low ml (by rw[A,T];exact Nat.zero_le _) (by rw[a];exact n),⟨A,T,by rw[D];rfl⟩,by exact"O}6:v4stP<#" n1 Y,by exact"2'o#]c+qVMuX]#!" n2 Y,?_⟩,X⟩;rcases K with⟨k1,v⟩|⟨m,P,r,k3,k4⟩;.refine .inl ⟨by rw[v],?_⟩;rw[b,X];exact k1
  .
   refine .inr ⟨m,P,r,.inl ⟨k3,λ p k h=>by rw[b];exact k4 p k h,?_⟩⟩;rw[b,X];rcases k with⟨M,_,B⟩|⟨_,M,B⟩;.haveI:=s2 M;exact"z6'S8LxWVfAIgxS&F<XI%2P=PA8}iVY[w4?#" [_,_,_,_,_,w.L.th.length-w.mt] [] rfl rfl B this
   .exact"E`exG'N)x5FAQ&{ysxIVc'RoPq~D~YR" rfl N6 M B
theorem Lp.done{U:List Int}{O D:Nat}(Z:Lp J s c U O D 0 w):w.ae=[]/\w.mt=w.L.th.length:=by
 obtain@@⟨V,C,I,K,k⟩:=Z;rcases k with k|⟨m,_,g,k⟩;.exact k
 exfalso;haveI Q:=V.wi.l.b1;haveI G:=V.ma;haveI:=(V.ke.pos V.P).2;rcases k with⟨X,W,Y⟩|⟨_,W,Y⟩;.cases m with|fT l=>have:=g.2.2.2;exact"s_[g[dO_x_qEdpsVerz5!" [_,_,_,w.L.th.length-w.mt] [] rfl Q Y this|aN p k=>haveI:=W p k rfl;obtain@⟨N,R⟩:=g;exact"yg62u:'SdzU+.w>0?N:Kb#FjhnF;Q9BQ5ta[wuHG2FvFV`;TR>9[Y1_3]>o)}P&#o}bH#OSIm/uBrKwM^8" [_,_,_,w.L.th.length-w.mt,_,_,_,_] [] rfl X Y N R
 .exact"QC2(}~zUs}X*" W Y
end
def Rp(w:Wd):Prop:=w.st=1->w.lim=0\/w.up=w.L.th.length+1
section
variable{J:List Int}{s c:Nat}{w:Wd}
theorem Rp.send(R:Rp w)(e:Bool):Rp (w.send e):=by
 unfold Wd.send;by_cases h1:w.st=2\/w.fp=true;.rw[if_pos h1];exact R
 rw[if_neg h1];by_cases h2:w.up<w.L.base+2;.rw[if_pos h2];exact λ h=>(nomatch h)
 rw[if_neg h2];by_cases U:w.k=0/\e=false;.rw[if_pos U];exact R
 rw[if_neg U];by_cases Z:w.st=0;.rw[if_pos Z];exact λ h=>nomatch Z.symm.trans (h:w.st=1)
 rw[if_neg Z];by_cases Y:w.k=0;.rw[if_pos Y];exact R
 .
  rw[if_neg Y];intro h;haveI:=uu h2;rcases R h with r|r;.exact .inl r
  .exact(Bn (uu h2) r Y).elim
theorem Rp.cy(I:WI w):Rp (w.cy.send false):=by
 haveI Y:=oH (w:=w.cy) I.z (.inr rfl);haveI U:=I.mu;haveI W:=I.u2;unfold Wd.send;rw[if_neg (show¬(w.cy.st=2\/w.cy.fp=true)from λ h=>by rcases h with h|h<;>cases h)];by_cases h2:w.cy.up<w.cy.L.base+2;.rw[if_pos h2];exact λ h=>(nomatch h)
 rw[if_neg h2];by_cases Z:w.cy.k=0;.rw[if_pos ⟨Z,rfl⟩];have:=oG Z Y;haveI:w.L.th.length<=w.mt+1-1:=this;exact λ _=> .inr (by show w.mt+1=w.L.th.length+1;exact"dcoalClQw{MO'^qW#T_b?>|(Iv$D~84&" rfl U W this)
 .
  rw[if_neg (λ h=>Z h.1),if_neg (show¬w.cy.st=0 from λ h=>by cases h),if_neg Z];intro _;rcases I.li with r|r;.exact .inl r
  .
   right;show w.mt+1+w.cy.k=w.L.th.length+1;haveI:w.cy.k=w.L.th.length-w.mt:=by unfold Wd.k;rw[Y,if_neg Bool.false_ne_true];unfold cut;rw[if_neg (show¬w.cy.lim=0 by show¬w.lim=0;rw[r];decide),List.length_drop];rfl
   exact">wYCg1'72d)pHbf#`(E5AYGUPbF$:WI4" [_,_,_,w.L.th.length-w.mt] [] rfl Z this
theorem Rp.news(R:Rp w)(I:WI w){a:Nat}(Y:a<w.L.th.length)(b:Bool):Rp ((w.upd a).news b a):=by
 have U:=I.upd Y;have Z:Rp (w.upd a):=by
  unfold Wd.upd;split;.
   intro h;rcases R h with r|r;.exact .inl r
   .exact .inr (by show max w.up (a+2)=w.L.th.length+1;exact">u4Ok0=nny(:sTmus|}h;$9V!4eZsKUG" rfl Y r)
  .exact R
 unfold Wd.news;split;.exact Z
 .
  unfold Wd.go;split;.exact Rp.cy U
  .
   split;.exact Rp.send (w:=(w.upd a).free a) Z false
   .
    split;.exact Rp.cy U
    .exact Z.send false
theorem Rp.refused(R:Rp w)(p r:Nat)(x:Int):Rp (w.refused p r x):=by
 have Z:Rp (w.told p r x):=by
  unfold Wd.told;split;.
   split;.exact λ h=>(by cases h)
   .exact R
  .
   rename_i h;split;.exact λ Y=>absurd Y h
   .exact R
 unfold Wd.refused;split;.exact Z.send true
 .exact Z
theorem Rp.recv(R:Rp w)(m:lW):Rp (w.recv m):=by
 cases m with
  |aN p k=>
   show Rp (if p<w.sure then _ else(if w.holds p then _ else _));split;.exact R
   .split<;>exact R
  |fT l=>
   show Rp (if w.sure<l then(if w.holds l then _ else _)else _);split;.split<;>exact R
   .exact R
theorem Rp.take(R:Rp w)(i:Nat)(Z:Bool):Rp (w.take i Z):=by
 unfold Wd.take;split;.exact Rp.recv (w:=w.pop i Z) R _
 .exact R
set_option tactic.hygienic true in theorem Rp.read(R:Rp w)(V:Inv J s c w)(i:Nat)(Z:Bool):Rp (w.read i Z):=by
 unfold Wd.read;split;.rename_i m h;haveI:=V.ba m (List.mem_of_getElem? h);haveI Y:=(V.ke.pos V.P).2;cases m with|ok a=>exact Rp.news (w:=w.dW i Z) R V.wi.dW (Nat.lt_of_le_of_lt this Y) _|no p r x=>exact Rp.refused (w:=w.dW i Z) R p r x
 .exact R
theorem Rp.bJ(R:Rp w):Rp w.bJ:=by
 unfold Wd.bJ;split;.exact Rp.send (w:=w.dX) R true
 .exact R
theorem Rp.bM(R:Rp w)(y:Nat):Rp (w.bM y):=by
 unfold Wd.bM;split;.exact λ h=>(nomatch h)
 .
  split;.exact R
  .exact R
theorem Rp.d_(R:Rp w)(V:Inv J s c w)(y:Nat):Rp (w.d_ y):=by
 haveI U:Inv J s c (if w.back=[]then w.store else w):=by split;exact V.store;exact V
 haveI Y:Rp (if w.back=[]then w.store else w):=by split<;>exact R
 unfold Wd.d_;generalize(if w.back=[]then w.store else w)=Z at U Y;show Rp (if Z.back=[]then Z else Z.read (y/3%Z.back.length) (decide (y%3=1)));split;.exact Y
 .exact Y.read U _ _
theorem Rp.takes(R:Rp w)(y:Nat):Rp (w.takes y):=by
 have Y:Rp (if w.ae=[]then w.send true else w):=by split;exact R.send _;exact R
 unfold Wd.takes;generalize(if w.ae=[]then w.send true else w)=Z at Y;show Rp (if Z.ae=[]then Z else(if y/3%5%3=1 then Z.take (y/15%Z.ae.length) (decide (y%3=1))else(Z.take (y/15%Z.ae.length) (decide (y%3=1))).store));split;.exact Y
 .
  split;.exact Y.take _ _
  .exact Y.take _ _
theorem Rp.act(R:Rp w)(V:Inv J s c w)(x:Nat):Rp (w.act x):=by
 unfold Wd.act;split;.exact R.send _
 split;.exact R.bJ
 split;.exact R.bM _
 split;.
  split;.exact R
  .
   split;.exact R
   .unfold Wd.xp;split<;>exact R
 split;.exact R.d_ V _
 .exact R.takes _
end
def Wd.cO(w:Wd):Wd:={w with O:=w.O.store,ae:=[],held:=[],back:=[],no:=0}
def Wd.clean(w:Wd):Wd:=if w.st=2 then{w.cO with st:=0,up:=w.mt+1,pt:=0,fp:=false,fl:=[]}else w.cO
def Wd.zS(w:Wd):Wd:=if w.ae=[]then w else w.gK
def Wd.b6:Nat->Wd->Wd|0,w=>w|n+1,w=>(Wd.b6 n w).zS
def Wd.first(w:Wd):Wd:=Wd.send {w with fp:=false} true
def Wd.xx(w:Wd):Wd:=if w.mt<w.L.th.length then Wd.b6 9 w.first else w
def Wd.aK(w:Wd):Wd:=w.clean.xx
section
variable{J:List Int}{s c:Nat}{w:Wd}
theorem Inv.cO(V:Inv J s c w):Inv J s c w.cO:=by haveI Z:=V.store;exact{Z with wi:=⟨Z.wi.l,Z.wi.ls,Z.wi.o,Z.wi.st,Z.wi.u1,Z.wi.u2,Z.wi.mu,Z.wi.li,Z.wi.z⟩,ml:=λ _ h=>(by cases h),he:=λ _ h=>(by cases h),ba:=λ _ h=>(by cases h),c1:=Nat.zero_le _,c2:=Nat.zero_le _,c3:=V.c3}
theorem Inv.clean(V:Inv J s c w):Inv J s c w.clean:=by
 haveI Z:=V.cO;haveI Y:=V.wi.mu;haveI U:=V.wi.u2;unfold Wd.clean;split;.exact Z.pr (Z:=w.mt) (Y:=w.mt+1) (W:=0) (Q:=0) (G:=false) (U:=[]) (R:=0) (Nat.zero_le _) (by exact"$7jDpn?") (by show w.mt+1<=w.L.th.length+1;exact"&%u3Jz11Tl;eFG$" Y U) (Nat.lt_succ_self _) Z.ma (Nat.zero_le _) λ h=>by exact("E>,,.85" h).elim
 .exact Z
structure Cl(Z w:Wd):Prop where
 c:Calm w
 m:w.ae=[]
 n:w.no=0
 s:w.st<=1
 L:w.L=Z.L
 O:w.O=Z.O.store
 r:w.rows=Z.rows
theorem Bb(Z:w.st<=2):Cl w w.clean:=by
 unfold Wd.clean;split;.exact⟨⟨rfl,rfl,rfl⟩,rfl,rfl,Nat.zero_le _,rfl,rfl,rfl⟩
 .exact⟨⟨rfl,rfl,rfl⟩,rfl,rfl,Ih Z ‹_›,rfl,rfl,rfl⟩
theorem Rp.clean(R:Rp w):Rp w.clean:=by
 unfold Wd.clean;split;.exact λ h=>(nomatch h)
 .exact R
theorem Bc(P:Pair w.L.th J s)(h:cW w.L.th J l)(Z:w.L.th.length<=s+3):min (ki w.L.th (a9 J s l)) (ki l (a9 J s l)+1)<=3:=by
 obtain⟨a,b⟩:=h.pos P;rw[kK a,kK b];rcases h with rfl|⟨n,h1,h2,rfl⟩;.rw[d9];exact Nat.le_trans (Nat.min_le_left ..) (yh (xr (l:=w.L.th) (a:=s-1) (p:=w.L.th.length-1)) Z P.s1)
 .rw[cL P h2,List.length_take,Nat.min_eq_left h2];haveI:=i8 (l:=w.L.th.take n) (a:=n-1) (Nat.le_refl _);exact"FZxcgKV*a^.]jFw7(]=O" rfl this
theorem qo(V:Inv J s c w)(R:Rp w)(C:Calm w)(Q:w.st<=1)(L:w.ae=[])(G:w.no=0)(A:w.mt<w.L.th.length):Lp J s (c+1) w.O.th (ki w.L.th (a9 J s w.O.th)) (ki w.O.th (a9 J s w.O.th)) 9 w.first:=by
 haveI I:=V.wi;haveI O:Inv J s c {w with fp:=false}:=V.pr (Z:=w.mt) (Y:=w.up) (W:=w.st) (Q:=w.pt) (R:=w.no) (G:=false) (U:=w.fl) I.st I.u1 I.u2 I.mu V.ma V.pb V.so;obtain@⟨a,b⟩:=V.th.pos V.P;obtain⟨m,X,g,K⟩:=md O R Q rfl L A;haveI S:=bI (w:={w with fp:=false}) true;haveI D:=O.send true;unfold Wd.first;generalize Wd.send {w with fp:=false} true=Y at X g S D⊢;haveI Z:Y.no=w.no:=S.no;haveI N:Y.L=w.L:=S.L;haveI U:Y.O=w.O:=S.O;haveI M:Y.held=w.held:=S.h;haveI F:Y.back=w.back:=S.b;rw[G]at Z;refine⟨D,⟨M.trans C.h,F.trans C.b,by rw[U];exact C.k⟩,by exact"8]ZfqLLNJ!" Z,by exact"eSd>;;6H2W&" Z,.inr ⟨m,X,g,.inr ⟨?_,by exact"7`pu5YC,k" Z,by exact"~he_towy"⟩⟩⟩;cases m with
  |fT l=>trivial
  |aN p k=>
   haveI W:=K p k rfl;haveI W:p<w.L.th.length:=W;refine⟨by rw[U],.inr ?_⟩;rw[Z,N,kK a,kK b,qn (w:=w) (by rw[U]) (by rw[U]) N p];haveI H:=oF (l:=w.L.th) (a:=a9 J s w.O.th) (show p<=w.L.th.length-1 by exact"Aaaoj8icBnfe=ef7" rfl W);haveI P:w.right p<=w.O.th.length-1:=by
    rcases Nat.eq_zero_or_pos (w.right p)with z|z;.exact"Gl=[3G,Ef%" [_,w.O.th.length,_] [] z
    .haveI:=(right_of (w:=w) (p:=p) rfl z).2.1;exact"Aaaoj8icBnfe=ef7" rfl this
   haveI T:=oF (l:=w.O.th) (a:=a9 J s w.O.th) P;exact"gTcv:^wRo5%[ORGzG$" H T
theorem Lp.b6{W:List Int}{V O n:Nat}(N:min V (O+1)<=3)(X:w.L.th.length<=6)(R:1<=c):∀{j:Nat},Lp J s c W V O (j+n) w->Lp J s c W V O j (Wd.b6 n w)/\(Wd.b6 n w).L=w.L:=by
 induction n with
  |zero=>exact λ Z=>⟨Z,rfl⟩
  |succ n G=>
   intro j Z;obtain⟨U,e⟩:=G (j:=j+1) (by rw[show j+1+n=j+(n+1)by exact"eI`0R9)fxXZ$"];exact Z);show Lp J s c W V O j (Wd.b6 n w).zS/\(Wd.b6 n w).zS.L=w.L;rw[<-e];rw[<-e]at X;generalize Wd.b6 n w=D at U X;unfold Wd.zS;by_cases h:D.ae=[];.
    rw[if_pos h];refine⟨⟨U.V,U.C,U.n1,U.n2,?_⟩,rfl⟩;refine bf λ Q Y=>?_;rcases U.k with k|⟨m,k,_⟩;.refine Y ?_;exact .inl k
    .rw[h]at k;cases k
   .
    rw[if_neg h];refine bf λ Q Y=>?_;rcases U.k with k|⟨m,k,_⟩;.exact absurd k.1 h
    .refine Y ?_;exact U.step N X R k
structure Jx(J:List Int)(s c:Nat)(Z w:Wd):Prop where
 V:Inv J s c w
 C:Calm w
 m:w.ae=[]
 t:w.mt=w.L.th.length
 k:w.O.th=w.L.th
 n1:w.no<=ki Z.L.th (a9 J s Z.O.th)
 n2:w.no<=ki Z.O.th (a9 J s Z.O.th)+1
 L:w.L=Z.L
theorem qp(V:Inv J s c w)(C:Calm w)(t:w.mt=w.L.th.length):w.O.th=w.L.th:=by
 haveI Z:=V.ma;haveI P:=V.P;haveI:=P.sm;haveI:=P.s1;rw[C.k]at Z;rcases V.th with h|⟨n,h1,h2,h⟩;.rw[h,d9]at Z;omega
 .rw[h,cL P h2]at Z;rw[h,show n=w.L.th.length by exact">7;=x;9^w]WQAy.e0DYK,0E`/W]w/L,$" [_,_,_,n-1] [] rfl t Z h1 h2,List.take_length]
theorem me(V:Inv J s c w)(R:Rp w)(L:w.L.th.length<=s+3)(I:w.L.th.length<=6):Jx J s (c+1) w w.aK:=by
 haveI Y:=Bb V.wi.st;haveI U:=V.clean;haveI N:=R.clean;unfold Wd.aK Wd.xx;generalize w.clean=W at Y U N;haveI X:W.O.th=w.O.th:=by rw[Y.O];rfl
 by_cases h:W.mt<W.L.th.length;.rw[if_pos h];haveI Z:=qo U N Y.c Y.s Y.m Y.n h;haveI S:W.first.L=W.L:=(bI (w:={W with fp:=false}) true).L;haveI T:=Bc U.P U.th (by rw[Y.L];exact L);obtain@⟨Q,e⟩:=Lp.b6 (n:=9) (j:=0) T (by rw[S,Y.L];exact I) (by exact"$7jDpn?") Z;generalize Wd.b6 9 W.first=F at Q e;obtain@⟨K,O⟩:=Q.done;haveI D:=Q.n1;haveI G:=Q.n2;rw[X,Y.L]at D;rw[X]at G;exact⟨Q.V,Q.C,K,O,qp Q.V Q.C O,D,G,by rw[e,S,Y.L]⟩
 .
  rw[if_neg h];haveI H:=U.ma;haveI:=(U.ke.pos U.P).2;haveI t:W.mt=W.L.th.length:=by exact"'K^cg3W%yfY([qlbQ" h H this
  exact⟨U.mono (Nat.le_succ _),Y.c,Y.m,t,qp U Y.c t,by rw[Y.n];exact Nat.zero_le _,by rw[Y.n];exact Nat.zero_le _,Y.L⟩
end
theorem m3:(0:Int)<3/\small 3=true:=⟨by decide,by decide⟩
theorem m5:(0:Int)<5/\small 5=true:=⟨by decide,by decide⟩
theorem uI:(0:Int)<10/\small 10=true:=⟨by decide,by decide⟩
theorem J_:(0:Int)<15/\small 15=true:=⟨by decide,by decide⟩
section
variable{e:Ev}{w:Wd}{H:Hd}{J:List Int}{s c:Nat}
theorem Inv.jD{i:Nat}{m:lW}(B:Bd e.d e.t)(Z:Inv J s c w)(Y:c<=800)(U:HW e.d H w)(h:w.ae[i]?=some m){ag:Bool}:(A7 e H w i ag).ok:=Mine.jD B Z.wi U (by have:=Z.c2;exact"w$VM/RC*M%dMdhktcK#" Y this) h (Z.Hj (Z.ml m (List.mem_of_getElem? h)))
theorem Inv.di(B:Bd e.d e.t)(Z:Inv J s c w)(U:c<=800)(Y:HW e.d H w){b:Bool}:(w_ e H w b).ok:=Mine.di B Z.wi Y (by have:=Z.c1;exact"Ijg<[QI!gLEyxa>D" U this)
theorem Inv.d8(Z:Inv J s c w)(U:c<=800)(Y:HW e.d H w):(xd e H w).ok:=Mine.d8 Z.wi Y (by have:=Z.c2;exact"/[KxH(HwPc>8l>y3#%'" U this)
theorem Inv.jE{i:Nat}{m:mD}(B:Bd e.d e.t)(Z:Inv J s c w)(Y:c<=800)(W:HW e.d H w)(h:w.back[i]?=some m){ag:Bool}:(A' e H w i ag).ok:=by refine Mine.jE B Z.wi W (by have:=Z.c1;exact"Ijg<[QI!gLEyxa>D" Y this) h ?_;haveI:=Z.ba m (List.mem_of_getElem? h);haveI U:=(Z.ke.pos Z.P).2;cases m with|ok a=>exact Nat.lt_of_le_of_lt this U|no p r x=>exact this
theorem Inv.l9(B:Bd e.d e.t)(Z:Inv J s c w)(U:c<=800)(Y:HW e.d H w):(Ba e H w).ok:=by refine Mine.l9 B Z.wi Y (by have:=Z.c1;exact"Ijg<[QI!gLEyxa>D" U this) λ h=>?_;exact Nat.lt_of_le_of_lt (Nat.le_trans (Nat.min_le_left ..) (Nat.sub_le_of_le_add Z.ma)) (Nat.lt_of_le_of_lt Z.kt (Z.th.pos Z.P).1)
def zT(e:Ev)(H:Hd)(w:Wd)(x:Nat):Cq:=wC e H w (w.act x) 10 1001 [.int x] (.bool true)
theorem KN{g:G}{v:V}{Z:Wd}{M:MH}(h:∃Y,HW e.d Y Z/\M=e.M Y Z)(k:(g.ea,g.pP)=(g.eb,wQ e (.bool true) Z (.bool true) M)):g.sat:=pk g ⟨rfl,h⟩ k
theorem len0{Z Y:Type}{f:Z->Y}{l:List Z}:(((l.map f).length:Nat):Int)=0↔l=[]:=by rw[List.length_map];exact⟨λ h=>List.length_eq_zero_iff.mp (by exact"Uv/,AwpYfU6>$" h),λ h=>by rw[h];rfl⟩
theorem mf{Z Y:Type}{f:Z->Y}{l:List Z}:(0:Int)<((l.map f).length:Nat)↔l≠[]:=by rw[List.length_map];exact⟨λ h z=>by rw[z,List.length_nil]at h;exact"#kk8!hW!#" h,λ h=>by have:=fC h;exact"xc.#LuAM0/!" this⟩
theorem xy{Z Y:Type}{f:Z->Y}{l:List Z}(h:l≠[])(h2:l.length<=900):(0:Int)<((l.map f).length:Nat)/\small ((l.map f).length:Nat)=true:=⟨mf.mpr h,aB (by exact"7A,x&aJ") (by rw[List.length_map];exact"*Peuc$u[Rjc(8GTY#" h2)⟩
theorem zU(O:Inv J s c w)(Z:HW e.d H w)(g Y U:Nat){W:Wd}(Q:W=w.fM):wQ e (.bool true) W (.bool true) (e.Z {H with gO:=g,jA:=Y,GH:=e.d+w.O.kb,gh:=U} w.fM (jy .none [] (e.d+(w.O.kb:Int)+((ents e.d e.t (w.O.kb+1) (w.O.kept.drop (w.O.kb+1))).length:Nat)+1)) (ui H.Ej aZ (snap aZ (e.d+w.O.kb) (ai w.O.kept w.O.kb+e.t)) (e.d+w.O.kb) (ai w.O.kept w.O.kb+e.t) (ents e.d e.t (w.O.kb+1) (w.O.kept.drop (w.O.kb+1)))) [] (e.bl w)):=by subst Q;haveI V:=O.wi.o.b2;refine⟨rfl,{H with gO:=g,jA:=Y,GH:=e.d+w.O.kb,gh:=U},⟨Z.r,Z.m,Z.u,Z.p⟩,?_⟩;rw[show jy .none [] (e.d+(w.O.kb:Int)+((ents e.d e.t (w.O.kb+1) (w.O.kept.drop (w.O.kb+1))).length:Nat)+1)=jy .none (ents e.d e.t w.O.kept.length (w.O.kept.drop w.O.kept.length)) (e.d+(w.O.kept.length:Nat))by rw[List.drop_eq_nil_of_le (Nat.le_refl w.O.kept.length),aD,List.length_drop,show e.d+(w.O.kb:Int)+((w.O.kept.length-(w.O.kb+1):Nat):Int)+1=e.d+(w.O.kept.length:Nat)by exact"i7B=v7jn/?phiOt_mf;dODYc4f5" rfl V];rfl];rfl
theorem DP(B:Bd e.d e.t)(X:Inv J s c w)(K:c<=800)(Y:HW e.d H w){x:Nat}(T:x<1000000000)(h1:x%10=1):(zT e H w x).ok:=sR λ n=>kq<|by
 have Z:(x:Int)%10=1:=by exact"y}[{KWu]Pvog4,&Wa/_e$UiH'TZkvq~F&e:K,%RKLt;k7" [_,x/10,_] [_,_] ⟨rfl,rfl⟩ ⟨rfl,rfl⟩ h1
 have U:w.act x=(if x/10%4%3=0 then w.fM else if x/10%4=1 then w.turn else w.xp (x/10)):=by unfold Wd.act;rw[if_neg (by exact"1SYh5Uc*Ndh'`?=Pkajn2</5{C&WKD9%wW0VKz)LsOZBycwe`6#" [_,x/10,_] [_,_] ⟨rfl,rfl⟩ ⟨rfl,rfl⟩ Z),if_neg (by exact"PyaAP&2?aCF5jb%4e[s!X]T9C/<d'D)98" [_,x/10,_] [_,_] ⟨rfl,rfl⟩ ⟨rfl,rfl⟩ Z),if_neg (by exact"3ONa%JtnN477JNpPnq[$gt[h%Ip+4(9gd" [_,x/10,_] [_,_] ⟨rfl,rfl⟩ ⟨rfl,rfl⟩ Z),if_pos h1]
 refine au _ uI<|au _ uI<|nq _ (show¬(x:Int)%10=0 by exact"a({RG'eOiD2$" [x] [(↑x:Int)/10,_] Z)<|nq _ (show¬(x:Int)%10=9 by exact"vi#6`}bq>]nN" [x] [(↑x:Int)/10,_] Z)<|nq _ (show¬(x:Int)%10=5 by exact"YHh#^0FJSlv+#" [x] [(↑x:Int)/10,_] Z)<|nq _ (show¬(x:Int)%10=7 by exact"G}3;|odx2FfA%" [x] [(↑x:Int)/10,_] Z)<|yq _ Z<|au _ m4<|au _ m3 ?_;by_cases z:x/10%4%3=0;.rw[if_pos z]at U;haveI R:=λ g=>qb (Y:=100) (J:=100) rfl (.inr rfl) (g:=g) (Z:=H.jT) (X:=H.Ej) (O:=aZ) (Q:=snap aZ (e.d+w.O.kb) (ai w.O.kept w.O.kb+e.t)) (b:=e.d+w.O.kb) (W:=ai w.O.kept w.O.kb+e.t) (U:=ents e.d e.t (w.O.kb+1) (w.O.kept.drop (w.O.kb+1)));refine yq _ (show((x/10:Nat):Int)%4%3=0 from congrArg Int.ofNat z)<|b_ _ λ g=>e_ _ (R g) λ v M h=>?_;obtain@⟨(rfl),@D,(rfl)⟩:=h;exact b_ _ λ L=>pk _ (zU X Y g D L U)
 .
  rw[if_neg z]at U;refine nq _ (show¬((x/10:Nat):Int)%4%3=0 from λ h=>z (Int.ofNat.inj h))<|yq _ Z<|au _ m4 ?_;by_cases Q:x/10%4=1;.rw[if_pos Q]at U;exact yq _ (show((x/10:Nat):Int)%4=1 by exact"xRkjA'jikbQfwfC3>3pU>}Lbc%?'^(K55Omv{&5f{h(" [x,_,x%10,x/10/4,_] [_,_] ⟨rfl,rfl⟩ ⟨rfl,rfl⟩ Q)<|wx _ (.bool true) U H ⟨Y.r,Y.m,Y.u,Y.p⟩ rfl List.map_reverse.symm rfl List.map_reverse.symm
  .
   rw[if_neg Q]at U;haveI I:=X.c1;refine nq _ (show¬((x/10:Nat):Int)%4=1 by exact"Pg{lZ&q|ZO]k$!N*FOXAs[&^ed4kzN7k8!O!z{R`.4ZW#" [x,_,x%10,x/10/4,_] [_,_] ⟨rfl,rfl⟩ ⟨rfl,rfl⟩ Q)<|yq _ Z ?_;by_cases W:w.ae=[];.exact nq _ (show¬(0:Int)<((e.ml w).length:Nat)from λ h=>mf.mp h W)<|wx _ (.bool true) (U.trans (if_pos W)) H Y rfl rfl rfl rfl
   .
    have N:x/10/4%w.ae.length<w.ae.length:=Nat.mod_lt _ (fC W);have V:(x:Int)/10/4%((e.ml w).length:Nat)=((x/10/4%w.ae.length:Nat):Int):=by unfold Ev.ml;rw[List.length_map];rfl
    have O:(e.ml w)[((x:Int)/10/4%((e.ml w).length:Nat)).toNat]?=some (lY e.d e.t w.L.th (w.ae[x/10/4%w.ae.length]'N)):=by rw[V,Int.toNat_natCast];unfold Ev.ml;rw[List.getElem?_map,List.getElem?_eq_getElem N];rfl
    have G:(e.ml w).eraseIdx ((x:Int)/10/4%((e.ml w).length:Nat)).toNat=e.ml (w.pop (x/10/4%w.ae.length) false):=by rw[V,Int.toNat_natCast];exact gJ ..
    exact yq _ (show(0:Int)<((e.ml w).length:Nat)from mf.mpr W)<|au _ m4<|au _ (xy (f:=lY e.d e.t w.L.th) W (by exact"R(X(9([,HF/1J#z+" K I))<|au _ (show 0<=(x:Int)/10/4%((e.ml w).length:Nat)by rw[V];exact"7A,x&aJ")<|cn _ O<|wx _ (.bool true) (U.trans (if_neg W)) H ⟨Y.r,Y.m,Y.u,Y.p⟩ rfl G rfl rfl
end
section
variable{e:Ev}{w:Wd}{H:Hd}{J:List Int}{s c:Nat}{x:Nat}
theorem oJ{Z Y:Type}{f:Z->Y}{l:List Z}{y k:Nat}(X:V):[X,.int ((y:Int)/(k:Nat)%((l.map f).length:Nat)),.bool (decide ((y:Int)%3=1))]=[X,.int ((y/k%l.length:Nat):Int),.bool (decide (y%3=1))]:=by rw[List.length_map,show decide ((y:Int)%3=1)=decide (y%3=1)from decide_eq_decide.mpr (by exact"Z1wmcIWSqA6zP|Zlc?FF7{OB^;5s5i]eE41|)}q+s4<S*k6SmOph<ap8KK5hv1Z.x9" [_,y/3,_] [_,_] ⟨rfl,rfl⟩ ⟨rfl,rfl⟩)];rfl
theorem Wd.zV(y:Nat)(h:w.back=[]):w.d_ y=if w.store.back=[]then w.store else w.store.read (y/3%w.store.back.length) (decide (y%3=1)):=by show(if(if w.back=[]then w.store else w).back=[]then _ else _)=_;rw[if_pos h]
theorem Wd.zW(y:Nat)(h:w.back≠[]):w.d_ y=w.read (y/3%w.back.length) (decide (y%3=1)):=by show(if(if w.back=[]then w.store else w).back=[]then _ else _)=_;rw[if_neg h,if_neg h]
theorem DQ(B:Bd e.d e.t)(Q:Inv J s c w)(W:c<=800)(N:HW e.d H w)(D:x<1000000000)(h1:x%10=3\/x%10=6):(zT e H w x).ok:=sR λ n=>kq<|by
 have Z:¬(x:Int)%10=1:=by exact"N'rP[ngfio:Sqcj]{<uQ+P<htd:`0p9Hc6;]:lZ,9+Qa[~#]uu`" [_,x/10,_] [_,_] ⟨rfl,rfl⟩ ⟨rfl,rfl⟩ h1
 have U:w.act x=w.d_ (x/10):=by unfold Wd.act;rw[if_neg (by exact"3vGo4$FKwtv`%wv3kK5Go0Wu6*'" [x,x/10,_] [] h1),if_neg (by exact"dVyl<C!.(8n]tX<B<C#" [x,x/10,_] [] h1),if_neg (by exact"7[L[cI9C8O]=B6r5az2" [x,x/10,_] [] h1),if_neg (by exact"p9trFoK[M^*a#.^;ldM(Qxa~/YW43Yf`a+as:`LYN_%wZp&" [x,x/10,_] [_,_] ⟨rfl,rfl⟩ ⟨rfl,rfl⟩ Z),if_pos h1]
 have V:=Q.c2;refine au _ uI<|au _ uI<|nq _ (show¬(x:Int)%10=0 by exact"4#vnyVPW8pAA_j%m_lNZ#{v?R)Zj5*RbJ$/FoM}hbijNN(vYw*2$" [_,x/10,_] [_,_] ⟨rfl,rfl⟩ ⟨rfl,rfl⟩ h1)<|nq _ (show¬(x:Int)%10=9 by exact"I8;p:DFtzQ_K3<l2}9w#|O<ZWI!s%MVI0/au.AwjJnsEDDQ~XPp," [_,x/10,_] [_,_] ⟨rfl,rfl⟩ ⟨rfl,rfl⟩ h1)<|nq _ (show¬(x:Int)%10=5 by exact"_?mgHk_ozvm:m)*HhRfh'JVHa|!$jf^>C?7i|)/OBv%UQpp_%1=<" [_,x/10,_] [_,_] ⟨rfl,rfl⟩ ⟨rfl,rfl⟩ h1)<|nq _ (show¬(x:Int)%10=7 by exact"_??mEE5eu~/WH[spAv4G2^S6#x$(>4xw%za;x:HK#e.^RRS{,Nsp" [_,x/10,_] [_,_] ⟨rfl,rfl⟩ ⟨rfl,rfl⟩ h1)<|nq _ Z<|nq _ Z<|nq _ Z<|nq _ Z<|nq _ Z<|J3 _ (show(x:Int)%10=3\/(x:Int)%10=6 by exact"=sP[4OW89EIj;Pz/nT/.,WcwpuI`2.|gL)w64EvT&Wr+_{m6VK4X`nZ~*vjMy4wNU)^a:x3vtRV|nBsR.3M.f<" [_,x/10,_] [_,_] ⟨rfl,rfl⟩ ⟨rfl,rfl⟩ h1) ?_;by_cases z:w.back=[];.
  rw[Wd.zV _ z]at U;refine yq _ (show(((e.bl w).length:Nat):Int)=0 from len0.mpr z)<|cf _ (Q.d8 W N) λ R Y=>?_;have X:=Q.store;have V:=X.c2;by_cases y:w.store.back=[];.exact nq _ (show¬(0:Int)<((e.bl w.store).length:Nat)from λ h=>mf.mp h y)<|wx _ (.bool true) (U.trans (if_pos y)) R Y rfl rfl rfl rfl
  .have O:x/10/3%w.store.back.length<w.store.back.length:=Nat.mod_lt _ (fC y);exact yq _ (show(0:Int)<((e.bl w.store).length:Nat)from mf.mpr y)<|au _ m3<|au _ (xy (f:=g8 e.d e.t) y (by exact"9zwSD6?O?9X.Zn1&xK" W V))<|au _ m3<|ou _ (X.jE B W Y (List.getElem?_eq_getElem O) (ag:=decide (x/10%3=1))) _ (oJ (f:=g8 e.d e.t) (k:=3) (.ref 0 e.X.g0)) λ v M h=>pk _ (show wQ e (.bool true) (w.act x) v M by rw[U,if_neg y];exact h)
 .rw[Wd.zW _ z]at U;have O:x/10/3%w.back.length<w.back.length:=Nat.mod_lt _ (fC z);exact nq _ (show¬(((e.bl w).length:Nat):Int)=0 from λ h=>z (len0.mp h))<|yq _ (show(0:Int)<((e.bl w).length:Nat)from mf.mpr z)<|au _ m3<|au _ (xy (f:=g8 e.d e.t) z (by exact"9zwSD6?O?9X.Zn1&xK" W V))<|au _ m3<|ou _ (Q.jE B W N (List.getElem?_eq_getElem O) (ag:=decide (x/10%3=1))) _ (oJ (f:=g8 e.d e.t) (k:=3) (.ref 0 e.X.g0)) λ v M h=>pk _ (show wQ e (.bool true) (w.act x) v M by rw[U];exact h)
def Wd.xA(w:Wd)(y:Nat):Wd:=if w.ae=[]then w else(if y/3%5%3=1 then w.take (y/15%w.ae.length) (decide (y%3=1))else(w.take (y/15%w.ae.length) (decide (y%3=1))).store)
theorem Wd.zX(y:Nat)(h:w.ae=[]):w.takes y=(w.send true).xA y:=by show(if(if w.ae=[]then w.send true else w).ae=[]then _ else _)=_;rw[if_pos h];rfl
theorem Wd.zY(y:Nat)(h:w.ae≠[]):w.takes y=w.xA y:=by show(if(if w.ae=[]then w.send true else w).ae=[]then _ else _)=_;rw[if_neg h];rfl
theorem DR(B:Bd e.d e.t)(Q:Inv J s c w)(U:c<=798)(F:HW e.d H w)(S:x<1000000000)(I:¬(x%10=0\/x%10=9))(L:¬x%10=5)(K:¬x%10=7)(h1:¬x%10=1)(D:¬(x%10=3\/x%10=6)):(zT e H w x).ok:=sR λ n=>kq<|by
 have W:¬(x:Int)%10=1:=by exact"yEnUEYG/(9,0Vc^j.$}|&8?`8ow_f0dlb+as:`LYN_%wZp&" [_,x/10,_] [_,_] ⟨rfl,rfl⟩ ⟨rfl,rfl⟩ h1
 have Y:w.act x=w.takes (x/10):=by unfold Wd.act;rw[if_neg I,if_neg L,if_neg K,if_neg h1,if_neg D]
 refine au _ uI<|au _ uI<|nq _ (show¬(x:Int)%10=0 by exact"dON(_=5m7/eqn3e'hyK,E$]T;o).XftoMo1k#:!{^2ilJ>)#" [_,x/10,_] [_,_] ⟨rfl,rfl⟩ ⟨rfl,rfl⟩ I)<|nq _ (show¬(x:Int)%10=9 by exact"(:,2EC(2E2a)R=JnRz$SWF5ov&kD6r?&6I}U6vaMW_&!1V>" [_,x/10,_] [_,_] ⟨rfl,rfl⟩ ⟨rfl,rfl⟩ I)<|nq _ (show¬(x:Int)%10=5 by exact"6|M.I%gH/9yqaVPa`#mmv+B}e(6!(A)5?6G3&tBZG2V=$.`r" [_,x/10,_] [_,_] ⟨rfl,rfl⟩ ⟨rfl,rfl⟩ L)<|nq _ (show¬(x:Int)%10=7 by exact"'<=Jjd+mit(2WZ[[%l8<3~!pPav#ZvfmnxR^Iv)KVT#`7+wi)" [_,x/10,_] [_,_] ⟨rfl,rfl⟩ ⟨rfl,rfl⟩ K)<|nq _ W<|nq _ W<|nq _ W<|nq _ W<|nq _ W<|nq _ (show¬(x:Int)%10=3 by exact"b`)dG#rY'9i1;%#}]n$D#Dp,ISU+.O9r&U+Kv>.5Dl{X9QqMPn1wJ" [_,x/10,_] [_,_] ⟨rfl,rfl⟩ ⟨rfl,rfl⟩ D)<|nq _ (show¬(x:Int)%10=6 by exact"a8QDy;QTpkI;k`Y]RV'i(=BVzn:|30$=N6e..wWxO:&iNwwEPsHU7" [_,x/10,_] [_,_] ⟨rfl,rfl⟩ ⟨rfl,rfl⟩ D) ?_;by_cases z:w.ae=[];.
  rw[Wd.zX _ z]at Y;refine yq _ (show(((e.ml w).length:Nat):Int)=0 from len0.mpr z)<|cf _ (Q.di B (by exact"+h~?y!'BhpjG[" U) F (b:=true)) λ P V=>?_;have N:=Q.send true;have X:=N.c1;by_cases y:(w.send true).ae=[];.exact go _ [0]<|nq _ (show¬(0:Int)<((e.ml (w.send true)).length:Nat)from λ h=>mf.mp h y)<|wx _ (.bool true) (Y.trans (if_pos y)) P V rfl rfl rfl rfl
  .
   have O:x/10/15%(w.send true).ae.length<(w.send true).ae.length:=Nat.mod_lt _ (fC y);have G:=N.take (List.getElem?_eq_getElem O) (decide (x/10%3=1));refine go _ [0]<|yq _ (show(0:Int)<((e.ml (w.send true)).length:Nat)from mf.mpr y)<|au _ J_<|au _ (xy (f:=lY e.d e.t (w.send true).L.th) y (by exact"nqX5RiaiQi#yoLK#3'!" U X))<|au _ m3<|ou _ (N.jD B (by exact"Of;I>SDQVY:*(X(" U) V (List.getElem?_eq_getElem O) (ag:=decide (x/10%3=1))) _ (oJ (f:=lY e.d e.t (w.send true).L.th) (k:=15) (.ref 0 e.X.g0)) λ v M h=>?_;obtain⟨rfl,R,Z,rfl⟩:=h;refine go _ [0]<|au _ m3<|au _ m5<|au _ m3 ?_;by_cases q:x/10/3%5%3=1;.exact nn _ (show((x/10/3:Nat):Int)%5%3=1 from congrArg Int.ofNat q)<|wx _ (.bool true) (Y.trans ((if_neg y).trans (if_pos q))) R Z rfl rfl rfl rfl
   .refine yn _ (show¬((x/10/3:Nat):Int)%5%3=1 from λ h=>q (Int.ofNat.inj h))<|da _ (G.d8 (by exact";b7IAEyFeIYt]l>k" U) Z) λ v M h=>?_;obtain⟨rfl,h⟩:=h;exact pk _ (show wQ e (.bool true) (w.act x) (.bool true) M from⟨rfl,by rw[Y.trans ((if_neg y).trans (if_neg q))];exact h⟩)
 .
  rw[Wd.zY _ z]at Y;have X:=Q.c1;have T:¬(((e.ml w).length:Nat):Int)=0:=λ h=>z (len0.mp h);have O:x/10/15%w.ae.length<w.ae.length:=Nat.mod_lt _ (fC z);have G:=Q.take (List.getElem?_eq_getElem O) (decide (x/10%3=1));refine nq _ T<|nq _ T<|yq _ (show(0:Int)<((e.ml w).length:Nat)from mf.mpr z)<|au _ J_<|au _ (xy (f:=lY e.d e.t w.L.th) z (by exact"<[8?9%(}/ES0#>ZO" U X))<|au _ m3<|ou _ (Q.jD B (by exact"+h~?y!'BhpjG[" U) F (List.getElem?_eq_getElem O) (ag:=decide (x/10%3=1))) _ (oJ (f:=lY e.d e.t w.L.th) (k:=15) (.ref 0 e.X.g0)) λ v M h=>?_;obtain@⟨(rfl),@R,Z,(rfl)⟩:=h;refine go _ [0]<|au _ m3<|au _ m5<|au _ m3 ?_;by_cases q:x/10/3%5%3=1;.exact nn _ (show((x/10/3:Nat):Int)%5%3=1 from congrArg Int.ofNat q)<|wx _ (.bool true) (Y.trans ((if_neg z).trans (if_pos q))) R Z rfl rfl rfl rfl
  .refine yn _ (show¬((x/10/3:Nat):Int)%5%3=1 from λ h=>q (Int.ofNat.inj h))<|da _ (G.d8 (by exact"Of;I>SDQVY:*(X(" U) Z) λ v M h=>?_;obtain@⟨(rfl),h⟩:=h;exact pk _ (show wQ e (.bool true) (w.act x) (.bool true) M from⟨rfl,by rw[Y.trans ((if_neg z).trans (if_neg q))];exact h⟩)
theorem Hk(B:Bd e.d e.t)(Y:Inv J s c w)(O:c<=798)(Q:HW e.d H w)(R:x<1000000000):(zT e H w x).ok:=by
 refine bf λ X Z=>?_;by_cases N:x%10=0\/x%10=9;.
  have V:w.act x=w.send (decide (((x/10:Nat):Int)%2=0)):=by unfold Wd.act;rw[if_pos N];exact congrArg _ (decide_eq_decide.mpr (by exact"!4hF7HK6#Qoq+gfE'iU&7p:R_;zlwe?yxn.#S7FH_=SrR_X6Yo1?7O{zRqW?$" [x,_,x%10,x/10/2,_] [_,_] ⟨rfl,rfl⟩ ⟨rfl,rfl⟩))
  refine Z ?_;exact sR λ n=>kq<|au _ uI<|au _ uI<|J3 _ (show(x:Int)%10=0\/(x:Int)%10=9 by exact"G;RaF=ieI`$B?n^3sq*0mhCssW;v&.X?XWd5q1B>y(ILC)Vwc}M'S:Mu;bqRdP+z/aNCydwSTE:" [_,x/10,_] [_,_] ⟨rfl,rfl⟩ ⟨rfl,rfl⟩ N)<|au _ m2<|da _ (Y.di B (by exact"+h~?y!'BhpjG[" O) Q (b:=decide (((x/10:Nat):Int)%2=0))) λ v M h=>pk _ (show wQ e (.bool true) (w.act x) v M by rw[V];exact h)
 .
  by_cases W:x%10=5;.
   haveI V:w.act x=w.bJ:=by unfold Wd.act;rw[if_neg N,if_pos W]
   refine Z ?_;exact sR λ n=>kq<|au _ uI<|au _ uI<|nq _ (show¬(x:Int)%10=0 by exact"L|q)]*Q4wK4kcJXhYR;Z?$Lx>l<:j`p_M" [_,x/10,_] [_,_] ⟨rfl,rfl⟩ ⟨rfl,rfl⟩ W)<|nq _ (show¬(x:Int)%10=9 by exact"`Abq6qP)ZXG?T$&rt^z!Y.7^U{J=q?5;?$" [_,x/10,_] [_,_] ⟨rfl,rfl⟩ ⟨rfl,rfl⟩ W)<|yq _ (show(x:Int)%10=5 by exact"HCx{`C4CZ$f1n#.l0zZ22)~o3RkHhR6/mm3#sQUFDS4gL9x" [_,x/10,_] [_,_] ⟨rfl,rfl⟩ ⟨rfl,rfl⟩ W)<|da _ (Y.l9 B (by exact"+h~?y!'BhpjG[" O) Q) λ v M h=>pk _ (show wQ e (.bool true) (w.act x) v M by rw[V];exact h)
  .
   refine Z ?_;refine bf λ X Z=>?_;by_cases U:x%10=7;.
    haveI V:w.act x=w.bM (x/10):=by unfold Wd.act;rw[if_neg N,if_neg W,if_pos U]
    refine Z ?_;exact sR λ n=>kq<|au _ uI<|au _ uI<|nq _ (show¬(x:Int)%10=0 by exact"QQO7rRY0K&bLXof9lUnmz(BkxErj>~R{F#" [_,x/10,x%10] [_,_] ⟨rfl,rfl⟩ ⟨rfl,rfl⟩ U)<|nq _ (show¬(x:Int)%10=9 by exact"4c(K{O1FP:}X1[,W`xq$jFav_t=tT{Zmy(" [_,x/10,x%10] [_,_] ⟨rfl,rfl⟩ ⟨rfl,rfl⟩ U)<|nq _ (show¬(x:Int)%10=5 by exact"gsSj%&N]LGnc_35k9:7(.vVLrf$'y8Jt43" [_,x/10,x%10] [_,_] ⟨rfl,rfl⟩ ⟨rfl,rfl⟩ U)<|yq _ (show(x:Int)%10=7 by exact"28D]b#;ax]PKmHZk6~OVRevPb[&bgaz66<b,mXzL8gh[(9A*" [_,x/10,x%10] [_,_] ⟨rfl,rfl⟩ ⟨rfl,rfl⟩ U)<|da _ (xm B Y.wi Q (y:=x/10) (by exact"g;F)M?s9h=?5Vo1T4(f>1duIwk;62FR;." [_,x/10,x%10] [] ⟨rfl,rfl⟩ R) Y.co) λ v M h=>by obtain@⟨(rfl),h⟩:=h;exact pk _ (show wQ e (.bool true) (w.act x) (.bool true) M from⟨rfl,by rw[V];exact h⟩)
   .
    by_cases h1:x%10=1;.refine Z ?_;exact DP B Y (by exact"+h~?y!'BhpjG[" O) Q R h1
    .
     by_cases D:x%10=3\/x%10=6;.refine Z ?_;exact DQ B Y (by exact"+h~?y!'BhpjG[" O) Q R D
     .refine Z ?_;exact DR B Y O Q R N W U h1 D
end
section
variable{Z:Nat}{d t:Int}{X:Fx}{w:Wd}{H:Hd}{M:MH}{J:List Int}{s c:Nat}
theorem nr(w:Wd):∀m,∃a,(w.recv m).held=w.held++[a]/\(w.recv m).back=w.back
 |.aN p k=>by
  by_cases h1:p<w.sure;.haveI e:w.recv (.aN p k)={w with held:=w.held++[.ok w.sure]}:=if_pos h1;exact⟨_,by rw[e],by rw[e]⟩
  .
   by_cases h2:w.holds p=true;.haveI e:w.recv (.aN p k)={w with O:=w.O.put p (w.pg p k),sure:=max w.sure (min w.aA (p+k)),held:=w.held++[.ok (p+k)]}:=(if_neg h1).trans (if_pos h2);exact⟨_,by rw[e],by rw[e]⟩
   .haveI e:w.recv (.aN p k)={w with held:=w.held++[.no p (w.right p) (ai w.O.th (w.right p))]}:=(if_neg h1).trans (if_neg h2);exact⟨_,by rw[e],by rw[e]⟩
 |.fT l=>by
  by_cases h1:w.sure<l;.
   by_cases h2:w.holds l=true;.haveI e:w.recv (.fT l)={w with sure:=l,held:=w.held++[.ok l]}:=(if_pos h1).trans (if_pos h2);exact⟨_,by rw[e],by rw[e]⟩
   .haveI e:w.recv (.fT l)={w with O:=w.O.res (w.L.th.take (l+1)) l,sure:=l,held:=w.held++[.ok l]}:=(if_pos h1).trans (if_neg h2);exact⟨_,by rw[e],by rw[e]⟩
  .have e:w.recv (.fT l)={w with held:=w.held++[.ok w.sure]}:=if_neg h1;exact⟨_,by rw[e],by rw[e]⟩
end
section
variable{Y:Nat}{d t:Int}{X:Fx}{w:Wd}{H:Hd}{M:MH}{J:List Int}{s c:Nat}
structure Hl(J:List Int)(s c:Nat)(w:Wd):Prop where
 V:Inv J s c w
 R:Rp w
 C:Calm w
 le:w.st<=1
 m:w.ae=[]
 n:w.no=0
 N3:w.L.th.length<=s+3
 N6:w.L.th.length<=6
theorem Hl.b6(S:Hl J s c w)(V:c<=797)(Q:w.mt<w.L.th.length){k:Nat}(W:k<=9):Inv J s (c+1) (Wd.b6 k w.first):=by haveI Z:=qo S.V S.R S.C S.le S.m S.n Q;haveI e:w.first.L=w.L:=(bI (w:={w with fp:=false}) true).L;haveI U:=Bc S.V.P S.V.th S.N3;rw[show 9=(9-k)+k by exact"LtO![]cicbk$||{{v*nJ" rfl W]at Z;exact(Lp.b6 (n:=k) (j:=9-k) U (by rw[e];exact S.N6) (by exact"$7jDpn?") Z).1.V
theorem Hl.first(S:Hl J s c w)(U:w.mt<w.L.th.length):Inv J s c {w with fp:=false}/\w.first.ae≠[]:=by haveI I:=S.V.wi;have Z:Inv J s c {w with fp:=false}:=S.V.pr (Z:=w.mt) (Y:=w.up) (W:=w.st) (Q:=w.pt) (R:=w.no) (G:=false) (U:=w.fl) I.st I.u1 I.u2 I.mu S.V.ma S.V.pb S.V.so;obtain@⟨@m,W,_⟩:=md Z S.R S.le rfl S.m U;exact⟨Z,by unfold Wd.first;rw[W];simp⟩
theorem rJ{d:Int}(Z:1<=d){a b:Nat}(h:1<=b):mI d a<d+b-1↔a<b:=by
 unfold mI;by_cases h:a=0;.rw[if_pos h];exact Bt Z ‹1<=b› h
 .rw[if_neg h];exact"m=Dq$,OP[B?JE)zy=q+("
end
section
variable{Z:Nat}{d t:Int}{X:Fx}{w:Wd}{H:Hd}{M:MH}{J:List Int}{s c:Nat}
theorem H9:(ao 0 12).length=12:=rfl
end
section
variable{Z:Nat}{d t:Int}{X:Fx}{w:Wd}{H:Hd}{M:MH}{J:List Int}{s c:Nat}
end
section
variable{e:Ev}{w:Wd}{H:Hd}{J:List Int}{s c:Nat}
def Ev.Is(e:Ev)(w:Wd)(M:MH):Prop:=∃H,HW e.d H w/\M=e.M H w
def oL(e:Ev)(w:Wd)(Z Y:V)(u:Loc):Loc:=(112,.ref 0 e.X.g0)::(115,.ref 1 e.X.gp)::(78,.lst (vI w.L.th))::(94,.int (e.d+((vI w.L.th).length:Nat)-1))::(105,Z)::(152,Y)::u
def J'(u:Loc):Prop:=u=[]\/∃v,u=[(14,v)]
def DS(e:Ev)(W U:Wd)(Y O Q:V)(r:List V)(Z:Loc)(M:MH):Prop:=∃(k:Nat)(u:Loc),(Z=oL e W Y O ((153,Q)::u)/\J' u)/\r.length+k=9/\e.Is (Wd.b6 k U) M
def qq(e:Ev)(w:Wd)(Y U:V)(r:List V)(Z:Loc)(M:MH):Prop:=((Z=oL e w Y U []/\r.length=12)/\e.Is w.clean M)\/((∃v u,Z=oL e w Y U ((153,v)::u)/\J' u)/\e.Is w.aK M)
theorem Hm(V:Inv J s c w)(Q:w.ae≠[]):∃(h:0<w.ae.length)(a:mD),Inv J s (c+1) (w.take 0 false).store/\(w.take 0 false).store.back[0]?=some a:=by
 have Y:0<w.ae.length:=fC Q;haveI U:=List.getElem?_eq_getElem Y;haveI:w.take 0 false=(w.pop 0 false).recv (w.ae[0]):=by unfold Wd.take;rw[U]
 obtain@⟨@a,h1,h2⟩:=nr (w.pop 0 false) (w.ae[0]);haveI W:=(V.take U false).store;cases Z:(w.take 0 false).back++(w.take 0 false).held with|nil=>rw[this,h1,h2]at Z;exact absurd (List.append_eq_nil_iff.mp (List.append_eq_nil_iff.mp Z).2).2 (by simp)|cons x y=>exact⟨Y,x,W,by show((w.take 0 false).back++(w.take 0 false).held)[0]?=some x;rw[Z];rfl⟩
theorem xB{k:Nat}{Z:Wd}(h:(Wd.b6 k Z).ae=[]):Wd.b6 (k+1) Z=Wd.b6 k Z:=if_pos h
theorem xC{k:Nat}{Z:Wd}(h:(Wd.b6 k Z).ae≠[]):Wd.b6 (k+1) Z=((Wd.b6 k Z).take 0 false).store.read 0 false:=if_neg h
theorem Jy{d:Int}(Y:1<=d){a b:Nat}(h:1<=b){f:Int->V}{l:List Int}(Z:l.length=b):mI d a<d+((vI l).length:Nat)-1↔a<b:=by rw[show(vI l).length=b by rw[List.length_map,Z]];exact rJ Y h
theorem zZ(B:Bd e.d e.t)(f:Inv J s c w)(R:Rp w)(S:c<=780)(N3:w.L.th.length<=s+3)(N6:w.L.th.length<=6)(hw:HW e.d H w.clean)(n:Nat){U:V}:rS e (.bool true) w.aK (n+9) 1013 10 (oL e w U (.int (min (ki w.L.th (a9 J s w.O.th):Int) (ki w.O.th (a9 J s w.O.th)+1))) []) (e.M H w.clean):=kq<|by
 haveI d1:=B.d1;have F:=me f R N3 N6;have D:=Bb f.wi.st;haveI V1:=f.clean;have x:Hl J s c w.clean:=⟨V1,R.clean,D.c,D.s,D.m,D.n,by rw[D.L];exact N3,by rw[D.L];exact N6⟩;have o:=F.V.wi.l.b1;have A:=F.L;have t:((vI w.L.th).length:Int)=w.L.th.length:=by rw[List.length_map]
 have e1:∀X:Hd,HW e.d X w.aK->X.m=e.d+((vI w.L.th).length:Nat)-1:=λ X Y=>by rw[Y.m,F.t,A,t];unfold mI;rw[if_neg (by rw[<-A];exact"1Zw5*E+I2J" o)]
 generalize l:V.int (min (ki w.L.th (a9 J s w.O.th):Int) (ki w.O.th (a9 J s w.O.th)+1))=Q;refine au _ (show(12:Int)-0<=1000/\small 0=true/\small 12=true from⟨by decide,by decide,by decide⟩)<|kg _ (qq e w U Q) (l:=ao 0 12) (show qq e w U Q (ao 0 12) (oL e w U Q []) (e.M H w.clean)from .inl ⟨⟨rfl,rfl⟩,H,hw,rfl⟩) (λ v r G M h=>?_) λ G M h=>?_;.
  rcases h with⟨⟨rfl,_⟩,O,Z,rfl⟩|⟨⟨v0,u,rfl,I⟩,O,Z,rfl⟩;.
   by_cases L:w.clean.mt<w.clean.L.th.length;.
    haveI C:O.m<e.d+((vI w.L.th).length:Nat)-1:=by rw[Z.m,t];exact(rJ d1 (by rw[<-A];exact"3oh?(FG0$" o)).mpr (by rw[<-D.L];exact L)
    obtain@⟨V2,ne⟩:=x.first L;refine yq _ C<|cf _ (V2.di B (by exact"~o;l<B%uPVqxH" S) (H:=O) ⟨Z.r,Z.m,Z.u,Z.p⟩ (b:=true)) λ d K=>?_;haveI K:HW e.d d w.clean.first:=K;haveI h0:DS e w w.clean.first U Q v (ao 0 9) (oL e w U Q [(153,v)]) (e.M d (Wd.send {w.clean with fp:=false} true)):=⟨0,[],⟨rfl,.inl rfl⟩,rfl,d,K,rfl⟩;refine go _ [0]<|nq _ (show¬(((e.ml w.clean.first).length:Nat):Int)=0 from λ h=>ne (len0.mp h))<|au _ (show(9:Int)-0<=1000/\small 0=true/\small 9=true from⟨by decide,by decide,by decide⟩)<|kg _ (DS e w w.clean.first U Q v) h0 (λ y r' G M h=>?_) λ G M h=>?_;.
     obtain⟨k,u,⟨rfl,I⟩,N,H3,P,rfl⟩:=h;have N:r'.length+(k+1)=9:=by rw[List.length_cons]at N;exact"6EJ48OVP'zbj^W>aD#" N
     have b:=x.b6 (by exact"]H1.RSU6G~t5kR" S) L (k:=k) (by exact"=~*lZ%V!Z)x2P" N);have jn:∀g,e.Is (Wd.b6 (k+1) w.clean.first) g->DS e w w.clean.first U Q v r' (oL e w U Q ((153,v)::[(14,y)])) g:=λ g h=>⟨k+1,_,⟨rfl,.inr ⟨y,rfl⟩⟩,N,h⟩;by_cases W:(Wd.b6 k w.clean.first).ae=[];.have j:=jn (e.M H3 (Wd.b6 k w.clean.first)) ⟨H3,by rw[xB W];exact P,by rw[xB W]⟩;rcases I with rfl|⟨y0,rfl⟩<;>exact nq _ (show¬(0:Int)<((e.ml (Wd.b6 k w.clean.first)).length:Nat)from λ h=>mf.mp h W)<|pk _ j
     .obtain⟨m,a,V4,q⟩:=Hm b W;haveI e0:=List.getElem?_eq_getElem m;have T:=b.jD B (by exact"N;gf0c8adfQ'eF&" S) P e0 (ag:=false);have St:=λ(X:Hd)Y=>(b.take e0 false).d8 (e:=e) (H:=X) (by exact"RN*gz9=x/['xhSsR" S) Y;have Rd:=λ(X:Hd)Y=>V4.jE (e:=e) (H:=X) B (by exact"RN*gz9=x/['xhSsR" S) Y q (ag:=false);have q1:(0:Int)<((e.ml (Wd.b6 k w.clean.first)).length:Nat):=mf.mpr W;have j:=λ(X:Hd)(Y:HW e.d X (((Wd.b6 k w.clean.first).take 0 false).store.read 0 false))=>jn (e.M X (((Wd.b6 k w.clean.first).take 0 false).store.read 0 false)) ⟨X,by rw[xC W];exact Y,by rw[xC W]⟩;rcases I with rfl|⟨y0,rfl⟩<;>exact yq _ q1<|cf _ T λ H4 p=>go _ [0]<|cf _ (St H4 p) λ H5 i=>cf _ (Rd H5 i) λ H6 z=>go _ [0]<|pk _ (j H6 z)
    .
     obtain⟨k,u,⟨rfl,I⟩,N,h3⟩:=h;haveI N:0+k=9:=N;have E:Wd.b6 k w.clean.first=w.aK:=by rw[show k=9 by exact",XJj2z|&T>iG{/" N];exact(if_pos L).symm
     rw[E]at h3;exact pk _ (show qq e w U Q r (oL e w U Q ((153,v)::u)) M from .inr ⟨⟨v,u,rfl,I⟩,h3⟩)
   .have C:¬O.m<e.d+((vI w.L.th).length:Nat)-1:=λ h=>L (by rw[Z.m,t]at h;rw[D.L];exact(rJ d1 (by rw[<-A];exact"3oh?(FG0$" o)).mp h);have E:w.aK=w.clean:=if_neg L;exact nq _ C<|pk _ (show qq e w U Q r (oL e w U Q [(153,v)]) (e.M O w.clean)from .inr ⟨⟨v,[],rfl,.inl rfl⟩,O,by rw[E];exact Z,by rw[E]⟩)
  .
   have C:¬O.m<e.d+((vI w.L.th).length:Nat)-1:=by rw[e1 O Z];exact"5EY3UgbZsau0yW:"
   exact nq _ C<|pk _ (show qq e w U Q r (oL e w U Q ((153,v)::u)) (e.M O w.aK)from .inr ⟨⟨v,u,rfl,I⟩,O,Z,rfl⟩)
 .
  rcases h with⟨⟨_,h⟩,_⟩|⟨⟨v0,u,rfl,I⟩,O,Z,rfl⟩;.exact absurd h (by decide)
  .
   subst l;have q:((w.aK.no:Nat):Int)<=min (ki w.L.th (a9 J s w.O.th):Int) (ki w.O.th (a9 J s w.O.th)+1):=by have n1:=F.n1;have n2:=F.n2;exact"c:+F;x9%u$9CeZ;Lp)ve'M<" rfl n1 n2
   have e3:w.aK.O.kept=w.L.th:=by rw[F.C.k,F.k,A]
   have e4:ew .Eq (.lst (vI w.aK.O.kept)) (.lst (vI w.L.th))=some true:=by show uH _ _=_;rw[i5,decide_eq_true e3]
   exact yq _ (e1 O Z)<|yq _ q<|p8 _ e4<|wx _ (.bool true) rfl O Z rfl rfl rfl rfl
def Ev.gm(e:Ev)(g:Nat):Ev:=⟨e.off,e.d,e.t,{e.X with gm:=g}⟩
def Jz(e:Ev)(w:Wd)(v:V)(M:MH):Prop:=v= .bool true/\∃g,(e.gm g).Is w.aK M
def Ho(e:Ev)(H:Hd)(w:Wd):Cq:=⟨10,false,1013,e.off,[.ref 0 e.X.g0],e.M H w,Jz e w⟩
def uw(e:Ev)(w Y:Wd)(a:Nat)(U:V)(Z:Loc)(M:MH):Prop:=∃g,Z=oL (e.gm g) w (.int a) U []/\(e.gm g).Is Y M
theorem xD(B:Bd e.d e.t)(O:Inv J s c w)(R:Rp w)(F:c<=780)(j:w.L.th.length<=s+3)(K:w.L.th.length<=6)(d:HW e.d H w):(Ho e H w).ok:=Cq.H8 λ n=>by
 haveI P:=sP (Z:=e.off) (O.th.J9 O.P) (by exact"'e1];}00{Ps" K);obtain@⟨C,u⟩:=O.th.pos O.P;haveI A:=qc (Z:=e.off) (a:=w.L.th) (m:=a9 J s w.O.th) (by exact"NDGy8cb!" u) (by exact"'e1];}00{Ps" K);haveI k:=O.wi.o.t1.1;haveI T:=qc (Z:=e.off) (a:=w.O.th) (m:=a9 J s w.O.th) (by exact"NDGy8cb!" C) (by exact",i8z_l]7~c2" k);haveI S:=O.d8 (by exact"~o;l<B%uPVqxH" F) d;haveI Q:∀L,L=w.clean->∀Z V,G.sat (.p (uw e w L (a9 J s w.O.th) (.int (min (ki w.L.th (a9 J s w.O.th):Int) (ki w.O.th (a9 J s w.O.th)+1))) Z V))->rR e.off (n+9) 1013 10 (Ho e H w).fin Z V:=by rintro _ rfl Z V h;obtain⟨g,rfl,y,N,rfl⟩:uw e w w.clean (a9 J s w.O.th) _ Z V:=h.h;exact(zZ (e:=e.gm g) (H:=y) B O R F j K N n).mono λ o Z M q=>by cases o with|ret v=>exact⟨(show wQ (e.gm g) (.bool true) w.aK v M from q.h).1,g,(show wQ (e.gm g) (.bool true) w.aK v M from q.h).2⟩|az=>exact absurd (show wQ (e.gm g) (.bool true) w.aK .none M from q.h).1 (by nofun)|_=>exact q
 by_cases z:w.st=2;.haveI D:{w.cO with st:=0,up:=w.mt+1,pt:=0,fp:=false,fl:=[]}=w.clean:=(if_pos z).symm;refine jB (k:=0) 10 (λ Z V=> .p (uw e w {w.cO with st:=0,up:=w.mt+1,pt:=0,fp:=false,fl:=[]} _ _ Z V)) (Q _ D)<|cf _ S λ U Y=>?_;haveI I:∀W,HW e.d {U with gb:=W,u:=max (U.m+1) (0+1),pe:=0,start:=0,oct:=0} {w.cO with st:=0,up:=w.mt+1,pt:=0,fp:=false,fl:=[]}:=λ W=>⟨RR.nil O.wi.z Y.r.s3 Y.r.rs,Y.m,by show max (U.m+1) (0+1)=e.d+((w.mt+1:Nat):Int)-1\/(w.mt+1=1/\max (U.m+1) (0+1)=1);haveI E:=B.d1;rw[show U.m=mI e.d w.mt from Y.m];unfold mI;exact"i^h`$+r*plQGN4]KCB?&l(b:bDb1j#c:J%3o>dKGw*Q5$d:^9D_X3rI5H0(]oD[|T|eS{`U6QforQ2>IG74n+x)8dSk9mO!^]7J3Z77KI'X{U'" [_] [_,if w.mt=0 then 0 else e.d+↑w.mt-1,max ((if w.mt=0 then 0 else e.d+↑w.mt-1)+1) (0+1)] dj rfl E,rfl⟩;exact b_ _ λ X=>b_ _ λ W=>call _ P<|call _ A<|call _ T<|yq _ (show(w.st:Int)=2 by exact"89c+luPT>d+G1!" z)<|go _ [2]<|yq _ (show(w.st:Int)=2 by exact"89c+luPT>d+G1!" z)<|go _ [2,2]<|pk _ (show uw e w {w.cO with st:=0,up:=w.mt+1,pt:=0,fp:=false,fl:=[]} (a9 J s w.O.th) (.int (min (ki w.L.th (a9 J s w.O.th):Int) (ki w.O.th (a9 J s w.O.th)+1))) (oL (e.gm X) w (.int (a9 J s w.O.th)) (.int (min (ki w.L.th (a9 J s w.O.th):Int) (ki w.O.th (a9 J s w.O.th)+1))) []) ((e.gm X).M {U with gb:=W,u:=max (U.m+1) (0+1),pe:=0,start:=0,oct:=0} {w.cO with st:=0,up:=w.mt+1,pt:=0,fp:=false,fl:=[]})from⟨X,rfl,_,I W,rfl⟩)
 .haveI D:w.cO=w.clean:=(if_neg z).symm;refine jB (k:=0) 10 (λ Z V=> .p (uw e w w.cO _ _ Z V)) (Q _ D)<|cf _ S λ U Y=>?_;exact b_ _ λ X=>b_ _ λ W=>call _ P<|call _ A<|call _ T<|nq _ (show¬(w.st:Int)=2 by exact"Y}zdlmzvr5AZmq*" z)<|pk _ (show uw e w w.cO (a9 J s w.O.th) (.int (min (ki w.L.th (a9 J s w.O.th):Int) (ki w.O.th (a9 J s w.O.th)+1))) (oL (e.gm X) w (.int (a9 J s w.O.th)) (.int (min (ki w.L.th (a9 J s w.O.th):Int) (ki w.O.th (a9 J s w.O.th)+1))) []) ((e.gm X).M {U with gb:=W} w.cO)from⟨X,rfl,{U with gb:=W},⟨Y.r,Y.m,Y.u,Y.p⟩,rfl⟩)
end
/-! a call after which what is known is told anew, in another order -/
def Ka:V:= .obj 465 [(44,.lst []),(45,.lst []),(46,.lst []),(47,.lst []),(48,.bool false)]
section
variable{Z:Bool}{Y J g:Nat}{d t:Int}
def i9:V:= .obj 430 [(33,.int 0),(42,.int 0),(43,.int 0)]
end
def z7(x:Int)(n:Nat):Nat->List Int|0=>[]|k+1=>(x+(n:Int)%3*2)::z7 (x+(n:Int)%3*2) (n/3) k
theorem kM{k:Nat}:∀{x:Int}{n:Nat},(z7 x n k).length=k:=by induction k with|zero=>exact rfl|succ k J=>exact congrArg (·+1) J
def aM(l:List Int):Int:=ai l (l.length-1)
def i_(l:List Int)(J:Int):Int:=if aM l%2=J then aM l else aM l+1
def bQ(Z:List Int)(n c:Nat)(J:Int):List Int:=Z++z7 (i_ Z J) n c
theorem rK{a b:Int}:(ao a b).length=(b-a).toNat:=by unfold ao;rw[List.length_map,List.length_range]
theorem gM{l:List Int}(h:1<=l.length):cY (vI l) (-1)=some (.int (aM l)):=by refine kI ?_;rw[List.length_map,List.getElem?_map,cq (by exact"}2S%Sgbs}WgRCL" rfl h)];rfl
section
variable{J:Nat}
end
def s8(l:List Int)(k:Nat):LG:=⟨l,l.take (k+1),0,0,k+1,false⟩
theorem gP{l:List Int}{k:Nat}:(l.take k).take k=l.take k:=by rw[List.take_take,Nat.min_self]
theorem KO{l:List Int}{k:Nat}(Z:Tm l)(J:k<l.length):LW (s8 l k):=by
 have e:(l.take (k+1)).length=k+1:=by rw[List.length_take];exact"7rtLNn:jp1]Uk0+f%N6v{" rfl J
 exact⟨Z,Z.take,by show 0<l.length;exact"TVd3[/Ig9!" J,by show 0<(l.take (k+1)).length;exact"e#[!q*a4,&(" e,λ h=>(by cases h),λ _=>⟨rfl,Nat.succ_pos k,by show k+1<=(l.take (k+1)).length;exact"30O^zYit'H" e,J,gP.symm,λ _=>e.symm⟩⟩
section
variable{Z:Bool}{Y J:Nat}{d t:Int}
end
section
variable{Z:Bool}{Y J:Nat}{d t:Int}{l:List Int}{k:Nat}
end
section
variable{Z:Bool}{Y J:Nat}{d t:Int}{l:List Int}{k:Nat}
theorem i'{l:List Int}{a:Nat}(h:a<l.length):ai l a∈l:=List.mem_of_getElem? (cq h)
theorem ux{l:List Int}{a:Nat}(U:1<=a)(h:a<l.length):(l.drop 1).take a=(l.drop 1).take (a-1)++[ai l a]:=by
 obtain⟨b,rfl⟩:∃b,a=b+1:=⟨a-1,by exact"0cfS&blYMG6_0C(cYZ" rfl U⟩;haveI e:(l.drop 1)[b]?=some (ai l (b+1)):=by rw[List.getElem?_drop,show 1+b=b+1 by exact"2V153n+Av!"];exact cq h
 rw[Nat.add_sub_cancel,List.take_succ,e];rfl
end
section
variable{U:Bool}{Y Z:Nat}{d t:Int}{N:LN}{G:LG}{J:Nat}
end
section
variable(U g Y n c:Nat)(Z:List Int)(J:Int)
def xE:Ct:=⟨1,false,924,U,[.ref 34 g,.int n,.int c,.int J],[(34,some (g,.list (vI Z)))],.lst (vI (bQ Z n c J)),[(34,some (g,.list (vI Z))),(33,none)]⟩
def oM(x:Int)(W:Nat)(u:Loc):Loc:=(97,.ref 34 g)::(25,.int W)::(30,.int c)::(98,.int J)::(99,.ref 33 Y)::(33,.int x)::u
def rL(r:List V)(W:Loc)(M:MH):Prop:=∃(x:Int)(O:Nat)(acc:List Int)(u:Loc)(Q:List V),(W=oM g Y c J x O u/\(u=[]\/∃v,u=[(14,v)]))/\(M=[(34,some (g,.list (vI Z))),(33,some (Y,.list Q))]/\Q=vI (Z++acc))/\acc++z7 x O r.length=z7 (i_ Z J) n c
def rM(k:Nat):G:=gB k tabs false U (jK.body.drop 3) (oM g Y c J (i_ Z J) n []) [(34,some (g,.list (vI Z))),(33,some (Y,.list (((vI Z).drop 0).take ((vI Z).length-0))))] (oj (xE U g n c Z J))
variable{U g Y n c Z J}
theorem z8(h2:Z.length+c<=20)(k:Nat):(rM U g Y n c Z J k).sat:=by
 have T:((vI Z).drop 0).take ((vI Z).length-0)=vI (Z++[]):=by rw[List.drop_zero,Nat.sub_zero,List.take_length,List.append_nil]
 haveI K:rL g Y n c Z J (ao 0 c) (oM g Y c J (i_ Z J) n []) [(34,some (g,.list (vI Z))),(33,some (Y,.list (((vI Z).drop 0).take ((vI Z).length-0))))]:=⟨_,n,[],[],_,⟨rfl,.inl rfl⟩,⟨rfl,T⟩,by rw[rK];exact congrArg (z7 _ n) (by exact"yj[4U+xm|zBDI.6(#" rfl)⟩;refine au _ (show(c:Int)-0<=1000/\small 0=true/\small c=true from⟨by exact"$*DOh6.0rN%&w?7.8$" h2,by decide,aB (by exact"7A,x&aJ") (by exact"_z]'k.hHs$Hy7Fwd" h2)⟩)<|kg _ (rL g Y n c Z J) K (λ v r N M h=>?_) λ N M h=>?_;.
  obtain⟨x,W,acc,u,X,⟨rfl,D⟩,⟨rfl,O⟩,e⟩:=h;have L:(small ((W:Int)%3)&&small 2)=true:=by rw[aB (by exact"LDFi~U#Ax=s?" ⟨rfl,rfl⟩) (Int.lt_trans (Int.emod_lt_of_pos _ (by decide)) (by decide))];rfl
  haveI R:=congrArg List.length e;rw[List.length_append,kM,kM]at R;have I:X.length<lid:=by rw[O,List.length_map,List.length_append];unfold lid;exact"/G~s>'N,6Vfc?FF(%'M]$" h2 R
  have j:rL g Y n c Z J r (oM g Y c J (x+(W:Int)%3*2) (W/3) [(14,v)]) [(34,some (g,.list (vI Z))),(33,some (Y,.list (X++[.int (x+(W:Int)%3*2)])))]:=⟨_,W/3,acc++[x+(W:Int)%3*2],_,_,⟨rfl,.inr ⟨_,rfl⟩⟩,⟨rfl,by rw[O,<-List.append_assoc];exact(List.map_append (l₁:=Z++acc) (l₂:=[x+(W:Int)%3*2])).symm⟩,by rw[List.append_assoc];exact e⟩;rcases D with rfl|⟨w,rfl⟩<;>exact au _ m3<|au _ L<|au _ m3<|au _ I<|pk _ j
 .
  refine bf λ G Q=>?_;obtain⟨x,W,acc,u,X,⟨rfl,D⟩,⟨rfl,O⟩,e⟩:=h;haveI e:acc=z7 (i_ Z J) n c:=by rw[<-e];exact(List.append_nil _).symm
  refine Q ?_;exact bk _ (show V.lst X= .lst (vI (bQ Z n c J))by rw[O,e];rfl)
theorem s9(h1:1<=Z.length)(h2:Z.length+c<=20):(xE U g n c Z J).ok:=Ct.of λ k=>b_ _ λ Y=>by
 haveI L:=z8 (U:=U) (g:=g) (Y:=Y) (n:=n) (J:=J) h2 k;by_cases z:aM Z%2=J;.haveI e:i_ Z J=aM Z:=if_pos z;unfold rM at L;rw[e]at L;exact cn _ (gM h1)<|au _ m2<|nn _ z<|qz _ L
 .haveI e:i_ Z J=aM Z+1:=if_neg z;unfold rM at L;rw[e]at L;exact cn _ (gM h1)<|au _ m2<|yn _ z<|qz _ L
end
section
variable{J:Nat}
theorem z9:Ct.ok ⟨1,false,329,J,[.lst []],[],.lst [],[(32,none)]⟩:=Ct.of λ n=>b_ _ λ g=>kg _ (λ r Z m=>r=[]/\Z=[(31,.lst []),(13,.ref 32 g)]/\m=[(32,some (g,.list []))]) ⟨rfl,rfl,rfl⟩ (λ _ _ _ _ h=>nomatch h.1) λ Z m h=>by obtain⟨_,rfl,rfl⟩:=h;exact fin _
def xF(g:Nat)(r:List V)(Z:Loc)(m:MH):Prop:=(r=[.int 1,.int 2]/\Z=[(31,.lst [.int 1,.int 2]),(13,.ref 32 g)]/\m=[(32,some (g,.list []))])\/(r=[.int 2]/\Z=[(31,.lst [.int 1,.int 2]),(13,.ref 32 g),(32,.int 1)]/\m=[(32,some (g,.list [.int 1]))])\/(r=[]/\Z=[(31,.lst [.int 1,.int 2]),(13,.ref 32 g),(32,.int 2)]/\m=[(32,some (g,.list [.int 1,.int 2]))])
theorem z_:Ct.ok ⟨1,false,329,J,[.lst [.int 1,.int 2]],[],.lst [.int 1,.int 2],[(32,none)]⟩:=Ct.of λ n=>b_ _ λ g=>kg _ (xF g) (.inl ⟨rfl,rfl,rfl⟩) (λ v r Z m h=>by
 rcases h with⟨h,rfl,rfl⟩|⟨h,rfl,rfl⟩|⟨h,_⟩;.cases h;exact go _ [1,1]<|au _ (show([]:List V).length<lid by decide)<|pk _ (show xF g [.int 2] [(31,.lst [.int 1,.int 2]),(13,.ref 32 g),(32,.int 1)] [(32,some (g,.list [.int 1]))]from .inr (.inl ⟨rfl,rfl,rfl⟩))
 .cases h;exact go _ [0]<|cn _ (show cY [.int 1] (-1)=some (.int 1)from rfl)<|go _ [1]<|au _ (show([.int 1]:List V).length<lid by decide)<|pk _ (show xF g [] [(31,.lst [.int 1,.int 2]),(13,.ref 32 g),(32,.int 2)] [(32,some (g,.list [.int 1,.int 2]))]from .inr (.inr ⟨rfl,rfl,rfl⟩))
 .cases h) λ Z m h=>by
 rcases h with⟨h,_⟩|⟨h,_⟩|⟨_,rfl,rfl⟩;.cases h
 .cases h
 .exact fin _
end
/-! law_newer -/
section
variable{c:Lc}{J:Nat}
theorem jW(U:J=0\/J=100)(W:LW c.L){Y Z:Int}{b:Bool}(h:(ai c.L.th (c.L.th.length-1)+c.t<Z\/(Z=ai c.L.th (c.L.th.length-1)+c.t/\c.d+c.L.th.length-1<=Y))↔b=true):(fA c J 5 763 [.int Y,.int Z] (.bool b)).ok:=by have T:=Dv U W (U:=Y) (Y:=Z);rw[show(decide (ai c.L.th (c.L.th.length-1)+c.t<Z)||(decide (Z=ai c.L.th (c.L.th.length-1)+c.t)&&decide (c.d+c.L.th.length-1<=Y)))=b by rw[Bool.eq_iff_iff,<-h,Bool.or_eq_true,Bool.and_eq_true,decide_eq_true_iff,decide_eq_true_iff,decide_eq_true_iff]]at T;exact T
def Hq(a b:Int):List V:=[.tup [.int a,.int b,.bool true],.tup [.int (a-1),.int b,.bool false],.tup [.int (a+1048576),.int (b-1),.bool false],.tup [.int 1,.int (b+1),.bool true]]
def Hr(c:Lc)(J:Nat)(a b:Int)(r acc:List V)(m:MH):Prop:=m=c.M J/\∃k,k<=4/\r=(Hq a b).drop k/\acc=List.replicate k (.bool true)
theorem Aa(Z:J=0\/J=100)(W:LW c.L){U Y:Int}(O:U=c.d+c.L.th.length-1)(V:Y=ai c.L.th (c.L.th.length-1)+c.t):(fA c J 6 944 [.int U,.int Y] (.bool true)).ok:=by
 have R:=jW Z W (Y:=U) (Z:=Y) (b:=true) ⟨λ _=>rfl,λ _=> .inr (by exact"wklDgpCh7kf2Uf2+<25&8R8n6T+S7D29ekqK82" O V)⟩;have N:=jW Z W (Y:=U-1) (Z:=Y) (b:=false) ⟨λ h=>absurd h (by exact"7`d]5;}2Ce8YLgR$w)ULGWS4d*XYzvZ7+7B*'IEAbOq%'" O V),λ h=>nomatch h⟩;have G:=jW Z W (Y:=U+1048576) (Z:=Y-1) (b:=false) ⟨λ h=>absurd h (by exact"!g$7dwj[z2SBOe%eXrQk%Ly(j70~u~ohi:DM[9,Hl<" V),λ h=>nomatch h⟩;have D:=jW Z W (Y:=1) (Z:=Y+1) (b:=true) ⟨λ _=>rfl,λ _=> .inl (by exact"L_'Oj(;1h&.g4vQ($" V)⟩;have j:∀k,k<=4->Hr c J U Y ((Hq U Y).drop k) (List.replicate k (.bool true)) (c.M J):=λ k Q=>⟨rfl,k,Q,rfl,rfl⟩;refine Ct.of λ n=>wD _ (Hr c J U Y) (j 0 (by decide)) (λ v r acc m h=>?_) (λ acc m h=>?_) (by rcases Z with rfl|rfl<;>kernel_rfl);.obtain⟨rfl,k,Q,e,rfl⟩:=h;match k,Q,e with|0,_,e=>cases e;rcases Z with rfl|rfl<;>exact go _ [1]<|call _ R<|pk _ (j 1 (by decide))|1,_,e=>cases e;rcases Z with rfl|rfl<;>exact go _ [1]<|call _ N<|pk _ (j 2 (by decide))|2,_,e=>cases e;rcases Z with rfl|rfl<;>exact go _ [1]<|call _ G<|pk _ (j 3 (by decide))|3,_,e=>cases e;rcases Z with rfl|rfl<;>exact go _ [1]<|call _ D<|pk _ (j 4 (by decide))|4,_,e=>cases e
 .obtain⟨rfl,k,Q,e,rfl⟩:=h;match k,Q,e with|4,_,_=>exact⟨by decide,by rcases Z with rfl|rfl<;>exact p8 _ (show(boolsOf (List.replicate 4 (.bool true))).map (λ X=>X.all id)=some true from rfl)<|fin _⟩|0,_,e=>cases e|1,_,e=>cases e|2,_,e=>cases e|3,_,e=>cases e
end
section
variable(D J g Y Z k n:Nat)(d t W:Int)(X O Q:V)(l U I:List Int)
def H_(d t:Int)(J:Nat)(N:LN)(G:LG)(V:Nat):MH:=[(50,none),(52,none),(32,none),(6+J,some (N.gS,ui N.hv N.cv (snap N.cv (d+G.kb) (ai G.kept G.kb+t)) (d+G.kb) (ai G.kept G.kb+t) (ents d t (G.kb+1) (G.kept.drop (G.kb+1))))),(53,none),(51,none),(4+J,some (N.g,cLog J N.gS N.gU (d+V) N.ap)),(5+J,some (N.gU,jy (cond G.sn (snap N.cv (d+G.base) (ai G.th G.base+t)) .none) (ents d t G.o (G.th.drop G.o)) (d+G.o)))]
def DT(d t:Int)(J:Nat)(l:List Int)(k:Nat)(v:V)(M:MH):Prop:=∃g Y Z,v= .ref (4+J) g/\M=H_ d t J ⟨g,Y,Z,i9,aZ,d⟩ (s8 l k) 0
def ku(d:Int)(g Y Z:Nat):LN:=⟨g,Y,Z,i9,aZ,d⟩
def Be:Cq:=⟨4,false,929,J,[.lst (vI l),.int d,.int t,.int k],[],DT d t J l k⟩
def Hs:Ct:=⟨2,false,581,D,[.ref (6+J) g,.lst (ents d t 1 U)],stM J g X O Q d W [],.none,stM J g X O Q d W (ents d t 1 U)⟩
def mh(d t:Int)(l:List Int)(r acc:List V)(m:MH):Prop:=∃a:Nat,r=ao a l.length/\(1<=a/\a<=l.length)/\acc=ents d t 1 ((l.drop 1).take (a-1))/\((a=1/\m=[])\/m=[(50,none)])
variable{D J g Y Z k n d t W X O Q l U I}
theorem Ab(V:J=0\/J=100)(N:Tm U):(Hs D J g d t W X O Q U).ok:=by
 by_cases h:U=[];.subst h;rcases V with rfl|rfl<;>exact Ct.of λ n=>yq _ (rfl:(((ents d t 1 []).length:Nat):Int)=0)<|fin _
 .haveI T:=ng (X:=D) (g:=g) (d:=d) (t:=t) (W:=X) (U:=O) (O:=Q) (Q:=W) V (Z:=0) (V:=1) (l:=[]) (Y:=U) ⟨by decide,λ _ h=>(by cases h)⟩ N (Nat.le_refl _) (Nat.le_refl _) h;unfold DA at T;rw[show d+((0:Nat):Int)=d from Int.add_zero d]at T;exact T
def nu(J:Nat)(d t:Int)(g Y Z:Nat)(L:LG):Lc:=⟨J,d,t,ku d g Y Z,L,0⟩
theorem xG(N:J=0\/J=100)(R:Tm l)(G:k<l.length):(rB (nu J d t g Y Z (s8 (l.take (k+1)) k)) (nu J d t g Y Z (s8 l k)) J 3 777 [.lst (ents d t (k+1) (l.drop (k+1)))] (.int (d+l.length-1))).ok:=by
 haveI e:(l.take (k+1)).length=k+1:=by rw[List.length_take];exact"7rtLNn:jp1]Uk0+f%N6v{" rfl G
 haveI V:LW (s8 (l.take (k+1)) k):=KO R.take (by exact"y8s(.PS{," e);by_cases h:l.drop (k+1)=[];.
  have h2:l.length=k+1:=by have:=congrArg List.length h;rw[List.length_drop]at this;have:l.length-(k+1)=0:=this;exact"k0Rpk~8()b8jX]j(5~5O/|G+" [_,_,l.length-(k+1)] [] rfl G this
  have K:l.take (k+1)=l:=by rw[<-h2,List.take_length]
  rw[h];rw[K]at V⊢;haveI L:=kn (c:=nu J d t g Y Z (s8 l k)) N V;haveI q:(((ents d t (k+1) []).length:Nat):Int)=0:=rfl;rcases N with rfl|rfl<;>exact Ct.of λ n=>yq _ q<|call _ L<|fin _
 .
  haveI H:LG.app (s8 (l.take (k+1)) k) (k+1) (l.drop (k+1))=s8 l k:=by show(⟨(l.take (k+1)).take (k+1)++l.drop (k+1),(l.take (k+1)).take (k+1),0,0,min (k+1) (k+1),false⟩:LG)=_;rw[gP,List.take_append_drop,Nat.min_self];rfl
  haveI T:=qa (c:=nu J d t g Y Z (s8 (l.take (k+1)) k)) N V (p:=k+1) (l:=l.drop (k+1)) (Nat.succ_pos k) (by show k+1<=(l.take (k+1)).length;exact"30O^zYit'H" e) (Nat.succ_pos k) (by show Tm ((l.take (k+1)).take (k+1)++l.drop (k+1));rw[gP,List.take_append_drop];exact R) R.drop h;unfold Lc.wl at T;rw[show LG.app (nu J d t g Y Z (s8 (l.take (k+1)) k)).L (k+1) (l.drop (k+1))=s8 l k from H]at T;exact T
theorem Ht(V:k<l.length):(nu J d t g Y Z (s8 (l.take (k+1)) k)).M J=[(4+J,some (g,cLog J Z Y d d)),(5+J,some (Y,jy .none [] (d+((ents d t 1 ((l.drop 1).take k)).length:Nat)+1))),(6+J,some (Z,ui i9 aZ (snap aZ d (ai l 0+t)) d (ai l 0+t) (ents d t 1 ((l.drop 1).take k))))]:=by haveI R:(l.take (k+1)).drop (k+1)=[]:=List.drop_eq_nil_of_le (by rw[List.length_take];exact":9E]DAutTP.8<Q9%" rfl);haveI N:((l.take (k+1)).take (k+1))=l.take (k+1):=gP;show([(4+J,some (g,cLog J Z Y (d+((0:Nat):Int)) d)),(5+J,some (Y,jy .none (ents d t (k+1) ((l.take (k+1)).drop (k+1))) (d+((k+1:Nat):Int)))),(6+J,some (Z,ui i9 aZ (snap aZ (d+((0:Nat):Int)) (ai ((l.take (k+1)).take (k+1)) 0+t)) (d+((0:Nat):Int)) (ai ((l.take (k+1)).take (k+1)) 0+t) (ents d t 1 (((l.take (k+1)).take (k+1)).drop 1))))]:MH)=_;rw[R,N,show d+((0:Nat):Int)=d from Int.add_zero d,show(l.take (k+1)).drop 1=(l.drop 1).take k by rw[List.drop_take,Nat.add_sub_cancel],aD,List.length_take,List.length_drop,Nat.min_eq_left (show k<=l.length-1 by exact"Aaaoj8icBnfe=ef7" rfl V),show ai (l.take (k+1)) 0=ai l 0 from de (Nat.succ_pos k),show d+((k+1:Nat):Int)=d+(k:Int)+1 by exact"21aT<g~Je_*LG;+"];rfl
theorem Bf(B:Bd d t)(F:J=0\/J=100)(P:Tm l)(h2:2<=l.length)(L:k<l.length):(Be J k d t l).ok:=Cq.of λ n=>by
 haveI E:(vI l).length=l.length:=List.length_map ..;have K:=P.1;haveI o:=B.d1;haveI O:(((vI l).length:Nat):Int)-1<=1000/\small 1=true/\small ((vI l).length:Nat)=true:=⟨by rw[E];exact"F9YJ^rD#+T*4*PE" K,by decide,aB (by exact"7A,x&aJ") (by rw[E];exact"'Zo*QS?=A%Or`F" K)⟩;refine au _ O<|wD _ (mh d t l) (show mh d t l (ao 1 ((vI l).length:Nat)) [] []from⟨1,by rw[E];rfl,⟨Nat.le_refl _,by exact"3oh?(FG0$" L⟩,rfl,.inl ⟨rfl,rfl⟩⟩) (λ v r acc m h=>?_) (λ acc m h=>?_);.
  obtain⟨a,e,⟨H,w⟩,rfl,A⟩:=h;obtain⟨N,rfl,rfl⟩:=cz e;haveI q:=P.2 _ (i' N);have j:mh d t l (ao (a+1:Nat) l.length) (ents d t 1 ((l.drop 1).take (a-1))++[ent d t a (ai l a)]) [(50,none)]:=by refine⟨a+1,rfl,⟨by exact"$7jDpn?",N⟩,?_,.inr rfl⟩;rw[Nat.add_sub_cancel,ux H N,dQ,List.length_take,List.length_drop,Nat.min_eq_left (by exact"*wK4zA/zQwxBSZ;A|lPR#s,w'c" rfl rfl N),show 1+(a-1)=a by exact"R2DJKDBqof21M!tbYZ" rfl H];rfl
  haveI u:=kh (a:=l) (i:=(a:Int)) (k:=a) rfl N;have b:0<=ai l a/\ai l a<256:=⟨by exact"itHR1l3S.H1yBsP8!" q,q.2⟩;rcases A with⟨_,rfl⟩|rfl<;>exact go _ [1]<|cn _ u<|cn _ u<|au _ b<|b_ _ λ g=>go _ [2]<|pk _ j
 .
  obtain⟨a,e,⟨H,w⟩,rfl,A⟩:=h;obtain rfl:=fy e w;obtain rfl:m=[(50,none)]:=by
   rcases A with⟨h,_⟩|h;.exact("bTGMw[muu$" h2 h).elim
   .exact h
  rw[show(l.drop 1).take (l.length-1)=l.drop 1 from List.take_of_length_le (by rw[List.length_drop];exact Nat.le_refl _)];have S:(ents d t 1 (l.drop 1)).length=l.length-1:=by rw[aD,List.length_drop]
  refine⟨by rw[S];unfold lid;exact"K0_uK2,mL?'0qZ`v+~$" rfl K,?_⟩;haveI C:((ents d t 1 (l.drop 1)).drop 0).take (av (ents d t 1 (l.drop 1)).length k-0)=ents d t 1 ((l.drop 1).take k):=by
   haveI:=jv (l:=ents d t 1 (l.drop 1)) (i:=0) (j:=k) (a:=0) (b:=k) rfl rfl (by exact"0cmFk*") (by rw[S];exact"Aaaoj8icBnfe=ef7" rfl L);haveI f:av (ents d t 1 (l.drop 1)).length 0=0:=by unfold av;rw[if_neg (by exact"BL8JbFt!")];exact Nat.zero_min _
   rw[f]at this;rw[this,List.drop_zero,Nat.sub_zero,dD]
  haveI z:((ents d t 1 (l.drop 1)).drop (av (ents d t 1 (l.drop 1)).length k)).take ((ents d t 1 (l.drop 1)).length-av (ents d t 1 (l.drop 1)).length k)=ents d t (k+1) (l.drop (k+1)):=by rw[ox (a:=k) rfl (by rw[S];exact"Aaaoj8icBnfe=ef7" rfl L),dA,List.drop_drop,show 1+k=k+1 by exact"2V153n+Av!"]
  haveI G:=z9 (J:=J);haveI c:=z_ (J:=J);haveI s:=λ Z=>Ab (D:=J) (J:=J) (g:=Z) (d:=d) (t:=t) (W:=ai l 0+t) (X:=i9) (O:=aZ) (Q:=snap aZ d (ai l 0+t)) F (P.drop (k:=1)).take (U:=(l.drop 1).take k);haveI U:=λ Z=>congrArg (λ x=>[V.ref (6+J) Z,.lst x]) C;haveI R:=λ g Z=>qb (Y:=J) (J:=J) rfl F (g:=g) (Z:=Z) (X:=i9) (O:=aZ) (Q:=snap aZ d (ai l 0+t)) (b:=d) (W:=ai l 0+t) (U:=ents d t 1 ((l.drop 1).take k));haveI T:=λ g Y Z=>xG (J:=J) (d:=d) (t:=t) (g:=g) (Y:=Y) (Z:=Z) F P L;haveI W:=λ g=>congrArg (λ x=>[V.ref (4+J) g,.lst x]) z;haveI Q:=kh (a:=l) (i:=0) (k:=0) rfl (by exact"H4khTe<Q!" H);unfold rB at T;simp only[Ht L]at T;haveI i:∀g Y Z,DT d t J l k (.ref (4+J) g) (H_ d t J ⟨g,Y,Z,i9,aZ,d⟩ (s8 l k) 0):=λ g Y Z=>⟨g,Y,Z,rfl,rfl⟩;haveI y:¬d<=0:=by exact"hAsX:g[6n&K" o
  haveI p:¬d<0:=by exact"rvrPe#Gf]OeM#!" y
  rcases F with rfl|rfl<;>exact b_ _ λ I=>go _ [2]<|call _ G<|call _ G<|call _ G<|call _ G<|b_ _ λ Z=>go _ [2,0]<|b_ _ λ g2=>go _ [2]<|b_ _ λ D=>go _ [2]<|cn _ Q<|b_ _ λ X=>go _ [2]<|call _ c<|call _ G<|call _ G<|call _ G<|b_ _ λ g5=>go _ [2,2]<|nq _ y<|nq _ p<|hZ _ (s Z) _ (U Z)<|b_ _ λ g=>e_ _ (R g Z) λ v M h=>by obtain@⟨(rfl),@Y,(rfl)⟩:=h;exact hZ _ (T g Y Z) _ (W g)<|pk _ (i g Y Z)
end
/-! the drawn logs -/
def shr(x:Nat):Nat->List Int|0=>[1]|i+1=>shr x i++[aM (shr x i)+(((x/27/2^i+1)%2:Nat):Int)]
theorem xH{l:List Int}{y:Int}:aM (l++[y])=y:=by unfold aM ai;rw[List.length_append,List.getD_eq_getElem?_getD,show l.length+[y].length-1=l.length from Nat.add_sub_cancel ..,List.getElem?_append_right (Nat.le_refl _),Nat.sub_self];rfl
theorem DU{x y:Int}{n k:Nat}(J:x+(n:Int)%3*2<=y)(Y:y<=x+(n:Int)%3*2+4*k)(Z:y%2=(x+(n:Int)%3*2)%2):x<=y/\y<=x+4*(k+1:Nat)/\y%2=x%2:=⟨ye J,yf Y,yg Z⟩
theorem xI{k:Nat}:∀{x:Int}{n:Nat},(z7 x n k).Pairwise (·<=·)/\∀y,y∈z7 x n k->x<=y/\y<=x+4*k/\y%2=x%2:=by
 induction k with
  |zero=>exact λ{x n}=>⟨.nil,λ _ h=>(by cases h)⟩
  |succ k Y=>
   intro x n;obtain@⟨a,b⟩:=Y (x:=x+(n:Int)%3*2) (n:=n/3);refine⟨.cons (λ y h=>(b y h).1) a,λ y h=>?_⟩;rcases List.mem_cons.mp h with rfl|h;.exact"e^JwFG~'o$HcU+wW70fU!OqZGk+QMTnuo3d^MR/MQ[Vv5BPEgIUYxAZ}s~ukH<+;5HN~Ur*9;eHKM.E" [_,_] [_,_,_,(x+↑n%3*2)/2,_,x/2,_] ⟨rfl,rfl⟩ ⟨rfl,rfl⟩ ⟨rfl,rfl⟩
   .obtain@⟨J,U,Z⟩:=b y h;exact DU J U Z
theorem jF{x i:Nat}:(shr x i).length=i+1/\(shr x i).Pairwise (·<=·)/\(∀y,y∈shr x i->1<=y/\y<=aM (shr x i))/\aM (shr x i)<=i+1:=by
 induction i with
  |zero=>
   refine⟨rfl,.cons (λ _ h=>(nomatch h)) .nil,?_,by show(1:Int)<=0+1;exact"U5M<3Ul$"⟩;intro y h;rcases List.mem_cons.mp h with rfl|h;.exact⟨Int.le_refl _,Int.le_refl _⟩
   .cases h
  |succ i V=>
   obtain@⟨a,b,c,e⟩:=V;haveI U:aM (shr x (i+1))=aM (shr x i)+(((x/27/2^i+1)%2:Nat):Int):=xH;haveI Q:1<=aM (shr x i):=(c _ (i' (by exact"]9)Rr4FXF={Lmd2xLO(" rfl a))).1;generalize Y:(x/27/2^i+1)%2=z at U;haveI W:z<2:=by rw[<-Y];exact Nat.mod_lt _ (by exact"t##EMt!")
   have Z:shr x (i+1)=shr x i++[aM (shr x i)+(z:Int)]:=by rw[<-Y];rfl
   rw[U];refine⟨by rw[Z,List.length_append,a];rfl,?_,λ y h=>?_,by exact"ck?DP#8]kze>2'oL[pC|3" e W⟩;.
    rw[Z];refine List.pairwise_append.mpr ⟨b,.cons (λ _ h=>(nomatch h)) .nil,λ y h O J=>?_⟩;rcases List.mem_cons.mp J with rfl|J;.haveI:=(c y h).2;exact"7:{H?''=|~g7S" this
    .cases J
   .
    rw[Z]at h;rcases List.mem_append.mp h with h|h;.haveI:=c y h;exact"vON}.:&kp)YIt[m&X#aZ?i+" this
    .
     rcases List.mem_cons.mp h with rfl|h;.exact"v(El<nK&<ylSEIcdyo{W+)" Q
     .cases h
theorem qr{a b:List Int}{i:Nat}(h:i<a.length):ai (a++b) i=ai a i:=by unfold ai;rw[List.getD_eq_getElem?_getD,List.getD_eq_getElem?_getD,List.getElem?_append_left h]
theorem uy{a b:List Int}{i:Nat}(h:a.length<=i):ai (a++b) i=ai b (i-a.length):=by unfold ai;rw[List.getD_eq_getElem?_getD,List.getD_eq_getElem?_getD,List.getElem?_append_right h]
theorem s_{l:List Int}(h:l.Pairwise (·<=·))(i j:Nat)(a:i<=j)(b:j<l.length):ai l i<=ai l j:=by
 rcases Nat.lt_or_ge i j with c|c;.
  haveI:=List.pairwise_iff_getElem.mp h i j (by exact"(aM>T0N{IN#!" b c) b c;haveI Z:ai l i=l[i]:=by unfold ai;rw[List.getD_eq_getElem?_getD,List.getElem?_eq_getElem (by exact"(aM>T0N{IN#!" b c)];rfl
  haveI J:ai l j=l[j]:=by unfold ai;rw[List.getD_eq_getElem?_getD,List.getElem?_eq_getElem b];rfl
  rw[Z,J];exact this
 .rw[show i=j by exact".pWY[fEv>{g!" a c];exact Int.le_refl _
section
variable{x n c i:Nat}{J:Int}
theorem tc(Z:J=0\/J=1){l:List Int}:aM l<=i_ l J/\i_ l J<=aM l+1/\i_ l J%2=J:=by unfold i_;exact"[vP(LK5Dp!;{g#/5&teiiSAxG8IAu#S(hgy<jQ?*0}spaZ%_jd^Q[E,>88i|?c3HR`(k>?jk^ncg9rq`M3!FzLeIT#5t[KI},SM50,bv+V6Cq$`xAE{c.#4$(=J'#X|VNtEq{p.2[WmJ;tSXeVLUZ#Ig^jqk{eJKiVLgjKa9{C%F%*VfT~Sdt^m<?_nb2}~UXGZm*M{ruFIk3dEpn1F`}39.(J9:g(5G&" [] [_,aM l/2,_,_,_,(if aM l%2=J then aM l else aM l+1)/2,_] ⟨rfl,rfl⟩ dj ⟨rfl,rfl⟩ Z
theorem gQ:(bQ (shr x i) n c J).length=i+1+c:=by unfold bQ;rw[List.length_append,kM,jF.1]
theorem qt(O:J=0\/J=1)(Z:i<=2)(U:c<=3):Tm (bQ (shr x i) n c J)/\(bQ (shr x i) n c J).Pairwise (·<=·):=by
 obtain@⟨a,b,e,f⟩:=jF (x:=x) (i:=i);obtain@⟨Y,W,N⟩:=tc O (l:=shr x i);obtain⟨p,q⟩:=xI (x:=i_ (shr x i) J) (n:=n) (k:=c);haveI Q:1<=aM (shr x i):=(e _ (i' (by exact"]9)Rr4FXF={Lmd2xLO(" rfl a))).1;refine⟨⟨by rw[gQ];exact"]C'BxVu`QYHAy)K" Z U,λ y h=>?_⟩,List.pairwise_append.mpr ⟨b,p,λ y h X V=>?_⟩⟩;.
  rcases List.mem_append.mp h with h|h;.haveI:=e y h;exact"ErOA'{UeSn(ti_*oB<S(ZvMveM,tgnB$" Z f this
  .haveI:=q y h;exact"kOwR0faE^&F>|]2+uXE2I#E.G6|j)^9rSPIgvp#<O8mH*a_e#KflO6O'7z:bWC{=" [_,_] [_,_,_,y/2,_,i_ (shr x i) J/2,_] Z U f Y W Q this
 .exact Int.le_trans (e y h).2 (Int.le_trans Y (q X V).1)
theorem ny(Z:J=0\/J=1){j:Nat}(h1:i+1<=j)(h2:j<i+1+c):ai (bQ (shr x i) n c J) j%2=J:=by haveI a:=(jF (x:=x) (i:=i)).1;unfold bQ;rw[uy (by exact"ZUf=Inx#)tsX]#" h1 a),a];rw[((xI (x:=i_ (shr x i) J) (n:=n) (k:=c)).2 _ (i' (by rw[kM];exact"{sRavI9tR;R_j9(m=p7^iWR#" rfl h1 h2))).2.2];exact(tc Z).2.2
end
theorem Hu{x i Y U J Z:Nat}(O:i<=2)(h1:1<=J)(h2:J<=3)(T:1<=Z)(I:Z<=3):Pair (bQ (shr x i) Y J 1) (bQ (shr x i) U Z 0) (i+1):=by
 haveI a:=(jF (x:=x) (i:=i)).1;haveI Q:(bQ (shr x i) Y J 1).length=i+1+J:=gQ;haveI N:(bQ (shr x i) U Z 0).length=i+1+Z:=gQ;haveI V:=qt (x:=x) (n:=Y) (J:=1) (.inr rfl) O h2;haveI X:=qt (x:=x) (n:=U) (J:=0) (.inl rfl) O I;refine⟨by exact"$7jDpn?",by exact".%S#Hf9+~Huj/k0" h1 Q,by exact".%S#Hf9+~Huj/k0" T N,V.1,X.1,λ j W=>?_,λ p q D H K R e=>?_,s_ V.2,s_ X.2⟩;.unfold bQ;rw[qr (by exact"l$1if3VG.g.^/%" a W),qr (by exact"l$1if3VG.g.^/%" a W)]
 .haveI G:=ny (x:=x) (n:=Y) (c:=J) (J:=1) (.inr rfl) D (by exact"w>*4T[=)kLGHM=yj#" Q H);haveI L:=ny (x:=x) (n:=U) (c:=Z) (J:=0) (.inl rfl) K (by exact"w>*4T[=)kLGHM=yj#" N R);exact Bu e G L
def Kp(w J:Wd):Prop:=J.L.th=w.L.th/\J.rows=w.rows
theorem Kp.mG{w:Wd}:Kp w w:=⟨rfl,rfl⟩
theorem Kp.tr{a b c:Wd}(h:Kp a b)(k:Kp b c):Kp a c:=⟨k.1.trans h.1,k.2.trans h.2⟩
theorem aR{w a b:Wd}{p:Prop} [Decidable p](h:Kp w a)(k:Kp w b):Kp w (if p then a else b):=by split;exact h;exact k
section
variable{w:Wd}
theorem cP(e:Bool):Kp w (w.send e):=⟨congrArg LG.th (bI e).L,(bI e).r⟩
theorem Ac(m:lW):Kp w (w.recv m):=by cases m with|aN p k=>exact aR ⟨rfl,rfl⟩ (aR ⟨rfl,rfl⟩ ⟨rfl,rfl⟩)|fT l=>exact aR (aR ⟨rfl,rfl⟩ ⟨rfl,rfl⟩) ⟨rfl,rfl⟩
theorem oN(i:Nat)(J:Bool):Kp w (w.take i J):=by
 unfold Wd.take;split;.exact Kp.tr (b:=w.pop i J) ⟨rfl,rfl⟩ (Ac _)
 .exact Kp.mG
theorem Hv(a:Nat):Kp w (w.go a):=aR (Kp.tr (b:=w.cy) ⟨rfl,rfl⟩ (cP _)) (aR (Kp.tr (b:=w.free a) ⟨rfl,rfl⟩ (cP _)) (aR (Kp.tr (b:=w.cy) ⟨rfl,rfl⟩ (cP _)) (cP _)))
theorem te(p r:Nat)(x:Int):Kp w (w.told p r x):=aR (aR ⟨rfl,rfl⟩ ⟨rfl,rfl⟩) (aR ⟨rfl,rfl⟩ ⟨rfl,rfl⟩)
theorem Ad(m:mD):Kp w (w.qi m):=by cases m with|ok a=>exact Kp.tr (b:=w.upd a) (aR ⟨rfl,rfl⟩ ⟨rfl,rfl⟩) (aR Kp.mG (Hv a))|no p r x=>exact aR ((te p r x).tr (cP _)) (te p r x)
theorem tf(i:Nat)(J:Bool):Kp w (w.read i J):=by
 unfold Wd.read;split;.exact Kp.tr (b:=w.dW i J) ⟨rfl,rfl⟩ (Ad _)
 .exact Kp.mG
theorem qu:Kp w w.store:=⟨rfl,rfl⟩
theorem rN:Kp w w.gK:=((oN 0 false).tr qu).tr (tf 0 false)
theorem uz:Kp w w.bJ:=aR (Kp.tr (b:=w.dX) ⟨rfl,rfl⟩ (cP _)) ⟨rfl,rfl⟩
theorem uA(y:Nat):Kp w (w.bM y):=aR ⟨rfl,rfl⟩ (aR ⟨rfl,rfl⟩ Kp.mG)
theorem Ae(y:Nat):Kp w (w.xp y):=aR Kp.mG ⟨rfl,rfl⟩
theorem xJ(y:Nat):Kp w (w.d_ y):=by haveI h:Kp w (if w.back=[]then w.store else w):=aR ⟨rfl,rfl⟩ Kp.mG;unfold Wd.d_;generalize(if w.back=[]then w.store else w)=J at h;exact aR h (h.tr (tf _ _))
theorem xK(y:Nat):Kp w (w.takes y):=by haveI h:Kp w (if w.ae=[]then w.send true else w):=aR (cP _) Kp.mG;unfold Wd.takes;generalize(if w.ae=[]then w.send true else w)=J at h;exact aR h (aR (h.tr (oN _ _)) ((h.tr (oN _ _)).tr qu))
theorem xM(x:Nat):Kp w (w.act x):=aR (cP _) (aR uz (aR (uA _) (aR (aR ⟨rfl,rfl⟩ (aR ⟨rfl,rfl⟩ (Ae _))) (aR (xJ _) (xK _)))))
theorem xN:Kp w w.clean:=aR ⟨rfl,rfl⟩ ⟨rfl,rfl⟩
theorem ti:∀n,Kp w (Wd.b6 n w)|0=>Kp.mG|n+1=>(ti n).tr (aR Kp.mG rN)
theorem uB:Kp w w.aK:=xN.tr (aR ((Kp.tr (b:={w.clean with fp:=false}) ⟨rfl,rfl⟩ (cP _)).tr (ti 9)) Kp.mG)
/-! the other's log after a hearing is as before, so nothing waits at the end -/
theorem jc{w a b:Wd}{p:Prop} [Decidable p](h:a.O=w.O)(k:b.O=w.O):(if p then a else b).O=w.O:=by split;exact h;exact k
theorem DV(m:mD):(w.qi m).O=w.O:=by haveI S:=λ(w:Wd)(e:Bool)=>(bI (w:=w) e).O;cases m with|ok a=>haveI Z:(w.upd a).O=w.O:=jc rfl rfl;haveI G:∀J:Wd,(J.go a).O=J.O:=λ J=>jc (S J.cy false) (jc (S (J.free a) false) (jc (S J.cy false) (S J false)));exact(jc (w:=w.upd a) rfl (G (w.upd a))).trans Z|no p r x=>haveI Z:(w.told p r x).O=w.O:=jc (jc rfl rfl) (jc rfl rfl);rw[<-Z];exact jc (S _ _) rfl
theorem DW(i:Nat)(J:Bool):(w.read i J).O=w.O:=by
 unfold Wd.read;split;.exact DV (w:=w.dW i J) _
 .rfl
theorem DX:w.gK.O.sn=false:=congrArg LG.sn (DW (w:=(w.take 0 false).store) 0 false)
theorem qv:w.clean.O.sn=false:=by unfold Wd.clean;split<;>rfl
theorem tj(h:w.O.sn=false):∀n,(Wd.b6 n w).O.sn=false
 |0=>h
 |n+1=>by
  show(if(Wd.b6 n w).ae=[]then Wd.b6 n w else(Wd.b6 n w).gK).O.sn=false;split;.exact tj h n
  .exact DX
theorem uC:w.aK.O.sn=false:=by
 unfold Wd.aK Wd.xx;split;.refine tj ?_ 9;show(Wd.send {w.clean with fp:=false} true).O.sn=false;rw[(bI (w:={w.clean with fp:=false}) true).O];exact qv
 .exact qv
end
/-! the first append -/
def xZ(Y J:List Int)(Z V W U:Nat)(Q:Int):Wd:={L:=⟨Y,Y.take (Z+1),0,0,Z+1,false⟩,aA:=V,O:=⟨J,J,0,0,J.length,false⟩,sure:=W,mt:=0,up:=Y.length+1,st:=0,pt:=0,fp:=false,size:=U,fl:=[],lim:=Q,no:=0,ae:=[],held:=[],back:=[],rows:=[]}
section
variable{J Z:List Int}{s Y O U W:Nat}{Q:Int}
theorem Kb(t:Tm Z)(h:0<Z.length):LW ⟨Z,Z,0,0,Z.length,false⟩:=⟨t,t,h,h,λ h=>(by cases h),λ _=>⟨rfl,h,Nat.le_refl _,Nat.le_refl _,rfl,λ _=>rfl⟩⟩
theorem Kc{k:Nat}{l:List Int}(X:Tm l)(V:k<l.length):LW ⟨l,l.take (k+1),0,0,k+1,false⟩:=by
 have e:(l.take (k+1)).length=k+1:=by rw[List.length_take];exact"7rtLNn:jp1]Uk0+f%N6v{" rfl V
 exact⟨X,X.take,by show 0<l.length;exact"TVd3[/Ig9!" V,by show 0<(l.take (k+1)).length;exact"e#[!q*a4,&(" e,λ h=>(by cases h),λ _=>⟨rfl,Nat.succ_pos k,by show k+1<=(l.take (k+1)).length;exact"30O^zYit'H" e,V,by rw[List.take_take,Nat.min_self],λ _=>e.symm⟩⟩
theorem Hw(P:Pair J Z s)(h1:Y<J.length)(h2:O<=Y)(V:U<s)(X:Q=0\/Q=i3)(N:0<W):Inv Z s 0 (xZ J Z Y O U W Q):=by
 haveI:=P.st;exact{
  P:=P,wi:=⟨Kc P.tm h1,rfl,Kb P.tt (by exact"TVd3[/Ig9!" this),Nat.zero_le _,Nat.succ_pos _,Nat.le_refl _,Nat.succ_pos _,X,N⟩,th:= .inl rfl,ke:= .inl rfl,kt:=Nat.le_refl _,bs:=Nat.zero_le _,sa:=by show U<=a9 Z s Z;rw[d9];exact"Aaaoj8icBnfe=ef7" rfl V
  kb:=Nat.le_refl _,ka:=Nat.zero_le _,lc:=Nat.zero_le _,co:=by show O<Y+1;exact"I6NvVt':$" h2
  ma:=Nat.zero_le _,ml:=λ _ h=>(by cases h),he:=λ _ h=>(by cases h),ba:=λ _ h=>(by cases h),so:=λ h=>(by cases h),pb:=Nat.zero_le _,c1:=Nat.le_refl _,c2:=Nat.le_refl _,c3:=Nat.le_refl _}
theorem DY(h:1<=J.length):(xZ J Z Y O U W Q).send true={xZ J Z Y O U W Q with ae:=[.aN (J.length-1) 0]}:=by
 haveI V:(xZ J Z Y O U W Q).k=0:=by
  unfold Wd.k;split;.rfl
  .show(cut Q (J.drop (J.length+1-1))).length=0;rw[List.drop_eq_nil_of_le (by exact"GOMY2DZ0tsCE]&" rfl)];unfold cut;split<;>rfl
 unfold Wd.send;rw[if_neg (λ h=>by rcases h with h|h<;>cases h),if_neg (by show¬J.length+1<0+2;exact"y*8sM!][|7s4%" h),if_neg (λ h=>nomatch h.2),if_pos (show(xZ J Z Y O U W Q).st=0 from rfl),V];rfl
theorem DZ(P:Pair J Z s)(h1:Y<J.length)(h2:O<=Y)(L:U<s)(K:Q=0\/Q=i3)(G:0<W):∃m a,((xZ J Z Y O U W Q).send true).ae[0]?=some m/\(((xZ J Z Y O U W Q).send true).take 0 false).store.back[0]?=some a/\((xZ J Z Y O U W Q).send true).gK.no=1:=by
 haveI D:=P.sm;haveI S:=P.s1;haveI V:=Hw P h1 h2 L K G;haveI R:=V.send true;rw[DY (by exact"3oh?(FG0$" D)]at R⊢;generalize X:xZ J Z Y O U W Q=w at V R;haveI j:w.L.th=J:=by rw[<-X];rfl
 haveI H:w.O.th=Z:=by rw[<-X];rfl
 haveI C:Calm {w with ae:=[.aN (J.length-1) 0]}:=by rw[<-X];exact⟨rfl,rfl,rfl⟩
 have N:a9 Z s w.O.th<J.length-1:=by rw[H,d9];exact"=D%F*k4j(W/d~pD`|='K;n[hGU&0'" rfl rfl D S
 haveI A:w.no=0:=by rw[<-X];rfl
 refine⟨.aN (J.length-1) 0,?_⟩;obtain@⟨@a,T,I⟩:=nr (Wd.pop {w with ae:=[.aN (J.length-1) 0]} 0 false) (.aN (J.length-1) 0);refine⟨a,rfl,?_,?_⟩;.show((Wd.recv (Wd.pop {w with ae:=[.aN (J.length-1) 0]} 0 false) (.aN (J.length-1) 0)).back++(Wd.recv (Wd.pop {w with ae:=[.aN (J.length-1) 0]} 0 false) (.aN (J.length-1) 0)).held)[0]?=some a;haveI M:w.back=[]:=C.b;haveI F:w.held=[]:=C.h;rw[T,I];show(w.back++(w.held++[a]))[0]?=some a;rw[M,F];rfl
 .
  haveI g:Gd {w with ae:=[.aN (J.length-1) 0]} (.aN (J.length-1) 0):=by rw[<-X];exact⟨by show J.length-1+0<J.length;exact"%n.zT~fhQyX$6#/Z" rfl N,.inl ⟨rfl,by show J.length+1=J.length-1+2;exact"9t~ed<n||1V/Dp_lO(#)*" rfl N,λ _=>by show J.length-1+1=J.length;exact"VL](`KLjfZn)j|MdpC*" rfl N⟩⟩
  obtain⟨z,B,E,e,_⟩:=s7 R C rfl g N;rw[e,(bI _).no];show w.no+1=1;rw[A]
end
/-! the rows of entries -/
def rO(d t:Int)(p:Nat)(x:Int):V:= .tup [.int (x+t),.int (d+p),.int 0,.ig [x]]
def h_(d t:Int):Nat->List Int->List V|_,[]=>[]|p,x::r=>rO d t p x::h_ d t (p+1) r
def iC:V->Option V|.obj _ [(_,a),(_,b),(_,c),(_,e)]=>some (.tup [a,b,c,e])|_=>none
theorem nz{d t:Int}:∀{l:List Int}{p:Nat},(h_ d t p l).length=l.length|[],_=>rfl|x::r,p=>congrArg (·+1) nz
theorem nA{d t:Int}:∀{l:List Int}{p:Nat},(ents d t p l).filterMap iC=h_ d t p l|[],_=>rfl|x::r,p=>by show(ent d t p x::ents d t (p+1) r).filterMap iC=_;rw[List.filterMap_cons_some (f:=iC) (b:=rO d t p x) rfl,nA];rfl
theorem uD{n:Nat}{d t:Int}{p:Nat}{x:Int}:bG (n+2) (rO d t p x) (rO d t p x)=some true:=by show(if 4=4 then dR (bG (n+1)) [V.int (x+t),.int (d+p),.int 0,.ig [x]] [V.int (x+t),.int (d+p),.int 0,.ig [x]]else none)=_;rw[if_pos rfl];show(match some (decide (x+t=x+t))with|some k=>(match(match some (decide (d+(p:Int)=d+p))with|some k=>(match(match some (decide ((0:Int)=0))with|some k=>(match(match some (decide ([x]=[x]))with|some k=>(match some true with|some J=>some (k&&J)|none=>none)|none=>none)with|some J=>some (k&&J)|none=>none)|none=>none)with|some J=>some (k&&J)|none=>none)|none=>none)with|some J=>some (k&&J)|none=>none)|none=>none)=some true;rw[decide_eq_true rfl,decide_eq_true rfl,decide_eq_true rfl,decide_eq_true rfl];rfl
theorem kN{n:Nat}:∀{l:List V},(∀v,v∈l->bG n v v=some true)->dR (bG n) l l=some true|[],_=>rfl|v::l,h=>by show(match bG n v v with|some k=>(match dR (bG n) l l with|some J=>some (k&&J)|none=>none)|none=>none)=_;rw[h v (List.mem_cons_self ..),kN λ u Z=>h u (List.mem_cons_of_mem _ Z)];rfl
theorem nB{d t:Int}{v:V}:∀{l:List Int}{p:Nat},v∈h_ d t p l->∃q x,v=rO d t q x
 |[],_,h=>by cases h
 |x::r,p,h=>by
  rcases List.mem_cons.mp h with rfl|h;.exact⟨_,_,rfl⟩
  .exact nB h
theorem tn{l:List V}(h:∀v,v∈l->bG 4 v v=some true):uH (.lst l) (.lst l)=some true:=by show(if l.length=l.length then dR (bG 4) l l else some false)=_;rw[if_pos rfl,kN h]
theorem uE{d t:Int}{p:Nat}{l:List Int}:uH (.lst (h_ d t p l)) (.lst (h_ d t p l))=some true:=tn λ v J=>by obtain⟨q,x,rfl⟩:=nB J;exact uD
def nC(d t:Int)(J:List Int):V->Option V|.int i=>some (rO d t i.toNat (ai J i.toNat))|_=>none
theorem rP{d t:Int}{J:List Int}{n:Nat}:∀{a:Nat},a+n=J.length->(ao a ((a+n:Nat):Int)).filterMap (nC d t J)=h_ d t a (J.drop a):=by
 induction n with
  |zero=>intro a h;rw[fu (by exact"IXbQma0+#!"),List.drop_eq_nil_of_le (by exact"k2=xsv'~," h)];rfl
  |succ n U=>
   intro a h;haveI e:((a+(n+1):Nat):Int)=(a:Int)+(n+1:Nat):=by exact"=kM`o4(lJ=B(7I#"
   haveI Z:ao ((a:Int)+1) ((a:Int)+1+n)=ao ((a+1:Nat):Int) ((a+1+n:Nat):Int):=by rw[show((a+1+n:Nat):Int)=(a:Int)+1+n by exact"4/jdn>vB~ix}6I#"];rfl
   haveI Y:J.drop a=ai J a::J.drop (a+1):=by rw[List.drop_eq_getElem_cons (by exact"2dNS?~&]h[p#" h)];unfold ai;rw[List.getD_eq_getElem?_getD,List.getElem?_eq_getElem (by exact"2dNS?~&]h[p#" h)];rfl
   rw[e,d7,List.filterMap_cons_some (f:=nC d t J) (b:=rO d t a (ai J a)) rfl,Z,U (by exact"^gCFO{%XxC(x4u+'" h),Y];rfl
section
variable{Z:Bool}{Y J:Nat}{d t:Int}
end
section
variable{Z:Nat}{d t:Int}{X:Fx}{w:Wd}{H:Hd}{M:MH}{J:List Int}{s c:Nat}
end
theorem Af{J:List Nat}(h:∀v,v∈J->v<999983){i:Nat}(Z:i<=100):aj J i<1000000000:=by
 haveI a:i/J.length<=100:=Nat.le_trans (Nat.div_le_self ..) Z;haveI b:J.getD (i%J.length) 0<999983:=by rw[List.getD_eq_getElem?_getD];cases e:J[i%J.length]? with|none=>exact(by decide:0<999983)|some v=>exact h v (List.mem_of_getElem? e)
 exact Nat.lt_of_le_of_lt (Nat.add_le_add (Nat.le_of_lt b) (Nat.mul_le_mul_left 7919 a)) (by decide)
def bS(J:List Nat):Nat->Wd->Wd|0,w=>w|j+1,w=>((bS J j w).act (aj J (6+j))).aE
section
variable{Y:Nat}{d t:Int}{X:Fx}{w:Wd}{H:Hd}{M:MH}{Z:List Int}{s c:Nat}{J:List Nat}
theorem gV(U:Inv Z s c w):∀j,Inv Z s (c+3*j) (bS J j w)|0=>U|j+1=>((gV U j).act (aj J (6+j))).aE
theorem qw(U:Inv Z s c w)(R:Rp w):∀j,Rp (bS J j w)|0=>R|j+1=>(qw U R j).act (gV U j) (aj J (6+j))
theorem qx:∀j,(bS J j w).L.th=w.L.th|0=>rfl|j+1=>(xM (w:=bS J j w) (aj J (6+j))).1.trans (qx j)
end
section
variable{Y:Nat}{d t:Int}{X:Fx}{w:Wd}{H:Hd}{M:MH}{Z:List Int}{s c:Nat}{J:List Nat}
end
section
variable{Y:Nat}{d t:Int}{X:Fx}{w:Wd}{H:Hd}{M:MH}{Z:List Int}{s c:Nat}{J:List Nat}
end
def uF(z:Nat):Int:=if z/9%2=0 then i3 else 0
def Hx(z:Nat):Nat:=1+z/3%3
theorem Ag{z:Nat}:cY [.int 18446744073709551615,.int 0] ((z:Int)/9%2)=some (.int (uF z)):=by
 unfold uF;by_cases h:z/9%2=0;.rw[if_pos h,show(z:Int)/9%2=0 by exact"<jo;>CV2,1mOCTf<)CYd%tUxHQK*O_6x$g[a!(HwUR912c$|aO!Wk^x^93S!s;$" [_,_,z%9,z/9/2,_] [_,_,_,_] ⟨rfl,rfl⟩ ⟨rfl,rfl⟩ ⟨rfl,rfl⟩ ⟨rfl,rfl⟩ h];rfl
 .rw[if_neg h,show(z:Int)/9%2=1 by exact"*VWk!>zqg1jMjp&+Tt#au9.,L`Z{*3f97=M|~u4]4B53WlK_Vi7u|,1%t]v<bRxga1" [_,_,z%9,z/9/2,_] [_,_,_,_] ⟨rfl,rfl⟩ ⟨rfl,rfl⟩ ⟨rfl,rfl⟩ ⟨rfl,rfl⟩ h];rfl
def kx(Y J:List Int)(Z W U z:Nat):Wd:=xZ Y J Z W U (Hx z) (uF z)
section
variable{Z:Nat}{d t:Int}{s:Nat}{J:List Nat}
end
theorem Ia{a b:Bool}(h:a=b):ew .NotEq (.bool a) (.bool b)=some false:=by subst h;cases a<;>rfl
def KV(J:List Int):V:= .int ((J.length:Int)-1)
section
variable{Z:Nat}{d t:Int}{s:Nat}{J:List Nat}
end
section
variable{Z:Nat}{d t:Int}{s:Nat}{J:List Nat}
end
def cR(J:List Int)(Z:List Nat):Nat:=J.length-1-aj Z 4%2
def D0(Z:List Int)(J:List Nat):Nat:=cR Z J-aj J 4/2%(cR Z J+1)
def D3(Z Y:List Int)(J:List Nat)(s:Nat):Wd:=kx Z Y (cR Z J) (D0 Z J) (aj J 5%s) (aj J 5)
def jd(Y J:List Int)(Z:List Nat)(s U:Nat):List V:=(bS Z U ((D3 Y J Z s).send true).gK.aE).aK.aE.rows
def uG(x:Nat):Nat:=1+(x/3+1)%3
def x8(x:Nat):Nat:=1+(x/9+1)%3
def mi(J:List Nat):List Int:=bQ (shr (aj J 0) ((aj J 0+1)%3)) (aj J 1) (uG (aj J 0)) 1
def fD(J:List Nat):List Int:=bQ (shr (aj J 0) ((aj J 0+1)%3)) (aj J 2) (x8 (aj J 0)) 0
section
variable{Z:Nat}{d t:Int}{s:Nat}{J:List Nat}
end
/-! the rows that the law compares are like themselves -/
theorem gW{n:Nat}{i:Int}:bG (n+1) (.int i) (.int i)=some true:=by show some (decide (i=i))=_;rw[decide_eq_true rfl]
theorem tu{n:Nat}{l:List V}(h:∀v,v∈l->bG n v v=some true):bG (n+1) (.tup l) (.tup l)=some true:=by show(if l.length=l.length then dR (bG n) l l else none)=_;rw[if_pos rfl,kN h]
theorem Ah{n:Nat}{l:List V}(h:∀v,v∈l->bG n v v=some true):bG (n+1) (.lst l) (.lst l)=some true:=by show(if l.length=l.length then dR (bG n) l l else some false)=_;rw[if_pos rfl,kN h]
theorem xO(w:Wd):bG 4 w.row w.row=some true:=by
 refine tu λ v J=>?_;rcases List.mem_cons.mp J with rfl|J;.exact gW
 rcases List.mem_cons.mp J with rfl|J;.exact gW
 rcases List.mem_cons.mp J with rfl|J;.exact gW
 rcases List.mem_cons.mp J with rfl|J;.exact gW
 rcases List.mem_cons.mp J with rfl|J;.show some (w.fp==w.fp)=_;rw[beq_self_eq_true]
 rcases List.mem_cons.mp J with rfl|J;.
  refine Ah λ v J=>?_;obtain⟨p,_,rfl⟩:=List.mem_map.mp J;refine tu λ v J=>?_;rcases List.mem_cons.mp J with rfl|J;.exact gW
  rcases List.mem_cons.mp J with rfl|J;.exact gW
  cases J
 .cases J
def fE(l:List V):Prop:=∀v,v∈l->bG 4 v v=some true
theorem fE.add{w:Wd}(h:fE w.rows):fE w.aE.rows:=by
 intro v J;rcases List.mem_append.mp J with J|J;.exact h v J
 .
  rcases List.mem_cons.mp J with rfl|J;.exact xO w
  .cases J
theorem nD{J:List Nat}{w:Wd}(h:fE w.rows):∀j,fE (bS J j w).rows|0=>h|j+1=>fE.add (w:=(bS J j w).act (aj J (6+j))) (by rw[(xM _).2];exact nD h j)
theorem Ai{Y J:List Int}{Z:List Nat}{s U:Nat}:fE (jd Y J Z s U):=by refine fE.add (w:=(bS Z U ((D3 Y J Z s).send true).gK.aE).aK) ?_;rw[uB.2];refine nD ?_ U;refine fE.add (w:=((D3 Y J Z s).send true).gK) ?_;rw[rN.2,(cP true).2];exact λ v W=>by cases W
theorem Aj{Z J:List Int}{Y:List Nat}{s U:Nat}:jd Z J Y s U≠[]:=by show _++[_]≠[];exact λ h=>nomatch(List.append_eq_nil_iff.mp h).2
theorem ne_nil{l:List V}(h:l≠[]):ew .NotEq (.lst l) (.lst [])=some true:=by show(if l.length=0 then dR (bG 4) l []else some false).map (!·)=_;rw[if_neg (λ e=>h (List.length_eq_zero_iff.mp e))];rfl
/-! the drawn base -/
def dB(i:Nat):Int:=if i=0 then 65534 else if i=1 then 2147483645 else if i=2 then 4294967294 else if i=3 then 1099511627767 else 254
def tB(i:Nat):Int:=if i=0 then 1 else if i=1 then 65533 else if i=2 then 1099511627736 else if i=3 then 254 else 4294967293
theorem Hy(i:Nat):254<=dB i/\dB i<=1099511627767:=by unfold dB;split;exact"FJZ?##oV{,!P;*EYPlQDP.H=:#('L7aGnD*/";split;exact"S)eo+J_bQMWqG%lFuX&X3k'PH$r#F6w}ofdXcZ]7dm";split;exact"F=iFN[1Uo.T1=t*s41>kg_A^/%*Wa:zB99!{.U+qp)6";split;exact"s>qu+G,hoV'qr|}+Z+9Cwa^i^y7M&fGO[7SPp)u$I*5XNLK";exact"dpD`dc{&W>##U$cyL,+l^cosKrEXm,[%"
theorem Hz(i:Nat):1<=tB i/\tB i<=1099511627736:=by unfold tB;split;exact"Z'Z4(/r].qAkVG|L~u96%";split;exact"Bd=?CA{[UG<~z9Q)36!2G!99U3aHf}n#";split;exact"BXRN^cY)onG4#^'xZpc3s(`+J%Q7Q>mdsY=d+T+'$";split;exact"!otnhwp:++,OSN<I6PC'+{4&k}T";exact"mbFQ5LsUvl23N5nkEI&7{Q]hRVAuhUzm=y_gos$"
theorem HA{x:Nat}:cY [.int (2^(16:Int).toNat-2),.int (2^(31:Int).toNat-3),.int (2^(32:Int).toNat-2),.int (2^(40:Int).toNat-9),.int 254] ((x:Int)%5)=some (.int (dB (x%5))):=by
 haveI e:(x:Int)%5=((x%5:Nat):Int):=rfl;haveI h:x%5<5:=Nat.mod_lt _ (by exact"REWXi,&");rw[e];generalize x%5=i at h;haveI:i=0\/i=1\/i=2\/i=3\/i=4:=by exact"Gi~U9:!6{Wzjln!<Q6/W<VcyAhs.9'^Wv$1Z,d/$" h
 rcases this with rfl|rfl|rfl|rfl|rfl<;>rfl
theorem HB{x:Nat}:cY [.int 1,.int (2^(16:Int).toNat-3),.int (2^(40:Int).toNat-40),.int 254,.int (2^(32:Int).toNat-3)] ((x:Int)/200%5)=some (.int (tB (x/200%5))):=by
 haveI e:(x:Int)/200%5=((x/200%5:Nat):Int):=rfl;haveI h:x/200%5<5:=Nat.mod_lt _ (by exact"REWXi,&");rw[e];generalize x/200%5=i at h;haveI:i=0\/i=1\/i=2\/i=3\/i=4:=by exact"Gi~U9:!6{Wzjln!<Q6/W<VcyAhs.9'^Wv$1Z,d/$" h
 rcases this with rfl|rfl|rfl|rfl|rfl<;>rfl
section
variable{Z:Nat}{J:List Nat}
end
section
variable{Z:Nat}{J:List Nat}
theorem mc{i:Int}(a:0<i)(b:i<1000000):(0:Int)<i/\small i=true:=⟨a,aB (by exact"rKN&mesK8s%" a) (by exact"/6b.m^105^FI}%Y>0BN$" b)⟩
def numsOf(Y:List Int):List Nat:=(Y.take 14).map λ i=>(i%999983).toNat
def xP:V->Option V|.int i=>some (.int (i%999983))|_=>none
theorem qy:∀{l:List Int},(l.map V.int).filterMap xP=vN (l.map λ i=>(i%999983).toNat)|[]=>rfl|i::l=>by show(V.int i::l.map V.int).filterMap xP=V.int (((i%999983).toNat:Nat):Int)::vN (l.map λ i=>(i%999983).toNat);rw[List.filterMap_cons_some (f:=xP) (b:= .int (i%999983)) rfl,qy,Int.toNat_of_nonneg (Int.emod_nonneg _ (by exact"K7iUpu$|e)KPU"))]
end
structure Rv where
 nums:List Nat
 aa:List Int
 ac:Nat
 x:V
 g:V
 th:V
 en:V
 z:V
 st:V
 aA:V
 su:V
 gO:V
def Rv.L(r:Rv)(e:Ev)(u J:Loc):Loc:=(96,.lst (vN r.nums))::(100,.int e.d)::(77,.int e.t)::(154,.int r.ac)::(111,r.x)::(97,r.g)::(u++([(78,.lst (vI r.aa)),(124,r.th),(12,.int (((vI r.aa).length:Nat)-1)),(94,r.en),(155,r.z),(101,r.st),(43,r.aA),(114,.ref 4 e.X.gl),(127,r.su),(123,r.gO),(115,.ref 1 e.X.gp),(112,.ref 0 e.X.g0)]++J))
def Ak(u J:Loc):Prop:=(∃v,u=[(61,v)]/\J=[])\/∃v,u=[]/\J=[(61,v)]
def ky(J:List V):QS:=λ o _ M=>match o with|.ret v=> .p (v= .lst J)|.az=> .p (V.none= .lst J)|_=> .no
def rQ(e:Ev)(w:Wd)(J Z:Loc)(M:MH):Prop:=Z=J/\e.Is w M
theorem HC{Y n f k:Nat}{R:QS}{J:Loc}{M:MH}(m:Nat)(e:Ev)(w:Wd)(Z:Loc)(r:∀H,HW e.d H w->rR Y n f (k+m) R Z (e.M H w))(h:(gB n tabs false Y (((fnOf f).body.drop k).take m) J M (hW (λ J s=> .p (rQ e w Z J s)) R)).sat):rR Y n f k R J M:=jB m (λ J s=> .p (rQ e w Z J s)) (λ J s q=>by obtain⟨rfl,H,U,rfl⟩:rQ e w Z J s:=q.h;exact r H U) h
theorem jw{g:G}{e:Ev}{w:Wd}{J:Loc}{H:Hd}(Z:HW e.d H w)(h:autoParam ((g.ea,g.pP)=(g.eb,rQ e w J J (e.M H w))) krf):g.sat:=pk g ⟨rfl,H,Z,rfl⟩ h
section
variable{e:Ev}{w:Wd}{H:Hd}{Z:List Int}{s c:Nat}{r:Rv}
theorem runEnd(B:Bd e.d e.t)(U:Inv Z s c w)(m:w.O.sn=false)(F:w.L.th=r.aa)(X:w.O.th=r.aa)(hw:HW e.d H w)(n:Nat){u C:Loc}(g:Ak u C):rR e.off (n+10) 1018 26 (ky w.rows) (r.L e u C) (e.M H w):=GZ<|by
 haveI a:=B.d1;haveI h:=B.d2;haveI Y:=U.wi.o.t1.1;haveI K:=U.wi.o.b1;haveI z:=U.wi.o.t1;rw[X]at Y K z;have W:((vI r.aa).length:Int)=r.aa.length:=by rw[List.length_map]
 haveI A:=GS (c:=e.other H w) B (.inr rfl) U.wi.o m;haveI b:=jW (c:=e.other H w) (.inr rfl) U.wi.o (Y:=e.d+(((vI r.aa).length:Nat)-1)) (Z:=aM r.aa+e.t) (b:=true) ⟨λ _=>rfl,λ _=> .inr ⟨show aM r.aa+e.t=ai w.O.th (w.O.th.length-1)+e.t by rw[X];rfl,show e.d+(w.O.th.length:Int)-1<=_ by rw[X,W];exact"Ueakj3[B~;i6j9"⟩⟩;haveI o:=sJ (c:=e.other H w) (.inr rfl) U.wi.o;haveI f:=jW (c:=e.lead H w) (.inl rfl) U.wi.l (Y:=e.d+(((vI r.aa).length:Nat)-1)) (Z:=ai w.O.th (w.O.th.length-1)+e.t) (b:=true) ⟨λ _=>rfl,λ _=> .inr ⟨show _=ai w.L.th (w.L.th.length-1)+e.t by rw[X,F],show e.d+(w.L.th.length:Int)-1<=_ by rw[F,W];exact"Ueakj3[B~;i6j9"⟩⟩;haveI R:cY (vI r.aa) (-1)=some (.int (aM r.aa)):=gM (by exact"3oh?(FG0$" K);haveI J:(((vI r.aa).length:Int)-1+1)=((w.O.base+1+(r.aa.length-w.O.base-1):Nat):Int):=by exact"1p2iV+rhsFFK[N5f:lVWGxb3C~RZ:!3v%Ctks{p+3!E" [_,_,_,r.aa.length-w.O.base,_] [] rfl rfl K W
 haveI M:(ao ((w.O.base:Int)+1) (((vI r.aa).length:Nat)-1+1)).filterMap (nC e.d e.t r.aa)=h_ e.d e.t (w.O.base+1) (r.aa.drop (w.O.base+1)):=by rw[J];exact rP (a:=w.O.base+1) (by exact"ON%v<[7VH(_K:1#0}Rr:PK2%MqA{#" [_,_,r.aa.length-w.O.base,_,_] [] W J)
 haveI S:(ents e.d e.t (w.O.base+1) (w.O.th.drop (w.O.base+1))).filterMap iC=h_ e.d e.t (w.O.base+1) (r.aa.drop (w.O.base+1)):=by rw[nA,X]
 haveI P:(h_ e.d e.t (w.O.base+1) (r.aa.drop (w.O.base+1))).length<=lid:=by rw[nz,List.length_drop];unfold lid;exact"lQMFrvPJO'K*%M|)Ls+s?#" rfl Y
 haveI l:ew .NotEq (.lst ((ents e.d e.t (w.O.base+1) (w.O.th.drop (w.O.base+1))).filterMap iC)) (.lst ((ao ((w.O.base:Int)+1) (((vI r.aa).length:Nat)-1+1)).filterMap (nC e.d e.t r.aa)))=some false:=by rw[S,M];show(uH _ _).map _=_;rw[uE];rfl
 haveI I:((ents e.d e.t (w.O.base+1) (w.O.th.drop (w.O.base+1))).filterMap iC).length<=lid:=by rw[S];exact P
 haveI G:((ao ((w.O.base:Int)+1) (((vI r.aa).length:Nat)-1+1)).filterMap (nC e.d e.t r.aa)).length<=lid:=by rw[M];exact P
 haveI t:(((vI r.aa).length:Nat):Int)-1+1-((w.O.base:Int)+1)<=1000/\small ((w.O.base:Int)+1)=true/\small ((((vI r.aa).length:Nat):Int)-1+1)=true:=⟨by exact"')`n~A%m]QDg5>v0sC7a8cpLe7R!UFyah}!QQ2'f],<?sCN??YlJS.t5" [_,_,_,r.aa.length-w.O.base,r.aa.length-w.O.base-1] [] rfl rfl Y J,aB (by exact"G/xL[Y?Y&") (by exact"/oGy{.+U!ktvkFC*ysKQUqlj(DBmChDn:$$" [_,_,_,r.aa.length-w.O.base,r.aa.length-w.O.base-1] [] Y W J),aB (by exact"urirvXhnY|%") (by exact"zu,0T`20H/:n|IVJx>+9YV4" Y W)⟩;haveI N:∀j:Int,j∈List.map (λ(k:Nat)=>(k:Int)) (List.range r.aa.length)->cY (vI r.aa) j=some (.int (ai r.aa j.toNat))/\0<=ai r.aa j.toNat/\ai r.aa j.toNat<256:=λ j O=>by obtain⟨k,D,rfl⟩:=List.mem_map.mp O;have D:=List.mem_range.mp D;haveI y:=z.2 _ (i' D);exact⟨kh rfl D,by rw[Int.toNat_natCast];exact"itHR1l3S.H1yBsP8!" y,by rw[Int.toNat_natCast];exact y.2⟩
 rcases g with⟨d,rfl,rfl⟩|⟨d,rfl,rfl⟩<;>refine call _ A<|hY _ iC (l:=ents e.d e.t (w.O.base+1) (w.O.th.drop (w.O.base+1))) (M:=e.M H w) (λ v T Q q=>by obtain⟨p,x,rfl⟩:=l6 T;exact go _ [1,2]<|pk _ q) I<|au _ t<|hY _ (nC e.d e.t r.aa) (l:=ao ((w.O.base:Int)+1) (((vI r.aa).length:Nat)-1+1)) (M:=e.M H w) (λ v T Q q=>by obtain⟨j,rfl,O,L⟩:=c_ T;obtain⟨E,i⟩:=N j (List.mem_map.mpr ⟨j.toNat,List.mem_range.mpr (by exact"zS7zZn{$$)RnE$pK%|oJ'^wVnQb#?8GABRYgS)z&|wARqLCoeu<B%3mj<=VV/)j!z" [_,_,_,_,r.aa.length-w.O.base,r.aa.length-w.O.base-1] [_] rfl rfl rfl J O L),by exact"maS25{7tDiKDTQhC]'f,gZ" rfl O⟩);obtain⟨k,rfl⟩:∃k:Nat,j=k:=⟨j.toNat,by exact"Y!.abiP:OU_N4p(#(Kg,gZ" rfl O⟩;exact go _ [1]<|cn _ E<|cn _ E<|au _ i<|pk _ q) G<|p8 _ l<|go _ [0]<|cn _ R<|call _ b<|go _ [0]<|call _ o<|call _ f<|go _ [0]<|pk _ (rfl:V.lst w.rows= .lst w.rows)
theorem Inv.gx(B:Bd e.d e.t)(Y:e.d=1\/3<=e.d)(J:Inv Z s c w)(W:c<=800)(U:HW e.d H w):(xn e H w).ok:=Mine.gx B Y J.wi U (by have:=J.c3;exact"Ijg<[QI!gLEyxa>D" W this) (J.ke.J9 J.P) J.ma
def xQ(e:Ev)(r:Rv)(w:Wd)(u U J:Loc)(M:MH):Prop:=∃Y,J=r.L (e.gm Y) u U/\(e.gm Y).Is w M
theorem D5(B:Bd e.d e.t)(C:e.d=1\/3<=e.d)(T:Inv Z s c w)(R:Rp w)(L:c<=700)(K:w.L.th.length<=s+3)(I:w.L.th.length<=6)(D:w.L.th=r.aa)(y:HW e.d H w)(n:Nat){u V:Loc}(G:Ak u V):rR e.off (n+10) 1018 25 (ky w.aK.aE.rows) (r.L e u V) (e.M H w):=by haveI F:=me T R K I;haveI j:=xD B T R (by exact"[[+J0g3!2ky,D.#" L) K I y;have E:∀Y W,HW e.d W w.aK.aE->rR e.off (n+10) 1018 26 (ky w.aK.aE.rows) (r.L (e.gm Y) u V) ((e.gm Y).M W w.aK.aE):=λ Y W U=>runEnd (e:=e.gm Y) B F.V.aE uC ((congrArg LG.th F.L).trans D) ((F.k.trans (congrArg LG.th F.L)).trans D) U n G;haveI z:=λ(Y:Nat)(W:Hd)U=>F.V.gx (e:=e.gm Y) (H:=W) B C (by exact":Y;A|&;'<4K20Y,&" L) U;haveI J:∀Y W,HW e.d W w.aK.aE->xQ e r w.aK.aE u V (r.L (e.gm Y) u V) ((e.gm Y).M W w.aK.aE):=λ Y W U=>⟨Y,rfl,W,U,rfl⟩;refine jB (k:=25) 1 (λ Q O=> .p (xQ e r w.aK.aE u V Q O)) (λ Q O q=>by obtain⟨Y,rfl,W,U,rfl⟩:xQ e r w.aK.aE u V Q O:=q.h;exact E Y W U) ?_;rcases G with⟨P,rfl,rfl⟩|⟨P,rfl,rfl⟩<;>exact da _ j λ v M h=>by obtain@⟨(rfl),@Y,@S,X,(rfl)⟩:=h;exact go _ [0]<|cf _ (z Y S X) λ A N=>go _ [0]<|pk _ (J Y A N)
def JA(j:Nat)(u J:Loc):Prop:=(j=0/\(u=[]\/∃v,u=[(61,v)])/\J=[])\/(0<j/\Ak u J)
def D6(e:Ev)(r:Rv)(w:Wd)(l:List V)(J:Loc)(M:MH):Prop:=∃(j:Nat)(u Y:Loc),(J=r.L e u Y/\JA j u Y)/\(l=ao j r.ac/\j<=r.ac)/\e.Is (bS r.nums j w) M
theorem Al(B:Bd e.d e.t)(b:e.d=1\/3<=e.d)(g:Inv Z s c w)(R:Rp w)(k:c<=100)(N3:w.L.th.length<=s+3)(a:w.L.th.length<=6)(nl:0<r.nums.length)(E:r.nums.length<=100)(nv:∀v,v∈r.nums->v<999983)(x:w.L.th=r.aa)(hw:HW e.d H w)(n:Nat)(N:0<r.ac/\r.ac<=50){u:Loc}(X:u=[]\/∃v,u=[(61,v)]):rR e.off (n+10) 1018 24 (ky (bS r.nums r.ac w).aK.aE.rows) (r.L e u []) (e.M H w):=by
 have V2:=gV (J:=r.nums) g r.ac;have A:(bS r.nums r.ac w).L.th=w.L.th:=qx r.ac;have Hn:∀u J Y,Ak u J->HW e.d Y (bS r.nums r.ac w)->rR e.off (n+10) 1018 25 (ky (bS r.nums r.ac w).aK.aE.rows) (r.L e u J) (e.M Y (bS r.nums r.ac w)):=λ u J Y X U=>D5 B b V2 (qw (J:=r.nums) g R r.ac) (by exact"yyQC_E#ftkM3G9vzd%VM6;FO0]" k N) (by rw[A];exact N3) (by rw[A];exact a) (A.trans x) U n X;have rc:(r.ac:Int)-0<=1000/\small 0=true/\small (r.ac:Int)=true:=⟨by exact"SKwz;k}cW~O021<k_hQC" N,by decide,aB (by exact"7A,x&aJ") (by exact"EVoj]M!'eX24m8J{2#," N)⟩;have j0:D6 e r w (ao 0 r.ac) (r.L e u []) (e.M H w):=⟨0,u,[],⟨rfl,.inl ⟨rfl,X,rfl⟩⟩,⟨rfl,Nat.zero_le _⟩,H,hw,rfl⟩;have f:(gB (n+10) tabs false e.off (((fnOf 1018).body.drop 24).take 1) (r.L e u []) (e.M H w) (hW (λ V y=> .p (∃u J,V=r.L e u J/\Ak u J/\e.Is (bS r.nums r.ac w) y)) (ky (bS r.nums r.ac w).aK.aE.rows))).sat:=by
  refine au _ rc (kg _ (D6 e r w) j0 (λ v l V M h=>?_) (λ V M h=>?_) (by rcases X with rfl|⟨v,rfl⟩<;>kernel_rfl)) (by rcases X with rfl|⟨v,rfl⟩<;>kernel_rfl);.
   obtain⟨j,F,J,⟨rfl,G⟩,⟨C,p⟩,H1,d,rfl⟩:=h;obtain⟨O,rfl,rfl⟩:=cz C;have o:=gV (J:=r.nums) g j;have D:=iB (Z:=e.off) (J:=r.nums) (i:=6+j) nl E (by exact";P{M`Q?nk9Mnzd'%}^!Q6" N O);have T:=Hk B o (by exact"egV0cR?]|AD!]IXnEZ}0,c^dzc7#{" k N O) d (Af nv (i:=6+j) (by exact";P{M`Q?nk9Mnzd'%}^!Q6" N O));have S:=λ(Y:Hd)U=>(o.act (aj r.nums (6+j))).gx (e:=e) (H:=Y) B b (by exact"O&tuU(rq!e%Y|Pu$G5p;j0VWOoeC8|5" k N O) U;have m:∀(u J:Loc)Y,Ak u J->HW e.d Y ((bS r.nums j w).act (aj r.nums (6+j))).aE->D6 e r w (ao (j+1:Nat) r.ac) (r.L e u J) (e.M Y ((bS r.nums j w).act (aj r.nums (6+j))).aE):=λ u J Y X U=>⟨j+1,u,J,⟨rfl,.inr ⟨Nat.succ_pos j,X⟩⟩,⟨rfl,O⟩,Y,U,rfl⟩;have i:=λ Y=>m [(61,.int j)] [] Y (.inl ⟨_,rfl,rfl⟩);have t:=λ Y=>m [] [(61,.int j)] Y (.inr ⟨_,rfl,rfl⟩);rcases G with⟨_,rfl|⟨v,rfl⟩,rfl⟩|⟨_,⟨v,rfl,rfl⟩|⟨v,rfl,rfl⟩⟩;.exact call _ D<|cf _ T λ I Q=>go _ [0]<|cf _ (S I Q) λ K W=>go _ [0]<|pk _ (t K W)
   .exact call _ D<|cf _ T λ I Q=>go _ [0]<|cf _ (S I Q) λ K W=>go _ [0]<|pk _ (i K W)
   .exact call _ D<|cf _ T λ I Q=>go _ [0]<|cf _ (S I Q) λ K W=>go _ [0]<|pk _ (i K W)
   .exact call _ D<|cf _ T λ I Q=>go _ [0]<|cf _ (S I Q) λ K W=>go _ [0]<|pk _ (t K W)
  .
   obtain⟨j,F,J,⟨rfl,G⟩,⟨C,p⟩,h⟩:=h;obtain rfl:=fy C p;have P:Ak F J:=by
    rcases G with⟨z,_⟩|⟨_,z⟩;.exact("%o2zjCiG9CE/;>." N z).elim
    .exact z
   have jx:∃u L,r.L e F J=r.L e u L/\Ak u L/\e.Is (bS r.nums r.ac w) M:=⟨F,J,rfl,P,h⟩;rcases X with rfl|⟨v,rfl⟩<;>exact pk _ jx
 exact jB (k:=24) 1 _ (λ V y q=>by obtain⟨u,J,rfl,X,Y,U,rfl⟩:∃u J,V=r.L e u J/\Ak u J/\e.Is (bS r.nums r.ac w) y:=q.h;exact Hn u J Y X U) f
end
structure RH(d t:Int)(J:List Nat)(Z:Nat):Prop where
 B:Bd d t
 h3:d=1\/3<=d
 nl:0<J.length
 uJ:J.length<=100
 nv:∀v,v∈J->v<999983
 ha:0<Z/\Z<=50
structure RP(J Z:List Int)(s:Nat):Prop where
 P:Pair J Z s
 N3:J.length<=s+3
 N6:J.length<=6
def u1(u:Loc):Prop:=u=[]\/∃v,u=[(61,v)]
theorem JB{Z n f k:Nat}{R:QS}{Y J:Loc}{M U:MH}(m:Nat)(r:rR Z n f (k+m) R J U)(h:(gB n tabs false Z (((fnOf f).body.drop k).take m) Y M (hW (zF J U) R)).sat):rR Z n f k R Y M:=jB m (zF J U) (λ _ _ q=>by obtain⟨h1,h2⟩:=(⟨V.ED q.h.1,q.h.2⟩:_=J/\_=U);subst h1 h2;exact r) h
section
variable{e:Ev}{w:Wd}{H:Hd}{Z:List Int}{s c:Nat}{r:Rv}
theorem xR(h:RH e.d e.t r.nums r.ac)(C:Inv Z s 1 w)(R:Rp w)(S:w.L.th.length<=s+3)(T:w.L.th.length<=6)(L:w.L.th=r.aa){m:lW}{a:mD}(P:w.ae[0]?=some m)(G:(w.take 0 false).store.back[0]?=some a)(X:w.gK.no=1)(B:HW e.d H (w.take 0 false))(n:Nat){u:Loc}(I:u1 u):rR e.off (n+10) 1018 22 (ky (bS r.nums r.ac w.gK.aE).aK.aE.rows) (r.L e u []) (e.M H (w.take 0 false)):=by
 have K:=C.take P false;have O:=K.store;have D:Inv Z s 3 w.gK:=O.read G false;haveI F:Rp w.gK:=(show Rp (w.take 0 false).store from R.take 0 false).read O 0 false;haveI V:w.gK.L.th=w.L.th:=rN.1;haveI E:=K.d8 (e:=e) (H:=H) (by decide) B;have j:=λ U Y=>O.jE (e:=e) (H:=U) h.B (by decide) Y G (ag:=false);have y:=λ U(Y:HW e.d U w.gK)=>D.gx (e:=e) (H:=U) h.B h.h3 (by decide) Y;refine HC (k:=22) 2 e w.gK.aE (r.L e u []) (λ U Y=>Al (w:=w.gK.aE) h.B h.h3 D.aE F (by decide) (by show w.gK.L.th.length<=_;rw[V];exact S) (by show w.gK.L.th.length<=_;rw[V];exact T) h.nl h.uJ h.nv (V.trans L) Y n h.ha I) ?_;haveI q:(w.gK.no:Int)=1:=by rw[X];rfl
 have J:∀U,HW e.d U w.gK.aE->rQ e w.gK.aE (r.L e u []) (r.L e u []) (e.M U w.gK.aE):=λ U Y=>⟨rfl,U,Y,rfl⟩;rcases I with rfl|⟨v,rfl⟩<;>exact cf _ E λ M Q=>cf _ (j M Q) λ A N=>go _ [0]<|nn _ q<|cf _ (y A N) λ z W=>go _ [0]<|pk _ (J z W)
end
def JC(d t:Int)(N Y:LN)(L O:LG)(Z J:Nat)(U:MH):MH:=uh (H_ d t 100 Y O J) (uh (H_ d t 0 N L Z) U)
def Am(g:Nat)(l:List V):MH:=[(34,some (g,.list l)),(33,none)]
def D7(Z:List Nat)(Y J:List Int)(W:Nat)(x:V)(g z:Nat)(X U Q:Int)(O:Nat):Rv:=⟨Z,Y,W,x,.ref 34 g,.lst (vI J),.int (((vI J).length:Nat)-1),.int z,.int X,.int U,.int Q,.ref 104 O⟩
def Rv.k(r:Rv)(J:Nat)(d t:Int)(Z:Nat)(u:Loc)(n:Nat):Loc:=(r.L ⟨J,d,t,⟨0,0,0,Z⟩⟩ u []).take (u.length+n)
section
variable{U:Nat}{d t:Int}{s:Nat}{W:List Nat}{Y Z:List Int}{Q:Nat}
theorem HD(h:RH d t W Q)(p:RP Y Z s){O N X z:Nat}(h1:O<Y.length)(h2:N<=O)(hs:X<s){su:Int}(be:su=(X:Int)){F B A C j E g:Nat}{l:List V}{x:V}(n:Nat){u:Loc}(hu:u1 u):rR U (n+10) 1018 16 (ky (bS W Q ((kx Y Z O N X z).send true).gK.aE).aK.aE.rows) ((D7 W Y Z Q x g z O N su C).k U d t F u 16) (JC d t (ku d F B A) (ku d C j E) (kx Y Z O N X z).L (kx Y Z O N X z).O N X (Am g l)):=by
 subst be;have P:=p.P;haveI sm:=P.sm;haveI bi:=P.st;have lm:uF z=0\/uF z=i3:=by unfold uF;split;exact .inr rfl;exact .inl rfl
 have sz:0<Hx z:=by unfold Hx;exact"g/MnrTCu%" [z,z/3,z%3,z/3/3,_] []
 haveI s3:Hx z<=3:=by unfold Hx;exact"HwfD:Q:F!0Nb4" [z,_,z%3,z/3/3,_] [] ⟨rfl,rfl⟩
 have f:=Hw P h1 h2 hs lm sz;obtain@⟨@m,@a,hm,ha,o⟩:=DZ P h1 h2 hs lm sz;haveI V1:=f.send true;haveI R1:Rp ((kx Y Z O N X z).send true):=Rp.send (λ h=>absurd (show(0:Nat)=1 from h) (by decide)) true;haveI r:((kx Y Z O N X z).send true).L.th=Y:=(cP (w:=kx Y Z O N X z) true).1;have l1:((vI Y).length:Int)=Y.length:=by rw[List.length_map]
 have l2:((vI Z).length:Int)=Z.length:=by rw[List.length_map]
 have I:cY (vI Y) (-1)=some (.int (aM Y)):=gM (by exact"3oh?(FG0$" sm);have H:cY (vI Z) (-1)=some (.int (aM Z)):=gM (by exact"3oh?(FG0$" bi);have T1:=Aa (c:=⟨U,d,t,ku d F B A,(kx Y Z O N X z).L,N⟩) (.inl rfl) f.wi.l (U:=d+(((vI Y).length:Nat)-1)) (Y:=aM Y+t) (show _=d+(Y.length:Int)-1 by exact")52<|K^7F6M(yD}&(cOW.$" l1) rfl;haveI b1:(aM Z+t<aM Y+t\/(aM Y+t=aM Z+t/\d+Z.length-1<=d+(((vI Y).length:Nat)-1)))↔decide (aM Z<aM Y\/(aM Y=aM Z/\(((vI Z).length:Nat):Int)-1<=((vI Y).length:Nat)-1))=true:=by rw[decide_eq_true_iff];exact"dFX`|p4f+1C3SGZPbQSkCecXi:&3Va+ypkxu'!B}wY8pl(;Z4(H8NJDN.Y)_Q903{6*')#k);R=%" l2
 haveI b2:(aM Y+t<aM Z+t\/(aM Z+t=aM Y+t/\d+Y.length-1<=d+(((vI Z).length:Nat)-1)))↔decide (aM Y<aM Z\/(aM Z=aM Y/\(((vI Y).length:Nat):Int)-1<=((vI Z).length:Nat)-1))=true:=by rw[decide_eq_true_iff];exact"dFX`|p4f+1C3SGZPbQSkCecXi:&3Va+ypkxu'!B}wY8pl(;Z4(H8NJDN.Y)_Q903{6*')#k);R=%" l1
 have U1:=jW (c:=⟨U,d,t,ku d C j E,(kx Y Z O N X z).O,X⟩) (.inr rfl) f.wi.o b1;have U2:=jW (c:=⟨U,d,t,ku d F B A,(kx Y Z O N X z).L,N⟩) (.inl rfl) f.wi.l b2;haveI c1:ew .GtE (.tup [.int (aM Y),.int (((vI Y).length:Nat)-1)]) (.tup [.int (aM Z),.int (((vI Z).length:Nat)-1)])=some (decide (aM Z<aM Y\/(aM Y=aM Z/\(((vI Z).length:Nat):Int)-1<=((vI Y).length:Nat)-1))):=rfl;haveI c2:ew .GtE (.tup [.int (aM Z),.int (((vI Z).length:Nat)-1)]) (.tup [.int (aM Y),.int (((vI Y).length:Nat)-1)])=some (decide (aM Y<aM Z\/(aM Z=aM Y/\(((vI Y).length:Nat):Int)-1<=((vI Z).length:Nat)-1))):=rfl;haveI q:∀b:Bool,(!(b==b))=false:=λ b=>by rw[beq_self_eq_true];rfl
 haveI q1:=q (decide (aM Z<aM Y\/(aM Y=aM Z/\(((vI Z).length:Nat):Int)-1<=((vI Y).length:Nat)-1)));haveI q2:=q (decide (aM Y<aM Z\/(aM Z=aM Y/\(((vI Y).length:Nat):Int)-1<=((vI Z).length:Nat)-1)));haveI m9:(0:Int)<9/\small 9=true:=⟨by decide,by decide⟩;have K:=λ(G D R:Nat)S(L:HW d S (((kx Y Z O N X z).send true).take 0 false))=>xR (e:=⟨U,d,t,⟨G,D,R,F⟩⟩) (r:=D7 W Y Z Q x g z O N X C) h V1 R1 (Nat.le_trans (Nat.le_of_eq (congrArg List.length r)) p.N3) (Nat.le_trans (Nat.le_of_eq (congrArg List.length r)) p.N6) r hm ha o L n hu;have J:∀(G D R:Nat)S(L:HW d S (((kx Y Z O N X z).send true).take 0 false)),∃k v w,rQ ⟨U,d,t,⟨k,v,w,F⟩⟩ (((kx Y Z O N X z).send true).take 0 false) ((D7 W Y Z Q x g z O N X C).L ⟨U,d,t,⟨k,v,w,F⟩⟩ u []) ((D7 W Y Z Q x g z O N X C).L ⟨U,d,t,⟨G,D,R,F⟩⟩ u []) (Ev.M ⟨U,d,t,⟨G,D,R,F⟩⟩ S (((kx Y Z O N X z).send true).take 0 false)):=λ G D R S L=>⟨G,D,R,rfl,S,L,rfl⟩;have T:=λ(G D R i gr e c gw:Nat)=>f.di (e:=⟨U,d,t,⟨G,D,R,F⟩⟩) (H:=⟨i,gr,B,A,i9,d,C,j,E,i9,d,e,c,gw,0,d+(((vI Y).length:Nat)-1)+1,0,0,0,[]⟩) h.B (by decide) ⟨RR.nil sz s3 (Nat.zero_le _),rfl,.inl (show d+(((vI Y).length:Nat)-1)+1=d+((Y.length+1:Nat):Int)-1 by exact"fo?7q:Fq{jlo&lkJ*+{zGE/d$" l1),rfl⟩ (b:=true);have T':=λ(G D R:Nat)S L=>V1.jD (e:=⟨U,d,t,⟨G,D,R,F⟩⟩) (H:=S) h.B (by decide) L hm (ag:=false);refine jB (k:=16) 6 (λ y M=> .p (∃G D R,rQ ⟨U,d,t,⟨G,D,R,F⟩⟩ (((kx Y Z O N X z).send true).take 0 false) ((D7 W Y Z Q x g z O N X C).L ⟨U,d,t,⟨G,D,R,F⟩⟩ u []) y M)) (λ y M q=>by obtain⟨G,D,R,rfl,S,L,rfl⟩:=q.h;exact K G D R S L) ?_;rcases hu with rfl|⟨v0,rfl⟩<;>exact cn _ I<|call _ T1<|go _ [0]<|cn _ I<|call _ U1<|cn _ I<|cn _ H<|p8 _ c1<|fq _ q1<|cn _ H<|call _ U2<|cn _ H<|cn _ I<|p8 _ c2<|fq _ q2<|au _ m3<|au _ m3<|b_ _ λ i=>go _ [2]<|b_ _ λ gr=>b_ _ λ D=>go _ [2]<|au _ m9<|au _ m2<|cn _ (Ag (z:=z))<|b_ _ λ R=>b_ _ λ e=>b_ _ λ c=>b_ _ λ gw=>au _ (rfl:19=19)<|b_ _ λ G=>DD _ (T G D R i gr e c gw) λ H1 ad=>go _ [0]<|cf _ (T' G D R H1 ad) λ H2 bd=>go _ [0]<|pk _ (J G D R H2 bd)
end
def bL(J:List Nat)(d t:Int)(Z:Nat)(x:V)(g:Nat)(u r:Loc):Loc:=(96,.lst (vN J))::(100,.int d)::(77,.int t)::(154,.int Z)::(111,x)::(97,.ref 34 g)::(u++r)
def bR(Z J:List Int)(z:V)(U Y:Int):Loc:=[(78,.lst (vI Z)),(124,.lst (vI J)),(12,.int (((vI Z).length:Nat)-1)),(94,.int (((vI J).length:Nat)-1)),(155,z),(101,.int U),(43,.int Y)]
def rows0(J:List Nat)(Z:Nat)(w:Wd):List V:=(bS J Z (w.send true).gK.aE).aK.aE.rows
def Ke(W:List Nat)(Y J:List Int)(T:Nat)(x:V)(g z:Nat)(D U:Nat)(L:Int)(Z G:Nat)(d t:Int)(u:Loc)(l:List V)(Q:Loc)(M:MH):Prop:=∃K N O I X R,Q=(D7 W Y J T x g z D U L I).k G d t K u 16/\M=JC d t (ku d K N O) (ku d I X R) (kx Y J D U Z z).L (kx Y J D U Z z).O U Z (Am g l)
section
variable{W:Nat}{d t:Int}{s:Nat}{Y:List Nat}{U Z:List Int}{Q:Nat}
theorem HE(h:RH d t Y Q)(p:RP U Z s){O X:Nat}(h1:O<U.length)(h2:X<=O){g:Nat}{l:List V}(B:l.length=s){x m:V}(n:Nat){u:Loc}(z:u1 u){f r:Int}(j:f=(O:Int))(C:r=(X:Int)):rR W (n+10) 1018 10 (ky (rows0 Y Q (kx U Z O X (aj Y 5%s) (aj Y 5)))) (bL Y d t Q x g u (bR U Z m f r)) (Am g l):=by
 subst j C;have P:=p.P;haveI e:=P.s1;have o:=P.sm;have H:=P.st;haveI E:=P.tm.1;have A:aj Y 5%s<s:=Nat.mod_lt _ e;haveI l2:((vI Z).length:Int)=Z.length:=by rw[List.length_map]
 have G:=Bf (J:=0) (d:=d) (t:=t) (l:=U) (k:=O) h.B (.inl rfl) P.tm (by exact"2.UNMrPZUp&6" o A) h1;have G2:Cq.ok ⟨4,false,929,100,[.lst (vI Z),.int d,.int t,.int (((vI Z).length:Nat)-1)],[],DT d t 100 Z (Z.length-1)⟩:=by haveI q:=Bf (J:=100) (d:=d) (t:=t) (l:=Z) (k:=Z.length-1) h.B (.inr rfl) P.tt (by exact"2.UNMrPZUp&6" H A) (by exact"Gs!}M<^L|eFC<)t" rfl H);unfold Be at q;rw[show((Z.length-1:Nat):Int)=((vI Z).length:Nat)-1 by exact"ZaLgY}Q*v;wLG'!1Z]HE~+v]k?|6A4" rfl H l2]at q;exact q
 have b:s8 Z (Z.length-1)=(kx U Z O X (aj Y 5%s) (aj Y 5)).O:=by show(⟨Z,Z.take (Z.length-1+1),0,0,Z.length-1+1,false⟩:LG)=⟨Z,Z,0,0,Z.length,false⟩;rw[show Z.length-1+1=Z.length by exact"g<z8Ll:rf^,%V{%:bOb" rfl H,List.take_length]
 have c:(0:Int)<(l.length:Nat)/\small ((l.length:Nat):Int)=true:=⟨by exact"eD?_UC{0)P><R#" B A,aB (by exact"7A,x&aJ") (by exact"/#Ae)_eIE*M;)bQBhkZ[#" B o E)⟩;have w:(aj Y 5:Int)%(l.length:Nat)=((aj Y 5%s:Nat):Int):=by rw[B];rfl
 haveI a:LW (kx U Z O X (aj Y 5%s) (aj Y 5)).L:=Kc P.tm h1;haveI WO:LW (kx U Z O X (aj Y 5%s) (aj Y 5)).O:=Kb P.tt (by exact"TVd3[/Ig9!" H);haveI y:=λ F I N=>gv (c:=⟨W,d,t,ku d F I N,(kx U Z O X (aj Y 5%s) (aj Y 5)).L,0⟩) (.inl rfl) a (k:=X) rfl (show X<U.length by exact"wlneFLMOiL!" h1 h2);have k:=λ T R L=>gv (c:=⟨W,d,t,ku d T R L,(kx U Z O X (aj Y 5%s) (aj Y 5)).O,0⟩) (.inr rfl) WO (k:=aj Y 5%s) (i:=d+(aj Y 5:Int)%(l.length:Nat)) (by rw[w]) (show aj Y 5%s<Z.length by exact"(aM>T0N{IN#!" H A);simp only[Nat.zero_max]at y k;have D:=iB (Z:=W) (J:=Y) (i:=5) h.nl h.uJ (by decide);have K:=λ(F I N T R L:Nat)=>HD (U:=W) h p h1 h2 A w (z:=aj Y 5) (F:=F) (B:=I) (A:=N) (C:=T) (j:=R) (E:=L) (g:=g) (l:=l) (x:=x) n z;have J:∀F I N T R L,Ke Y U Z Q x g (aj Y 5) O X ((aj Y 5:Int)%(l.length:Nat)) (aj Y 5%s) W d t u l ((D7 Y U Z Q x g (aj Y 5) O X ((aj Y 5:Int)%(l.length:Nat)) T).k W d t F u 16) (JC d t (ku d F I N) (ku d T R L) (kx U Z O X (aj Y 5%s) (aj Y 5)).L (kx U Z O X (aj Y 5%s) (aj Y 5)).O X (aj Y 5%s) (Am g l)):=λ F I N T R L=>⟨F,I,N,T,R,L,rfl,rfl⟩;refine jB (k:=10) 6 (λ S M=> .p (Ke Y U Z Q x g (aj Y 5) O X ((aj Y 5:Int)%(l.length:Nat)) (aj Y 5%s) W d t u l S M)) (λ S M q=>by obtain⟨F,I,N,T,R,L,rfl,rfl⟩:=q.h;exact K F I N T R L) ?_;rcases z with rfl|⟨v0,rfl⟩<;>exact e_ _ G λ v M h=>by obtain⟨F,I,N,rfl,rfl⟩:=h;exact call _ (y F I N)<|call _ D<|au _ c<|e_ _ G2 λ v M h=>by obtain@⟨@T,@R,@L,(rfl),i⟩:=h;rw[b]at i;subst i;exact call _ (k T R L)<|pk _ (J F I N T R L)
end
theorem m9:(0:Int)<9/\small 9=true:=⟨by decide,by decide⟩
theorem KP:(0:Int)<27/\small 27=true:=⟨by decide,by decide⟩
def nE(g:Nat)(l:List V):MH:=[(34,some (g,.list l))]
section
variable{U:Nat}{d t:Int}{s:Nat}{Z:List Nat}{Y Q:List Int}{W:Nat}
theorem JD(h:RH d t Z W){x i:Nat}(N:i<=2){g:Nat}(n:Nat){u:Loc}(I:u1 u):rR U (n+10) 1018 3 (ky (jd (bQ (shr x i) (aj Z 1) (uG x) 1) (bQ (shr x i) (aj Z 2) (x8 x) 0) Z (i+1) W)) (bL Z d t W (.int x) g u []) (nE g (vI (shr x i))):=by
 have O:=(jF (x:=x) (i:=i)).1;haveI A:(vI (shr x i)).length=i+1:=by rw[List.length_map];exact O
 have T:1<=uG x/\uG x<=3:=by unfold uG;exact"#%oDW2|}&v^w3EBRqYKR=#" [x,_,x%3,(x/3+1)/3,_] [] ⟨rfl,rfl⟩
 have H:1<=x8 x/\x8 x<=3:=by unfold x8;exact"#%oDW2|}&v^w3EBRqYKR=#" [x,_,x%9,(x/9+1)/3,_] [] ⟨rfl,rfl⟩
 have X:1+((x:Int)/3+1)%3=(uG x:Nat):=by unfold uG;exact"zu~4D6OG+HW.HiYNMrD`)IbUaLi8x8'SsJsblC|f2A44H%D1_m=*yjmST)uzVIm+9nG;xlN5Pn~LLKX,kJPiK%" [_,_,x%3,(x/3+1)/3,_] [_,_,_,_] ⟨rfl,rfl⟩ ⟨rfl,rfl⟩ ⟨rfl,rfl⟩ ⟨rfl,rfl⟩
 have L:1+((x:Int)/9+1)%3=(x8 x:Nat):=rfl;have P:=Hu (x:=x) (Y:=aj Z 1) (U:=aj Z 2) N T.1 T.2 H.1 H.2;have D:(bQ (shr x i) (aj Z 1) (uG x) 1).length=i+1+uG x:=gQ;have S:=iB (Z:=U) (J:=Z) (i:=1) h.nl h.uJ (by decide);have v:=iB (Z:=U) (J:=Z) (i:=2) h.nl h.uJ (by decide);have B:=iB (Z:=U) (J:=Z) (i:=4) h.nl h.uJ (by decide);have E:=s9 (U:=U) (g:=g) (n:=aj Z 1) (c:=uG x) (Z:=shr x i) (J:=1) (by exact")05vRUlqIW!" O) (by exact"o'72pk!v$zky^PTvD*TZ#D(MrunxU#" [_,_,_,x] [_,(↑x:Int)%3,_,_] ⟨rfl,rfl⟩ N O X);have w:=s9 (U:=U) (g:=g) (n:=aj Z 2) (c:=x8 x) (Z:=shr x i) (J:=0) (by exact")05vRUlqIW!" O) (by exact"o'72pk!v$zky^PTvD*TZ#D(MrunxU#" [_,_,_,x] [_,(↑x:Int)%9,_,_] ⟨rfl,rfl⟩ N O L);have j:=congrArg (λ y=>[V.ref 34 g,.int (aj Z 1),.int y,.int 1]) X;have z:=congrArg (λ y=>[V.ref 34 g,.int (aj Z 2),.int y,.int 0]) L;have p:RP (bQ (shr x i) (aj Z 1) (uG x) 1) (bQ (shr x i) (aj Z 2) (x8 x) 0) (i+1):=⟨P,by exact"`A|L*0<]fntQVv,BW.:`K%Wj:R+r'" [_,_,x,_] [_,(↑x:Int)%3,_,_] ⟨rfl,rfl⟩ X D,by exact"_5G$Z(;(JKJ2vIQhHc+|(y({(=5Q(G" [_,_,x,_] [_,(↑x:Int)%3,_,_] ⟨rfl,rfl⟩ N X D⟩;generalize bQ (shr x i) (aj Z 1) (uG x) 1=Y at*;generalize bQ (shr x i) (aj Z 2) (x8 x) 0=Q at*;have C:=P.sm;have F:((vI Y).length:Int)=Y.length:=by rw[List.length_map]
 have J:(((vI Y).length:Nat):Int)-1-(aj Z 4:Int)%2=((cR Y Z:Nat):Int):=by unfold cR;exact"9OZ^A:de>21nz3+u9C0h%*FDHhjz8w*Ar'Vc>Z]0)2/&&AE^kfh$:gRrWK9cuIUt2(Ivx[^FiTB)[('6" [_,_,_,Y.length-1,aj Z 4/2,_,_,_] [_,_] ⟨rfl,rfl⟩ rfl ⟨rfl,rfl⟩ rfl C F
 have G:cR Y Z<Y.length:=by unfold cR;exact"67^VU<IR*,{Xvzp.w>PF)!AK[B(.'%#CziIs<aI?4YCMy(Cq$md" [_,Y.length-1,_,aj Z 4/2,_,_,_,_] [_,_] rfl rfl ⟨rfl,rfl⟩ F J
 have M:(0:Int)<(((vI Y).length:Nat):Int)-1-(aj Z 4:Int)%2+1/\small ((((vI Y).length:Nat):Int)-1-(aj Z 4:Int)%2+1)=true:=⟨by exact")T]_0O<|{$)+mb`Y'5P&B+&" [_,aj Z 4,_] [(↑(aj Z 4):Int)/2,_] J,aB (by exact")s!%|T6)nKS_9nQQf9iWDK$" [_,aj Z 4,_] [(↑(aj Z 4):Int)/2,_] J) (by exact"N:U!v<Co3^&7+9Vjqs{k^~V5GMYTuP1u!3!Gz3N!alxCGf`HN>2OB'(f)#" [_,aj Z 4,_,x,_,_,_] [(↑(aj Z 4):Int)/2,_,_,(↑x:Int)%3,_,_] ⟨rfl,rfl⟩ N X D J G)⟩;haveI R:(((vI Y).length:Nat):Int)-1-(aj Z 4:Int)%2-(aj Z 4:Int)/2%((((vI Y).length:Nat):Int)-1-(aj Z 4:Int)%2+1)=((D0 Y Z:Nat):Int):=by haveI q:aj Z 4/2%(cR Y Z+1)<cR Y Z+1:=Nat.mod_lt _ (Nat.succ_pos _);haveI e:(aj Z 4:Int)/2%((cR Y Z:Int)+1)=((aj Z 4/2%(cR Y Z+1):Nat):Int):=rfl;rw[J,e];unfold D0;exact"'EL9[UGStywknq=:por%(v" rfl q
 have K:=HE (W:=U) (d:=d) (t:=t) h p G (Nat.sub_le ..) (g:=g) A (x:= .int x) (m:= .int (aj Z 4)) n I J R;refine JB (k:=3) 7 K ?_;rcases I with rfl|⟨k,rfl⟩<;>exact call _ S<|au _ m3<|au _ m3<|hZ _ E _ j<|call _ v<|au _ m9<|au _ m3<|hZ _ w _ z<|call _ B<|au _ m2<|au _ m2<|au _ M<|fin _
def tv(Z:List Nat)(d t:Int)(W x g k:Nat)(r:List V)(J:Loc)(M:MH):Prop:=∃(j:Nat)(u:Loc),(J=bL Z d t W (.int x) g u []/\u1 u)/\(r=ao j k/\j<=k)/\M=nE g (vI (shr x j))
theorem JE(h:RH d t Z W){x g:Nat}(n:Nat):rR U (n+10) 1018 2 (ky (jd (bQ (shr x ((x+1)%3)) (aj Z 1) (uG x) 1) (bQ (shr x ((x+1)%3)) (aj Z 2) (x8 x) 0) Z ((x+1)%3+1) W)) (bL Z d t W (.int x) g [] []) (nE g (vI (shr x 0))):=by
 have L:(x+1)%3<=2:=by exact"2U9`%wZ`'#|)" [_,(x+1)/3,_] [] ⟨rfl,rfl⟩
 haveI O:((x:Int)+1)%3=(((x+1)%3:Nat):Int):=rfl;haveI K:=λ u X=>JD (U:=U) (x:=x) (i:=(x+1)%3) (g:=g) h L n (u:=u) X;generalize(x+1)%3=k at L O K⊢;haveI F:((x:Int)+1)%3-0<=1000/\small 0=true/\small (((x:Int)+1)%3)=true:=by rw[O];exact⟨by exact",_||_JO_F=Fy{:WpaDCe[y!7" ⟨rfl,rfl⟩ O,by decide,aB (by exact"7A,x&aJ") (by exact"#Gpu%j.%CLX)[&q#%b4m?D(" ⟨rfl,rfl⟩ O)⟩
 have H:tv Z d t W x g k (ao 0 (((x:Int)+1)%3)) (bL Z d t W (.int x) g [] []) (nE g (vI (shr x 0))):=⟨0,[],⟨rfl,.inl rfl⟩,⟨by rw[O];rfl,Nat.zero_le _⟩,rfl⟩;refine jB (k:=2) 1 (λ V M=> .p (tv Z d t W x g k [] V M)) (λ V M q=>by obtain⟨j,u,⟨rfl,X⟩,⟨e,I⟩,rfl⟩:=q.h;obtain rfl:=fy e I;exact K u X)<|au _ m3<|au _ F<|kg _ (tv Z d t W x g k) H (λ v r V M q=>?_) λ V M q=>pk _ q;obtain⟨j,u,⟨rfl,X⟩,⟨e,I⟩,rfl⟩:=q;obtain⟨N,rfl,rfl⟩:=cz e;have G:=(jF (x:=x) (i:=j)).1;have R:cY (vI (shr x j)) (-1)=some (.int (aM (shr x j))):=gM (by exact")05vRUlqIW!" G);have A:(2:Int)^((j:Int).toNat)=((2^j:Nat):Int):=by rw[Int.toNat_natCast];exact(Int.natCast_pow 2 j).symm
 have D:j=0\/j=1:=by exact"W3UOc!V/k2R`Wfi&.{.Wppsbp+HtYB" ⟨rfl,rfl⟩ O N
 have T:(vI (shr x j)).length<lid:=by rw[List.length_map,G];unfold lid;exact"&S4LO{:#8cBG9|ysAJs" D
 have S:vI (shr x j)++[.int (aM (shr x j)+((x:Int)/27/2^((j:Int).toNat)+1)%2)]=vI (shr x (j+1)):=by rw[A];exact(List.map_append (l₁:=shr x j) (l₂:=[aM (shr x j)+(((x/27/2^j+1)%2:Nat):Int)])).symm
 have J:tv Z d t W x g k (ao (j+1:Nat) k) (bL Z d t W (.int x) g [(61,.int j)] []) (nE g (vI (shr x j)++[.int (aM (shr x j)+((x:Int)/27/2^((j:Int).toNat)+1)%2)])):=⟨j+1,_,⟨rfl,.inr ⟨_,rfl⟩⟩,⟨rfl,N⟩,by rw[S]⟩;haveI P:(0:Int)<2^((j:Int).toNat)/\small (2^((j:Int).toNat))=true:=by rcases D with rfl|rfl<;>decide
 rcases D with rfl|rfl<;>rcases X with rfl|⟨B,rfl⟩<;>exact cn _ R<|au _ KP<|au _ P<|au _ m2<|au _ T<|pk _ J
def runC(U:Nat)(Z:List Nat)(d t:Int)(W:Nat):Cq:=⟨11,false,1018,U,[.lst (vN Z),.int d,.int t,.int W],[],λ v _=>v= .lst (jd (mi Z) (fD Z) Z ((aj Z 0+1)%3+1) W)⟩
theorem Bg(h:RH d t Z W):(runC U Z d t W).ok:=Cq.H8 λ n=>by
 haveI D:=iB (Z:=U) (J:=Z) (i:=0) h.nl h.uJ (by decide);haveI K:=λ g=>JE (U:=U) (x:=aj Z 0) (g:=g) h n;refine rR.mono (R:=ky (jd (mi Z) (fD Z) Z ((aj Z 0+1)%3+1) W)) (jB (k:=0) 2 (λ V M=> .p (∃g,V=bL Z d t W (.int (aj Z 0)) g [] []/\M=nE g (vI (shr (aj Z 0) 0)))) (λ V M q=>by obtain⟨g,rfl,rfl⟩:=q.h;exact K g) ?_) λ o V M q=>by cases o<;>exact q
 haveI J:∀g,∃O,bL Z d t W (.int (aj Z 0)) g [] []=bL Z d t W (.int (aj Z 0)) O [] []/\nE g (vI (shr (aj Z 0) 0))=nE O (vI (shr (aj Z 0) 0)):=λ g=>⟨g,rfl,rfl⟩;exact call _ D<|b_ _ λ g=>pk _ (J g)
end
def D8(J:Nat)(l:List V):Cq:=⟨12,false,1023,J,[.lst l],[],λ v _=>v= .bool true⟩
def An(l:List V)(J:List Nat)(x:Nat)(r:Loc):Loc:=(158,.lst l)::(96,.lst (vN J))::(111,.int x)::r
structure NH(J:List Nat):Prop where
 nl:0<J.length
 uJ:J.length<=100
 nv:∀v,v∈J->v<999983
def DH(d:Int):Prop:=(1<=d/\d<2199023255552)/\(d=1\/3<=d)
section
variable{Y:Nat}{Z:List Nat}{l:List V}{x:Nat}
theorem JF(N:NH Z){d:Int}(D:DH d)(n:Nat):rR Y (n+11) 1023 5 (D8 Y l).fin (An l Z x [(100,.int d)]) []:=GZ<|by
 haveI Q:=Hz (x/200%5);haveI I:((x:Int)/1000%4)=((x/1000%4:Nat):Int):=rfl;have G:(5:Int)+min 3 (((l.length:Nat):Int)/4)=((5+min 3 (l.length/4):Nat):Int):=by exact"UL^?QfD,O%kW&'K&oZXrQ_At|w'frAo}|Bz0_Y.7i$G0x*y0?%G7aTjP8~#6*W%u%DK}.fmW=3]eg~DF=)" [_,_,l.length%4,_] [_,_,_] ⟨rfl,rfl⟩ rfl ⟨rfl,rfl⟩ rfl
 have O:0<5+min 3 (l.length/4)/\5+min 3 (l.length/4)<=50:=by exact"+=tO5tzpT.}f{XeJHRHRlBnI[tL|:1" [l.length,_,l.length%4,_] [] rfl
 haveI J:=Bg (U:=Y) (Z:=Z) (d:=d) (t:=tB (x/200%5)+(x:Int)/1000%4-1) (W:=5+min 3 (l.length/4)) ⟨⟨D.1.1,D.1.2,by exact"[I_)6'uB=rP#4fFK`x3^pXJ0PoR[k1K~(a" ⟨rfl,rfl⟩ Q,by exact"N6}~{JTKH!fm4rn&!hmhov!6?o<Dyc8~IHDCp;" ⟨rfl,rfl⟩ Q⟩,D.2,N.nl,N.uJ,N.nv,O⟩;haveI U:=Bg (U:=Y) (Z:=Z) (d:=1) (t:=0) (W:=5+min 3 (l.length/4)) ⟨⟨by decide,by decide,by decide,by decide⟩,.inl rfl,N.nl,N.uJ,N.nv,O⟩;unfold runC at J U;rw[<-G]at J U;haveI X:=ne_nil (Aj (Z:=mi Z) (J:=fD Z) (Y:=Z) (s:=(aj Z 0+1)%3+1) (U:=5+min 3 (l.length/4)));haveI W:ew .Eq (.lst (jd (mi Z) (fD Z) Z ((aj Z 0+1)%3+1) (5+min 3 (l.length/4)))) (.lst (jd (mi Z) (fD Z) Z ((aj Z 0+1)%3+1) (5+min 3 (l.length/4))))=some true:=tn (Ai (Y:=mi Z) (J:=fD Z) (Z:=Z) (s:=(aj Z 0+1)%3+1) (U:=5+min 3 (l.length/4)));generalize jd (mi Z) (fD Z) Z ((aj Z 0+1)%3+1) (5+min 3 (l.length/4))=R at J U X W;exact au _ (mc (i:=200) (by decide) (by decide))<|au _ m5<|cn _ (HB (x:=x))<|au _ (mc (i:=1000) (by decide) (by decide))<|au _ m4<|au _ m4<|e_ _ J λ v M h=>by obtain rfl:v= .lst R:=h;exact p8 _ X<|go _ [1]<|e_ _ U λ v M h=>by obtain rfl:v= .lst R:=h;exact p8 _ W<|pk _ (rfl:V.bool true= .bool true)
theorem JG(N:NH Z)(n:Nat):rR Y (n+11) 1023 2 (D8 Y l).fin [(158,.lst l),(96,.lst (vN Z))] []:=by
 haveI D:=iB (Z:=Y) (J:=Z) (i:=3) N.nl N.uJ (by decide);generalize aj Z 3=x at D;haveI W:=Hy (x%5);haveI X:((x:Int)/5%5)=((x/5%5:Nat):Int):=rfl;haveI J:∀d,DH d->∃Q,DH Q/\An l Z x [(100,.int d)]=An l Z x [(100,.int Q)]/\([]:MH)=[]:=λ d h=>⟨d,h,rfl,rfl⟩;haveI O:=J 1 ⟨by decide,.inl rfl⟩;haveI V:=J (dB (x%5)+(x:Int)/5%5) ⟨by exact"Wr29ZEpvGweQ]y[GsX!Rsj>>^J=5G!^|8&cB?sfah$h'Lv=#+6#" [x] [_,_,(↑x:Int)%5,_,_] ⟨rfl,rfl⟩ W,.inr (by exact"Vw6Nmc!,o3y$|'F~[<t`HTy[R>ekyC6P(>/Qp#" [x] [_,_,(↑x:Int)%5,_,_] ⟨rfl,rfl⟩ W)⟩;refine jB (k:=2) 3 (λ U M=> .p (∃d,DH d/\U=An l Z x [(100,.int d)]/\M=[])) (λ U M q=>by obtain⟨d,h,rfl,rfl⟩:=q.h;exact JF N h n) ?_;refine call _ D<|au _ m5<|cn _ (HA (x:=x))<|au _ m5<|au _ m5<|au _ (mc (i:=25) (by decide) (by decide))<|au _ (mc (i:=8) (by decide) (by decide)) ?_;by_cases z:(x:Int)/25%8=7;.exact yq _ z<|pk _ O
 .exact nq _ z<|pk _ V
theorem HF(U:List Int):(D8 Y (U.map V.int)).ok:=Cq.H8 λ n=>by
 haveI I:(U.map V.int).length=U.length:=List.length_map ..;have G:((U.map V.int).drop 0).take (av (U.map V.int).length 14-0)=(U.take 14).map V.int:=by unfold av;rw[if_neg (by exact"2D[^nOsB"),List.drop_zero,Nat.sub_zero,I];show(U.map V.int).take (min 14 U.length)=_;rw[<-I,<-List.take_eq_take_min,List.map_take]
 have R:(U.take 14).length<=14:=by rw[List.length_take];exact"#[F!)n]hGm0Qm;1" rfl
 have D:(numsOf U).length=(U.take 14).length:=by unfold numsOf;rw[List.length_map]
 have F:∀v,v∈numsOf U->v<999983:=λ v O=>by obtain⟨i,_,rfl⟩:=List.mem_map.mp O;haveI:=Int.emod_nonneg i (show(999983:Int)≠0 by exact"K7iUpu$|e)KPU");haveI:=Int.emod_lt_of_pos i (show(0:Int)<999983 by exact"V4l>3%}45InA$");exact"nbHgjA9tGG$NS(Al_KU}9}jC2RC}" rfl this
 haveI K:=λ(Z:List Nat)(N:NH Z)=>JG (Y:=Y) (l:=U.map V.int) N n;have J:∀Z,NH Z->∃W,NH W/\[(158,V.lst (U.map V.int)),(96,.lst (vN Z))]=[(158,V.lst (U.map V.int)),(96,.lst (vN W))]/\([]:MH)=[]:=λ Z h=>⟨Z,h,rfl,rfl⟩;refine jB (k:=0) 2 (λ X M=> .p (∃Z,NH Z/\X=[(158,.lst (U.map V.int)),(96,.lst (vN Z))]/\M=[])) (λ X M q=>by obtain⟨Z,h,rfl,rfl⟩:=q.h;exact K Z h) ?_;haveI T:(((U.map V.int).drop 0).take (av (U.map V.int).length 14-0)).filterMap xP=vN (numsOf U):=by rw[G,qy];rfl
 have L:(vN (numsOf U)).length=(U.take 14).length:=by rw[List.length_map,D]
 haveI P:=mc (i:=999983) (by decide) (by decide);haveI S:=J [0] ⟨by decide,by decide,λ v O=>by rcases List.mem_cons.mp O with rfl|O;decide;cases O⟩;haveI H:=J (numsOf U);refine hY _ xP (l:=((U.map V.int).drop 0).take (av (U.map V.int).length 14-0)) (M:=[]) (λ v O Q q=>by rw[G]at O;obtain⟨i,_,rfl⟩:=List.mem_map.mp O;exact go _ [1]<|au _ P<|pk _ q) (by rw[T,L];unfold lid;exact"3V{a?5M9.,{O" R) ?_;rw[T];by_cases z:(((vN (numsOf U)).length:Nat):Int)=0;.exact yq _ z<|pk _ S
 .exact nq _ z<|pk _ (H ⟨by exact"i?gl][^1?aw8G|l{.AjP;j" D L z,by exact"Ry/pQ%n,z#y$4M&" R D,F⟩)
end
theorem xS(J:List Int):∃Z Y,iE (bB tabs fns 39) tabs false 0 g_.body [(158,.lst (J.map V.int))] ⟨[],0⟩= .mk (.ret (.bool true)) Z Y:=by have h:bV [] ⟨[],0⟩ (bB tabs fns 40 false 1023 0 [.lst (J.map V.int)] ⟨[],0⟩) (λ v _=>v= .bool true) rn:=(HF (Y:=0) J).h 40 (Nat.le_of_ble_eq_true rfl) ⟨[],0⟩ (λ _ _ _ h=>nomatch h);have Q:bB tabs fns 40 false 1023 0 [.lst (J.map V.int)] ⟨[],0⟩=jJ (bB tabs fns 39) tabs false g_ 0 [.lst (J.map V.int)] ⟨[],0⟩:=rfl;have W:jJ (bB tabs fns 39) tabs false g_ 0 [.lst (J.map V.int)] ⟨[],0⟩=qO (iE (bB tabs fns 39) tabs false 0 g_.body [(158,.lst (J.map V.int))] ⟨[],0⟩):=rfl;rw[Q,W]at h;obtain⟨v,Y,M,e,_,rfl⟩:=h.Eg;generalize iE (bB tabs fns 39) tabs false 0 g_.body [(158,.lst (J.map V.int))] ⟨[],0⟩=r at e;cases r with|stuck=>cases e|mk o Z U=>cases o with|az=>cases e|brk=>cases e|ret v=>cases e;exact⟨Z,_,rfl⟩|exc C m=>cases e
theorem D9{l:List (Str×NameKind)}(h:l.all (λ p=>!(p.2== .cell))=true)(n:Str)(e:l.lookup n=some .cell):False:=by
 induction l with
  |nil=>cases e
  |cons p r J=>
   obtain⟨b,k⟩:=p;have h2:=Bool.and_eq_true_iff.mp (show(!(k== .cell)&&r.all (λ p=>!(p.2== .cell)))=true from h);rw[List.lookup_cons]at e;by_cases q:(n==b)=true;.rw[q]at e;cases e;exact absurd h2.1 (by decide)
   .rw[Bool.not_eq_true]at q;rw[q]at e;exact J h2.2 e
theorem D_{K:Frag}(z:wd K=true){h:Heap}(X:K.In h){l:Addr}{Z:List Value}(J:h.get? l=some (aS Z 0)):∀a o,K.lookup a=some o->a≠l:=λ a o e q=>by
 subst q;have:=X a o e;rw[J]at this;cases this;have Y:(a,aS Z 0)∈K:=by
  clear X J z;induction K with
   |nil=>cases e
   |cons p r U=>
    obtain⟨b,ob⟩:=p;rw[List.lookup_cons]at e;by_cases q:a==b;.rw[q]at e;cases e;have:=eq_of_beq q;subst this;exact List.mem_cons_self ..
    .rw[Bool.not_eq_true]at q;rw[q]at e;exact List.mem_cons_of_mem _ (U e)
 have:=List.all_eq_true.mp z _ Y;cases this
end Mine
open Mine in set_option tactic.hygienic true in
theorem PySem.Challenge.cw_xm0824_01_holds : PySem.Challenge.rw_xm0824_01.Holds := by
 refine⟨rT,holds_open (q:=hq) (loose:=[]) (Xt:=HU) (XP:=XL hq []) (Yf:=Hook.obs zc) (Ya:=Hook.val zc) (YP:=Hook.says zc) (N:=16000) zd (Hook.of zc) (Hook.keeps zc) (λ s e=>xl_of s (Bool.and_eq_true_iff.mp e).1) XL.keeps (by rfl) (by rfl) (by rfl) (λ s e=>recFacts_of (Bool.and_eq_true_iff.mp e).2) (by rfl) (row_said rT) (by decide+kernel) ⟨rfl,rfl,rfl,rfl,rfl,by decide+kernel⟩ (by w_witness2) ?hc⟩;intro w s₀ s₁ mg mb G Y fa o pm cd doc dV kV ho hd hcd hD hmg hg args vals as hpre hlay hrd hwl hlo;have KX:=kIn_of Y;have X:=(Ground.X G).1;have V:=(Ground.X G).2;refine Ground.open G ?_;intro T B D TE TW;try(refine guard_noD D (by decide+kernel) ?_;clear D)
 obtain⟨_,_,M⟩:=bmod_of_top T;have TA:=at_of_top T;try(obtain⟨_,_,he,B0⟩:=based_of_top T rfl hmg ho hd;have he':cd=_:=he;subst he';clear he)
 clear hmg;wrow_args hpre hlay hrd hwl hlo;all_goals
  (
   first|refine callC_kw (enter_call ?_)|refine enter_call ?_|refine callC_kw (enter_callW ?_)|refine enter_callW ?_|w_how
   w_top on;try refine codeAny_mono ?_ (λ _ _ g=>GoodW.toG g)
   have K0:=below_caller (Top.heap T);w_call any ho hd hcd hD T F)
 rename_i ns hs1 hlay0 hL1 hr1 hl2 as1 as2 l vs as3 hIsL ra w1 r0 hI hr hc1 hc2 h₁ N0;clear hD;have w1:Well w.params s₁.heap (.ref l) (.list (ofPys (ns.map PyData.int))):=w1;cases w1 with
  |@list _ vs' _ hg' hw=>
   have hl:s₁.heap.get? l=some (aS vs' 0):=hg';have hlen:ns.length<=63:=by omega
   refine y5 (K:=hK w.params) (R:=wb) (l:=l) (N:=vs') (D:=ns) KX (topRead_of T) hl (CW hw) hlen (D_ (z4 _) KX hl) (ze (z1 _) (z2 _) (z3 _)) (λ f fn h=>List.all_eq_true.mp (z5 _) _ (dz h)) z6 rfl (λ n=>?_) (by kernel_rfl) (by decide+kernel) rfl F rfl (xS ns) (λ h' tk' keep=>?_);.exact λ h=>D9 (l:=_) (by decide) _ h
   .
    refine⟨.inl ⟨.bool true,.bool true,[],rfl,λ cls=>?_,?_,?_,λ _=>⟨List.nodup_nil,λ _ h=>nomatch h⟩⟩,keep,rfl,hg⟩;.rfl
    .constructor
    .exact postW_of (by wrow_shape) (by wtm_val) (by str_meet;first|done|w_fin)
