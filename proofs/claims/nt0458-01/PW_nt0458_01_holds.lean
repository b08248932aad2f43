import PyProof.Rows.All
import KE.KEqSeq
import KE.KItem
import OpenK.AllK
import OpenK.KLine
import OpenK.KMake
import OpenK.KWalk
import PyProof.TableCode
import Wide.All
import Wide.FinOn
import Lean
import PySem.Challenge.RW_nt0458_01
set_option Elab.async false
set_option genSizeOf false
set_option genInjectivity false
set_option maxRecDepth 100000
set_option linter.all false
set_option maxHeartbeats 8000000
local macro_rules
 | `(tactic|erw $s:rwRuleSeq)=>do
  let z:=Lean.mkNullNode
  let r:=(s.raw[1].getSepArgs.push (.node .none `x #[z,Lean.mkIdent `nf])).foldl (λr a=>let t:=match a[1].getId with
    | `xf => "zV ^eH Ru Rv Rx Ry Rz RA RB RC RD Qu Qv Qw"
    | `wf => "NJ Mh Ob"
    | `cf => "Mf JP Km Jk zW"
    | `ff => "^aA ^au ^decide_true ^decide_false ^Bool.not_true ^Bool.not_false ^Bool.and_true ^Bool.true_and ^Bool.and_false ^Bool.false_and ^Bool.or_true ^Bool.true_or ^Bool.or_false ^Bool.false_or"
    | `nf => "^PG ^PH ^List.map_cons ^List.map_nil ^IM ^IL ^Nat.reduceSub ^List.cons_append ^List.nil_append ^F4 ^F3 ^Gw ^Gv ^Ju ^Jw ^KX ^Jv ^Qd ^Qe ^Qf ^Qg ^Qh ^Qi ^Oc ^Od ^Oe ^Of ^FW R7 R8 R9 R_ Sa Sb Sd Se Sf Sh QW QX QY QZ Q0 Q2 Q3 Q4 Q5 Q6 Q7 Q8 Q9 Q_ Ra Rb Rc Rd Rf Rg Rh Ri RM Rl RE RN RY Rm RF RO RZ Rn RG RP R0 Ro RH RQ R1 Rp RI RT R2 Rq RJ RU R3 Rr RK RV R4 RW R5 RX R6 Rt RL Qy QM Qz QN QA QO QB QP QC QQ Qt Qx QD QE QR QF QS QG QT QH QU QI QV QJ QK QL CB aA au Qq Qp Kq Qm Qn Qo Np Nx Nw Nv Nr Nq Nn Ny Nu KQ Nt KR LY L6 LZ NI L7 L4 L5 L3 L1 L2 gL HT Ow HV ^Nc HD M_ Ia Ib OH HI JW Ea HK HJ Ou J0 OD JX Ox J1 H8 OF Hx Hy Oq J3 J4 Qs HL HN HO Ov Eb Ec Ed Kn HW HX Oy JO HQ OE Na HM x_call JY HY Oz JN Oo HZ H0 OB H6 H7 OC J6 Ko Hz HA HB HC Ot Qr Kp OG J8 OI JZ OA HR Gj Nb Md Me Mc M9 Kl ^J7 Oa J2 H9 H_ Ke Gx Fh MV Gm Gn MT Gp Gq Gr MU HE HF ^HH ^N6 Ge Gf Gg Gh Gi MS F9 F_ Ga Gb MR JQ N8 J5 N_ JU JV N9 N7 fA HU qm Gl El JR JT JS Qc"
    |_ => ""
   if t = "" then r.push (.node .none ``Lean.Parser.Tactic.simpLemma #[z,a[0],a[1]])
   else(t.splitOn " ").foldl (λr s=>let b:=s.front='^';r.push (.node .none ``Lean.Parser.Tactic.simpLemma #[if b then z else Lean.mkNullNode #[.node .none ``Lean.Parser.Tactic.simpPre #[Lean.mkAtom "↓"]],z,Lean.mkIdent (if b then(s.drop 1).toString else s).toName])) r) #[]
  let l:Lean.TSyntaxArray [`Lean.Parser.Tactic.simpErase,`Lean.Parser.Tactic.simpLemma]:=Lean.TSyntaxArray.mk r
  `(tactic|simp -dsimp only[$l,*])
namespace Mine
section
namespace Ar
set_option genCtorIdx false in
inductive T where
 |v (i:Nat)|n (k:Nat)|a (x y:T)|m (k:Nat) (x:T)|r (x:T) (k:Nat)
set_option genCtorIdx false in
inductive U where
 |c (x:T)|w (i:Nat)|n (k:Nat)|a (x y:U)|s (x y:U)|g (x:U)|m (k:Nat) (x:U)|r (x:U) (k:Nat)|M (k:Nat) (x:U)|R (x:U) (k:Nat)
set_option genCtorIdx false in
inductive P where
 |F|x (i:Nat)|l (x y:T)|e (x y:T)|q (x y:T)|L (x y:U)|E (x y:U)|Q (x y:U)
 |N (p:P)|C (p r:P)|D (p r:P)|I (p r:P)|B (p r:P)
noncomputable def T.x0:T:=.v 0
noncomputable def T.x1:T:=.v 1
noncomputable def T.x2:T:=.v 2
noncomputable def T.x3:T:=.v 3
noncomputable def T.x4:T:=.v 4
noncomputable def T.x5:T:=.v 5
noncomputable def T.x6:T:=.v 6
noncomputable def T.x7:T:=.v 7
noncomputable def T.x8:T:=.v 8
noncomputable def T.x9:T:=.v 9
noncomputable def T.bU:T:=.v 10
noncomputable def T.bc:T:=.v 11
noncomputable def T.ed:T:=.v 12
noncomputable def T.ig:T:=.v 13
noncomputable def U.y0:U:=.w 0
noncomputable def U.y1:U:=.w 1
noncomputable def U.y2:U:=.w 2
noncomputable def U.y3:U:=.w 3
noncomputable def U.y4:U:=.w 4
noncomputable def U.y5:U:=.w 5
noncomputable def U.y6:U:=.w 6
noncomputable def U.y7:U:=.w 7
noncomputable def T.n0:T:=.n 0
noncomputable def U.n0:U:=.n 0
noncomputable def T.n1:T:=.n 1
noncomputable def U.n1:U:=.n 1
noncomputable def T.n2:T:=.n 2
noncomputable def U.n2:U:=.n 2
noncomputable def T.n3:T:=.n 3
noncomputable def U.n3:U:=.n 3
noncomputable def T.n4:T:=.n 4
noncomputable def U.n4:U:=.n 4
noncomputable def T.n5:T:=.n 5
noncomputable def U.n5:U:=.n 5
noncomputable def T.n6:T:=.n 6
noncomputable def U.n6:U:=.n 6
noncomputable def T.n7:T:=.n 7
noncomputable def U.n7:U:=.n 7
noncomputable def T.n8:T:=.n 8
noncomputable def U.n8:U:=.n 8
noncomputable def T.n9:T:=.n 9
noncomputable def U.n9:U:=.n 9
noncomputable def T.oM:T:=.n 10
noncomputable def U.oM:U:=.n 10
noncomputable def T.nA:T:=.n 14
noncomputable def U.nA:U:=.n 14
noncomputable def T.NT:T:=.n 15
noncomputable def U.NT:U:=.n 15
noncomputable def T.Iv:T:=.n 16
noncomputable def U.Iv:U:=.n 16
noncomputable def T.PD:T:=.n 20
noncomputable def U.PD:U:=.n 20
noncomputable def T.aQ:T:=.n 25
noncomputable def U.aQ:U:=.n 25
noncomputable def T.PE:T:=.n 48
noncomputable def U.PE:U:=.n 48
noncomputable def T.NU:T:=.n 62
noncomputable def U.NU:U:=.n 62
noncomputable def T.NV:T:=.n 63
noncomputable def U.NV:U:=.n 63
noncomputable def T.ko:T:=.n 64
noncomputable def U.ko:U:=.n 64
noncomputable def T.aG:T:=.n 1000
noncomputable def U.aG:U:=.n 1000
noncomputable def T.il:T:=.n 4096
noncomputable def U.il:U:=.n 4096
noncomputable def T.jQ:T:=.n 16384
noncomputable def U.jQ:U:=.n 16384
noncomputable def T.av:T:=.n 1000000
noncomputable def U.av:U:=.n 1000000
noncomputable def P.s(r a b:T):P:=.D (.C (.e b a) (.q (.a r b) a)) (.C (.e a b) (.q r .n0))
noncomputable def P.d(k:Nat)(r o a:T):P:=.C (.l o (.n k)) (.q (.a (.m k r) o) a)
noncomputable def P.t(r:T)(a:U):P:=.D (.C (.E .n0 a) (.Q (.c r) a)) (.C (.E a .n0) (.q r .n0))
noncomputable def P.b(r:T)(a:U):P:=.D (.C (.E .n0 a) (.Q (.c r) a)) (.C (.E a .n0) (.Q (.c r) (.g a)))
noncomputable def P.z(k:Nat)(d o a:U):P:=.C (.C (.E .n0 o) (.L o (.n k))) (.Q (.a (.m k d) o) a)
noncomputable section
def gn(l:List Nat):Nat→Nat:=@List.rec Nat (λ_=>Nat→Nat) (λi=>@Nat.rec (λ_=>Nat) 1 (λ_ _=>0) i) (λa _ f i=>@Nat.rec (λ_=>Nat) a (λj _=>f j) i) l
def gz(ζ:List Int)(ρ:List Nat):Nat→Int:=@List.rec Int (λ_=>Nat→Int) (λi=>(gn ρ i:Nat)) (λa _ f i=>@Nat.rec (λ_=>Int) a (λj _=>f j) i) ζ
def gx(ξ:List Prop):Nat→Prop:=@List.rec Prop (λ_=>Nat→Prop) (λ_=>True) (λa _ f i=>@Nat.rec (λ_=>Prop) a (λj _=>f j) i) ξ
section
variable (ξ:List Prop) (ζ:List Int) (ρ:List Nat)
def dT(t:T):Nat:=@T.rec (λ_=>Nat) (λi=>gn ρ i) (λk=>k) (λ_ _ x y=>x+y) (λk _ x=>k*x) (λ_ k x=>x*k) t
def dU(t:U):Int:=@U.rec (λ_=>Int) (λx=>((dT ρ x:Nat):Int)) (λi=>gz ζ ρ i) (λk=>((k:Nat):Int)) (λ_ _ x y=>x+y) (λ_ _ x y=>x-y) (λ_ x => -x) (λk _ x=>(k:Int)*x) (λ_ k x=>x*(k:Int)) (λk _ x => -(k:Int)*x) (λ_ k x=>x * -(k:Int)) t
def dP(p:P):Prop:=@P.rec (λ_=>Prop) False (λi=>gx ξ i) (λx y=>dT ρ x<dT ρ y) (λx y=>dT ρ x≤dT ρ y) (λx y=>dT ρ x=dT ρ y)
 (λx y=>dU ζ ρ x<dU ζ ρ y) (λx y=>dU ζ ρ x≤dU ζ ρ y) (λx y=>dU ζ ρ x=dU ζ ρ y)
 (λ_ x=>¬ x) (λ_ _ x y=>x∧y) (λ_ _ x y=>x∨y) (λ_ _ x y=>x→y) (λ_ _ x y=>x↔y) p
def im(hs:List P)(g:P):Prop:=@List.rec P (λ_=>Prop) (dP ξ ζ ρ g) (λh _ r=>dP ξ ζ ρ h→r) hs
end
abbrev b8:=List (Nat×Nat)
def pk(k:Nat)(f:Bool)(p:Nat×Nat):Nat×Nat:=@Bool.rec (λ_=>Nat×Nat) (p.1,p.2+k) (p.1+k,p.2) f
def up(k:Nat)(f:Bool)(i:Nat)(c:b8):b8:=@List.rec (Nat×Nat) (λ_=>Nat→b8) (λi=>@Nat.rec (λ_=>b8) [pk k f (0,0)] (λ_ r=>(0,0)::r) i) (λp r x i=>@Nat.rec (λ_=>b8) (pk k f p::r) (λj _=>p::x j) i) c i
def gd(c:b8):Nat→Nat:=@List.rec (Nat×Nat) (λ_=>Nat→Nat) (λ_=>0) (λp _ x n=>@Nat.rec (λ_=>Nat) 0 (λj _=>Nat.gcd (p.1-p.2+(p.2-p.1)) (x j)) n) c
def ck(g:Nat)(c:b8):Nat→Bool:=@List.rec (Nat×Nat) (λ_=>Nat→Bool) (λ_=>true) (λp _ x n=>@Nat.rec (λ_=>Bool) true (λj _=>@Bool.rec (λ_=>Bool) false (@Bool.rec (λ_=>Bool) false (x j) (Nat.beq (g*((p.2-p.1)/g)) (p.2-p.1))) (Nat.beq (g*((p.1-p.2)/g)) (p.1-p.2))) n) c
def dq(g:Nat)(c:b8):Nat→b8:=@List.rec (Nat×Nat) (λ_=>Nat→b8) (λ_=>[]) (λp _ x n=>@Nat.rec (λ_=>b8) [((p.1-p.2+(g-1))/g,(p.2-p.1)/g)] (λj _=>((p.1-p.2)/g,(p.2-p.1)/g)::x j) n) c
def Ol(g n:Nat)(c:b8):b8:=@Bool.rec (λ_=>b8) c (@Bool.rec (λ_=>b8) c (dq g c n) (ck g c n)) (Nat.blt 1 g)
def tg(n:Nat)(c:b8):b8:=Ol (gd c n) n c
section
variable (z m:Nat)
def aT(t:T):Nat→Bool→b8→b8:=@T.rec (λ_=>Nat→Bool→b8→b8) (λi k f c=>up k f (z+i) c) (λj k f c=>up (k*j) f m c) (λ_ _ x y k f c=>x k f (y k f c)) (λj _ x k f c=>x (k*j) f c) (λ_ j x k f c=>x (k*j) f c) t
def aU(t:U):Nat→Bool→b8→b8:=@U.rec (λ_=>Nat→Bool→b8→b8) (λt k f c=>aT z m t k f c) (λi k f c=>up k f i c) (λj k f c=>up (k*j) f m c) (λ_ _ x y k f c=>x k f (y k f c)) (λ_ _ x y k f c=>x k f (y k (!f) c)) (λ_ x k f c=>x k (!f) c) (λj _ x k f c=>x (k*j) f c) (λ_ j x k f c=>x (k*j) f c) (λj _ x k f c=>x (k*j) (!f) c) (λ_ j x k f c=>x (k*j) (!f) c) t
def eT(x y:T)(k:Nat):b8:=tg m (up k true m (aT z m x 1 true (aT z m y 1 false [])))
def eU(x y:U)(k:Nat):b8:=tg m (up k true m (aU z m x 1 true (aU z m y 1 false [])))
abbrev KC:=List b8→Bool
def gP(p:P):Bool→KC→KC:=@P.rec (λ_=>Bool→KC→KC)
 (λf k c=>@Bool.rec (λ_=>Bool) (k c) true f)
 (λ_ _ k c=>k c)
 (λx y f k c=>@Bool.rec (λ_=>Bool) (k (eT z m y x 0::c)) (k (eT z m x y 1::c)) f)
 (λx y f k c=>@Bool.rec (λ_=>Bool) (k (eT z m y x 1::c)) (k (eT z m x y 0::c)) f)
 (λx y f k c=>@Bool.rec (λ_=>Bool) (k (eT z m x y 1::c)&&k (eT z m y x 1::c)) (k (eT z m x y 0::eT z m y x 0::c)) f)
 (λx y f k c=>@Bool.rec (λ_=>Bool) (k (eU z m y x 0::c)) (k (eU z m x y 1::c)) f)
 (λx y f k c=>@Bool.rec (λ_=>Bool) (k (eU z m y x 1::c)) (k (eU z m x y 0::c)) f)
 (λx y f k c=>@Bool.rec (λ_=>Bool) (k (eU z m x y 1::c)&&k (eU z m y x 1::c)) (k (eU z m x y 0::eU z m y x 0::c)) f)
 (λ_ x f k c=>x (!f) k c)
 (λ_ _ x y f k c=>@Bool.rec (λ_=>Bool) (x false k c&&y false k c) (x true (y true k) c) f)
 (λ_ _ x y f k c=>@Bool.rec (λ_=>Bool) (x false (y false k) c) (x true k c&&y true k c) f)
 (λ_ _ x y f k c=>@Bool.rec (λ_=>Bool) (x true (y false k) c) (x false k c&&y true k c) f)
 (λ_ _ x y f k c=>@Bool.rec (λ_=>Bool) (x true (y false k) c&&x false (y true k) c) (x true (y true k) c&&x false (y false k) c) f) p
end
def hd(c:b8):Nat×Nat:=@List.rec (Nat×Nat) (λ_=>Nat×Nat) (0,0) (λp _ _=>p) c
def tl(c:b8):b8:=@List.rec (Nat×Nat) (λ_=>b8) [] (λ_ r _=>r) c
def c2(b a:Nat)(p q:Nat×Nat):Nat×Nat:=(b*p.1+a*q.1-(b*p.2+a*q.2),b*p.2+a*q.2-(b*p.1+a*q.1))
def cb(b a:Nat)(u:b8):b8→b8:=@List.rec (Nat×Nat) (λ_=>b8→b8) (λl=>@List.rec (Nat×Nat) (λ_=>b8) [] (λq _ y=>c2 b a (0,0) q::y) l) (λp _ x l=>c2 b a p (hd l)::x (tl l)) u
def Gy(n:Nat)(c:b8)(K:List b8):List b8:=@Bool.rec (λ_=>List b8) K (tg n (tl c)::K) (Nat.beq (hd c).1 (hd c).2)
def Kk(n:Nat)(c:b8)(K:List b8):List b8:=@Bool.rec (λ_=>List b8) K (tg n (tl c)::K) (Nat.ble (hd c).2 (hd c).1)
def IG(n:Nat)(u:b8)(cs K:List b8):List b8:=@List.rec b8 (λ_=>List b8) K (λl _ x=>@Bool.rec (λ_=>List b8) x (Gy n (cb ((hd l).2-(hd l).1) ((hd u).1-(hd u).2) u l) x) (Nat.blt (hd l).1 (hd l).2)) cs
def iL(n:Nat)(f:Bool)(cs ds:List b8):List b8:=@List.rec b8 (λ_=>List b8) [] (λu _ x=>@Bool.rec (λ_=>List b8) (Gy n u x) (IG n u cs (@Bool.rec (λ_=>List b8) x (Kk n u x) f)) (Nat.blt (hd u).2 (hd u).1)) ds
def bad(cs:List b8):Bool:=@List.rec b8 (λ_=>Bool) false (λc _ x=>@Bool.rec (λ_=>Bool) x true (Nat.blt (hd c).2 (hd c).1)) cs
def fm(fs:List Bool):List b8→Bool:=@List.rec Bool (λ_=>List b8→Bool) bad (λf r x cs=>x (iL r.length f cs cs)) fs
def Hf(z n:Nat):List Bool:=@Nat.rec (λ_=>List Bool) (@Nat.rec (λ_=>List Bool) [] (λ_ r=>true::r) n) (λ_ r=>false::r) z
def rf(z n:Nat)(hs:List P)(g:P):Bool:=(@List.rec P (λ_=>KC) (gP z (z+n) g false (fm (Hf z n))) (λh _ k=>gP z (z+n) h true k) hs) []
/-! soundness -/
def sg(k:Nat)(f:Bool):Int:=@Bool.rec (λ_=>Int) (k:Int) (-k) f
def dv(c:b8):(Nat→Int)→Int:=@List.rec (Nat×Nat) (λ_=>(Nat→Int)→Int) (λ_=>0) (λp _ x v=>((p.2:Int)-p.1)*v 0+x λi=>v (i+1)) c
end
variable {v:Nat→Int} {c d u l:b8} {cs ds K:List b8} {f:Bool}
def sh(v:Nat→Int):Nat→Int:=λi=>v (i+1)
theorem pU(c:b8)(v:Nat→Int):dv c v=(((hd c).2:Int)-(hd c).1)*v 0+dv (tl c) (sh v):=by
 cases c
 ·show(0:Int)=((0:Int)-0)*v 0+0;rw[Int.sub_self,Int.zero_mul];rfl
 ·rfl
theorem DF:∀(c:b8) {v:Nat→Int},(∀i,v i=0)→dv c v=0
 | [],_,_=>rfl
 |p::r,v,h=>by show _*v 0+dv r (sh v)=0;rw[DF r (v:=sh v) λi=>h (i+1),h 0,Int.mul_zero];rfl
theorem Qb{g n:Nat}(hg:0<g):n≤g*(n/g)+(g-1):=by
 have:=Nat.div_add_mod n g;have:=Nat.mod_lt n hg;omega
theorem MW(a b:Nat):(b:Int)-a=((b-a:Nat):Int)-((a-b:Nat):Int):=by omega
theorem CH{g:Nat}(hg:0<g):∀(c:b8) (n:Nat) (v:Nat→Int),v n=1→(∀i,v (n+i+1)=0)→ck g c n=true→dv c v≤g*dv (dq g c n) v+((g-1:Nat):Int)
 | [],n,v,_,_,_=>by show(0:Int)≤g*0+_;rw[Int.mul_zero,Int.zero_add];exact Int.natCast_nonneg _
 |p::r,0,v,h1,h2,_=>by
  show((p.2:Int)-p.1)*v 0+dv r (sh v)≤g*(((((p.2-p.1)/g:Nat):Int)-(((p.1-p.2+(g-1))/g:Nat):Int))*v 0+0)+_
  rw[h1,Int.mul_one,Int.mul_one,DF r (v:=sh v) λi=>by have:=h2 i;rwa [Nat.zero_add]at this,Int.add_zero,Int.add_zero,Int.mul_sub,← Int.natCast_mul,← Int.natCast_mul]
  have e1:=Qb (n:=p.2-p.1) hg
  have e2:=Nat.mul_div_le (p.1-p.2+(g-1)) g
  rcases Nat.le_total p.1 p.2 with q|q
  ·have:(p.1-p.2+(g-1))/g=0:=Nat.div_eq_of_lt (by omega)
   rw[this];omega
  ·have:(p.2-p.1)/g=0:=by rw[Nat.sub_eq_zero_of_le q,Nat.zero_div]
   rw[this];omega
 |p::r,n+1,v,h1,h2,k=>by
  have k:@Bool.rec (λ_=>Bool) false (@Bool.rec (λ_=>Bool) false (ck g r n) (Nat.beq (g*((p.2-p.1)/g)) (p.2-p.1))) (Nat.beq (g*((p.1-p.2)/g)) (p.1-p.2))=true:=k
  cases e1:Nat.beq (g*((p.1-p.2)/g)) (p.1-p.2)with
  |false=>rw[e1]at k;cases k
  |true=>
   cases e2:Nat.beq (g*((p.2-p.1)/g)) (p.2-p.1)with
   |false=>rw[e1,e2]at k;cases k
   |true=>
    rw[e1,e2]at k
    have ih:=CH hg r n (sh v) h1 (λi=>by have:=h2 i;rw[Nat.add_right_comm n]at this;exact this) k
    show((p.2:Int)-p.1)*v 0+dv r (sh v)≤g*(((((p.2-p.1)/g:Nat):Int)-(((p.1-p.2)/g:Nat):Int))*v 0+dv (dq g r n) (sh v))+_
    rw[Int.mul_add,← Int.mul_assoc,Int.mul_sub,← Int.natCast_mul,← Int.natCast_mul,Nat.eq_of_beq_eq_true e1,Nat.eq_of_beq_eq_true e2,← MW,Int.add_assoc]
    exact Int.add_le_add_left ih _
theorem uw{n:Nat}(h1:v n=1)(h2:∀i,v (n+i+1)=0)(h:0≤dv c v):0≤dv (tg n c) v:=by
 unfold tg
 generalize gd c n=g
 unfold Ol
 cases e:Nat.blt 1 g with
 |false=>exact h
 |true=>
  have g1:1<g:=Nat.le_of_ble_eq_true e
  cases k:ck g c n with
  |false=>exact h
  |true=>
   have q:=Int.le_trans h (CH (by omega) c n v h1 h2 k)
   show 0≤dv (dq g c n) v
   refine Int.not_lt.mp λw=>?_
   have:=Int.mul_le_mul_of_nonneg_left (show dv (dq g c n) v ≤ -1 by omega) (Int.natCast_nonneg g)
   omega
theorem C6(k:Nat)(f:Bool)(p:Nat×Nat):(((pk k f p).2:Nat):Int)-((pk k f p).1:Nat)=(p.2:Int)-p.1+sg k f:=by
 cases f
 ·show((p.2+k:Nat):Int)-(p.1:Int)=(p.2:Int)-p.1+(k:Int);omega
 ·show(p.2:Int)-((p.1+k:Nat):Int)=(p.2:Int)-p.1 + -(k:Int);omega
theorem j_(k:Nat)(f:Bool):∀(c:b8) (i:Nat) (v:Nat→Int),dv (up k f i c) v=dv c v+sg k f*v i
 | [],0,v=>by
  show(((pk k f (0,0)).2:Int)-((pk k f (0,0)).1:Nat))*v 0+0=0+_
  rw[C6,Int.add_zero,Int.zero_add];show((0:Int)-0+_)*_=_;rw[Int.sub_self,Int.zero_add]
 | [],i+1,v=>by
  show((0:Int)-0)*v 0+dv (up k f i []) (λi=>v (i+1))=0+_
  rw[j_ k f [] i,Int.sub_self,Int.zero_mul,Int.zero_add];rfl
 |p::r,0,v=>by
  show(((pk k f p).2:Int)-((pk k f p).1:Nat))*v 0+_=((p.2:Int)-p.1)*v 0+dv r _+_
  rw[C6,Int.add_mul,Int.add_assoc,Int.add_assoc,Int.add_comm (sg k f*v 0)];rfl
 |p::r,i+1,v=>by
  show((p.2:Int)-p.1)*v 0+dv (up k f i r) (λi=>v (i+1))=_
  rw[j_ k f r i,← Int.add_assoc];rfl
theorem gX(k j:Nat)(x:Int):sg (k*j) f*x=sg k f*((j:Int)*x):=by
 cases f
 ·show((k*j:Nat):Int)*x=k*_;rw[Int.natCast_mul,Int.mul_assoc]
 ·show -((k*j:Nat):Int)*x = -k*_;rw[Int.natCast_mul,Int.neg_mul,Int.neg_mul,Int.mul_assoc]
theorem oZ(k:Nat)(f:Bool)(x:Int):sg k (!f)*x=sg k f * -x:=by
 cases f
 ·show -(k:Int)*x=k*_;rw[Int.neg_mul,Int.mul_neg]
 ·show(k:Int)*x = -k*_;rw[Int.neg_mul_neg]
section
variable {ξ:List Prop} {ζ:List Int} {ρ:List Nat} {z m:Nat}
theorem vK(hz:∀i,v (z+i)=(gn ρ i:Nat))(hm:v m=1)(t:T):∀(k:Nat) (f:Bool) (c:b8),dv (aT z m t k f c) v=dv c v+sg k f*(dT ρ t:Nat):=by
 induction t with
 |v i=>exact λk f c=>by rw[show dv (aT z m (.v i) k f c) v=_ from j_ k f c (z+i) v,hz];rfl
 |n j=>exact λk f c=>by rw[show dv (aT z m (.n j) k f c) v=_ from j_ (k*j) f c m v,gX,hm,Int.mul_one];rfl
 |a x y hx hy=>exact λk f c=>by rw[show dv (aT z m (.a x y) k f c) v=_ from hx k f (aT z m y k f c),hy,show dT ρ (.a x y)=dT ρ x+dT ρ y from rfl,Int.natCast_add,Int.mul_add,Int.add_assoc,Int.add_comm (sg k f*(dT ρ y:Nat))]
 |m j x hx=>exact λk f c=>by rw[show dv (aT z m (.m j x) k f c) v=_ from hx (k*j) f c,gX,← Int.natCast_mul];rfl
 |r x j hx=>exact λk f c=>by rw[show dv (aT z m (.r x j) k f c) v=_ from hx (k*j) f c,gX,← Int.natCast_mul,Nat.mul_comm];rfl
theorem CD(hz:∀i,v (z+i)=(gn ρ i:Nat))(hm:v m=1)(hv:∀i,v i=gz ζ ρ i)(t:U):∀(k:Nat) (f:Bool) (c:b8),dv (aU z m t k f c) v=dv c v+sg k f*dU ζ ρ t:=by
 induction t with
 |c t=>exact λk f c=>vK hz hm t k f c
 |w i=>exact λk f c=>by rw[show dv (aU z m (.w i) k f c) v=_ from j_ k f c i v,hv];rfl
 |n j=>exact λk f c=>by rw[show dv (aU z m (.n j) k f c) v=_ from j_ (k*j) f c m v,gX,hm,Int.mul_one];rfl
 |a x y hx hy=>exact λk f c=>by rw[show dv (aU z m (.a x y) k f c) v=_ from hx k f (aU z m y k f c),hy,show dU ζ ρ (.a x y)=dU ζ ρ x+dU ζ ρ y from rfl,Int.mul_add,Int.add_assoc,Int.add_comm (sg k f*dU ζ ρ y)]
 |s x y hx hy=>exact λk f c=>by rw[show dv (aU z m (.s x y) k f c) v=_ from hx k f (aU z m y k (!f) c),hy,show dU ζ ρ (.s x y)=dU ζ ρ x-dU ζ ρ y from rfl,oZ,Int.sub_eq_add_neg,Int.mul_add,Int.add_assoc,Int.add_comm (sg k f * -dU ζ ρ y)]
 |g x hx=>exact λk f c=>by rw[show dv (aU z m (.g x) k f c) v=_ from hx k (!f) c,oZ];rfl
 |m j x hx=>exact λk f c=>by rw[show dv (aU z m (.m j x) k f c) v=_ from hx (k*j) f c,gX];rfl
 |r x j hx=>exact λk f c=>by rw[show dv (aU z m (.r x j) k f c) v=_ from hx (k*j) f c,gX,Int.mul_comm (j:Int)];rfl
 |M j x hx=>exact λk f c=>by rw[show dv (aU z m (.M j x) k f c) v=_ from hx (k*j) (!f) c,oZ,gX,Int.mul_neg,← Int.neg_mul];rfl
 |R x j hx=>exact λk f c=>by rw[show dv (aU z m (.R x j) k f c) v=_ from hx (k*j) (!f) c,oZ,gX,Int.mul_neg,Int.mul_comm (j:Int),← Int.mul_neg];rfl
theorem CT{e p x y:Int}{k:Nat}(h:e=p + -(k:Int)*1)(h1:p=0+(1:Nat)*y + -(1:Nat)*x)(q:x+k≤y):0≤e:=by subst h1;omega
theorem GX(h2:∀i,v (m+i+1)=0)(hz:∀i,v (z+i)=(gn ρ i:Nat))(hm:v m=1)(x y:T)(k:Nat)(q:dT ρ x+k≤dT ρ y):0≤dv (eT z m x y k) v:=
 uw hm h2<|CT (x:=(dT ρ x:Nat)) (y:=(dT ρ y:Nat)) (hm▸j_ k true _ m v) (by rw[vK hz hm,vK hz hm];rfl) (by omega)
theorem GY(h2:∀i,v (m+i+1)=0)(hz:∀i,v (z+i)=(gn ρ i:Nat))(hm:v m=1)(hv:∀i,v i=gz ζ ρ i)(x y:U)(k:Nat)(q:dU ζ ρ x+k≤dU ζ ρ y):0≤dv (eU z m x y k) v:=
 uw hm h2<|CT (hm▸j_ k true _ m v) (by rw[CD hz hm hv,CD hz hm hv];rfl) q
def AH(v:Nat→Int)(cs:List b8):Prop:=∀c∈cs,0≤dv c v
theorem AH.cons(h:0≤dv c v)(H:AH v cs):AH v (c::cs):=λd hd=>by
 cases hd with
 |head=>exact h
 |tail _ q=>exact H d q
def KK(v:Nat→Int)(k:KC):Prop:=∀cs,AH v cs→k cs=true→False
def Sg(X:Prop)(f:Bool):Prop:=@Bool.rec (λ_=>Prop) (¬ X) X f
theorem iQ{a b:Bool}(h:(a&&b)=true):a=true∧b=true:=by cases a<;>cases b<;>first|exact⟨rfl,rfl⟩|cases h
theorem CN(h2:∀i,v (m+i+1)=0)(hz:∀i,v (z+i)=(gn ρ i:Nat))(hm:v m=1)(hv:∀i,v i=gz ζ ρ i)(p:P):∀(f:Bool) (k:KC),Sg (dP ξ ζ ρ p) f→KK v k→KK v (gP z m p f k):=by
 have t:=λx y k=>GX h2 hz hm x y k
 have u:=λx y k=>GY h2 hz hm hv x y k
 induction p with
 |F=>exact λf k h H cs a e=>by cases f;exact H cs a e;exact h
 |x i=>exact λf k h H cs a e=>H cs a e
 |l x y=>exact λf k h H cs a e=>by cases f;exact H _ (.cons (t y x 0 (Nat.not_lt.mp h)) a) e;exact H _ (.cons (t x y 1 h) a) e
 |e x y=>exact λf k h H cs a e=>by cases f;exact H _ (.cons (t y x 1 (Nat.not_le.mp h)) a) e;exact H _ (.cons (t x y 0 h) a) e
 |q x y=>
  intro f k h H cs a e
  cases f with
  |false=>
   rcases Nat.lt_or_gt_of_ne h with q|q
   ·exact H _ (.cons (t x y 1 q) a) (iQ e).1
   ·exact H _ (.cons (t y x 1 q) a) (iQ e).2
  |true=>exact H _ (.cons (t x y 0 (Nat.le_of_eq h)) (.cons (t y x 0 (Nat.le_of_eq (Eq.symm h))) a)) e
 |L x y=>exact λf k h H cs a e=>by cases f;exact H _ (.cons (u y x 0 (Int.add_zero _▸Int.not_lt.mp h)) a) e;exact H _ (.cons (u x y 1 h) a) e
 |E x y=>exact λf k h H cs a e=>by cases f;exact H _ (.cons (u y x 1 (Int.not_le.mp h)) a) e;exact H _ (.cons (u x y 0 (Int.add_zero _▸h)) a) e
 |Q x y=>
  intro f k h H cs a e
  cases f with
  |false=>
   rcases Int.lt_or_gt_of_ne h with q|q
   ·exact H _ (.cons (u x y 1 q) a) (iQ e).1
   ·exact H _ (.cons (u y x 1 q) a) (iQ e).2
  |true=>exact H _ (.cons (u x y 0 (Int.add_zero _▸Int.le_of_eq h)) (.cons (u y x 0 (Int.add_zero _▸Int.le_of_eq (Eq.symm h))) a)) e
 |N p ih=>exact λf k h H cs a e=>by cases f;exact ih true k (Classical.not_not.mp h) H cs a e;exact ih false k h H cs a e
 |C p r hp hr=>
  intro f k h H cs a e
  cases f with
  |false=>
   by_cases q:dP ξ ζ ρ p
   ·exact hr false k (λw=>h ⟨q,w⟩) H cs a (iQ e).2
   ·exact hp false k q H cs a (iQ e).1
  |true=>exact hp true _ h.1 (hr true k h.2 H) cs a e
 |D p r hp hr=>
  intro f k h H cs a e
  cases f with
  |false=>exact hp false _ (λq=>h (.inl q)) (hr false k (λq=>h (.inr q)) H) cs a e
  |true=>
   rcases h with h|h
   ·exact hp true k h H cs a (iQ e).1
   ·exact hr true k h H cs a (iQ e).2
 |I p r hp hr=>
  intro f k h H cs a e
  by_cases q:dP ξ ζ ρ p
  ·cases f
   ·exact hp true _ q (hr false k (λw=>h λ_=>w) H) cs a e
   ·exact hr true k (h q) H cs a (iQ e).2
  ·cases f
   ·exact h λw=>absurd w q
   ·exact hp false k q H cs a (iQ e).1
 |B p r hp hr=>
  intro f k h H cs a e
  by_cases q:dP ξ ζ ρ p
  ·cases f
   ·exact hp true _ q (hr false k (λw=>h ⟨λ_=>w,λ_=>q⟩) H) cs a (iQ e).1
   ·exact hp true _ q (hr true k (h.mp q) H) cs a (iQ e).1
  ·cases f
   ·exact hp false _ q (hr true k (Classical.byContradiction λw=>h ⟨λs=>absurd s q,λs=>absurd s w⟩) H) cs a (iQ e).2
   ·exact hp false _ q (hr false k (λw=>q (h.mpr w)) H) cs a (iQ e).2
end
theorem CF(b a:Nat)(p q:Nat×Nat):(((c2 b a p q).2:Nat):Int)-((c2 b a p q).1:Nat)=b*((p.2:Int)-p.1)+a*((q.2:Int)-q.1):=by
 show((b*p.2+a*q.2-(b*p.1+a*q.1):Nat):Int)-((b*p.1+a*q.1-(b*p.2+a*q.2):Nat):Int)=_
 rw[Int.mul_sub,Int.mul_sub,← Int.natCast_mul,← Int.natCast_mul,← Int.natCast_mul,← Int.natCast_mul]
 omega
theorem Mo(x y s t r w:Int):(x+y)*s+(r+w)=(x*s+r)+(y*s+w):=by rw[Int.add_mul];omega
theorem we(b a:Nat):∀(u l:b8) (v:Nat→Int),dv (cb b a u l) v=b*dv u v+a*dv l v
 | [],[],v=>by show(0:Int)=b*0+a*0;omega
 | [],q::s,v=>by
  show(((c2 b a (0,0) q).2:Int)-((c2 b a (0,0) q).1:Nat))*v 0+dv (cb b a [] s) (sh v)=b*0+a*dv (q::s) v
  rw[CF,we b a [] s,pU (q::s)]
  show((b:Int)*(0-0)+_)*_+(b*0+_)=_+_*(_*_+dv s (sh v))
  rw[Int.sub_self,Int.mul_zero,Int.zero_add,Int.zero_add,Int.zero_add,Int.mul_add,Int.mul_assoc];rfl
 |p::r,l,v=>by
  show(((c2 b a p (hd l)).2:Int)-((c2 b a p (hd l)).1:Nat))*v 0+dv (cb b a r (tl l)) (sh v)=b*(((p.2:Int)-p.1)*v 0+dv r (sh v))+a*dv l v
  rw[CF,we b a r (tl l),pU l,Int.mul_add,Int.mul_add,← Int.mul_assoc,← Int.mul_assoc,Mo _ _ _ 0]
theorem zK{n:Nat}(h1:sh v n=1)(h2:∀i,sh v (n+i+1)=0)(h:0≤dv c v)(H:AH (sh v) K):AH (sh v) (Gy n c K):=by
 unfold Gy
 cases e:Nat.beq (hd c).1 (hd c).2 with
 |false=>exact H
 |true=>
  rw[pU,Nat.eq_of_beq_eq_true e,Int.sub_self,Int.zero_mul,Int.zero_add]at h
  exact .cons (uw h1 h2 h) H
theorem FA{n:Nat}(h1:sh v n=1)(h2:∀i,sh v (n+i+1)=0)(h:0≤dv c v)(h0:0≤v 0)(H:AH (sh v) K):AH (sh v) (Kk n c K):=by
 unfold Kk
 cases e:Nat.ble (hd c).2 (hd c).1 with
 |false=>exact H
 |true=>
  have:=Nat.le_of_ble_eq_true e
  have q:=Int.mul_nonneg (show 0≤((hd c).1:Int)-(hd c).2 by omega) h0
  rw[pU,← Int.neg_sub,Int.neg_mul]at h
  exact .cons (uw h1 h2 (by omega)) H
theorem yT{n:Nat}(h1:sh v n=1)(h2:∀i,sh v (n+i+1)=0)(h:0≤dv u v)(H:AH (sh v) K):∀cs,AH v cs→AH (sh v) (IG n u cs K)
 | [],_=>H
 |l::r,a=>by
  have ih:=yT h1 h2 h H r λc hc=>a c (.tail _ hc)
  show AH (sh v) (@Bool.rec (λ_=>List b8) (IG n u r K) (Gy n (cb _ _ u l) (IG n u r K)) (Nat.blt _ _))
  cases Nat.blt (hd l).1 (hd l).2 with
  |false=>exact ih
  |true=>exact zK h1 h2 (by rw[we];exact Int.add_nonneg (Int.mul_nonneg (Int.natCast_nonneg _) h) (Int.mul_nonneg (Int.natCast_nonneg _) (a l (.head _)))) ih
theorem zF{n:Nat}(h1:sh v n=1)(h2:∀i,sh v (n+i+1)=0)(h0:f=true→0≤v 0)(a:AH v cs):∀ds,AH v ds→AH (sh v) (iL n f cs ds)
 | [],_=>λ_ h=>nomatch h
 |u::r,b=>by
  have ih:=zF h1 h2 h0 a r λc hc=>b c (.tail _ hc)
  have hu:=b u (.head _)
  show AH (sh v) (@Bool.rec (λ_=>List b8) (Gy n u (iL n f cs r)) (IG n u cs (@Bool.rec (λ_=>List b8) (iL n f cs r) (Kk n u (iL n f cs r)) f)) (Nat.blt _ _))
  cases Nat.blt (hd u).2 (hd u).1 with
  |false=>exact zK h1 h2 hu ih
  |true=>
   refine yT h1 h2 hu ?_ cs a
   cases f with
   |false=>exact ih
   |true=>exact FA h1 h2 hu (h0 rfl) ih
theorem vV(h1:v 0=1)(h2:∀i,v (i+1)=0):∀cs,AH v cs→bad cs=true→False
 | [],_,h=>nomatch h
 |c::r,a,h=>by
  have h:@Bool.rec (λ_=>Bool) (bad r) true (Nat.blt (hd c).2 (hd c).1)=true:=h
  cases e:Nat.blt (hd c).2 (hd c).1 with
  |false=>rw[e]at h;exact vV h1 h2 r (λc hc=>a c (.tail _ hc)) h
  |true=>
   have q:=a c (.head _)
   have:=Nat.le_of_ble_eq_true e
   rw[pU,h1,Int.mul_one,DF _ (v:=sh v) h2]at q
   omega
theorem CM:∀(fs:List Bool) {v:Nat→Int},(∀i,fs[i]?=some true→0≤v i)→v fs.length=1→(∀i,v (fs.length+i+1)=0)→KK v (fm fs)
 | [],v,_,h1,h2=>λcs a h=>vV h1 (λi=>by have:=h2 i;rwa [List.length_nil,Nat.zero_add]at this) cs a h
 |f::fs,v,h0,h1,h2=>λcs a h=>have h3:∀i,sh v (fs.length+i+1)=0:=λi=>by have:=h2 i;rw[List.length_cons,Nat.add_right_comm fs.length]at this;exact this
  CM fs (v:=sh v) (λi q=>h0 (i+1) q) h1 h3 _ (zF h1 h3 (λe=>h0 0 (by rw[e];rfl)) a cs a) h
theorem wY(ρ:List Nat):gn ρ ρ.length=1∧∀i,gn ρ (ρ.length+i+1)=0:=by
 induction ρ with
 |nil=>exact⟨rfl,λi=>by rw[List.length_nil,Nat.zero_add];rfl⟩
 |cons a r ih=>exact⟨ih.1,λi=>by rw[List.length_cons,Nat.add_right_comm r.length];exact ih.2 i⟩
theorem D_(ζ:List Int)(ρ:List Nat):∀i,gz ζ ρ (ζ.length+i)=(gn ρ i:Nat):=by
 induction ζ with
 |nil=>exact λi=>by rw[List.length_nil,Nat.zero_add];rfl
 |cons a r ih=>exact λi=>by rw[List.length_cons,Nat.add_right_comm];exact ih i
theorem tD(z n:Nat):(Hf z n).length=z+n:=by
 induction z with
 |zero=>
  induction n with
  |zero=>rfl
  |succ n ih=>exact congrArg Nat.succ ih
 |succ z ih=>rw[Nat.succ_add];exact congrArg Nat.succ ih
theorem wO:∀(z n i:Nat),(Hf z n)[i]?=some true→∃j,i=z+j
 |0,n,i,_=>⟨i,(Nat.zero_add _).symm⟩
 |z+1,n,0,h=>nomatch h
 |z+1,n,i+1,h=>let⟨j,e⟩:=wO z n i h;⟨j,by omega⟩
theorem Zg(ξ:List Prop)(ζ:List Int)(ρ:List Nat)(hs:List P)(g:P)(h:rf ζ.length ρ.length hs g=true):im ξ ζ ρ hs g:=by
 have hz:=D_ ζ ρ
 have hm:gz ζ ρ (ζ.length+ρ.length)=1:=by rw[hz,(wY ρ).1];rfl
 have h2:∀i,gz ζ ρ (ζ.length+ρ.length+i+1)=0:=λi=>by rw[Nat.add_assoc,Nat.add_assoc,hz,← Nat.add_assoc,(wY ρ).2];rfl
 have end_:KK (gz ζ ρ) (fm (Hf ζ.length ρ.length)):=CM _ (λi q=>by obtain⟨j,rfl⟩:=wO _ _ i q;rw[hz];exact Int.natCast_nonneg _) (by rw[tD];exact hm)
  (λi=>by rw[tD];exact h2 i)
 have key:∀(hs:List P) (cs:List b8),AH (gz ζ ρ) cs→@List.rec P (λ_=>KC) (gP ζ.length (ζ.length+ρ.length) g false (fm (Hf ζ.length ρ.length))) (λh _ k=>gP ζ.length (ζ.length+ρ.length) h true k) hs cs=true→im ξ ζ ρ hs g:=by
  intro hs
  induction hs with
  |nil=>exact λcs a e=>Classical.byContradiction λq=>CN h2 hz hm (λ_=>rfl) g false _ q end_ cs a e
  |cons p r ih=>exact λcs a e q=>Classical.byContradiction λw=>CN h2 hz hm (λ_=>rfl) p true _ q (λcs a e=>w (ih cs a e)) cs a e
 exact key hs [] (λ_ h=>nomatch h) h
theorem ts(x y:Nat):(y≤x∧x-y+y=x)∨(x≤y∧x-y=0):=by
 rcases Nat.le_total y x with h|h
 ·exact .inl ⟨h,Nat.sub_add_cancel h⟩
 ·exact .inr ⟨h,Nat.sub_eq_zero_of_le h⟩
theorem md(x k:Nat)(h:Nat.blt 0 k=true):x%k<k∧k*(x/k)+x%k=x:=⟨Nat.mod_lt x (Nat.le_of_ble_eq_true h),Nat.div_add_mod x k⟩
theorem tn(z:Int):(0≤z∧(z.toNat:Int)=z)∨(z≤0∧z.toNat=0):=by
 rcases Int.le_total 0 z with h|h
 ·exact .inl ⟨h,Int.toNat_of_nonneg h⟩
 ·exact .inr ⟨h,Int.toNat_of_nonpos h⟩
theorem na(z:Int):(0≤z∧(z.natAbs:Int)=z)∨(z≤0∧(z.natAbs:Int) = -z):=by
 rcases Int.le_total 0 z with h|h
 ·exact .inl ⟨h,Int.natAbs_of_nonneg h⟩
 ·exact .inr ⟨h,Int.ofNat_natAbs_of_nonpos h⟩
theorem zm(x:Int)(k:Nat)(h:Nat.blt 0 k=true):(0≤x%(k:Int)∧x%(k:Int)<k)∧(k:Int)*(x/(k:Int))+x%(k:Int)=x:=by
 have:=Nat.le_of_ble_eq_true h
 exact⟨⟨Int.emod_nonneg x (by omega),Int.emod_lt_of_pos x (by omega)⟩,Int.mul_ediv_add_emod x k⟩
theorem Zx(z n:Nat)(ξ:List Prop)(ζ:List Int)(ρ:List Nat)(hs:List P)(G:P)(H:rf z n hs G=true)(hz:(ζ.length,ρ.length)=(z,n)):im ξ ζ ρ hs G:=by
 cases hz;exact Zg ξ ζ ρ hs G H
theorem Z1{a:Nat}(hs:List P)(G:P)(H:rf 0 1 hs G=true):im [] [] [a] hs G:=Zg [] [] [a] hs G H
theorem Z2{a b:Nat}(hs:List P)(G:P)(H:rf 0 2 hs G=true):im [] [] [a,b] hs G:=Zg [] [] [a,b] hs G H
theorem Z3{a b c:Nat}(hs:List P)(G:P)(H:rf 0 3 hs G=true):im [] [] [a,b,c] hs G:=Zg [] [] [a,b,c] hs G H
theorem Z4{a b c d:Nat}(hs:List P)(G:P)(H:rf 0 4 hs G=true):im [] [] [a,b,c,d] hs G:=Zg [] [] [a,b,c,d] hs G H
theorem Z5{a b c d e:Nat}(hs:List P)(G:P)(H:rf 0 5 hs G=true):im [] [] [a,b,c,d,e] hs G:=Zg [] [] [a,b,c,d,e] hs G H
theorem Z6{a b c d e f:Nat}(hs:List P)(G:P)(H:rf 0 6 hs G=true):im [] [] [a,b,c,d,e,f] hs G:=Zg [] [] [a,b,c,d,e,f] hs G H
theorem Z7{a b c d e f g:Nat}(hs:List P)(G:P)(H:rf 0 7 hs G=true):im [] [] [a,b,c,d,e,f,g] hs G:=Zg [] [] [a,b,c,d,e,f,g] hs G H
theorem Z8{a b c d e f g h:Nat}(hs:List P)(G:P)(H:rf 0 8 hs G=true):im [] [] [a,b,c,d,e,f,g,h] hs G:=Zg [] [] [a,b,c,d,e,f,g,h] hs G H
theorem Z9{a b c d e f g h i:Nat}(hs:List P)(G:P)(H:rf 0 9 hs G=true):im [] [] [a,b,c,d,e,f,g,h,i] hs G:=Zg [] [] [a,b,c,d,e,f,g,h,i] hs G H
theorem Kw{a b c d e f g h i j:Nat}(hs:List P)(G:P)(H:rf 0 10 hs G=true):im [] [] [a,b,c,d,e,f,g,h,i,j] hs G:=Zg [] [] [a,b,c,d,e,f,g,h,i,j] hs G H
theorem Jp{a b c d e f g h i j k:Nat}(hs:List P)(G:P)(H:rf 0 11 hs G=true):im [] [] [a,b,c,d,e,f,g,h,i,j,k] hs G:=Zg [] [] [a,b,c,d,e,f,g,h,i,j,k] hs G H
theorem Ni{a b c d e f g h i j k l:Nat}(hs:List P)(G:P)(H:rf 0 12 hs G=true):im [] [] [a,b,c,d,e,f,g,h,i,j,k,l] hs G:=Zg [] [] [a,b,c,d,e,f,g,h,i,j,k,l] hs G H
theorem eI{u:Int}(hs:List P)(G:P)(H:rf 1 0 hs G=true):im [] [u] [] hs G:=Zg [] [u] [] hs G H
theorem h_{u:Int}{a:Nat}(hs:List P)(G:P)(H:rf 1 1 hs G=true):im [] [u] [a] hs G:=Zg [] [u] [a] hs G H
theorem uB{u:Int}{a b:Nat}(hs:List P)(G:P)(H:rf 1 2 hs G=true):im [] [u] [a,b] hs G:=Zg [] [u] [a,b] hs G H
theorem vI{u:Int}{a b c:Nat}(hs:List P)(G:P)(H:rf 1 3 hs G=true):im [] [u] [a,b,c] hs G:=Zg [] [u] [a,b,c] hs G H
theorem q0{u:Int}{a b c d:Nat}(hs:List P)(G:P)(H:rf 1 4 hs G=true):im [] [u] [a,b,c,d] hs G:=Zg [] [u] [a,b,c,d] hs G H
theorem GF{u:Int}{a b c d e:Nat}(hs:List P)(G:P)(H:rf 1 5 hs G=true):im [] [u] [a,b,c,d,e] hs G:=Zg [] [u] [a,b,c,d,e] hs G H
theorem Kx{u:Int}{a b c d e f:Nat}(hs:List P)(G:P)(H:rf 1 6 hs G=true):im [] [u] [a,b,c,d,e,f] hs G:=Zg [] [u] [a,b,c,d,e,f] hs G H
theorem Ky{u:Int}{a b c d e f g:Nat}(hs:List P)(G:P)(H:rf 1 7 hs G=true):im [] [u] [a,b,c,d,e,f,g] hs G:=Zg [] [u] [a,b,c,d,e,f,g] hs G H
theorem GG{u v:Int}(hs:List P)(G:P)(H:rf 2 0 hs G=true):im [] [u,v] [] hs G:=Zg [] [u,v] [] hs G H
theorem z_{u v:Int}{a:Nat}(hs:List P)(G:P)(H:rf 2 1 hs G=true):im [] [u,v] [a] hs G:=Zg [] [u,v] [a] hs G H
theorem Kz{u v w:Int}(hs:List P)(G:P)(H:rf 3 0 hs G=true):im [] [u,v,w] [] hs G:=Zg [] [u,v,w] [] hs G H
theorem GH{u v w:Int}{a:Nat}(hs:List P)(G:P)(H:rf 3 1 hs G=true):im [] [u,v,w] [a] hs G:=Zg [] [u,v,w] [a] hs G H
end Ar
end
theorem aM{α:Type}{a:α}{G:Prop}(h:none=some a):G:=nomatch h
theorem Og{α:Type}{a:α}{G:Prop}(h:some a=none):G:=nomatch h
theorem bY{G:Prop}(h:false=true):G:=nomatch h
theorem pF{G:Prop}(h:true=false):G:=nomatch h
theorem aL{α:Type}{a c:α}{P:α→Prop}(h:some a=some c)(k:P a):P c:=Option.some.inj h▸k
theorem bP{α β:Type}{a c:α}{b d:β}{P:α→β→Prop}(h:some (a,b)=some (c,d))(k:P a b):P c d:=@aL (α×β) (a,b) (c,d) (λr=>P r.1 r.2) h k
theorem fU{α β γ:Type}{a x:α}{b y:β}{c z:γ}{P:α→β→γ→Prop}(h:some (a,b,c)=some (x,y,z))(k:P a b c):P x y z:=@aL (α×β×γ) (a,b,c) (x,y,z) (λr=>P r.1 r.2.1 r.2.2) h k
theorem Jy{α β:Type}{x:β}{f:α→β}{P:β→Prop}(h:∃t,x=f t)(k:∀t,P (f t)):P x:=by obtain⟨t,rfl⟩:=h;exact k t
theorem aZ{c:Prop}[Decidable c]{α:Type}{o:Option α}{r:α}{G:Prop}(h:(if c then o else none)=some r)(k:c→o=some r→G):G:=by
 by_cases q:c
 ·rw[if_pos q]at h;exact k q h
 ·rw[if_neg q]at h;exact aM h
theorem fe{a b:Bool}(h:(a&&b)=true):a=true:=by cases a;exact bY h;rfl
theorem iz{a b:Bool}(h:(a&&b)=true):b=true:=by cases a;exact bY h;exact h
theorem Kc{a b:Bool}(h:(a||b)=false):a=false:=by cases a;rfl;exact pF h
theorem of2{a b:Bool}(h:(a||b)=false):b=false:=by cases a;exact h;exact pF h
theorem C1{a:Bool}(h:¬a=true):a=false:=by cases a;rfl;exact absurd rfl h
theorem ER{a:Bool}(h:(!a)=true):a=false:=by cases a;rfl;exact bY h
theorem jX{α:Type}{a b:α}{l m:List α}(h:a=b)(k:l=m):a::l=b::m:=by rw[h,k]
theorem IF{α β:Type}{a b:α}{l m:β}(h:a=b)(k:l=m):(a,l)=(b,m):=by rw[h,k]
theorem fc{α:Type}{p:α→Bool}{l:List α}(h:l.all p=true){x:α}(hx:x∈l):p x=true:=List.all_eq_true.mp h x hx
theorem j4{c:Prop}[Decidable c]{α:Type}{a b r:α}{G:Prop}(h:(if c then a else b)=r)(k:c→a=r→G)(k2:¬c→b=r→G):G:=by
 by_cases q:c
 ·rw[if_pos q]at h;exact k q h
 ·rw[if_neg q]at h;exact k2 q h
theorem a_{α β:Type}{o:Option α}{f:α→β}{r:β}{P:β→Prop}(h:o.map f=some r)(k:∀a,o=some a→P (f a)):P r:=by
 cases o with
 |none=>exact aM h
 |some a=>exact aL h (k a rfl)
noncomputable def all2{α β:Type}(f:α→β→Bool):List α→List β→Bool
 | [],_=>true
 |x::l,r::rs=>f x r&&all2 f l rs
 |_::_,[]=>false
theorem kz{α β:Type}{f:α→β→Bool}:∀{l:List α} {rs:List β} {k:Nat} {x:α},all2 f l rs=true→l[k]?=some x→∃r,rs[k]?=some r∧f x r=true
 | [],_,_,_,_,h=>aM h
 |_::_,[],_,_,h,_=>bY h
 |x::_,r::_,0,y,h,h2=>⟨r,rfl,(Option.some.inj (show some x=some y from h2))▸fe h⟩
 |_::l,_::rs,k+1,_,h,h2=>kz (l:=l) (rs:=rs) (k:=k) (iz h) h2
theorem bs{α β:Type}{o:Option α}{a:α}{f:α→Option β}(h:o=some a):o.bind f=f a:=h▸rfl
theorem bV{α β:Type}[BEq α][LawfulBEq α]{a b:α}{o:β}{l:List (α×β)}(h:a≠b):((b,o)::l).lookup a=l.lookup a:=by rw[List.lookup_cons,beq_false_of_ne h]
theorem lT{α β:Type}[DecidableEq α]{a:α}{o:β}:∀{l:List (α×β)},(a,o)∈l→(l.lookup a).isSome=true
 |(b,_)::l,h=>by
  by_cases e:a=b
  ·subst e;rw[List.lookup_cons_self];rfl
  ·rw[bV e];exact lT ((List.mem_cons.mp h).resolve_left λq=>e (congrArg Prod.fst q))
theorem af{α β:Type}{o:Option α}{f:α→Option β}{r:β}{G:Prop}(h:o.bind f=some r)(k:∀a,o=some a→f a=some r→G):G:=(Option.bind_eq_some_iff.mp h).elim λa h=>k a h.1 h.2
theorem ak{α β γ:Type}{o:Option (α×β)}{f:α×β→Option γ}{r:γ}{G:Prop}(h:o.bind f=some r)(k:∀a b,o=some (a,b)→f (a,b)=some r→G):G:=(Option.bind_eq_some_iff.mp h).elim λa h=>k a.1 a.2 h.1 h.2
theorem dd{P0 P1:Prop}{G:Prop}(h:P0∧P1)(k:P0→P1→G):G:=k h.1 h.2
theorem gw{P0 P1 P2:Prop}{G:Prop}(h:P0∧P1∧P2)(k:P0→P1→P2→G):G:=k h.1 h.2.1 h.2.2
theorem ic{P0 P1 P2 P3:Prop}{G:Prop}(h:P0∧P1∧P2∧P3)(k:P0→P1→P2→P3→G):G:=k h.1 h.2.1 h.2.2.1 h.2.2.2
theorem pd{P0 P1 P2 P3 P4:Prop}{G:Prop}(h:P0∧P1∧P2∧P3∧P4)(k:P0→P1→P2→P3→P4→G):G:=k h.1 h.2.1 h.2.2.1 h.2.2.2.1 h.2.2.2.2
theorem M4{P0 P1 P2 P3 P4 P5:Prop}{G:Prop}(h:P0∧P1∧P2∧P3∧P4∧P5)(k:P0→P1→P2→P3→P4→P5→G):G:=k h.1 h.2.1 h.2.2.1 h.2.2.2.1 h.2.2.2.2.1 h.2.2.2.2.2
theorem FL{P0 P1 P2 P3 P4 P5 P6:Prop}{G:Prop}(h:P0∧P1∧P2∧P3∧P4∧P5∧P6)(k:P0→P1→P2→P3→P4→P5→P6→G):G:=k h.1 h.2.1 h.2.2.1 h.2.2.2.1 h.2.2.2.2.1 h.2.2.2.2.2.1 h.2.2.2.2.2.2
theorem M5{P0 P1 P2 P3 P4 P5 P6 P7:Prop}{G:Prop}(h:P0∧P1∧P2∧P3∧P4∧P5∧P6∧P7)(k:P0→P1→P2→P3→P4→P5→P6→P7→G):G:=k h.1 h.2.1 h.2.2.1 h.2.2.2.1 h.2.2.2.2.1 h.2.2.2.2.2.1 h.2.2.2.2.2.2.1 h.2.2.2.2.2.2.2
theorem bJ{A0:Type}{P0:A0→Prop}{G:Prop}(h:∃a0,P0 a0)(k:∀a0,P0 a0→G):G:=h.elim λa0 h=>k a0 h
theorem ay{A0:Type}{P0 P1:A0→Prop}{G:Prop}(h:∃a0,P0 a0∧P1 a0)(k:∀a0,P0 a0→P1 a0→G):G:=h.elim λa0 h=>k a0 h.1 h.2
theorem dD{A0:Type}{P0 P1 P2:A0→Prop}{G:Prop}(h:∃a0,P0 a0∧P1 a0∧P2 a0)(k:∀a0,P0 a0→P1 a0→P2 a0→G):G:=h.elim λa0 h=>k a0 h.1 h.2.1 h.2.2
theorem FN{A0:Type}{P0 P1 P2 P3:A0→Prop}{G:Prop}(h:∃a0,P0 a0∧P1 a0∧P2 a0∧P3 a0)(k:∀a0,P0 a0→P1 a0→P2 a0→P3 a0→G):G:=h.elim λa0 h=>k a0 h.1 h.2.1 h.2.2.1 h.2.2.2
theorem zS{A0 A1:Type}{P0:A0→A1→Prop}{G:Prop}(h:∃a0 a1,P0 a0 a1)(k:∀a0 a1,P0 a0 a1→G):G:=h.elim λa0 h=>h.elim λa1 h=>k a0 a1 h
theorem cQ{A0 A1:Type}{P0 P1:A0→A1→Prop}{G:Prop}(h:∃a0 a1,P0 a0 a1∧P1 a0 a1)(k:∀a0 a1,P0 a0 a1→P1 a0 a1→G):G:=h.elim λa0 h=>h.elim λa1 h=>k a0 a1 h.1 h.2
theorem df{A0 A1:Type}{P0 P1 P2:A0→A1→Prop}{G:Prop}(h:∃a0 a1,P0 a0 a1∧P1 a0 a1∧P2 a0 a1)(k:∀a0 a1,P0 a0 a1→P1 a0 a1→P2 a0 a1→G):G:=h.elim λa0 h=>h.elim λa1 h=>k a0 a1 h.1 h.2.1 h.2.2
theorem Cy{A0 A1:Type}{P0 P1 P2 P3:A0→A1→Prop}{G:Prop}(h:∃a0 a1,P0 a0 a1∧P1 a0 a1∧P2 a0 a1∧P3 a0 a1)(k:∀a0 a1,P0 a0 a1→P1 a0 a1→P2 a0 a1→P3 a0 a1→G):G:=h.elim λa0 h=>h.elim λa1 h=>k a0 a1 h.1 h.2.1 h.2.2.1 h.2.2.2
theorem FO{A0 A1:Type}{P0 P1 P2 P3 P4:A0→A1→Prop}{G:Prop}(h:∃a0 a1,P0 a0 a1∧P1 a0 a1∧P2 a0 a1∧P3 a0 a1∧P4 a0 a1)(k:∀a0 a1,P0 a0 a1→P1 a0 a1→P2 a0 a1→P3 a0 a1→P4 a0 a1→G):G:=h.elim λa0 h=>h.elim λa1 h=>k a0 a1 h.1 h.2.1 h.2.2.1 h.2.2.2.1 h.2.2.2.2
theorem zT{A0 A1 A2:Type}{P0:A0→A1→A2→Prop}{G:Prop}(h:∃a0 a1 a2,P0 a0 a1 a2)(k:∀a0 a1 a2,P0 a0 a1 a2→G):G:=h.elim λa0 h=>h.elim λa1 h=>h.elim λa2 h=>k a0 a1 a2 h
theorem zU{A0 A1 A2:Type}{P0 P1:A0→A1→A2→Prop}{G:Prop}(h:∃a0 a1 a2,P0 a0 a1 a2∧P1 a0 a1 a2)(k:∀a0 a1 a2,P0 a0 a1 a2→P1 a0 a1 a2→G):G:=h.elim λa0 h=>h.elim λa1 h=>h.elim λa2 h=>k a0 a1 a2 h.1 h.2
theorem Jh{A0 A1 A2:Type}{P0 P1 P2:A0→A1→A2→Prop}{G:Prop}(h:∃a0 a1 a2,P0 a0 a1 a2∧P1 a0 a1 a2∧P2 a0 a1 a2)(k:∀a0 a1 a2,P0 a0 a1 a2→P1 a0 a1 a2→P2 a0 a1 a2→G):G:=h.elim λa0 h=>h.elim λa1 h=>h.elim λa2 h=>k a0 a1 a2 h.1 h.2.1 h.2.2
theorem FP{A0 A1 A2:Type}{P0 P1 P2 P3:A0→A1→A2→Prop}{G:Prop}(h:∃a0 a1 a2,P0 a0 a1 a2∧P1 a0 a1 a2∧P2 a0 a1 a2∧P3 a0 a1 a2)(k:∀a0 a1 a2,P0 a0 a1 a2→P1 a0 a1 a2→P2 a0 a1 a2→P3 a0 a1 a2→G):G:=h.elim λa0 h=>h.elim λa1 h=>h.elim λa2 h=>k a0 a1 a2 h.1 h.2.1 h.2.2.1 h.2.2.2
theorem M6{A0 A1 A2 A3:Type}{P0:A0→A1→A2→A3→Prop}{G:Prop}(h:∃a0 a1 a2 a3,P0 a0 a1 a2 a3)(k:∀a0 a1 a2 a3,P0 a0 a1 a2 a3→G):G:=h.elim λa0 h=>h.elim λa1 h=>h.elim λa2 h=>h.elim λa3 h=>k a0 a1 a2 a3 h
theorem FQ{A0 A1 A2 A3:Type}{P0 P1:A0→A1→A2→A3→Prop}{G:Prop}(h:∃a0 a1 a2 a3,P0 a0 a1 a2 a3∧P1 a0 a1 a2 a3)(k:∀a0 a1 a2 a3,P0 a0 a1 a2 a3→P1 a0 a1 a2 a3→G):G:=h.elim λa0 h=>h.elim λa1 h=>h.elim λa2 h=>h.elim λa3 h=>k a0 a1 a2 a3 h.1 h.2
theorem Ji{A0 A1 A2 A3:Type}{P0 P1 P2:A0→A1→A2→A3→Prop}{G:Prop}(h:∃a0 a1 a2 a3,P0 a0 a1 a2 a3∧P1 a0 a1 a2 a3∧P2 a0 a1 a2 a3)(k:∀a0 a1 a2 a3,P0 a0 a1 a2 a3→P1 a0 a1 a2 a3→P2 a0 a1 a2 a3→G):G:=h.elim λa0 h=>h.elim λa1 h=>h.elim λa2 h=>h.elim λa3 h=>k a0 a1 a2 a3 h.1 h.2.1 h.2.2
theorem Jj{A0 A1 A2 A3:Type}{P0 P1 P2 P3:A0→A1→A2→A3→Prop}{G:Prop}(h:∃a0 a1 a2 a3,P0 a0 a1 a2 a3∧P1 a0 a1 a2 a3∧P2 a0 a1 a2 a3∧P3 a0 a1 a2 a3)(k:∀a0 a1 a2 a3,P0 a0 a1 a2 a3→P1 a0 a1 a2 a3→P2 a0 a1 a2 a3→P3 a0 a1 a2 a3→G):G:=h.elim λa0 h=>h.elim λa1 h=>h.elim λa2 h=>h.elim λa3 h=>k a0 a1 a2 a3 h.1 h.2.1 h.2.2.1 h.2.2.2
theorem M7{A0 A1 A2 A3:Type}{P0 P1 P2 P3 P4:A0→A1→A2→A3→Prop}{G:Prop}(h:∃a0 a1 a2 a3,P0 a0 a1 a2 a3∧P1 a0 a1 a2 a3∧P2 a0 a1 a2 a3∧P3 a0 a1 a2 a3∧P4 a0 a1 a2 a3)(k:∀a0 a1 a2 a3,P0 a0 a1 a2 a3→P1 a0 a1 a2 a3→P2 a0 a1 a2 a3→P3 a0 a1 a2 a3→P4 a0 a1 a2 a3→G):G:=h.elim λa0 h=>h.elim λa1 h=>h.elim λa2 h=>h.elim λa3 h=>k a0 a1 a2 a3 h.1 h.2.1 h.2.2.1 h.2.2.2.1 h.2.2.2.2
theorem M8{A0 A1 A2 A3 A4:Type}{P0 P1 P2 P3 P4 P5:A0→A1→A2→A3→A4→Prop}{G:Prop}(h:∃a0 a1 a2 a3 a4,P0 a0 a1 a2 a3 a4∧P1 a0 a1 a2 a3 a4∧P2 a0 a1 a2 a3 a4∧P3 a0 a1 a2 a3 a4∧P4 a0 a1 a2 a3 a4∧P5 a0 a1 a2 a3 a4)(k:∀a0 a1 a2 a3 a4,P0 a0 a1 a2 a3 a4→P1 a0 a1 a2 a3 a4→P2 a0 a1 a2 a3 a4→P3 a0 a1 a2 a3 a4→P4 a0 a1 a2 a3 a4→P5 a0 a1 a2 a3 a4→G):G:=h.elim λa0 h=>h.elim λa1 h=>h.elim λa2 h=>h.elim λa3 h=>h.elim λa4 h=>k a0 a1 a2 a3 a4 h.1 h.2.1 h.2.2.1 h.2.2.2.1 h.2.2.2.2.1 h.2.2.2.2.2
section
open PySem
inductive V where
 |bW|bool (b:Bool)|int (i:Int)|ref (n:Nat)|tup (l:List V)|bQ (a b c:Int)|ft (l:List V)
inductive MO where
 |lst (l:List V)
 |ins (c:Nat) (fs:List (Nat×V))
inductive Op where
 |add|sub|mul|bX|mod|shl|shr|band|bor|bxor
inductive Cm where
 |eq|ne|lt|le|gt|ge|F7|F8|JM|BJ
set_option genCtorIdx false in
inductive E where
 |c (v:V)|l (k:Nat)|aV (g:Nat)|attr (e:E) (a:Nat)|sub (e i:E)
 |jv (e lo:E)|qZ (e hi:E)|qP (e:E)
 |b (op:Op) (l r:E)|neg (e:E)|inv (e:E)|not (e:E)
 |and (l r:E)|or (l r:E)|cmp (op:Cm) (l r:E)|chain (o1 o2:Cm) (a b c:E)
 |ite (t a b:E)|call (f:Nat) (as:List E)|mk (c:Nat) (as:List E)
 |len (e:E)|abs (e:E)|max (a b:E)|min (a b:E)|range (as:List E)
 |app (l x:E)|tup (as:List E)|lst (as:List E)
 |comp (elt:E) (k:Nat) (it:E) (cs:List E)
set_option genCtorIdx false in
inductive S where
 |set (k:Nat) (e:E)|kq (ks:List Nat) (e:E)|b6 (o:E) (a:Nat) (e:E)|gW (o i e:E)
 |aug (k:Nat) (op:Op) (e:E)|vU (o:E) (a:Nat) (op:Op) (e:E)|nV (o i:E) (op:Op) (e:E)
 |exp (e:E)|ret (e:E)|ite (t:E) (a b:List S)|zR (t:E) (b:List S)
 |fr (k:Nat) (e:E) (b:List S)|Hh (ks:List Nat) (e:E) (b:List S)|cnt|bad
set_option genCtorIdx false in
inductive Fl where
 |bf|cnt|ret (v:V)
noncomputable abbrev MH:=List MO
noncomputable abbrev Loc:=List (Option V)
noncomputable def jh(k:Int):Bool:=decide (0≤k)&&decide (k<1000000)
noncomputable abbrev R:=Option (V×MH)
noncomputable def bM(x y:Int):Int:=PySem.Builtin.bitAnd x y
noncomputable def fM(x y:Int):Int:=PySem.Builtin.bitOr x y
noncomputable def iS(x y:Int):Int:=PySem.Builtin.bitXor x y
noncomputable def big:Nat:=2 ^ 40
noncomputable def small(x:Int):Bool:=decide (-(2 ^ 62)<x)&&decide (x<2 ^ 62)
noncomputable def binI(op:Op)(x y:Int):Option Int:=
 match op with
 |.add=>some (x+y)
 |.sub=>some (x-y)
 |.mul=>if small x||small y then some (x*y)else none
 |.bX=>if(decide (0<y))&&small y then some (x.fdiv y)else none
 |.mod=>if decide (0<y)then some (x.fmod y)else none
 |.shl=>if decide (0≤y)&&decide (y<4096)&&small x then some (x*2 ^ y.toNat)else none
 |.shr=>if decide (0≤y)then some (x.fdiv (2 ^ y.toNat))else none
 |.band=>some (bM x y)
 |.bor=>some (fM x y)
 |.bxor=>some (iS x y)
noncomputable def aj(H:MH)(n:Nat):Option (List V):=
 match H[n]? with
 |some (.lst l)=>some l
 |_=>none
noncomputable def room:Nat:=1000000
noncomputable def aI(n:Nat):Bool:=Nat.ble n room
noncomputable def nW(op:Op)(a b:V)(H:MH):R:=
 match a,b with
 |.int x,.int y=>(binI op x y).bind λz=>some (.int z,H)
 |.ref l,.ref m=>match op with
  |.add=>(aj H l).bind λxs=>(aj H m).bind λys=>if aI (xs.length+ys.length)then some (.ref H.length,H++[.lst (xs++ys)])else none
  |_=>none
 |.ref l,.int n=>match op with
  |.mul=>(aj H l).bind λxs=>if(decide (0≤n)&&decide (n<2 ^ 62))&&aI (xs.length*n.toNat)then some (.ref H.length,H++[.lst (List.replicate n.toNat xs).flatten])else none
  |_=>none
 |_,_=>none
noncomputable def truth(v:V)(H:MH):Option Bool:=
 match v with
 |.bW=>some false
 |.bool b=>some b
 |.int i=>some (decide (i≠0))
 |.ref n=>(aj H n).bind λl=>if aI l.length then some !l.isEmpty else none
 |_=>none
noncomputable def intsOf:List V→Option (List Int)
 | []=>some []
 |.int i::r=>(intsOf r).bind λl=>some (i::l)
 |_::_=>none
noncomputable def tI(x:Int):List Int→Bool
 | []=>false
 |y::r=>if x=y then true else tI x r
noncomputable def gK:V→Bool
 |.bW=>true
 |_=>false
noncomputable def cX(op:Cm)(a b:V)(H:MH):Option Bool:=
 match op with
 |.F7=>match b with
  |.bW=>some (gK a)
  |_=>none
 |.F8=>match b with
  |.bW=>some !(gK a)
  |_=>none
 |.JM=>match a,b with
  |.int x,.tup l=>(intsOf l).bind λns=>some (tI x ns)
  |.int x,.ref n=>(aj H n).bind λl=>(intsOf l).bind λns=>some (tI x ns)
  |_,_=>none
 |.BJ=>match a,b with
  |.int x,.tup l=>(intsOf l).bind λns=>some !(tI x ns)
  |.int x,.ref n=>(aj H n).bind λl=>(intsOf l).bind λns=>some !(tI x ns)
  |_,_=>none
 |.eq=>match a,b with
  |.int x,.int y=>some (decide (x=y))
  |.bool x,.bool y=>some (x==y)
  |.ref n,.ref m=>(aj H n).bind λl=>(aj H m).bind λr=>if r.isEmpty then(intsOf l).bind λ_=>some l.isEmpty else none
  |_,_=>none
 |.ne=>match a,b with
  |.int x,.int y=>some !(decide (x=y))
  |.bool x,.bool y=>some !(x==y)
  |_,_=>none
 |.lt=>match a,b with
  |.int x,.int y=>some (decide (x<y))
  |_,_=>none
 |.le=>match a,b with
  |.int x,.int y=>some (decide (x≤y))
  |_,_=>none
 |.gt=>match a,b with
  |.int x,.int y=>some (decide (y<x))
  |_,_=>none
 |.ge=>match a,b with
  |.int x,.int y=>some (decide (y≤x))
  |_,_=>none
noncomputable def fld(a:Nat):List (Nat×V)→Option V
 | []=>none
 |(b,v)::r=>if Nat.beq a b then some v else fld a r
noncomputable def sO(a:Nat)(x:V):List (Nat×V)→List (Nat×V)
 | []=>[(a,x)]
 |(b,v)::r=>if Nat.beq a b then(b,x)::r else(b,v)::sO a x r
noncomputable def bK(v:V)(a:Nat)(H:MH):Option V:=
 match v with
 |.ref n=>match H[n]? with
  |some (.ins _ fs)=>fld a fs
  |_=>none
 |_=>none
noncomputable def gV(v:V)(a:Nat)(x:V)(H:MH):Option MH:=
 match v with
 |.ref n=>match H[n]? with
  |some (.ins c fs)=>some (H.set n (.ins c (sO a x fs)))
  |_=>none
 |_=>none
noncomputable def aJ(v i:V)(H:MH):Option V:=
 match i with
 |.int k=>if jh k then(match v with
  |.ref n=>(aj H n).bind λl=>l[k.toNat]?
  |.tup l=>l[k.toNat]?
  |_=>none)else none
 |_=>none
noncomputable def dX(v i x:V)(H:MH):Option MH:=
 match v,i with
 |.ref n,.int k=>if jh k then(aj H n).bind λl=>if Nat.blt k.toNat l.length then some (H.set n (.lst (l.set k.toNat x)))else none else none
 |_,_=>none
noncomputable def aK:Nat→Int→Int→List V
 |0,_,_=>[]
 |n+1,a,c=>.int a::aK n (a+c) c
noncomputable def dc(a b c:Int):Option (List V):=
 if c=1 then some (aK (b-a).toNat a 1)else if c=2 then some (aK ((b-a+1)/2).toNat a 2)else if c = -1 then some (aK (a-b).toNat a (-1))else none
noncomputable def bI(x:Int):Bool:=decide (-1000000≤x)&&decide (x≤1000000)
noncomputable def gT(a b c:Int):Bool:=bI a&&bI b&&(decide (c=1)||(decide (c=2)||decide (c = -1)))
noncomputable def eA(vs:List V):Option V:=
 match vs with
 | [.int b]=>if bI b then some (.bQ 0 b 1)else none
 | [.int a,.int b]=>if bI a&&bI b then some (.bQ a b 1)else none
 | [.int a,.int b,.int c]=>if bI a&&bI b&&(decide (c=1)||(decide (c=2)||decide (c = -1)))then some (.bQ a b c)else none
 |_=>none
noncomputable def aX(ρ:Loc)(k:Nat)(v:V):Loc:=ρ.set k (some v)
noncomputable def dY(ρ:Loc):List Nat→List V→Option Loc
 | [],[]=>some ρ
 |k::ks,v::vs=>dY (aX ρ k v) ks vs
 |_,_=>none
noncomputable def getL(ρ:Loc)(k:Nat):Option V:=(ρ[k]?).bind id
structure Cf where
 fn:Nat→List V→MH→R
 F6:Nat→Option Nat
 aV:Nat→Option V
section
variable (F:Cf)
noncomputable def wu(body:V→MH→Option MH)(n:Nat):Nat→Nat→MH→Option MH
 |0,_,_=>none
 |g+1,i,H=>(aj H n).bind λl=>match l[i]? with
  |none=>some H
  |some v=>(body v H).bind λH=>wu body n g (i+1) H
noncomputable def iW(body:V→MH→Option MH):List V→MH→Option MH
 | [],H=>some H
 |v::r,H=>(body v H).bind λH=>iW body r H
noncomputable def each(body:V→MH→Option MH)(v:V)(H:MH):Option MH:=
 match v with
 |.ref n=>(aj H n).bind λl=>wu body n (l.length+1) 0 H
 |.tup l=>iW body l H
 |.bQ a b c=>(dc a b c).bind λl=>iW body l H
 |_=>none
mutual
noncomputable def ar:E→Loc→MH→R
 |.c v,_,H=>some (v,H)
 |.l k,ρ,H=>(getL ρ k).bind λv=>some (v,H)
 |.aV g,_,H=>(F.aV g).bind λv=>some (v,H)
 |.attr e a,ρ,H=>(ar e ρ H).bind λr=>(bK r.1 a r.2).bind λv=>some (v,r.2)
 |.sub e i,ρ,H=>(ar e ρ H).bind λr=>(ar i ρ r.2).bind λq=>(aJ r.1 q.1 q.2).bind λv=>some (v,q.2)
 |.jv e lo,ρ,H=>(ar e ρ H).bind λr=>(ar lo ρ r.2).bind λq=>match r.1,q.1 with
  |.ref n,.int k=>if jh k then(aj q.2 n).bind λl=>if aI l.length then some (.ref q.2.length,q.2++[.lst (l.drop k.toNat)])else none else none
  |_,_=>none
 |.qZ e hi,ρ,H=>(ar e ρ H).bind λr=>(ar hi ρ r.2).bind λq=>match r.1,q.1 with
  |.ft l,.int k=>if jh k&&aI l.length then some (.ref q.2.length,q.2++[.lst (l.take k.toNat)])else none
  |_,_=>none
 |.qP e,ρ,H=>(ar e ρ H).bind λr=>match r.1 with
  |.ref n=>(aj r.2 n).bind λl=>if aI l.length then some (.ref r.2.length,r.2++[.lst l])else none
  |_=>none
 |.b op l r,ρ,H=>(ar l ρ H).bind λx=>(ar r ρ x.2).bind λy=>nW op x.1 y.1 y.2
 |.neg e,ρ,H=>(ar e ρ H).bind λr=>match r.1 with
  |.int i=>some (.int (-i),r.2)
  |_=>none
 |.inv e,ρ,H=>(ar e ρ H).bind λr=>match r.1 with
  |.int i=>some (.int (-i-1),r.2)
  |_=>none
 |.not e,ρ,H=>(ar e ρ H).bind λr=>(truth r.1 r.2).bind λb=>some (.bool !b,r.2)
 |.and l r,ρ,H=>(ar l ρ H).bind λx=>(truth x.1 x.2).bind λb=>if b then ar r ρ x.2 else some x
 |.or l r,ρ,H=>(ar l ρ H).bind λx=>(truth x.1 x.2).bind λb=>if b then some x else ar r ρ x.2
 |.cmp op l r,ρ,H=>(ar l ρ H).bind λx=>(ar r ρ x.2).bind λy=>(cX op x.1 y.1 y.2).bind λb=>some (.bool b,y.2)
 |.chain o1 o2 a b c,ρ,H=>(ar a ρ H).bind λx=>(ar b ρ x.2).bind λy=>(cX o1 x.1 y.1 y.2).bind λq=>
   if q then(ar c ρ y.2).bind λz=>(cX o2 y.1 z.1 z.2).bind λq2=>some (.bool q2,z.2)else some (.bool false,y.2)
 |.ite t a b,ρ,H=>(ar t ρ H).bind λx=>(truth x.1 x.2).bind λq=>if q then ar a ρ x.2 else ar b ρ x.2
 |.call f as,ρ,H=>(da as ρ H).bind λr=>F.fn f r.1 r.2
 |.mk c as,ρ,H=>(da as ρ H).bind λr=>(F.F6 c).bind λf=>(F.fn f (.ref r.2.length::r.1) (r.2++[.ins c []])).bind λq=>match q.1 with
  |.bW=>some (.ref r.2.length,q.2)
  |_=>none
 |.len e,ρ,H=>(ar e ρ H).bind λr=>match r.1 with
  |.ref n=>(aj r.2 n).bind λl=>if aI l.length then some (.int l.length,r.2)else none
  |_=>none
 |.abs e,ρ,H=>(ar e ρ H).bind λr=>match r.1 with
  |.int i=>some (.int i.natAbs,r.2)
  |_=>none
 |.max a b,ρ,H=>(ar a ρ H).bind λx=>(ar b ρ x.2).bind λy=>match x.1,y.1 with
  |.int i,.int j=>some (.int (if i<j then j else i),y.2)
  |_,_=>none
 |.min a b,ρ,H=>(ar a ρ H).bind λx=>(ar b ρ x.2).bind λy=>match x.1,y.1 with
  |.int i,.int j=>some (.int (if j<i then j else i),y.2)
  |_,_=>none
 |.range as,ρ,H=>(da as ρ H).bind λr=>(eA r.1).bind λv=>some (v,r.2)
 |.app l x,ρ,H=>(ar l ρ H).bind λr=>match r.1 with
  |.ref n=>(aj r.2 n).bind λ_=>(ar x ρ r.2).bind λq=>(aj q.2 n).bind λl=>if aI l.length then some (.bW,q.2.set n (.lst (l++[q.1])))else none
  |_=>none
 |.tup as,ρ,H=>(da as ρ H).bind λr=>some (.tup r.1,r.2)
 |.lst as,ρ,H=>(da as ρ H).bind λr=>some (.ref r.2.length,r.2++[.lst r.1])
 |.comp elt k it cs,ρ,H=>(ar it ρ H).bind λr=>
   (each (λv H1=>(fQ cs (aX ρ k v) H1).bind λq=>if q.1 then(ar elt (aX ρ k v) q.2).bind λx=>(aj x.2 r.2.length).bind λl=>if aI l.length then some (x.2.set r.2.length (.lst (l++[x.1])))else none else some q.2)
    r.1 (r.2++[.lst []])).bind λH2=>some (.ref r.2.length,H2)
noncomputable def da:List E→Loc→MH→Option (List V×MH)
 | [],_,H=>some ([],H)
 |e::r,ρ,H=>(ar e ρ H).bind λx=>(da r ρ x.2).bind λq=>some (x.1::q.1,q.2)
noncomputable def fQ:List E→Loc→MH→Option (Bool×MH)
 | [],_,H=>some (true,H)
 |e::r,ρ,H=>(ar e ρ H).bind λx=>(truth x.1 x.2).bind λb=>if b then fQ r ρ x.2 else some (false,x.2)
end
noncomputable abbrev RS:=Option (Fl×Loc×MH)
noncomputable def Cw(t:Loc→MH→R)(body:Loc→MH→RS):Nat→Loc→MH→RS
 |0,_,_=>none
 |g+1,ρ,H=>(t ρ H).bind λx=>(truth x.1 x.2).bind λb=>if b then(body ρ x.2).bind λr=>match r.1 with
   |.ret v=>some (.ret v,r.2.1,r.2.2)
   |_=>Cw t body g r.2.1 r.2.2
  else some (.bf,ρ,x.2)
noncomputable def wU(put:Loc→V→Option Loc)(body:Loc→MH→RS):List V→Loc→MH→RS
 | [],ρ,H=>some (.bf,ρ,H)
 |v::l,ρ,H=>(put ρ v).bind λρ=>(body ρ H).bind λr=>match r.1 with
   |.ret v=>some (.ret v,r.2.1,r.2.2)
   |_=>wU put body l r.2.1 r.2.2
noncomputable def forL(put:Loc→V→Option Loc)(body:Loc→MH→RS)(n:Nat):Nat→Nat→Loc→MH→RS
 |0,_,_,_=>none
 |g+1,i,ρ,H=>(aj H n).bind λl=>match l[i]? with
  |none=>some (.bf,ρ,H)
  |some v=>(put ρ v).bind λρ=>(body ρ H).bind λr=>match r.1 with
   |.ret v=>some (.ret v,r.2.1,r.2.2)
   |_=>forL put body n g (i+1) r.2.1 r.2.2
noncomputable def AZ(put:Loc→V→Option Loc)(body:Loc→MH→RS)(v:V)(ρ:Loc)(H:MH):RS:=
 match v with
 |.ref n=>(aj H n).bind λl=>forL put body n (l.length+1) 0 ρ H
 |.tup l=>wU put body l ρ H
 |.bQ a b c=>(dc a b c).bind λl=>wU put body l ρ H
 |_=>none
noncomputable def mL(ks:List Nat)(ρ:Loc)(v:V):Option Loc:=
 match v with
 |.tup l=>dY ρ ks l
 |_=>none
noncomputable def turns:Nat:=200
mutual
noncomputable def tx:S→Loc→MH→RS
 |.set k e,ρ,H=>(ar F e ρ H).bind λr=>some (.bf,aX ρ k r.1,r.2)
 |.kq ks e,ρ,H=>(ar F e ρ H).bind λr=>(mL ks ρ r.1).bind λρ=>some (.bf,ρ,r.2)
 |.b6 o a e,ρ,H=>(ar F e ρ H).bind λr=>(ar F o ρ r.2).bind λq=>(gV q.1 a r.1 q.2).bind λH=>some (.bf,ρ,H)
 |.gW o i e,ρ,H=>(ar F e ρ H).bind λr=>(ar F o ρ r.2).bind λq=>(ar F i ρ q.2).bind λp=>(dX q.1 p.1 r.1 p.2).bind λH=>some (.bf,ρ,H)
 |.aug k op e,ρ,H=>(getL ρ k).bind λv=>(ar F e ρ H).bind λr=>match v,r.1 with
  |.int x,.int y=>(binI op x y).bind λz=>some (.bf,aX ρ k (.int z),r.2)
  |_,_=>none
 |.vU o a op e,ρ,H=>(ar F o ρ H).bind λr=>(bK r.1 a r.2).bind λv=>(ar F e ρ r.2).bind λq=>match v,q.1 with
  |.int x,.int y=>(binI op x y).bind λz=>(gV r.1 a (.int z) q.2).bind λH=>some (.bf,ρ,H)
  |_,_=>none
 |.nV o i op e,ρ,H=>(ar F o ρ H).bind λr=>(ar F i ρ r.2).bind λp=>(aJ r.1 p.1 p.2).bind λv=>(ar F e ρ p.2).bind λq=>match v,q.1 with
  |.int x,.int y=>(binI op x y).bind λz=>(dX r.1 p.1 (.int z) q.2).bind λH=>some (.bf,ρ,H)
  |_,_=>none
 |.exp e,ρ,H=>(ar F e ρ H).bind λr=>match r.1 with
  |.bW=>some (.bf,ρ,r.2)
  |_=>none
 |.ret e,ρ,H=>(ar F e ρ H).bind λr=>some (.ret r.1,ρ,r.2)
 |.ite t a b,ρ,H=>(ar F t ρ H).bind λx=>(truth x.1 x.2).bind λq=>if q then eZ a ρ x.2 else eZ b ρ x.2
 |.zR t b,ρ,H=>Cw (ar F t) (eZ b) turns ρ H
 |.fr k e b,ρ,H=>(ar F e ρ H).bind λr=>AZ (λρ v=>some (aX ρ k v)) (eZ b) r.1 ρ r.2
 |.Hh ks e b,ρ,H=>(ar F e ρ H).bind λr=>match r.1 with
  |.ref n=>AZ (mL ks) (eZ b) (.ref n) ρ r.2
  |_=>none
 |.cnt,ρ,H=>some (.cnt,ρ,H)
 |.bad,_,_=>none
noncomputable def eZ:List S→Loc→MH→RS
 | [],ρ,H=>some (.bf,ρ,H)
 |s::b,ρ,H=>(tx s ρ H).bind λr=>match r.1 with
  |.bf=>eZ b r.2.1 r.2.2
  |f=>some (f,r.2.1,r.2.2)
end
end
structure Fn where
 params:Nat
 slots:Nat
 body:List S
structure Pg where
 fns:List Fn
 F6:List Nat
 aV:List V
noncomputable def ag(P:Pg):Nat→Nat→List V→MH→R
 |0,_,_,_=>none
 |d+1,f,as,H=>(P.fns[f]?).bind λfn=>if Nat.beq as.length fn.params then
   (eZ ⟨ag P d,λc=>P.F6[c]?,λg=>P.aV[g]?⟩ fn.body (as.map some++List.replicate (fn.slots-fn.params) none) H).bind λr=>match r.1 with
   |.ret v=>some (v,r.2.2)
   |.bf=>some (.bW,r.2.2)
   |.cnt=>none
  else none
end
section
open PySem
structure Tb where
 fns:List Str
 cls:List Str
 aV:List Str
 dM:List Str
noncomputable def idx(x:Str):List Str→Option Nat
 | []=>none
 |y::r=>if x=y then some 0 else(idx x r).map (·+1)
noncomputable def eP{α β:Type}(f:α→Option β):List α→Option (List β)
 | []=>some []
 |a::r=>(f a).bind λb=>(eP f r).bind λl=>some (b::l)
noncomputable def look(x:Str):List (Str×Nat)→Option Nat
 | []=>none
 |(y,k)::r=>if x=y then some k else look x r
noncomputable def lH:Option NameKind→Bool
 |some .local|some .cell|some .free=>true
 |_=>false
noncomputable def xk:Option NameKind→Bool
 |some .local|some .cell=>true
 |_=>false
noncomputable def dR:Option NameKind→Bool
 |some .globalImplicit=>true
 |_=>false
noncomputable def vB:Operator→Option Op
 |.Add=>some .add|.Sub=>some .sub|.Mult=>some .mul|.FloorDiv=>some .bX|.Mod=>some .mod
 |.LShift=>some .shl|.RShift=>some .shr|.BitAnd=>some .band|.BitOr=>some .bor|.BitXor=>some .bxor
 |_=>none
noncomputable def v_:CmpOp→Option Cm
 |.Eq=>some .eq|.NotEq=>some .ne|.Lt=>some .lt|.LtE=>some .le|.Gt=>some .gt|.GtE=>some .ge
 |.Is=>some .F7|.IsNot=>some .F8|.In=>some .JM|.NotIn=>some .BJ
noncomputable def lY:Str := "len"
noncomputable def lX:Str := "abs"
noncomputable def lZ:Str := "max"
noncomputable def l7:Str := "min"
noncomputable def fj:Str := "range"
noncomputable def kI:Str := "append"
section
variable (T:Tb) (G:List (Str×Nat))
noncomputable def isStar(e:Expr):Bool:=Nat.beq e.ctorIdx 22
noncomputable def isSet(e:Expr):Bool:=Nat.beq e.ctorIdx 7
noncomputable def isCall(e:Expr):Bool:=Nat.beq e.ctorIdx 16
noncomputable def c_(sc sc':Scope)(x:Str):Bool:=
 sc'.kind==.function&&decide ((sc'.names.map (·.1)).Nodup)&&sc'.names.lookup x==some .local&&sc'.names.all λ(n,k)=>
  match k with
  |.local=>(n==x||(look n G).isNone)&&sc'.names.lookup n==some .local
  |.free=>(look n G).isSome&&(sc.names.lookup n==some .cell||sc.names.lookup n==some .free)&&sc'.names.lookup n==some .free
  |.cell=>false
  |_=>true
noncomputable def cG(e:Expr):Bool:=Nat.beq e.ctorIdx 8
noncomputable def fw(sc:Scope)(x:Str):Option Nat:=if xk (sc.names.lookup x)then look x G else none
inductive Vw where
 |nm (x:Str)|tp (l:List Expr)|at(o:Expr) (a:Str) (p:Pos)|sb (o i:Expr)|sl (a b c:Option Expr)|no
noncomputable def pD:Expr→Vw
 |.Name x _=>.nm x
 |.Tuple l _ _=>.tp l
 |.Attribute o a p=>.at o a p
 |.Subscript o i _=>.sb o i
 |.Slice a b c _=>.sl a b c
 |_=>.no
noncomputable def iP(e:Expr):Bool:=match pD e with
 |.tp vs=>vs.all (constantsAlone 8)
 |_=>false
noncomputable def Ku(e:Expr):Vw→Prop
 |.nm x=>∃p,e=.Name x p
 |.tp l=>∃k p,e=.Tuple l k p
 |.at o a p=>e=.Attribute o a p
 |.sb o i=>∃p,e=.Subscript o i p
 |.sl a b c=>∃p,e=.Slice a b c p
 |.no=>True
theorem jz(e:Expr):Ku e (pD e):=by
 cases e<;>first|exact trivial|exact⟨_,rfl⟩|exact⟨_,_,rfl⟩|exact rfl
noncomputable def Dw:Const→Option E
 |.int i=>some (.c (.int i))
 |.bool b=>some (.c (.bool b))
 |.none=>some (.c .bW)
 |_=>none
noncomputable def GR(sc:Scope)(x:Str):Option E:=
 if lH (sc.names.lookup x)then(look x G).map .l else if dR (sc.names.lookup x)then(idx x T.aV).map .aV else none
noncomputable def Nz(f:Expr→Option E)(o:Expr)(lo hi st:Option Expr):Option E:=match st with
 |some _=>none
 |none=>match lo with
  |none=>match hi with
   |none=>(f o).map .qP
   |some hi=>(f o).bind λo=>(f hi).map λhi=>.qZ o hi
  |some lo=>match hi with
   |none=>(f o).bind λo=>(f lo).map λlo=>.jv o lo
   |some _=>none
noncomputable def GS(f:Expr→Option E)(o i:Expr):Option E:=match pD i with
 |.sl lo hi st=>Nz f o lo hi st
 |_=>(f o).bind λo=>(f i).map λi=>.sub o i
noncomputable def O0(f:Expr→Option E)(op:UnaryOp)(x:Expr):Option E:=match op with
 |.USub=>(f x).map .neg
 |.Invert=>(f x).map .inv
 |.Not=>(f x).map .not
 |.UAdd=>none
noncomputable def Jt(f:Expr→Option E)(op:BoolOp):List Expr→Option E
 | []=>none
 |a::r=>(f a).bind λa'=>match r with
  | []=>some a'
  |_::_=>(Jt f op r).map λb=>match op with|.And=>.and a' b|.Or=>.or a' b
noncomputable def GQ(f:Expr→Option E)(l:Expr)(ops:List CmpOp)(rs:List Expr):Option E:=match ops,rs with
 | [op],[r]=>if isSet r then none else(v_ op).bind λop=>(f l).bind λl=>(f r).map λr=>.cmp op l r
 | [o1,o2],[b,c]=>if isSet c then none else(v_ o1).bind λo1=>(v_ o2).bind λo2=>(f l).bind λa=>(f b).bind λb=>(f c).map λc=>.chain o1 o2 a b c
 |_,_=>none
noncomputable def k7(f:Expr→Option E)(l:List Expr):Option (List E):=if l.any isStar then none else eP f l
noncomputable def Dy(as:List E)(k:E→E):Option E:=match as with
 | [a]=>some (k a)
 |_=>none
noncomputable def Dz(as:List E)(k:E→E→E):Option E:=match as with
 | [a,b]=>some (k a b)
 |_=>none
noncomputable def Nk(x:Str)(as:List E):Option E:=
 if x=lY then Dy as .len else if x=lX then Dy as .abs else if x=lZ then Dz as .max else if x=l7 then Dz as .min else if x=fj then some (.range as)else none
noncomputable def Dx(x:Str)(as:List E):Option E:=match idx x T.fns with
 |some k=>if Nat.ble as.length 20 then some (.call k as)else none
 |none=>match idx x T.cls with
  |some k=>if Nat.ble as.length 20 then some (.mk k as)else none
  |none=>Nk x as
noncomputable def Dt(f:Expr→Option E)(o:Expr)(m:Str)(apos:Pos)(args:List Expr)(pos:Pos):Option E:=match args with
 | [x]=>if m=kI&&Nat.beq apos.endLine pos.line&&!isStar x&&!isCall o then(f o).bind λo=>(f x).map λx=>.app o x else none
 |_=>none
noncomputable def CG(f:Expr→Option E)(sc:Scope)(fn:Expr)(args:List Expr)(kws:List Keyword)(pos:Pos):Option E:=match kws with
 |_::_=>none
 | []=>match pD fn with
  |.nm x=>if dR (sc.names.lookup x)then(k7 f args).bind (Dx T x)else none
  |.at o m apos=>Dt f o m apos args pos
  |_=>none
noncomputable def Nl(f:Scope→Expr→Option E)(sc:Scope)(elt:Expr)(gens:List Comprehension)(sc':Scope):Option E:=match gens with
 | [g]=>match pD g.target with
  |.nm x=>if g.is_async=0 then(if c_ G sc sc' x then(look x G).bind λk=>(f sc g.iter).bind λit=>(f sc' elt).bind λelt=>(eP (f sc') g.ifs).map λcs=>.comp elt k it cs else none)else none
  |_=>none
 |_=>none
noncomputable def cE:Nat→Scope→Expr→Option E
 |0,_,_=>none
 |n+1,sc,e=>match e with
  |.Constant v _ _=>Dw v
  |.Name x _=>GR T G sc x
  |.Attribute o a _=>if isCall o then none else(cE n sc o).bind λo=>(idx a T.dM).map λk=>.attr o k
  |.Subscript o i _=>GS (cE n sc) o i
  |.BinOp l op r _=>(vB op).bind λop=>(cE n sc l).bind λl=>(cE n sc r).map λr=>.b op l r
  |.UnaryOp op x _=>O0 (cE n sc) op x
  |.BoolOp op l _=>Jt (cE n sc) op l
  |.Compare l ops rs _=>GQ (cE n sc) l ops rs
  |.IfExp t a b _=>(cE n sc t).bind λt=>(cE n sc a).bind λa=>(cE n sc b).map λb=>.ite t a b
  |.Call fn args kws pos=>CG T (cE n sc) sc fn args kws pos
  |.List l _=>(k7 (cE n sc) l).bind λas=>if Nat.ble as.length 1000 then some (.lst as)else none
  |.Tuple l _ _=>(k7 (cE n sc) l).bind λas=>if Nat.ble as.length 1000 then some (.tup as)else none
  |.ListComp elt gens sc' _=>Nl G (cE n) sc elt gens sc'
  |_=>none
noncomputable def iD(sc:Scope):List Expr→Option (List Nat)
 | []=>some []
 |.Name x _::r=>(fw G sc x).bind λk=>(iD sc r).map λks=>k::ks
 |_::_=>none
noncomputable def Du(f:Expr→Option E)(sc:Scope)(t e:Expr):Option S:=match pD t with
 |.nm x=>(fw G sc x).bind λk=>(f e).map λe=>.set k e
 |.tp ts=>if cG e||iP e then none else(iD G sc ts).bind λks=>if decide ks.Nodup then(f e).map λe=>.kq ks e else none
 |.at o a _=>if cG e then none else(f e).bind λe=>(f o).bind λo=>(idx a T.dM).map λa=>.b6 o a e
 |.sb o i=>if cG e then none else(f e).bind λe=>(f o).bind λo=>(f i).map λi=>.gW o i e
 |_=>none
noncomputable def Dv(f:Expr→Option E)(sc:Scope)(t:Expr)(op:Operator)(e:Expr):Option S:=match pD t with
 |.nm x=>(fw G sc x).bind λk=>(vB op).bind λop=>(f e).map λe=>.aug k op e
 |.at o a _=>(vB op).bind λop=>(f o).bind λo=>(idx a T.dM).bind λa=>(f e).map λe=>.vU o a op e
 |.sb o i=>(vB op).bind λop=>(f o).bind λo=>(f i).bind λi=>(f e).map λe=>.nV o i op e
 |_=>none
noncomputable def Am(f:Expr→Option E)(g:List Stmt→Option (List S))(sc:Scope)(t e:Expr)(b:List Stmt):Option S:=match pD t with
 |.nm x=>(fw G sc x).bind λk=>(f e).bind λe=>(g b).map λb=>.fr k e b
 |.tp ts=>(iD G sc ts).bind λks=>(f e).bind λe=>(g b).map λb=>.Hh ks e b
 |_=>none
noncomputable def cS:Nat→Scope→Stmt→Option S
 |0,_,_=>none
 |n+1,sc,st=>match st with
  |.Assign ts e _=>(match ts with|[t]=>Du T G (cE T G n sc) sc t e|_=>none)
  |.AugAssign t op e _=>Dv T G (cE T G n sc) sc t op e
  |.Expr e _=>if cG e then none else(cE T G n sc e).map .exp
  |.Return e _=>(match e with|some e=>(cE T G n sc e).map .ret|none=>some (.ret (.c .bW)))
  |.If t a b _=>(cE T G n sc t).bind λt=>(eP (cS n sc) a).bind λa=>(eP (cS n sc) b).map λb=>.ite t a b
  |.While t b o _=>(match o with|[]=>(cE T G n sc t).bind λt=>(eP (cS n sc) b).map λb=>.zR t b|_::_=>none)
  |.For t e b o _=>(match o with|[]=>if isSet e then none else Am G (cE T G n sc) (eP (cS n sc)) sc t e b|_::_=>none)
  |.Continue _=>some .cnt
  |.Raise _ _ _=>some .bad
  |_=>none
end
noncomputable def locals(sc:Scope):List Str:=(sc.names.filter λx=>lH (some x.2)).map (·.1)
noncomputable def b9:Nat→Expr→List Str
 |0,_=>[]
 |n+1,e=>match e with
  |.ListComp _ [⟨.Name x _,_,_,_⟩] _ _=>[x]
  |.Compare l _ cs _=>b9 n l++cs.flatMap (b9 n)
  |.BoolOp _ vs _=>vs.flatMap (b9 n)
  |.BinOp l _ r _=>b9 n l++b9 n r
  |.Call _ as _ _=>as.flatMap (b9 n)
  |_=>[]
noncomputable def hD:Nat→Stmt→List Str
 |0,_=>[]
 |n+1,s=>match s with
  |.Assign _ e _=>b9 n e
  |.Expr e _=>b9 n e
  |.Return (some e) _=>b9 n e
  |.If t a b _=>b9 n t++(a++b).flatMap (hD n)
  |.For _ e a _ _=>b9 n e++a.flatMap (hD n)
  |.While t a _ _=>b9 n t++a.flatMap (hD n)
  |_=>[]
noncomputable def slotsOf(params:List Str)(sc:Scope)(body:List Stmt):List Str:=
 params++((locals sc).filter λx=>!params.contains x)++((body.flatMap (hD 60)).eraseDups.filter λx=>!(locals sc).contains x)
noncomputable def gb:Nat→List Str→List (Str×Nat)
 |_,[]=>[]
 |k,x::r=>(x,k)::gb (k+1) r
noncomputable def OZ(T:Tb)(params:List Str)(sc:Scope)(body:List Stmt):Option Fn:=
 let ns:=slotsOf params sc body
 (eP (cS T (gb 0 ns) 60 sc) body).map λb=>⟨params.length,ns.length,b⟩
end
section
open PySem PySem.W PyProof.Rows
structure Ent where
 a:Addr
 d:Addr
noncomputable abbrev bR:=List (Addr×Obj)
section
variable {B h h' h'':PySem.Heap} {φ φ' φ'':List Ent} {I I' I'':bR} {H:MH} {v:V} {x:Value} {l l':List V} {xs xs':List Value} {e:Ent} {o:MO} {b:Addr}
inductive VR (φ:List Ent) (I:bR):V→Value→Prop
 |bW:VR φ I .bW .none
 |bool (b:Bool):VR φ I (.bool b) (.bool b)
 |int (i:Int) (t:Tok):VR φ I (.int i) (.int i t)
 |ref (n:Nat) (e:Ent) (h:φ[n]?=some e):VR φ I (.ref n) (.ref e.a)
 |tup (l:List V) (a:Addr) (o:Obj) (items:Array Value) (n:Nat) (hm:(a,o)∈I) (hc:o.cls=.type "tuple") (hd:o.data=.seq items n) (hl:l.length=items.size)
   (h:∀(i:Nat) (v:V) (x:Value),l[i]?=some v→items[i]?=some x→VR φ I v x):VR φ I (.tup l) (.ref a)
 |bQ (a b c:Int) (r:Addr) (t u v:Tok) (hs:gT a b c=true) (hm:(r,({ cls:=.type "range",dict:=none,data:=.fields #[.int a t,.int b u,.int c v],slots:=#[] }:Obj))∈I):VR φ I (.bQ a b c) (.ref r)
 |ft (l:List V) (a:Addr) (o:Obj) (items:Array Value) (n:Nat) (hm:(a,o)∈I) (hc:o.cls=.type "list") (hd:o.data=.seq items n) (hl:l.length=items.size)
   (h:∀(i:Nat) (v:V) (x:Value),l[i]?=some v→items[i]?=some x→VR φ I v x):VR φ I (.ft l) (.ref a)
theorem VR.mono{φ φ':List Ent}{I I':bR}{v:V}{x:Value}(h:VR φ I v x)(hφ:∃ψ,φ'=φ++ψ)(hI:∀p∈I,p∈I'):VR φ' I' v x:=by
 induction h with
 |bW=>exact .bW
 |bool b=>exact .bool b
 |int i t=>exact .int i t
 |ref n e h=>
  obtain⟨ψ,rfl⟩:=hφ
  refine .ref n e ?_
  have:n<φ.length:=(List.getElem?_eq_some_iff.mp h).1
  rw[List.getElem?_append_left this];exact h
 |tup l a o items n hm hc hd hl _ ih=>exact .tup l a o items n (hI _ hm) hc hd hl ih
 |bQ a b c r t u v hs hm=>exact .bQ a b c r t u v hs (hI _ hm)
 |ft l a o items n hm hc hd hl _ ih=>exact .ft l a o items n (hI _ hm) hc hd hl ih
noncomputable def LR(φ:List Ent)(I:bR)(l:List V)(xs:List Value):Prop:=l.length=xs.length∧∀(i:Nat) (v:V) (x:Value),l[i]?=some v→xs[i]?=some x→VR φ I v x
theorem LR.nil:LR φ I [] []:=⟨rfl,λi v x h=>by simp at h⟩
theorem LR.cons(h:VR φ I v x)(hl:LR φ I l xs):LR φ I (v::l) (x::xs):=by
 refine⟨by simp[hl.1],λi v' x' h1 h2=>?_⟩
 cases i with
 |zero=>simp at h1 h2;subst h1 h2;exact h
 |succ i=>simp at h1 h2;exact hl.2 i v' x' h1 h2
theorem LR.of_cons(h:LR φ I (v::l) (x::xs)):VR φ I v x∧LR φ I l xs:=
 ⟨h.2 0 v x rfl rfl,by have:=h.1;simpa using this,λi v' x' h1 h2=>h.2 (i+1) v' x' (by simpa using h1) (by simpa using h2)⟩
theorem LR.nil_of(h:LR φ I [] xs):xs=[]:=by have:=h.1;cases xs<;>simp_all
theorem LR.cons_of(h:LR φ I (v::l) xs):∃x r,xs=x::r∧VR φ I v x∧LR φ I l r:=by
 cases xs with
 |nil=>have:=h.1;simp at this
 |cons x r=>exact⟨x,r,rfl,h.of_cons⟩
theorem LR.mono{φ φ':List Ent}{I I':bR}(h:LR φ I l xs)(hφ:∃ψ,φ'=φ++ψ)(hI:∀p∈I,p∈I'):LR φ' I' l xs:=
 ⟨h.1,λi v x h1 h2=>(h.2 i v x h1 h2).mono hφ hI⟩
theorem LR.append(h:LR φ I l xs)(h':LR φ I l' xs'):LR φ I (l++l') (xs++xs'):=by
 induction l generalizing xs with
 |nil=>rw[h.nil_of];exact h'
 |cons v r ih=>refine df (h.cons_of) λx q rf2_ hv hr=>?_;subst rf2_;exact .cons hv (ih hr)
theorem LR.set(h:LR φ I l xs)(hv:VR φ I v x)(k:Nat):LR φ I (l.set k v) (xs.set k x):=by
 induction l generalizing xs k with
 |nil=>rw[h.nil_of];exact .nil
 |cons a r ih=>
  refine df (h.cons_of) λy q rf2_ ha hr=>?_;subst rf2_
  cases k with
  |zero=>exact .cons hv hr
  |succ k=>exact .cons ha (ih hr k)
theorem LR.get{k:Nat}(h:LR φ I l xs)(hk:l[k]?=some v):∃x,xs[k]?=some x∧VR φ I v x:=by
 have:k<l.length:=(List.getElem?_eq_some_iff.mp hk).1
 have hx:k<xs.length:=h.1▸this
 exact⟨xs[k],by simp[hx],h.2 k v _ hk (by simp[hx])⟩
theorem LR.drop(h:LR φ I l xs)(k:Nat):LR φ I (l.drop k) (xs.drop k):=by
 induction k generalizing l xs with
 |zero=>exact h
 |succ k ih=>
  cases l with
  |nil=>rw[h.nil_of];exact .nil
  |cons v r=>obtain⟨x,q,rfl,_,hr⟩:=h.cons_of;exact ih hr
theorem LR.take(h:LR φ I l xs)(k:Nat):LR φ I (l.take k) (xs.take k):=by
 induction k generalizing l xs with
 |zero=>exact .nil
 |succ k ih=>
  cases l with
  |nil=>rw[h.nil_of];exact .nil
  |cons v r=>refine df (h.cons_of) λx q rf2_ hv hr=>?_;subst rf2_;exact .cons hv (ih hr)
theorem LR.flat(h:LR φ I l xs)(n:Nat):LR φ I (List.replicate n l).flatten (List.replicate n xs).flatten:=by
 induction n with
 |zero=>exact .nil
 |succ n ih=>rw[List.replicate_succ,List.replicate_succ,List.flatten_cons,List.flatten_cons];exact h.append ih
structure Nm where
 cls:Nat→Addr
 dM:Nat→Str
 good:Addr→Prop
 names:List Str
 I0:bR
variable {N:Nm}
noncomputable def OR(N:Nm)(φ:List Ent)(I:bR)(e:Ent)(o:MO)(h:PySem.Heap):Prop:=match o with
 |.lst l=>e.d=e.a∧∃items n,IsL h e.a items n∧LR φ I l items.toList
 |.ins c fs=>N.good (N.cls c)∧e.d≠e.a∧h.get? e.a=some (instObj (N.cls c) e.d)∧∃m,h.Ns1 e.d m∧Within m N.names∧∀a v,fld a fs=some v→∃x,m (N.dM a)=some x∧VR φ I v x
structure Inv (N:Nm) (B:PySem.Heap) (φ:List Ent) (I:bR) (H:MH) (h:PySem.Heap):Prop where
 base:∀b o,B.get? b=some o→h.get? b=some o
 len:φ.length=H.length
 obj:∀(i:Nat) (e:Ent) (o:MO),φ[i]?=some e→H[i]?=some o→OR N φ I e o h
 jK:∀p∈I,h.get? p.1=some p.2
 off:∀p∈I,∀e∈φ,p.1≠e.a∧p.1≠e.d
 sep:∀(i j:Nat) (ei ej:Ent),φ[i]?=some ei→φ[j]?=some ej→i≠j→ei.a≠ej.a∧ei.a≠ej.d∧ei.d≠ej.a∧ei.d≠ej.d
 new:∀e∈φ,B.get? e.a=none∧B.get? e.d=none
 i0:∀p∈N.I0,p∈I
noncomputable def Off(φ:List Ent)(b:Addr):Prop:=∀e∈φ,b≠e.a∧b≠e.d
theorem dC{a b:Addr}{o:Obj}(ha:h.get? a=some o)(hb:h.get? b=none):a≠b:=by rintro rfl;rw[ha]at hb;exact Og hb
theorem cH{a b:Addr}(ha:(h.get? a).isSome=true)(hb:h.get? b=none):a≠b:=by rintro rfl;rw[hb]at ha;exact bY ha
theorem cM(h:PySem.Heap):h.get? h.objs.size=none:=by
 cases q:h.get? h.objs.size with
 |none=>rfl
 |some o=>exact absurd (Heap.lt_size q) (Nat.lt_irrefl _)
theorem i_{a:Addr}(ha:h.objs.size≤a):h.get? a=none:=by
 cases q:h.get? a with
 |none=>rfl
 |some o=>exact absurd (Heap.lt_size q) (Nat.not_lt.mpr ha)
theorem OR.alive(r:OR N φ I e o h):(h.get? e.a).isSome=true∧(h.get? e.d).isSome=true:=by
 cases o with
 |lst l=>
  obtain⟨e1,items,n,h1,_⟩:=r
  unfold IsL at h1
  rw[e1,h1];exact⟨rfl,rfl⟩
 |ins c fs=>
  obtain⟨_,_,h1,m,⟨o,es,ep,q,_⟩,_⟩:=r
  rw[h1,q];exact⟨rfl,rfl⟩
theorem Inv.alive(v:Inv N B φ I H h){e:Ent}(he:e∈φ):(h.get? e.a).isSome=true∧(h.get? e.d).isSome=true:=by
 obtain⟨i,hi,rfl⟩:=List.getElem_of_mem he
 have h1:φ[i]?=some φ[i]:=by simp[hi]
 have hj:i<H.length:=v.len▸hi
 exact(v.obj i _ H[i] h1 (by simp[hj])).alive
structure Ext (W:Addr→Prop) (φ:List Ent) (I:bR) (h:PySem.Heap) (φ':List Ent) (I':bR) (h':PySem.Heap):Prop where
 alive:∀b,(h.get? b).isSome=true→(h'.get? b).isSome=true
 keep:∀b o,h.get? b=some o→Off φ b→¬ W b→h'.get? b=some o
 Gu:∃ψ,φ'=φ++ψ∧∀e∈ψ,h.get? e.a=none∧h.get? e.d=none
 jK:∀p∈I,p∈I'
 rZ:∀p∈I',p∈I∨h.get? p.1=none
variable {W W':Addr→Prop}
noncomputable abbrev No:Addr→Prop:=λ_=>False
theorem Ext.refl(W:Addr→Prop)(φ:List Ent)(I:bR)(h:PySem.Heap):Ext W φ I h φ I h:=⟨λ_ h=>h,λ_ _ e _ _=>e,⟨[],by simp,by simp⟩,λ_ h=>h,λ_ h=>.inl h⟩
theorem Ext.pre(x:Ext W φ I h φ' I' h'):∃ψ,φ'=φ++ψ:=let⟨ψ,e,_⟩:=x.Gu;⟨ψ,e⟩
theorem Ext.dead(x:Ext W φ I h φ' I' h'){b:Addr}(hb:h'.get? b=none):h.get? b=none:=by
 cases q:h.get? b with
 |none=>rfl
 |some o=>have:=x.alive b (by rw[q];rfl);rw[hb]at this;exact bY this
theorem Ext.wide(x:Ext W φ I h φ' I' h')(hw:∀b,(h.get? b).isSome=true→W b→W' b):Ext W' φ I h φ' I' h':=⟨x.alive,λb o e f g=>x.keep b o e f λq=>g (hw b (by rw[e];rfl) q),x.Gu,x.jK,x.rZ⟩
theorem Off.ext(o:Off φ b)(x:Ext W φ I h φ' I' h')(hb:(h.get? b).isSome=true):Off φ' b:=by
 refine ay (x.Gu) λψ rf1_ hn=>?_;subst rf1_
 intro e he
 rcases List.mem_append.mp he with he|he
 ·exact o e he
 ·have:=hn e he;exact⟨cH hb this.1,cH hb this.2⟩
theorem Ext.trans(x:Ext W φ I h φ' I' h')(y:Ext W φ' I' h' φ'' I'' h''):Ext W φ I h φ'' I'' h'':=by
 refine⟨λb q=>y.alive b (x.alive b q),λb o e f g=>y.keep b o (x.keep b o e f g) (f.ext x (by rw[e];rfl)) g,?_,λp hp=>y.jK p (x.jK p hp),λp hp=>?_⟩
 ·refine ay (x.Gu) λψ rf1_ h1=>?_;subst rf1_
  refine ay (y.Gu) λψ' rf1_ h2=>?_;subst rf1_
  refine⟨ψ++ψ',by rw[List.append_assoc],λe he=>?_⟩
  rcases List.mem_append.mp he with he|he
  ·exact h1 e he
  ·exact⟨x.dead (h2 e he).1,x.dead (h2 e he).2⟩
 ·rcases y.rZ p hp with q|q
  ·exact x.rZ p q
  ·exact .inr (x.dead q)
theorem VR.ext(r:VR φ I v x)(y:Ext W φ I h φ' I' h'):VR φ' I' v x:=r.mono y.pre y.jK
theorem LR.ext(r:LR φ I l xs)(y:Ext W φ I h φ' I' h'):LR φ' I' l xs:=r.mono y.pre y.jK
theorem OR.mono(r:OR N φ I e o h)(hφ:∃ψ,φ'=φ++ψ)(hI:∀p∈I,p∈I')(ha:∀o,h.get? e.a=some o→h'.get? e.a=some o)(hd:∀o,h.get? e.d=some o→h'.get? e.d=some o):OR N φ' I' e o h':=by
 cases o with
 |lst l=>
  obtain⟨e1,items,n,h1,h2⟩:=r
  exact⟨e1,items,n,ha _ h1,h2.mono hφ hI⟩
 |ins c fs=>
  obtain⟨e0,e1,h1,m,h2,hw,h3⟩:=r
  exact⟨e0,e1,ha _ h1,m,h2.at hd,hw,λa v hv=>let⟨x,h4,h5⟩:=h3 a v hv;⟨x,h4,h5.mono hφ hI⟩⟩
theorem Inv.keeps(v:Inv N B φ I H h)(hk:∀b o,h.get? b=some o→h'.get? b=some o):Inv N B φ I H h':=
 ⟨λb o e=>hk b o (v.base b o e),v.len,λi e o h1 h2=>(v.obj i e o h1 h2).mono ⟨[],by simp⟩ (λ_ h=>h) (λ_=>hk _ _) (λ_=>hk _ _),λp hp=>hk _ _ (v.jK p hp),v.off,v.sep,v.new,v.i0⟩
theorem kO(hk:∀b o,h.get? b=some o→h'.get? b=some o):∀b,(h.get? b).isSome=true→(h'.get? b).isSome=true:=λb q=>by
 obtain⟨o,ho⟩:=Option.isSome_iff_exists.mp q
 rw[hk b o ho];rfl
theorem Ext.keeps(hk:∀b o,h.get? b=some o→h'.get? b=some o):Ext W φ I h φ I h':=
 ⟨kO hk,λb o e _ _=>hk b o e,⟨[],by simp,by simp⟩,λ_ h=>h,λ_ h=>.inl h⟩
theorem Inv.turned(v:Inv N B φ I H h)(L:Addr)(hk:∀b o,b≠L→h.get? b=some o→h'.get? b=some o)(hL:Off φ L)(hB:B.get? L=none)(hI:∀p∈I,p.1≠L):Inv N B φ I H h':=
 ⟨λb o e=>hk b o (dC e hB) (v.base b o e),v.len,
  λi e o h1 h2=>by
   have hm:=List.mem_of_getElem? h1
   exact(v.obj i e o h1 h2).mono ⟨[],by simp⟩ (λ_ h=>h) (λ_=>hk _ _ (Ne.symm (hL e hm).1)) (λ_=>hk _ _ (Ne.symm (hL e hm).2)),
  λp hp=>hk _ _ (hI p hp) (v.jK p hp),v.off,v.sep,v.new,v.i0⟩
theorem Inv.fact(v:Inv N B φ I H h){a:Addr}{o:Obj}(ho:h.get? a=some o)(ha:Off φ a):Inv N B φ ((a,o)::I) H h:=
 ⟨v.base,v.len,λi e o' h1 h2=>(v.obj i e o' h1 h2).mono ⟨[],by simp⟩ (λ_ h=>.tail _ h) (λ_ h=>h) (λ_ h=>h),
  λp hp=>by rcases List.mem_cons.mp hp with rfl|hp;exact ho;exact v.jK p hp,
  λp hp e he=>by rcases List.mem_cons.mp hp with rfl|hp;exact ha e he;exact v.off p hp e he,v.sep,v.new,λp hp=>.tail _ (v.i0 p hp)⟩
theorem Inv.l_(v:Inv N B φ I H h){a:Addr}(ha:h.get? a=none):Off φ a:=λe he=>
 ⟨Ne.symm (cH (v.alive he).1 ha),Ne.symm (cH (v.alive he).2 ha)⟩
theorem Inv.dead(v:Inv N B φ I H h){a:Addr}(ha:h.get? a=none):B.get? a=none:=by
 cases q:B.get? a with
 |none=>rfl
 |some o=>rw[v.base a o q]at ha;exact Og ha
theorem Inv.more(v:Inv N B φ I H h){e:Ent}{o:MO}(hk:∀b q,h.get? b=some q→h'.get? b=some q)(ha:h.get? e.a=none)(hd:h.get? e.d=none)(ho:OR N (φ++[e]) I e o h') :
  Inv N B (φ++[e]) I (H++[o]) h':=by
 have v':=v.keeps hk
 have key:∀(i:Nat) (q:Ent),(φ++[e])[i]?=some q→(φ[i]?=some q∧q∈φ)∨(i=φ.length∧q=e):=by
  intro i q z
  by_cases hi:i<φ.length
  ·rw[List.getElem?_append_left hi]at z
   exact .inl ⟨z,List.mem_of_getElem? z⟩
  ·rw[List.getElem?_append_right (by exact Ar.Z2 [.N (.l .x0 .x1)] (.e .x1 .x0) rfl hi)]at z
   have hz:i-φ.length=0:=by have:=(List.getElem?_eq_some_iff.mp z).1;simp at this;exact Ar.Z3 [.q .x0 .n0,.s .x0 .x1 .x2] (.q .x0 .n0) rfl this (Ar.ts _ _)
   rw[hz]at z;simp at z
   exact .inr ⟨by exact Ar.Z3 [.N (.l .x0 .x1),.q .x2 .n0,.s .x2 .x0 .x1] (.q .x0 .x1) rfl hi hz (Ar.ts _ _),z.symm⟩
 refine⟨v'.base,by simp[v.len],λi ei q h1 h2=>?_,v'.jK,λp hp q hq=>?_,λi j ei ej h1 h2 hij=>?_,λq hq=>?_,v.i0⟩
 ·rcases key i ei h1 with⟨q1,_⟩|⟨rfl,rfl⟩
  ·have hi:i<φ.length:=(List.getElem?_eq_some_iff.mp q1).1
   rw[List.getElem?_append_left (v.len▸hi)]at h2
   exact(v'.obj i ei q q1 h2).mono ⟨_,rfl⟩ (λ_ h=>h) (λ_ h=>h) (λ_ h=>h)
  ·rw[v.len,List.getElem?_append_right (Nat.le_refl _),Nat.sub_self]at h2
   simp at h2;subst h2;exact ho
 ·rcases List.mem_append.mp hq with hq|hq
  ·exact v.off p hp q hq
  ·simp at hq;subst hq
   exact⟨dC (v.jK p hp) ha,dC (v.jK p hp) hd⟩
 ·rcases key i ei h1 with⟨q1,m1⟩|⟨q1,rfl⟩<;>rcases key j ej h2 with⟨q2,m2⟩|⟨q2,rfl⟩
  ·exact v.sep i j ei ej q1 q2 hij
  ·have:=v.alive m1
   exact⟨cH this.1 ha,cH this.1 hd,cH this.2 ha,cH this.2 hd⟩
  ·have:=v.alive m2
   exact⟨Ne.symm (cH this.1 ha),Ne.symm (cH this.2 ha),Ne.symm (cH this.1 hd),Ne.symm (cH this.2 hd)⟩
  ·exact Ar.Z5 [.q .x0 .x2,.q .x1 .x2,.N (.q .x0 .x1)] (.C (.N (.q .x3 .x3)) (.C (.N (.q .x3 .x4)) (.C (.N (.q .x4 .x3)) (.N (.q .x4 .x4))))) rfl q1 q2 hij
 ·rcases List.mem_append.mp hq with hq|hq
  ·exact v.new q hq
  ·simp at hq;subst hq;exact⟨v.dead ha,v.dead hd⟩
theorem Ext.more{e:Ent}(hk:∀b q,h.get? b=some q→h'.get? b=some q)(ha:h.get? e.a=none)(hd:h.get? e.d=none):Ext W φ I h (φ++[e]) I h':=
 ⟨kO hk,λb o q _ _=>hk b o q,⟨_,rfl,λq hq=>by simp at hq;subst hq;exact⟨ha,hd⟩⟩,λ_ h=>h,λ_ h=>.inl h⟩
theorem Inv.mf(v:Inv N B φ I H h){l:List V}{items:Array Value}(hl:LR φ I l items.toList) :
  Inv N B (φ++[⟨h.objs.size,h.objs.size⟩]) I (H++[.lst l]) (h.push { cls:=.type "list",data:=.seq items }):=
 v.more (λb o e=>Heap.get?_push_of_some _ e) (cM h) (cM h) ⟨rfl,items,0,Heap.get?_push_size _ rfl,hl.mono ⟨_,rfl⟩ λ_ h=>h⟩
theorem Ext.mf(φ:List Ent)(I:bR)(h:PySem.Heap)(items:Array Value):Ext W φ I h (φ++[⟨h.objs.size,h.objs.size⟩]) I (h.push { cls:=.type "list",data:=.seq items }):=
 .more (λb o e=>Heap.get?_push_of_some _ e) (cM h) (cM h)
end
end
section
open PySem PySem.W PyProof.Rows
noncomputable def Own(env:Env)(b:Addr):Prop:=b=env.locals∨∃n,(n,b)∈env.cells
noncomputable def sI:Str := "__debug__"
noncomputable def PF:Str := "__classdict__"
noncomputable def oP(x:Str):Bool:=!(x==sI)&&!(x==PF)
structure ku (G:List (Str×Nat)):Prop where
 inj:∀x y k,look x G=some k→look y G=some k→x=y
 ok:∀x k,look x G=some k→oP x=true
structure iN (B:PySem.Heap) (env:Env) (G:List (Str×Nat)) (ρ:Loc) (φ:List Ent) (I:bR) (h:PySem.Heap):Prop where
 kind:env.scope.kind=.function
 gl:env.globals=mainGlobals
 bl:env.builtins=builtinsNs
 ns:∃m,h.Ns env.locals m∧∀x k v,look x G=some k→env.kindOf x=some .local→getL ρ k=some v→∃y,m x=some y∧VR φ I v y
 cl:∀x k,look x G=some k→(env.kindOf x=some .cell∨env.kindOf x=some .free)→∃c cv,env.cells.lookup x=some c∧h.IsCell c cv∧∀v,getL ρ k=some v→∃y,cv=some y∧VR φ I v y
 apart:env.cells.Pairwise λx y=>x.2≠y.2
 own:∀b,Own env b→B.get? b=none∧Off φ b∧(∀p∈I,p.1≠b)∧(h.get? b).isSome=true
 ne:∀n c,(n,c)∈env.cells→c≠env.locals
section
variable {prog:Program} {w:World} {M:Model} {A:Around} {E:Value→Shared→Prop} {s:Shared} {N:Nm} {B h h':PySem.Heap} {φ φ':List Ent} {I I':bR} {H H':MH} {env:Env} {G:List (Str×Nat)} {ρ:Loc} {v:V} {y:Value} {x:Str} {k:Nat} {W:Addr→Prop}
theorem iN.ext(f:iN B env G ρ φ I h)(e:Ext W φ I h φ' I' h')(hw:∀b,Own env b→¬ W b):iN B env G ρ φ' I' h':=by
 have keep:∀b,Own env b→∀o,h.get? b=some o→h'.get? b=some o:=λb hb o ho=>e.keep b o ho (f.own b hb).2.1 (hw b hb)
 refine⟨f.kind,f.gl,f.bl,?_,λx k hx hk=>?_,f.apart,λb hb=>?_,f.ne⟩
 ·exact ay f.ns λm hm hv=>⟨m,hm.at λo ho=>keep _ (.inl rfl) _ ho,λx k v h1 h2 h3=>ay (hv x k v h1 h2 h3) λy q1 q2=>⟨y,q1,q2.ext e⟩⟩
 ·exact df (f.cl x k hx hk) λc cv h1 h2 h3=>⟨c,cv,h1,ay h2 λo ho hd=>⟨o,keep _ (.inr ⟨x,mem_of_lookup h1⟩) _ ho,hd⟩,λv hv=>ay (h3 v hv) λy q1 q2=>⟨y,q1,q2.ext e⟩⟩
 ·refine ic (f.own b hb) λq1 q2 q3 q4=>?_
  exact⟨q1,q2.ext e q4,λp hp=>(e.rZ p hp).elim (q3 p) λhp=>Ne.symm (cH q4 hp),e.alive b q4⟩
theorem qb(ρ:Loc)(k j:Nat)(v u:V)(h:getL (aX ρ k v) j=some u):(j=k∧u=v)∨(j≠k∧getL ρ j=some u):=by
 unfold getL aX at *
 by_cases hj:j=k
 ·rw[hj,List.getElem?_set,if_pos rfl]at h
  exact af h λo h1 h2=>j4 h1 (λ_ h1=>.inl ⟨hj,Option.some.inj (((congrArg id (Option.some.inj h1)).trans h2).symm)⟩) λ_ h1=>aM h1
 ·rw[List.getElem?_set_ne (Ne.symm hj)]at h
  exact .inr ⟨hj,h⟩
theorem jo{a:Addr}{m:Str→Option Value}(hn:h.Ns a m):(h.get? a).isSome=true:=zU (hn) λo _ _ q _=>q▸rfl
theorem k_{c:Addr}{cv:Option Value}(hn:h.IsCell c cv):(h.get? c).isSome=true:=ay (hn) λo q _=>q▸rfl
theorem oQ(h:oP x=true):(x==("__debug__" : Str))=false:=ER (fe h)
theorem u7(h:oP x=true):(x==("__classdict__" : Str))=false:=ER (iz h)
theorem qe{o:Option NameKind}(h:lH o=true):o=some .local∨o=some .cell∨o=some .free:=by
 cases o with
 |none=>exact bY h
 |some n=>cases n<;>first|exact .inl rfl|exact .inr (.inl rfl)|exact .inr (.inr rfl)|exact bY h
theorem CS{Q:Value→Shared→Prop}(f:iN B env G ρ φ I s.heap)(g:ku G)(hx:look x G=some k)(hl:lH (env.kindOf x)=true)(hv:getL ρ k=some v)
  (h:∀y,VR φ I v y→Q y s):wpAny M A (loadName env x) Q E s:=
 (qe hl).elim (λq=>ay (f.ns) λm h1 h2=>ay (h2 x k v hx q hv) λy h3 h4=>wpAny_loadName_local f.kind q h1 h3 (h y h4)) λq=>q.elim
  (λq=>df (f.cl x k hx (.inl q)) λc cv h1 h2 h3=>ay (h3 v hv) λy e h4=>wpAny_loadName_cell f.kind q h1 (e▸h2) (h y h4))
  λq=>df (f.cl x k hx (.inr q)) λc cv h1 h2 h3=>ay (h3 v hv) λy e h4=>wpAny_loadName_free f.kind q h1 (e▸h2) (h y h4) (u7 (g.ok x k hx))
theorem zy{b:Addr}{h':PySem.Heap}(vi:Inv N B φ I H h)(f:iN B env G ρ φ I h)(hb:Own env b)(ha:(h'.get? b).isSome=true)(hs:Heap.SameBut b h h') :
  Inv N B φ I H h'∧Ext (λc=>c=b) φ I h φ I h'∧∀c,Own env c→B.get? c=none∧Off φ c∧(∀p∈I,p.1≠c)∧(h'.get? c).isSome=true:=by
 have al:∀c,(h.get? c).isSome=true→(h'.get? c).isSome=true:=λc hc=>(Decidable.em (c=b)).elim (λq=>q▸ha) λq=>(hs.2 c q).symm▸hc
 exact⟨ic (f.own b hb) λq1 q2 q3 _=>vi.turned b (λc o hc e=>(hs.2 c hc).trans e) q2 q1 q3,⟨al,λc o e _ hn=>(hs.2 c hn).trans e,⟨[],(List.append_nil _).symm,nofun⟩,λ_ h=>h,λ_ h=>.inl h⟩,
  λc hc=>ic (f.own c hc) λq1 q2 q3 q4=>⟨q1,q2,q3,al c q4⟩⟩
theorem C_{Q:Unit→Shared→Prop}(vi:Inv N B φ I H s.heap)(f:iN B env G ρ φ I s.heap)(g:ku G)(hx:look x G=some k)(hl:env.kindOf x=some .local∨env.kindOf x=some .cell)(hv:VR φ I v y)
  (h:∀h' tk L,Own env L→(env.kindOf x=some .local→L=env.locals)→(∀b o,b≠L→s.heap.get? b=some o→h'.get? b=some o)→Inv N B φ I H h'→Ext (λb=>b=L) φ I s.heap φ I h'→iN B env G (aX ρ k v) φ I h'→Q () { s with heap:=h',toks:=tk }):wpAny M A (storeName env x y) Q E s:=by
 have sv:∀{z j} (_:look z G=some j),z≠x→∀u,getL (aX ρ k v) j=some u→getL ρ j=some u:=λ{z j} hz hne u hu=>(qb ρ k j v u hu).elim (λe=>absurd (g.inj z x k (e.1▸hz) hx) hne) (·.2)
 have sx:∀{j} (_:look x G=some j) u,getL (aX ρ k v) j=some u→VR φ I u y:=λ{j} hz u hu=>(qb ρ k j v u hu).elim (λe=>e.2▸hv) λe=>absurd (Option.some.inj (hz.symm.trans hx)) e.1
 refine hl.elim (λq=>ay (f.ns) λm h1 h2=>?_) λq=>df (f.cl x k hx (.inl q)) λc cv h1 h2 h3=>?_
 ·refine wpAny_storeName_local q h1 (λh' hn hs=>gw (zy vi f (.inl rfl) (jo hn) hs) λq1 q2 q3=>h h' _ env.locals (.inl rfl) (λ_=>rfl) (λc o hc e=>(hs.2 c hc).trans e) q1 q2 ⟨f.kind,f.gl,f.bl,⟨_,hn,λz j u hz hj hu=>?_⟩,λz j hz hj=>?_,f.apart,q3,f.ne⟩) (by rw[f.kind];rfl)
  ·by_cases e:z=x
   ·subst e;exact⟨y,if_pos rfl,sx hz u hu⟩
   ·exact ay (h2 z j u hz hj (sv hz e u hu)) λu' q1 q2=>⟨u',(if_neg e).trans q1,q2⟩
  ·have e:z≠x:=λe=>by rw[e,q]at hj;exact hj.elim nofun nofun
   exact df (f.cl z j hz hj) λc cv h3 h4 h5=>⟨c,cv,h3,h4.sameBut hs (f.ne z c (mem_of_lookup h3)),λu hu=>h5 u (sv hz e u hu)⟩
 ·have hc:=mem_of_lookup h1
  refine wpAny_storeName_cell f.kind q h1 h2 λh' hn hs=>gw (zy vi f (.inr ⟨x,hc⟩) (k_ hn) hs) λq1 q2 q3=>h h' s.toks c (.inr ⟨x,hc⟩) (λz=>nomatch q.symm.trans z) (λc o hc e=>(hs.2 c hc).trans e) q1 q2
   ⟨f.kind,f.gl,f.bl,ay (f.ns) λm h4 h5=>⟨m,h4.sameBut hs (Ne.symm (f.ne x c hc)),λz j u hz hj hu=>h5 z j u hz hj (sv hz (λe=>nomatch (e▸hj).symm.trans q) u hu)⟩,λz j hz hj=>?_,f.apart,q3,f.ne⟩
  by_cases e:z=x
  ·subst e;exact⟨c,some y,h1,hn,λu hu=>⟨y,rfl,sx hz u hu⟩⟩
  ·exact df (f.cl z j hz hj) λc' cv' h4 h5 h6=>⟨c',cv',h4,h5.sameBut hs λq=>e (name_of_addr f.apart (mem_of_lookup h4) (q▸hc)),λu hu=>h6 u (sv hz e u hu)⟩
end
section
variable {h h':PySem.Heap} {φ:List Ent} {I:bR} {env:Env} {ρ:Loc} {B:PySem.Heap} {G:List (Str×Nat)}
theorem iN.turned{C:Addr}(f:iN B env G ρ φ I h)(hk:∀b o,b≠C→h.get? b=some o→h'.get? b=some o)(hC:¬ Own env C):iN B env G ρ φ I h':=by
 have al:∀b,Own env b→∀o,h.get? b=some o→h'.get? b=some o:=λb hb o ho=>hk b o (λe=>hC (e▸hb)) ho
 refine⟨f.kind,f.gl,f.bl,ay f.ns λm hm hv=>⟨m,hm.at λo ho=>al _ (.inl rfl) o ho,hv⟩,λx k hx hk=>?_,f.apart,λb hb=>?_,f.ne⟩
 ·exact df (f.cl x k hx hk) λcc cv q1 q2 q3=>⟨cc,cv,q1,ay q2 λoo q2 q4=>⟨oo,al _ (.inr ⟨x,mem_of_lookup q1⟩) _ q2,q4⟩,q3⟩
 ·exact ic (f.own b hb) λq1 q2 q3 q4=>⟨q1,q2,q3,(Option.isSome_iff_exists.mp q4).elim λoo ho=>(al b hb oo ho)▸rfl⟩
theorem Ext.iter{a:Addr}(hk:∀b o,b≠a→h.get? b=some o→h'.get? b=some o)(ha:(h'.get? a).isSome=true):Ext (λb=>b=a) φ I h φ I h':=
 ⟨λb hb=>(Decidable.em (b=a)).elim (λq=>q▸ha) λq=>(Option.isSome_iff_exists.mp hb).elim λo ho=>(hk b o q ho)▸rfl,λb o hb _ hw=>hk b o hw hb,⟨[],(List.append_nil _).symm,nofun⟩,λ_ h=>h,λ_ h=>.inl h⟩
end
end
section
open PySem PySem.W PyProof.Rows
inductive cV {α:Type} (N:Nm) (B:PySem.Heap) (W:Addr→Prop) (s:Shared) (φ:List Ent) (I:bR) (H':MH) (Q:List Ent→bR→α→Prop):α→Shared→Prop
 |mk {a:α} (φ':List Ent) (I':bR) (h':PySem.Heap) (tk:Nat) (vi:Inv N B φ' I' H' h') (x:Ext W φ I s.heap φ' I' h') (q:Q φ' I' a):cV N B W s φ I H' Q a { s with heap:=h',toks:=tk }
noncomputable abbrev no:Value→Shared→Prop:=λ_ _=>False
noncomputable abbrev bS(N:Nm)(B:PySem.Heap)(W:Addr→Prop)(s:Shared)(φ:List Ent)(I:bR)(v:V)(H':MH):Value→Shared→Prop:=cV N B W s φ I H' λφ' I' y=>VR φ' I' v y
section
variable {prog:Program} {w:World} {M:Model} {A:Around} {E:Value→Shared→Prop} {s:Shared} {N:Nm} {B h h':PySem.Heap} {φ φ':List Ent} {I I':bR} {H H':MH} {v a b:V} {x y z:Value} {W:Addr→Prop}
theorem cV.same{α:Type}{Q:List Ent→bR→α→Prop}{r:α}{tk:Nat}(vi:Inv N B φ I H s.heap)(q:Q φ I r):cV N B W s φ I H Q r { s with toks:=tk }:=
 .mk φ I s.heap tk vi (.refl ..) q
theorem cV.cy{α:Type}{Q:List Ent→bR→α→Prop}{r:α}(vi:Inv N B φ I H s.heap)(q:Q φ I r):cV N B W s φ I H Q r s:=
 .mk φ I s.heap s.toks vi (.refl ..) q
theorem ah{α:Type}{t:Sem α}{H1:MH}{Q1:List Ent→bR→α→Prop}{R:α→Shared→Prop}(h:wpAny M A t (cV N B W s φ I H1 Q1) E s)
  (k:∀r φ1 I1 h1 tk,Inv N B φ1 I1 H1 h1→Ext W φ I s.heap φ1 I1 h1→Q1 φ1 I1 r→R r { s with heap:=h1,toks:=tk }):wpAny M A t R E s:=
 wpAny_mono h (λ_ _ q=>by cases q with|mk φ1 I1 h1 tk vi x q=>exact k _ φ1 I1 h1 tk vi x q) λ_ _ e=>e
theorem cV.after{α:Type}{Q:List Ent→bR→α→Prop}{r:α}{s':Shared}{φ1:List Ent}{I1:bR}{h1:PySem.Heap}{tk:Nat}(x:Ext W φ I s.heap φ1 I1 h1)(q:cV N B W { s with heap:=h1,toks:=tk } φ1 I1 H' Q r s'):cV N B W s φ I H' Q r s':=by
 cases q with
 |mk φ2 I2 h2 tk2 vi y q=>exact .mk φ2 I2 h2 tk2 vi (x.trans y) q
theorem aH{α:Type}{t:Sem α}{Q:List Ent→bR→α→Prop}{φ1:List Ent}{I1:bR}{h1:PySem.Heap}{tk:Nat}(x:Ext W φ I s.heap φ1 I1 h1)
  (q:wpAny M A t (cV N B W { s with heap:=h1,toks:=tk } φ1 I1 H' Q) E { s with heap:=h1,toks:=tk }):wpAny M A t (cV N B W s φ I H' Q) E { s with heap:=h1,toks:=tk }:=
 wpAny_mono q (λ_ _ q=>q.after x) λ_ _ e=>e
theorem nL{i:Int}(h:small i=true):i.natAbs<2 ^ 62:=by
 have h1:=of_decide_eq_true (fe h)
 have h2:=of_decide_eq_true (iz h)
 exact Ar.h_ [.L (.g (.n 4611686018427387904)) .y0,.L .y0 (.n 4611686018427387904),.b .x0 .y0] (.l .x0 (.n 4611686018427387904)) rfl h1 h2 (Ar.na _)
theorem iG{i:Int}(h:small i=true):Builtin.Int.intBits i≤64:=intBits_le (Nat.lt_trans (nL h) (by decide))
theorem mw{i j:Int}(h:small j=true):Builtin.divisionGoesByPylong i j=false:=by
 refine PyProof.noPylong_of_log2 ?_
 by_cases h0:j.natAbs=0
 ·rw[h0];decide +kernel
 ·have:=(Nat.log2_lt h0).mpr (nL h);exact Ar.Z1 [.l .x0 .NU] (.l .x0 (.n 9000)) rfl this
theorem zo{i j:Int}(h:small i=true)(hj:j<4096):(Builtin.Int.intBits i:Int)+j≤2 ^ 27:=by have:=iG h;exact Ar.h_ [.L .y0 .il,.e .x0 .ko] (.E (.a (.c .x0) .y0) (.n 134217728)) rfl hj this
noncomputable def Ig(prog:Program)(w:World)(A:Around)(E:Value→Shared→Prop)(s:Shared)(Q:Value→Shared→Prop)(i j:Int)(t u:Tok)(op:Operator):Prop:=
 wpAny (model prog w) A (binaryOp op (.int i t) (.int j u)) Q E s∧wpAny (model prog w) A (inplaceOp op (.int i t) (.int j u)) Q E s
noncomputable def Kg(prog:Program)(w:World)(A:Around)(E:Value→Shared→Prop)(s:Shared)(Q:Value→Shared→Prop)(i j:Int)(t u:Tok)(op:Operator)(k:Int):Prop:=
 (∀t tk,Q (.int k t) { s with toks:=tk })→Ig prog w A E s Q i j t u op
noncomputable def Jg(prog:Program)(w:World)(A:Around)(E:Value→Shared→Prop)(s:Shared)(Q:Value→Shared→Prop)(i j k:Int)(t u:Tok)(op:Operator)(o:Op):Prop:=
 binI o i j=some k→Kg prog w A E s Q i j t u op k
theorem oi{op:Operator}{o:Op}{i j k:Int}{t u:Tok}(ho:vB op=some o)(hb:binI o i j=some k){Q:Value→Shared→Prop}(h:∀t tk,Q (.int k t) { s with toks:=tk }) :
  wpAny (model prog w) A (binaryOp op (.int i t) (.int j u)) Q E s∧wpAny (model prog w) A (inplaceOp op (.int i t) (.int j u)) Q E s:=by
 show Ig prog w A E s Q i j t u op
 revert h hb
 show Jg prog w A E s Q i j k t u op o
 cases op<;>first|exact aM ho|skip
 ·exact aL (P:=Jg prog w A E s Q i j k t u .Add) ho λhb h=>aL (P:=Kg prog w A E s Q i j t u .Add) hb (λh=>⟨add_int (h _ _),iadd_int (h _ _)⟩) h
 ·exact aL (P:=Jg prog w A E s Q i j k t u .Sub) ho λhb h=>aL (P:=Kg prog w A E s Q i j t u .Sub) hb (λh=>⟨sub_int' (h _ _),isub_int (h _ _)⟩) h
 ·exact aL (P:=Jg prog w A E s Q i j k t u .Mult) ho λhb h=>aZ hb λc hb=>aL (P:=Kg prog w A E s Q i j t u .Mult) hb (λh=>
   have hm:IntMulOk i j:=(Bool.or_eq_true_iff.mp c).elim (λc=>.of_left (iG c)) λc=>.of_right (iG c)
   ⟨mul_int (h _ _) hm,imul_int (h _ _) hm⟩) h
 ·exact aL (P:=Jg prog w A E s Q i j k t u .Mod) ho λhb h=>aZ hb λc hb=>aL (P:=Kg prog w A E s Q i j t u .Mod) hb (λh=>⟨mod_int' (Int.ne_of_gt (of_decide_eq_true c)) (h _ _),imod_int (Int.ne_of_gt (of_decide_eq_true c)) (h _ _)⟩) h
 ·exact aL (P:=Jg prog w A E s Q i j k t u .LShift) ho λhb h=>aZ hb λc hb=>aL (P:=Kg prog w A E s Q i j t u .LShift) hb (λh=>
   have c1:=of_decide_eq_true (fe (fe c))
   have hs:=zo (iz c) (of_decide_eq_true (iz (fe c)))
   ⟨lshift_int c1 hs (h _ _),ilshift_int c1 hs (h _ _)⟩) h
 ·exact aL (P:=Jg prog w A E s Q i j k t u .RShift) ho λhb h=>aZ hb λc hb=>aL (P:=Kg prog w A E s Q i j t u .RShift) hb (λh=>⟨rshift_int (of_decide_eq_true c) (h _ _),irshift_int (of_decide_eq_true c) (h _ _)⟩) h
 ·exact aL (P:=Jg prog w A E s Q i j k t u .BitOr) ho λhb h=>aL (P:=Kg prog w A E s Q i j t u .BitOr) hb (λh=>⟨or_int (h _ _),ior_int (h _ _)⟩) h
 ·exact aL (P:=Jg prog w A E s Q i j k t u .BitXor) ho λhb h=>aL (P:=Kg prog w A E s Q i j t u .BitXor) hb (λh=>⟨xor_int (h _ _),ixor_int (h _ _)⟩) h
 ·exact aL (P:=Jg prog w A E s Q i j k t u .BitAnd) ho λhb h=>aL (P:=Kg prog w A E s Q i j t u .BitAnd) hb (λh=>⟨and_int (h _ _),iand_int (h _ _)⟩) h
 ·exact aL (P:=Jg prog w A E s Q i j k t u .FloorDiv) ho λhb h=>aZ hb λc hb=>aL (P:=Kg prog w A E s Q i j t u .FloorDiv) hb (λh=>
   have c1:=Int.ne_of_gt (of_decide_eq_true (fe c))
   ⟨floordiv_int c1 (h _ _) (.inl (mw (iz c))),ifloordiv_int c1 (h _ _) (.inl (mw (iz c)))⟩) h
theorem VR.b0{i:Int}(r:VR φ I (.int i) x):∃t,x=.int i t:=by cases r;exact⟨_,rfl⟩
theorem VR.g8{i:Bool}(r:VR φ I (.bool i) x):x=.bool i:=by cases r;rfl
theorem VR.oN(r:VR φ I .bW x):x=.none:=by cases r;rfl
theorem VR.cT{n:Nat}(r:VR φ I (.ref n) x):∃e,φ[n]?=some e∧x=.ref e.a:=by cases r with|ref n e h=>exact⟨e,h,rfl⟩
theorem yu{n:Nat}{l:List V}(hl:aj H n=some l):H[n]?=some (.lst l):=by
 revert hl
 unfold aj
 cases hm:H[n]? with
 |none=>exact aM
 |some o=>cases o with
  |lst l'=>exact λhl=>congrArg (λl=>some (MO.lst l)) (Option.some.inj hl)
  |ins=>exact aM
theorem cI(vi:Inv N B φ I H h){n:Nat}{l:List V}{e:Ent}(he:φ[n]?=some e)(hl:aj H n=some l):e.d=e.a∧∃items m,IsL h e.a items m∧LR φ I l items.toList:=vi.obj n e _ he (yu hl)
theorem dH{n:Nat}(h:aI n=true):n≤1000000:=Nat.le_of_ble_eq_true h
theorem m7:∀(l:List (Array Value)) (acc:Array Value),(l.foldl (λx1 x2=>x1++x2) acc).toList=acc.toList++(l.map Array.toList).flatten
 | [],acc=>(List.append_nil _).symm
 |a::r,acc=>(m7 r (acc++a)).trans (by rw[Array.toList_append,List.append_assoc];rfl)
theorem p8{α:Type}:∀n:Nat,(List.replicate n ([]:List α)).flatten=[]
 |0=>rfl
 |n+1=>p8 n
theorem uY(items:Array Value)(n:Nat):(List.foldl (λx1 x2=>x1++x2) #[] (List.replicate (if items.isEmpty=true then 0 else n) items)).toList=(List.replicate n items.toList).flatten:=by
 rw[m7,List.map_replicate]
 by_cases c:items.isEmpty=true
 ·rw[if_pos c,Array.isEmpty_iff.mp c];exact(p8 n).symm
 ·rw[if_neg c];rfl
theorem yG{l:Addr}{items:Array Value}{n:Nat}{j:Int}{u:Tok}{Q:Value→Shared→Prop}(hl:IsL s.heap l items n)(h0:0≤j)(hz:items.size*j.toNat≤1000000)(hj:j<2 ^ 62)
  (h:∀its:Array Value,its.toList=(List.replicate j.toNat items.toList).flatten→Q (.ref s.heap.objs.size) { s with heap:=s.heap.push { cls:=.type "list",data:=.seq its } }) :
  wpAny (model prog w) A (binaryOp .Mult (.ref l) (.int j u)) Q E s:=by
 have own:=call_meets (prog:=prog) (w:=w) (A:=A) (E:=E) (s:=s) (Q:=Q) (self:=.ref l) (rest:=[.int j u]) F.slot_list_mul ⟨_,hl,rfl⟩ F.entry_list_mul (F.args_list_mul_2 _ _)
  (AutoListH.list___mul___list_int_3 l items n j u (by simp[Builtin.List.listFitsIndex];exact Ar.eI [.E .n0 .y0,.L .y0 (.n 4611686018427387904)] (.C (.E (.g (.n 9223372036854775808)) .y0) (.L .y0 (.n 9223372036854775808))) rfl h0 hj) (by omega) (by simp[Builtin.List.listTooLong,sizeLine];exact Ar.Z1 [.e .x0 .av] (.e .x0 (.n 16777216)) rfl hz)) ⟨hl,h _ (uY items j.toNat)⟩
 have right:=call_meets (prog:=prog) (w:=w) (A:=A) (E:=E) (s:=s) (self:=.int j u) (rest:=[.ref l]) (Q:=λv s'=>v=.notImplemented∧s'.TypeIs (.ref l) "list" ∧ wpAny (model prog w) A (call (.builtin "list.__mul__") [.ref l,.int j u]) Q E s')
  F.slot_int_rmul (typeIs_int s j u) F.entry_int_rmul (F.args_int_rmul_2 _ _) (int___rmul___int_list j u l items n) ⟨hl,rfl,⟨_,hl,rfl⟩,own⟩
 exact wpAny_binaryOp_repeat_ref (T := "list") (U := "int") (by decide) ⟨_,hl,rfl⟩ (λs'=>typeIs_int s' j u) noFill_list_mul F.fills_int_mul F.slot_int_rmul repeat_list F.slot_int_index.lookup right
noncomputable def Bg(prog:Program)(w:World)(A:Around)(E:Value→Shared→Prop)(s:Shared)(N:Nm)(B:PySem.Heap)(φ:List Ent)(I:bR)(W:Addr→Prop)(op:Operator)(x y:Value)(v:V)(H':MH):Prop:=
 wpAny (model prog w) A (binaryOp op x y) (bS N B W s φ I v H') E s
theorem Bm{i j:Int}{P:Value→Value→Prop}(ra:VR φ I (.int i) x)(rb:VR φ I (.int j) y)(k:∀t u,P (.int i t) (.int j u)):P x y:=
 Jy ra.b0 (P:=λx=>P x y) λt=>Jy rb.b0 (P:=P (.int i t)) λu=>k t u
noncomputable def N2:Op→Operator
 |.add=>.Add|.sub=>.Sub|.mul=>.Mult|.bX=>.FloorDiv|.mod=>.Mod|.shl=>.LShift|.shr=>.RShift|.band=>.BitAnd|.bor=>.BitOr|.bxor=>.BitXor
theorem C4{op:Operator}{o:Op}(h:vB op=some o):op=N2 o:=by cases op<;>first|exact aM h|exact aL (P:=λo=>_=N2 o) h rfl
theorem CQ{l:List V}{its:Array Value}(vi:Inv N B φ I H s.heap)(r:LR φ I l its.toList):bS N B W s φ I (.ref H.length) (H++[.lst l]) (.ref s.heap.objs.size) { s with heap:=s.heap.push { cls:=.type "list",data:=.seq its } }:=
 .mk _ I _ s.toks (vi.mf (items:=its) r) (.mf ..) (vi.len▸.ref φ.length ⟨s.heap.objs.size,s.heap.objs.size⟩ List.getElem?_concat_length)
theorem LR.size{l:List V}{its:Array Value}(r:LR φ I l its.toList):l.length=its.size:=r.1.trans Array.length_toList
theorem Dm{op:Operator}{o:Op}(vi:Inv N B φ I H s.heap)(ho:vB op=some o)(ra:VR φ I a x)(rb:VR φ I b y)(hb:nW o a b H=some (v,H')) :
  wpAny (model prog w) A (binaryOp op x y) (bS N B W s φ I v H') E s:=by
 show Bg prog w A E s N B φ I W op x y v H'
 cases a with
 |int i=>cases b with
  |int j=>exact af hb λk hk hb=>bP (P:=Bg prog w A E s N B φ I W op x y) hb (Bm (P:=λx y=>Bg prog w A E s N B φ I W op x y (.int k) H) ra rb λt u=>(oi ho hk λt tk=>cV.same vi (.int _ _)).1)
  |_=>exact aM hb
 |ref n=>
  refine ay ra.cT λe he f=>?_
  rw[f]
  cases b with
  |ref m=>cases o with
   |add=>
    rw[show op=.Add from C4 ho]
    refine af hb λl1 hl1 hb=>af hb λl2 hl2 hb=>aZ hb λhr hb=>bP (P:=Bg prog w A E s N B φ I W .Add (.ref e.a) y) hb ?_
    refine ay rb.cT λe' he' f=>?_
    rw[f]
    refine cQ (cI vi he hl1).2 λi1 n1 q1 r1=>cQ (cI vi he' hl2).2 λi2 n2 q2 r2=>?_
    exact PySem.P.add_list q1 q2 (CQ (its:=i1++i2) vi (by rw[Array.toList_append];exact r1.append r2)) (by rw[sizeLine_eq,← r1.size,← r2.size];exact Nat.le_trans (dH hr) (by decide))
   |_=>exact aM hb
  |int k=>cases o with
   |mul=>
    rw[show op=.Mult from C4 ho]
    refine af hb λl1 hl1 hb=>aZ hb λhr hb=>bP (P:=Bg prog w A E s N B φ I W .Mult (.ref e.a) y) hb ?_
    refine Jy rb.b0 (P:=λy=>Bg prog w A E s N B φ I W .Mult (.ref e.a) y _ _) λu=>cQ (cI vi he hl1).2 λi1 n1 q1 r1=>?_
    exact yG q1 (of_decide_eq_true (fe (fe hr))) (r1.size▸dH (iz hr)) (of_decide_eq_true (iz (fe hr))) λits hi=>CQ vi (by rw[hi];exact r1.flat _)
   |_=>exact aM hb
  |_=>exact aM hb
 |_=>exact aM hb
end
end
section
open PySem PySem.W PyProof.Rows
section
variable {prog:Program} {w:World} {M:Model} {A:Around} {E:Value→Shared→Prop} {s:Shared} {N:Nm} {B h h':PySem.Heap} {φ φ':List Ent} {I I':bR} {H H':MH} {v a b:V} {x y z:Value} {W:Addr→Prop}
theorem jf:∀{l:List V} {xs:List Value} {ns:List Int},LR φ I l xs→intsOf l=some ns→IntsAre xs ns
 | [],xs,ns,r,h=>aL h (r.nil_of▸.nil)
 |.int _::l,xs,ns,r,h=>df r.cons_of λx q e hv hr=>af (show(intsOf l).bind (λl=>some (_::l))=some ns from h) λms h1 h2=>aL (P:=IntsAre xs) h2 (bJ hv.b0 λt e2=>e▸e2▸.cons _ t (jf hr h1))
 |.bW::_,_,_,_,h|.bool _::_,_,_,_,h|.ref _::_,_,_,_,h|.tup _::_,_,_,_,h|.bQ ..::_,_,_,_,h|.ft _::_,_,_,_,h=>aM h
theorem je(k:Int):∀ns:List Int,tI k ns=ns.any (·==k)
 | []=>rfl
 |n::r=>by
  show(if k=n then true else tI k r)=(n==k||r.any (·==k))
  rw[je k r]
  by_cases h:k=n
  ·rw[if_pos h,h,beq_self_eq_true];rfl
  ·rw[if_neg h,beq_false_of_ne (Ne.symm h)];rfl
theorem iH{l:List V}(vi:Inv N B φ I H h)(r:VR φ I (.tup l) x):∃t items,x=.ref t∧IsTup h t items∧LR φ I l items.toList:=by
 cases r with
 |tup l a o items n hm hc hd hl hv=>
  exact⟨a,items,rfl,⟨o,vi.jK _ hm,hc,n,hd⟩,by rw[Array.length_toList];exact hl,λi v x h1 h2=>hv i v x h1 (by simpa using h2)⟩
noncomputable def Cg(prog:Program)(w:World)(A:Around)(E:Value→Shared→Prop)(s:Shared)(N:Nm)(B:PySem.Heap)(φ:List Ent)(I:bR)(H:MH)(W:Addr→Prop)(op:CmpOp)(x y:Value)(r:Bool):Prop:=
 wpAny (model prog w) A (compareOp op x y) (bS N B W s φ I (.bool r) H) E s
section
variable {P:Value→Value→Bool→Prop} {r:Bool}
theorem tH{f:Int→Int→Bool}(h:(match a,b with|.int x,.int y=>some (f x y)|_,_=>none)=some r)(ra:VR φ I a x)(rb:VR φ I b y)(k:∀i j t u,P (.int i t) (.int j u) (f i j)):P x y r:=by
 cases a<;>first|exact aM h|skip
 cases b<;>first|exact aM h|skip
 exact aL h (Bm (P:=λx y=>P x y _) ra rb λt u=>k _ _ t u)
theorem GL{f:Int→Int→Bool}{g:Bool→Bool→Bool}(h:(match a,b with|.int x,.int y=>some (f x y)|.bool x,.bool y=>some (g x y)|_,_=>none)=some r)(ra:VR φ I a x)(rb:VR φ I b y)(k:∀i j t u,P (.int i t) (.int j u) (f i j))
  (k2:∀p q,P (.bool p) (.bool q) (g p q)):P x y r:=by
 cases a<;>first|exact aM h|skip
 ·cases b<;>first|exact aM h|skip
  rw[ra.g8,rb.g8];exact aL h (k2 _ _)
 ·cases b<;>first|exact aM h|skip
  exact aL h (Bm (P:=λx y=>P x y _) ra rb λt u=>k _ _ t u)
theorem G0(vi:Inv N B φ I H h)(hb:cX .eq a b H=some r)(ra:VR φ I a x)(rb:VR φ I b y)(k:∀i j t u,P (.int i t) (.int j u) (decide (i=j)))
  (k2:∀p q,P (.bool p) (.bool q) (p==q)) (k3:∀a b l1 ns i1 i2 n1 n2,IsL h a i1 n1→IsL h b i2 n2→LR φ I l1 i1.toList→i2.toList=[]→intsOf l1=some ns→P (.ref a) (.ref b) l1.isEmpty):P x y r:=by
 cases a<;>first|exact aM hb|skip
 ·cases b<;>first|exact aM hb|skip
  rw[ra.g8,rb.g8];exact aL hb (k2 _ _)
 ·cases b<;>first|exact aM hb|skip
  exact aL hb (Bm (P:=λx y=>P x y _) ra rb λt u=>k _ _ t u)
 ·cases b<;>first|exact aM hb|skip
  refine af hb λl1 h1 hb=>af hb λl2 h2 hb=>?_
  cases l2 with
  |cons=>exact aM hb
  |nil=>exact af hb λns h3 hb=>aL (P:=P x y) hb (ay ra.cT λe1 q1 f1=>ay rb.cT λe2 q2 f2=>cQ (cI vi q1 h1).2 λi1 n1 p1 r1=>cQ (cI vi q2 h2).2 λi2 n2 p2 r2=>
    f1▸f2▸k3 _ _ _ _ _ _ _ _ p1 p2 r1 r2.nil_of h3)
theorem CP{g:Bool→Bool}(vi:Inv N B φ I H h)(hb:(match a,b with|.int x,.tup l=>(intsOf l).bind λns=>some (g (tI x ns))|.int x,.ref n=>(aj H n).bind λl=>(intsOf l).bind λns=>some (g (tI x ns))|_,_=>none)=some r)(ra:VR φ I a x)(rb:VR φ I b y)
  (k:∀i t t' items ns,IsTup h t' items→IntsAre items.toList ns→P (.int i t) (.ref t') (g (tI i ns))) (k2:∀i t a items n ns,IsL h a items n→IntsAre items.toList ns→P (.int i t) (.ref a) (g (tI i ns))):P x y r:=by
 cases a<;>first|exact aM hb|skip
 refine Jy ra.b0 (P:=λx=>P x y r) λt=>?_
 cases b<;>first|exact aM hb|skip
 ·exact af hb λl1 h1 hb=>af hb λns h3 hb=>aL (P:=P _ y) hb (ay rb.cT λe2 q2 f2=>cQ (cI vi q2 h1).2 λi1 n1 p1 r1=>f2▸k2 _ _ _ _ _ _ p1 (jf r1 h3))
 ·exact af hb λns h3 hb=>aL (P:=P _ y) hb (df (iH vi rb) λt' items f h1 h2=>f▸k _ _ _ _ _ h1 (jf h2 h3))
theorem yL{g:Bool→Bool}(hb:(match b with|.bW=>some (g (gK a))|_=>none)=some r)(ra:VR φ I a x)(rb:VR φ I b y)(k:P x .none (g (x==.none))):P x y r:=by
 cases b<;>first|exact aM hb|skip
 rw[rb.oN]
 exact aL hb ((show gK a=(x==.none) by cases ra<;>rfl)▸k)
end
theorem xj:∀{l:List V} {ns:List Int},intsOf l=some ns→ns.isEmpty=l.isEmpty
 | [],_,h=>aL (P:=λns=>ns.isEmpty=true) h rfl
 |.int _::l,ns,h=>af (show(intsOf l).bind (λl=>some (_::l))=some ns from h) λ_ _ h2=>aL (P:=λns=>ns.isEmpty=false) h2 rfl
 |.bW::_,_,h|.bool _::_,_,h|.ref _::_,_,h|.tup _::_,_,h|.bQ ..::_,_,h|.ft _::_,_,h=>aM h
theorem BI:∀ns:List Int,ns.isEmpty=decide (ns=[])
 | []=>rfl
 |_::_=>rfl
theorem nZ{op:CmpOp}{o:Cm}{r:Bool}(vi:Inv N B φ I H s.heap)(hu:A.units+64<cLine)(ho:v_ op=some o)(ra:VR φ I a x)(rb:VR φ I b y)(hb:cX o a b H=some r) :
  wpAny (model prog w) A (compareOp op x y) (bS N B W s φ I (.bool r) H) E s:=by
 show Cg prog w A E s N B φ I H W op x y r
 revert hb
 cases op with
 |Eq=>
  exact aL (P:=λo=>cX o a b H=some r→Cg prog w A E s N B φ I H W .Eq x y r) ho λhb=>G0 (P:=Cg prog w A E s N B φ I H W .Eq) vi hb ra rb (λi j t u=>eq_int (cV.cy vi (.bool _)))
   (λp q=>SeqAt.RcAt.bool_bool _ _ prog w E _ (cV.cy vi (.bool _))) λa b l1 ns i1 i2 n1 n2 p1 p2 r1 z h3=>ke_eq_ints (xs:=i1.toList) (ys:=i2.toList) p1.isList p2.isList (jf r1 h3) (by rw[z];exact IntsAre.nil) hu
    (Eq.subst (motive:=λq=>bS N B W s φ I (.bool l1.isEmpty) H (.bool q) s) ((xj h3).symm.trans (BI ns)) (cV.cy vi (.bool _)))
 |NotEq=>exact aL (P:=λo=>cX o a b H=some r→Cg prog w A E s N B φ I H W .NotEq x y r) ho λhb=>GL (P:=Cg prog w A E s N B φ I H W .NotEq) hb ra rb (λi j t u=>ne_int (cV.cy vi (.bool _))) λp q=>ne_bool (cV.cy vi (.bool _))
 |Lt=>exact aL (P:=λo=>cX o a b H=some r→Cg prog w A E s N B φ I H W .Lt x y r) ho λhb=>tH (P:=Cg prog w A E s N B φ I H W .Lt) hb ra rb λi j t u=>lt_int (cV.cy vi (.bool _))
 |LtE=>exact aL (P:=λo=>cX o a b H=some r→Cg prog w A E s N B φ I H W .LtE x y r) ho λhb=>tH (P:=Cg prog w A E s N B φ I H W .LtE) hb ra rb λi j t u=>le_int (cV.cy vi (.bool _))
 |Gt=>exact aL (P:=λo=>cX o a b H=some r→Cg prog w A E s N B φ I H W .Gt x y r) ho λhb=>tH (P:=Cg prog w A E s N B φ I H W .Gt) hb ra rb λi j t u=>gt_int (cV.cy vi (.bool _))
 |GtE=>exact aL (P:=λo=>cX o a b H=some r→Cg prog w A E s N B φ I H W .GtE x y r) ho λhb=>tH (P:=Cg prog w A E s N B φ I H W .GtE) hb ra rb λi j t u=>ge_int (cV.cy vi (.bool _))
 |Is=>exact aL (P:=λo=>cX o a b H=some r→Cg prog w A E s N B φ I H W .Is x y r) ho λhb=>yL (P:=Cg prog w A E s N B φ I H W .Is) (g:=id) hb ra rb (is_none (cV.cy vi (.bool _)))
 |IsNot=>exact aL (P:=λo=>cX o a b H=some r→Cg prog w A E s N B φ I H W .IsNot x y r) ho λhb=>yL (P:=Cg prog w A E s N B φ I H W .IsNot) (g:=not) hb ra rb (isNot_none (cV.cy vi (.bool _)))
 |In=>exact aL (P:=λo=>cX o a b H=some r→Cg prog w A E s N B φ I H W .In x y r) ho λhb=>CP (P:=Cg prog w A E s N B φ I H W .In) (g:=id) vi hb ra rb (λi t t' items ns h1 h2=>in_tuple_ints h1 h2 ((je i ns).symm▸cV.cy vi (.bool _))) λi t a items n ns h1 h2=>in_list_ints (vs:=items.toList) h1.isList h2 ((je i ns).symm▸cV.cy vi (.bool _))
 |NotIn=>exact aL (P:=λo=>cX o a b H=some r→Cg prog w A E s N B φ I H W .NotIn x y r) ho λhb=>CP (P:=Cg prog w A E s N B φ I H W .NotIn) (g:=not) vi hb ra rb (λi t t' items ns h1 h2=>notin_tuple_ints h1 h2 ((je i ns).symm▸cV.cy vi (.bool _))) λi t a items n ns h1 h2=>notin_list_ints (vs:=items.toList) h1.isList h2 ((je i ns).symm▸cV.cy vi (.bool _))
theorem vy{r:Bool}(vi:Inv N B φ I H s.heap)(ra:VR φ I a x)(hb:truth a H=some r) :
  wpAny (model prog w) A (truthy x) (λc s'=>c=r∧∃tk,s'={ s with toks:=tk }) E s:=by
 cases a with
 |bW=>rw[ra.oN];exact truthy_none ⟨Option.some.inj hb,s.toks,rfl⟩
 |bool i=>rw[ra.g8];exact wpAny_truthy_bool ⟨Option.some.inj hb,s.toks,rfl⟩
 |int i=>
  obtain⟨t,rfl⟩:=ra.b0
  exact truthy_int ⟨(show(i != 0)=decide (i≠0)from by simp only[bne,ne_eq,decide_not];rfl).trans (Option.some.inj hb),s.toks,rfl⟩
 |ref n=>
  refine af hb λl1 h1 hb=>j4 hb (λhr hb=>?_) λ_ hb=>aM hb
  refine ay ra.cT λe2 q2 e=>cQ (cI vi q2 h1).2 λi1 n1 p1 r1=>?_
  have e1:l1.length=i1.size:=r1.1.trans Array.length_toList
  rw[e]
  refine wpAny_truthy_list p1.isList (by have:=dH hr;exact Ar.Z2 [.q .x0 .x1,.e .x0 .av] (.L (.c .x1) (.n 9223372036854775808)) rfl e1 this) ⟨Eq.trans ?_ (Option.some.inj hb),_,rfl⟩
  unfold Array.isEmpty
  rw[← e1]
  cases l1<;>rfl
 |_=>exact aM hb
end
end
section
open PySem PySem.W PyProof.Rows
structure gB (K:Frag) (dM:Nat→Str) (na:Nat) (C:Addr):Prop where
 get:∀a,a<na→plainGet K C (dM a)=true
 has:hasDictIn K C=true
 find:∀a,a<na→findIn K (.ref C) (dM a)=some none
 set:findIn K (.ref C) "__setattr__" = some (some (.builtin "object.__setattr__"))
 over:plainOver K C=true
section
variable {prog:Program} {w:World} {M:Model} {A:Around} {E:Value→Shared→Prop} {s:Shared} {N:Nm} {B h h':PySem.Heap} {φ φ':List Ent} {I I':bR} {H H':MH} {v a b:V} {x y z:Value} {W:Addr→Prop} {K:Frag} {na:Nat}
theorem uP(r:VR φ I v x):handedIn x=true:=by cases r<;>rfl
theorem Bv{a:Addr}{m:Str→Option Value}{name:Str}{x:Value}(hm:h.Ns a m)(hx:m name=some x):∃o,h.get? a=some o∧lookIn name o=some (some x):=by
 refine FP (hm) λo es ep h1 h2 _ h4=>⟨o,h1,?_⟩
 refine ay (Option.map_eq_some_iff.mp (((congrArg (Option.map DictEntry.val) (Array.find?_toList (p:=λe:DictEntry=>e.key.isStr name) (xs:=es))).trans (h4 name)).trans hx)) λe f1 f2=>?_
 unfold lookIn
 rw[h2]
 dsimp only
 rw[f1,← f2]
theorem r9{c dx:Addr}{o:Obj}{C:Addr}(h1:h.get? c=some (instObj C dx))(h2:h.get? dx=some o):PySem.W.InstAt h c (instObj C dx) C (some o):=⟨h1,rfl,rfl,h2⟩
theorem xi{α:Type}{n:Nat}{f:Nat→List (Nat×V)→Option α}{r:α}{G:Prop}(h:(match H[n]? with|some (.ins c fs)=>f c fs|_=>none)=some r)(k:∀c fs,H[n]?=some (.ins c fs)→f c fs=some r→G):G:=by
 revert h
 cases q:H[n]? with
 |none=>exact aM
 |some o=>cases o with
  |lst=>exact aM
  |ins c fs=>exact k c fs q
theorem s9{k:Nat}(vi:Inv N B φ I H s.heap)(hg:N.good=gB K N.dM na)(X:K.In B)(hk:k<na)(ra:VR φ I a x)(hb:bK a k H=some v) :
  wpAny (model prog w) A (getAttr x (N.dM k) true) (bS N B W s φ I v H) E s:=by
 cases a with
 |ref n=>
  exact xi (show(match H[n]? with|some (.ins _ fs)=>fld k fs|_=>none)=some v from hb) λc fs hn hb=>ay ra.cT λe he f=>by
   rw[f]
   refine ic (vi.obj n e _ he hn) λg _ h1 q=>dD q λm h2 _ h3=>ay (h3 k v hb) λy h4 h5=>ay (Bv h2.ns h4) λo h6 h7=>?_
   rw[hg]at g
   exact get_value (X.keeps vi.base) (r9 h1 h6) (plainGet_of (g.get k hk)).1 (findObj_own g.has (g.find k hk) rfl h7) (uP h5) (cV.same vi h5)
 |_=>exact aM hb
theorem Inv.turn{n:Nat}{e:Ent}{o o':MO}{d:Addr}(vi:Inv N B φ I H h)(he:φ[n]?=some e)(hn:H[n]?=some o)(hd:d=e.a∨d=e.d)(hk:∀b o,b≠d→h.get? b=some o→h'.get? b=some o)
  (ho:OR N φ I e o' h'):Inv N B φ I (H.set n o') h':=by
 have hm:=List.mem_of_getElem? he
 have hnl:n<H.length:=(List.getElem?_eq_some_iff.mp hn).1
 have hB:B.get? d=none:=hd.elim (λq=>q▸(vi.new e hm).1) λq=>q▸(vi.new e hm).2
 refine⟨λb q hq=>hk b q (dC hq hB) (vi.base b q hq),vi.len.trans List.length_set.symm,λi ei q h1 h2=>?_,λp hp=>hk _ _ ?_ (vi.jK p hp),vi.off,vi.sep,vi.new,vi.i0⟩
 ·by_cases hi:i=n
  ·rw[hi]at h1 h2
   exact(Option.some.inj (he.symm.trans h1))▸(Option.some.inj ((List.getElem?_set_self hnl).symm.trans h2))▸ho
  ·rw[List.getElem?_set_ne (Ne.symm hi)]at h2
   have sp:=vi.sep i n ei e h1 he hi
   refine(vi.obj i ei q h1 h2).mono ⟨[],(List.append_nil _).symm⟩ (λ_ h=>h) (λ_=>hk _ _ ?_) (λ_=>hk _ _ ?_)
   ·exact hd.elim (λq=>q▸sp.1) λq=>q▸sp.2.1
   ·exact hd.elim (λq=>q▸sp.2.2.1) λq=>q▸sp.2.2.2
 ·exact hd.elim (λq=>q▸(vi.off p hp e hm).1) λq=>q▸(vi.off p hp e hm).2
theorem Ext.turn{n:Nat}{e:Ent}{d:Addr}(he:φ[n]?=some e)(hd:d=e.a∨d=e.d)(hk:∀b o,b≠d→h.get? b=some o→h'.get? b=some o)(ha:(h'.get? d).isSome=true):Ext W φ I h φ I h':=by
 have hm:=List.mem_of_getElem? he
 exact⟨λb q=>(Decidable.em (b=d)).elim (λc=>c▸ha) λc=>(Option.isSome_iff_exists.mp q).elim λo ho=>(hk b o c ho)▸rfl,λb o q f _=>hk b o (hd.elim (λc=>c▸(f e hm).1) λc=>c▸(f e hm).2) q,⟨[],(List.append_nil _).symm,nofun⟩,λ_ h=>h,λ_ h=>.inl h⟩
theorem qL(k j:Nat)(u q:V):∀fs:List (Nat×V),fld j (sO k u fs)=some q→(j=k∧q=u)∨(j≠k∧fld j fs=some q)
 | [],h=>aZ (show(if Nat.beq j k=true then some u else none)=some q from h) λc h=>.inl ⟨Nat.eq_of_beq_eq_true c,(Option.some.inj h).symm⟩
 |(i,t)::r,h=>by
  by_cases c:Nat.beq k i=true
  ·have h:fld j (if Nat.beq k i=true then(i,u)::r else(i,t)::sO k u r)=some q:=h
   rw[if_pos c]at h
   have e:=Nat.eq_of_beq_eq_true c
   exact j4 (show(if Nat.beq j i=true then some u else fld j r)=some q from h) (λc2 h=>.inl ⟨(Nat.eq_of_beq_eq_true c2).trans e.symm,(Option.some.inj h).symm⟩) λc2 h=>.inr ⟨λz=>c2 (z▸c),(if_neg c2).trans h⟩
  ·have h:fld j (if Nat.beq k i=true then(i,u)::r else(i,t)::sO k u r)=some q:=h
   rw[if_neg c]at h
   exact j4 (show(if Nat.beq j i=true then some t else fld j (sO k u r))=some q from h) (λc2 h=>.inr ⟨λz=>c (z▸c2),(if_pos c2).trans h⟩) λc2 h=>(qL k j u q r h).imp id λz=>⟨z.1,(if_neg c2).trans z.2⟩
theorem mq{k:Nat}{u:V}{H':MH}(vi:Inv N B φ I H s.heap)(hg:N.good=gB K N.dM na)(hinj:∀i j,i<na→N.dM i=N.dM j→i=j)(X:K.In B)(hnm:∀i,i<na→N.dM i∈N.names)(hlen:N.names.length≤1000)(hk:k<na)(ra:VR φ I a x)(ru:VR φ I u y)(hb:gV a k u H=some H') :
  wpAny (model prog w) A (setAttr x (N.dM k) y) (cV N B W s φ I H' λ_ _ _=>True) E s:=by
 cases a with
 |ref n=>
  refine xi (show(match H[n]? with|some (.ins c fs)=>some (H.set n (.ins c (sO k u fs)))|_=>none)=some H' from hb) λc fs hn hb=>ay ra.cT λe he f=>ic (vi.obj n e _ he hn) λg0 hne h1 z=>dD z λm h2 hw h3=>?_
  rw[f,← Option.some.inj hb]
  have g:=g0
  rw[hg]at g
  have XH:=X.keeps vi.base
  refine FP h2 λo _ _ h6 _ _ _=>set_plain XH (r9 h1 h6) g.set (osa_open (s:={ s with toks:=s.toks+1 }) XH (r9 h1 h6) g.over (r:=none) (by unfold takerIn;rw[g.find k hk];rfl) λb=>ay (any_some g.has) λcd hc hd'=>?_)
  refine wpAny_bind (wpAny_pure (wpAny_bind (wpAny_bind (wpAny_loadPart h1 (wpAny_bind (Looks.here (s:={ s with toks:=s.toks+1 }) (looks_clsIn XH hc) ?_))))))
  rw[hd']
  refine wpAny_pure (a:=some e.d) (wpAny_bind (wpAny_pure (wpAny_bind (wpAny_nsSet1 (s:={ s with toks:=s.toks+1 }) h2 λh' hn' hs'=>?_))))
  have hw':Within (λx=>if x=N.dM k then some y else m x) N.names:=λn hn=>(Decidable.em (n=N.dM k)).elim (λq=>q▸hnm k hk) λq=>hw n λz=>hn ((if_neg q).trans z)
  refine Jh (hn'.count hw') λo' es' ep' c1 c2 c3=>wpAny_bind (wpAny_lookBehind c1 (by rw[c2];exact pastItsLine_dict (by rw[sizeLine_eq];exact Ar.Z2 [.e .x0 .aG,.e .x1 .x0] (.e .x1 (.a (.n 16777216) .n1)) rfl hlen c3)) (wpAny_pure ?_))
  have hk':∀b o,b≠e.d→s.heap.get? b=some o→h'.get? b=some o:=λb o hb q=>(hs'.2 b hb).trans q
  refine .mk φ I h' _ (vi.turn he hn (.inr rfl) hk' ⟨g0,hne,hk' _ _ (Ne.symm hne) h1,_,hn',hw',λj q hq=>(qL k j u q fs hq).elim (λz=>⟨y,if_pos (congrArg N.dM z.1),z.2▸ru⟩) λz=>?_⟩) (.turn he (.inr rfl) hk' (jo hn'.ns)) trivial
  exact ay (h3 j q z.2) λt q1 q2=>⟨t,(if_neg λq=>z.1 (hinj k j hk q.symm).symm).trans q1,q2⟩
 |_=>exact aM hb
end
end
section
open PySem PySem.W PyProof.Rows
section
variable {prog:Program} {w:World} {M:Model} {A:Around} {E:Value→Shared→Prop} {s:Shared} {N:Nm} {B h h':PySem.Heap} {φ φ':List Ent} {I I':bR} {H H':MH} {v a b:V} {x y z:Value} {W:Addr→Prop} {K:Frag} {na:Nat} {n:Nat} {l:List V}
theorem uR{a:Addr}{items:Array Value}{n:Nat}(p:IsL h a items n):(h.get? a).isSome=true:=by unfold IsL at p;rw[p];rfl
theorem oj{k:Int}(h:jh k=true):0≤k∧k<1000000:=⟨of_decide_eq_true (fe h),of_decide_eq_true (iz h)⟩
theorem nP{slice:Expr}(hs:∀l u st p,slice≠.Slice l u st p)(o i:Value):subscripted slice false o i=operate [o,i] (getItem o i):=by
 cases slice<;>first|rfl|exact absurd rfl (hs _ _ _ _)
theorem Hw{j:Int}(h0:0≤j)(h1:j<1000000){n:Nat}(h:j.toNat<n):j<(n:Int):=by exact Ar.uB [.l .x0 .x1,.t .x0 .y0] (.L .y0 (.c .x1)) rfl h (Ar.tn _)
theorem zH{k:V}(vi:Inv N B φ I H s.heap)(ra:VR φ I a x)(rk:VR φ I k y)(hb:aJ a k H=some v){value slice:Expr}(hs:∀l u st p,slice≠.Slice l u st p) :
  wpAny (model prog w) A (getItem x y) (bS N B W s φ I v H) E s∧wpAny (model prog w) A (subscriptTail value slice x y) (bS N B W s φ I v H) E s:=by
 cases k with
 |int j=>
  refine aZ (show(if jh j=true then(match a with|.ref n=>(aj H n).bind λl=>l[j.toNat]? |.tup l=>l[j.toNat]? |_=>none)else none)=some v from hb) λh0 hb=>bJ rk.b0 λt f=>?_
  have h0:=oj h0
  rw[f]
  cases a with
  |ref m=>
   refine af hb λl hl hb=>ay ra.cT λe he f=>cQ (cI vi he hl).2 λitems c p1 r1=>ay (r1.get hb) λz hz rz=>?_
   rw[f]
   have g:wpAny (model prog w) A (getItem (.ref e.a) (.int j t)) (bS N B W s φ I v H) E s:=wpAny_getItem_list p1.isList h0.1 (Int.lt_trans h0.2 (by decide)) (Array.getElem?_toList.symm.trans hz) (cV.cy vi rz)
   exact⟨g,tail_any p1.isList.typeIs slot_list_getitem.lookup g (nP hs _ _)⟩
  |tup l=>
   refine df (iH vi ra) λq items f p1 r1=>ay (r1.get hb) λz hz rz=>?_
   rw[f]
   have hl:j.toNat<items.size:=Array.length_toList▸(List.getElem?_eq_some_iff.mp hz).1
   have g:wpAny (model prog w) A (getItem (.ref q) (.int j t)) (bS N B W s φ I v H) E s:=
    getItem_tuple p1 (by exact Ar.eI [.C (.E .n0 .y0) (.L .y0 .av)] (.E (.g (.n 9223372036854775808)) .y0) rfl h0) (by exact Ar.eI [.C (.E .n0 .y0) (.L .y0 .av)] (.L .y0 (.n 9223372036854775808)) rfl h0) (seqIndex_of (n:=items.size) h0.1 (Hw h0.1 h0.2 hl)) (Array.getElem?_toList.symm.trans hz) (cV.cy vi rz)
   exact⟨g,tail_any p1.typeIs slot_tuple_getitem.lookup g (nP hs _ _)⟩
  |_=>exact aM hb
 |_=>cases a<;>exact aM hb
theorem j9{n:Nat}{l l2:List V}{e:Ent}{i2:Array Value}{m:Nat}{h':PySem.Heap}(vi:Inv N B φ I H s.heap)(he:φ[n]?=some e)(hl:aj H n=some l)(hs':PySem.Heap.SameBut e.a s.heap h')(ho:IsL h' e.a i2 m)(r:LR φ I l2 i2.toList) :
  Inv N B φ I (H.set n (.lst l2)) h'∧Ext W φ I s.heap φ I h':=by
 have hk':∀b o,b≠e.a→s.heap.get? b=some o→h'.get? b=some o:=λb o hb q=>(hs'.2 b hb).trans q
 exact⟨vi.turn he (yu hl) (.inl rfl) hk' ⟨(cI vi he hl).1,i2,_,ho,r⟩,.turn he (.inl rfl) hk' (uR ho)⟩
theorem nJ{k u:V}(vi:Inv N B φ I H s.heap)(ra:VR φ I a x)(rk:VR φ I k y)(ru:VR φ I u z)(hb:dX a k u H=some H') :
  wpAny (model prog w) A (setItem x y z) (cV N B W s φ I H' λ_ _ _=>True) E s:=by
 cases a with
 |ref m=>cases k with
  |int j=>
   refine aZ (show(if jh j=true then(aj H m).bind λl=>if Nat.blt j.toNat l.length=true then some (H.set m (.lst (l.set j.toNat u)))else none else none)=some H' from hb) λh0 hb=>af hb λl hl hb=>aZ hb λhlt hb=>bJ rk.b0 λt f=>ay ra.cT λe he f'=>?_
   have h0:=oj h0
   rw[f,f',← Option.some.inj hb]
   refine cQ (cI vi he hl).2 λitems c p1 r1=>?_
   have hj:j.toNat<items.size:=r1.size▸Nat.le_of_ble_eq_true hlt
   refine dd (j9 (W:=W) vi he hl (Heap.SameBut.update s.heap e.a (Obj.mapSeq (·.setIfInBounds j.toNat z))) (p1.update _) (by rw[Array.toList_setIfInBounds];exact r1.set ru _)) λq1 q2=>ki_setAt p1 h0.1 (by exact Ar.eI [.C (.E .n0 .y0) (.L .y0 .av)] (.L .y0 (.n 9223372036854775808)) rfl h0) (by exact Ar.uB [.l .x0 .x1,.t .x0 .y0] (.L .y0 (.c .x1)) rfl hj (Ar.tn _)) (.mk φ I _ s.toks q1 q2 trivial)
  |_=>exact aM hb
 |_=>exact aM hb
theorem mM{u:V}{e:Ent}(vi:Inv N B φ I H s.heap)(he:φ[n]?=some e)(hl:aj H n=some l)(hr:aI l.length=true)(ru:VR φ I u z) :
  wpAny (model prog w) A (call (.builtin "list.append") [.ref e.a,z]) (bS N B W s φ I .bW (H.set n (.lst (l++[u])))) E s:=
 cQ (cI vi he hl).2 λitems c p1 r1=>append_at p1 (λh' hs' ho=>dd (j9 (W:=W) vi he hl hs' ho (by rw[Array.toList_push];exact r1.append (.cons ru .nil))) λq1 q2=>.mk φ I _ s.toks q1 q2 .bW) (by rw[sizeLine_eq,← r1.size];have:=dH hr;exact Ar.Z1 [.e .x0 .av] (.e .x0 (.n 16777216)) rfl this)
theorem ny{items:Array Value}{tk:Nat}(vi:Inv N B φ I H h)(hh:s.heap=h)(r:LR φ I l items.toList) :
  bS N B W s φ I (.ref H.length) (H++[.lst l]) (.ref h.objs.size) { s with heap:=h.push { cls:=.type "list",data:=.seq items },toks:=tk }:=by
 subst hh
 exact .mk _ I _ tk (vi.mf r) (.mf ..) (vi.len▸.ref φ.length ⟨s.heap.objs.size,s.heap.objs.size⟩ List.getElem?_concat_length)
theorem Inv.fresh{o:Obj}(vi:Inv N B φ I H h)(hf:o.isFreed=false):Inv N B φ ((h.objs.size,o)::I) H (h.push o)∧Ext W φ I h φ ((h.objs.size,o)::I) (h.push o):=by
 have hk:∀b q,h.get? b=some q→(h.push o).get? b=some q:=λb q e=>Heap.get?_push_of_some _ e
 refine⟨(vi.keeps hk).fact (Heap.get?_push_size _ hf) (vi.l_ (cM h)),kO hk,λb q e _ _=>hk b q e,⟨[],(List.append_nil _).symm,nofun⟩,λp hp=>.tail _ hp,λp hp=>(List.mem_cons.mp hp).elim (λq=>.inr (q▸cM h)) .inl⟩
theorem sJ{xs:List Value}(vi:Inv N B φ I H s.heap)(r:LR φ I l xs)(hz:l.length≤1000000) :
  wpAny (model prog w) A (newList xs) (bS N B W s φ I (.ref H.length) (H++[.lst l])) E s:=by
 have e:=r.1
 refine wpAny_newObj_type (ny (tk:=s.toks) vi rfl r) ?_
 show xs.toArray.size≤sizeLine
 rw[List.size_toArray,sizeLine_eq];exact Ar.Z2 [.e .x0 .av,.q .x0 .x1] (.e .x1 (.n 16777216)) rfl hz e
theorem qF{xs:List Value}(vi:Inv N B φ I H s.heap)(r:LR φ I l xs)(hz:l.length≤1000000) :
  wpAny (model prog w) A (newTuple xs) (bS N B W s φ I (.tup l) H) E s:=by
 have e:=r.1
 refine dd (vi.fresh (W:=W) (o:={ cls:=.type "tuple",data:=.seq xs.toArray }) rfl) λvi' x'=>?_
 refine wpAny_newObj_type (.mk φ _ _ s.toks vi' x' ?_) ?_
 ·exact .tup l _ _ xs.toArray 0 (.head _) rfl rfl (e.trans List.size_toArray.symm) λi v x h1 h2=>(r.2 i v x h1 (Array.getElem?_toList.trans h2)).ext x'
 ·show xs.toArray.size≤sizeLine
  rw[List.size_toArray,sizeLine_eq];exact Ar.Z2 [.e .x0 .av,.q .x0 .x1] (.e .x1 (.n 16777216)) rfl hz e
theorem Ey(vi:Inv N B φ I H s.heap)(ra:VR φ I (.ref n) x)(hl:aj H n=some l)(hr:aI l.length=true) :
  wpAny (model prog w) A (call (.builtin "len") [x]) (bS N B W s φ I (.int l.length) H) E s:=by
 refine ay (ra.cT) λe he rf2_=>?_;subst rf2_
 obtain⟨e1,items,c,p1,r1⟩:=cI vi he hl
 have hsz:l.length=items.size:=r1.1.trans Array.length_toList
 have hz:=dH hr
 rw[hsz]
 exact Calls.call_len_list p1.isList (by exact Ar.Z2 [.q .x0 .x1,.e .x0 .av] (.L (.c .x1) (.n 9223372036854775808)) rfl hsz hz) (cV.same vi (.int _ _))
theorem Dj{i:Int}(vi:Inv N B φ I H s.heap)(ra:VR φ I (.int i) x):wpAny (model prog w) A (call (.builtin "abs") [x]) (bS N B W s φ I (.int i.natAbs) H) E s:=by
 refine bJ (ra.b0) λt rf1_=>?_;subst rf1_
 refine call_abs_int λu tk=>?_
 have:(if i<0 then -i else i)=(i.natAbs:Int):=by split<;>first|exact Ar.h_ [.L .y0 .n0,.b .x0 .y0] (.Q (.g .y0) (.c .x0)) rfl (by assumption) (Ar.na _)|exact Ar.h_ [.N (.L .y0 .n0),.b .x0 .y0] (.Q .y0 (.c .x0)) rfl (by assumption) (Ar.na _)
 rw[this]
 exact cV.same vi (.int _ _)
theorem EC{i j:Int}(vi:Inv N B φ I H s.heap)(hh:A.handled=none)(ra:VR φ I (.int i) x)(rb:VR φ I (.int j) y):wpAny (model prog w) A (call (.builtin "max") [x,y]) (bS N B W s φ I (.int (if i<j then j else i)) H) E s:=by
 refine bJ (ra.b0) λt rf1_=>?_;subst rf1_
 obtain⟨u,rfl⟩:=rb.b0
 refine max_two_ints hh λh' tk hk=>?_
 refine .mk φ I h' tk (vi.keeps hk) (.keeps hk) ?_
 by_cases q:i<j
 ·rw[if_pos q,if_pos (show j>i from q)];exact .int _ _
 ·rw[if_neg q,if_neg (show¬ j>i from q)];exact .int _ _
theorem EG{i j:Int}(vi:Inv N B φ I H s.heap)(hh:A.handled=none)(ra:VR φ I (.int i) x)(rb:VR φ I (.int j) y):wpAny (model prog w) A (call (.builtin "min") [x,y]) (bS N B W s φ I (.int (if j<i then j else i)) H) E s:=by
 refine bJ (ra.b0) λt rf1_=>?_;subst rf1_
 obtain⟨u,rfl⟩:=rb.b0
 refine min_two_ints hh λh' tk hk=>?_
 refine .mk φ I h' tk (vi.keeps hk) (.keeps hk) ?_
 by_cases q:j<i
 ·rw[if_pos q,if_pos q];exact .int _ _
 ·rw[if_neg q,if_neg q];exact .int _ _
theorem vt{i j:Int}(h:j=1∨j=2∨j = -1):Builtin.divisionGoesByPylong i j=false:=by
 refine PyProof.noPylong_small ?_
 rcases h with rfl|rfl|rfl<;>decide
theorem yE{P:List V→V→Prop}(h:eA l=some v)(k1:∀b,gT 0 b 1=true→P [.int b] (.bQ 0 b 1))(k2:∀a b,gT a b 1=true→P [.int a,.int b] (.bQ a b 1))(k3:∀a b c,gT a b c=true→P [.int a,.int b,.int c] (.bQ a b c)):P l v:=by
 cases l with
 |nil=>exact aM h
 |cons v1 l=>cases v1 with
  |int i=>cases l with
   |nil=>exact aZ (show(if bI i=true then some (V.bQ 0 i 1)else none)=some v from h) λc h=>aL (P:=P _) h (k1 _ (by unfold gT;rw[c];rfl))
   |cons v2 l=>cases v2 with
    |int j=>cases l with
     |nil=>exact aZ (show(if(bI i&&bI j)=true then some (V.bQ i j 1)else none)=some v from h) λc h=>aL (P:=P _) h (k2 _ _ (by unfold gT;rw[c];rfl))
     |cons v3 l=>cases v3 with
      |int k=>cases l with
       |nil=>exact aZ (show(if gT i j k=true then some (V.bQ i j k)else none)=some v from h) λc h=>aL (P:=P _) h (k3 _ _ _ c)
       |cons=>exact aM h
      |_=>cases l<;>exact aM h
    |_=>cases l with
     |nil=>exact aM h
     |cons v3 l=>cases l<;>exact aM h
  |_=>cases l with
   |nil=>exact aM h
   |cons v2 l=>cases l with
    |nil=>exact aM h
    |cons v3 l=>cases l<;>exact aM h
theorem LR.fy{i:Int}{xs:List Value}{P:List Value→Prop}(r:LR φ I (.int i::l) xs)(k:∀t q,LR φ I l q→P (.int i t::q)):P xs:=
 df r.cons_of λx q f h1 h2=>bJ h1.b0 λt f'=>(f.trans (congrArg (·::q) f'))▸k t q h2
theorem Fc{l:List V}{xs:List Value}(vi:Inv N B φ I H s.heap)(r:LR φ I l xs)(hb:eA l=some v) :
  wpAny (model prog w) A (call (.type "range") xs) (bS N B W s φ I v H) E s:=by
 have fin:∀(a b c:Int) (t u q:Tok) (tk:Nat),gT a b c=true→bS N B W s φ I (.bQ a b c) H (.ref s.heap.objs.size) { s with heap:=s.heap.push { cls:=.type "range",data:=.fields #[.int a t,.int b u,.int c q] },toks:=tk }:=λa b c t u q tk hs=>
  dd (vi.fresh (W:=W) (o:={ cls:=.type "range",data:=.fields #[.int a t,.int b u,.int c q] }) rfl) λvi' x'=>.mk φ _ _ tk vi' x' (.bQ a b c _ t u q hs (.head _))
 exact yE (P:=λl v=>LR φ I l xs→wpAny (model prog w) A (call (.type "range") xs) (bS N B W s φ I v H) E s) hb
  (λb c r=>r.fy (P:=λxs=>wpAny (model prog w) A (call (.type "range") xs) (bS N B W s φ I (.bQ 0 b 1) H) E s) λt q r=>r.nil_of▸call_range_1 (fin _ _ _ _ _ _ _ c))
  (λa b c r=>r.fy (P:=λxs=>wpAny (model prog w) A (call (.type "range") xs) (bS N B W s φ I (.bQ a b 1) H) E s) λt q r=>r.fy (P:=λq=>wpAny (model prog w) A (call (.type "range") (.int a t::q)) (bS N B W s φ I (.bQ a b 1) H) E s) λu q r=>r.nil_of▸call_range_2 (fin _ _ _ _ _ _ _ c))
  (λa b k c r=>r.fy (P:=λxs=>wpAny (model prog w) A (call (.type "range") xs) (bS N B W s φ I (.bQ a b k) H) E s) λt q r=>r.fy (P:=λq=>wpAny (model prog w) A (call (.type "range") (.int a t::q)) (bS N B W s φ I (.bQ a b k) H) E s) λu q r=>r.fy (P:=λq=>wpAny (model prog w) A (call (.type "range") (.int a t::.int b u::q)) (bS N B W s φ I (.bQ a b k) H) E s) λu' q r=>r.nil_of▸by
   have c2:k=1∨k=2∨k = -1:=(Bool.or_eq_true_iff.mp (iz c)).imp of_decide_eq_true λq=>(Bool.or_eq_true_iff.mp q).imp of_decide_eq_true of_decide_eq_true
   exact call_range_3 (c2.elim (λe=>e▸by decide) λc=>c.elim (λe=>e▸by decide) λe=>e▸by decide) (fin _ _ _ _ _ _ _ c) (.inl (vt c2))) r
end
end
section
open PySem PySem.W PyProof.Rows
noncomputable def itemAt(v:V)(H:MH)(i:Nat):Option (Option V):=
 match v with
 |.ref n=>(aj H n).map (·[i]?)
 |.tup l=>some l[i]?
 |.bQ a b c=>(dc a b c).map (·[i]?)
 |_=>none
noncomputable def IS(φ:List Ent)(I:bR)(v:V)(i:Nat)(a:Addr)(h:PySem.Heap):Prop:=
 match v with
 |.ref n=>∃e,φ[n]?=some e∧h.IsListIter a e.a i
 |.tup l=>∃t,VR φ I (.tup l) (.ref t)∧IsTupIter h a t i
 |.bQ p q c=>∃l,dc p q c=some l∧IsRangeIter h a (p+i*c) ((l.length:Int)-i) c∧i≤l.length
 |_=>False
section
variable {prog:Program} {w:World} {M:Model} {A:Around} {E:Value→Shared→Prop} {s:Shared} {N:Nm} {B h h' g:PySem.Heap} {φ φ' φ₀:List Ent} {I I' I₀:bR} {H H':MH} {v u:V} {x y z:Value} {W:Addr→Prop} {a:Addr} {i:Nat}
theorem cK:∀(n:Nat) (a c:Int),(aK n a c).length=n
 |0,_,_=>rfl
 |n+1,a,c=>congrArg (·+1) (cK n (a+c) c)
theorem e_:∀(n:Nat) (a c:Int) (i:Nat),i<n→(aK n a c)[i]?=some (.int (a+i*c))
 |0,_,_,_,h=>absurd h (Nat.not_lt_zero _)
 |n+1,a,c,0,_=>congrArg (λz=>some (V.int z)) (by exact Ar.GG [] (.Q .y0 (.a .y0 (.m 0 .y1))) rfl)
 |n+1,a,c,i+1,h=>(e_ n (a+c) c i (Nat.lt_of_succ_lt_succ h)).trans (congrArg (λz=>some (V.int z)) (by rw[Int.natCast_succ,Int.add_mul,Int.one_mul,Int.add_assoc,Int.add_comm c]))
theorem ze{p q c:Int}{l:List V}{P:Int→List V→Prop}(hl:dc p q c=some l)(k1:P 1 (aK (q-p).toNat p 1))(k2:P 2 (aK ((q-p+1)/2).toNat p 2))(k3:P (-1) (aK (p-q).toNat p (-1))):P c l:=
 j4 (show(if c=1 then some (aK (q-p).toNat p 1)else if c=2 then some (aK ((q-p+1)/2).toNat p 2)else if c = -1 then some (aK (p-q).toNat p (-1))else none)=some l from hl) (λe h=>e▸aL (P:=P 1) h k1) λ_ h=>
  j4 h (λe h=>e▸aL (P:=P 2) h k2) λ_ h=>aZ h λe h=>e▸aL (P:=P (-1)) h k3
theorem Qj(p q:Int):(((q-p).toNat:Nat):Int)=Builtin.Range.rangeSize p q 1:=by
 unfold Builtin.Range.rangeSize;rw[if_pos (by decide)];split<;>first|exact Ar.Zx 4 1 [] [_,_,_,_] [_] [.L .y0 .y1,.z 1 .y2 .y3 (.s (.s .y1 .y0) .n1),.t .x0 (.s .y1 .y0)] (.Q (.c .x0) (.a .y2 .n1)) rfl rfl (by assumption) (Ar.zm _ 1 rfl) (Ar.tn _)|exact Ar.z_ [.N (.L .y0 .y1),.t .x0 (.s .y1 .y0)] (.Q (.c .x0) .n0) rfl (by assumption) (Ar.tn _)
theorem Qk(p q:Int):((((q-p+1)/2).toNat:Nat):Int)=Builtin.Range.rangeSize p q 2:=by
 unfold Builtin.Range.rangeSize;rw[if_pos (by decide)];split<;>first|exact Ar.Zx 6 1 [] [_,_,_,_,_,_] [_] [.L .y0 .y1,.z 2 .y4 .y5 (.s (.s .y1 .y0) .n1),.t .x0 .y2,.z 2 .y2 .y3 (.a (.s .y1 .y0) .n1)] (.Q (.c .x0) (.a .y4 .n1)) rfl rfl (by assumption) (Ar.zm _ 2 rfl) (Ar.tn _) (Ar.zm _ 2 rfl)|exact Ar.Zx 4 1 [] [_,_,_,_] [_] [.N (.L .y0 .y1),.t .x0 .y2,.z 2 .y2 .y3 (.a (.s .y1 .y0) .n1)] (.Q (.c .x0) .n0) rfl rfl (by assumption) (Ar.tn _) (Ar.zm _ 2 rfl)
theorem Ql(p q:Int):(((p-q).toNat:Nat):Int)=Builtin.Range.rangeSize p q (-1):=by
 unfold Builtin.Range.rangeSize;rw[if_neg (by decide),show(-(-1:Int))=1 from rfl];split<;>first|exact Ar.Zx 4 1 [] [_,_,_,_] [_] [.L .y1 .y0,.z 1 .y2 .y3 (.s (.s .y0 .y1) .n1),.t .x0 (.s .y0 .y1)] (.Q (.c .x0) (.a .y2 .n1)) rfl rfl (by assumption) (Ar.zm _ 1 rfl) (Ar.tn _)|exact Ar.z_ [.N (.L .y1 .y0),.t .x0 (.s .y0 .y1)] (.Q (.c .x0) .n0) rfl (by assumption) (Ar.tn _)
theorem za{p q c:Int}{l:List V}(hl:dc p q c=some l){i:Nat}(hi:i<l.length):l[i]?=some (.int (p+i*c)):=
 ze (P:=λc l=>i<l.length→l[i]?=some (V.int (p+i*c))) hl (λhi=>e_ _ _ _ _ (by rwa [cK]at hi)) (λhi=>e_ _ _ _ _ (by rwa [cK]at hi)) (λhi=>e_ _ _ _ _ (by rwa [cK]at hi)) hi
theorem vj{p q c:Int}{l:List V}(hl:dc p q c=some l):(l.length:Int)=Builtin.Range.rangeSize p q c:=
 ze (P:=λc l=>(l.length:Int)=Builtin.Range.rangeSize p q c) hl (by rw[cK];exact Qj p q) (by rw[cK];exact Qk p q) (by rw[cK];exact Ql p q)
theorem vl{p q c:Int}(h:gT p q c=true):Builtin.Range.small p q c=true:=by
 unfold gT bI at h
 simp only[Bool.and_eq_true,Bool.or_eq_true,decide_eq_true_eq]at h
 obtain⟨⟨⟨h1,h2⟩,h3,h4⟩,hc⟩:=h
 have hz:0≤Builtin.Range.rangeSize p q c∧Builtin.Range.rangeSize p q c≤4000000:=by
  unfold Builtin.Range.rangeSize
  rcases hc with rfl|rfl|rfl
  ·rw[if_pos (by decide)];split<;>first|exact Ar.Zx 4 0 [] [_,_,_,_] [] [.E (.g .av) .y0,.E .y1 .av,.L .y0 .y1,.z 1 .y2 .y3 (.s (.s .y1 .y0) .n1)] (.C (.E .n0 (.a .y2 .n1)) (.E (.a .y2 .n1) (.n 4000000))) rfl rfl h1 h4 (by assumption) (Ar.zm _ 1 rfl)|exact Ar.Zx 0 0 [] [] [] [] (.C (.E .n0 .n0) (.E .n0 (.n 4000000))) rfl rfl
  ·rw[if_pos (by decide)];split<;>first|exact Ar.Zx 4 0 [] [_,_,_,_] [] [.E (.g .av) .y0,.E .y1 .av,.L .y0 .y1,.z 2 .y2 .y3 (.s (.s .y1 .y0) .n1)] (.C (.E .n0 (.a .y2 .n1)) (.E (.a .y2 .n1) (.n 4000000))) rfl rfl h1 h4 (by assumption) (Ar.zm _ 2 rfl)|exact Ar.Zx 0 0 [] [] [] [] (.C (.E .n0 .n0) (.E .n0 (.n 4000000))) rfl rfl
  ·rw[if_neg (by decide),show(-(-1:Int))=1 from rfl];split<;>first|exact Ar.Zx 4 0 [] [_,_,_,_] [] [.E .y0 .av,.E (.g .av) .y1,.L .y1 .y0,.z 1 .y2 .y3 (.s (.s .y0 .y1) .n1)] (.C (.E .n0 (.a .y2 .n1)) (.E (.a .y2 .n1) (.n 4000000))) rfl rfl h2 h3 (by assumption) (Ar.zm _ 1 rfl)|exact Ar.Zx 0 0 [] [] [] [] (.C (.E .n0 .n0) (.E .n0 (.n 4000000))) rfl rfl
 unfold Builtin.Range.small Builtin.Range.rangeFitsLong
 simp only[Bool.and_eq_true,Bool.or_eq_true,decide_eq_true_eq]
 refine⟨⟨⟨⟨⟨by exact Ar.eI [.E (.g .av) .y0] (.E (.g (.n 9223372036854775808)) .y0) rfl h1,by exact Ar.eI [.E .y0 .av] (.L .y0 (.n 9223372036854775808)) rfl h2⟩,by exact Ar.eI [.E (.g .av) .y0] (.E (.g (.n 9223372036854775808)) .y0) rfl h3,by exact Ar.eI [.E .y0 .av] (.L .y0 (.n 9223372036854775808)) rfl h4⟩,by exact Ar.eI [.D (.Q .y0 .n1) (.D (.Q .y0 .n2) (.Q .y0 (.g .n1)))] (.E (.g (.n 9223372036854775808)) .y0) rfl hc,by exact Ar.eI [.D (.Q .y0 .n1) (.D (.Q .y0 .n2) (.Q .y0 (.g .n1)))] (.L .y0 (.n 9223372036854775808)) rfl hc⟩,by exact Ar.eI [.C (.E .n0 .y0) (.E .y0 (.n 4000000))] (.E (.g (.n 9223372036854775808)) .y0) rfl hz,by exact Ar.eI [.C (.E .n0 .y0) (.E .y0 (.n 4000000))] (.L .y0 (.n 9223372036854775808)) rfl hz⟩,.inr ?_⟩
 rcases hc with rfl|rfl|rfl
 ·rw[if_pos (by decide)];simp;exact Ar.eI [.E (.g .av) .y0,.E .y0 .av] (.C (.E (.g (.n 9223372036854775808)) .y0) (.L .y0 (.n 9223372036854775808))) rfl h3 h4
 ·rw[if_pos (by decide)];simp;exact Ar.eI [.E (.g .av) .y0,.E .y0 .av] (.C (.E (.g (.n 9223372036854775808)) (.a .y0 .n1)) (.L (.a .y0 .n1) (.n 9223372036854775808))) rfl h3 h4
 ·rw[if_neg (by decide)];simp;exact Ar.eI [.E (.g .av) .y0,.E .y0 .av] (.C (.E (.g (.n 9223372036854775808)) .y0) (.L .y0 (.n 9223372036854775808))) rfl h3 h4
theorem VR.Fb{p q c:Int}(r:VR φ I (.bQ p q c) x):∃r t u v,x=.ref r∧gT p q c=true∧(r,({ cls:=.type "range",dict:=none,data:=.fields #[.int p t,.int q u,.int c v],slots:=#[] }:Obj))∈I:=by
 cases r with
 |bQ _ _ _ r t u v hs hm=>exact⟨r,t,u,v,rfl,hs,hm⟩
theorem tJ{u':Option V}(vi:Inv N B φ I H s.heap)(r:VR φ I v x)(ht:itemAt v H 0=some u'){Q:Value→Shared→Prop}
  (k:∀a h',(∀b o,s.heap.get? b=some o→h'.get? b=some o)→s.heap.get? a=none→(h'.get? a).isSome=true→IS φ I v 0 a h'→Q (.ref a) { s with heap:=h' }):wpAny (model prog w) A (pyIter x) Q E s:=by
 have mk:∀o:Obj,o.isFreed=false→IS φ I v 0 s.heap.objs.size (s.heap.push o)→Q (.ref s.heap.objs.size) { s with heap:=s.heap.push o }:=λo f is=>
  k _ _ (λb q e=>Heap.get?_push_of_some _ e) (cM _) (by rw[Heap.get?_push_size s.heap f];rfl) is
 cases v with
 |ref n=>
  refine af (f:=λl=>some l[0]?) (show(aj H n).bind (λl=>some l[0]?)=some u' from Option.map_eq_bind.symm.trans ht) λl hl _=>ay r.cT λe he f=>cQ (cI vi he hl).2 λitems c p1 r1=>?_
  rw[f]
  exact wpAny_pyIter_list p1.isList (mk _ rfl ⟨e,he,_,Heap.get?_push_size s.heap rfl,rfl,rfl⟩)
 |tup l=>
  refine df (iH vi r) λt items f p1 r1=>?_
  rw[f]
  exact wpAny_pyIter_tuple p1 (mk _ rfl ⟨t,f▸r,_,Heap.get?_push_size s.heap rfl,rfl,rfl⟩)
 |bQ p q c=>
  refine ay (Option.map_eq_some_iff.mp (show(dc p q c).map (·[0]?)=some u' from ht)) λl hl _=>?_
  refine Ji r.Fb λr t u v e hr hm=>?_
  rw[e]
  refine wpAny_pyIter_range (vi.jK _ hm) (vl hr) (mk _ rfl ⟨l,hl,?_,Nat.zero_le _⟩)
  show _=_
  rw[Heap.get?_push_size s.heap rfl,show(p+((0:Nat):Int)*c)=p from by exact Ar.GG [] (.Q (.a .y0 (.m 0 .y1)) .y0) rfl,show((l.length:Int)-((0:Nat):Int))=Builtin.Range.rangeSize p q c from by rw[← vj hl];exact Ar.Z1 [] (.Q (.s (.c .x0) (.c .n0)) (.c .x0)) rfl]
 |_=>exact aM ht
theorem tX(vi:Inv N B φ I H s.heap)(st:IS φ I v i a s.heap)(ht:itemAt v H i=some (some u)){Q:Option Value→Shared→Prop}
  (k:∀y h' tk,VR φ I u y→(∀b o,b≠a→s.heap.get? b=some o→h'.get? b=some o)→(h'.get? a).isSome=true→IS φ I v (i+1) a h'→Q (some y) { s with heap:=h',toks:=tk }) :
  wpAny (model prog w) A (pyNext (.ref a)) Q E s:=by
 cases v with
 |ref n=>
  refine ay (Option.map_eq_some_iff.mp (show(aj H n).map (·[i]?)=some (some u)from ht)) λl hl hu=>ay (show∃e,φ[n]?=some e∧s.heap.IsListIter a e.a i from st) λe he hit=>cQ (cI vi he hl).2 λitems c p1 r1=>ay (r1.get hu) λy hy ry=>?_
  exact wpAny_pyNext_list_item hit p1.isList (Array.getElem?_toList.symm.trans hy) λh' hit' hs'=>k y h' s.toks ry (λb o hb q=>(hs'.2 b hb).trans q) (ay hit' λo ho _=>ho▸rfl) ⟨e,he,hit'⟩
 |tup l=>
  refine ay (show∃t,VR φ I (.tup l) (.ref t)∧IsTupIter s.heap a t i from st) λt r hit=>df (iH vi r) λt' items e p1 r1=>ay (r1.get (Option.some.inj (show some l[i]?=some (some u)from ht))) λy hy ry=>?_
  have e:t=t':=Value.ref.inj e
  exact next_tuple_item hit (e▸p1) (Array.getElem?_toList.symm.trans hy) λh' hit' hs'=>k y h' s.toks ry (λb o hb q=>(hs'.2 b hb).trans q) (ay hit' λo ho _=>ho▸rfl) ⟨t,r,hit'⟩
 |bQ p q c=>
  refine ay (Option.map_eq_some_iff.mp (show(dc p q c).map (·[i]?)=some (some u)from ht)) λl hl hu=>dD (show∃l,dc p q c=some l∧IsRangeIter s.heap a (p+i*c) ((l.length:Int)-i) c∧i≤l.length from st) λl' hl' hit hle=>?_
  have e:l'=l:=Option.some.inj (hl'.symm.trans hl)
  rw[e]at hit
  have hi:i<l.length:=(List.getElem?_eq_some_iff.mp hu).1
  rw[← Option.some.inj ((za hl hi).symm.trans hu)]at k
  refine wpAny_pyNext_range_item hit (by exact Ar.Z2 [.l .x0 .x1] (.L .n0 (.s (.c .x1) (.c .x0))) rfl hi) λh' hit' hs'=>k _ h' _ (.int _ _) (λb o hb q=>(hs'.2 b hb).trans q) (hit'▸rfl) ⟨l,hl,?_,hi⟩
  rw[show p+(i:Int)*c+c=p+((i+1:Nat):Int)*c from by rw[Int.natCast_succ,Int.add_mul,Int.one_mul,Int.add_assoc],show(l.length:Int)-i-1=(l.length:Int)-((i+1:Nat):Int)from by exact Ar.Z2 [] (.Q (.s (.s (.c .x0) (.c .x1)) .n1) (.s (.c .x0) (.c (.a .x1 .n1)))) rfl]at hit'
  exact hit'
 |_=>exact aM ht
theorem LR.none{l:List V}{its:Array Value}(r:LR φ I l its.toList)(h:l[i]?=Option.none):its[i]?=Option.none:=by
 rw[List.getElem?_eq_none_iff,r.1]at h
 rw[← Array.getElem?_toList,List.getElem?_eq_none_iff]
 exact h
theorem next_end(vi:Inv N B φ I H s.heap)(hh:A.handled=none)(st:IS φ I v i a s.heap)(ht:itemAt v H i=some none){Q:Option Value→Shared→Prop}
  (k:∀h',(∀b o,b≠a→s.heap.get? b=some o→h'.get? b=some o)→Q none { s with heap:=h' }):wpAny (model prog w) A (pyNext (.ref a)) Q E s:=by
 cases v with
 |ref n=>
  exact ay (Option.map_eq_some_iff.mp (show(aj H n).map (·[i]?)=some none from ht)) λl hl hu=>ay (show∃e,φ[n]?=some e∧s.heap.IsListIter a e.a i from st) λe he hit=>cQ (cI vi he hl).2 λitems c p1 r1=>
   wpAny_pyNext_list_end hh hit p1.isList (r1.none hu) λh' hs'=>k h' λb o hb q=>hs' b o hb q
 |tup l=>
  exact ay (show∃t,VR φ I (.tup l) (.ref t)∧IsTupIter s.heap a t i from st) λt r hit=>df (iH vi r) λt' items e p1 r1=>
   next_tuple_end hh hit ((Value.ref.inj e:t=t')▸p1) (r1.none (Option.some.inj (show some l[i]?=some none from ht))) λh' hs'=>k h' λb o hb q=>hs' b o hb q
 |bQ p q c=>
  refine ay (Option.map_eq_some_iff.mp (show(dc p q c).map (·[i]?)=some none from ht)) λl hl hu=>dD (show∃l,dc p q c=some l∧IsRangeIter s.heap a (p+i*c) ((l.length:Int)-i) c∧i≤l.length from st) λl' hl' hit hle=>?_
  have e:l'=l:=Option.some.inj (hl'.symm.trans hl)
  have hu:=List.getElem?_eq_none_iff.mp hu
  exact wpAny_pyNext_range_end hh hit (by rw[e];exact Ar.Z2 [.e .x0 .x1] (.E (.s (.c .x0) (.c .x1)) .n0) rfl hu) λh' hs'=>k h' λb o hb q=>hs' b o hb q
 |_=>exact aM ht
theorem uT(st:IS φ I v i a s.heap){Q:Value→Shared→Prop}(h:Q (.ref a) s):wpAny (model prog w) A (pyIter (.ref a)) Q E s:=by
 cases v with
 |ref n=>refine ay (st) λe he hit=>?_;exact wpAny_pyIter_listiter hit h
 |tup l=>refine ay (st) λt r hit=>?_;exact wpAny_pyIter_tupleiter hit h
 |bQ p q c=>refine dD (st) λl hl hit hle=>?_;exact wpAny_pyIter_rangeiter hit h
 |_=>exact st.elim
theorem Ext.kQ(x:Ext W φ₀ I₀ g φ I h)(hk:∀b o,b≠a→h.get? b=some o→h'.get? b=some o)(ha:g.get? a=none):Ext W φ₀ I₀ g φ I h':=by
 refine⟨λb q=>?_,λb o e f n=>hk b o (dC e ha) (x.keep b o e f n),x.Gu,x.jK,x.rZ⟩
 obtain⟨o,ho⟩:=Option.isSome_iff_exists.mp (x.alive b q)
 rw[hk b o (cH q ha) ho];rfl
theorem IS.ext(st:IS φ I v i a h)(x:Ext W φ I h φ' I' h')(hoff:Off φ a)(hW:¬ W a):IS φ' I' v i a h':=by
 have hk:∀o,h.get? a=some o→h'.get? a=some o:=λo q=>x.keep a o q hoff hW
 cases v with
 |ref n=>
  refine ay (st) λe he hit=>?_
  have:=(VR.ref (I:=I) n e he).ext x
  refine ay (this.cT) λe' he' q=>?_
  cases e;cases e';cases q
  exact⟨_,he',hit.at hk⟩
 |tup l=>obtain⟨t,r,o,ho,q⟩:=st;exact⟨t,r.ext x,o,hk o ho,q⟩
 |bQ p q c=>refine dD (st) λl hl hit hle=>?_;exact⟨l,hl,hk _ hit,hle⟩
 |_=>exact st.elim
end
end
section
open PySem PySem.W PyProof.Rows
structure vC (A:Around) (d:Nat):Prop where
 hn:A.handled=none
 dp:A.depth+4*d+4≤900
 un:A.units+20*d+300≤9000
structure vD (A:Around) (d:Nat):Prop where
 hn:A.handled=none
 dp:A.depth+4*d+2≤900
 un:A.units+20*d+290≤9000
theorem vC.c{A:Around}{d:Nat}(a:vC A d):vD A d:=⟨a.hn,by have:=a.dp;exact Ar.Z2 [.e (.a (.a .x0 (.m 4 .x1)) .n4) (.n 900)] (.e (.a (.a .x0 (.m 4 .x1)) .n2) (.n 900)) rfl this,by have:=a.un;exact Ar.Z2 [.e (.a (.a .x0 (.m 20 .x1)) (.n 300)) (.n 9000)] (.e (.a (.a .x0 (.m 20 .x1)) (.n 290)) (.n 9000)) rfl this⟩
theorem vC.u{A:Around}{d:Nat}(a:vC A d):A.units+64<cLine:=by have:=a.un;unfold cLine;exact Ar.Z2 [.e (.a (.a .x0 (.m 20 .x1)) (.n 300)) (.n 9000)] (.l (.a .x0 .ko) (.n 9900)) rfl this
theorem vD.deeper{A:Around}{d:Nat}(a:vD A (d+1))(env:Env):vC (A.deeper env) d:=
 ⟨a.hn,by have:=a.dp;show A.depth+1+_+_≤_;exact Ar.Z2 [.e (.a (.a .x0 (.m 4 (.a .x1 .n1))) .n2) (.n 900)] (.e (.a (.a (.a .x0 .n1) (.m 4 .x1)) .n4) (.n 900)) rfl this,by have:=a.un;show A.units+3+_+_≤_;exact Ar.Z2 [.e (.a (.a .x0 (.m 20 (.a .x1 .n1))) (.n 290)) (.n 9000)] (.e (.a (.a (.a .x0 .n3) (.m 20 .x1)) (.n 300)) (.n 9000)) rfl this⟩
theorem vC.make{A:Around}{d:Nat}(a:vC A d)(as:Args):vD (A.under (.builtin "type.__call__" as)) d:=by
 have hf:(Code.builtin "type.__call__" as).frames=0:=by rfl
 have hg:(Code.builtin "type.__call__" as).isGuard=false:=by rfl
 have hc:(Code.builtin "type.__call__" as).isCaller=false:=by rfl
 have h1:(Code.builtin "type.__call__" as).weight≤2:=by
  unfold Code.weight
  rw[hf,hg,hc]
  generalize(Code.builtin "type.__call__" as).isCreation=b
  cases b<;>decide
 have h2:(Code.builtin "type.__call__" as).cUnits≤7:=by show 1+3*(Code.builtin "type.__call__" as).frames≤7;rw[hf];decide
 exact⟨a.hn,by have:=a.dp;show A.depth+_+_+_≤_;exact Ar.Z3 [.e .x0 .n2,.e (.a (.a .x1 (.m 4 .x2)) .n4) (.n 900)] (.e (.a (.a (.a .x1 .x0) (.m 4 .x2)) .n2) (.n 900)) rfl h1 this,by have:=a.un;show A.units+_+_+_≤_;exact Ar.Z3 [.e .x0 .n7,.e (.a (.a .x1 (.m 20 .x2)) (.n 300)) (.n 9000)] (.e (.a (.a (.a .x1 .x0) (.m 20 .x2)) (.n 290)) (.n 9000)) rfl h2 this⟩
structure z6 (sc:Scope) (env:Env):Prop where
 loc:∀x,sc.names.lookup x=some .local→env.kindOf x=some .local
 KU:∀x,sc.names.lookup x=some .cell→env.kindOf x=some .cell
 NH:∀x,sc.names.lookup x=some .free→env.kindOf x=some .cell∨env.kindOf x=some .free
 aV:∀x,sc.names.lookup x=some .globalImplicit→env.kindOf x=some .globalImplicit
inductive Nd (B:PySem.Heap) (T:Tb) (a:Addr) (fn:Fn):Prop
 |mk (o:Obj) (fd:FuncData) (body:List Stmt) (ps:List Str) (G:List (Str×Nat)) (e1:B.get? a=some o) (e2:o.data=.func fd) (e3:B.CodeRec fd.code fd.qualname) (e4:fd.body=.stmts body) (e5:fd.closure=[]) (e6:fd.globals=mainGlobals) (e7:fd.builtins=builtinsNs)
  (e8:fd.scope.kind=.function) (e9:fd.scope.isCoroutine=false) (e10:fd.scope.isGenerator=false)
  (e11:ps.length=fn.params) (e12:ps.Nodup) (e13:∀vals:List Value,vals.length=ps.length→bindArgs fd ⟨vals,[]⟩=pure (ps.zip vals))
  (e14:∀x∈ps,fd.scope.names.lookup x=some .local∨(fd.scope.names.lookup x=some .cell))
  (e16:∀x k,look x G=some k→k<fn.params→ps[k]?=some x)
  (e17:(fd.scope.names.map (·.1)).Nodup) (e18:∀x∈fd.scope.names,x.2≠.free)
  (g:ku G) (e19:eP (cS T G 60 fd.scope) body=some fn.body):Nd B T a fn
structure GB (K:Frag) (B:PySem.Heap) (T:Tb) (a:Addr) (fn:Fn):Prop where
 keep:keepIn K (.ref a)=true
 ex:Nd B T a fn
inductive Ng (N:Nm) (B:PySem.Heap) (T:Tb) (P:Pg) (fa:Nat→Addr):Prop
 |mk (mg mb:Str→Option Value) (n1:B.Ns mainGlobals mg) (n2:B.Ns builtinsNs mb) (hF:∀x k,idx x T.fns=some k→mg x=some (.ref (fa k))) (hC:∀x k,idx x T.cls=some k→mg x=some (.ref (N.cls k)))
  (hG:∀x k v,idx x T.aV=some k→P.aV[k]?=some v→∃y,mg x=some y∧VR [] N.I0 v y)
  (bl:mg lY=none∧mb lY=some (.builtin "len")) (ba:mg lX=none∧mb lX=some (.builtin "abs"))
  (bx:mg lZ=none∧mb lZ=some (.builtin "max")) (bn:mg l7=none∧mb l7=some (.builtin "min"))
  (br:mg fj=none∧mb fj=some (.type "range")):Ng N B T P fa
structure Gd (K:Frag) (N:Nm) (B:PySem.Heap) (T:Tb) (P:Pg) (fa:Nat→Addr):Prop where
 X:K.In B
 good:N.good=gB K N.dM T.dM.length
 dM:∀k x,idx x T.dM=some k→N.dM k=x
 inj:∀i j,i<T.dM.length→N.dM i=N.dM j→i=j
 nm:∀i,i<T.dM.length→N.dM i∈N.names
 len:N.names.length≤1000
 lim:B.NoLimit
 KZ:∀x,(x∈T.fns∨x∈T.cls∨x∈T.aV)→(x==sI)=false
 ns:Ng N B T P fa
 fns:∀k fn,P.fns[k]?=some fn→GB K B T (fa k) fn
 cls:∀c f,P.F6[c]?=some f→makesIn K (N.cls c)=true∧keepIn K (.ref (N.cls c))=true∧findIn K (.ref (N.cls c)) "__init__" = some (some (.ref (fa f)))∧typeIn K (.ref (fa f))=some (.type "function")∧N.good (N.cls c)
theorem fT:∀{l:List Str} {x:Str} {k:Nat},idx x l=some k→k<l.length∧x∈l
 | [],_,_,h=>aM h
 |y::r,x,k,h=>j4 (show(if x=y then some 0 else(idx x r).map (·+1))=some k from h) (λe h=>aL (P:=λk=>k<(y::r).length∧x∈y::r) h ⟨Nat.succ_pos _,e▸.head _⟩)
   λ_ h=>a_ (P:=λk=>k<(y::r).length∧x∈y::r) h λj hj=>⟨Nat.succ_lt_succ (fT hj).1,.tail _ (fT hj).2⟩
end
section
open PySem PySem.W PyProof.Rows
structure Cx where
 prog:Program
 w:World
 K:Frag
 N:Nm
 B:PySem.Heap
 T:Tb
 P:Pg
 fa:Nat→Addr
 d:Nat
 G:List (Str×Nat)
noncomputable def Cx.F(c:Cx):Cf:=⟨ag c.P c.d,λk=>c.P.F6[k]?,λk=>c.P.aV[k]?⟩
noncomputable def Cx.Ok(c:Cx):Prop:=Gd c.K c.N c.B c.T c.P c.fa
inductive GC (Q:Value→Shared→Prop):Result→Shared→Prop
 |mk {y:Value} {s:Shared} (q:Q y s):GC Q (.ok (.ret y)) s
noncomputable def iM(c:Cx):Prop:=∀(f:Nat) (as:List V) (H:MH) (v:V) (H':MH),ag c.P c.d f as H=some (v,H')→∀(A:Around) (s:Shared) (φ:List Ent) (I:bR) (xs:List Value),
 vD A c.d→Inv c.N c.B φ I H s.heap→LR φ I as xs →
 codeAny (model c.prog c.w) A (.call (.ref (c.fa f)) ⟨xs,[]⟩) (GC (bS c.N c.B No s φ I v H')) s
structure At (c:Cx) (sc:Scope) (env:Env) (A:Around) (φ:List Ent) (I:bR) (H:MH) (ρ:Loc) (h:PySem.Heap):Prop where
 se:z6 sc env
 ao:vC A c.d
 vi:Inv c.N c.B φ I H h
 fr:iN c.B env c.G ρ φ I h
noncomputable def bg(c:Cx)(sc:Scope)(e:Expr)(e':E):Prop:=∀(env:Env) (A:Around) (s:Shared) (φ:List Ent) (I:bR) (H:MH) (ρ:Loc) (v:V) (H':MH),
 At c sc env A φ I H ρ s.heap→ar c.F e' ρ H=some (v,H')→wpAny (model c.prog c.w) A (eval e env) (bS c.N c.B No s φ I v H') no s
noncomputable def kx(c:Cx)(sc:Scope)(e:Expr)(e':E):Prop:=∀(env:Env) (A:Around) (s:Shared) (φ:List Ent) (I:bR) (H:MH) (ρ:Loc) (v:V) (H':MH) (b:Bool),
 At c sc env A φ I H ρ s.heap→ar c.F e' ρ H=some (v,H')→truth v H'=some b→wpAny (model c.prog c.w) A (isTrue e env (eval e env)) (cV c.N c.B No s φ I H' λ_ _ q=>q=b) no s
noncomputable def iy(c:Cx)(sc:Scope)(es:List Expr)(es':List E):Prop:=∀(pos:Pos) (env:Env) (A:Around) (s:Shared) (φ:List Ent) (I:bR) (H:MH) (ρ:Loc) (vs:List V) (H':MH),
 At c sc env A φ I H ρ s.heap→da c.F es' ρ H=some (vs,H')→wpAny (model c.prog c.w) A (spliced (backTo pos (starEach es env))) (cV c.N c.B No s φ I H' λφ I xs=>LR φ I vs xs) no s
section
variable {c:Cx} {sc sc':Scope} {e l r o i t:Expr} {e' l' r' o' i' t':E} {A:Around} {env:Env} {φ φ':List Ent} {I I':bR} {H H':MH} {ρ:Loc} {h h':PySem.Heap} {s:Shared} {v u:V} {x y z:Value} {pos:Pos} {W:Addr→Prop}
theorem At.ext(a:At c sc env A φ I H ρ h)(x:Ext No φ I h φ' I' h')(vi:Inv c.N c.B φ' I' H' h'):At c sc env A φ' I' H' ρ h':=⟨a.se,a.ao,vi,a.fr.ext x λ_ _ q=>q⟩
noncomputable def Eg(c:Cx)(A:Around)(env:Env)(s:Shared)(φ:List Ent)(I:bR)(e:Expr)(v:V)(H':MH):Prop:=wpAny (model c.prog c.w) A (eval e env) (bS c.N c.B No s φ I v H') no s
noncomputable def Tg(c:Cx)(A:Around)(env:Env)(s:Shared)(φ:List Ent)(I:bR)(e:Expr)(b:Bool)(H':MH):Prop:=wpAny (model c.prog c.w) A (isTrue e env (eval e env)) (cV c.N c.B No s φ I H' λ_ _ q=>q=b) no s
theorem r_{α:Type}{v:V}{f:Int→Option α}{q:α}{G:Prop}{P:V→Prop}(h:(match v with|.int i=>f i|_=>none)=some q)(p:P v)(k:∀i,P (.int i)→f i=some q→G):G:=by
 cases v<;>first|exact aM h|exact k _ p h
theorem sQ{α:Type}{v:V}{f:Nat→Option α}{q:α}{G:Prop}{P:V→Prop}(h:(match v with|.ref n=>f n|_=>none)=some q)(p:P v)(k:∀n,P (.ref n)→f n=some q→G):G:=by
 cases v<;>first|exact aM h|exact k _ p h
theorem Hr{α:Type}{v u:V}{f:Int→Int→Option α}{q:α}{G:Prop}{P Q:V→Prop}(h:(match v,u with|.int i,.int j=>f i j|_,_=>none)=some q)(p:P v)(p2:Q u)(k:∀i j,P (.int i)→Q (.int j)→f i j=some q→G):G:=by
 cases v<;>first|exact aM h|skip
 cases u<;>first|exact aM h|exact k _ _ p p2 h
theorem MK{α:Type}{v u:V}{f:Nat→Int→Option α}{q:α}{G:Prop}{P Q:V→Prop}(h:(match v,u with|.ref n,.int j=>f n j|_,_=>none)=some q)(p:P v)(p2:Q u)(k:∀i j,P (.ref i)→Q (.int j)→f i j=some q→G):G:=by
 cases v<;>first|exact aM h|skip
 cases u<;>first|exact aM h|exact k _ _ p p2 h
theorem KJ{α:Type}{v u:V}{f:List V→Int→Option α}{q:α}{G:Prop}{P Q:V→Prop}(h:(match v,u with|.ft n,.int j=>f n j|_,_=>none)=some q)(p:P v)(p2:Q u)(k:∀i j,P (.ft i)→Q (.int j)→f i j=some q→G):G:=by
 cases v<;>first|exact aM h|skip
 cases u<;>first|exact aM h|exact k _ _ p p2 h
theorem rK{k:Int}{kd}:bg c sc (.Constant (.int k) kd pos) (.c (.int k)):=λenv A s φ I H ρ v H' a h=>bP (P:=Eg c A env s φ I (.Constant (.int k) kd pos)) h (wpAny_Constant_int (cV.same a.vi (.int _ _)))
theorem pX{k:Bool}{kd}:bg c sc (.Constant (.bool k) kd pos) (.c (.bool k)):=λenv A s φ I H ρ v H' a h=>bP (P:=Eg c A env s φ I (.Constant (.bool k) kd pos)) h (wpAny_Constant_bool (cV.cy a.vi (.bool _)))
theorem pY{kd}:bg c sc (.Constant .none kd pos) (.c .bW):=λenv A s φ I H ρ v H' a h=>bP (P:=Eg c A env s φ I (.Constant .none kd pos)) h (wpAny_Constant_none (cV.cy a.vi .bW))
theorem Gz{b:Bool}(vi:Inv c.N c.B φ I H s.heap)(r:VR φ I v x)(ht:truth v H=some b){R:Bool→Shared→Prop}(k:∀tk,R b { s with toks:=tk }):wpAny (model c.prog c.w) A (truthy x) R no s:=
 wpAny_mono (vy vi r ht) (λ_ _ ⟨e1,tk,e2⟩=>by subst e1 e2;exact k tk) λ_ _ e=>e
theorem Iw{i:Int}{Q:Value→Shared→Prop}{E:Value→Shared→Prop}(r:VR φ I (.int i) x)(h:∀t tk,Q (.int (-i) t) { s with toks:=tk }):wpAny (model c.prog c.w) A (unaryOp .USub x) Q E s:=by
 obtain⟨t,rfl⟩:=r.b0
 exact PyProof.Rows.neg_int (h _ _)
theorem Ht{i:Int}{Q:Value→Shared→Prop}{E:Value→Shared→Prop}(r:VR φ I (.int i) x)(h:∀t tk,Q (.int (-i-1) t) { s with toks:=tk }):wpAny (model c.prog c.w) A (unaryOp .Invert x) Q E s:=by
 obtain⟨t,rfl⟩:=r.b0
 exact invert_int (h _ _)
theorem DX(hx:bg c sc e e'):bg c sc (.UnaryOp .USub e pos) (.neg e'):=λenv A s φ I H ρ v H' a h=>ak h λx H1 h1 h2=>r_ (P:=λv=>ar c.F e' ρ H=some (v,H1)) h2 h1 λi h1 h2=>bP (P:=Eg c A env s φ I (.UnaryOp .USub e pos)) h2
 (wpAny_UnaryOp (ah (hx env A s φ I H ρ _ _ a h1) λp φ1 I1 g1 t1 v1 x1 r1=>aH x1 (Iw r1 λt tk=>cV.same v1 (.int _ _))))
theorem DO(hx:bg c sc e e'):bg c sc (.UnaryOp .Invert e pos) (.inv e'):=λenv A s φ I H ρ v H' a h=>ak h λx H1 h1 h2=>r_ (P:=λv=>ar c.F e' ρ H=some (v,H1)) h2 h1 λi h1 h2=>bP (P:=Eg c A env s φ I (.UnaryOp .Invert e pos)) h2
 (wpAny_UnaryOp (ah (hx env A s φ I H ρ _ _ a h1) λp φ1 I1 g1 t1 v1 x1 r1=>aH x1 (Ht r1 λt tk=>cV.same v1 (.int _ _))))
theorem DY(hx:bg c sc e e'):bg c sc (.UnaryOp .Not e pos) (.not e'):=λenv A s φ I H ρ v H' a h=>ak h λx H1 h1 h2=>af h2 λb h3 h4=>bP (P:=Eg c A env s φ I (.UnaryOp .Not e pos)) h4
 (wpAny_UnaryOp (ah (hx env A s φ I H ρ _ _ a h1) λp φ1 I1 g1 t1 v1 x1 r1=>aH x1 (not_value (Gz v1 r1 h3 λtk=>cV.same v1 (.bool _)))))
theorem FE(hx:kx c sc e e'):kx c sc (.UnaryOp .Not e pos) (.not e'):=λenv A s φ I H ρ v H' b a h ht=>ak h λx H1 h1 h2=>af h2 λb1 h3 h4=>
 bP (P:=λv H'=>truth v H'=some b→Tg c A env s φ I (.UnaryOp .Not e pos) b H') h4 (λht=>aL (P:=λb=>Tg c A env s φ I (.UnaryOp .Not e pos) b H1) ht
  (wpAny_isTrue_Not (ah (hx env A s φ I H ρ _ _ _ a h1 h3) λp φ1 I1 g1 t1 v1 x1 r1=>.mk φ1 I1 g1 t1 v1 x1 (congrArg not r1)))) ht
theorem FF(hx:bg c sc e e')(he:∀env whole,isTrue e env whole=(do let v ← whole;standAt e.pos;holding [v] (truthy v))):kx c sc e e':=λenv A s φ I H ρ v H' b a h ht=>by
 refine wpAny_isTrue_value (ah (hx env A s φ I H ρ _ _ a h) λp φ1 I1 g1 t1 v1 x1 r1=>aH x1 ?_) (he _ _)
 exact Gz v1 r1 ht λtk=>cV.same v1 rfl
theorem DK{op:Operator}{o':Op}(hl:bg c sc l l')(hr:bg c sc r r')(ho:vB op=some o'):bg c sc (.BinOp l op r pos) (.b o' l' r'):=λenv A s φ I H ρ v H' a h=>ak h λx H1 h1 h=>ak h λy H2 h2 h3=>
 wpAny_BinOp (ah (hl env A s φ I H ρ _ _ a h1) λp φ1 I1 g1 t1 v1 x1 r1=>ah (hr env A _ φ1 I1 H1 ρ _ _ (a.ext x1 v1) h2) λq φ2 I2 g2 t2 v2 x2 r2=>aH (x1.trans x2) (Dm v2 ho (r1.ext x2) r2 h3))
theorem DM{op:CmpOp}{o':Cm}(hl:bg c sc l l')(hr:bg c sc r r')(ho:v_ op=some o')(hm:behindInMarks op r=false):bg c sc (.Compare l [op] [r] pos) (.cmp o' l' r'):=λenv A s φ I H ρ v H' a h=>
 ak h λx H1 h1 h=>ak h λy H2 h2 h3=>af h3 λb h5 h4=>bP (P:=Eg c A env s φ I (.Compare l [op] [r] pos)) h4
 (wpAny_Compare1 (ah (hl env A s φ I H ρ _ _ a h1) λp φ1 I1 g1 t1 v1 x1 r1=>ah (hr env A _ φ1 I1 H1 ρ _ _ (a.ext x1 v1) h2) λq φ2 I2 g2 t2 v2 x2 r2=>aH (x1.trans x2) (nZ v2 a.ao.u ho (r1.ext x2) r2 h5)) hm)
theorem rG{op:CmpOp}{o':Cm}{b:Bool}{R:Bool→Shared→Prop}(vi:Inv c.N c.B φ I H s.heap)(hu:A.units+64<cLine)(ho:v_ op=some o')(ra:VR φ I u x)(rb:VR φ I v y)(hb:cX o' u v H=some b)
  (k:∀φ1 I1 h1 tk,Inv c.N c.B φ1 I1 H h1→Ext No φ I s.heap φ1 I1 h1→R b { s with heap:=h1,toks:=tk }):wpAny (model c.prog c.w) A (compareOp op x y) (λp=>wpAny (model c.prog c.w) A (truthy p) R no) no s:=
 ah (nZ (W:=No) vi hu ho ra rb hb) λp φ3 I3 g3 t3 v3 x3 r3=>Gz v3 r3 rfl λtk=>k φ3 I3 g3 tk v3 x3
theorem FC{op:CmpOp}{o':Cm}(hl:bg c sc l l')(hr:bg c sc r r')(ho:v_ op=some o')(hm:behindInMarks op r=false):kx c sc (.Compare l [op] [r] pos) (.cmp o' l' r'):=λenv A s φ I H ρ v H' b a h ht=>
 ak h λx H1 h1 h=>ak h λy H2 h2 h3=>af h3 λb1 h5 h4=>bP (P:=λv H'=>truth v H'=some b→Tg c A env s φ I (.Compare l [op] [r] pos) b H') h4 (λht=>aL (P:=λb=>Tg c A env s φ I (.Compare l [op] [r] pos) b H2) ht
  (wpAny_isTrue_Compare1 (ah (hl env A s φ I H ρ _ _ a h1) λp φ1 I1 g1 t1 v1 x1 r1=>ah (hr env A _ φ1 I1 H1 ρ _ _ (a.ext x1 v1) h2) λq φ2 I2 g2 t2 v2 x2 r2=>
   rG v2 a.ao.u ho (r1.ext x2) r2 h5 λφ3 I3 g3 tk v3 x3=>.mk φ3 I3 g3 tk v3 ((x1.trans x2).trans x3) rfl) hm)) ht
theorem wF{op op2:CmpOp}{o1 o2:Cm}{m:Expr}{m':E}(hl:bg c sc l l')(hmm:bg c sc m m')(hr:bg c sc r r')(ho:v_ op=some o1)(ho2:v_ op2=some o2)(hm:behindInMarks op2 r=false) :
  bg c sc (.Compare l [op,op2] [m,r] pos) (.chain o1 o2 l' m' r'):=λenv A s φ I H ρ v H' a h=>by
 refine ak h λx H1 h1 h=>ak h λy H2 h2 h=>af h λb h3 h=>?_
 refine Compare_chain (ah (hl env A s φ I H ρ _ _ a h1) λp φ1 I1 g1 t1 v1 x1 r1=>chain_link ?_) hm
 refine ah (hmm env A _ φ1 I1 H1 ρ _ _ (a.ext x1 v1) h2) λq φ2 I2 g2 t2 v2 x2 r2=>?_
 refine ah (nZ (W:=No) v2 a.ao.u ho (r1.ext x2) r2 h3) λq3 φ3 I3 g3 t3 v3 x3 r3=>Gz v3 r3 rfl λtk=>?_
 have x3':=(x1.trans x2).trans x3
 cases b with
 |false=>exact bP (P:=λv H'=>bS c.N c.B No s φ I v H' q3 { s with heap:=g3,toks:=tk }) h (cV.after (tk:=t3) x3' (cV.same v3 r3))
 |true=>
  refine ak (show(ar c.F r' ρ H2).bind _=some (v,H')from h) λz H3 h4 h=>af h λb2 h5 h6=>chain_last ?_
  exact ah (hr env A _ φ3 I3 H2 ρ _ _ (a.ext x3' v3) h4) λq4 φ4 I4 g4 t4 v4 x4 r4=>aH (x3'.trans x4) (bP (P:=λv H'=>wpAny (model c.prog c.w) A (compareOp op2 q q4) (bS c.N c.B No { s with heap:=g4,toks:=t4 } φ4 I4 v H') no { s with heap:=g4,toks:=t4 }) h6 (nZ v4 a.ao.u ho2 ((r2.ext x3).ext x4) r4 h5))
theorem zL{op op2:CmpOp}{o1 o2:Cm}{m:Expr}{m':E}(hl:bg c sc l l')(hmm:bg c sc m m')(hr:bg c sc r r')(ho:v_ op=some o1)(ho2:v_ op2=some o2)(hm:behindInMarks op2 r=false) :
  kx c sc (.Compare l [op,op2] [m,r] pos) (.chain o1 o2 l' m' r'):=λenv A s φ I H ρ v H' bb a h ht=>by
 refine ak h λx H1 h1 h=>ak h λy H2 h2 h=>af h λb h3 h=>?_
 refine isTrue_chain (ah (hl env A s φ I H ρ _ _ a h1) λp φ1 I1 g1 t1 v1 x1 r1=>test_link ?_) hm
 refine ah (hmm env A _ φ1 I1 H1 ρ _ _ (a.ext x1 v1) h2) λq φ2 I2 g2 t2 v2 x2 r2=>rG v2 a.ao.u ho (r1.ext x2) r2 h3 λφ3 I3 g3 tk v3 x3=>?_
 have x3':=(x1.trans x2).trans x3
 cases b with
 |false=>exact .mk φ3 I3 g3 tk (bP (P:=λ_ H'=>Inv c.N c.B φ3 I3 H' g3) h v3) x3' (bP (P:=λv H'=>truth v H'=some bb→false=bb) h Option.some.inj ht)
 |true=>
  refine ak (show(ar c.F r' ρ H2).bind _=some (v,H')from h) λz H3 h4 h=>af h λb2 h5 h6=>test_last ?_
  refine ah (hr env A _ φ3 I3 H2 ρ _ _ (a.ext x3' v3) h4) λq4 φ4 I4 g4 t4 v4 x4 r4=>rG v4 a.ao.u ho2 ((r2.ext x3).ext x4) r4 h5 λφ5 I5 g5 tk v5 x5=>?_
  exact .mk φ5 I5 g5 tk (bP (P:=λ_ H'=>Inv c.N c.B φ5 I5 H' g5) h6 v5) ((x3'.trans x4).trans x5) (bP (P:=λv H'=>truth v H'=some bb→b2=bb) h6 Option.some.inj ht)
theorem DP(ht:kx c sc t t')(hl:bg c sc l l')(hr:bg c sc r r'):bg c sc (.IfExp t l r pos) (.ite t' l' r'):=λenv A s φ I H ρ v H' a h=>by
 refine ak h λx H1 h1 h=>af h λb h2 h=>?_
 refine wpAny_IfExp (ah (ht env A s φ I H ρ _ _ _ a h1 h2) λp φ1 I1 g1 t1 v1 x1 r1=>?_)
 rw[r1]
 cases b with
 |true=>exact aH x1 (hl env A _ φ1 I1 H1 ρ _ _ (a.ext x1 v1) h)
 |false=>exact aH x1 (hr env A _ φ1 I1 H1 ρ _ _ (a.ext x1 v1) h)
theorem FD(ht:kx c sc t t')(hl:kx c sc l l')(hr:kx c sc r r'):kx c sc (.IfExp t l r pos) (.ite t' l' r'):=λenv A s φ I H ρ v H' bb a h hb=>by
 refine ak h λx H1 h1 h=>af h λb h2 h=>?_
 refine isTrue_IfExp (ah (ht env A s φ I H ρ _ _ _ a h1 h2) λp φ1 I1 g1 t1 v1 x1 r1=>?_)
 rw[r1]
 cases b with
 |true=>exact aH x1 (hl env A _ φ1 I1 H1 ρ _ _ _ (a.ext x1 v1) h hb)
 |false=>exact aH x1 (hr env A _ φ1 I1 H1 ρ _ _ _ (a.ext x1 v1) h hb)
noncomputable def zX(c:Cx)(sc:Scope)(op:BoolOp)(es:List Expr)(e':E):Prop:=(∀(pos:Pos) (env:Env) (A:Around) (s:Shared) (φ:List Ent) (I:bR) (H:MH) (ρ:Loc) (v:V) (H':MH),
  At c sc env A φ I H ρ s.heap→ar c.F e' ρ H=some (v,H')→wpAny (model c.prog c.w) A (boolOp pos op (evalEach es env)) (bS c.N c.B No s φ I v H') no s)
 ∧ ∀(env:Env) (A:Around) (s:Shared) (φ:List Ent) (I:bR) (H:MH) (ρ:Loc) (v:V) (H':MH) (b:Bool),
  At c sc env A φ I H ρ s.heap→ar c.F e' ρ H=some (v,H')→truth v H'=some b→wpAny (model c.prog c.w) A (allTrue op es env) (cV c.N c.B No s φ I H' λ_ _ q=>q=b) no s
theorem Ak{op:BoolOp}(hx:bg c sc e e')(ht:kx c sc e e'):zX c sc op [e] e':=by
 refine⟨λpos env A s φ I H ρ v H' a h=>hx env A s φ I H ρ v H' a h,λenv A s φ I H ρ v H' b a h hb=>?_⟩
 cases op with
 |And=>
  refine wpAny_allTrue_And_cons (ah (ht env A s φ I H ρ _ _ _ a h hb) λp φ1 I1 g1 t1 v1 x1 r1=>?_)
  cases p with
  |true=>exact wpAny_allTrue_And_nil (.mk φ1 I1 g1 t1 v1 x1 r1)
  |false=>exact .mk φ1 I1 g1 t1 v1 x1 r1
 |Or=>
  refine wpAny_allTrue_Or_cons (ah (ht env A s φ I H ρ _ _ _ a h hb) λp φ1 I1 g1 t1 v1 x1 r1=>?_)
  cases p with
  |true=>exact .mk φ1 I1 g1 t1 v1 x1 r1
  |false=>exact wpAny_allTrue_Or_nil (.mk φ1 I1 g1 t1 v1 x1 r1)
theorem Ds{e2:Expr}{es:List Expr}(hx:bg c sc e e')(ht:kx c sc e e')(hr:zX c sc .And (e2::es) r'):zX c sc .And (e::e2::es) (.and e' r'):=by
 refine⟨λpos env A s φ I H ρ v H' a h=>ak h λx H1 h1 h=>af h λb1 h2 h=>?_,λenv A s φ I H ρ v H' b a h hb=>ak h λx H1 h1 h=>af h λb1 h2 h=>?_⟩
 ·show wpAny _ _ (do
   let v ← eval e env
   standAt pos
   let t ← holding [v] (truthy v)
   match BoolOp.And,t with
   |.And,false|.Or,true=>pure v
   |_,_=>boolOp pos .And (evalEach (e2::es) env)) _ _ _
  refine wpAny_bind (ah (hx env A s φ I H ρ _ _ a h1) λp φ1 I1 g1 t1 v1 x1 r1=>wpAny_bind (wpAny_standAt (wpAny_bind (wpAny_holding (Gz v1 r1 h2 λtk=>?_)))))
  cases b1 with
  |false=>exact wpAny_pure (bP (P:=λv H'=>bS c.N c.B No s φ I v H' p { s with heap:=g1,toks:=tk }) h (cV.after (tk:=t1) x1 (cV.same v1 r1)))
  |true=>exact aH (tk:=tk) x1 (hr.1 pos env A _ φ1 I1 H1 ρ _ _ (a.ext x1 v1) h)
 ·refine wpAny_allTrue_And_cons (ah (ht env A s φ I H ρ _ _ _ a h1 h2) λp φ1 I1 g1 t1 v1 x1 r1=>?_)
  rw[r1]
  cases b1 with
  |false=>exact bP (P:=λv H'=>truth v H'=some b→cV c.N c.B No s φ I H' (λ_ _ q=>q=b) false { s with heap:=g1,toks:=t1 }) h (λhb=>.mk φ1 I1 g1 t1 v1 x1 (Option.some.inj (h2.symm.trans hb))) hb
  |true=>exact aH (tk:=t1) x1 (hr.2 env A _ φ1 I1 H1 ρ _ _ _ (a.ext x1 v1) h hb)
theorem GO{e2:Expr}{es:List Expr}(hx:bg c sc e e')(ht:kx c sc e e')(hr:zX c sc .Or (e2::es) r'):zX c sc .Or (e::e2::es) (.or e' r'):=by
 refine⟨λpos env A s φ I H ρ v H' a h=>ak h λx H1 h1 h=>af h λb1 h2 h=>?_,λenv A s φ I H ρ v H' b a h hb=>ak h λx H1 h1 h=>af h λb1 h2 h=>?_⟩
 ·show wpAny _ _ (do
   let v ← eval e env
   standAt pos
   let t ← holding [v] (truthy v)
   match BoolOp.Or,t with
   |.And,false|.Or,true=>pure v
   |_,_=>boolOp pos .Or (evalEach (e2::es) env)) _ _ _
  refine wpAny_bind (ah (hx env A s φ I H ρ _ _ a h1) λp φ1 I1 g1 t1 v1 x1 r1=>wpAny_bind (wpAny_standAt (wpAny_bind (wpAny_holding (Gz v1 r1 h2 λtk=>?_)))))
  cases b1 with
  |false=>exact aH (tk:=tk) x1 (hr.1 pos env A _ φ1 I1 H1 ρ _ _ (a.ext x1 v1) h)
  |true=>exact wpAny_pure (bP (P:=λv H'=>bS c.N c.B No s φ I v H' p { s with heap:=g1,toks:=tk }) h (cV.after (tk:=t1) x1 (cV.same v1 r1)))
 ·refine wpAny_allTrue_Or_cons (ah (ht env A s φ I H ρ _ _ _ a h1 h2) λp φ1 I1 g1 t1 v1 x1 r1=>?_)
  rw[r1]
  cases b1 with
  |false=>exact aH (tk:=t1) x1 (hr.2 env A _ φ1 I1 H1 ρ _ _ _ (a.ext x1 v1) h hb)
  |true=>exact bP (P:=λv H'=>truth v H'=some b→cV c.N c.B No s φ I H' (λ_ _ q=>q=b) true { s with heap:=g1,toks:=t1 }) h (λhb=>.mk φ1 I1 g1 t1 v1 x1 (Option.some.inj (h2.symm.trans hb))) hb
theorem G6{op:BoolOp}{es:List Expr}(hb:zX c sc op es e'):bg c sc (.BoolOp op es pos) e':=λenv A s φ I H ρ v H' a h=>hb.1 pos env A s φ I H ρ v H' a h
theorem Je{op:BoolOp}{es:List Expr}(hb:zX c sc op es e'):kx c sc (.BoolOp op es pos) e':=λenv A s φ I H ρ v H' b a h ht=>wpAny_isTrue_BoolOp (hb.2 env A s φ I H ρ v H' b a h ht)
theorem DR{x:Str}{k:Nat}(g:ku c.G)(hl:lH (sc.names.lookup x)=true)(hk:look x c.G=some k):bg c sc (.Name x pos) (.l k):=λenv A s φ I H ρ v H' a h=>af h λu h1 h2=>
 bP (P:=Eg c A env s φ I (.Name x pos)) h2 (wpAny_Name (CS a.fr g hk ((qe hl).elim (λq=>a.se.loc x q▸rfl) λq=>q.elim (λq=>a.se.KU x q▸rfl) λq=>(a.se.NH x q).elim (λq=>q▸rfl) λq=>q▸rfl) h1 λy r=>cV.cy a.vi r) (oQ (g.ok x k hk)))
theorem jg{sc:Scope}{x:Str}(hg:dR (sc.names.lookup x)=true):sc.names.lookup x=some .globalImplicit:=by
 revert hg
 cases sc.names.lookup x with
 |none=>intro h;exact bY h
 |some n=>cases n<;>intro h<;>first|rfl|exact bY h
end
end
section
open PySem PySem.W PyProof.Rows
section
variable {c:Cx} {sc sc':Scope} {e l r o i t:Expr} {e' l' r' o' i' t':E} {A:Around} {env:Env} {φ φ':List Ent} {I I':bR} {H H':MH} {ρ:Loc} {h h':PySem.Heap} {s:Shared} {v u:V} {x y z:Value} {pos:Pos} {W:Addr→Prop} {es:List Expr} {es':List E}
theorem dI(hs:isStar e=false)(rest:List Expr)(env:Env):starEach (e::rest) env=(false,eval e env)::starEach rest env:=by
 cases e<;>first|rfl|exact pF hs
noncomputable def Sg(c:Cx)(A:Around)(env:Env)(s:Shared)(φ:List Ent)(I:bR)(pos:Pos)(es:List Expr)(vs:List V)(H':MH):Prop:=wpAny (model c.prog c.w) A (spliced (backTo pos (starEach es env))) (cV c.N c.B No s φ I H' λφ I xs=>LR φ I vs xs) no s
theorem oe:iy c sc [] []:=λpos env A s φ I H ρ vs H' a h=>bP (P:=Sg c A env s φ I pos []) h (wpAny_items_nil (cV.cy a.vi .nil))
theorem iY(hs:isStar e=false)(he:bg c sc e e')(hr:iy c sc es es'):iy c sc (e::es) (e'::es'):=λpos env A s φ I H ρ vs H' a h=>ak h λx H1 h1 h=>ak h λq H2 h2 h3=>bP (P:=Sg c A env s φ I pos (e::es)) h3
 (wpAny_items_cons (ah (he env A s φ I H ρ _ _ a h1) λp φ1 I1 g1 t1 v1 x1 r1=>ah (hr pos env A _ φ1 I1 H1 ρ _ _ (a.ext x1 v1) h2) λq φ2 I2 g2 t2 v2 x2 r2=>.mk φ2 I2 g2 t2 v2 (x1.trans x2) (.cons (r1.ext x2) r2)) (dI hs _ _))
theorem tA{F:Cf}:∀(es':List E) (H:MH) (vs:List V) (H':MH),da F es' ρ H=some (vs,H')→vs.length=es'.length
 | [],_,_,_,h=>bP (P:=λvs _=>vs.length=0) h rfl
 |_::r,_,_,_,h=>ak h λx H1 h1 h=>ak h λq H2 h2 h3=>bP (P:=λvs _=>vs.length=r.length+1) h3 (congrArg (·+1) (tA r _ _ _ h2))
theorem wJ{F:Cf}{vs:List V}(hl:es'.length≤1000)(h:da F es' ρ H=some (vs,H')):vs.length≤1000000:=(tA _ _ _ _ h)▸Nat.le_trans hl (by decide)
theorem D1{k:Nat}(he:iy c sc es es')(hl:es'.length≤1000):bg c sc (.Tuple es k pos) (.tup es'):=λenv A s φ I H ρ v H' a h=>ak h λx H1 h1 h2=>bP (P:=Eg c A env s φ I (.Tuple es k pos)) h2
 (Tuple_ (ah (he pos env A s φ I H ρ _ _ a h1) λp φ1 I1 g1 t1 v1 x1 r1=>aH x1 (qF v1 r1 (wJ hl h1))))
theorem DU(he:iy c sc es es')(hl:es'.length≤1000):bg c sc (.List es pos) (.lst es'):=λenv A s φ I H ρ v H' a h=>ak h λx H1 h1 h2=>bP (P:=Eg c A env s φ I (.List es pos)) h2
 (List_ (ah (he pos env A s φ I H ρ _ _ a h1) λp φ1 I1 g1 t1 v1 x1 r1=>aH x1 (sJ v1 r1 (wJ hl h1))))
theorem AQ{nm:Str}{k:Nat}(ok:c.Ok)(ho:bg c sc o o')(hc:isCall o=false)(hk:idx nm c.T.dM=some k):bg c sc (.Attribute o nm pos) (.attr o' k):=λenv A s φ I H ρ v H' a h=>ak h λx H1 h1 h2=>af h2 λu h3 h4=>bP (P:=Eg c A env s φ I (.Attribute o nm pos)) h4
 (Attribute_any_ (ah (ho env A s φ I H ρ _ _ a h1) λp φ1 I1 g1 t1 v1 x1 r1=>aH x1 (by rw[← ok.dM k nm hk];exact s9 v1 ok.good ok.X (fT hk).1 r1 h3)) (by cases o<;>first|(with_unfolding_all rfl)|exact pF hc))
theorem D0(ho:bg c sc o o')(hi:bg c sc i i')(hs:∀l u st p,i≠.Slice l u st p):bg c sc (.Subscript o i pos) (.sub o' i'):=λenv A s φ I H ρ v H' a h=>ak h λx H1 h1 h=>ak h λy H2 h2 h=>af h λu h3 h4=>bP (P:=Eg c A env s φ I (.Subscript o i pos)) h4
 (Subscript_ (ah (ho env A s φ I H ρ _ _ a h1) λp φ1 I1 g1 t1 v1 x1 r1=>ah (hi env A _ φ1 I1 H1 ρ _ _ (a.ext x1 v1) h2) λq φ2 I2 g2 t2 v2 x2 r2=>aH (x1.trans x2) (zH v2 (r1.ext x2) r2 h3 hs).2))
theorem mu{q:Addr}{items:Array Value}{l2:List V}{va vb:Value}{lo hi:Option Int}{value:Expr}{oa ob:Option Expr}{p:Pos}{g:PySem.Heap}{tk:Nat}{φ1:List Ent}{I1:bR}
  (xx:Ext No φ I s.heap φ1 I1 g) (vi:Inv c.N c.B φ1 I1 H g) (hl:g.IsList q items) (hz:items.size≤1000000) (pl:IsPart va lo) (pu:IsPart vb hi) (r:LR φ1 I1 l2 (slicePick items lo hi none).toList) :
  wpAny (model c.prog c.w) A (subscriptTail value (.Slice oa ob none p) (.ref q) (.ref g.objs.size)) (bS c.N c.B No s φ I (.ref H.length) (H++[.lst l2])) no { s with heap:=g.push { cls:=.type "slice",data:=.fields #[va,vb,.none] },toks:=tk }:=by
 have hk:∀b o,g.get? b=some o→(g.push { cls:=.type "slice",data:=.fields #[va,vb,.none] }).get? b=some o:=λb o e=>Heap.get?_push_of_some _ e
 have hl':({ s with heap:=g.push { cls:=.type "slice",data:=.fields #[va,vb,.none] },toks:=tk }:Shared).heap.IsList q items:=by refine ay (hl) λo h1 h2=>?_;exact⟨o,hk _ _ h1,h2⟩
 refine tail_any (ops:=[.ref g.objs.size,.ref q]) hl'.typeIs slot_list_getitem.lookup ?_ rfl
 refine wpAny_getItem_list_slice (st:=none) hl' (Heap.IsSliceOf.new g va vb .none) pl pu .none (by decide) ?_ (by rw[sizeLine_eq];exact Ar.Z1 [.e .x0 .av] (.e .x0 (.n 16777216)) rfl hz)
 exact cV.after (s:=s) (tk:=tk) (xx.trans (Ext.keeps hk)) (ny (vi.keeps hk) rfl r)
theorem hU:IsPart .none none:=.none
theorem part_of{k:Int}(r:VR φ I (.int k) x):IsPart x (some k):=by
 obtain⟨t,rfl⟩:=r.b0
 exact .int _ _
theorem vq{l l2:List V}{va vb:Value}{lo hi:Option Int}{value:Expr}{oa ob:Option Expr}{p:Pos}{g:PySem.Heap}{tk:Nat}{φ1:List Ent}{I1:bR}
  (xx:Ext No φ I s.heap φ1 I1 g) (vi:Inv c.N c.B φ1 I1 H g) (r1:VR φ1 I1 (.ft l) x) (hr:aI l.length=true) (pl:IsPart va lo) (pu:IsPart vb hi) (r:∀items:Array Value,LR φ1 I1 l items.toList→LR φ1 I1 l2 (slicePick items lo hi none).toList) :
  wpAny (model c.prog c.w) A (subscriptTail value (.Slice oa ob none p) x (.ref g.objs.size)) (bS c.N c.B No s φ I (.ref H.length) (H++[.lst l2])) no { s with heap:=g.push { cls:=.type "slice",data:=.fields #[va,vb,.none] },toks:=tk }:=by
 cases r1 with
 |ft l a o items n hm hc hd hl hv=>exact mu xx vi ⟨o,vi.jK _ hm,hc,n,hd⟩ (hl▸dH hr) pl pu (r items ⟨hl.trans Array.length_toList.symm,λi v x h1 h2=>hv i v x h1 (Array.getElem?_toList.symm.trans h2)⟩)
theorem nK{n:Nat}{l l2:List V}{va vb:Value}{lo hi:Option Int}{value:Expr}{oa ob:Option Expr}{p:Pos}{g:PySem.Heap}{tk:Nat}{φ1:List Ent}{I1:bR}
  (xx:Ext No φ I s.heap φ1 I1 g) (vi:Inv c.N c.B φ1 I1 H g) (r1:VR φ1 I1 (.ref n) x) (hl:aj H n=some l) (hr:aI l.length=true) (pl:IsPart va lo) (pu:IsPart vb hi) (r:∀items:Array Value,LR φ1 I1 l items.toList→LR φ1 I1 l2 (slicePick items lo hi none).toList) :
  wpAny (model c.prog c.w) A (subscriptTail value (.Slice oa ob none p) x (.ref g.objs.size)) (bS c.N c.B No s φ I (.ref H.length) (H++[.lst l2])) no { s with heap:=g.push { cls:=.type "slice",data:=.fields #[va,vb,.none] },toks:=tk }:=
 ay r1.cT λe he f=>cQ (cI vi he hl).2 λitems m p1 q1=>f▸mu xx vi p1.isList (q1.size▸dH hr) pl pu (r items q1)
theorem wH{p:Pos}(ho:bg c sc o o'):bg c sc (.Subscript o (.Slice none none none p) pos) (.qP o'):=λenv A s φ I H ρ v H' a h=>ak h λx H1 h1 h2=>sQ (P:=λv=>ar c.F o' ρ H=some (v,H1)) h2 h1 λn h1 h2=>af h2 λl h3 h4=>aZ h4 λhr h4=>
 bP (P:=Eg c A env s φ I (.Subscript o (.Slice none none none p) pos)) h4 (Subscript_ (ah (ho env A s φ I H ρ _ _ a h1) λp φ1 I1 g1 t1 v1 x1 r1=>wpAny_Slice (wpAny_evalPart_none (wpAny_evalPart_none (wpAny_evalPart_none
  (nK x1 v1 r1 h3 hr hU hU λitems q1=>by rw[slicePick_all];exact q1))))))
theorem C3{k:Int}(h:jh k=true):∃k':Nat,k=k':=⟨k.toNat,(Int.toNat_of_nonneg (oj h).1).symm⟩
theorem wI{p:Pos}(ho:bg c sc o o')(hi:bg c sc i i'):bg c sc (.Subscript o (.Slice (some i) none none p) pos) (.jv o' i'):=λenv A s φ I H ρ v H' a h=>ak h λx H1 h1 h2=>ak h2 λy H2 h3 h2=>
 MK (P:=λv=>ar c.F o' ρ H=some (v,H1)) (Q:=λv=>ar c.F i' ρ H1=some (v,H2)) h2 h1 h3 λn k h1 h3 h2=>aZ h2 λhk h2=>af h2 λl h5 h4=>aZ h4 λhr h4=>bP (P:=Eg c A env s φ I (.Subscript o (.Slice (some i) none none p) pos)) h4
 (Subscript_ (ah (ho env A s φ I H ρ _ _ a h1) λp φ1 I1 g1 t1 v1 x1 r1=>wpAny_Slice (wpAny_evalPart_some (ah (hi env A _ φ1 I1 H1 ρ _ _ (a.ext x1 v1) h3) λq φ2 I2 g2 t2 v2 x2 r2=>wpAny_evalPart_none (wpAny_evalPart_none
  (nK (x1.trans x2) v2 (r1.ext x2) h5 hr (part_of r2) hU λitems q1=>by
   obtain⟨k',rfl⟩:=C3 hk
   rw[slicePick_from',List.toList_toArray]
   exact q1.drop k'))))))
theorem DZ{p:Pos}(ho:bg c sc o o')(hi:bg c sc i i'):bg c sc (.Subscript o (.Slice none (some i) none p) pos) (.qZ o' i'):=λenv A s φ I H ρ v H' a h=>ak h λx H1 h1 h2=>ak h2 λy H2 h3 h2=>
 KJ (P:=λv=>ar c.F o' ρ H=some (v,H1)) (Q:=λv=>ar c.F i' ρ H1=some (v,H2)) h2 h1 h3 λl k h1 h3 h2=>aZ h2 λhk h4=>bP (P:=Eg c A env s φ I (.Subscript o (.Slice none (some i) none p) pos)) h4
 (Subscript_ (ah (ho env A s φ I H ρ _ _ a h1) λp φ1 I1 g1 t1 v1 x1 r1=>wpAny_Slice (wpAny_evalPart_none (wpAny_evalPart_some (ah (hi env A _ φ1 I1 H1 ρ _ _ (a.ext x1 v1) h3) λq φ2 I2 g2 t2 v2 x2 r2=>wpAny_evalPart_none
  (vq (x1.trans x2) v2 (r1.ext x2) (iz hk) hU (part_of r2) λitems q1=>by
   obtain⟨k',rfl⟩:=C3 (fe hk)
   rw[slicePick_upto',List.toList_toArray]
   exact q1.take k'))))))
end
end
section
open PySem PySem.W PyProof.Rows
section
variable {c:Cx} {sc sc':Scope} {e l r o i t:Expr} {e' l' r' o' i' t':E} {A:Around} {env:Env} {φ φ':List Ent} {I I':bR} {H H':MH} {ρ:Loc} {h h':PySem.Heap} {s:Shared} {v u:V} {x y z:Value} {pos p0:Pos} {W:Addr→Prop} {es:List Expr} {es':List E}
theorem uo:∀(es:List Expr) (env:Env) (pos:Pos),es.any isStar=false→(backTo pos (starEach es env)).any (·.1)=false
 | [],_,_,_=>rfl
 |e::r,env,pos,h=>by
  rw[List.any_cons,Bool.or_eq_false_iff]at h
  rw[dI h.1]
  have:=uo r env pos h.2
  simpa[backTo]using this
theorem pI{f:Addr}{vs:List V}(ok:c.Ok)(hk:keepIn c.K (.ref f)=true)(ha:iy c sc es es')(hl:es'.length=es.length)(hs:es.any isStar=false)(a:At c sc env A φ I H ρ s.heap)(he:da c.F es' ρ H=some (vs,H'))
  {Q:Value→Shared→Prop} (h:∀xs φ1 I1 h1 tk,Inv c.N c.B φ1 I1 H' h1→Ext No φ I s.heap φ1 I1 h1→LR φ1 I1 vs xs→wpAny (model c.prog c.w) A (call (.ref f) xs) Q no { s with heap:=h1,toks:=tk }) :
  wpAny (model c.prog c.w) A (callWith pos (.ref f) [] (backTo pos (starEach es env)) []) Q no s:=by
 have w:=ha pos env A s φ I H ρ vs H' a he
 cases es with
 |nil=>
  refine callWith_K0 (ok.X.keeps a.vi.base) hk ?_
  cases es' with
  |nil=>cases he;exact h [] φ I s.heap s.toks a.vi (.refl ..) .nil
  |cons q r=>cases hl
 |cons e r=>
  have hs':=hs
  rw[List.any_cons,Bool.or_eq_false_iff]at hs'
  refine callWith_K (h₀:=c.B) ok.X hk (ah w λxs φ1 I1 g1 t1 v1 x1 r1=>⟨ok.X.keeps v1.base,?_⟩) (dI hs'.1 _ _) (uo _ _ _ hs'.2)
  exact h xs φ1 I1 g1 t1 v1 x1 r1
theorem s_{id:String}{vs:List V}(ha:iy c sc es es')(hl:es'.length=es.length)(hs:es.any isStar=false)(a:At c sc env A φ I H ρ s.heap)(he:da c.F es' ρ H=some (vs,H'))
  {Q:Value→Shared→Prop} (first:List Value) (h:∀xs φ1 I1 h1 tk,Inv c.N c.B φ1 I1 H' h1→Ext No φ I s.heap φ1 I1 h1→LR φ1 I1 vs xs→wpAny (model c.prog c.w) A (call (.builtin id) (first++xs)) Q no { s with heap:=h1,toks:=tk }) :
  wpAny (model c.prog c.w) A (callWith pos (.builtin id) first (backTo pos (starEach es env)) []) Q no s:=by
 have w:=ha pos env A s φ I H ρ vs H' a he
 refine Calls.callWith_builtin (uo _ _ _ hs) ?_
 cases es with
 |nil=>
  cases es' with
  |nil=>cases he;exact PySem.evalArgs_none (h [] φ I s.heap s.toks a.vi (.refl ..) .nil)
  |cons q r=>cases hl
 |cons e r=>
  have hs':=hs
  rw[List.any_cons,Bool.or_eq_false_iff]at hs'
  have e1:backTo pos (starEach (e::r) env)=(false,eval e env)::backTo pos (starEach r env):=by rw[dI hs'.1];rfl
  rw[e1]at w ⊢
  exact Calls.evalArgs_plain (ah w λxs φ1 I1 g1 t1 v1 x1 r1=>h xs φ1 I1 g1 t1 v1 x1 r1)
theorem Aq{id:String}{vs:List V}(ha:iy c sc es es')(hl:es'.length=es.length)(hs:es.any isStar=false)(a:At c sc env A φ I H ρ s.heap)(he:da c.F es' ρ H=some (vs,H'))
  {Q:Value→Shared→Prop} (h:∀xs φ1 I1 h1 tk,Inv c.N c.B φ1 I1 H' h1→Ext No φ I s.heap φ1 I1 h1→LR φ1 I1 vs xs→wpAny (model c.prog c.w) A (call (.type id) xs) Q no { s with heap:=h1,toks:=tk }) :
  wpAny (model c.prog c.w) A (callWith pos (.type id) [] (backTo pos (starEach es env)) []) Q no s:=by
 have w:=ha pos env A s φ I H ρ vs H' a he
 refine PyProof.Rows.callWith_type (uo _ _ _ hs) ?_
 cases es with
 |nil=>
  cases es' with
  |nil=>cases he;exact PySem.evalArgs_none (h [] φ I s.heap s.toks a.vi (.refl ..) .nil)
  |cons q r=>cases hl
 |cons e r=>
  have hs':=hs
  rw[List.any_cons,Bool.or_eq_false_iff]at hs'
  have e1:backTo pos (starEach (e::r) env)=(false,eval e env)::backTo pos (starEach r env):=by rw[dI hs'.1];rfl
  rw[e1]at w ⊢
  exact Calls.evalArgs_plain (ah w λxs φ1 I1 g1 t1 v1 x1 r1=>h xs φ1 I1 g1 t1 v1 x1 r1)
theorem DN{x:Str}{k:Nat}(ok:c.Ok)(hg:dR (sc.names.lookup x)=true)(hk:idx x c.T.aV=some k):bg c sc (.Name x pos) (.aV k):=λenv A s φ I H ρ v H' a h=>by
 refine af h λu h1 h2=>bP (P:=Eg c A env s φ I (.Name x pos)) h2 ?_
 cases ok.ns with
 |mk mg mb n1 n2 hF hC hG=>exact ay (hG x k _ hk h1) λy hy r=>Calls.Name_function_global a.fr.kind (a.se.aV x (jg hg)) (Calls.loadGlobal_global (mg:=mg) (by rw[a.fr.gl];exact n1.keeps a.vi.base) hy (cV.cy a.vi (r.mono ⟨φ,rfl⟩ a.vi.i0))) (ok.KZ x (.inr (.inr (fT hk).2)))
theorem Ik{x:Str}{k:Nat}{Q:Value→Shared→Prop}(ok:c.Ok)(a:At c sc env A φ I H ρ s.heap)(hg:dR (sc.names.lookup x)=true)(hk:idx x c.T.fns=some k)(h:Q (.ref (c.fa k)) s):wpAny (model c.prog c.w) A (eval (.Name x pos) env) Q no s:=by
 cases ok.ns with
 |mk mg mb n1 n2 hF=>exact Calls.Name_function_global a.fr.kind (a.se.aV x (jg hg)) (Calls.loadGlobal_global (mg:=mg) (by rw[a.fr.gl];exact n1.keeps a.vi.base) (hF x k hk) h) (ok.KZ x (.inl (fT hk).2))
theorem Ew{x:Str}{k:Nat}{Q:Value→Shared→Prop}(ok:c.Ok)(a:At c sc env A φ I H ρ s.heap)(hg:dR (sc.names.lookup x)=true)(hk:idx x c.T.cls=some k)(h:Q (.ref (c.N.cls k)) s):wpAny (model c.prog c.w) A (eval (.Name x pos) env) Q no s:=by
 cases ok.ns with
 |mk mg mb n1 n2 hF hC=>exact Calls.Name_function_global a.fr.kind (a.se.aV x (jg hg)) (Calls.loadGlobal_global (mg:=mg) (by rw[a.fr.gl];exact n1.keeps a.vi.base) (hC x k hk) h) (ok.KZ x (.inr (.inl (fT hk).2)))
theorem qx{x:Str}{b:Value}{Q:Value→Shared→Prop}{mg mb:Str→Option Value}(n1:c.B.Ns mainGlobals mg)(n2:c.B.Ns builtinsNs mb)(hb:mg x=none∧mb x=some b)(hd:(x==("__debug__" : Str))=false)
  (a:At c sc env A φ I H ρ s.heap) (hg:dR (sc.names.lookup x)=true) (h:Q b s):wpAny (model c.prog c.w) A (eval (.Name x pos) env) Q no s:=
 Calls.Name_function_global a.fr.kind (a.se.aV x (jg hg)) (Calls.loadGlobal_builtin (mg:=mg) (mb:=mb) (by rw[a.fr.gl];exact n1.keeps a.vi.base) hb.1 (by rw[a.fr.bl];exact n2.keeps a.vi.base) hb.2 h) hd
theorem Ap{P:Pg}{k:Nat}{vs:List V}{r:V×MH}:∀{d:Nat},ag P d k vs H=some r→∃fn,P.fns[k]?=some fn
 |0,h=>aM h
 |_+1,h=>af h λfn q _=>⟨fn,q⟩
theorem AR{x:Str}{k:Nat}(ok:c.Ok)(cs:iM c)(hg:dR (sc.names.lookup x)=true)(hk:idx x c.T.fns=some k)(ha:iy c sc es es')(hl:es'.length=es.length)(hs:es.any isStar=false) :
  bg c sc (.Call (.Name x p0) es [] pos) (.call k es'):=λenv A s φ I H ρ v H' a h=>by
 refine ak h λvs H1 h1 h2=>wpAny_Call_NameR (Ik ok a hg hk ?_)
 have h2:ag c.P c.d k vs H1=some (v,H'):=h2
 refine bJ (Ap h2) λfn hfn=>pI ok (ok.fns k fn hfn).keep ha hl hs a h1 λxs φ1 I1 g1 t1 v1 x1 r1=>aH x1 (wpAny_call ?_)
 exact codeAny_mono (cs k vs H1 v H' h2 A _ φ1 I1 xs a.ao.c v1 r1) λr s' q=>by cases q with|mk q=>exact q
theorem yy{k:Nat}{H1:MH}{φ1:List Ent}{I1:bR}{g1:PySem.Heap}(v1:Inv c.N c.B φ1 I1 H1 g1)(m5:c.N.good (c.N.cls k)) :
  Inv c.N c.B (φ1++[⟨g1.objs.size+1,g1.objs.size⟩]) I1 (H1++[.ins k []]) ((g1.push emptyDict).push (instObj (c.N.cls k) g1.objs.size))∧Ext No φ1 I1 g1 (φ1++[⟨g1.objs.size+1,g1.objs.size⟩]) I1 ((g1.push emptyDict).push (instObj (c.N.cls k) g1.objs.size))
   ∧ VR (φ1++[⟨g1.objs.size+1,g1.objs.size⟩]) I1 (.ref H1.length) (.ref (g1.objs.size+1)):=by
 have hk':∀b o,g1.get? b=some o→((g1.push emptyDict).push (instObj (c.N.cls k) g1.objs.size)).get? b=some o:=λb o e=>Heap.get?_push_of_some _ (Heap.get?_push_of_some _ e)
 have gA:((g1.push emptyDict).push (instObj (c.N.cls k) g1.objs.size)).get? (g1.objs.size+1)=some (instObj (c.N.cls k) g1.objs.size):=by rw[← Heap.size_push g1 emptyDict];exact Heap.get?_push_size _ rfl
 exact⟨v1.more hk' (i_ (Nat.le_succ _)) (cM g1) ⟨m5,Nat.ne_of_lt (Nat.lt_succ_self _),gA,λ_=>none,(Heap.Ns1.of_empty (Heap.Ns.new g1 (.type "dict"))).keeps λb o e=>Heap.get?_push_of_some _ e,λn hn=>(hn rfl).elim,λa v hv=>aM hv⟩,
  .more hk' (i_ (Nat.le_succ _)) (cM g1),v1.len▸.ref φ1.length ⟨g1.objs.size+1,g1.objs.size⟩ List.getElem?_concat_length⟩
theorem Iy{α:Type}{v:V}{o:Option α}{q:α}{G:Prop}{P:V→Prop}(h:(match v with|.bW=>o|_=>none)=some q)(p:P v)(k:P .bW→o=some q→G):G:=by
 cases v<;>first|exact aM h|exact k p h
theorem G7{x:Str}{k:Nat}(ok:c.Ok)(cs:iM c)(hg:dR (sc.names.lookup x)=true)(hk:idx x c.T.cls=some k)(ha:iy c sc es es')(hl:es'.length=es.length)(hs:es.any isStar=false) :
  bg c sc (.Call (.Name x p0) es [] pos) (.mk k es'):=λenv A s φ I H ρ v H' a h=>ak h λvs H1 h1 h2=>af h2 λf h3 h4=>ak h4 λq H2 h5 h6=>Iy (P:=λq=>ag c.P c.d f (.ref H1.length::vs) (H1++[.ins k []])=some (q,H2)) h6 (show ag c.P c.d f (.ref H1.length::vs) (H1++[.ins k []])=some (q,H2)from h5) λh5 h6=>
 bP (P:=Eg c A env s φ I (.Call (.Name x p0) es [] pos)) h6 (pd (ok.cls k f h3) λm1 m2 m3 m4 m5=>wpAny_Call_NameR (Ew ok a hg hk (pI ok m2 ha hl hs a h1 λxs φ1 I1 g1 t1 v1 x1 r1=>aH x1 (wpAny_call (gw (yy v1 m5) λvm xm rself=>by
  have X1:=ok.X.keeps v1.base
  refine make_core (makes_of X1 m1) (looks_findIn X1 m3) (λself=>bind_fn X1 self m4) (.inl rfl) (codeAny_mono (cs f _ _ _ _ h5 (A.under _) _ _ I1 (.ref (g1.objs.size+1)::xs) (a.ao.make _) vm (.cons rself (r1.ext xm))) λr s' q=>?_)
  cases q with
  |mk q=>cases q with
   |mk φ2 I2 g2 t2 v2 x2 r2=>exact r2.oN▸⟨rfl,.mk φ2 I2 g2 t2 v2 (xm.trans x2) (rself.ext x2)⟩)))))
theorem G8{F:Cf}{e:E}{ρ:Loc}{H H1:MH}{x:V}(h:ar F e ρ H=some (x,H1)):da F [e] ρ H=some ([x],H1):=bs h
theorem La{F:Cf}{e e2:E}{ρ:Loc}{H H1 H2:MH}{x y:V}(h:ar F e ρ H=some (x,H1))(h2:ar F e2 ρ H1=some (y,H2)):da F [e,e2] ρ H=some ([x,y],H2):=(bs h).trans (bs (G8 h2))
theorem EW{a b:Bool}(h:a=false)(k:b=false):(a||b)=false:=by subst h;exact k
theorem KI{id:String}(ha:bg c sc e e')(hs:isStar e=false)(a:At c sc env A φ I H ρ s.heap)(h1:ar c.F e' ρ H=some (v,H'))(first:List Value){Q:Value→Shared→Prop}
  (k:∀y φ1 I1 g1 tk,Inv c.N c.B φ1 I1 H' g1→Ext No φ I s.heap φ1 I1 g1→VR φ1 I1 v y→wpAny (model c.prog c.w) A (call (.builtin id) (first++[y])) Q no { s with heap:=g1,toks:=tk }) :
  wpAny (model c.prog c.w) A (callWith pos (.builtin id) first (backTo pos (starEach [e] env)) []) Q no s:=
 s_ (iY hs ha oe) rfl (EW hs rfl) a (vs:=[v]) (H':=H') (G8 h1) first λxs φ1 I1 g1 t1 v1 x1 r1=>df r1.cons_of λy q f h3 h4=>by
  rw[f,h4.nil_of];exact k y φ1 I1 g1 t1 v1 x1 h3
theorem Nj{id:String}{H1:MH}(ha:bg c sc l l')(hb:bg c sc r r')(hs:isStar l=false)(hs2:isStar r=false)(a:At c sc env A φ I H ρ s.heap)(h1:ar c.F l' ρ H=some (v,H1))(h2:ar c.F r' ρ H1=some (u,H')){Q:Value→Shared→Prop}
  (k:∀y z φ1 I1 g1 tk,Inv c.N c.B φ1 I1 H' g1→Ext No φ I s.heap φ1 I1 g1→VR φ1 I1 v y→VR φ1 I1 u z→wpAny (model c.prog c.w) A (call (.builtin id) [y,z]) Q no { s with heap:=g1,toks:=tk }) :
  wpAny (model c.prog c.w) A (callWith pos (.builtin id) [] (backTo pos (starEach [l,r] env)) []) Q no s:=
 s_ (iY hs ha (iY hs2 hb oe)) rfl (EW hs (EW hs2 rfl)) a (vs:=[v,u]) (H':=H') (La h1 h2) [] λxs φ1 I1 g1 t1 v1 x1 r1=>df r1.cons_of λy q f h3 h4=>df h4.cons_of λz q' f' h6 h7=>by
  rw[f,f',h7.nil_of];exact k y z φ1 I1 g1 t1 v1 x1 h3 h6
theorem DQ(ok:c.Ok)(hg:dR (sc.names.lookup lY)=true)(ha:bg c sc e e')(hs:isStar e=false):bg c sc (.Call (.Name lY p0) [e] [] pos) (.len e'):=λenv A s φ I H ρ v H' a h=>ak h λx H1 h1 h2=>sQ (P:=λv=>ar c.F e' ρ H=some (v,H1)) h2 h1 λn h1 h2=>af h2 λl h5 h6=>aZ h6 λhr h6=>
 bP (P:=Eg c A env s φ I (.Call (.Name lY p0) [e] [] pos)) h6 (by
  cases ok.ns with
  |mk mg mb n1 n2 hF hC hG bl=>exact wpAny_Call_NameR (qx n1 n2 bl (by decide) a hg (KI ha hs a h1 [] λy φ1 I1 g1 t1 v1 x1 r1=>aH x1 (Ey v1 r1 h5 hr))))
theorem DI(ok:c.Ok)(hg:dR (sc.names.lookup lX)=true)(ha:bg c sc e e')(hs:isStar e=false):bg c sc (.Call (.Name lX p0) [e] [] pos) (.abs e'):=λenv A s φ I H ρ v H' a h=>ak h λx H1 h1 h2=>r_ (P:=λv=>ar c.F e' ρ H=some (v,H1)) h2 h1 λn h1 h2=>
 bP (P:=Eg c A env s φ I (.Call (.Name lX p0) [e] [] pos)) h2 (by
  cases ok.ns with
  |mk mg mb n1 n2 hF hC hG bl ba=>exact wpAny_Call_NameR (qx n1 n2 ba (by decide) a hg (KI ha hs a h1 [] λy φ1 I1 g1 t1 v1 x1 r1=>aH x1 (Dj v1 r1))))
theorem DV(ok:c.Ok)(hg:dR (sc.names.lookup lZ)=true)(ha:bg c sc l l')(hb:bg c sc r r')(hs:isStar l=false)(hs2:isStar r=false):bg c sc (.Call (.Name lZ p0) [l,r] [] pos) (.max l' r'):=λenv A s φ I H ρ v H' a h=>ak h λx H1 h1 h2=>ak h2 λy H2 h5 h2=>
 Hr (P:=λv=>ar c.F l' ρ H=some (v,H1)) (Q:=λv=>ar c.F r' ρ H1=some (v,H2)) h2 h1 h5 λi j h1 h5 h2=>bP (P:=Eg c A env s φ I (.Call (.Name lZ p0) [l,r] [] pos)) h2 (by
  cases ok.ns with
  |mk mg mb n1 n2 hF hC hG bl ba bx=>exact wpAny_Call_NameR (qx n1 n2 bx (by decide) a hg (Nj ha hb hs hs2 a h1 h5 λy z φ1 I1 g1 t1 v1 x1 r1 r2=>aH x1 (EC v1 a.ao.hn r1 r2))))
theorem DW(ok:c.Ok)(hg:dR (sc.names.lookup l7)=true)(ha:bg c sc l l')(hb:bg c sc r r')(hs:isStar l=false)(hs2:isStar r=false):bg c sc (.Call (.Name l7 p0) [l,r] [] pos) (.min l' r'):=λenv A s φ I H ρ v H' a h=>ak h λx H1 h1 h2=>ak h2 λy H2 h5 h2=>
 Hr (P:=λv=>ar c.F l' ρ H=some (v,H1)) (Q:=λv=>ar c.F r' ρ H1=some (v,H2)) h2 h1 h5 λi j h1 h5 h2=>bP (P:=Eg c A env s φ I (.Call (.Name l7 p0) [l,r] [] pos)) h2 (by
  cases ok.ns with
  |mk mg mb n1 n2 hF hC hG bl ba bx bn=>exact wpAny_Call_NameR (qx n1 n2 bn (by decide) a hg (Nj ha hb hs hs2 a h1 h5 λy z φ1 I1 g1 t1 v1 x1 r1 r2=>aH x1 (EG v1 a.ao.hn r1 r2))))
theorem wG(ok:c.Ok)(hg:dR (sc.names.lookup fj)=true)(ha:iy c sc es es')(hl:es'.length=es.length)(hs:es.any isStar=false):bg c sc (.Call (.Name fj p0) es [] pos) (.range es'):=λenv A s φ I H ρ v H' a h=>ak h λvs H1 h1 h2=>af h2 λu h3 h4=>
 bP (P:=Eg c A env s φ I (.Call (.Name fj p0) es [] pos)) h4 (by
  cases ok.ns with
  |mk mg mb n1 n2 hF hC hG bl ba bx bn br=>exact wpAny_Call_NameR (qx n1 n2 br (by decide) a hg (Aq ha hl hs a h1 λxs φ1 I1 g1 t1 v1 x1 r1=>aH x1 (Fc v1 r1 h3))))
theorem kE{n:Nat}{e:Ent}(he:φ[n]?=some e)(x:Ext W φ I h φ' I' h'):φ'[n]?=some e:=bJ x.pre λψ f=>by
 rw[f,List.getElem?_append_left (List.getElem?_eq_some_iff.mp he).1];exact he
theorem DJ{apos:Pos}(ho:bg c sc o o')(hx:bg c sc e e')(hs:isStar e=false)(hc:isCall o=false)(hline:(apos.endLine==pos.line)=true) :
  bg c sc (.Call (.Attribute o kI apos) [e] [] pos) (.app o' e'):=λenv A s φ I H ρ v H' a h=>ak h λx H1 h1 h2=>sQ (P:=λv=>ar c.F o' ρ H=some (v,H1)) h2 h1 λn h1 h2=>af h2 λl1 k1 h3=>ak h3 λy H2 k2 h4=>af h4 λl h5 h6=>aZ h6 λhr h6=>
 bP (P:=Eg c A env s φ I (.Call (.Attribute o kI apos) [e] [] pos)) h6 (by
  refine wpAny_Call_method (T := "list") (by cases o<;>first|rfl|exact pF hc) ?_ hline PySem.F.plainAttrs_list slot_list_append rfl (ah (ho env A s φ I H ρ _ _ a h1) λp φ1 I1 g1 t1 v1 x1 r1=>ay r1.cT λen he f=>cQ (cI v1 he k1).2 λitems m q1 _=>?_)
  ·rw[dI hs];rfl
  ·rw[f]
   exact⟨⟨_,q1,rfl⟩,λb hb=>(Value.ref.inj hb)▸⟨_,q1,rfl⟩,KI hx hs (a.ext x1 v1) k2 _ λy' φ2 I2 g2 t2 v2 x2 r2=>aH (x1.trans x2) (mM v2 (kE he x2) h5 hr r2)⟩)
end
end
section
open PySem PySem.W PyProof.Rows
noncomputable def pW(body:V→MH→Option MH)(v:V):Nat→Nat→MH→Option MH
 |0,_,_=>none
 |g+1,i,H=>(itemAt v H i).bind λq=>match q with
  |none=>some H
  |some u=>(body u H).bind λH=>pW body v g (i+1) H
theorem tq{α:Type}{l0 l:List α}{i:Nat}{u:α}(h:l0.drop i=u::l):l0[i]?=some u:=(List.getElem?_drop (xs:=l0) (i:=i) (j:=0)).symm.trans (congrArg (λx:List α=>x[0]?) h)
theorem tu{α:Type}{l0 l:List α}{i:Nat}{u:α}(h:l0.drop i=u::l):l0.drop (i+1)=l:=(List.drop_drop (l:=l0) (i:=1) (j:=i)).symm.trans (congrArg (List.drop 1) h)
theorem n_(body:V→MH→Option MH)(v:V)(l0:List V)(hv:∀H i,itemAt v H i=some l0[i]?):∀(l:List V) (i:Nat) (H H':MH),l0.drop i=l→iW body l H=some H'→∃g,pW body v g i H=some H'
 | [],i,H,H',hl,h=>⟨1,(bs ((hv H i).trans (congrArg some (List.getElem?_eq_none (List.drop_eq_nil_iff.mp hl))))).trans h⟩
 |u::l,i,H,H',hl,h=>af (show(body u H).bind _=_ from h) λH1 h1 h2=>bJ (n_ body v l0 hv l (i+1) H1 H' (tu hl) h2) λg hg=>⟨g+1,(bs ((hv H i).trans (congrArg some (tq hl)))).trans ((bs h1).trans hg)⟩
theorem tv(body:V→MH→Option MH)(n:Nat):∀(g i:Nat) (H H':MH),wu body n g i H=some H'→pW body (.ref n) g i H=some H'
 |0,_,_,_,h=>aM h
 |g+1,i,H,H',h=>af (show(aj H n).bind _=_ from h) λl h1 h2=>by
  have hi:itemAt (.ref n) H i=some l[i]?:=congrArg (Option.map _) h1
  refine(bs hi).trans ?_
  clear hi
  cases q:l[i]? with
  |none=>rw[q]at h2;exact h2
  |some u=>
   rw[q]at h2
   exact af h2 λH1 h3 h4=>(bs h3).trans (tv body n g (i+1) H1 H' h4)
theorem DG{body:V→MH→Option MH}{v:V}{H H':MH}(h:each body v H=some H'):∃g,pW body v g 0 H=some H':=by
 cases v with
 |ref n=>exact af (show(aj H n).bind _=_ from h) λl h1 h2=>⟨_,tv body n _ 0 H H' h2⟩
 |tup l=>exact n_ body (.tup l) l (λ_ _=>rfl) l 0 H H' rfl h
 |bQ a b c=>exact af (show(dc a b c).bind _=_ from h) λl h1 h2=>n_ body (.bQ a b c) l (λ_ _=>congrArg (Option.map _) h1) l 0 H H' rfl h2
 |_=>exact aM h
theorem lU{α:Type}(f:Str→α→α)(z:Str):∀l:List (Str×α),(l.map λx=>(x.1,f x.1 x.2)).lookup z=(l.lookup z).map (f z)
 | []=>rfl
 |(n,k)::r=>by
  by_cases e:z=n
  ·rw[List.map_cons,e,List.lookup_cons_self,List.lookup_cons_self];rfl
  ·rw[List.map_cons,bV e,bV e];exact lU f z r
noncomputable def gp(cells:List (Str×Addr)):List (Str×NameKind)→List (Str×Addr)→List (Str×Addr)
 | [],acc=>acc
 |(n,k)::r,acc=>if k==.free then gp cells r ((n,(cells.lookup n).getD 0)::acc)else gp cells r acc
noncomputable def KW(cells:List (Str×Addr))(p:Str×NameKind):Str×Addr:=(p.1,(cells.lookup p.1).getD 0)
theorem kD(cells:List (Str×Addr)):∀(l:List (Str×NameKind)) (acc:List (Str×Addr)),gp cells l acc=((l.filter (·.2==.free)).map (KW cells)).reverse++acc
 | [],_=>rfl
 |(n,k)::r,acc=>by
  show(if(k==.free)=true then gp cells r (KW cells (n,k)::acc)else gp cells r acc)=_
  by_cases h:(k==NameKind.free)=true
  ·rw[if_pos h,List.filter_cons_of_pos (p:=λq:Str×NameKind=>q.2==.free) (a:=(n,k)) h,List.map_cons,List.reverse_cons,kD cells r,List.append_assoc];rfl
  ·rw[if_neg h,List.filter_cons_of_neg (p:=λq:Str×NameKind=>q.2==.free) (a:=(n,k)) h,kD cells r]
theorem lC(env:Env)(f:Str×NameKind→List (Str×Addr)→Sem (ForInStep (List (Str×Addr))))
  (hf:∀n k cs,f (n,k) cs=if k==.free then(do let a ← cellOf env n;pure (.yield ((n,a)::cs)))else pure (.yield cs)) :
  ∀(l:List (Str×NameKind)) (acc:List (Str×Addr)),(∀n,(n,NameKind.free)∈l→(env.cells.lookup n).isSome=true)→forIn l acc f=pure (gp env.cells l acc)
 | [],acc,_=>by rw[List.forIn_nil];rfl
 |(n,k)::r,acc,h=>by
  rw[List.forIn_cons,hf]
  show _=pure (if(k==.free)=true then gp env.cells r ((n,(env.cells.lookup n).getD 0)::acc)else gp env.cells r acc)
  by_cases hk:(k==NameKind.free)=true
  ·rw[if_pos hk,if_pos hk]
   refine(Option.isSome_iff_exists.mp (h n (eq_of_beq hk▸.head _))).elim λa ha=>?_
   unfold cellOf
   rw[ha]
   exact lC env f hf r _ λm hm=>h m (.tail _ hm)
  ·rw[if_neg hk,if_neg hk]
   exact lC env f hf r _ λm hm=>h m (.tail _ hm)
theorem lq{env:Env}{sc:Scope}(h:∀n,(n,NameKind.free)∈sc.names→(env.cells.lookup n).isSome=true):closureFor sc env=pure (gp env.cells sc.names []):=by
 simp only[closureFor]
 rw[lC env _ (λn k cs=>by cases hk:k==NameKind.free<;>rfl) sc.names [] h]
 rfl
theorem pL(cells:List (Str×Addr))(l:List (Str×NameKind))(acc:List (Str×Addr))(n:Str)(a:Addr)(h:(n,a)∈gp cells l acc):(n,a)∈acc∨((n,NameKind.free)∈l∧a=(cells.lookup n).getD 0):=by
 rw[kD]at h
 refine(List.mem_append.mp h).symm.imp id λh=>ay (List.mem_map.mp (List.mem_reverse.mp h)) λp hp e=>?_
 have q:=List.mem_filter.mp hp
 have e1:p.1=n:=congrArg Prod.fst e
 have e2:p.2=.free:=eq_of_beq q.2
 exact⟨e1▸e2▸q.1,(e1▸(congrArg Prod.snd e).symm:a=(cells.lookup n).getD 0)⟩
theorem wi(cells:List (Str×Addr))(l:List (Str×NameKind))(acc:List (Str×Addr))(n:Str)(h:(n,NameKind.free)∈l):(n,(cells.lookup n).getD 0)∈gp cells l acc:=by
 rw[kD]
 exact List.mem_append_left _ (List.mem_reverse.mpr (List.mem_map_of_mem (f:=KW cells) (List.mem_filter.mpr ⟨h,rfl⟩)))
theorem fi{α:Type}:∀{l:List (Str×α)} {n:Str} {a:α},(n,a)∈l→(∀b,(n,b)∈l→b=a)→l.lookup n=some a
 |(m,b)::r,n,a,h,hu=>by
  by_cases e:n=m
  ·subst e;rw[List.lookup_cons_self,hu b (.head _)]
  ·exact(bV e).trans (fi ((List.mem_cons.mp h).resolve_left λq=>e (congrArg Prod.fst q)) λb hb=>hu b (.tail _ hb))
theorem pJ{cells:List (Str×Addr)}{l:List (Str×NameKind)}{n:Str}{a:Addr}(h:(n,NameKind.free)∈l)(ha:cells.lookup n=some a):(gp cells l []).lookup n=some a:=
 fi (by have q:=wi cells l [] n h;rw[ha]at q;exact q) λb hb=>(pL cells l [] n b hb).elim (λq=>nomatch q) λq=>q.2.trans (ha▸rfl)
theorem iE{cells:List (Str×Addr)}(ha:cells.Pairwise λx y=>x.2≠y.2):∀(l:List (Str×NameKind)) (acc:List (Str×Addr)),(l.map (·.1)).Nodup→(∀n,(n,NameKind.free)∈l→(cells.lookup n).isSome=true) →
  (acc.Pairwise λx y=>x.2≠y.2)→(∀p∈acc,p∈cells∧p.1∉l.map (·.1))→((gp cells l acc).Pairwise λx y=>x.2≠y.2)
 | [],acc,_,_,h,_=>h
 |(m,k)::r,acc,hn,hs,h,hm=>by
  have hn:=List.nodup_cons.mp hn
  have hm':∀p∈acc,p∈cells∧p.1∉r.map (·.1):=λp hp=>⟨(hm p hp).1,λq=>(hm p hp).2 (.tail _ q)⟩
  have hs':=λn hn=>hs n (.tail _ hn)
  show List.Pairwise _ (if(k==.free)=true then gp cells r ((m,(cells.lookup m).getD 0)::acc)else gp cells r acc)
  by_cases hk:(k==NameKind.free)=true
  ·rw[if_pos hk]
   refine(Option.isSome_iff_exists.mp (hs m (eq_of_beq hk▸.head _))).elim λa hma=>?_
   have hc:=mem_of_lookup hma
   rw[hma]
   exact iE ha r _ hn.2 hs' (List.pairwise_cons.mpr ⟨λp hp e=>(hm p hp).2 ((name_of_addr ha (n:=m) (n':=p.1) (c:=a) hc ((show a=p.2 from e)▸(hm p hp).1))▸.head _),h⟩) λp hp=>(List.mem_cons.mp hp).elim (λe=>e▸⟨hc,hn.1⟩) (hm' p)
  ·rw[if_neg hk]
   exact iE ha r _ hn.2 hs' h hm'
end
section
open PySem PySem.W PyProof.Rows
section
variable {c:Cx} {sc sc':Scope} {A:Around} {E:Value→Shared→Prop} {env:Env} {φ φ':List Ent} {I I':bR} {H H':MH} {ρ:Loc} {h h':PySem.Heap} {s:Shared} {v u:V} {W:Addr→Prop} {x:Str} {k:Nat} {C:Addr} {B:PySem.Heap} {G:List (Str×Nat)} {m:Str→Option Value}
theorem lookup_mem{α:Type}{l:List (Str×α)}{n:Str}{a:α}(h:l.lookup n=some a):(n,a)∈l:=mem_of_lookup h
theorem cC(h:c_ G sc sc' x=true):sc'.kind=.function∧(sc'.names.map (·.1)).Nodup∧sc'.names.lookup x=some .local
  ∧ ∀n kd,(n,kd)∈sc'.names→(kd=.local→(n=x∨look n G=none)∧sc'.names.lookup n=some .local)∧(kd=.free→(∃q,look n G=some q)∧(sc.names.lookup n=some .cell∨sc.names.lookup n=some .free))∧kd≠.cell:=by
 refine⟨eq_of_beq (fe (fe (fe h))),of_decide_eq_true (iz (fe (fe h))),eq_of_beq (iz (fe h)),λn kd hm=>?_⟩
 have q:=fc (iz h) hm
 clear h hm
 cases kd with
 | «local»=>exact⟨λ_=>⟨(Bool.or_eq_true_iff.mp (fe q)).imp eq_of_beq Option.isNone_iff_eq_none.mp,eq_of_beq (iz q)⟩,λe=>(nomatch e),λe=>(nomatch e)⟩
 |free=>exact⟨λe=>(nomatch e),λ_=>⟨Option.isSome_iff_exists.mp (fe (fe q)),(Bool.or_eq_true_iff.mp (iz (fe q))).imp eq_of_beq eq_of_beq⟩,λe=>(nomatch e)⟩
 |cell=>exact bY q
 |_=>exact⟨λe=>(nomatch e),λe=>(nomatch e),λe=>(nomatch e)⟩
noncomputable def ki(sc':Scope)(C:Addr)(env:Env):Env:=compEnvC sc' (gp env.cells sc'.names []) C env
theorem oD(z:Str):(ki sc' C env).kindOf z=(sc'.names.lookup z).map λkd=>if(kd==NameKind.free&&env.scope.kind==.function&&env.kindOf z==some .cell)=true then NameKind.cell else kd:=by
 have:=lU (λn kd=>if(kd==NameKind.free&&env.scope.kind==.function&&env.kindOf n==some .cell)=true then NameKind.cell else kd) z sc'.names
 rw[← this]
 show List.lookup z (List.map _ _)=_
 congr 1
 refine List.map_congr_left λp _=>?_
 obtain⟨n,kd⟩:=p
 dsimp only
 split<;>rfl
theorem IV(hc:c_ G sc sc' x=true):z6 sc' (ki sc' C env):=by
 refine ic (cC hc) λh1 h2 h3 h4=>?_
 refine⟨λz hz=>?_,λz hz=>?_,λz hz=>?_,λz hz=>?_⟩
 ·rw[oD,hz];rfl
 ·exact absurd rfl (h4 z _ (lookup_mem hz)).2.2
 ·rw[oD,hz,Option.map_some]
  split
  ·exact .inl rfl
  ·exact .inr rfl
 ·rw[oD,hz];rfl
theorem jI{j:Nat}{v:V}(h:getL (ρ.set k none) j=some v):k≠j∧getL ρ j=some v:=by
 unfold getL at *
 by_cases e:k=j
 ·rw[e,List.getElem?_set,if_pos rfl]at h
  exact af h λo h1 h2=>j4 h1 (λ_ h1=>aM ((Option.some.inj h1).trans h2)) λ_ h1=>aM h1
 ·rw[List.getElem?_set_ne e]at h
  exact⟨e,h⟩
theorem oE{z:Str}{kd:NameKind}(h:(ki sc' C env).kindOf z=some kd):∃q,sc'.names.lookup z=some q∧(q=.free∧kd=.cell∨kd=q):=by
 rw[oD]at h
 exact ay (Option.map_eq_some_iff.mp h) λq h1 h2=>⟨q,h1,j4 h2 (λe h2=>.inl ⟨eq_of_beq (fe (fe e)),h2.symm⟩) λ_ h2=>.inr h2.symm⟩
theorem qG(hc:c_ G sc sc' x=true)(se:z6 sc env){z:Str}(hz:(z,NameKind.free)∈sc'.names):(∃q,look z G=some q)∧(env.kindOf z=some .cell∨env.kindOf z=some .free):=
 have q:=((cC hc).2.2.2 z _ hz).2.1 rfl
 ⟨q.1,q.2.elim (λq=>.inl (se.KU z q)) (se.NH z)⟩
theorem hJ(hc:c_ G sc sc' x=true)(se:z6 sc env)(f:iN B env G ρ φ I h)(n:Str)(hm:(n,NameKind.free)∈sc'.names):(env.cells.lookup n).isSome=true:=
 have o:=qG hc se hm
 bJ o.1 λq hq=>df (f.cl n q hq o.2) λa cv e _ _=>e▸rfl
theorem sG(hc:c_ G sc sc' x=true)(se:z6 sc env)(f:iN B env G ρ φ I h){n:Str}{a:Addr}(hm:(n,a)∈gp env.cells sc'.names []):(n,a)∈env.cells:=
 (pL _ _ _ _ _ hm).elim (λe=>nomatch e) λe=>(Option.isSome_iff_exists.mp (hJ hc se f n e.1)).elim λa' e3=>by
  rw[e.2,e3];exact lookup_mem e3
theorem IE(hc:c_ G sc sc' x=true)(se:z6 sc env)(f:iN B env G ρ φ I h){b:Addr}(hb:Own (ki sc' C env) b):b=C∨Own env b:=hb.imp id λq=>q.elim λn hn=>.inr ⟨n,sG hc se f hn⟩
theorem Hi(hc:c_ G sc sc' x=true)(hk:look x G=some k)(g:ku G)(se:z6 sc env)(f:iN B env G ρ φ I h)(hn:h.Ns C m)(hB:B.get? C=none)(ho:Off φ C)(hI:∀p∈I,p.1≠C)(hcell:∀n a,(n,a)∈env.cells→a≠C) :
  iN B (ki sc' C env) G (ρ.set k none) φ I h:=by
 refine ic (cC hc) λh1 h2 h3 h4=>⟨h1,f.gl,f.bl,⟨m,hn,λz j v hz hj hv=>?_⟩,λz j hz hj=>?_,iE f.apart _ _ h2 (hJ hc se f) .nil (λp hp=>nomatch hp),
  λb hb=>hb.elim (λe=>e▸⟨hB,ho,hI,jo hn⟩) λq=>q.elim λn hn'=>f.own b (.inr ⟨n,sG hc se f hn'⟩),λn a hm=>hcell n a (sG hc se f hm)⟩
 ·refine ay (oE hj) λq h5 h6=>h6.elim (λe=>nomatch e.2) λe=>?_
  exact((h4 z q (lookup_mem h5)).1 e.symm).1.elim (λe=>absurd (Option.some.inj (hk.symm.trans (e▸hz))) (jI hv).1) λe=>aM (e.symm.trans hz)
 ·have hf:sc'.names.lookup z=some .free:=hj.elim
   (λhj=>ay (oE hj) λq h5 h6=>h6.elim (λe=>e.1▸h5) λe=>absurd e.symm (h4 z q (lookup_mem h5)).2.2)
   λhj=>ay (oE hj) λq h5 h6=>h6.elim (λe=>nomatch e.2) λe=>e▸h5
  exact df (f.cl z j hz (qG hc se (lookup_mem hf)).2) λa cv e1 e2 e3=>⟨a,cv,pJ (lookup_mem hf) e1,e2,λv hv=>e3 v (jI hv).2⟩
theorem iN.less{ρ':Loc}(f:iN B env G ρ φ I h)(hl:∀j v,getL ρ' j=some v→getL ρ j=some v):iN B env G ρ' φ I h:=by
 exact⟨f.kind,f.gl,f.bl,ay (f.ns) λm h1 h2=>⟨m,h1,λx k v hx hk hv=>h2 x k v hx hk (hl k v hv)⟩,λx k hx hk=>df (f.cl x k hx hk) λa cv h1 h2 h3=>⟨a,cv,h1,h2,λv hv=>h3 v (hl k v hv)⟩,f.apart,f.own,f.ne⟩
theorem wX(ρ:Loc)(k:Nat)(u:V):∀j v,getL (ρ.set k none) j=some v→getL (aX ρ k u) j=some v:=λj v h=>by
 have q:=jI h
 unfold getL aX at *
 rw[List.getElem?_set_ne q.1];exact q.2
theorem zk(ρ:Loc)(k:Nat)(u:V):aX (ρ.set k none) k u=aX ρ k u:=by unfold aX;rw[List.set_set]
end
end
section
open PySem PySem.W PyProof.Rows
noncomputable def CC(c:Cx)(sc:Scope)(es:List Expr)(es':List E):Prop:=∀(env:Env) (A:Around) (s:Shared) (φ:List Ent) (I:bR) (H:MH) (ρ:Loc) (b:Bool) (H':MH),
 At c sc env A φ I H ρ s.heap→fQ c.F es' ρ H=some (b,H') →
 wpAny (model c.prog c.w) A (forIn es true λt r=>if r=true then do let ok ← isTrue t env (eval t env);pure (ForInStep.yield ok)else pure (ForInStep.yield r)) (cV c.N c.B No s φ I H' λ_ _ q=>q=b) no s
section
variable {c:Cx} {sc sc':Scope} {A:Around} {EE:Value→Shared→Prop} {env:Env} {φ φ':List Ent} {I I':bR} {H H':MH} {ρ:Loc} {h h':PySem.Heap} {s:Shared} {v u:V} {W:Addr→Prop} {x:Str} {k:Nat} {C:Addr} {m:Str→Option Value}
variable {e elt it:Expr} {e' elt' it':E} {es ifs:List Expr} {es' cs':List E} {pos px:Pos}
theorem gc{α:Type}{M:Model}{t:Sem α}{Q:α→Shared→Prop}(h:wpAny M A t Q no s):wpAny M A t Q EE s:=wpAny_mono h (λ_ _ q=>q) λ_ _ q=>q.elim
theorem pO{M:Model}{f:Expr→Sem Bool}{Q:Bool→Shared→Prop}:∀(es:List Expr) {s:Shared},Q false s→wpAny M A (forIn es false λt r=>if r=true then do let ok ← f t;pure (ForInStep.yield ok)else pure (ForInStep.yield r)) Q EE s
 | [],s,h=>by rw[List.forIn_nil];exact wpAny_pure h
 |e::r,s,h=>by
  rw[List.forIn_cons,if_neg (by decide)]
  exact wpAny_bind (wpAny_pure (pO r h))
theorem DC:CC c sc [] []:=λenv A s φ I H ρ b H' a h=>by
 rw[List.forIn_nil]
 exact bP (P:=λb H'=>wpAny (model c.prog c.w) A (pure true) (cV c.N c.B No s φ I H' λ_ _ q=>q=b) no s) h (wpAny_pure (cV.cy a.vi rfl))
theorem AB(ht:kx c sc e e')(hr:CC c sc es es'):CC c sc (e::es) (e'::es'):=λenv A s φ I H ρ b H' a h=>by
 refine ak h λx H1 h1 h2=>af h2 λb1 h3 h4=>?_
 rw[List.forIn_cons,if_pos rfl]
 refine wpAny_bind (wpAny_bind (ah (ht env A s φ I H ρ _ _ _ a h1 h3) λp φ1 I1 g1 t1 v1 x1 r1=>wpAny_pure ?_))
 rw[r1]
 cases b1 with
 |false=>exact pO es (bP (P:=λb H'=>cV c.N c.B No s φ I H' (λ_ _ q=>q=b) false { s with heap:=g1,toks:=t1 }) h4 (cV.after (tk:=t1) x1 (cV.cy v1 rfl)))
 |true=>exact aH x1 (hr env A _ φ1 I1 H1 ρ _ _ (a.ext x1 v1) h4)
noncomputable def pM(F:Cf)(elt:E)(k:Nat)(cs:List E)(ρ:Loc)(n:Nat)(v:V)(H1:MH):Option MH:=
 (fQ F cs (aX ρ k v) H1).bind λq=>if q.1 then(ar F elt (aX ρ k v) q.2).bind λx=>(aj x.2 n).bind λl=>if aI l.length then some (x.2.set n (.lst (l++[x.1])))else none else some q.2
structure CL (c:Cx) (sc:Scope) (sc':Scope) (env:Env) (k n:Nat) (ρ:Loc) (s:Shared) (φ:List Ent) (I:bR) (v:V) (a C acc:Addr) (i:Nat) (H1:MH) (φ1:List Ent) (I1:bR) (h1:PySem.Heap):Prop where
 vi:Inv c.N c.B φ1 I1 H1 h1
 x:Ext No φ I s.heap φ1 I1 h1
 it:IS φ1 I1 v i a h1
 ac:∃e,φ1[n]?=some e∧e.a=acc
 fr:iN c.B (ki sc' C env) c.G (ρ.set k none) φ1 I1 h1
 ao:Off φ1 a
 ai:∀p∈I1,p.1≠a
 an:s.heap.get? a=none
 ab:c.B.get? a=none
 aa:(h1.get? a).isSome=true
 aw:¬ Own (ki sc' C env) a
 cn:s.heap.get? C=none
inductive vE (c:Cx) (s:Shared) (φ:List Ent) (I:bR) (n:Nat) (H2:MH) (acc C:Addr):Shared→Prop
 |mk (φ1:List Ent) (I1:bR) (h1:PySem.Heap) (tk:Nat) (vi:Inv c.N c.B φ1 I1 H2 h1) (x:Ext No φ I s.heap φ1 I1 h1) (ac:∃e,φ1[n]?=some e∧e.a=acc) (oC:Off φ1 C) (iC:∀p∈I1,p.1≠C) (bC:c.B.get? C=none) (sC:s.heap.get? C=none)
  (m:Str→Option Value) (hm:h1.Ns C m):vE c s φ I n H2 acc C { s with heap:=h1,toks:=tk }
inductive Jl (c:Cx) (sc:Scope) (sc':Scope) (env:Env) (k n:Nat) (ρ:Loc) (s:Shared) (φ:List Ent) (I:bR) (v:V) (a C acc:Addr) (elt':E) (cs':List E) (H2:MH) (gs:Nat):Shared→Prop
 |mk (i:Nat) (H1:MH) (φ1:List Ent) (I1:bR) (h1:PySem.Heap) (tk:Nat) (hE:pW (pM c.F elt' k cs' ρ n) v gs i H1=some H2) (L:CL c sc sc' env k n ρ s φ I v a C acc i H1 φ1 I1 h1) :
  Jl c sc sc' env k n ρ s φ I v a C acc elt' cs' H2 gs { s with heap:=h1,toks:=tk }
theorem uH{RR:Result→Shared→Prop}{a acc:Addr}{n:Nat}{H2:MH}(g:ku c.G)(ao:vC A c.d)(hco:c_ c.G sc sc' x=true)(hk:look x c.G=some k)
  (he:bg c sc' elt elt') (hcs:CC c sc' ifs cs') (hRR:∀s',vE c s φ I n H2 acc C s'→RR (.ok .next) s') (gs:Nat) (s':Shared) (L:Jl c sc sc' env k n ρ s φ I v a C acc elt' cs' H2 gs s') :
  codeAny (model c.prog c.w) A (.compLoop (.ListComp elt [⟨.Name x px,it,ifs,0⟩] sc' pos) 0 (.ref a) (.ref acc) (ki sc' C env)) RR s':=by
 refine codeAny_compLoop_tests (I:=Jl c sc sc' env k n ρ s φ I v a C acc elt' cs' H2) ?_ gs L
 clear L gs s'
 intro gs s' L
 cases L with
 |mk i H1 φ1 I1 h1 tk hE L=>
 cases gs with
 |zero=>exact aM hE
 |succ gs=>
  refine af hE λq hq hE=>?_
  cases q with
  |none=>
   have oC:=L.fr.own C (.inl rfl)
   exact next_end (s:={ s with heap:=h1,toks:=tk }) L.vi ao.hn L.it hq λh2 hk2=>ay L.fr.ns λm hm _=>hRR _ (aL (P:=λH2=>vE c s φ I n H2 acc C _) hE
    (.mk φ1 I1 h2 tk (L.vi.turned a hk2 L.ao L.ab L.ai) (L.x.kQ hk2 L.an) L.ac oC.2.1 oC.2.2.1 oC.1 L.cn m (hm.at λo ho=>hk2 _ o (λe=>L.aw (e▸.inl rfl)) ho)))
  |some u=>
   refine af hE λH3 hb hE=>tX (s:={ s with heap:=h1,toks:=tk }) L.vi L.it hq λy h2 t2 ry hk2 ha2 it2=>?_
   have x2:=L.x.kQ hk2 L.an
   have lc:(ki sc' C env).kindOf x=some .local:=(IV hco).loc x (cC hco).2.2.1
   refine wpAny_assign_Name (gc (C_ (s:={ s with heap:=h2,toks:=t2 }) (L.vi.turned a hk2 L.ao L.ab L.ai) (L.fr.ext (Ext.iter hk2 ha2) λb hb e=>L.aw (e▸hb)) g hk (.inl lc) ry λh3 t3 Lc hL1 hL2 hk3 v3 e23 f3=>?_))
   rw[hL2 lc]at e23 hk3
   have it3:=it2.ext e23 L.ao λe=>L.aw (e▸.inl rfl)
   have x3:=x2.kQ hk3 L.cn
   have a3:(h3.get? a).isSome=true:=e23.alive a ha2
   rw[zk]at f3
   have at3:At c sc' (ki sc' C env) A φ1 I1 H1 (aX ρ k u) h3:=⟨IV hco,ao,v3,f3⟩
   refine ak (show(fQ c.F cs' (aX ρ k u) H1).bind _=_ from hb) λb H4 hb1 hb=>gc (ah (hcs (ki sc' C env) A { s with heap:=h3,toks:=t3 } φ1 I1 H1 _ _ _ at3 hb1) λq φ4 I4 h4 t4 v4 x4 r4=>?_)
   rw[r4]
   have back:∀{φ5:List Ent} {I5:bR} {h5:PySem.Heap} {t5:Nat},Ext No φ1 I1 h3 φ5 I5 h5→Inv c.N c.B φ5 I5 H3 h5→Jl c sc sc' env k n ρ s φ I v a C acc elt' cs' H2 gs { s with heap:=h5,toks:=t5 }:=λ{φ5 I5 h5 t5} x5 v5=>
    .mk (i+1) H3 φ5 I5 h5 t5 hE ⟨v5,x3.trans x5,it3.ext x5 L.ao (λq=>q),ay L.ac λe h6 h7=>⟨e,kE h6 x5,h7⟩,(f3.ext x5 λ_ _ q=>q).less (wX ρ k u),L.ao.ext x5 a3,λp hp=>(x5.rZ p hp).elim (λq=>L.ai p q) λq=>Ne.symm (cH a3 q),L.an,L.ab,x5.alive a a3,L.aw,L.cn⟩
   cases b with
   |false=>exact⟨gs,Nat.lt_succ_self _,back x4 ((show H4=H3 from Option.some.inj hb)▸v4)⟩
   |true=>
    refine ak (show(ar c.F elt' (aX ρ k u) H4).bind _=_ from hb) λz H5 hb2 hb=>af hb λl hb3 hb=>aZ hb λhr hb=>?_
    refine gc (ah (he (ki sc' C env) A { s with heap:=h4,toks:=t4 } φ4 I4 H4 _ _ _ (at3.ext x4 v4) hb2) λq φ5 I5 h5 t5 v5 x5 r5=>ay L.ac λe h6 h7=>?_)
    rw[← h7]
    exact gc (ah (mM (s:={ s with heap:=h5,toks:=t5 }) (W:=No) v5 (kE (kE h6 x4) x5) hb3 hr r5) λq φ6 I6 h6' t6 v6 x6 r6=>⟨gs,Nat.lt_succ_self _,h7▸back ((x4.trans x5).trans x6) (Option.some.inj hb▸v6)⟩)
end
end
section
open PySem PySem.W PyProof.Rows
section
variable {c:Cx} {sc sc':Scope} {A:Around} {EE:Value→Shared→Prop} {env:Env} {φ φ':List Ent} {I I':bR} {H H':MH} {ρ:Loc} {h h':PySem.Heap} {s:Shared} {v u:V} {W:Addr→Prop} {x:Str} {k:Nat} {C:Addr} {m:Str→Option Value}
variable {e elt it:Expr} {e' elt' it':E} {es ifs:List Expr} {es' cs':List E} {pos px:Pos}
theorem uS{w:Value}{i:Nat}{o:MO}(vi:Inv c.N c.B φ I H h)(r:VR φ I v w):itemAt v (H++[o]) i=itemAt v H i:=by
 cases v with
 |ref n=>
  refine ay (r.cT) λe he _=>congrArg (Option.map _) ?_
  unfold aj;rw[List.getElem?_append_left (vi.len▸(List.getElem?_eq_some_iff.mp he).1)]
 |_=>rfl
theorem mV{RR:Value→Addr→Result→Shared→Prop}(g:ku c.G)(hco:c_ c.G sc sc' x=true)(hk:look x c.G=some k)(hit:bg c sc it it')(he:bg c sc' elt elt')(hcs:CC c sc' ifs cs')
  (a:At c sc env A φ I H ρ s.heap) (hE:ar c.F (.comp elt' k it' cs') ρ H=some (v,H'))
  (hRR:∀n acc C s',v=.ref n→vE c s φ I n H' acc C s'→RR (.ref acc) C (.ok .next) s') :
  wpAny (model c.prog c.w) A (eval it env) (λxv s₁=>wpAny (model c.prog c.w) A (pyIter xv) (λit2 s₂=>wpAny (model c.prog c.w) A (newList []) (λacc s₃=>
   wpAny (model c.prog c.w) A (newFunctionEnv sc' env.globals (gp env.cells sc'.names []) [] env.qual none .none (some env)) (λcenv s₄=>
    codeAny (model c.prog c.w) A (.compStart (.ListComp elt [⟨.Name x px,it,ifs,0⟩] sc' pos) 0 it2 acc { cenv with scope:=relabel sc' env }) (RR acc cenv.locals) s₄) no s₃) no s₂) no s₁) no s:=by
 refine ak hE λv1 H1 hE1 hE2=>af hE2 λH2 hE3 hE4=>?_
 have e4:=Prod.mk.inj (Option.some.inj hE4)
 rw[e4.2]at hE3
 clear hE hE2 hE4
 refine bJ (DG (show each (pM c.F elt' k cs' ρ H1.length) v1 (H1++[.lst []])=some H' from hE3)) λgs hI=>?_
 refine ic (cC hco) λf1 f2 f3 f4=>?_
 refine ah (hit env A s φ I H ρ _ _ a hE1) λp φ1 I1 g1 t1 w1 x1 r1=>?_
 have a1:=a.ext x1 w1
 refine bJ (P0:=λu0=>itemAt v1 H1 0=some u0) (by
  cases gs with
  |zero=>exact aM hI
  |succ gs=>exact af (show(itemAt v1 (H1++[.lst []]) 0).bind _=_ from hI) λq hq _=>⟨q,(uS w1 r1).symm.trans hq⟩) λu0 hu0=>tJ (s:={ s with heap:=g1,toks:=t1 }) w1 r1 hu0 λad h2 k12 dead alive is2=>?_
 refine wpAny_newObj_type (wpAny_newFunctionEnv (λy hy=>(f4 y.1 y.2 hy).2.2) (λy hy=>(List.not_mem_nil hy).elim) (λh4 hns hsb=>?_) f1)
 dsimp only at hns hsb ⊢
 have dead:g1.get? ad=none:=dead
 have k12:∀b o,g1.get? b=some o→h2.get? b=some o:=k12
 generalize hh3:h2.push { cls:=.type "list",dict:=none,data:=.seq ([]:List Value).toArray }=h3 at hns hsb ⊢
 have k23:∀b o,h2.get? b=some o→h3.get? b=some o:=λb o e=>hh3▸Heap.get?_push_of_some _ e
 have k34:∀b o,h3.get? b=some o→h4.get? b=some o:=λb o e=>hsb.extBut b o (dC e (cM h3)) (Heap.get?_push_of_some _ e)
 have w2:Inv c.N c.B φ1 I1 H1 h2:=w1.keeps k12
 have w3:Inv c.N c.B (φ1++[⟨h2.objs.size,h2.objs.size⟩]) I1 (H1++[.lst []]) h3:=by rw[← hh3];exact w2.mf (items:=#[]) .nil
 have x3:Ext No φ1 I1 h2 (φ1++[⟨h2.objs.size,h2.objs.size⟩]) I1 h3:=by rw[← hh3];exact .mf φ1 I1 h2 #[]
 have w4:=w3.keeps k34
 have x14:Ext No φ1 I1 g1 (φ1++[⟨h2.objs.size,h2.objs.size⟩]) I1 h4:=((Ext.keeps k12).trans x3).trans (Ext.keeps k34)
 have x34:Ext No φ1 I1 h2 (φ1++[⟨h2.objs.size,h2.objs.size⟩]) I1 h4:=x3.trans (Ext.keeps k34)
 have G9:=a1.fr.ext x14 λ_ _ q=>q
 have C0:h3.get? h3.objs.size=none:=cM h3
 have Cg:g1.get? h3.objs.size=none:=(Ext.dead (W:=No) (φ:=φ1) (I:=I1) ((Ext.keeps k12).trans x3) C0)
 have ad3:(h3.get? ad).isSome=true:=x3.alive ad alive
 have hCad:ad≠h3.objs.size:=cH ad3 C0
 have hacc:ad≠h2.objs.size:=cH alive (cM h2)
 have off1:Off φ1 ad:=w1.l_ dead
 have owns:∀b,Own env b→(g1.get? b).isSome=true:=λb hb=>(a1.fr.own b hb).2.2.2
 have L:CL c sc sc' env k H1.length ρ s φ I v1 ad h3.objs.size h2.objs.size 0 (H1++[.lst []]) (φ1++[⟨h2.objs.size,h2.objs.size⟩]) I1 h4:=by
  refine⟨w4,x1.trans x14,is2.ext x34 off1 (λq=>q),⟨⟨h2.objs.size,h2.objs.size⟩,w1.len▸List.getElem?_concat_length,rfl⟩,?_,?_,λp hp=>dC (w1.jK p hp) dead,x1.dead dead,w1.dead dead,x34.alive ad alive,?_,x1.dead Cg⟩
  ·refine Hi hco hk g a.se G9 hns (w1.dead Cg) (w3.l_ C0) (λp hp=>dC (w3.jK p hp) C0) λn b hb=>cH (((Ext.keeps (W:=No) (φ:=φ1) (I:=I1) k12).trans x3).alive b (owns b (.inr ⟨n,hb⟩))) C0
  ·intro e he'
   exact(List.mem_append.mp he').elim (off1 e) λq=>(List.mem_singleton.mp q)▸⟨hacc,hacc⟩
  ·intro hb
   exact(IE hco a.se a1.fr hb).elim hCad λq=>cH (owns ad q) dead rfl
 have loop:=uH (RR:=RR (.ref h2.objs.size) h3.objs.size) (it:=it) (px:=px) (pos:=pos) g a.ao hco hk he hcs (λs' q=>hRR _ _ _ s' e4.1.symm q) gs _ (.mk 0 _ _ _ h4 (t1+([]:List (Str×Value)).length) hI L)
 exact codeAny_compStart_list loop (uT (s:={ s with heap:=h4,toks:=t1+([]:List (Str×Value)).length }) L.it loop)
theorem rQ(hx:∀elts k p,it≠.Set elts k p):∀y,foldedSetIterable it env y=pure y:=by
 intro y
 cases it<;>first|rfl|exact absurd rfl (hx _ _ _)
theorem j7(hco:c_ c.G sc sc' x=true):∀y∈sc'.names,y.2=.local→sc'.names.lookup y.1=some .local:=λy hy e=>(((cC hco).2.2.2 y.1 y.2 hy).1 e).2
theorem rD{n:Nat}{acc C:Addr}{s':Shared}{hf:PySem.Heap}(q:vE c s φ I n H' acc C s')(hs:Heap.SameBut C s'.heap hf):bS c.N c.B No s φ I (.ref n) H' (.ref acc) { s' with heap:=hf }:=by
 cases q with
 |mk φ1 I1 h1 tk w1 x1 ac oC iC bC sC m hm=>
  have hk:∀b o,b≠C→h1.get? b=some o→hf.get? b=some o:=λb o hb q=>(hs.2 b hb).trans q
  exact .mk φ1 I1 hf tk (w1.turned C hk oC bC iC) (x1.kQ hk sC) (ay ac λe he ha=>ha▸.ref n e he)
theorem tw(g:ku c.G)(hco:c_ c.G sc sc' x=true)(hk:look x c.G=some k)(hit:bg c sc it it')(he:bg c sc' elt elt')(hcs:CC c sc' ifs cs')(hset:∀elts k p,it≠.Set elts k p) :
  bg c sc (.ListComp elt [⟨.Name x px,it,ifs,0⟩] sc' pos) (.comp elt' k it' cs'):=λenv A s φ I H ρ v H' a h=>by
 rw[eval_ListComp]
 refine wpAny_comprehension_free (use:=none) rfl (rQ hset) (lq (hJ hco a.se a.fr)) (cC hco).1 (j7 hco) ?_
 refine mV (RR:=λacc C=>compPost (model c.prog c.w) A no none (bS c.N c.B No s φ I v H') acc C) g hco hk hit he hcs a h λn acc C s' e q=>?_
 rw[e]
 have q':=q
 cases q' with
 |mk φ1 I1 h1 tk w1 x1 hx oC iC bC sC m hm=>exact⟨m,hm,λhf hs=>rD q hs⟩
end
end
section
open PySem PySem.W PyProof.Rows
section
variable {c:Cx} {sc:Scope} {e:Expr} {e':E} {es:List Expr} {es':List E} {n:Nat}
theorem lV{f:Expr→Option E}(hf:∀e e',f e=some e'→bg c sc e e'):∀(es:List Expr) (es':List E),es.any isStar=false→eP f es=some es'→iy c sc es es'∧es'.length=es.length
 | [],es',_,h=>aL (P:=λes':List E=>iy c sc [] es'∧es'.length=0) h ⟨oe,rfl⟩
 |e::r,es',hs,h=>af (show(f e).bind _=_ from h) λx h1 h2=>af h2 λq h3 h4=>aL (P:=λes'=>iy c sc (e::r) es'∧es'.length=(e::r).length) h4 <|
   have t:=lV hf r q (of2 hs) h3
   ⟨iY (Kc hs) (hf _ _ h1) t.1,congrArg (·+1) t.2⟩
theorem oH{f:Expr→Option E}(hf:∀e e',f e=some e'→kx c sc e e'):∀(es:List Expr) (es':List E),eP f es=some es'→CC c sc es es'
 | [],es',h=>aL h DC
 |e::r,es',h=>af (show(f e).bind _=_ from h) λx h1 h2=>af h2 λq h3 h4=>aL h4 (AB (hf _ _ h1) (oH hf r q h3))
theorem wa{T:Tb}{G:List (Str×Nat)}{elts:List Expr}{k:Nat}{p:Pos}:cE T G n sc (.Set elts k p)≠some e':=by
 cases n<;>intro h<;>exact aM h
theorem qy{f:Expr→Option E}:∀{es:List Expr},eP f es=some []→es=[]
 | [],_=>rfl
 |_::_,h=>af h λ_ _ h2=>af h2 λ_ _ h4=>nomatch h4
theorem lW{f:Expr→Option E}{q:E}{l:List E}:∀{es:List Expr},eP f es=some (q::l)→es.any isStar=false→∃x r,es=x::r∧isStar x=false∧f x=some q∧eP f r=some l∧r.any isStar=false
 | [],h,_=>nomatch h
 |x::r,h,hs=>af h λ_ h1 h2=>af h2 λ_ h3 h4=>⟨x,r,rfl,Kc hs,(List.cons.inj (Option.some.inj h4)).1▸h1,(List.cons.inj (Option.some.inj h4)).2▸h3,of2 hs⟩
theorem s7{f:Expr→Option E}{as:List E}(h:k7 f es=some as):es.any isStar=false∧eP f es=some as:=
 j4 (show(if es.any isStar=true then none else eP f es)=some as from h) (λ_ h=>aM h) λn h=>⟨C1 n,h⟩
theorem CR{T:Tb}{G:List (Str×Nat)}{f:Scope→Expr→Option E}{elt:Expr}{gens:List Comprehension}{sc':Scope}{P:List Comprehension→E→Prop}(h:Nl G f sc elt gens sc'=some e')
  (K:∀x p it ifs k it' elt' cs',c_ G sc sc' x=true→look x G=some k→f sc it=some it'→f sc' elt=some elt'→eP (f sc') ifs=some cs'→P [⟨.Name x p,it,ifs,0⟩] (.comp elt' k it' cs')):P gens e':=by
 cases gens with
 |nil=>exact aM h
 |cons g r=>cases r with
  |cons=>exact aM h
  |nil=>
   cases g with
   |mk tg it ifs as=>
    have hv:=jz tg
    have h:(match pD tg with
     |.nm x=>if as=0 then(if c_ G sc sc' x then(look x G).bind λk=>(f sc it).bind λit=>(f sc' elt).bind λelt=>(eP (f sc') ifs).map λcs=>.comp elt k it cs else none)else none
     |_=>none:Option E)=some e':=h
    generalize pD tg=v at h hv
    cases v with
    |nm x=>
     exact aZ h λh0 h=>aZ h λhco h=>af h λk hk h=>af h λit' h1 h=>af h λelt' h2 h=>a_ (P:=P [⟨tg,it,ifs,as⟩]) h λcs' h3=>
      bJ hv λp e=>by rw[e,h0];exact K x p it ifs k it' elt' cs' hco hk h1 h2 h3
    |_=>exact aM h
variable {f:Expr→Option E}
noncomputable abbrev fb(c:Cx)(sc:Scope)(e:Expr)(e':E):Prop:=bg c sc e e'∧kx c sc e e'
theorem v9(ih:∀e e',f e=some e'→fb c sc e e'){op:BoolOp}:∀(es:List Expr) (e':E),Jt f op es=some e'→zX c sc op es e'
 | [],_,h=>aM h
 | [a],e',h=>af (show(f a).bind _=_ from h) λa' h1 h2=>aL (P:=zX c sc op [a]) h2 (Ak (ih _ _ h1).1 (ih _ _ h1).2)
 |a::b::r,e',h=>af (show(f a).bind _=_ from h) λa' h1 h2=>a_ (P:=zX c sc op (a::b::r)) (show(Jt f op (b::r)).map _=_ from h2) λr' h3=>by
  have A:=ih _ _ h1
  have R:=v9 ih (b::r) _ h3
  cases op with
  |And=>exact Ds A.1 A.2 R
  |Or=>exact GO A.1 A.2 R
theorem jm{op:CmpOp}{r:Expr}(h:¬ isSet r=true):behindInMarks op r=false:=by cases r<;>first|rfl|exact absurd rfl h
theorem Az(ih:∀e e',f e=some e'→fb c sc e e'){l:Expr}{ops:List CmpOp}{rs:List Expr}{p:Pos}(h:GQ f l ops rs=some e'):fb c sc (.Compare l ops rs p) e':=by
 cases ops with
 |nil=>exact aM h
 |cons op t=>cases rs with
  |nil=>cases t<;>first|exact aM h|(rename_i t;cases t<;>exact aM h)
  |cons r u=>cases t with
   |nil=>cases u with
    |nil=>exact j4 (show(if isSet r=true then none else _)=some e' from h) (λ_ h=>aM h) λhs h=>af h λop' h0 h=>af h λo h1 h=>a_ (P:=fb c sc (.Compare l [op] [r] p)) h λk h3=>
      ⟨DM (ih _ _ h1).1 (ih _ _ h3).1 h0 (jm hs),FC (ih _ _ h1).1 (ih _ _ h3).1 h0 (jm hs)⟩
    |cons=>exact aM h
   |cons o2 t=>cases u with
    |nil=>cases t<;>exact aM h
    |cons m u=>cases t with
     |cons=>exact aM h
     |nil=>cases u with
      |cons=>exact aM h
      |nil=>exact j4 (show(if isSet m=true then none else _)=some e' from h) (λ_ h=>aM h) λhs h=>af h λp1 h0 h=>af h λp2 h00 h=>af h λo h1 h=>af h λq h2 h=>a_ (P:=fb c sc (.Compare l [op,o2] [r,m] p)) h λk h3=>
        ⟨wF (ih _ _ h1).1 (ih _ _ h2).1 (ih _ _ h3).1 h0 h00 (jm hs),zL (ih _ _ h1).1 (ih _ _ h2).1 (ih _ _ h3).1 h0 h00 (jm hs)⟩
theorem Cr(ih:∀e e',f e=some e'→fb c sc e e'){o i:Expr}{p:Pos}(h:GS f o i=some e'):bg c sc (.Subscript o i p) e':=by
 have hv:=jz i
 have h:(match pD i with
  |.sl lo hi st=>Nz f o lo hi st
  |_=>(f o).bind λo=>(f i).map λi=>.sub o i:Option E)=some e':=h
 have pl:(∀l u st p,i≠.Slice l u st p)→((f o).bind λo=>(f i).map λi=>.sub o i)=some e'→bg c sc (.Subscript o i p) e':=λhn h=>
  af h λo' h1 h2=>a_ (P:=bg c sc (.Subscript o i p)) h2 λk h3=>D0 (ih _ _ h1).1 (ih _ _ h3).1 hn
 cases q:pD i with
 |sl lo hi st=>
  rw[q]at h hv
  clear pl
  refine bJ hv λp' e=>?_
  rw[e]
  cases st with
  |some=>exact aM h
  |none=>cases lo with
   |none=>cases hi with
    |none=>exact a_ (P:=bg c sc (.Subscript o (.Slice none none none p') p)) (show(f o).map _=_ from h) λk h1=>wH (ih _ _ h1).1
    |some hi=>exact af (show(f o).bind _=_ from h) λo' h1 h2=>a_ (P:=bg c sc (.Subscript o (.Slice none (some hi) none p') p)) h2 λk h3=>DZ (ih _ _ h1).1 (ih _ _ h3).1
   |some lo=>cases hi with
    |none=>exact af (show(f o).bind _=_ from h) λo' h1 h2=>a_ (P:=bg c sc (.Subscript o (.Slice (some lo) none none p') p)) h2 λk h3=>wI (ih _ _ h1).1 (ih _ _ h3).1
    |some=>exact aM h
 |_=>rw[q]at h;exact pl (λl u st p e=>by rw[e]at q;cases q) h
theorem t8(ih:∀e e',f e=some e'→fb c sc e e'){as:List E}{g:E→E}{P:List Expr→E→Prop}(hs:es.any isStar=false)(h1:eP f es=some as)(h:Dy as g=some e')(K:∀a x,bg c sc x a→isStar x=false→P [x] (g a)):P es e':=by
 cases as with
 |nil=>exact aM h
 |cons a r=>cases r with
  |cons=>exact aM h
  |nil=>exact aL (P:=P es) h (FO (lW h1 hs) λx r e hx h2 h3 _=>(e.trans (congrArg (x::·) (qy h3)))▸K a x (ih _ _ h2).1 hx)
theorem uy(ih:∀e e',f e=some e'→fb c sc e e'){as:List E}{g:E→E→E}{P:List Expr→E→Prop}(hs:es.any isStar=false)(h1:eP f es=some as)(h:Dz as g=some e')(K:∀a b x y,bg c sc x a→bg c sc y b→isStar x=false→isStar y=false→P [x,y] (g a b)):P es e':=by
 cases as with
 |nil=>exact aM h
 |cons a r=>cases r with
  |nil=>exact aM h
  |cons b r=>cases r with
   |cons=>exact aM h
   |nil=>exact aL (P:=P es) h (FO (lW h1 hs) λx r e hx h2 h3 h4=>FO (lW h3 h4) λy r' e' hy h5 h6 _=>((e.trans (congrArg (x::·) (e'.trans (congrArg (y::·) (qy h6))))).symm▸K a b x y (ih _ _ h2).1 (ih _ _ h5).1 hx hy))
theorem AY(ok:c.Ok)(cs:iM c)(ih:∀e e',f e=some e'→fb c sc e e'){x:Str}{as:List E}{p0 p:Pos}(hg:dR (sc.names.lookup x)=true)(ha:k7 f es=some as)(h:Dx c.T x as=some e'):bg c sc (.Call (.Name x p0) es [] p) e':=by
 refine dd (s7 ha) λhst h1=>dd (lV (λe e' q=>(ih e e' q).1) es as hst h1) λhev hlen=>?_
 have h:(match idx x c.T.fns with
  |some k=>if Nat.ble as.length 20 then some (.call k as)else none
  |none=>match idx x c.T.cls with
   |some k=>if Nat.ble as.length 20 then some (.mk k as)else none
   |none=>Nk x as:Option E)=some e':=h
 cases hk:idx x c.T.fns with
 |some k=>rw[hk]at h;exact aZ h λ_ h=>aL (P:=bg c sc (.Call (.Name x p0) es [] p)) h (AR ok cs hg hk hev hlen hst)
 |none=>
  rw[hk]at h
  cases hk:idx x c.T.cls with
  |some k=>rw[hk]at h;exact aZ h λ_ h=>aL (P:=bg c sc (.Call (.Name x p0) es [] p)) h (G7 ok cs hg hk hev hlen hst)
  |none=>
   rw[hk]at h
   exact j4 (show(if x=lY then _ else _)=some e' from h) (λe h=>t8 (P:=λes=>bg c sc (.Call (.Name x p0) es [] p)) ih hst h1 h λa z h3 hz=>e▸DQ ok (e▸hg) h3 hz) λ_ h=>
    j4 (show(if x=lX then _ else _)=some e' from h) (λe h=>t8 (P:=λes=>bg c sc (.Call (.Name x p0) es [] p)) ih hst h1 h λa z h3 hz=>e▸DI ok (e▸hg) h3 hz) λ_ h=>
    j4 (show(if x=lZ then _ else _)=some e' from h) (λe h=>uy (P:=λes=>bg c sc (.Call (.Name x p0) es [] p)) ih hst h1 h λa b z y h3 h4 hz hy=>e▸DV ok (e▸hg) h3 h4 hz hy) λ_ h=>
    j4 (show(if x=l7 then _ else _)=some e' from h) (λe h=>uy (P:=λes=>bg c sc (.Call (.Name x p0) es [] p)) ih hst h1 h λa b z y h3 h4 hz hy=>e▸DW ok (e▸hg) h3 h4 hz hy) λ_ h=>
    aZ h λe h=>aL (P:=bg c sc (.Call (.Name x p0) es [] p)) h (e▸wG ok (e▸hg) hev hlen hst)
theorem Ac(ih:∀e e',f e=some e'→fb c sc e e'){o:Expr}{m:Str}{q p:Pos}(h:Dt f o m q es p=some e'):bg c sc (.Call (.Attribute o m q) es [] p) e':=by
 cases es with
 |nil=>exact aM h
 |cons x r=>cases r with
  |cons=>exact aM h
  |nil=>exact aZ (show(if(decide (m=kI)&&Nat.beq q.endLine p.line&&!isStar x&&!isCall o)=true then _ else none)=some e' from h) λhq h=>af h λo' h1 h=>a_ (P:=bg c sc (.Call (.Attribute o m q) [x] [] p)) h λk h3=>
    (of_decide_eq_true (fe (fe (fe hq)))).symm▸DJ (ih _ _ h1).1 (ih _ _ h3).1 (ER (iz (fe hq))) (ER (iz hq)) (beq_iff_eq.mpr (Nat.eq_of_beq_eq_true (iz (fe (fe hq)))))
theorem wd(ok:c.Ok)(cs:iM c)(ih:∀e e',f e=some e'→fb c sc e e'){fn:Expr}{kws:List Keyword}{p:Pos}(h:CG c.T f sc fn es kws p=some e'):bg c sc (.Call fn es kws p) e':=by
 cases kws with
 |cons=>exact aM h
 |nil=>
  have hv:=jz fn
  have h:(match pD fn with
   |.nm x=>if dR (sc.names.lookup x)then(k7 f es).bind (Dx c.T x)else none
   |.at o m apos=>Dt f o m apos es p
   |_=>none:Option E)=some e':=h
  generalize pD fn=v at h hv
  cases v with
  |nm x=>exact bJ hv λp0 e=>aZ h λhg h=>af h λas h1 h2=>e▸AY ok cs ih hg h1 h2
  | «at» o m q=>exact(show fn=_ from hv)▸Ac ih h
  |_=>exact aM h
theorem fD(h1:bg c sc e e')(h2:∀env whole,isTrue e env whole=(do let v ← whole;standAt e.pos;holding [v] (truthy v))):fb c sc e e':=⟨h1,FF h1 h2⟩
theorem pR(ih:∀e e',f e=some e'→fb c sc e e'){k:List E→E}{z:Expr}(h:((k7 f es).bind λas=>if Nat.ble as.length 1000 then some (k as)else none)=some e')(hk:∀as,iy c sc es as→as.length≤1000→bg c sc z (k as)):bg c sc z e':=
 af h λas h1 h=>aZ h λhle h=>aL (P:=bg c sc z) h (dd (s7 h1) λhst h1=>hk _ (lV (λe e' q=>(ih e e' q).1) _ as hst h1).1 (Nat.le_of_ble_eq_true hle))
theorem rJ(ok:c.Ok)(cs:iM c)(g:ku c.G):∀(n:Nat) (sc:Scope) (e:Expr) (e':E),cE c.T c.G n sc e=some e'→fb c sc e e'
 |0,_,_,_,h=>aM h
 |n+1,sc,e,e',h=>by
  have ih:=rJ ok cs g n
  cases e with
  |Constant v k p=>
   cases v with
   |none=>exact aL (P:=fb c sc (.Constant .none k p)) h (fD pY λ_ _=>rfl)
   |bool b=>exact aL (P:=fb c sc (.Constant (.bool b) k p)) h (fD pX λ_ _=>rfl)
   |int i=>exact aL (P:=fb c sc (.Constant (.int i) k p)) h (fD rK λ_ _=>rfl)
   |_=>exact aM h
  |Name x p=>
   refine fD ?_ λ_ _=>rfl
   exact j4 (show(if lH (sc.names.lookup x)=true then(look x c.G).map E.l else if dR (sc.names.lookup x)=true then(idx x c.T.aV).map .aV else none)=some e' from h)
    (λhl h=>a_ (P:=bg c sc (.Name x p)) h λk h1=>DR g hl h1) λ_ h=>aZ h λhg h=>a_ (P:=bg c sc (.Name x p)) h λk h1=>DN ok hg h1
  |Attribute o a p=>
   refine fD ?_ λ_ _=>rfl
   exact j4 (show(if isCall o=true then none else(cE c.T c.G n sc o).bind λo=>(idx a c.T.dM).map λk=>E.attr o k)=some e' from h) (λ_ h=>aM h)
    λhc h=>af h λo' h1 h2=>a_ (P:=bg c sc (.Attribute o a p)) h2 λk h3=>AQ ok (ih _ _ _ h1).1 (C1 hc) h3
  |Subscript o i p=>exact fD (Cr (ih sc) h) λ_ _=>rfl
  |BinOp l op r p=>
   refine fD ?_ λ_ _=>rfl
   exact af (show(vB op).bind _=_ from h) λop' h0 h=>af h λo h1 h2=>a_ (P:=bg c sc (.BinOp l op r p)) h2 λk h3=>DK (ih _ _ _ h1).1 (ih _ _ _ h3).1 h0
  |UnaryOp op x p=>
   cases op with
   |Invert=>exact a_ (P:=fb c sc (.UnaryOp .Invert x p)) (show(cE c.T c.G n sc x).map _=_ from h) λk h1=>fD (DO (ih _ _ _ h1).1) λ_ _=>rfl
   |Not=>exact a_ (P:=fb c sc (.UnaryOp .Not x p)) (show(cE c.T c.G n sc x).map _=_ from h) λk h1=>⟨DY (ih _ _ _ h1).1,FE (ih _ _ _ h1).2⟩
   |USub=>exact a_ (P:=fb c sc (.UnaryOp .USub x p)) (show(cE c.T c.G n sc x).map _=_ from h) λk h1=>fD (DX (ih _ _ _ h1).1) λ_ _=>rfl
   |_=>exact aM h
  |BoolOp op l p=>exact have q:=v9 (ih sc) l e' h;⟨G6 q,Je q⟩
  |Compare l ops rs p=>exact Az (ih sc) h
  |IfExp t a b p=>
   exact af (show(cE c.T c.G n sc t).bind _=_ from h) λt' h1 h=>af h λa' h2 h=>a_ (P:=fb c sc (.IfExp t a b p)) h λb' h3=>
    ⟨DP (ih _ _ _ h1).2 (ih _ _ _ h2).1 (ih _ _ _ h3).1,FD (ih _ _ _ h1).2 (ih _ _ _ h2).2 (ih _ _ _ h3).2⟩
  |Call fn args kws p=>exact fD (wd ok cs (ih sc) h) λ_ _=>rfl
  |List l p=>exact fD (pR (ih sc) (k:=.lst) h λas=>DU) λ_ _=>rfl
  |Tuple l k p=>exact fD (pR (ih sc) (k:=.tup) h λas=>D1) λ_ _=>rfl
  |ListComp elt gens sc' p=>
   refine fD ?_ λ_ _=>rfl
   exact CR (T:=c.T) (P:=λgens=>bg c sc (.ListComp elt gens sc' p)) h λx p' it ifs k it' elt' cs' hco hk h1 h2 h3=>tw g hco hk (ih _ _ _ h1).1 (ih _ _ _ h2).1 (oH (λe e' q=>(ih _ e e' q).2) _ cs' h3) λelts k p q=>wa (q▸h1)
  |_=>exact aM h
end
end
section
open PySem PySem.W PyProof.Rows
inductive GA (φ:List Ent) (I:bR):Fl→Flow→Prop
 |bf:GA φ I .bf .next
 |cnt:GA φ I .cnt .cont
 |ret {v:V} {y:Value} (r:VR φ I v y):GA φ I (.ret v) (.ret y)
inductive jx (c:Cx) (env:Env) (s:Shared) (φ:List Ent) (I:bR) (fl:Fl) (ρ':Loc) (H':MH) (f:Flow):Shared→Prop
 |mk (φ':List Ent) (I':bR) (h':PySem.Heap) (tk:Nat) (vi:Inv c.N c.B φ' I' H' h') (x:Ext (Own env) φ I s.heap φ' I' h') (fr:iN c.B env c.G ρ' φ' I' h') (q:GA φ' I' fl f):jx c env s φ I fl ρ' H' f { s with heap:=h',toks:=tk }
noncomputable def fq(c:Cx)(sc:Scope)(st:Stmt)(st':S):Prop:=∀(env:Env) (A:Around) (s:Shared) (φ:List Ent) (I:bR) (H:MH) (ρ:Loc) (fl:Fl) (ρ':Loc) (H':MH),
 At c sc env A φ I H ρ s.heap→tx c.F st' ρ H=some (fl,ρ',H')→wpAny (model c.prog c.w) A (exec st env) (jx c env s φ I fl ρ' H') no s
noncomputable def uA(c:Cx)(sc:Scope)(b:List Stmt)(b':List S):Prop:=∀(env:Env) (A:Around) (s:Shared) (φ:List Ent) (I:bR) (H:MH) (ρ:Loc) (fl:Fl) (ρ':Loc) (H':MH),
 At c sc env A φ I H ρ s.heap→eZ c.F b' ρ H=some (fl,ρ',H')→wpAny (model c.prog c.w) A (execs b env) (jx c env s φ I fl ρ' H') no s
section
variable {c:Cx} {sc:Scope} {A:Around} {EE:Value→Shared→Prop} {env:Env} {φ φ' φ1:List Ent} {I I' I1:bR} {H H':MH} {ρ ρ':Loc} {h h' h1:PySem.Heap} {s:Shared} {v u:V} {W:Addr→Prop} {x:Str} {k:Nat} {y:Value}
variable {e o i t:Expr} {e' o' i' t':E} {st:Stmt} {st':S} {b b2:List Stmt} {b' b2':List S} {pos px:Pos} {fl:Fl} {f:Flow} {tk:Nat}
noncomputable def Xg(c:Cx)(A:Around)(env:Env)(s:Shared)(φ:List Ent)(I:bR)(st:Stmt)(fl:Fl)(ρ':Loc)(H':MH):Prop:=wpAny (model c.prog c.w) A (exec st env) (jx c env s φ I fl ρ' H') no s
theorem jx.after{s':Shared}(x:Ext (Own env) φ I s.heap φ1 I1 h1)(q:jx c env { s with heap:=h1,toks:=tk } φ1 I1 fl ρ' H' f s'):jx c env s φ I fl ρ' H' f s':=by
 cases q with
 |mk φ2 I2 h2 t2 vi y fr q=>exact .mk φ2 I2 h2 t2 vi (x.trans y) fr q
theorem iZ{m:Sem Flow}{R:Flow→Shared→Prop}{EE:Value→Shared→Prop}(q:wpAny (model c.prog c.w) A m (jx c env s φ I fl ρ' H') no s)
  (k:∀f φ1 I1 h1 tk,Inv c.N c.B φ1 I1 H' h1→Ext (Own env) φ I s.heap φ1 I1 h1→iN c.B env c.G ρ' φ1 I1 h1→GA φ1 I1 fl f→R f { s with heap:=h1,toks:=tk }):wpAny (model c.prog c.w) A m R EE s:=
 wpAny_mono q (λ_ _ q=>by cases q with|mk φ1 I1 h1 tk vi x fr q=>exact k _ φ1 I1 h1 tk vi x fr q) λ_ _ e=>e.elim
theorem lA{m:Sem Flow}(x:Ext (Own env) φ I s.heap φ1 I1 h1)(q:wpAny (model c.prog c.w) A m (jx c env { s with heap:=h1,toks:=tk } φ1 I1 fl ρ' H') no { s with heap:=h1,toks:=tk }) :
  wpAny (model c.prog c.w) A m (jx c env s φ I fl ρ' H') no { s with heap:=h1,toks:=tk }:=wpAny_mono q (λ_ _ q=>q.after x) λ_ _ e=>e
theorem Ext.own(x:Ext No φ I h φ' I' h'):Ext (Own env) φ I h φ' I' h':=x.wide λ_ _ q=>q.elim
theorem At.own{φ':List Ent}{I':bR}{h':PySem.Heap}(a:At c sc env A φ I H ρ h)(vi:Inv c.N c.B φ' I' H' h')(fr:iN c.B env c.G ρ' φ' I' h'):At c sc env A φ' I' H' ρ' h':=⟨a.se,a.ao,vi,fr⟩
theorem zC(hk:fw c.G sc x=some k):look x c.G=some k∧(sc.names.lookup x=some .local∨sc.names.lookup x=some .cell):=
 aZ (show(if xk (sc.names.lookup x)=true then look x c.G else none)=some k from hk) λhs hk=>⟨hk,by
  revert hs
  cases sc.names.lookup x with
  |none=>exact bY
  |some n=>cases n<;>first|exact λ_=>.inl rfl|exact λ_=>.inr rfl|exact bY⟩
theorem uq(a:At c sc env A φ I H ρ h)(hk:sc.names.lookup x=some .local∨sc.names.lookup x=some .cell):env.kindOf x=some .local∨env.kindOf x=some .cell:=hk.imp (a.se.loc x) (a.se.KU x)
theorem qZ(g:ku c.G)(a:At c sc env A φ I H ρ s.heap)(hk:fw c.G sc x=some k)(r:VR φ I v y){Q:Unit→Shared→Prop}
  (h:∀h' tk,Inv c.N c.B φ I H h'→Ext (Own env) φ I s.heap φ I h'→iN c.B env c.G (aX ρ k v) φ I h'→Q () { s with heap:=h',toks:=tk }):wpAny (model c.prog c.w) A (storeName env x y) Q no s:=by
 refine dd (zC hk) λh1 h2=>?_
 exact C_ a.vi a.fr g h1 (uq a h2) r λh' tk L hL _ _ vi x fr=>h h' tk vi (x.wide λb _ hb=>hb▸hL) fr
theorem eQ(hc:cG e=false)(he:∀el g sc p,e≠.SetComp el g sc p)(hd:∀a el g sc p,e≠.DictComp a el g sc p)(t:Option Expr)(n:Nat):swapsWith e t n env=pure false:=by
 cases e<;>first|rfl|exact absurd rfl (he _ _ _ _)|exact absurd rfl (hd _ _ _ _ _)|exact pF hc
theorem gD{T:Tb}{G:List (Str×Nat)}{n:Nat}(h:cE T G n sc e=some e'):(∀el g sc p,e≠.SetComp el g sc p)∧(∀a el g sc p,e≠.DictComp a el g sc p)∧(∀a b d p,e≠.Slice a b d p)∧(∀a k p,e≠.Set a k p):=by
 cases n with
 |zero=>exact aM h
 |succ n=>exact⟨λ_ _ _ _ q=>aM (q▸h),λ_ _ _ _ _ q=>aM (q▸h),λ_ _ _ _ q=>aM (q▸h),λ_ _ _ q=>aM (q▸h)⟩
theorem Fx(g:ku c.G)(hk:fw c.G sc x=some k)(he:bg c sc e e')(hc:cG e=false)(hq:(∀el g sc p,e≠.SetComp el g sc p)∧(∀a el g sc p,e≠.DictComp a el g sc p)) :
  fq c sc (.Assign [.Name x px] e pos) (.set k e'):=λenv A s φ I H ρ fl ρ' H' a h=>ak h λv H1 h1 h2=>fU (P:=Xg c A env s φ I (.Assign [.Name x px] e pos)) h2
 (wpAny_Assign_Name (ah (he env A s φ I H ρ _ _ a h1) λp φ1 I1 g1 t1 v1 x1 r1=>
  qZ g (a.ext x1 v1) hk r1 λh' tk v2 x2 f2=>.mk φ1 I1 h' tk v2 (x1.own.trans x2) f2 .bf) (eQ hc hq.1 hq.2 _ _))
theorem Fv(he:bg c sc e e'):fq c sc (.Return (some e) pos) (.ret e'):=λenv A s φ I H ρ fl ρ' H' a h=>ak h λv H1 h1 h2=>fU (P:=Xg c A env s φ I (.Return (some e) pos)) h2
 (wpAny_Return_some (ah (he env A s φ I H ρ _ _ a h1) λp φ1 I1 g1 t1 v1 x1 r1=>.mk φ1 I1 g1 t1 v1 x1.own (a.ext x1 v1).fr (.ret r1)))
theorem Cd:fq c sc (.Return none pos) (.ret (.c .bW)):=λenv A s φ I H ρ fl ρ' H' a h=>fU (P:=Xg c A env s φ I (.Return none pos)) h (wpAny_Return_none (.mk φ I s.heap s.toks a.vi (.refl ..) a.fr (.ret .bW)))
theorem Fo:fq c sc (.Continue pos) .cnt:=λenv A s φ I H ρ fl ρ' H' a h=>fU (P:=Xg c A env s φ I (.Continue pos)) h (wpAny_Continue (.mk φ I s.heap s.toks a.vi (.refl ..) a.fr .cnt))
theorem Fm:fq c sc st .bad:=λenv A s φ I H ρ fl ρ' H' a h=>aM h
theorem Fq(he:bg c sc e e')(hc:cG e=false)(hq:(∀el g sc p,e≠.SetComp el g sc p)∧(∀a el g sc p,e≠.DictComp a el g sc p)):fq c sc (.Expr e pos) (.exp e'):=λenv A s φ I H ρ fl ρ' H' a h=>by
 refine ak h λv H1 h1 h2=>?_
 cases v with
 |bW=>
  exact fU (P:=Xg c A env s φ I (.Expr e pos)) h2 (wpAny_Expr (ah (he env A s φ I H ρ _ _ a h1) λp φ1 I1 g1 t1 v1 x1 r1=>r1.oN▸.mk φ1 I1 g1 t1 v1 x1.own (a.ext x1 v1).fr .bf) (by unfold interactive;rw[a.fr.kind];rfl) (eQ hc hq.1 hq.2 _ _))
 |_=>exact aM h2
theorem Ce{nm:Str}(ok:c.Ok)(hk:idx nm c.T.dM=some k)(he:bg c sc e e')(ho:bg c sc o o')(hc:cG e=false)(hq:(∀el g sc p,e≠.SetComp el g sc p)∧(∀a el g sc p,e≠.DictComp a el g sc p)) :
  fq c sc (.Assign [.Attribute o nm px] e pos) (.b6 o' k e'):=λenv A s φ I H ρ fl ρ' H' a h=>by
 refine ak h λv H1 h1 h2=>ak h2 λu H2 h3 h4=>af h4 λH3 h5 h6=>fU (P:=Xg c A env s φ I (.Assign [.Attribute o nm px] e pos)) h6 ?_
 refine plainObj_wpAny_Assign_Attribute (ah (he env A s φ I H ρ _ _ a h1) λp φ1 I1 g1 t1 v1 x1 r1=>?_) (eQ hc hq.1 hq.2 _ _)
 refine ah (ho env A _ φ1 I1 H1 ρ _ _ (a.ext x1 v1) h3) λq φ2 I2 g2 t2 v2 x2 r2=>?_
 rw[← ok.dM k nm hk]
 refine ah (mq (s:={ s with heap:=g2,toks:=t2 }) (W:=No) v2 ok.good ok.inj ok.X ok.nm ok.len (fT hk).1 r2 (r1.ext x2) h5) λq φ3 I3 g3 t3 v3 x3 _=>?_
 exact .mk φ3 I3 g3 t3 v3 (((x1.trans x2).trans x3).own) ((a.ext ((x1.trans x2).trans x3) v3).fr) .bf
theorem Cj(he:bg c sc e e')(ho:bg c sc o o')(hi:bg c sc i i')(hc:cG e=false)(hq:(∀el g sc p,e≠.SetComp el g sc p)∧(∀a el g sc p,e≠.DictComp a el g sc p)) :
  fq c sc (.Assign [.Subscript o i px] e pos) (.gW o' i' e'):=λenv A s φ I H ρ fl ρ' H' a h=>by
 refine ak h λv H1 h1 h2=>ak h2 λu H2 h3 h4=>ak h4 λw H3 h5 h6=>af h6 λH4 h7 h8=>fU (P:=Xg c A env s φ I (.Assign [.Subscript o i px] e pos)) h8 ?_
 refine wpAny_Assign_Subscript (ah (he env A s φ I H ρ _ _ a h1) λp φ1 I1 g1 t1 v1 x1 r1=>?_) (eQ hc hq.1 hq.2 _ _)
 refine ah (ho env A _ φ1 I1 H1 ρ _ _ (a.ext x1 v1) h3) λq φ2 I2 g2 t2 v2 x2 r2=>?_
 refine ah (hi env A _ φ2 I2 H2 ρ _ _ (a.ext (x1.trans x2) v2) h5) λq3 φ3 I3 g3 t3 v3 x3 r3=>?_
 refine ah (nJ (s:={ s with heap:=g3,toks:=t3 }) (W:=No) v3 (r2.ext x3) r3 ((r1.ext x2).ext x3) h7) λq φ4 I4 g4 t4 v4 x4 _=>?_
 exact .mk φ4 I4 g4 t4 v4 ((((x1.trans x2).trans x3).trans x4).own) ((a.ext (((x1.trans x2).trans x3).trans x4) v4).fr) .bf
theorem xb{γ:Type}{f:Int→Int→Option γ}{r:γ}{v u:V}{x':Value}{G:Prop}(h:(match v,u with|.int x,.int y=>f x y|_,_=>none)=some r)(ra:VR φ I v x')(rb:VR φ' I' u y)
  (k:∀i j,(∃t,x'=.int i t)→(∃t,y=.int j t)→f i j=some r→G):G:=by
 cases v<;>first|exact aM h|skip
 cases u<;>first|exact aM h|skip
 exact k _ _ ra.b0 rb.b0 h
theorem Fj{op:Operator}{op':Op}(g:ku c.G)(hk:fw c.G sc x=some k)(ho:vB op=some op')(he:bg c sc e e'):fq c sc (.AugAssign (.Name x px) op e pos) (.aug k op' e'):=λenv A s φ I H ρ fl ρ' H' a h=>by
 refine af h λv h1 h2=>ak h2 λu H1 h3 h4=>dd (zC hk) λq1 q2=>?_
 have hl:lH (env.kindOf x)=true:=(uq a q2).elim (λq=>q▸rfl) λq=>q▸rfl
 refine wpAny_AugAssign_Name (CS a.fr g q1 hl h1 λy r=>ah (he env A s φ I H ρ _ _ a h3) λp φ1 I1 g1 t1 v1 x1 r1=>?_)
 refine xb h4 r r1 λi j e1 e2 h4=>?_
 obtain⟨ta,rfl⟩:=e1
 obtain⟨tb,rfl⟩:=e2
 refine af h4 λz h5 h6=>?_
 refine(oi (s:={ s with heap:=g1,toks:=t1 }) ho h5 λtc tk=>?_).2
 exact qZ (s:={ s with heap:=g1,toks:=tk }) g (a.ext x1 v1) hk (.int _ _) λh' tk v2 x2 f2=>fU (P:=λfl ρ' H'=>jx c env s φ I fl ρ' H' .next { s with heap:=h',toks:=tk }) h6 (.mk φ1 I1 h' tk v2 (x1.own.trans x2) f2 .bf)
theorem Ca{nm:Str}{op:Operator}{op':Op}(ok:c.Ok)(hk:idx nm c.T.dM=some k)(hop:vB op=some op')(ho:bg c sc o o')(he:bg c sc e e'):fq c sc (.AugAssign (.Attribute o nm px) op e pos) (.vU o' k op' e'):=λenv A s φ I H ρ fl ρ' H' a h=>by
 refine ak h λv H1 h1 h2=>af h2 λw h3 h4=>ak h4 λu H2 h5 h6=>?_
 refine wpAny_AugAssign_AttributeAny (ah (ho env A s φ I H ρ _ _ a h1) λp φ1 I1 g1 t1 v1 x1 r1=>?_)
 rw[← ok.dM k nm hk]
 refine ah (s9 (s:={ s with heap:=g1,toks:=t1 }) (W:=No) v1 ok.good ok.X (fT hk).1 r1 h3) λq φ2 I2 g2 t2 v2 x2 r2=>?_
 refine ah (he env A _ φ2 I2 H1 ρ _ _ (a.ext (x1.trans x2) v2) h5) λq3 φ3 I3 g3 t3 v3 x3 r3=>?_
 refine xb h6 r2 r3 λi j e1 e2 h6=>?_
 obtain⟨ta,rfl⟩:=e1
 obtain⟨tb,rfl⟩:=e2
 refine af h6 λz h7 h8=>af h8 λH3 h9 h10=>?_
 refine(oi (s:={ s with heap:=g3,toks:=t3 }) hop h7 λtc tk=>?_).2
 refine ah (mq (s:={ s with heap:=g3,toks:=tk }) (W:=No) v3 ok.good ok.inj ok.X ok.nm ok.len (fT hk).1 ((r1.ext x2).ext x3) (.int z tc) h9) λq φ4 I4 g4 t4 v4 x4 _=>?_
 have xx:=((x1.trans x2).trans x3).trans x4
 exact fU (P:=λfl ρ' H'=>jx c env s φ I fl ρ' H' .next { s with heap:=g4,toks:=t4 }) h10 (.mk φ4 I4 g4 t4 v4 xx.own (a.ext xx v4).fr .bf)
theorem Cb{op:Operator}{op':Op}(hop:vB op=some op')(ho:bg c sc o o')(hi:bg c sc i i')(he:bg c sc e e')(hs:∀l u st p,i≠.Slice l u st p):fq c sc (.AugAssign (.Subscript o i px) op e pos) (.nV o' i' op' e'):=λenv A s φ I H ρ fl ρ' H' a h=>by
 refine ak h λv H1 h1 h2=>ak h2 λw H2 h3 h4=>af h4 λw2 h5 h6=>ak h6 λu H3 h7 h8=>?_
 refine wpAny_AugAssign_SubscriptAny (ah (ho env A s φ I H ρ _ _ a h1) λp φ1 I1 g1 t1 v1 x1 r1=>?_) (by intro _ _ _;cases i<;>first|rfl|exact absurd rfl (hs _ _ _ _))
 refine ah (hi env A _ φ1 I1 H1 ρ _ _ (a.ext x1 v1) h3) λq φ2 I2 g2 t2 v2 x2 r2=>?_
 refine ah (zH (s:={ s with heap:=g2,toks:=t2 }) (W:=No) v2 (r1.ext x2) r2 h5 (value:=o) hs).1 λq3 φ3 I3 g3 t3 v3 x3 r3=>?_
 refine ah (he env A _ φ3 I3 H2 ρ _ _ (a.ext ((x1.trans x2).trans x3) v3) h7) λq4 φ4 I4 g4 t4 v4 x4 r4=>?_
 refine xb h8 r3 r4 λi j e1 e2 h8=>?_
 obtain⟨ta,rfl⟩:=e1
 obtain⟨tb,rfl⟩:=e2
 refine af h8 λz h9 h10=>af h10 λH4 h11 h12=>?_
 refine(oi (s:={ s with heap:=g4,toks:=t4 }) hop h9 λtc tk=>?_).2
 refine ah (nJ (s:={ s with heap:=g4,toks:=tk }) (W:=No) v4 (((r1.ext x2).ext x3).ext x4) ((r2.ext x3).ext x4) (.int z tc) h11) λq φ5 I5 g5 t5 v5 x5 _=>?_
 have xx:=(((x1.trans x2).trans x3).trans x4).trans x5
 exact fU (P:=λfl ρ' H'=>jx c env s φ I fl ρ' H' .next { s with heap:=g5,toks:=t5 }) h12 (.mk φ5 I5 g5 t5 v5 xx.own (a.ext xx v5).fr .bf)
theorem Dn:uA c sc [] []:=λenv A s φ I H ρ fl ρ' H' a h=>fU (P:=λfl ρ' H'=>wpAny (model c.prog c.w) A (execs [] env) (jx c env s φ I fl ρ' H') no s) h (wpAny_execs_nil (.mk φ I s.heap s.toks a.vi (.refl ..) a.fr .bf))
theorem Ah(h1:fq c sc st st')(h2:uA c sc b b'):uA c sc (st::b) (st'::b'):=λenv A s φ I H ρ fl ρ' H' a h=>by
 refine af h λr h3 h4=>wpAny_execs_cons (iZ (h1 env A s φ I H ρ r.1 r.2.1 r.2.2 a h3) λf φ1 I1 g1 t1 v1 x1 fr1 r1=>?_)
 generalize r.1=f1 at h4 r1
 cases r1 with
 |bf=>exact lA (tk:=t1) x1 (h2 env A _ φ1 I1 _ _ _ _ _ (a.own v1 fr1) h4)
 |cnt=>exact fU (P:=λfl ρ' H'=>jx c env s φ I fl ρ' H' .cont { s with heap:=g1,toks:=t1 }) h4 (.mk φ1 I1 g1 t1 v1 x1 fr1 .cnt)
 |ret q=>exact fU (P:=λfl ρ' H'=>jx c env s φ I fl ρ' H' (.ret _) { s with heap:=g1,toks:=t1 }) h4 (.mk φ1 I1 g1 t1 v1 x1 fr1 (.ret q))
theorem Ft(ht:kx c sc t t')(h1:uA c sc b b')(h2:uA c sc b2 b2'):fq c sc (.If t b b2 pos) (.ite t' b' b2'):=λenv A s φ I H ρ fl ρ' H' a h=>by
 refine ak h λx H1 h3 h4=>af h4 λq h5 h6=>?_
 refine wpAny_If (ah (ht env A s φ I H ρ _ _ _ a h3 h5) λp φ1 I1 g1 t1 v1 x1 r1=>?_)
 subst r1
 cases p with
 |true=>exact lA (tk:=t1) x1.own (h1 env A _ φ1 I1 H1 ρ _ _ _ (a.ext x1 v1) h6)
 |false=>exact lA (tk:=t1) x1.own (h2 env A _ φ1 I1 H1 ρ _ _ _ (a.ext x1 v1) h6)
inductive WL (c:Cx) (env:Env) (s:Shared) (φ:List Ent) (I:bR) (t':E) (b':List S) (fl:Fl) (ρ':Loc) (H':MH) (gs:Nat):Shared→Prop
 |mk (ρ1:Loc) (H1:MH) (φ1:List Ent) (I1:bR) (h1:PySem.Heap) (tk:Nat) (hE:Cw (ar c.F t') (eZ c.F b') gs ρ1 H1=some (fl,ρ',H')) (hv:Inv c.N c.B φ1 I1 H1 h1) (hx:Ext (Own env) φ I s.heap φ1 I1 h1) (hf:iN c.B env c.G ρ1 φ1 I1 h1) :
  WL c env s φ I t' b' fl ρ' H' gs { s with heap:=h1,toks:=tk }
theorem FJ(ht:kx c sc t t')(hb:uA c sc b b'){R:Result→Shared→Prop}(hR:∀f s',jx c env s φ I fl ρ' H' f s'→R (.ok f) s')(se:z6 sc env)(ao:vC A c.d)(gs:Nat)(s':Shared)(L:WL c env s φ I t' b' fl ρ' H' gs s') :
  codeAny (model c.prog c.w) A (.whileLoop t b [] env) R s':=by
 refine codeAny_whileLoop (I:=WL c env s φ I t' b' fl ρ' H') ?_ gs L
 clear L gs s'
 intro gs s' L
 cases L with
 |mk ρ1 H1 φ1 I1 h1 tk hE hv hx hf=>
  cases gs with
  |zero=>exact aM hE
  |succ gs=>
   refine ak hE λx H2 h3 h4=>af h4 λq h5 h6=>?_
   have a1:At c sc env A φ1 I1 H1 ρ1 h1:=⟨se,ao,hv,hf⟩
   refine gc (ah (ht env A { s with heap:=h1,toks:=tk } φ1 I1 H1 ρ1 _ _ _ a1 h3 h5) λp φ2 I2 g2 t2 v2 x2 r2=>?_)
   rw[r2]
   have a2:=a1.ext x2 v2
   cases q with
   |false=>exact fU (P:=λfl ρ' H'=>(∀f s',jx c env s φ I fl ρ' H' f s'→R (.ok f) s')→wpAny (model c.prog c.w) A (execs [] env) (λf s'=>R (.ok f) s') _ _) h6 (λhR=>wpAny_execs_nil (hR _ _ (.mk φ2 I2 g2 t2 v2 (hx.trans x2.own) a2.fr .bf))) hR
   |true=>
    refine af h6 λr h7 h8=>iZ (hb env A { s with heap:=g2,toks:=t2 } φ2 I2 H2 ρ1 r.1 r.2.1 r.2.2 a2 h7) λf φ3 I3 g3 t3 v3 x3 fr3 r3=>?_
    have xx:=(hx.trans x2.own).trans x3
    generalize r.1=f1 at h8 r3
    cases r3 with
    |ret q=>exact hR _ _ (fU (P:=λfl ρ' H'=>jx c env s φ I fl ρ' H' (.ret _) { s with heap:=g3,toks:=t3 }) h8 (.mk φ3 I3 g3 t3 v3 xx fr3 (.ret q)))
    |bf=>exact⟨gs,Nat.lt_succ_self _,.mk _ _ φ3 I3 g3 t3 h8 v3 xx fr3⟩
    |cnt=>exact⟨gs,Nat.lt_succ_self _,.mk _ _ φ3 I3 g3 t3 h8 v3 xx fr3⟩
theorem Fy(ht:kx c sc t t')(hb:uA c sc b b'):fq c sc (.While t b [] pos) (.zR t' b'):=λenv A s φ I H ρ fl ρ' H' a h=>
 wpAny_While (FJ (s:=s) ht hb (λf s' q=>q) a.se a.ao turns s (.mk ρ H φ I s.heap s.toks h a.vi (.refl ..) a.fr))
end
end
section
open PySem PySem.W PyProof.Rows
noncomputable def rR(put:Loc→V→Option Loc)(body:Loc→MH→RS)(v:V):Nat→Nat→Loc→MH→RS
 |0,_,_,_=>none
 |g+1,i,ρ,H=>(itemAt v H i).bind λq=>match q with
  |none=>some (.bf,ρ,H)
  |some u=>(put ρ u).bind λρ=>(body ρ H).bind λr=>match r.1 with
   |.ret v=>some (.ret v,r.2.1,r.2.2)
   |_=>rR put body v g (i+1) r.2.1 r.2.2
theorem rT(put:Loc→V→Option Loc)(body:Loc→MH→RS)(v:V)(l0:List V)(hv:∀H i,itemAt v H i=some l0[i]?):∀(l:List V) (i:Nat) (ρ:Loc) (H:MH) (r:Fl×Loc×MH),l0.drop i=l→wU put body l ρ H=some r→∃g,rR put body v g i ρ H=some r
 | [],i,ρ,H,r,hl,h=>⟨1,(bs ((hv H i).trans (congrArg some (List.getElem?_eq_none (List.drop_eq_nil_iff.mp hl))))).trans h⟩
 |u::l,i,ρ,H,r,hl,h=>by
  have hu:itemAt v H i=some (some u):=(hv H i).trans (congrArg some (tq hl))
  have hd:=tu hl
  refine af (show(put ρ u).bind _=some r from h) λρ1 h1 h2=>af h2 λq h3 h4=>?_
  have go:∀g,(match q.1 with|.ret v=>some (.ret v,q.2.1,q.2.2)|_=>rR put body v g (i+1) q.2.1 q.2.2:RS)=some r→rR put body v (g+1) i ρ H=some r:=λg e=>(bs hu).trans ((bs h1).trans ((bs h3).trans e))
  cases hq:q.1 with
  |ret w=>exact⟨1,go 0 (by rw[hq]at h4 ⊢;exact h4)⟩
  |_=>rw[hq]at h4;exact bJ (rT put body v l0 hv l (i+1) q.2.1 q.2.2 r hd h4) λg hg=>⟨g+1,go g (by rw[hq];exact hg)⟩
theorem wR(put:Loc→V→Option Loc)(body:Loc→MH→RS)(n:Nat):∀(g i:Nat) (ρ:Loc) (H:MH) (r:Fl×Loc×MH),forL put body n g i ρ H=some r→rR put body (.ref n) g i ρ H=some r
 |0,_,_,_,_,h=>aM h
 |g+1,i,ρ,H,r,h=>af (show(aj H n).bind _=some r from h) λl h1 h2=>by
  have hi:itemAt (.ref n) H i=some l[i]?:=congrArg (Option.map _) h1
  refine(bs hi).trans ?_
  clear hi
  cases q:l[i]? with
  |none=>rw[q]at h2;exact h2
  |some u=>
   rw[q]at h2
   refine af h2 λρ1 h3 h4=>af h4 λx h5 h6=>(bs h3).trans ((bs h5).trans ?_)
   cases hq:x.1 with
   |ret v=>rw[hq]at h6;exact h6
   |_=>rw[hq]at h6;exact wR put body n g (i+1) _ _ r h6
theorem D8{put:Loc→V→Option Loc}{body:Loc→MH→RS}{v:V}{ρ:Loc}{H:MH}{r:Fl×Loc×MH}(h:AZ put body v ρ H=some r):∃g,rR put body v g 0 ρ H=some r:=by
 cases v with
 |ref n=>exact af (show(aj H n).bind _=some r from h) λl h1 h2=>⟨_,wR put body n _ 0 ρ H r h2⟩
 |tup l=>exact rT put body (.tup l) l (λ_ _=>rfl) l 0 ρ H r rfl h
 |bQ a b c=>exact af (show(dc a b c).bind _=some r from h) λl h1 h2=>rT put body (.bQ a b c) l (λ_ _=>congrArg (Option.map _) h1) l 0 ρ H r rfl h2
 |_=>exact aM h
section
variable {c:Cx} {sc:Scope} {A:Around} {EE:Value→Shared→Prop} {env:Env} {φ φ' φ1:List Ent} {I I' I1:bR} {H H':MH} {ρ ρ':Loc} {h h' h1:PySem.Heap} {s:Shared} {v u:V} {W:Addr→Prop} {x:Str} {k:Nat} {y:Value}
variable {e o i t:Expr} {e' o' i' t':E} {st:Stmt} {st':S} {b b2:List Stmt} {b' b2':List S} {pos px:Pos} {fl:Fl} {f:Flow} {tk:Nat}
structure LL (c:Cx) (env:Env) (s:Shared) (φ:List Ent) (I:bR) (v:V) (a:Addr) (i:Nat) (ρ1:Loc) (H1:MH) (φ1:List Ent) (I1:bR) (h1:PySem.Heap):Prop where
 vi:Inv c.N c.B φ1 I1 H1 h1
 x:Ext (Own env) φ I s.heap φ1 I1 h1
 it:IS φ1 I1 v i a h1
 fr:iN c.B env c.G ρ1 φ1 I1 h1
 ao:Off φ1 a
 ai:∀p∈I1,p.1≠a
 an:s.heap.get? a=none
 ab:c.B.get? a=none
 aa:(h1.get? a).isSome=true
 aw:¬ Own env a
noncomputable def Jm(c:Cx)(sc:Scope)(target:Expr)(put:Loc→V→Option Loc)(ok:V→Prop):Prop:=
 ∀(env:Env) (A:Around) (s:Shared) (φ:List Ent) (I:bR) (H:MH) (ρ ρ':Loc) (u:V) (y:Value),At c sc env A φ I H ρ s.heap→VR φ I u y→put ρ u=some ρ' →
  (∀{EE:Value→Shared→Prop} {Q:Unit→Shared→Prop},(∀h' tk,Inv c.N c.B φ I H h'→Ext (Own env) φ I s.heap φ I h'→iN c.B env c.G ρ' φ I h'→Q () { s with heap:=h',toks:=tk })→wpAny (model c.prog c.w) A (assign target env y) Q EE s)
  ∧ ∀(v:V) (i:Nat) (a:Addr),ok v→IS φ I v i a s.heap→∀{EE:Value→Shared→Prop} {Q:Unit→Shared→Prop},Q () s→wpAny (model c.prog c.w) A (letOwnedTupleGo target (.ref a) y) Q EE s
inductive LI (c:Cx) (env:Env) (s:Shared) (φ:List Ent) (I:bR) (put:Loc→V→Option Loc) (b':List S) (v:V) (a:Addr) (fl:Fl) (ρ':Loc) (H':MH) (gs:Nat):Shared→Prop
 |mk (i:Nat) (ρ1:Loc) (H1:MH) (φ1:List Ent) (I1:bR) (h1:PySem.Heap) (tk:Nat) (hE:rR put (eZ c.F b') v gs i ρ1 H1=some (fl,ρ',H')) (L:LL c env s φ I v a i ρ1 H1 φ1 I1 h1) :
  LI c env s φ I put b' v a fl ρ' H' gs { s with heap:=h1,toks:=tk }
theorem wV{target:Expr}{put:Loc→V→Option Loc}{okv:V→Prop}(hT:Jm c sc target put okv)(hb:uA c sc b b'){a:Addr}(hv:okv v){R:Result→Shared→Prop}(hR:∀f s',jx c env s φ I fl ρ' H' f s'→R (.ok f) s')(se:z6 sc env)(ao:vC A c.d)(gs:Nat)(s':Shared)
  (L:LI c env s φ I put b' v a fl ρ' H' gs s'):codeAny (model c.prog c.w) A (.forLoop target (.ref a) b [] env) R s':=by
 refine codeAny_forLoop_any (I:=LI c env s φ I put b' v a fl ρ' H') ?_ gs L
 clear L gs s'
 intro gs s' L
 cases L with
 |mk i ρ1 H1 φ1 I1 h1 tk hE L=>
 cases gs with
 |zero=>exact aM hE
 |succ gs=>
  refine af hE λq hq hE=>?_
  cases q with
  |none=>
   exact next_end (s:={ s with heap:=h1,toks:=tk }) L.vi ao.hn L.it hq λh2 hk2=>wpAny_execs_nil (hR _ _ (fU (P:=λfl ρ' H'=>jx c env s φ I fl ρ' H' .next _) hE (.mk φ1 I1 h2 tk (L.vi.turned a hk2 L.ao L.ab L.ai) (L.x.kQ hk2 L.an) (L.fr.turned hk2 L.aw) .bf)))
  |some u=>
   refine af hE λρ2 hp hE=>af hE λr hb1 hE=>tX (s:={ s with heap:=h1,toks:=tk }) L.vi L.it hq λy h2 t2 ry hk2 ha2 it2=>?_
   have x2:=L.x.kQ hk2 L.an
   have f2:=L.fr.ext (Ext.iter hk2 ha2) λb hb e=>L.aw (e▸hb)
   refine dd (hT env A { s with heap:=h2,toks:=t2 } φ1 I1 H1 ρ1 ρ2 u y ⟨se,ao,L.vi.turned a hk2 L.ao L.ab L.ai,f2⟩ ry hp) λw1 w2=>w2 v (i+1) a hv it2 (w1 λh3 t3 v3 x3 f3=>?_)
   have a3:(h3.get? a).isSome=true:=x3.alive a ha2
   refine iZ (hb env A { s with heap:=h3,toks:=t3 } φ1 I1 H1 ρ2 r.1 r.2.1 r.2.2 ⟨se,ao,v3,f3⟩ hb1) λf φ4 I4 h4 t4 v4 x4 f4 r4=>?_
   have xx:=(x2.trans x3).trans x4
   have back:LL c env s φ I v a (i+1) r.2.1 r.2.2 φ4 I4 h4:=⟨v4,xx,(it2.ext x3 L.ao L.aw).ext x4 L.ao L.aw,f4,L.ao.ext x4 a3,λp hp=>(x4.rZ p hp).elim (λq=>L.ai p q) λq=>Ne.symm (cH a3 q),L.an,L.ab,x4.alive a a3,L.aw⟩
   generalize r.1=f1 at hE r4
   cases r4 with
   |ret q=>exact hR _ _ (fU (P:=λfl ρ' H'=>jx c env s φ I fl ρ' H' (.ret _) { s with heap:=h4,toks:=t4 }) hE (.mk φ4 I4 h4 t4 v4 xx f4 (.ret q)))
   |bf=>exact⟨gs,Nat.lt_succ_self _,.mk (i+1) _ _ φ4 I4 h4 t4 hE back⟩
   |cnt=>exact⟨gs,Nat.lt_succ_self _,.mk (i+1) _ _ φ4 I4 h4 t4 hE back⟩
theorem zz{target:Expr}{put:Loc→V→Option Loc}{okv:V→Prop}(hT:Jm c sc target put okv)(he:bg c sc e e')(hset:∀elts k p,e≠.Set elts k p)(hb:uA c sc b b'){H1:MH}(hok:okv v){s:Shared}(a:At c sc env A φ I H ρ s.heap)
  (h1:ar c.F e' ρ H=some (v,H1)) (h2:AZ put (eZ c.F b') v ρ H1=some (fl,ρ',H')):wpAny (model c.prog c.w) A (exec (.For target e b [] pos) env) (jx c env s φ I fl ρ' H') no s:=by
 refine wpAny_For (ah (he env A s φ I H ρ _ _ a h1) λp φ1 I1 g1 t1 w1 x1 r1=>?_) (rQ hset)
 have a1:=a.ext x1 w1
 refine bJ (D8 h2) λgs hI=>?_
 cases gs with
 |zero=>exact aM hI
 |succ gs=>
  refine af (show(itemAt v H1 0).bind _=_ from hI) λu0 hu0 _=>tJ (s:={ s with heap:=g1,toks:=t1 }) w1 r1 hu0 λad h2 k12 dead alive is2=>?_
  have dead:g1.get? ad=none:=dead
  have k12:∀b o,g1.get? b=some o→h2.get? b=some o:=k12
  have ed:Ext No φ1 I1 g1 φ1 I1 h2:=.keeps k12
  exact wV (s:=s) hT hb hok (R:=λr s'=>match r with|.ok f=>jx c env s φ I fl ρ' H' f s' |.error e=>cameBackBy (model c.prog c.w) A env no e s') (λf s' q=>q) a.se a.ao (gs+1) _ (.mk 0 ρ H1 φ1 I1 h2 t1 hI
   ⟨w1.keeps k12,(x1.trans ed).own,is2,(a1.ext ed (w1.keeps k12)).fr,w1.l_ dead,λp hp=>dC (w1.jK p hp) dead,x1.dead dead,w1.dead dead,alive,λhb=>cH (a1.fr.own ad hb).2.2.2 dead rfl⟩)
theorem Ct(g:ku c.G)(hk:fw c.G sc x=some k):Jm c sc (.Name x px) (λρ v=>some (aX ρ k v)) λ_=>True:=λenv A s φ I H ρ ρ' u y a r hp=>
 ⟨λk=>gc (wpAny_assign_Name (qZ g a hk r λh' tk v2 x2 f2=>k h' tk v2 x2 (Option.some.inj hp▸f2))),λv i a hv st EE Q hq=>wpAny_pure hq⟩
theorem I8(g:ku c.G)(hk:fw c.G sc x=some k)(he:bg c sc e e')(hset:∀elts k p,e≠.Set elts k p)(hb:uA c sc b b'):fq c sc (.For (.Name x px) e b [] pos) (.fr k e' b'):=λenv A s φ I H ρ fl ρ' H' a h=>by
 refine ak h λv H1 h1 h2=>?_
 exact zz (Ct g hk) he hset hb trivial a h1 h2
theorem stores(g:ku c.G){EE:Value→Shared→Prop}{Q:Unit→Shared→Prop}:∀(l:List (Str×(Value→Sem Unit))) (ks:List Nat) (vs:List V) (xs:List Value) (s:Shared) (φ:List Ent) (I:bR) (H:MH) (ρ ρ':Loc),
  (∀p∈l,∀(v:Value) (Q:Unit→Shared→Prop) (s:Shared),wpAny (model c.prog c.w) A (storeName env p.1 v) Q no s→wpAny (model c.prog c.w) A (p.2 v) Q no s) →
  l.map (λp=>fw c.G sc p.1)=ks.map some→dY ρ ks vs=some ρ'→LR φ I vs xs→At c sc env A φ I H ρ s.heap →
  (∀h' tk,Inv c.N c.B φ I H h'→Ext (Own env) φ I s.heap φ I h'→iN c.B env c.G ρ' φ I h'→Q () { s with heap:=h',toks:=tk }) →
  wpAny (model c.prog c.w) A (assignInOrder (l.map (·.2)) xs) Q EE s
 | [],[],[],xs,s,φ,I,H,ρ,ρ',_,_,hs,r,a,k=>by rw[r.nil_of];exact wpAny_pure (k s.heap s.toks a.vi (.refl ..) (Option.some.inj hs▸a.fr))
 | [],[],_::_,_,_,_,_,_,_,_,_,_,hs,_,_,_=>aM hs
 | [],_::_,_,_,_,_,_,_,_,_,_,hk,_,_,_,_=>nomatch hk
 |_::_,[],_,_,_,_,_,_,_,_,_,hk,_,_,_,_=>nomatch hk
 |_::_,_::_,[],_,_,_,_,_,_,_,_,_,hs,_,_,_=>aM hs
 |p::l,k::ks,v::vs,xs,s,φ,I,H,ρ,ρ',hf,hk,hs,r,a,K=>by
  refine df r.cons_of λy ys e r1 r2=>?_
  rw[e]
  show wpAny _ _ (do holding ys (p.2 y);assignInOrder (l.map (·.2)) ys) _ _ _
  exact wpAny_bind (wpAny_holding (gc (hf p (.head _) y _ s (qZ g a (List.cons.inj hk).1 r1 λh' tk v2 x2 f2=>
   stores g l ks vs ys { s with heap:=h',toks:=tk } φ I H _ ρ' (λq hq=>hf q (.tail _ hq)) (List.cons.inj hk).2 hs r2 (a.own v2 f2) λh3 t3 v3 x3 f3=>K h3 t3 v3 (x2.trans x3) f3))))
noncomputable abbrev sL(p:Str×Pos):Expr:=.Name p.1 p.2
theorem l8:∀{ts:List Expr} {ks:List Nat},iD c.G sc ts=some ks→∃l:List (Str×Pos),ts=l.map sL∧l.map (λp=>fw c.G sc p.1)=ks.map some
 | [],ks,h=>aL (P:=λks:List Nat=>∃l:List (Str×Pos),[]=l.map sL∧l.map (λp=>fw c.G sc p.1)=ks.map some) h ⟨[],rfl,rfl⟩
 |e::r,ks,h=>by
  cases e with
  |Name x p=>
   exact af (show(fw c.G sc x).bind _=_ from h) λk h1 h2=>a_ (P:=λks:List Nat=>∃l:List (Str×Pos),Expr.Name x p::r=l.map sL∧l.map (λp=>fw c.G sc p.1)=ks.map some) h2 λks' h3=>
    ay (l8 h3) λl q1 q2=>⟨(x,p)::l,congrArg (_::·) q1,jX h1 q2⟩
  |_=>exact aM h
end
end
section
open PySem PySem.W PyProof.Rows
section
variable {c:Cx} {sc:Scope} {A:Around} {EE:Value→Shared→Prop} {env:Env} {φ φ' φ1:List Ent} {I I' I1:bR} {H H':MH} {ρ ρ':Loc} {h h' h1:PySem.Heap} {s:Shared} {v u:V} {W:Addr→Prop} {x:Str} {k:Nat} {y:Value}
variable {e o i t:Expr} {e' o' i' t':E} {st:Stmt} {st':S} {b b2:List Stmt} {b' b2':List S} {pos px:Pos} {fl:Fl} {f:Flow} {tk:Nat} {ts:List Expr} {ks:List Nat}
theorem fP(env:Env):∀l:List (Str×Pos),assignEach (l.map sL) env=l.map λp=>(false,assign (sL p) env)
 | []=>rfl
 |_::l=>congrArg (_::·) (fP env l)
theorem BL{α β:Type}{f:α→Bool×β}(hf:∀a,(f a).1=false)(l:List α):(l.map f).findIdx? (·.1)=none:=
 List.findIdx?_eq_none_iff.mpr λ_ hx=>ay (List.mem_map.mp hx) λa _ e=>e▸hf a
theorem jT:∀{ks:List Nat} {vs:List V} {ρ ρ':Loc},dY ρ ks vs=some ρ'→ks.length=vs.length
 | [],[],_,_,_=>rfl
 | [],_::_,_,_,h=>aM h
 |_::_,[],_,_,h=>aM h
 |k::ks,v::vs,ρ,ρ',h=>congrArg (·+1) (jT (ks:=ks) (vs:=vs) (ρ:=aX ρ k v) h)
theorem nH:∀{ks:List Nat} {vs:List V} {ρ ρ':Loc} (k:Nat) (v:V),dY ρ ks vs=some ρ'→dY ρ (ks++[k]) (vs++[v])=some (aX ρ' k v)
 | [],[],_,_,k,v,h=>aL (P:=λρ'=>some _=some (aX ρ' k v)) h rfl
 | [],_::_,_,_,_,_,h=>aM h
 |_::_,[],_,_,_,_,h=>aM h
 |k::ks,v::vs,ρ,ρ',k',v',h=>nH (ks:=ks) (vs:=vs) (ρ:=aX ρ k v) k' v' h
theorem vo{j k:Nat}(hjk:j≠k)(ρ:Loc)(u v:V):aX (aX ρ j u) k v=aX (aX ρ k v) j u:=by
 unfold aX;rw[List.set_comm _ _ hjk]
theorem mn:∀{ks:List Nat} {vs:List V} {ρ ρ':Loc} (k:Nat) (v:V),k∉ks→dY (aX ρ k v) ks vs=some ρ'→∃ρ2,dY ρ ks vs=some ρ2∧ρ'=aX ρ2 k v
 | [],[],ρ,_,_,_,_,h=>⟨ρ,rfl,(Option.some.inj h).symm⟩
 | [],_::_,_,_,_,_,_,h=>aM h
 |_::_,[],_,_,_,_,_,h=>aM h
 |j::ks,u::vs,ρ,ρ',k,v,hn,h=>mn (ks:=ks) (vs:=vs) (ρ:=aX ρ j u) k v (λq=>hn (.tail _ q)) ((congrArg (dY · ks vs) (vo (λq:k=j=>hn (q▸.head _)) ρ v u)).symm.trans h)
theorem nI:∀{ks:List Nat} {vs:List V} {ρ ρ':Loc},ks.Nodup→dY ρ ks vs=some ρ'→dY ρ ks.reverse vs.reverse=some ρ'
 | [],[],_,_,_,h=>h
 | [],_::_,_,_,_,h=>aM h
 |_::_,[],_,_,_,h=>aM h
 |k::ks,v::vs,ρ,ρ',hn,h=>ay (mn (ks:=ks) (vs:=vs) k v (List.nodup_cons.mp hn).1 h) λρ2 h1 e=>by
  rw[List.reverse_cons,List.reverse_cons,e]
  exact nH k v (nI (List.nodup_cons.mp hn).2 h1)
theorem LR.rev{l:List V}{xs:List Value}(r:LR φ I l xs):LR φ I l.reverse xs.reverse:=by
 induction l generalizing xs with
 |nil=>rw[r.nil_of];exact .nil
 |cons v l ih=>
  refine df (r.cons_of) λy ys rf2_ r1 r2=>?_;subst rf2_
  rw[List.reverse_cons,List.reverse_cons]
  exact(ih r2).append (.cons r1 .nil)
theorem nq{g g':PySem.Heap}(hs:PySem.Heap.ExtBut g.objs.size g g'):∀b o,g.get? b=some o→g'.get? b=some o:=λb o q=>hs b o (dC q (cM g)) q
theorem zJ{kk:Nat}(g:ku c.G)(hk:iD c.G sc ts=some ks):Jm c sc (.Tuple ts kk px) (mL ks) λv=>∃n,v=.ref n:=λenv A s φ I H ρ ρ' u y a r hp=>by
 cases u with
 |tup vs=>
  refine ay (l8 hk) λl q1 q2=>df (iH a.vi r) λt items e p1 r1=>?_
  rw[q1,e]
  have hlen:l.length=items.size:=(List.length_map (λp:Str×Pos=>fw c.G sc p.1)).symm.trans ((congrArg List.length q2).trans ((List.length_map some).trans ((jT (show dY ρ ks vs=some ρ' from hp)).trans r1.size)))
  refine⟨λ{EE Q} K=>assign_Tuple_tuple a.ao.hn p1 (by rw[fP,List.length_map];exact hlen) (by rw[fP];exact BL (λ_=>rfl) l) λh' hs=>?_,λv i ad hv st EE Q hq=>bJ hv λn e=>ay (show IS φ I (.ref n) i ad s.heap from e▸st) λ_ _ hit=>wpAny_letOwnedTupleGo_listiter hit hq⟩
  rw[fP,List.map_map]
  have hk':=nq hs
  have st:=stores (EE:=EE) g (l.map λp=>((p.1,assign (sL p) env):Str×(Value→Sem Unit))) ks vs items.toList { s with heap:=h' } φ I H ρ ρ' (λp hpm v Q s hw=>ay (List.mem_map.mp hpm) λq _ e=>by subst e;exact wpAny_assign_Name hw) (by rw[List.map_map];exact q2) hp r1 (a.own (a.vi.keeps hk') (a.fr.ext (Ext.keeps (W:=No) hk') λ_ _ q=>q)) λh3 t3 v3 x3 f3=>K h3 t3 v3 ((Ext.keeps hk').trans x3) f3
  rw[List.map_map]at st
  exact st
 |_=>exact aM hp
theorem Fs{kk:Nat}(g:ku c.G)(hk:iD c.G sc ts=some ks)(he:bg c sc e e')(hset:∀elts k p,e≠.Set elts k p)(hb:uA c sc b b'):fq c sc (.For (.Tuple ts kk px) e b [] pos) (.Hh ks e' b'):=λenv A s φ I H ρ fl ρ' H' a h=>by
 refine ak h λv H1 h1 h2=>?_
 cases v with
 |ref n=>exact zz (zJ g hk) he hset hb ⟨n,rfl⟩ a h1 h2
 |_=>exact aM h2
theorem p9{f:Expr→Option Str}(hf:∀p,f (sL p)=some p.1∨f (sL p)=none):∀l:List (Str×Pos),((l.map sL).filterMap f).length=(l.map sL).length→(l.map sL).filterMap f=l.map (·.1)
 | [],_=>rfl
 |p::l,hl=>(hf p).elim
   (λe=>(List.filterMap_cons_some e).trans (congrArg (p.1::·) (p9 hf l (Nat.succ.inj ((congrArg List.length (List.filterMap_cons_some (l:=l.map sL) e)).symm.trans hl)))))
   λe=>absurd ((congrArg List.length (List.filterMap_cons_none (l:=l.map sL) e)).symm.trans hl) (Nat.ne_of_lt (Nat.lt_succ_of_le (List.length_filterMap_le ..)))
theorem si{q:Prop}[Decidable q]{M:Sem (Option (List Str))}{n:List Str}(k:¬q→∃r,M=pure r∧(r=none∨r=some n)):∃r,(if q then pure none else M)=pure r∧(r=none∨r=some n):=by
 by_cases h:q
 ·exact⟨none,if_pos h,.inl rfl⟩
 ·exact ay (k h) λr e o=>⟨r,(if_neg h).trans e,o⟩
theorem sU{kk:Nat}(l:List (Str×Pos))(hc:iP e=false):∃r,swappedStores [.Tuple (l.map sL) kk px] e env=pure r∧(r=none∨r=some (l.map (·.1))):=by
 cases e with
 |Tuple vs k2 p2=>
  unfold swappedStores
  refine si λ_=>si λ_=>si λhnl=>si λ_=>⟨_,if_neg λhcc=>?_,.inr (congrArg some (p9 (λp=>?_) l ?_))⟩
  ·have hc:vs.all (constantsAlone 8)=false:=hc
   rw[hc]at hcc;exact bY hcc
  ·dsimp only
   by_cases q:(env.kindOf p.1==some NameKind.local&&p.2.line==(Option.map (λx:Expr=>x.pos.line) (List.map sL l).head?).getD 0)=true
   ·exact .inl (if_pos q)
   ·exact .inr (if_neg q)
  ·exact bne_eq_false_iff_eq.mp (Kc (C1 hnl))
 |_=>exact⟨none,rfl,.inl rfl⟩
theorem Ck{kk:Nat}(g:ku c.G)(hk:iD c.G sc ts=some ks)(hnd:ks.Nodup)(he:bg c sc e e')(hc:cG e=false)(hcc:iP e=false)(hq:(∀el g sc p,e≠.SetComp el g sc p)∧(∀a el g sc p,e≠.DictComp a el g sc p)) :
  fq c sc (.Assign [.Tuple ts kk px] e pos) (.kq ks e'):=λenv A s φ I H ρ fl ρ' H' a h=>by
 refine ak h λv H1 h1 h2=>af h2 λρ1 h3 h4=>?_
 refine fU (P:=λfl ρ' H'=>wpAny (model c.prog c.w) A (exec (.Assign [.Tuple ts kk px] e pos) env) (jx c env s φ I fl ρ' H') no s) h4 ?_
 have hsw:swapsWithSole [.Tuple ts kk px] e pos.line env=pure false:=
  show swapsWith e (some (.Tuple ts kk px)) pos.line env=pure false from eQ hc hq.1 hq.2 _ _
 refine ay (l8 hk) λl q1 q2=>ay (sU (px:=px) (kk:=kk) (env:=env) l hcc) λr hr hr2=>hr2.elim (λer=>?_) λer=>?_
 ·refine Assign_Tuple (ah (he env A s φ I H ρ _ _ a h1) λp φ1 I1 g1 t1 v1 x1 r1=>?_) hsw (q1▸er▸hr)
  exact(zJ g hk env A _ φ1 I1 H1 ρ _ _ p (a.ext x1 v1) r1 h3).1 λh3 t3 v3 x3 f3=>.mk φ1 I1 h3 t3 v3 (x1.own.trans x3) f3 .bf
 ·refine Assign_Tuple_swapped (ah (he env A s φ I H ρ _ _ a h1) λp φ1 I1 g1 t1 v1 x1 r1=>?_) hsw (q1▸er▸hr)
  cases v with
  |tup vs=>
   refine df (iH v1 r1) λt items e p1 r2=>?_
   have hlen:(l.map (·.1)).length=items.size:=(List.length_map _).trans ((List.length_map (λp:Str×Pos=>fw c.G sc p.1)).symm.trans ((congrArg List.length q2).trans ((List.length_map some).trans ((jT (show dY ρ ks vs=some ρ1 from h3)).trans r2.size))))
   rw[e,hlen]
   refine unpackItems_tuple a.ao.hn p1 λh' hs=>?_
   have hk':=nq hs
   have x2:Ext No φ1 I1 g1 φ1 I1 h':=.keeps hk'
   have st:=stores g ((l.map (·.1)).reverse.map λn=>((n,bindName env n):Str×(Value→Sem Unit))) ks.reverse vs.reverse items.toList.reverse { s with heap:=h',toks:=t1 } φ1 I1 H1 ρ _ (λp hpm v Q s hw=>ay (List.mem_map.mp hpm) λn _ e=>by subst e;exact wpAny_bindName hw)
    (by rw[List.map_map,List.map_reverse,List.map_reverse,← q2,List.map_map];rfl) (nI hnd h3) r2.rev ((a.ext x1 v1).ext x2 (v1.keeps hk')) (EE:=no) (Q:=λ_=>jx c env s φ I .bf ρ1 H1 .next) λh3 t3 v3 x3 f3=>.mk φ1 I1 h3 t3 v3 ((x1.trans x2).own.trans x3) f3 .bf
   rw[List.map_map]at st
   exact st
  |_=>exact aM h3
end
end
section
open PySem PySem.W PyProof.Rows
section
variable {c:Cx} {sc sc':Scope} {A:Around} {env:Env} {φ φ' φ1:List Ent} {I I' I1:bR} {H H':MH} {ρ ρ':Loc} {h h' h1:PySem.Heap} {s:Shared} {v u:V} {x y:Str} {k j:Nat}
variable {e elt it:Expr} {e' elt' it':E} {st:Stmt} {st':S} {ifs:List Expr} {cs':List E} {pos px py p2:Pos} {n:Nat}
theorem vw:∃q:Bool,swapsWith (.ListComp elt [⟨.Name x px,it,ifs,0⟩] sc' p2) (some (.Name y py)) pos.line env=pure q:=⟨_,rfl⟩
theorem Ci(g:ku c.G)(hy:fw c.G sc y=some j)(hco:c_ c.G sc sc' x=true)(hk:look x c.G=some k)(hit:bg c sc it it')(he:bg c sc' elt elt')(hcs:CC c sc' ifs cs')(hset:∀elts k p,it≠.Set elts k p) :
  fq c sc (.Assign [.Name y py] (.ListComp elt [⟨.Name x px,it,ifs,0⟩] sc' p2) pos) (.set j (.comp elt' k it' cs')):=λenv A s φ I H ρ fl ρ' H' a h=>by
 refine ak h λv H1 h1 h2=>fU (P:=Xg c A env s φ I (.Assign [.Name y py] (.ListComp elt [⟨.Name x px,it,ifs,0⟩] sc' p2) pos)) h2 ?_
 refine bJ (vw (env:=env) (elt:=elt) (x:=x) (px:=px) (it:=it) (ifs:=ifs) (sc':=sc') (p2:=p2) (y:=y) (py:=py) (pos:=pos)) λq hq=>?_
 cases q with
 |false=>
  exact wpAny_Assign_Name (ah (tw g hco hk hit he hcs hset env A s φ I H ρ _ _ a h1) λp φ1 I1 g1 t1 v1 x1 r1=>qZ g (a.ext x1 v1) hy r1 λh' tk v2 x2 f2=>.mk φ1 I1 h' tk v2 (x1.own.trans x2) f2 .bf) hq
 |true=>
  show wpAny _ _ (exec _ _) _ _ _
  rw[exec_Assign_Name_used _ _ _ _ hq]
  refine wpAny_bind (wpAny_standAt (wpAny_bind ?_))
  show wpAny _ A (do let _ ← comprehension (.ListComp elt [⟨.Name x px,it,ifs,0⟩] sc' p2) sc' env _ (newList []) false (eval it env) (some (assign (.Name y py) env))) _ _ s
  refine wpAny_bind (wpAny_mono (wpAny_comprehension_free (use:=some (assign (.Name y py) env)) (Q:=λ_ s'=>jx c env s φ I .bf (aX ρ j v) H1 .next s') rfl (rQ hset) (lq (hJ hco a.se a.fr)) (cC hco).1 (j7 hco) ?_)
   (λ_ s' hq=>wpAny_pure (wpAny_pure hq)) λ_ _ e=>e)
  refine mV (RR:=λacc C=>compPost (model c.prog c.w) A no (some (assign (.Name y py) env)) (λ_ s'=>jx c env s φ I .bf (aX ρ j v) H1 .next s') acc C) g hco hk hit he hcs a h1 λn acc C s' e q=>?_
  cases q with
  |mk φ1 I1 g1 t1 w1 x1 ac oC iC bC sC m hm=>
   refine wpAny_assign_Name (qZ (s:={ s with heap:=g1,toks:=t1 }) g (a.ext x1 w1) hy (ay (G:=VR φ1 I1 v (.ref acc)) ac λen hen ea=>by rw[e,← ea];exact .ref n en hen) λg2 t2 w2 x2 f2=>?_)
   have nC:¬ Own env C:=λhb=>cH (a.fr.own C hb).2.2.2 sC rfl
   refine⟨m,hm.at λo ho=>x2.keep C o ho oC nC,λg3 hs=>?_⟩
   have hk3:∀b o,b≠C→g2.get? b=some o→g3.get? b=some o:=λb o hb q=>(hs.2 b hb).trans q
   exact .mk φ1 I1 g3 t2 (w2.turned C hk3 oC bC iC) ((x1.own.trans x2).kQ hk3 sC) (f2.turned hk3 nC) .bf
theorem pH(ih:∀(sc:Scope) (e:Expr) (e':E),cE c.T c.G n sc e=some e'→bg c sc e e'∧kx c sc e e')(hc:cG e=true)(h:cE c.T c.G (n+1) sc e=some e')(g:ku c.G)(hy:fw c.G sc y=some j) :
  fq c sc (.Assign [.Name y py] e pos) (.set j e'):=by
 cases e with
 |ListComp elt gens sc' p2=>
  exact CR (T:=c.T) (P:=λgens e'=>fq c sc (.Assign [.Name y py] (.ListComp elt gens sc' p2) pos) (.set j e')) h λx p it ifs k it' elt' cs' hco hk h1 h2 h3=>
   Ci g hy hco hk (ih _ _ _ h1).1 (ih _ _ _ h2).1 (oH (λe e' q=>(ih _ e e' q).2) _ cs' h3) λelts k p q=>wa (q▸h1)
 |_=>exact bY hc
theorem hO{f:Stmt→Option S}(hf:∀e e',f e=some e'→fq c sc e e'):∀(es:List Stmt) (es':List S),eP f es=some es'→uA c sc es es'
 | [],es',h=>aL h Dn
 |e::r,es',h=>af (show(f e).bind _=_ from h) λx h1 h2=>af h2 λq h3 h4=>aL h4 (Ah (hf _ _ h1) (hO hf r q h3))
noncomputable abbrev Kr(e:Expr):Prop:=(∀el g sc p,e≠.SetComp el g sc p)∧(∀a el g sc p,e≠.DictComp a el g sc p)
theorem mD{e':E}(h:cE c.T c.G n sc e=some e'):Kr e:=⟨(gD h).1,(gD h).2.1⟩
theorem Ae(ok:c.Ok)(g:ku c.G)(ev:∀(sc:Scope) (e:Expr) (e':E),cE c.T c.G n sc e=some e'→bg c sc e e'∧kx c sc e e')
  (cm:∀{x p k e'},cG e=true→cE c.T c.G n sc e=some e'→fw c.G sc x=some k→fq c sc (.Assign [.Name x p] e pos) (.set k e')) {t:Expr} (h:Du c.T c.G (cE c.T c.G n sc) sc t e=some st'):fq c sc (.Assign [t] e pos) st':=by
 have hv:=jz t
 unfold Du at h
 generalize pD t=v at h hv
 cases v with
 |nm x=>
  exact bJ hv λp et=>et▸af h λk h1 h2=>a_ (P:=fq c sc (.Assign [.Name x p] e pos)) h2 λe' h3=>(Bool.eq_false_or_eq_true (cG e)).elim (λhc=>cm hc h3 h1) λhc=>Fx g h1 (ev _ _ _ h3).1 hc (mD h3)
 |tp l=>
  exact zS hv λk p et=>et▸j4 (show(if(cG e||iP e)=true then none else _)=some st' from h) (λ_ h=>aM h) λhcc h=>af h λks h1 h2=>aZ h2 λhnd h2=>a_ (P:=fq c sc (.Assign [.Tuple l k p] e pos)) h2 λe' h3=>
   Ck g h1 (of_decide_eq_true hnd) (ev _ _ _ h3).1 (Kc (C1 hcc)) (of2 (C1 hcc)) (mD h3)
 | «at» o a p=>
  exact(show t=_ from hv)▸j4 (show(if cG e=true then none else _)=some st' from h) (λ_ h=>aM h) λhcc h=>af h λe' h1 h2=>af h2 λo' h3 h4=>a_ (P:=fq c sc (.Assign [.Attribute o a p] e pos)) h4 λk h5=>
   Ce ok h5 (ev _ _ _ h1).1 (ev _ _ _ h3).1 (C1 hcc) (mD h1)
 |sb o i=>
  exact bJ hv λp et=>et▸j4 (show(if cG e=true then none else _)=some st' from h) (λ_ h=>aM h) λhcc h=>af h λe' h1 h2=>af h2 λo' h3 h4=>a_ (P:=fq c sc (.Assign [.Subscript o i p] e pos)) h4 λk h5=>
   Cj (ev _ _ _ h1).1 (ev _ _ _ h3).1 (ev _ _ _ h5).1 (C1 hcc) (mD h1)
 |_=>exact aM h
theorem Ag(ok:c.Ok)(g:ku c.G)(ev:∀(sc:Scope) (e:Expr) (e':E),cE c.T c.G n sc e=some e'→bg c sc e e'∧kx c sc e e'){t:Expr}{op:Operator}(h:Dv c.T c.G (cE c.T c.G n sc) sc t op e=some st'):fq c sc (.AugAssign t op e pos) st':=by
 have hv:=jz t
 unfold Dv at h
 generalize pD t=v at h hv
 cases v with
 |nm x=>
  exact bJ hv λp et=>et▸af h λk h1 h2=>af h2 λop' h3 h4=>a_ (P:=fq c sc (.AugAssign (.Name x p) op e pos)) h4 λe' h5=>Fj g h1 h3 (ev _ _ _ h5).1
 | «at» o a p=>
  exact(show t=_ from hv)▸af h λop' h1 h2=>af h2 λo' h3 h4=>af h4 λk h5 h6=>a_ (P:=fq c sc (.AugAssign (.Attribute o a p) op e pos)) h6 λe' h7=>Ca ok h5 h1 (ev _ _ _ h3).1 (ev _ _ _ h7).1
 |sb o i=>
  exact bJ hv λp et=>et▸af h λop' h1 h2=>af h2 λo' h3 h4=>af h4 λk h5 h6=>a_ (P:=fq c sc (.AugAssign (.Subscript o i p) op e pos)) h6 λe' h7=>Cb h1 (ev _ _ _ h3).1 (ev _ _ _ h5).1 (ev _ _ _ h7).1 (gD h5).2.2.1
 |_=>exact aM h
theorem A6(g:ku c.G)(ev:∀(sc:Scope) (e:Expr) (e':E),cE c.T c.G n sc e=some e'→bg c sc e e'∧kx c sc e e'){f:List Stmt→Option (List S)}(hf:∀l l',f l=some l'→uA c sc l l'){t:Expr}{b:List Stmt}(h:Am c.G (cE c.T c.G n sc) f sc t e b=some st'):fq c sc (.For t e b [] pos) st':=by
 have hv:=jz t
 unfold Am at h
 generalize pD t=v at h hv
 cases v with
 |nm x=>exact bJ hv λp et=>et▸af h λk h1 h2=>af h2 λe' h3 h4=>a_ (P:=fq c sc (.For (.Name x p) e b [] pos)) h4 λb' h5=>I8 g h1 (ev _ _ _ h3).1 (gD h3).2.2.2 (hf _ _ h5)
 |tp l=>exact zS hv λk p et=>et▸af h λks h1 h2=>af h2 λe' h3 h4=>a_ (P:=fq c sc (.For (.Tuple l k p) e b [] pos)) h4 λb' h5=>Fs g h1 (ev _ _ _ h3).1 (gD h3).2.2.2 (hf _ _ h5)
 |_=>exact aM h
theorem zx(ok:c.Ok)(cs:iM c)(g:ku c.G):∀(n:Nat) (sc:Scope) (e:Stmt) (e':S),cS c.T c.G n sc e=some e'→fq c sc e e'
 |0,_,_,_,h=>aM h
 |n+1,sc,st,st',h=>by
  have ih:=zx ok cs g n
  have ev:=rJ ok cs g n
  cases st with
  |Assign ts e pos=>
   cases ts with
   |nil=>exact aM h
   |cons t r=>cases r with
    |cons=>exact aM h
    |nil=>
     refine Ae ok g ev (λ{x p k e'} hc h3 h1=>?_) h
     cases n with
     |zero=>exact aM h3
     |succ n=>exact pH (rJ ok cs g n) hc h3 g h1
  |AugAssign t op e pos=>exact Ag ok g ev h
  |Expr e pos=>
   exact j4 (show(if cG e=true then none else(cE c.T c.G n sc e).map S.exp)=some st' from h) (λ_ h=>aM h) λhcc h=>a_ (P:=fq c sc (.Expr e pos)) h λe' h3=>Fq (ev _ _ _ h3).1 (C1 hcc) (mD h3)
  |Return e pos=>cases e with
   |some e=>exact a_ (P:=fq c sc (.Return (some e) pos)) (show(cE c.T c.G n sc e).map _=_ from h) λe' h3=>Fv (ev _ _ _ h3).1
   |none=>exact aL (P:=fq c sc (.Return none pos)) h Cd
  |If t a b pos=>
   exact af (show(cE c.T c.G n sc t).bind _=_ from h) λt' h1 h2=>af h2 λa' h3 h4=>a_ (P:=fq c sc (.If t a b pos)) h4 λb' h5=>Ft (ev _ _ _ h1).2 (hO (ih sc) _ _ h3) (hO (ih sc) _ _ h5)
  |While t b o pos=>cases o with
   |cons=>exact aM h
   |nil=>exact af (show(cE c.T c.G n sc t).bind _=_ from h) λt' h1 h2=>a_ (P:=fq c sc (.While t b [] pos)) h2 λb' h5=>Fy (ev _ _ _ h1).2 (hO (ih sc) _ _ h5)
  |For t e b o pos=>cases o with
   |cons=>exact aM h
   |nil=>exact j4 (show(if isSet e=true then none else Am c.G (cE c.T c.G n sc) (eP (cS c.T c.G n sc)) sc t e b)=some st' from h) (λ_ h=>aM h) λ_ h=>A6 g ev (λl l' h=>hO (ih sc) l l' h) h
  |Continue pos=>exact aL (P:=fq c sc (.Continue pos)) h Fo
  |Raise e f pos=>exact aL (P:=fq c sc (.Raise e f pos)) h Fm
  |_=>exact aM h
end
end
section
open PySem PySem.W PyProof.Rows
theorem qW{p:Str}{ps:List Str}{xs:List Value}(h:p∉ps):(ps.zip xs).lookup p=none:=by
 cases q:(ps.zip xs).lookup p with
 |none=>rfl
 |some z=>exact absurd (List.of_mem_zip (mem_of_lookup q)).1 h
theorem mP(kd:Str→Option NameKind):∀(ps:List Str) (xs:List Value) (m:Str→Option Value) (x:Str),kd x=some .local→ps.Nodup→bindL kd (ps.zip xs) m x=((ps.zip xs).lookup x).or (m x)
 | [],_,_,_,_,_|_::_,[],_,_,_,_=>rfl
 |p::ps,y::xs,m,x,hk,hn=>by
  refine(mP kd ps xs _ x hk (List.nodup_cons.mp hn).2).trans ?_
  by_cases e:x=p
  ·rw[← e,qW (e▸(List.nodup_cons.mp hn).1),if_pos hk,List.zip_cons_cons,List.lookup_cons_self];exact if_pos rfl
  ·rw[List.zip_cons_cons,bV e]
   refine congrArg (Option.or _) ?_
   by_cases q:kd p=some .local
   ·rw[if_pos q];exact if_neg e
   ·rw[if_neg q]
theorem mO(kd:Str→Option NameKind):∀(ps:List Str) (xs:List Value) (m:Str→Option Value) (x:Str),kd x≠some .local→ps.Nodup→bindC kd (ps.zip xs) m x=((ps.zip xs).lookup x).or (m x)
 | [],_,_,_,_,_|_::_,[],_,_,_,_=>rfl
 |p::ps,y::xs,m,x,hk,hn=>by
  refine(mO kd ps xs _ x hk (List.nodup_cons.mp hn).2).trans ?_
  by_cases e:x=p
  ·rw[← e,qW (e▸(List.nodup_cons.mp hn).1),if_neg hk,List.zip_cons_cons,List.lookup_cons_self];exact if_pos rfl
  ·rw[List.zip_cons_cons,bV e]
   refine congrArg (Option.or _) ?_
   by_cases q:kd p=some .local
   ·rw[if_pos q]
   ·rw[if_neg q];exact if_neg e
theorem mG:∀(ps:List Str) (xs:List Value) (k:Nat) (x:Str) (y:Value),ps.Nodup→ps[k]?=some x→xs[k]?=some y→(ps.zip xs).lookup x=some y
 | [],_,_,_,_,_,h,_=>aM h
 |_::_,[],_,_,_,_,_,h=>aM h
 |p::ps,z::xs,0,x,y,_,h1,h2=>(Option.some.inj (show some p=some x from h1))▸(List.lookup_cons_self.trans h2)
 |p::ps,z::xs,k+1,x,y,hn,h1,h2=>(bV λe:x=p=>(List.nodup_cons.mp hn).1 (e▸List.mem_of_getElem? (i:=k) h1)).trans (mG ps xs k x y (List.nodup_cons.mp hn).2 h1 h2)
theorem fg:∀(l:List (Str×NameKind)) (n:Nat) (acc:List (Str×Addr)),(∀p∈acc,p∈cellsFrom n l acc)∧∀x,(x,NameKind.cell)∈l→∃a,(x,a)∈cellsFrom n l acc
 | [],_,_=>⟨λ_ h=>h,λ_ h=>nomatch h⟩
 |(m,kd)::r,n,acc=>by
  show(∀p∈acc,p∈(if(kd==.cell)=true then _ else _))∧∀x,_→∃a,(x,a)∈(if(kd==.cell)=true then cellsFrom (n+1) r ((m,n)::acc)else cellsFrom n r acc)
  by_cases q:(kd==NameKind.cell)=true
  ·rw[if_pos q]
   have t:=fg r (n+1) ((m,n)::acc)
   exact⟨λp hp=>t.1 p (.tail _ hp),λx hx=>(List.mem_cons.mp hx).elim (λhx=>⟨n,(show x=m from congrArg Prod.fst hx)▸t.1 _ (.head _)⟩) (t.2 x)⟩
  ·rw[if_neg q]
   have t:=fg r n acc
   exact⟨t.1,λx hx=>(List.mem_cons.mp hx).elim (λhx=>absurd (beq_iff_eq.mpr (congrArg Prod.snd hx).symm) q) (t.2 x)⟩
theorem lj(names:List (Str×NameKind))(n:Nat)(x:Str)(hx:names.lookup x=some .cell):((cellsFrom n names []).lookup x).isSome=true:=bJ ((fg names n []).2 x (mem_of_lookup hx)) λ_ ha=>lT ha
theorem eM:∀(l:List (Str×NameKind)) (n:Nat) (acc:List (Str×Addr)),(l.map (·.1)).Nodup→(∀x a b,(x,a)∈acc→(x,b)∈acc→a=b)→(∀x a,(x,a)∈acc→x∉l.map (·.1)) →
  ∀x a b,(x,a)∈cellsFrom n l acc→(x,b)∈cellsFrom n l acc→a=b
 | [],_,_,_,hu,_,x,a,b,h1,h2=>hu x a b h1 h2
 |(m,kd)::r,n,acc,hn,hu,hd,x,a,b,h1,h2=>by
  have hn:=List.nodup_cons.mp hn
  revert h1 h2
  show(x,a)∈(if(kd==.cell)=true then _ else _)→(x,b)∈(if(kd==.cell)=true then cellsFrom (n+1) r ((m,n)::acc)else cellsFrom n r acc)→a=b
  by_cases hk:(kd==NameKind.cell)=true
  ·rw[if_pos hk]
   refine eM r (n+1) ((m,n)::acc) hn.2 (λx a b q1 q2=>?_) (λx a q=>(List.mem_cons.mp q).elim (λq=>(show x=m from congrArg Prod.fst q)▸hn.1) λq z=>hd x a q (.tail _ z)) x a b
   have no:∀{y:Str} {c:Addr},y=m→(y,c)∈acc→False:=λe q=>hd _ _ q (e▸.head _)
   exact(List.mem_cons.mp q1).elim (λq1=>(List.mem_cons.mp q2).elim (λq2=>(congrArg Prod.snd q1).trans (congrArg Prod.snd q2).symm) λq2=>(no (congrArg Prod.fst q1) q2).elim)
    λq1=>(List.mem_cons.mp q2).elim (λq2=>(no (congrArg Prod.fst q2) q1).elim) (hu x a b q1)
  ·rw[if_neg hk]
   exact eM r n acc hn.2 hu (λx a q z=>hd x a q (.tail _ z)) x a b
section
variable {c:Cx} {A:Around} {φ:List Ent} {I:bR} {H H':MH} {s:Shared}
theorem arg_val{as:List V}{xs:List Value}{ps:List Str}{G:List (Str×Nat)}{m n:Nat}(r:LR φ I as xs)(hlen:as.length=n)(nd:ps.Nodup)(e16:∀x k,look x G=some k→k<n→ps[k]?=some x){z:Str}{k:Nat}{u:V}(hz:look z G=some k)
  (hu:getL (as.map some++List.replicate m none) k=some u):∃y,(ps.zip xs).lookup z=some y∧VR φ I u y:=by
 unfold getL at hu
 by_cases hlt:k<as.length
 ·rw[List.getElem?_append_left (by rw[List.length_map];exact hlt),List.getElem?_map,List.getElem?_eq_getElem hlt]at hu
  exact ay (r.get (List.getElem?_eq_getElem hlt)) λy hy ry=>⟨y,mG ps xs k z y nd (e16 z k hz (hlen▸hlt)) hy,(Option.some.inj (show some as[k]=some u from hu))▸ry⟩
 ·rw[List.getElem?_append_right (by rw[List.length_map];exact Nat.le_of_not_lt hlt),List.getElem?_replicate]at hu
  exact af hu λo h1 h2=>j4 h1 (λ_ h1=>aM ((Option.some.inj h1).trans h2)) λ_ h1=>aM h1
theorem td(ok:c.Ok):∀d,iM { c with d:=d }
 |0=>λf as H v H' h=>aM h
 |d+1=>λf as H v H' h A s φ I xs ao vi r=>by
  have ih:=td ok d
  refine af (show(c.P.fns[f]?).bind _=_ from h) λfn h1 h2=>aZ h2 λhlen h2=>af h2 λq h3 h4=>?_
  have hlen:=Nat.eq_of_beq_eq_true hlen
  clear h h2
  cases(ok.fns f fn h1).ex with
  |mk o fd body ps G e1 e2 e3 e4 e5 e6 e7 e8 e9 e10 e11 e12 e13 e14 e16 e17 e18 g e19=>
  have keep:∀b o,c.B.get? b=some o→s.heap.get? b=some o:=vi.base
  refine codeAny_call_cells (by have:=ao.dp;unfold recursionLimit;exact Ar.Z2 [.e (.a (.a .x0 (.m 4 .x1)) .n2) (.n 900)] (.l .x0 .aG) rfl this) (keep _ _ e1) e2 (ay ok.lim λmc q1 q2=>⟨mc,q1.keeps keep,q2⟩) (e3.keeps keep) e4 (e13 xs (r.1.symm.trans (hlen.trans e11.symm))) e5
   (λp hp=>(e14 p.1 (List.of_mem_zip (a:=p.1) (b:=p.2) hp).1).imp id λq=>⟨q,lj _ _ _ q⟩) (λs₁ hc=>?_) e9 e10 e8
  refine zS hc.toInCall.same λg1 t1 hs1=>?_
  subst hs1
  have k1:∀b o,s.heap.get? b=some o→g1.get? b=some o:=hc.toInCall.keep
  have dead:∀b,Own (callEnvC fd s.heap.objs.size (c.fa f)) b→s.heap.get? b=none:=λb hb=>hb.elim (λe=>e▸i_ hc.toInCall.fresh) λ⟨n,hn⟩=>i_ (Nat.le_of_lt (Nat.lt_of_le_of_lt hc.toInCall.fresh (hc.above n b hn)))
  have fr:iN c.B (callEnvC fd s.heap.objs.size (c.fa f)) G (as.map some++List.replicate (fn.slots-fn.params) none) φ I g1:=by
   refine⟨e8,e6,e7,⟨_,hc.toInCall.ns,λz k u hz hk hu=>ay (arg_val r hlen e12 e16 hz hu) λy hy ry=>⟨y,by rw[mP _ _ _ _ _ hk e12,hy];rfl,ry⟩⟩,λz k hz hk=>hk.elim (λhk=>?_) λhk=>absurd rfl (e18 _ (mem_of_lookup hk)),hc.apart,
    λb hb=>⟨vi.dead (dead b hb),vi.l_ (dead b hb),λp hp=>dC (vi.jK p hp) (dead b hb),hb.elim (λe=>e▸jo hc.toInCall.ns) λ⟨n,hn⟩=>k_ (hc.cell n b (fi hn λb' hb'=>eM fd.scope.names _ [] e17 (λ_ _ _ q=>nomatch q) (λ_ _ q=>nomatch q) n b' b hb' hn))⟩,
    λn a hm=>Nat.ne_of_gt (hc.above n a hm)⟩
   exact(Option.isSome_iff_exists.mp (lj fd.scope.names (s.heap.objs.size+1) z hk)).elim λa ha=>⟨a,_,ha,hc.cell z a ha,λu hu=>ay (arg_val r hlen e12 e16 hz hu) λy hy ry=>⟨y,by rw[mO _ _ _ _ _ (λq=>nomatch hk.symm.trans q) e12,hy];rfl,ry⟩⟩
  have ok':Cx.Ok { c with d:=d,G:=G }:=ok
  have ih':iM { c with d:=d,G:=G }:=ih
  refine iZ (c:={ c with d:=d,G:=G }) (hO (λe e' q=>zx ok' ih' g 60 _ e e' q) _ _ e19 _ (A.deeper (callEnvC fd s.heap.objs.size (c.fa f))) { s with heap:=g1,toks:=t1 } φ I H _ q.1 q.2.1 q.2.2
   ⟨⟨λ_ h=>h,λ_ h=>h,λ_ h=>.inr h,λ_ h=>h⟩,ao.deeper _,vi.keeps k1,fr⟩ h3) λf' φ2 I2 g2 t2 v2 x2 f2 r2=>?_
  have xx:Ext No φ I s.heap φ2 I2 g2:=((Ext.keeps (W:=Own (callEnvC fd s.heap.objs.size (c.fa f))) k1).trans x2).wide λb hb ho=>cH hb (dead b ho) rfl
  generalize q.1=fl at h4 r2
  cases r2 with
  |ret rr=>exact .mk (bP (P:=λv H'=>bS c.N c.B No s φ I v H' _ { s with heap:=g2,toks:=t2 }) h4 (.mk φ2 I2 g2 t2 v2 xx rr))
  |bf=>exact .mk (bP (P:=λv H'=>bS c.N c.B No s φ I v H' _ { s with heap:=g2,toks:=t2 }) h4 (.mk φ2 I2 g2 t2 v2 xx .bW))
  |cnt=>exact aM h4
end
end
section
open PySem PySem.W PyProof.Rows
theorem vA(ps:List Str)(vals:List Value)(h:vals.length=ps.length):(ps.filter λn=>((ps.zip vals).lookup n).isNone)=[]:=
 List.filter_eq_nil_iff.mpr λn hn q=>by
  refine ay (List.mem_iff_getElem?.mp hn |>.elim λi e=>⟨i,e,rfl⟩:∃i,ps[i]?=some n∧True=True) λi e _=>?_
  have hi:i<vals.length:=h▸(List.getElem?_eq_some_iff.mp e).1
  have m:(n,vals[i])∈ps.zip vals:=List.mem_of_getElem? (i:=i) (List.getElem?_zip_eq_some.mpr ⟨e,List.getElem?_eq_getElem hi⟩)
  have:=lT m
  cases z:(ps.zip vals).lookup n with
  |none=>rw[z]at this;exact bY this
  |some w=>rw[z]at q;exact bY q
theorem NF{β:Type}{f g:Str→Option β}:∀l:List Str,(∀a∈l,f a=g a)→l.filterMap f=l.filterMap g
 | [],_=>rfl
 |a::r,h=>by rw[List.filterMap_cons,List.filterMap_cons,h a (.head _),NF r λb hb=>h b (.tail _ hb)]
theorem qX:∀(ps:List Str) (vals:List Value),ps.Nodup→vals.length=ps.length→(ps.filterMap λn=>((ps.zip vals).lookup n).map (n,·))=ps.zip vals
 | [],_,_,_=>rfl
 |p::ps,[],_,h=>nomatch h
 |p::ps,v::vals,hn,h=>by
  show List.filterMap (λn=>(((p,v)::ps.zip vals).lookup n).map (n,·)) (p::ps)=(p,v)::ps.zip vals
  rw[List.filterMap_cons_some (f:=λn=>(((p,v)::ps.zip vals).lookup n).map (n,·)) (a:=p) (b:=(p,v)) (congrArg (Option.map (p,·)) List.lookup_cons_self),NF ps (g:=λn=>((ps.zip vals).lookup n).map (n,·)) (λn hm=>congrArg (Option.map (n,·)) (bV λe:n=p=>(List.nodup_cons.mp hn).1 (e▸hm))),qX ps vals (List.nodup_cons.mp hn).2 (Nat.succ.inj h)]
theorem FV{α β:Type}(l:List α)(k:Nat):l.zip (List.drop k ([]:List β))=[]:=by rw[List.drop_nil,List.zip_nil_right]
theorem tG{q:Prop}[Decidable q]{α:Type}{t e r:α}(h:¬q)(k:e=r):(if q then t else e)=r:=(if_neg h).trans k
theorem wW{β σ γ:Type}{l:List β}{b:σ}{f:β→σ→Sem (ForInStep σ)}{g:σ→Sem γ}{r:Sem γ}(h:l=[])(k:g b=r):(forIn l b f >>= g)=r:=by subst h;exact k
theorem rn{fd:FuncData}{as:List Arg}(hp:fd.params=⟨[],as,none,[],[],none,[]⟩)(hd:fd.defaults=.none)(hn:(as.map (·.arg)).Nodup)(vals:List Value)(hl:vals.length=(as.map (·.arg)).length) :
  bindArgs fd ⟨vals,[]⟩=pure ((as.map (·.arg)).zip vals):=by
 cases fd
 have hp:_=Arguments.mk [] as none [] [] none []:=hp
 have hd:_=Value.none:=hd
 subst hp hd
 have h1:((as.map (·.arg)).take ((as.map (·.arg)).length-(List.drop (0-(as.map (·.arg)).length) ([]:List Value)).length)).filter (λn=>(((as.map (·.arg)).zip vals).lookup n).isNone)=[]:=by
  rw[List.drop_nil,List.length_nil,Nat.sub_zero,List.take_length];exact vA _ vals hl
 refine tG (λh=>absurd (of_decide_eq_true (fe h)) (Nat.not_lt.mpr (Nat.le_of_eq hl))) (tG (λh=>?_) ?_)
 ·have h:(!(((as.map (·.arg)).take ((as.map (·.arg)).length-(List.drop (0-(as.map (·.arg)).length) ([]:List Value)).length)).filter (λn=>(((as.map (·.arg)).zip vals).lookup n).isNone)).isEmpty)=true:=h
  rw[h1]at h;exact bY h
 refine wW (FV _ _) ?_
 exact congrArg (λl=>(pure l:Sem (List (Str×Value)))) ((congrArg (List.filterMap λn=>(((as.map (·.arg)).zip vals).lookup n).map (n,·)) (List.append_nil (as.map (·.arg)))).trans (qX _ vals hn hl))
end
section
open PySem PySem.W PyProof.Rows
theorem FK:PySem.Challenge.rw_nt0458_01.wellSaid=true:=by
 rw[PySem.W.Fast.te9446332074065402090]
 unfold PySem.W.Fast.tw9446332074065402090 PySem.W.Fast.tw17960256430627541270 PySem.W.Fast.tw2436336058641802641 PySem.W.Fast.tw12908688711261696721
 repeat' with_reducible refine look_both ?_ ?_
 all_goals as_aux_lemma=>kernel_rfl
theorem zi(h:PySem.Challenge.rw_nt0458_01.row.wellSaid=true→PySem.Challenge.rw_nt0458_01.row.Holds):PySem.Challenge.rw_nt0458_01.Holds:=holds_law FK h
end
section
open PySem PySem.W PyProof.Rows
noncomputable def Sx(l:List Nat):Str:=⟨⟨l⟩⟩
noncomputable abbrev TW:Program:=PySem.Challenge.pw_nt0458_01
noncomputable def ES:List Stmt→Nat→Stmt
 | [],_=>.Pass ⟨0,0,0,0⟩
 |s::_,0=>s
 |_::r,n+1=>ES r n
noncomputable def vv(i:Nat):Stmt:=ES TW.main.body i
structure Rw where
 i:Nat
 j:Nat
 a:Nat
 t:Nat
 k:Nat
 mi:Nat
 mt:Nat
structure Fp where
 nm:Str
 q:Str
 args:Arguments
 body:List Stmt
 sc:Scope
 pos:Pos
noncomputable def vS:Stmt→Fp×Expr
 |.FunctionDef n a b _ _ _ sc _ _ pos=>(⟨n,n,a,b,sc,pos⟩,.Constant .none 0 ⟨0,0,0,0⟩)
 |.ClassDef n _ _ b _ _ sc _ _ _ pos=>(⟨n,n,⟨[],[],none,[],[],none,[]⟩,b,sc,pos⟩,.Constant .none 0 ⟨0,0,0,0⟩)
 |.Assign (.Name x _::_) e pos=>(⟨x,x,⟨[],[],none,[],[],none,[]⟩,[],⟨.function,[],false,false,[]⟩,pos⟩,e)
 |_=>(⟨⟨⟨[]⟩⟩,⟨⟨[]⟩⟩,⟨[],[],none,[],[],none,[]⟩,[],⟨.function,[],false,false,[]⟩,⟨0,0,0,0⟩⟩,.Constant .none 0 ⟨0,0,0,0⟩)
noncomputable def uN(pre:List Nat)(s:Stmt):Fp:=⟨(vS s).1.nm,⟨⟨pre++(vS s).1.nm.cps.toList⟩⟩,(vS s).1.args,(vS s).1.body,(vS s).1.sc,(vS s).1.pos⟩
noncomputable def LW(st:Stmt)(j:Nat):Fp:=match j with
 |0=>(vS st).1
 |j+1=>uN ((vS st).1.nm.cps.toList++[46]) (ES (vS st).1.body j)
noncomputable def GW:Expr→Const
 |.Constant c _ _=>c
 |_=>.none
noncomputable def Ma(t:Nat):Const→Value
 |.int v=>.int v t
 |_=>.none
noncomputable def MZ:Const→Str
 |.str s=>s
 |_=>⟨⟨[]⟩⟩
noncomputable def fp(r:Rw):Fp:=LW (vv r.i) r.j
noncomputable def Px:NameKind→Bool
 |.local=>true
 |_=>false
noncomputable def vars(t:Nat):List (Str×NameKind)→List Value
 | []=>[]
 |(n,k)::r=>match Px k with
  |true=>.str n t::vars (t+1) r
  |false=>vars t r
noncomputable def qA(i:Nat):Str:=MZ (GW (vS (vv i)).2)
noncomputable def file:Str:=TW.main.file
noncomputable def zN(l:List Value):Obj:=.mk (.type PySem.W.SL.s2766695959194262286x5) none (.seq ⟨l⟩ 0) ⟨[]⟩
noncomputable def D7(l:List Value):Obj:=.mk .none none (.fields ⟨l⟩) ⟨[]⟩
noncomputable def Hj(f:Fp):Obj:=.mk .none none (.func { name:=f.nm,qualname:=f.q,params:=f.args,body:=.stmts f.body,scope:=f.sc,globals:=0,closure:=[],defaults:=.none,kwdefaults:=.none }) ⟨[]⟩
noncomputable def fun1(f:Fp)(m:Str)(mt c:Nat):Obj:=.mk (.type PySem.W.SL.s7174869446012820540x8) none (.func { name:=f.nm,qualname:=f.q,params:=f.args,body:=.stmts f.body,scope:=f.sc,globals:=3,closure:=[],defaults:=.none,kwdefaults:=.none,pyModule:=.str m mt,code:=.ref c }) ⟨[]⟩
noncomputable def AA(f:Fp)(t u a:Nat)(x y z:Value):Obj:=.mk (.type PySem.W.SL.s5856160107412720595x4) none (.fields ⟨[.str f.nm t,.str f.q (t+1),.str file (t+2),.int (Int.ofNat f.pos.line) 0,.int (Int.ofNat f.args.args.length) 0,.int 0 0,.int 0 0,.int 3 0,.ref a,.bool true,.int 181 0,.ref (a+1),.none,x,y,z,.int (Int.ofNat u) 0,.int (Int.ofNat f.pos.line) 0,.str file (u+1)]⟩) ⟨[]⟩
noncomputable def MN(r:Rw)(o:Nat):Obj:=match r.k with
 |0=>match o with
  |0=>zN []
  |1=>D7 []
  |2=>Hj (fp r)
  |3=>AA (fp r) r.t (r.t+3) r.a .none .none (.ref (r.a+2))
  |_=>fun1 (fp r) (qA r.mi) r.mt (r.a+3)
 |k+1=>match o with
  |0=>zN []
  |1=>D7 []
  |2=>zN (vars (r.t+3) (fp r).sc.names)
  |3=>zN []
  |4=>Hj (fp r)
  |5=>AA (fp r) r.t (r.t+3+k) r.a (.ref (r.a+2)) (.ref (r.a+3)) (.ref (r.a+4))
  |_=>fun1 (fp r) (qA r.mi) r.mt (r.a+5)
noncomputable def wide(k:Nat):Nat:=match k with|0=>5|_=>7
noncomputable def findR(b:Nat):List Rw→Option (Rw×Nat)
 | []=>none
 |r::l=>match Nat.ble r.a b&&Nat.blt b (r.a+wide r.k)with
  |true=>some (r,b-r.a)
  |false=>findR b l
noncomputable def rws:List Rw:=[⟨15,0,15,217,2,0,187⟩,⟨16,0,22,224,2,0,187⟩,⟨17,0,29,231,2,0,187⟩,⟨18,0,36,238,2,0,187⟩,⟨19,0,43,245,2,0,187⟩,⟨20,0,50,252,2,0,187⟩,⟨21,0,57,259,2,0,187⟩,⟨23,0,64,268,2,22,266⟩,⟨24,0,71,275,4,22,266⟩,⟨25,0,78,284,2,22,266⟩,⟨26,0,85,291,4,22,266⟩,⟨28,0,92,302,5,27,300⟩,⟨29,0,99,312,5,27,300⟩,⟨30,0,106,322,5,27,300⟩,⟨31,0,113,332,5,27,300⟩,⟨33,1,127,356,3,32,342⟩,⟨37,1,149,411,6,34,373⟩,⟨38,0,163,444,2,34,373⟩,⟨39,0,170,451,6,34,373⟩,⟨40,0,177,462,4,34,373⟩,⟨41,0,184,471,9,34,373⟩,⟨42,0,191,485,3,34,373⟩,⟨43,0,198,493,12,34,373⟩,⟨44,0,205,510,8,34,373⟩,⟨45,0,212,523,6,34,373⟩,⟨47,0,219,536,8,46,534⟩,⟨48,0,226,549,6,46,534⟩,⟨49,0,233,560,6,46,534⟩,⟨50,0,240,571,4,46,534⟩,⟨51,0,247,580,5,46,534⟩,⟨52,0,254,590,6,46,534⟩,⟨54,1,268,615,4,53,601⟩,⟨55,0,282,644,5,53,601⟩,⟨56,0,289,654,2,53,601⟩,⟨57,0,296,661,3,53,601⟩,⟨59,0,303,671,2,58,669⟩,⟨60,0,310,678,2,58,669⟩,⟨61,0,317,685,4,58,669⟩,⟨62,0,324,694,6,58,669⟩,⟨63,0,331,705,7,58,669⟩,⟨64,0,338,717,5,58,669⟩,⟨65,0,345,727,9,58,669⟩,⟨66,0,352,741,4,58,669⟩,⟨67,0,359,750,2,58,669⟩,⟨68,0,366,757,5,58,669⟩,⟨69,0,373,767,10,58,669⟩,⟨70,0,380,782,3,58,669⟩,⟨71,0,387,790,7,58,669⟩,⟨72,0,394,802,4,58,669⟩,⟨81,0,401,827,3,73,811⟩,⟨82,0,408,835,10,73,811⟩,⟨84,0,415,852,3,83,850⟩,⟨85,0,422,860,2,83,850⟩,⟨86,0,429,867,3,83,850⟩,⟨96,0,436,893,4,87,875⟩,⟨97,0,443,902,8,87,875⟩,⟨98,0,450,915,9,87,875⟩,⟨99,0,457,929,7,87,875⟩,⟨100,0,464,941,5,87,875⟩,⟨101,0,471,951,7,87,875⟩,⟨102,0,478,963,8,87,875⟩,⟨103,0,485,976,7,87,875⟩,⟨104,0,492,988,6,87,875⟩,⟨105,0,499,999,8,87,875⟩,⟨106,0,506,1012,4,87,875⟩,⟨107,0,513,1021,4,87,875⟩,⟨109,1,527,1044,6,108,1030⟩,⟨111,0,541,1069,4,110,1067⟩,⟨112,0,548,1078,8,110,1067⟩,⟨113,0,555,1091,4,110,1067⟩,⟨114,0,562,1100,13,110,1067⟩,⟨115,0,569,1118,3,110,1067⟩,⟨118,0,583,1153,1,116,1126⟩,⟨119,0,590,1159,11,116,1126⟩,⟨120,0,597,1175,0,116,1126⟩,⟨121,0,602,1181,4,116,1126⟩,⟨122,0,609,1190,8,116,1126⟩,⟨123,0,616,1203,8,116,1126⟩,⟨124,0,623,1216,4,116,1126⟩,⟨125,0,630,1225,9,116,1126⟩,⟨126,0,637,1239,8,116,1126⟩,⟨127,0,644,1252,16,116,1126⟩,⟨128,0,651,1273,13,116,1126⟩,⟨129,0,658,1291,10,116,1126⟩,⟨130,0,665,1306,0,116,1126⟩,⟨131,0,670,1312,13,116,1126⟩,⟨132,0,677,1330,10,116,1126⟩,⟨133,0,684,1345,9,116,1126⟩,⟨134,0,691,1359,13,116,1126⟩,⟨135,0,698,1377,0,116,1126⟩]
noncomputable def K6:List (Nat×Nat×Nat):=[(1,190,0),(2,192,0),(3,194,0),(4,196,0),(5,198,0),(6,200,0),(7,202,0),(8,204,0),(9,206,0),(10,208,0),(11,210,0),(12,212,0),(13,214,0),(14,216,0),(15,223,21),(16,230,28),(17,237,35),(18,244,42),(19,251,49),(20,258,56),(21,265,63),(23,274,70),(24,283,77),(25,290,84),(26,299,91),(28,311,98),(29,321,105),(30,331,112),(31,341,119),(33,372,136),(35,386,140),(36,398,141),(37,443,158),(38,450,169),(39,461,176),(40,470,183),(41,484,190),(42,492,197),(43,509,204),(44,522,211),(45,533,218),(47,548,225),(48,559,232),(49,570,239),(50,579,246),(51,589,253),(52,600,260),(54,643,277),(55,653,288),(56,660,295),(57,668,302),(59,677,309),(60,684,316),(61,693,323),(62,704,330),(63,716,337),(64,726,344),(65,740,351),(66,749,358),(67,756,365),(68,766,372),(69,781,379),(70,789,386),(71,801,393),(72,810,400),(74,814,0),(75,816,0),(76,818,0),(77,820,0),(78,822,0),(79,824,0),(80,826,0),(81,834,407),(82,849,414),(84,859,421),(85,866,428),(86,874,435),(88,878,0),(89,880,0),(90,882,0),(91,884,0),(92,886,0),(93,888,0),(94,890,0),(95,892,0),(96,901,442),(97,914,449),(98,928,456),(99,940,463),(100,950,470),(101,962,477),(102,975,484),(103,987,491),(104,998,498),(105,1011,505),(106,1020,512),(107,1029,519),(109,1066,536),(111,1077,547),(112,1090,554),(113,1099,561),(114,1117,568),(115,1125,575),(117,1152,582),(118,1158,589),(119,1174,596),(120,1180,601),(121,1189,608),(122,1202,615),(123,1215,622),(124,1224,629),(125,1238,636),(126,1251,643),(127,1272,650),(128,1290,657),(129,1305,664),(130,1311,669),(131,1329,676),(132,1344,683),(133,1358,690),(134,1376,697),(135,1382,702)]
noncomputable def M0:List (Nat×Nat×Nat):=[(16,0,20),(18,0,27),(20,0,34),(22,0,41),(24,0,48),(26,0,55),(30,0,62),(37,0,69),(39,0,76),(52,0,83),(54,0,90),(67,0,97),(72,0,104),(77,0,111),(82,0,118),(85,0,125),(93,0,147),(110,0,168),(112,0,175),(120,0,182),(131,0,189),(146,0,196),(150,0,203),(162,0,210),(179,0,217),(190,0,224),(205,0,231),(210,0,238),(215,0,245),(217,0,252),(225,0,259),(234,0,266),(249,0,287),(255,0,294),(257,0,301),(260,0,308),(262,0,315),(264,0,322),(266,0,329),(271,0,336),(280,0,343),(283,0,350),(293,0,357),(296,0,364),(298,0,371),(303,0,378),(316,0,385),(318,0,392),(324,0,399),(335,0,406),(339,0,413),(358,0,420),(362,0,427),(366,0,434),(379,0,441),(386,0,448),(393,0,455),(408,0,462),(415,0,469),(418,0,476),(432,0,483),(445,0,490),(452,0,497),(460,0,504),(479,0,511),(486,0,518),(491,0,525),(499,0,546),(502,0,553),(512,0,560),(517,0,567),(532,0,574),(536,0,588),(538,0,595),(557,0,600),(559,0,607),(564,0,614),(571,0,621),(577,0,628),(579,0,635),(587,0,642),(595,0,649),(619,0,656),(630,0,663),(644,0,668),(656,0,675),(675,0,682),(689,0,689),(697,0,696),(714,0,701),]
noncomputable def I_(P:Params):Obj:=(PySem.Obj.mk .none none (PySem.Data.dict (Array.mk [(DictEntry.mk (PySem.PyData.keyHash P (Sx [116,121,112,101,46,95,95,115,117,98,99,108,97,115,115,101,115,95,95,46,69,120,99,101,112,116,105,111,110,46,48])) (.str (Sx [116,121,112,101,46,95,95,115,117,98,99,108,97,115,115,101,115,95,95,46,69,120,99,101,112,116,105,111,110,46,48]) 369) (.int 136 0)),(DictEntry.mk (PySem.PyData.keyHash P (Sx [116,121,112,101,46,95,95,115,117,98,99,108,97,115,115,101,115,95,95,46,69,120,99,101,112,116,105,111,110,46,110])) (.str (Sx [116,121,112,101,46,95,95,115,117,98,99,108,97,115,115,101,115,95,95,46,69,120,99,101,112,116,105,111,110,46,110]) 370) (.int 1 0))]) 2) (Array.mk []))
noncomputable def others(P:Params):List (Nat×Obj):=[(11,(PySem.Obj.mk (.type PySem.W.SL.s2766695959194262286x5) none (PySem.Data.seq (Array.mk []) 0) (Array.mk []))),
 (13,(PySem.Obj.mk (.type PySem.W.SL.s5856160107412720595x4) none (PySem.Data.fields (Array.mk [(.str (Sx [60,109,111,100,117,108,101,62]) 182),(.str (Sx [60,109,111,100,117,108,101,62]) 183),(.str (Sx [47,99,108,97,105,109,47,99,117,116,46,112,121]) 184),(.int 1 0),(.int 0 0),(.int 0 0),(.int 0 0),(.int 0 0),(.ref 11),(.bool Bool.false),(.int 181 0),(.ref 12),.none,.none,.none,.none,(.int 185 0),(.int 1 0),(.str (Sx [47,99,108,97,105,109,47,99,117,116,46,112,121]) 186)])) (Array.mk []))),
 (14,(PySem.Obj.mk (.type PySem.W.SL.s658472552662922059x5) none PySem.Data.plain (Array.mk [(some (.ref 13)),(some (.ref 3)),(some (.ref 3)),none,(some (.str (Sx [95,95,109,97,105,110,95,95]) 164)),none,(some (.ref 0))]))),
 (120,(PySem.Obj.mk (.type PySem.W.SL.s2766695959194262286x5) none (PySem.Data.seq (Array.mk [(.type PySem.W.SL.s5946037652744460706x9)]) 0) (Array.mk []))),
 (121,(PySem.Obj.mk (.type PySem.W.SL.s11030030927630378310x26) none (PySem.Data.fields (Array.mk [(.builtin PySem.W.SL.s10062305145149207511x16),(.type PySem.W.SL.s17162191345867700912x4)])) (Array.mk []))),
 (122,(PySem.Obj.mk (.type PySem.W.SL.s14018661285674007319x4) none (PySem.Data.dict (Array.mk [(DictEntry.mk (PySem.PyData.keyHash P (Sx [95,95,109,111,100,117,108,101,95,95])) (.str (Sx [95,95,109,111,100,117,108,101,95,95]) 351) (.str (Sx [99,104,101,115,115,46,101,114,114,111,114,115]) 342)),(DictEntry.mk (PySem.PyData.keyHash P (Sx [95,95,113,117,97,108,110,97,109,101,95,95])) (.str (Sx [95,95,113,117,97,108,110,97,109,101,95,95]) 353) (.str (Sx [67,104,101,115,115,69,114,114,111,114]) 352)),(DictEntry.mk (PySem.PyData.keyHash P (Sx [95,95,102,105,114,115,116,108,105,110,101,110,111,95,95])) (.str (Sx [95,95,102,105,114,115,116,108,105,110,101,110,111,95,95]) 355) (.int 85 354)),(DictEntry.mk (PySem.PyData.keyHash P (Sx [95,95,105,110,105,116,95,95])) (.str (Sx [95,95,105,110,105,116,95,95]) 363) (.ref 133)),(DictEntry.mk (PySem.PyData.keyHash P (Sx [95,95,115,116,97,116,105,99,95,97,116,116,114,105,98,117,116,101,115,95,95])) (.str (Sx [95,95,115,116,97,116,105,99,95,97,116,116,114,105,98,117,116,101,115,95,95]) 365) (.ref 134))]) 5) (Array.mk []))),
 (123,(PySem.Obj.mk (.type PySem.W.SL.s2766695959194262286x5) none (PySem.Data.seq (Array.mk []) 0) (Array.mk []))),
 (124,(PySem.Obj.mk .none none (PySem.Data.fields (Array.mk [(.int 87 0),(.int 4 0),(.ref 132)])) (Array.mk []))),
 (125,(PySem.Obj.mk (.type PySem.W.SL.s5856160107412720595x4) none (PySem.Data.fields (Array.mk [(.str (Sx [67,104,101,115,115,69,114,114,111,114]) 346),(.str (Sx [67,104,101,115,115,69,114,114,111,114]) 347),(.str (Sx [47,99,108,97,105,109,47,99,117,116,46,112,121]) 348),(.int 85 0),(.int 0 0),(.int 0 0),(.int 0 0),(.int 0 0),(.ref 123),(.bool Bool.false),(.int 181 0),(.ref 124),.none,.none,.none,.none,(.int 349 0),(.int 85 0),(.str (Sx [47,99,108,97,105,109,47,99,117,116,46,112,121]) 350)])) (Array.mk []))),
 (126,(PySem.Obj.mk (.type PySem.W.SL.s658472552662922059x5) none PySem.Data.plain (Array.mk [(some (.ref 125)),(some (.ref 3)),(some (.ref 122)),none,(some (.str (Sx [99,104,101,115,115,46,101,114,114,111,114,115]) 342)),none,(some (.ref 0))]))),
 (134,(PySem.Obj.mk (.type PySem.W.SL.s2766695959194262286x5) none (PySem.Data.seq (Array.mk [(.str (Sx [116,101,120,116]) 364)]) 0) (Array.mk []))),
 (135,(PySem.Obj.mk (.type PySem.W.SL.s14018661285674007319x4) none (PySem.Data.dict (Array.mk [(DictEntry.mk (PySem.PyData.keyHash P (Sx [95,95,109,111,100,117,108,101,95,95])) (.str (Sx [95,95,109,111,100,117,108,101,95,95]) 351) (.str (Sx [99,104,101,115,115,46,101,114,114,111,114,115]) 342)),(DictEntry.mk (PySem.PyData.keyHash P (Sx [95,95,102,105,114,115,116,108,105,110,101,110,111,95,95])) (.str (Sx [95,95,102,105,114,115,116,108,105,110,101,110,111,95,95]) 355) (.int 85 354)),(DictEntry.mk (PySem.PyData.keyHash P (Sx [95,95,105,110,105,116,95,95])) (.str (Sx [95,95,105,110,105,116,95,95]) 363) (.ref 133)),(DictEntry.mk (PySem.PyData.keyHash P (Sx [95,95,115,116,97,116,105,99,95,97,116,116,114,105,98,117,116,101,115,95,95])) (.str (Sx [95,95,115,116,97,116,105,99,95,97,116,116,114,105,98,117,116,101,115,95,95]) 365) (.ref 134)),(DictEntry.mk (PySem.PyData.keyHash P (Sx [95,95,119,101,97,107,114,101,102,95,95])) (.str (Sx [95,95,119,101,97,107,114,101,102,95,95]) 367) (.ref 137)),(DictEntry.mk (PySem.PyData.keyHash P (Sx [95,95,100,111,99,95,95])) (.str (Sx [95,95,100,111,99,95,95]) 368) .none)]) 3) (Array.mk []))),
 (136,(PySem.Obj.mk (.type PySem.W.SL.s17162191345867700912x4) none (PySem.Data.cls (PySem.ClassData.mk (Sx [67,104,101,115,115,69,114,114,111,114]) [(.type PySem.W.SL.s5946037652744460706x9)] [(.ref 136),(.type PySem.W.SL.s5946037652744460706x9),(.type PySem.W.SL.s4278001404047624695x13),(.type PySem.W.SL.s2742458400755230247x6)] 135 (Sx [67,104,101,115,115,69,114,114,111,114]) Bool.true [] [] Bool.false none Bool.false)) (Array.mk [(some (.ref 120)),none,(some (.str (Sx [67,104,101,115,115,69,114,114,111,114]) 344)),(some (.str (Sx [67,104,101,115,115,69,114,114,111,114]) 352)),(some (.builtin PySem.W.SL.s5160863994218179198x17)),(some (.bool Bool.true))]))),
 (137,(PySem.Obj.mk (.type PySem.W.SL.s14755015743595814543x17) none (PySem.Data.fields (Array.mk [(.str (Sx [95,95,119,101,97,107,114,101,102,95,95]) 366),(.ref 136),(.builtin PySem.W.SL.s10220274742760427390x26),.none])) (Array.mk []))),
 (138,(PySem.Obj.mk (.type PySem.W.SL.s4290257624100764138x5) none (PySem.Data.fields (Array.mk [(.ref 136),(.ref 136),(.ref 136)])) (Array.mk []))),
 (139,(PySem.Obj.mk (.type PySem.W.SL.s11030030927630378310x26) none (PySem.Data.fields (Array.mk [(.builtin PySem.W.SL.s4860613602091757760x24),(.ref 136)])) (Array.mk []))),
 (140,(PySem.Obj.mk (.type PySem.W.SL.s2766695959194262286x5) none (PySem.Data.seq (Array.mk [(.int 0 375),(.int 1 376),(.int 0 377),(.int (-1) 379),(.int 1 380),(.int 1 381),(.int (-1) 383),(.int (-1) 385)]) 0) (Array.mk []))),
 (141,(PySem.Obj.mk (.type PySem.W.SL.s2766695959194262286x5) none (PySem.Data.seq (Array.mk [(.int 1 387),(.int 0 388),(.int (-1) 390),(.int 0 391),(.int 1 392),(.int (-1) 394),(.int (-1) 396),(.int 1 397)]) 0) (Array.mk []))),
 (142,(PySem.Obj.mk (.type PySem.W.SL.s2766695959194262286x5) none (PySem.Data.seq (Array.mk []) 0) (Array.mk []))),
 (143,(PySem.Obj.mk (.type PySem.W.SL.s11030030927630378310x26) none (PySem.Data.fields (Array.mk [(.builtin PySem.W.SL.s10062305145149207511x16),(.type PySem.W.SL.s17162191345867700912x4)])) (Array.mk []))),
 (144,(PySem.Obj.mk (.type PySem.W.SL.s14018661285674007319x4) none (PySem.Data.dict (Array.mk [(DictEntry.mk (PySem.PyData.keyHash P (Sx [95,95,109,111,100,117,108,101,95,95])) (.str (Sx [95,95,109,111,100,117,108,101,95,95]) 406) (.str (Sx [99,104,101,115,115,46,103,101,111,109,101,116,114,121]) 373)),(DictEntry.mk (PySem.PyData.keyHash P (Sx [95,95,113,117,97,108,110,97,109,101,95,95])) (.str (Sx [95,95,113,117,97,108,110,97,109,101,95,95]) 408) (.str (Sx [71,101,111,109,101,116,114,121]) 407)),(DictEntry.mk (PySem.PyData.keyHash P (Sx [95,95,102,105,114,115,116,108,105,110,101,110,111,95,95])) (.str (Sx [95,95,102,105,114,115,116,108,105,110,101,110,111,95,95]) 410) (.int 93 409)),(DictEntry.mk (PySem.PyData.keyHash P (Sx [95,95,105,110,105,116,95,95])) (.str (Sx [95,95,105,110,105,116,95,95]) 421) (.ref 155)),(DictEntry.mk (PySem.PyData.keyHash P (Sx [95,95,115,116,97,116,105,99,95,97,116,116,114,105,98,117,116,101,115,95,95])) (.str (Sx [95,95,115,116,97,116,105,99,95,97,116,116,114,105,98,117,116,101,115,95,95]) 436) (.ref 156))]) 5) (Array.mk []))),
 (145,(PySem.Obj.mk (.type PySem.W.SL.s2766695959194262286x5) none (PySem.Data.seq (Array.mk []) 0) (Array.mk []))),
 (146,(PySem.Obj.mk .none none (PySem.Data.fields (Array.mk [(.int 95 0),(.int 4 0),(.ref 154)])) (Array.mk []))),
 (147,(PySem.Obj.mk (.type PySem.W.SL.s5856160107412720595x4) none (PySem.Data.fields (Array.mk [(.str (Sx [71,101,111,109,101,116,114,121]) 401),(.str (Sx [71,101,111,109,101,116,114,121]) 402),(.str (Sx [47,99,108,97,105,109,47,99,117,116,46,112,121]) 403),(.int 93 0),(.int 0 0),(.int 0 0),(.int 0 0),(.int 0 0),(.ref 145),(.bool Bool.false),(.int 181 0),(.ref 146),.none,.none,.none,.none,(.int 404 0),(.int 93 0),(.str (Sx [47,99,108,97,105,109,47,99,117,116,46,112,121]) 405)])) (Array.mk []))),
 (148,(PySem.Obj.mk (.type PySem.W.SL.s658472552662922059x5) none PySem.Data.plain (Array.mk [(some (.ref 147)),(some (.ref 3)),(some (.ref 144)),none,(some (.str (Sx [99,104,101,115,115,46,103,101,111,109,101,116,114,121]) 373)),none,(some (.ref 0))]))),
 (156,(PySem.Obj.mk (.type PySem.W.SL.s2766695959194262286x5) none (PySem.Data.seq (Array.mk [(.str (Sx [99,97,115,116,108,101,115]) 422),(.str (Sx [102,105,108,101,95,109,97,115,107,115]) 423),(.str (Sx [102,105,108,101,115]) 424),(.str (Sx [102,117,108,108]) 425),(.str (Sx [104,97,115,95,99,97,115,116,108,105,110,103]) 426),(.str (Sx [104,97,115,95,100,111,117,98,108,101]) 427),(.str (Sx [107,105,110,103]) 428),(.str (Sx [107,110,105,103,104,116]) 429),(.str (Sx [112,97,119,110]) 430),(.str (Sx [114,97,110,107,95,109,97,115,107,115]) 431),(.str (Sx [114,97,110,107,115]) 432),(.str (Sx [114,97,121,115]) 433),(.str (Sx [114,105,103,104,116,115,95,108,111,115,116]) 434),(.str (Sx [115,105,122,101]) 435)]) 0) (Array.mk []))),
 (157,(PySem.Obj.mk (.type PySem.W.SL.s14018661285674007319x4) none (PySem.Data.dict (Array.mk [(DictEntry.mk (PySem.PyData.keyHash P (Sx [95,95,109,111,100,117,108,101,95,95])) (.str (Sx [95,95,109,111,100,117,108,101,95,95]) 406) (.str (Sx [99,104,101,115,115,46,103,101,111,109,101,116,114,121]) 373)),(DictEntry.mk (PySem.PyData.keyHash P (Sx [95,95,102,105,114,115,116,108,105,110,101,110,111,95,95])) (.str (Sx [95,95,102,105,114,115,116,108,105,110,101,110,111,95,95]) 410) (.int 93 409)),(DictEntry.mk (PySem.PyData.keyHash P (Sx [95,95,105,110,105,116,95,95])) (.str (Sx [95,95,105,110,105,116,95,95]) 421) (.ref 155)),(DictEntry.mk (PySem.PyData.keyHash P (Sx [95,95,115,116,97,116,105,99,95,97,116,116,114,105,98,117,116,101,115,95,95])) (.str (Sx [95,95,115,116,97,116,105,99,95,97,116,116,114,105,98,117,116,101,115,95,95]) 436) (.ref 156)),(DictEntry.mk (PySem.PyData.keyHash P (Sx [95,95,100,105,99,116,95,95])) (.str (Sx [95,95,100,105,99,116,95,95]) 438) (.ref 159)),(DictEntry.mk (PySem.PyData.keyHash P (Sx [95,95,119,101,97,107,114,101,102,95,95])) (.str (Sx [95,95,119,101,97,107,114,101,102,95,95]) 440) (.ref 160)),(DictEntry.mk (PySem.PyData.keyHash P (Sx [95,95,100,111,99,95,95])) (.str (Sx [95,95,100,111,99,95,95]) 441) .none)]) 4) (Array.mk []))),
 (158,(PySem.Obj.mk (.type PySem.W.SL.s17162191345867700912x4) none (PySem.Data.cls (PySem.ClassData.mk (Sx [71,101,111,109,101,116,114,121]) [(.type PySem.W.SL.s2742458400755230247x6)] [(.ref 158),(.type PySem.W.SL.s2742458400755230247x6)] 157 (Sx [71,101,111,109,101,116,114,121]) Bool.true [] [] Bool.false none Bool.false)) (Array.mk [none,none,(some (.str (Sx [71,101,111,109,101,116,114,121]) 399)),(some (.str (Sx [71,101,111,109,101,116,114,121]) 407)),(some (.builtin PySem.W.SL.s11443829558043349243x14)),(some (.bool Bool.true))]))),
 (159,(PySem.Obj.mk (.type PySem.W.SL.s14755015743595814543x17) none (PySem.Data.fields (Array.mk [(.str (Sx [95,95,100,105,99,116,95,95]) 437),(.ref 158),(.builtin PySem.W.SL.s6511155373996960695x17),(.builtin PySem.W.SL.s12411053484034534018x21)])) (Array.mk []))),
 (160,(PySem.Obj.mk (.type PySem.W.SL.s14755015743595814543x17) none (PySem.Data.fields (Array.mk [(.str (Sx [95,95,119,101,97,107,114,101,102,95,95]) 439),(.ref 158),(.builtin PySem.W.SL.s10220274742760427390x26),.none])) (Array.mk []))),
 (161,(PySem.Obj.mk (.type PySem.W.SL.s4290257624100764138x5) none (PySem.Data.fields (Array.mk [(.ref 158),(.ref 158),(.ref 158)])) (Array.mk []))),
 (162,(PySem.Obj.mk (.type PySem.W.SL.s11030030927630378310x26) none (PySem.Data.fields (Array.mk [(.builtin PySem.W.SL.s4860613602091757760x24),(.ref 158)])) (Array.mk []))),
 (261,(PySem.Obj.mk (.type PySem.W.SL.s2766695959194262286x5) none (PySem.Data.seq (Array.mk []) 0) (Array.mk []))),
 (262,(PySem.Obj.mk (.type PySem.W.SL.s11030030927630378310x26) none (PySem.Data.fields (Array.mk [(.builtin PySem.W.SL.s10062305145149207511x16),(.type PySem.W.SL.s17162191345867700912x4)])) (Array.mk []))),
 (263,(PySem.Obj.mk (.type PySem.W.SL.s14018661285674007319x4) none (PySem.Data.dict (Array.mk [(DictEntry.mk (PySem.PyData.keyHash P (Sx [95,95,109,111,100,117,108,101,95,95])) (.str (Sx [95,95,109,111,100,117,108,101,95,95]) 610) (.str (Sx [99,104,101,115,115,46,112,111,115,105,116,105,111,110]) 601)),(DictEntry.mk (PySem.PyData.keyHash P (Sx [95,95,113,117,97,108,110,97,109,101,95,95])) (.str (Sx [95,95,113,117,97,108,110,97,109,101,95,95]) 612) (.str (Sx [80,111,115,105,116,105,111,110]) 611)),(DictEntry.mk (PySem.PyData.keyHash P (Sx [95,95,102,105,114,115,116,108,105,110,101,110,111,95,95])) (.str (Sx [95,95,102,105,114,115,116,108,105,110,101,110,111,95,95]) 614) (.int 234 613)),(DictEntry.mk (PySem.PyData.keyHash P (Sx [95,95,105,110,105,116,95,95])) (.str (Sx [95,95,105,110,105,116,95,95]) 623) (.ref 274)),(DictEntry.mk (PySem.PyData.keyHash P (Sx [95,95,115,116,97,116,105,99,95,97,116,116,114,105,98,117,116,101,115,95,95])) (.str (Sx [95,95,115,116,97,116,105,99,95,97,116,116,114,105,98,117,116,101,115,95,95]) 636) (.ref 275))]) 5) (Array.mk []))),
 (264,(PySem.Obj.mk (.type PySem.W.SL.s2766695959194262286x5) none (PySem.Data.seq (Array.mk []) 0) (Array.mk []))),
 (265,(PySem.Obj.mk .none none (PySem.Data.fields (Array.mk [(.int 236 0),(.int 4 0),(.ref 273)])) (Array.mk []))),
 (266,(PySem.Obj.mk (.type PySem.W.SL.s5856160107412720595x4) none (PySem.Data.fields (Array.mk [(.str (Sx [80,111,115,105,116,105,111,110]) 605),(.str (Sx [80,111,115,105,116,105,111,110]) 606),(.str (Sx [47,99,108,97,105,109,47,99,117,116,46,112,121]) 607),(.int 234 0),(.int 0 0),(.int 0 0),(.int 0 0),(.int 0 0),(.ref 264),(.bool Bool.false),(.int 181 0),(.ref 265),.none,.none,.none,.none,(.int 608 0),(.int 234 0),(.str (Sx [47,99,108,97,105,109,47,99,117,116,46,112,121]) 609)])) (Array.mk []))),
 (267,(PySem.Obj.mk (.type PySem.W.SL.s658472552662922059x5) none PySem.Data.plain (Array.mk [(some (.ref 266)),(some (.ref 3)),(some (.ref 263)),none,(some (.str (Sx [99,104,101,115,115,46,112,111,115,105,116,105,111,110]) 601)),none,(some (.ref 0))]))),
 (275,(PySem.Obj.mk (.type PySem.W.SL.s2766695959194262286x5) none (PySem.Data.seq (Array.mk [(.str (Sx [98,111,97,114,100]) 624),(.str (Sx [101,112]) 625),(.str (Sx [102,117,108,108]) 626),(.str (Sx [103,101,111]) 627),(.str (Sx [104,97,108,102]) 628),(.str (Sx [104,105,115,116,111,114,121]) 629),(.str (Sx [107,101,121]) 630),(.str (Sx [107,105,110,100,115]) 631),(.str (Sx [114,105,103,104,116,115]) 632),(.str (Sx [115,105,100,101]) 633),(.str (Sx [115,105,100,101,115]) 634),(.str (Sx [122,111,98]) 635)]) 0) (Array.mk []))),
 (276,(PySem.Obj.mk (.type PySem.W.SL.s14018661285674007319x4) none (PySem.Data.dict (Array.mk [(DictEntry.mk (PySem.PyData.keyHash P (Sx [95,95,109,111,100,117,108,101,95,95])) (.str (Sx [95,95,109,111,100,117,108,101,95,95]) 610) (.str (Sx [99,104,101,115,115,46,112,111,115,105,116,105,111,110]) 601)),(DictEntry.mk (PySem.PyData.keyHash P (Sx [95,95,102,105,114,115,116,108,105,110,101,110,111,95,95])) (.str (Sx [95,95,102,105,114,115,116,108,105,110,101,110,111,95,95]) 614) (.int 234 613)),(DictEntry.mk (PySem.PyData.keyHash P (Sx [95,95,105,110,105,116,95,95])) (.str (Sx [95,95,105,110,105,116,95,95]) 623) (.ref 274)),(DictEntry.mk (PySem.PyData.keyHash P (Sx [95,95,115,116,97,116,105,99,95,97,116,116,114,105,98,117,116,101,115,95,95])) (.str (Sx [95,95,115,116,97,116,105,99,95,97,116,116,114,105,98,117,116,101,115,95,95]) 636) (.ref 275)),(DictEntry.mk (PySem.PyData.keyHash P (Sx [95,95,100,105,99,116,95,95])) (.str (Sx [95,95,100,105,99,116,95,95]) 638) (.ref 278)),(DictEntry.mk (PySem.PyData.keyHash P (Sx [95,95,119,101,97,107,114,101,102,95,95])) (.str (Sx [95,95,119,101,97,107,114,101,102,95,95]) 640) (.ref 279)),(DictEntry.mk (PySem.PyData.keyHash P (Sx [95,95,100,111,99,95,95])) (.str (Sx [95,95,100,111,99,95,95]) 641) .none)]) 4) (Array.mk []))),
 (277,(PySem.Obj.mk (.type PySem.W.SL.s17162191345867700912x4) none (PySem.Data.cls (PySem.ClassData.mk (Sx [80,111,115,105,116,105,111,110]) [(.type PySem.W.SL.s2742458400755230247x6)] [(.ref 277),(.type PySem.W.SL.s2742458400755230247x6)] 276 (Sx [80,111,115,105,116,105,111,110]) Bool.true [] [] Bool.false none Bool.false)) (Array.mk [none,none,(some (.str (Sx [80,111,115,105,116,105,111,110]) 603)),(some (.str (Sx [80,111,115,105,116,105,111,110]) 611)),(some (.builtin PySem.W.SL.s11443829558043349243x14)),(some (.bool Bool.true))]))),
 (278,(PySem.Obj.mk (.type PySem.W.SL.s14755015743595814543x17) none (PySem.Data.fields (Array.mk [(.str (Sx [95,95,100,105,99,116,95,95]) 637),(.ref 277),(.builtin PySem.W.SL.s6511155373996960695x17),(.builtin PySem.W.SL.s12411053484034534018x21)])) (Array.mk []))),
 (279,(PySem.Obj.mk (.type PySem.W.SL.s14755015743595814543x17) none (PySem.Data.fields (Array.mk [(.str (Sx [95,95,119,101,97,107,114,101,102,95,95]) 639),(.ref 277),(.builtin PySem.W.SL.s10220274742760427390x26),.none])) (Array.mk []))),
 (280,(PySem.Obj.mk (.type PySem.W.SL.s4290257624100764138x5) none (PySem.Data.fields (Array.mk [(.ref 277),(.ref 277),(.ref 277)])) (Array.mk []))),
 (281,(PySem.Obj.mk (.type PySem.W.SL.s11030030927630378310x26) none (PySem.Data.fields (Array.mk [(.builtin PySem.W.SL.s4860613602091757760x24),(.ref 277)])) (Array.mk []))),
 (520,(PySem.Obj.mk (.type PySem.W.SL.s2766695959194262286x5) none (PySem.Data.seq (Array.mk []) 0) (Array.mk []))),
 (521,(PySem.Obj.mk (.type PySem.W.SL.s11030030927630378310x26) none (PySem.Data.fields (Array.mk [(.builtin PySem.W.SL.s10062305145149207511x16),(.type PySem.W.SL.s17162191345867700912x4)])) (Array.mk []))),
 (522,(PySem.Obj.mk (.type PySem.W.SL.s14018661285674007319x4) none (PySem.Data.dict (Array.mk [(DictEntry.mk (PySem.PyData.keyHash P (Sx [95,95,109,111,100,117,108,101,95,95])) (.str (Sx [95,95,109,111,100,117,108,101,95,95]) 1039) (.str (Sx [99,104,101,115,115,46,122,111,98,114,105,115,116]) 1030)),(DictEntry.mk (PySem.PyData.keyHash P (Sx [95,95,113,117,97,108,110,97,109,101,95,95])) (.str (Sx [95,95,113,117,97,108,110,97,109,101,95,95]) 1041) (.str (Sx [90,111,98,114,105,115,116]) 1040)),(DictEntry.mk (PySem.PyData.keyHash P (Sx [95,95,102,105,114,115,116,108,105,110,101,110,111,95,95])) (.str (Sx [95,95,102,105,114,115,116,108,105,110,101,110,111,95,95]) 1043) (.int 491 1042)),(DictEntry.mk (PySem.PyData.keyHash P (Sx [95,95,105,110,105,116,95,95])) (.str (Sx [95,95,105,110,105,116,95,95]) 1054) (.ref 533)),(DictEntry.mk (PySem.PyData.keyHash P (Sx [95,95,115,116,97,116,105,99,95,97,116,116,114,105,98,117,116,101,115,95,95])) (.str (Sx [95,95,115,116,97,116,105,99,95,97,116,116,114,105,98,117,116,101,115,95,95]) 1059) (.ref 534))]) 5) (Array.mk []))),
 (523,(PySem.Obj.mk (.type PySem.W.SL.s2766695959194262286x5) none (PySem.Data.seq (Array.mk []) 0) (Array.mk []))),
 (524,(PySem.Obj.mk .none none (PySem.Data.fields (Array.mk [(.int 493 0),(.int 4 0),(.ref 532)])) (Array.mk []))),
 (525,(PySem.Obj.mk (.type PySem.W.SL.s5856160107412720595x4) none (PySem.Data.fields (Array.mk [(.str (Sx [90,111,98,114,105,115,116]) 1034),(.str (Sx [90,111,98,114,105,115,116]) 1035),(.str (Sx [47,99,108,97,105,109,47,99,117,116,46,112,121]) 1036),(.int 491 0),(.int 0 0),(.int 0 0),(.int 0 0),(.int 0 0),(.ref 523),(.bool Bool.false),(.int 181 0),(.ref 524),.none,.none,.none,.none,(.int 1037 0),(.int 491 0),(.str (Sx [47,99,108,97,105,109,47,99,117,116,46,112,121]) 1038)])) (Array.mk []))),
 (526,(PySem.Obj.mk (.type PySem.W.SL.s658472552662922059x5) none PySem.Data.plain (Array.mk [(some (.ref 525)),(some (.ref 3)),(some (.ref 522)),none,(some (.str (Sx [99,104,101,115,115,46,122,111,98,114,105,115,116]) 1030)),none,(some (.ref 0))]))),
 (534,(PySem.Obj.mk (.type PySem.W.SL.s2766695959194262286x5) none (PySem.Data.seq (Array.mk [(.str (Sx [101,112]) 1055),(.str (Sx [112,105,101,99,101,115]) 1056),(.str (Sx [114,105,103,104,116,115]) 1057),(.str (Sx [115,105,100,101]) 1058)]) 0) (Array.mk []))),
 (535,(PySem.Obj.mk (.type PySem.W.SL.s14018661285674007319x4) none (PySem.Data.dict (Array.mk [(DictEntry.mk (PySem.PyData.keyHash P (Sx [95,95,109,111,100,117,108,101,95,95])) (.str (Sx [95,95,109,111,100,117,108,101,95,95]) 1039) (.str (Sx [99,104,101,115,115,46,122,111,98,114,105,115,116]) 1030)),(DictEntry.mk (PySem.PyData.keyHash P (Sx [95,95,102,105,114,115,116,108,105,110,101,110,111,95,95])) (.str (Sx [95,95,102,105,114,115,116,108,105,110,101,110,111,95,95]) 1043) (.int 491 1042)),(DictEntry.mk (PySem.PyData.keyHash P (Sx [95,95,105,110,105,116,95,95])) (.str (Sx [95,95,105,110,105,116,95,95]) 1054) (.ref 533)),(DictEntry.mk (PySem.PyData.keyHash P (Sx [95,95,115,116,97,116,105,99,95,97,116,116,114,105,98,117,116,101,115,95,95])) (.str (Sx [95,95,115,116,97,116,105,99,95,97,116,116,114,105,98,117,116,101,115,95,95]) 1059) (.ref 534)),(DictEntry.mk (PySem.PyData.keyHash P (Sx [95,95,100,105,99,116,95,95])) (.str (Sx [95,95,100,105,99,116,95,95]) 1061) (.ref 537)),(DictEntry.mk (PySem.PyData.keyHash P (Sx [95,95,119,101,97,107,114,101,102,95,95])) (.str (Sx [95,95,119,101,97,107,114,101,102,95,95]) 1063) (.ref 538)),(DictEntry.mk (PySem.PyData.keyHash P (Sx [95,95,100,111,99,95,95])) (.str (Sx [95,95,100,111,99,95,95]) 1064) .none)]) 4) (Array.mk []))),
 (536,(PySem.Obj.mk (.type PySem.W.SL.s17162191345867700912x4) none (PySem.Data.cls (PySem.ClassData.mk (Sx [90,111,98,114,105,115,116]) [(.type PySem.W.SL.s2742458400755230247x6)] [(.ref 536),(.type PySem.W.SL.s2742458400755230247x6)] 535 (Sx [90,111,98,114,105,115,116]) Bool.true [] [] Bool.false none Bool.false)) (Array.mk [none,none,(some (.str (Sx [90,111,98,114,105,115,116]) 1032)),(some (.str (Sx [90,111,98,114,105,115,116]) 1040)),(some (.builtin PySem.W.SL.s11443829558043349243x14)),(some (.bool Bool.true))]))),
 (537,(PySem.Obj.mk (.type PySem.W.SL.s14755015743595814543x17) none (PySem.Data.fields (Array.mk [(.str (Sx [95,95,100,105,99,116,95,95]) 1060),(.ref 536),(.builtin PySem.W.SL.s6511155373996960695x17),(.builtin PySem.W.SL.s12411053484034534018x21)])) (Array.mk []))),
 (538,(PySem.Obj.mk (.type PySem.W.SL.s14755015743595814543x17) none (PySem.Data.fields (Array.mk [(.str (Sx [95,95,119,101,97,107,114,101,102,95,95]) 1062),(.ref 536),(.builtin PySem.W.SL.s10220274742760427390x26),.none])) (Array.mk []))),
 (539,(PySem.Obj.mk (.type PySem.W.SL.s4290257624100764138x5) none (PySem.Data.fields (Array.mk [(.ref 536),(.ref 536),(.ref 536)])) (Array.mk []))),
 (540,(PySem.Obj.mk (.type PySem.W.SL.s11030030927630378310x26) none (PySem.Data.fields (Array.mk [(.builtin PySem.W.SL.s4860613602091757760x24),(.ref 536)])) (Array.mk []))),
 (576,(PySem.Obj.mk (.type PySem.W.SL.s2766695959194262286x5) none (PySem.Data.seq (Array.mk [(.int 4 1128),(.int 5 1129),(.int 1 1130),(.int 0 1131)]) 0) (Array.mk []))),
 (577,(PySem.Obj.mk (.type PySem.W.SL.s2766695959194262286x5) none (PySem.Data.seq (Array.mk [(.int 8 1132),(.int 3 1133),(.int 0 1134),(.int 1 1135)]) 0) (Array.mk []))),
 (578,(PySem.Obj.mk (.type PySem.W.SL.s2766695959194262286x5) none (PySem.Data.seq (Array.mk [(.int 5 1136),(.int 5 1137),(.int 1 1138),(.int 0 1139)]) 0) (Array.mk []))),
 (579,(PySem.Obj.mk (.type PySem.W.SL.s2766695959194262286x5) none (PySem.Data.seq (Array.mk [(.int 6 1140),(.int 3 1141),(.int 0 1142),(.int 1 1143)]) 0) (Array.mk []))),
 (580,(PySem.Obj.mk (.type PySem.W.SL.s2766695959194262286x5) none (PySem.Data.seq (Array.mk [(.int 3 1144),(.int 5 1145),(.int 1 1146),(.int 0 1147)]) 0) (Array.mk []))),
 (581,(PySem.Obj.mk (.type PySem.W.SL.s2766695959194262286x5) none (PySem.Data.seq (Array.mk [(.int 4 1148),(.int 5 1149),(.int 0 1150),(.int 0 1151)]) 0) (Array.mk []))),
 (582,(PySem.Obj.mk (.type PySem.W.SL.s2766695959194262286x5) none (PySem.Data.seq (Array.mk [(.ref 576),(.ref 577),(.ref 578),(.ref 579),(.ref 580),(.ref 581)]) 0) (Array.mk [])))]
noncomputable def ym(b:Nat):List (Nat×Obj)→Obj
 | []=>zN []
 |(i,o)::l=>match Nat.beq i b with
  |true=>o
  |false=>ym b l
noncomputable def GP(P:Params):List (Nat×Obj):=[(0,boot_o_0 P),(1,boot_o_1 P),(2,boot_o_2 P),(3,boot_o_3 P),(4,boot_o_4 P),(5,boot_o_5 P),(6,boot_o_6 P),(7,boot_o_7 P),(8,boot_o_8 P),(9,boot_o_9 P),(10,boot_o_10 P)]
noncomputable def ob(P:Params)(b:Nat):Obj:=match Nat.blt b 11 with
 |true=>ym b (GP P)
 |false=>match findR b rws with
  |some (r,o)=>MN r o
  |none=>ym b (others P)
noncomputable def Mq(f:Nat→Obj):Nat→Nat→Nat→BT
 |0,_,_=>.nil
 |d+1,a,b=>match Nat.blt b 703 with
  |true=>.node (f b) (Mq f d (2*a) (a+b)) (Mq f d (2*a) (2*a+b))
  |false=>.nil
noncomputable def T0(P:Params):BT:=Mq (ob P) 11 1 0
noncomputable def Dd(P:Params):Nat→List (Nat×Nat×Nat)→List DictEntry
 |0,_=>[]
 |_+1,[]=>[]
 |n+1,(i,t,a)::l=>⟨PyData.keyHash P (vS (vv i)).1.nm,.str (vS (vv i)).1.nm t,match a with
   |0=>Ma (t-1) (GW (vS (vv i)).2)
   |_=>.ref a⟩::Dd P n l
noncomputable def named(v:Value):List DictEntry→List DictEntry
 | []=>[]
 |e::r=>⟨e.hash,e.key,v⟩::r
noncomputable def wz(o:Obj):List DictEntry:=match o.data with
 |.dict es _=>es.toList
 |_=>[]
noncomputable def CW(P:Params)(k mi mt:Nat):Obj:=.mk (.type PySem.W.SL.s14018661285674007319x4) none (.dict ⟨named (.str (qA mi) mt) (wz (boot_o_3 P))++Dd P k K6⟩ (9+k)) ⟨[]⟩
noncomputable def De:Nat→List (Nat×Nat×Nat)→List Value
 |0,_=>[]
 |_+1,[]=>[]
 |n+1,(a,b,c)::l=>.int (Int.ofNat a) 0::.int (Int.ofNat b) 0::.ref c::De n l
structure Cut where
 n:Nat
 tk:Nat
 e:Nat
 mi:Nat
 mt:Nat
 tr:Nat
 st:Nat
noncomputable def ux(P:Params)(c:Cut):BT:=(((T0 P).set 2 λ_=>(match c.st with|0=>boot_o_2 P|_=>I_ P)).set 3 λ_=>(match c.e with|0=>boot_o_3 P|_=>CW P (c.e-9) c.mi c.mt)).set 12 λ_=>D7 (De c.tr M0)
noncomputable def stC(P:Params)(c:Cut)(os:OsState):SharedT:=⟨ux P c,c.n,{},⟨[]⟩,boot_drawn,c.tk,os⟩
noncomputable def wA(p:Program):Env:={ scope:=p.main.scope,locals:=mainNs,globals:=mainNs,cells:=[],code:=.ref 13,frame:=some 14 }
noncomputable def cF(p:Program):Code:=.body (behindTheImports p) (wA p)
noncomputable def NC:List Stmt→Nat→List Stmt
 |l,0=>l
 | [],_=>[]
 |_::r,n+1=>NC r n
noncomputable def Om:List Stmt→Nat→List Stmt
 |_,0=>[]
 | [],_=>[]
 |s::r,n+1=>s::Om r n
noncomputable def uu(p:Program)(a n:Nat):List Stmt:=Om (NC p.main.body a) n
noncomputable def B0:List Frame:=[topFrame ⟨0,0,0,0⟩]
noncomputable def kL(p:Program)(a n:Nat)(q:Pos):Thread:=piecesOf (uu p a n) (wA p) (cF p) q B0
noncomputable def pQ:Cut:=⟨15,187,0,0,0,0,0⟩
noncomputable def AE:Cut:=⟨71,275,31,22,266,8,0⟩
noncomputable def BP:Pos:=⟨37,0,38,25⟩
noncomputable def AF:Cut:=⟨120,344,38,32,342,15,0⟩
noncomputable def BQ:Pos:=⟨84,0,84,8⟩
noncomputable def AG:Cut:=⟨142,399,41,34,373,16,1⟩
noncomputable def BR:Pos:=⟨92,0,92,10⟩
noncomputable def AI:Cut:=⟨198,493,47,34,373,22,1⟩
noncomputable def BS:Pos:=⟨146,0,149,90⟩
noncomputable def AJ:Cut:=⟨261,603,56,53,601,31,1⟩
noncomputable def BU:Pos:=⟨233,0,233,8⟩
noncomputable def AK:Cut:=⟨317,685,62,58,669,37,1⟩
noncomputable def BV:Pos:=⟨262,0,263,47⟩
noncomputable def AL:Cut:=⟨401,813,74,73,811,49,1⟩
noncomputable def BW:Pos:=⟨327,0,327,8⟩
noncomputable def AM:Cut:=⟨450,915,96,87,875,56,1⟩
noncomputable def BX:Pos:=⟨386,0,392,55⟩
noncomputable def AN:Cut:=⟨520,1032,106,108,1030,66,1⟩
noncomputable def BY:Pos:=⟨490,0,490,8⟩
noncomputable def th:Cut:=⟨569,1118,111,110,1067,71,1⟩
noncomputable def ua:Pos:=⟨517,0,531,17⟩
noncomputable def tj:Cut:=⟨644,1252,122,116,1126,81,1⟩
noncomputable def ub:Pos:=⟨587,0,594,13⟩
noncomputable def jY:Cut:=⟨703,1383,131,116,1126,90,1⟩
noncomputable def yS:Pos:=⟨714,0,741,39⟩
noncomputable def qJ:Pos:=⟨0,0,0,0⟩
end
section
open PySem PySem.W PyProof.Rows
theorem PL(w:World):(λos=>PySem.W.Fast.tw10110043849684766642 PySem.W.Fast.tw14364793385576792824 TW w 11 (some (.ref 6)) 1 377 (stC w.params pQ os) (kL TW 0 24 qJ))=λos=>some (.next,stC w.params AE os,cF TW,BP):=by
 kernel_rfl
theorem PM(w:World):(λos=>PySem.W.Fast.tw10110043849684766642 PySem.W.Fast.tw14364793385576792824 TW w 11 (some (.ref 6)) 1 238 (stC w.params AE os) (kL TW 24 9 BP))=λos=>some (.next,stC w.params AF os,cF TW,BQ):=by
 kernel_rfl
theorem PN(w:World):(λos=>PySem.W.Fast.tw10110043849684766642 PySem.W.Fast.tw14364793385576792824 TW w 11 (some (.ref 6)) 1 304 (stC w.params AF os) (kL TW 33 4 BQ))=λos=>some (.next,stC w.params AG os,cF TW,BR):=by
 kernel_rfl
theorem PO(w:World):(λos=>PySem.W.Fast.tw10110043849684766642 PySem.W.Fast.tw14364793385576792824 TW w 11 (some (.ref 6)) 1 398 (stC w.params AG os) (kL TW 37 6 BR))=λos=>some (.next,stC w.params AI os,cF TW,BS):=by
 kernel_rfl
theorem PQ(w:World):(λos=>PySem.W.Fast.tw10110043849684766642 PySem.W.Fast.tw14364793385576792824 TW w 11 (some (.ref 6)) 1 323 (stC w.params AI os) (kL TW 43 11 BS))=λos=>some (.next,stC w.params AJ os,cF TW,BU):=by
 kernel_rfl
theorem PR(w:World):(λos=>PySem.W.Fast.tw10110043849684766642 PySem.W.Fast.tw14364793385576792824 TW w 11 (some (.ref 6)) 1 393 (stC w.params AJ os) (kL TW 54 7 BU))=λos=>some (.next,stC w.params AK os,cF TW,BV):=by
 kernel_rfl
theorem PS(w:World):(λos=>PySem.W.Fast.tw10110043849684766642 PySem.W.Fast.tw14364793385576792824 TW w 11 (some (.ref 6)) 1 400 (stC w.params AK os) (kL TW 61 13 BV))=λos=>some (.next,stC w.params AL os,cF TW,BW):=by
 kernel_rfl
theorem PT(w:World):(λos=>PySem.W.Fast.tw10110043849684766642 PySem.W.Fast.tw14364793385576792824 TW w 11 (some (.ref 6)) 1 376 (stC w.params AL os) (kL TW 74 24 BW))=λos=>some (.next,stC w.params AM os,cF TW,BX):=by
 kernel_rfl
theorem PU(w:World):(λos=>PySem.W.Fast.tw10110043849684766642 PySem.W.Fast.tw14364793385576792824 TW w 11 (some (.ref 6)) 1 345 (stC w.params AM os) (kL TW 98 11 BX))=λos=>some (.next,stC w.params AN os,cF TW,BY):=by
 kernel_rfl
theorem Mz(w:World):(λos=>PySem.W.Fast.tw10110043849684766642 PySem.W.Fast.tw14364793385576792824 TW w 11 (some (.ref 6)) 1 375 (stC w.params AN os) (kL TW 109 6 BY))=λos=>some (.next,stC w.params th os,cF TW,ua):=by
 kernel_rfl
theorem MA(w:World):(λos=>PySem.W.Fast.tw10110043849684766642 PySem.W.Fast.tw14364793385576792824 TW w 11 (some (.ref 6)) 1 381 (stC w.params th os) (kL TW 115 12 ua))=λos=>some (.next,stC w.params tj os,cF TW,ub):=by
 kernel_rfl
theorem MB(w:World):(λos=>PySem.W.Fast.tw10110043849684766642 PySem.W.Fast.tw14364793385576792824 TW w 11 (some (.ref 6)) 1 326 (stC w.params tj os) (kL TW 127 9 ub))=λos=>some (.next,stC w.params jY os,cF TW,yS):=by
 kernel_rfl
end
section
open PySem PySem.W PyProof.Rows
noncomputable abbrev OM:Option Value:=some (.ref 6)
theorem MJ(w:World):(λos=>PySem.W.Fast.tw15667345088766844465 PySem.W.Fast.tw14364793385576792824 TW w 11 (some (.ref 6)) 12 ⟨boot_heap w.params,⟨[]⟩,boot_drawn,boot_toks,os⟩ (topStub TW))=λos=>some ((stC w.params pQ os).abs,⟨PySem.W.Fast.tw11892475500146522536 PySem.W.Fast.tw14364793385576792824 (cF TW),cF TW,qJ,B0⟩):=by
 kernel_rfl
theorem KO(w:World):(λos=>PySem.W.Fast.tw14374325043358763698 PySem.W.Fast.tw14364793385576792824 TW w 11 (some (.ref 6)) 1 1 (stC w.params pQ os).abs (blockOf (behindTheImports TW) (wA TW) (cF TW) qJ B0))=λos=>some (.next,(stC w.params pQ os).abs,cF TW,qJ):=by
 kernel_rfl
theorem LV(w:World):(λos=>PySem.W.Fast.tw14082659384304107361 PySem.W.Fast.tw14364793385576792824 TW w 11 (some (.ref 6)) 2 (stC w.params jY os).abs ⟨doneF .next,cF TW,yS,B0⟩)=λos=>some (stC w.params jY os).abs:=by
 kernel_rfl
theorem IY(w:World):((boot_heap w.params).isNs mainGlobals&&(#[]:Array GenState).size==0,(boot_heap w.params).objs.size,(boot_heap w.params).nsMap mainGlobals "__annotations__")=(true,11,some (.ref 6)):=by
 kernel_rfl
theorem EX:behindTheImports TW=uu TW 0 24++(uu TW 24 9++(uu TW 33 4++(uu TW 37 6++(uu TW 43 11++(uu TW 54 7++(uu TW 61 13++(uu TW 74 24++(uu TW 98 11++(uu TW 109 6++(uu TW 115 12++(uu TW 127 9++([])))))))))))):=by
 kernel_rfl
theorem PV(w:World)(os:OsState):segRun treeTable TW w 11 (some (.ref 6)) 1 377 (stC w.params pQ os).abs (kL TW 0 24 qJ)=some (.next,(stC w.params AE os).abs,cF TW,BP):=
 segRun_of (by rw[PySem.W.Fast.te10110043849684766642,PySem.W.Fast.te14364793385576792824];exact congrFun (PL w) os)
theorem PW(w:World)(os:OsState):segRun treeTable TW w 11 (some (.ref 6)) 1 238 (stC w.params AE os).abs (kL TW 24 9 BP)=some (.next,(stC w.params AF os).abs,cF TW,BQ):=
 segRun_of (by rw[PySem.W.Fast.te10110043849684766642,PySem.W.Fast.te14364793385576792824];exact congrFun (PM w) os)
theorem PX(w:World)(os:OsState):segRun treeTable TW w 11 (some (.ref 6)) 1 304 (stC w.params AF os).abs (kL TW 33 4 BQ)=some (.next,(stC w.params AG os).abs,cF TW,BR):=
 segRun_of (by rw[PySem.W.Fast.te10110043849684766642,PySem.W.Fast.te14364793385576792824];exact congrFun (PN w) os)
theorem PY(w:World)(os:OsState):segRun treeTable TW w 11 (some (.ref 6)) 1 398 (stC w.params AG os).abs (kL TW 37 6 BR)=some (.next,(stC w.params AI os).abs,cF TW,BS):=
 segRun_of (by rw[PySem.W.Fast.te10110043849684766642,PySem.W.Fast.te14364793385576792824];exact congrFun (PO w) os)
theorem PZ(w:World)(os:OsState):segRun treeTable TW w 11 (some (.ref 6)) 1 323 (stC w.params AI os).abs (kL TW 43 11 BS)=some (.next,(stC w.params AJ os).abs,cF TW,BU):=
 segRun_of (by rw[PySem.W.Fast.te10110043849684766642,PySem.W.Fast.te14364793385576792824];exact congrFun (PQ w) os)
theorem P8(w:World)(os:OsState):segRun treeTable TW w 11 (some (.ref 6)) 1 393 (stC w.params AJ os).abs (kL TW 54 7 BU)=some (.next,(stC w.params AK os).abs,cF TW,BV):=
 segRun_of (by rw[PySem.W.Fast.te10110043849684766642,PySem.W.Fast.te14364793385576792824];exact congrFun (PR w) os)
theorem P9(w:World)(os:OsState):segRun treeTable TW w 11 (some (.ref 6)) 1 400 (stC w.params AK os).abs (kL TW 61 13 BV)=some (.next,(stC w.params AL os).abs,cF TW,BW):=
 segRun_of (by rw[PySem.W.Fast.te10110043849684766642,PySem.W.Fast.te14364793385576792824];exact congrFun (PS w) os)
theorem P_(w:World)(os:OsState):segRun treeTable TW w 11 (some (.ref 6)) 1 376 (stC w.params AL os).abs (kL TW 74 24 BW)=some (.next,(stC w.params AM os).abs,cF TW,BX):=
 segRun_of (by rw[PySem.W.Fast.te10110043849684766642,PySem.W.Fast.te14364793385576792824];exact congrFun (PT w) os)
theorem Qa(w:World)(os:OsState):segRun treeTable TW w 11 (some (.ref 6)) 1 345 (stC w.params AM os).abs (kL TW 98 11 BX)=some (.next,(stC w.params AN os).abs,cF TW,BY):=
 segRun_of (by rw[PySem.W.Fast.te10110043849684766642,PySem.W.Fast.te14364793385576792824];exact congrFun (PU w) os)
theorem MD(w:World)(os:OsState):segRun treeTable TW w 11 (some (.ref 6)) 1 375 (stC w.params AN os).abs (kL TW 109 6 BY)=some (.next,(stC w.params th os).abs,cF TW,ua):=
 segRun_of (by rw[PySem.W.Fast.te10110043849684766642,PySem.W.Fast.te14364793385576792824];exact congrFun (Mz w) os)
theorem ME(w:World)(os:OsState):segRun treeTable TW w 11 (some (.ref 6)) 1 381 (stC w.params th os).abs (kL TW 115 12 ua)=some (.next,(stC w.params tj os).abs,cF TW,ub):=
 segRun_of (by rw[PySem.W.Fast.te10110043849684766642,PySem.W.Fast.te14364793385576792824];exact congrFun (MA w) os)
theorem MF(w:World)(os:OsState):segRun treeTable TW w 11 (some (.ref 6)) 1 326 (stC w.params tj os).abs (kL TW 127 9 ub)=some (.next,(stC w.params jY os).abs,cF TW,yS):=
 segRun_of (by rw[PySem.W.Fast.te10110043849684766642,PySem.W.Fast.te14364793385576792824];exact congrFun (MB w) os)
theorem MP(w:World)(os:OsState):topRun treeTable TW w 11 (some (.ref 6)) (12+(1+(377+(238+(304+(398+(323+(393+(400+(376+(345+(375+(381+(326+2)))))))))))))) ⟨boot_heap w.params,⟨[]⟩,boot_drawn,boot_toks,os⟩ (topStub TW)=some (stC w.params jY os).abs:=by
 have h1:topGo treeTable TW w 11 (some (.ref 6)) 12 ⟨boot_heap w.params,⟨[]⟩,boot_drawn,boot_toks,os⟩ (topStub TW)=some ((stC w.params pQ os).abs,⟨denote treeTable (cF TW),cF TW,qJ,B0⟩):=by
  rw[PySem.W.Fast.te15667345088766844465,PySem.W.Fast.te11892475500146522536,PySem.W.Fast.te14364793385576792824];exact congrFun (MJ w) os
 have h2:segRun treeTable TW w 11 (some (.ref 6)) 1 1 (stC w.params pQ os).abs (blockOf (behindTheImports TW) (wA TW) (cF TW) qJ B0)=some (.next,(stC w.params pQ os).abs,cF TW,qJ):=by
  rw[PySem.W.Fast.te14374325043358763698,PySem.W.Fast.te14364793385576792824];exact congrFun (KO w) os
 refine go_top h1 (piece_block (env:=wA TW) (b:=behindTheImports TW) h2 ?_)
 rw[EX]
 refine piece_app (PV w os) ?_
 refine piece_app (PW w os) ?_
 refine piece_app (PX w os) ?_
 refine piece_app (PY w os) ?_
 refine piece_app (PZ w os) ?_
 refine piece_app (P8 w os) ?_
 refine piece_app (P9 w os) ?_
 refine piece_app (P_ w os) ?_
 refine piece_app (Qa w os) ?_
 refine piece_app (MD w os) ?_
 refine piece_app (ME w os) ?_
 refine piece_app (MF w os) ?_
 exact piece_nil (by rw[PySem.W.Fast.te14082659384304107361,PySem.W.Fast.te14364793385576792824];exact congrFun (LV w) os)
end
section
open PySem PySem.W PyProof.Rows
noncomputable abbrev H1(P:Params):PySem.Heap:=absHeap (ux P jY) 703 {}
noncomputable def qV:Program:={ TW with main:={ TW.main with body:=uu TW 135 1 } }
noncomputable def NZ(s:Stmt):Str:=(vS s).1.nm
noncomputable def NX:Nat→List (Nat×Nat×Nat)→List Str
 |0,_=>[]
 |_+1,[]=>[]
 |n+1,(i,_,_)::l=>NZ (vv i)::NX n l
noncomputable def jN:List Str:=NX 121 K6
noncomputable abbrev Kv(s:Shared):Bool:=recOk (RowW.records PySem.Challenge.rw_nt0458_01.row.toRowW) s
theorem Im(w:World):(staticsOk (PySem.W.Fast.tw5923862056798008813 TW.main.body) (boot_heap w.params) (H1 w.params)&&namesBound TW (H1 w.params)&&laidKept (boot_heap w.params) (H1 w.params))=true:=by
 kernel_rfl
theorem Io(w:World):(λos=>PySem.W.Fast.tw4187177175401517315 qV jN (PySem.W.Fast.tw5923862056798008813 TW.main.body) Kv true ⟨H1 w.params,⟨[]⟩,boot_drawn,1383,os⟩)=λ_=>openGood qV jN:=by
 kernel_rfl
end
section
open PySem PySem.W PyProof.Rows
noncomputable def qY(r:Rw):Nat:=r.a+wide r.k-1
noncomputable def ML(l:List Rw):List Nat:=l.flatMap λr=>[qY r,qY r-1]
noncomputable def gM:List Nat:=ML rws++[11,13,14,120,121,122,123,124,125,126,134,135,136,137,138,139,140,141,142,143,144,145,146,147,148,156,157,158,159,160,161,162,261,262,263,264,265,266,267,275,276,277,278,279,280,281,520,521,522,523,524,525,526,534,535,536,537,538,539,540,576,577,578,579,580,581,582]
noncomputable def qa(P:Params)(l:List Nat):Frag:=l.map λa=>(a,ob P a)
noncomputable def j5(P:Params):Obj:=CW P 122 116 1126
noncomputable def b_(P:Params):Frag:=(3,j5 P)::qa P gM
theorem x_(P:Params):(gM.map λa=>((ux P jY).get a).bind alive)=gM.map λa=>some (ob P a):=by
 kernel_rfl
theorem yz(P:Params):((ux P jY).get 3).bind alive=some (j5 P):=by
 kernel_rfl
theorem Bq:(gM.all λa=>Nat.blt a 703)=true:=by kernel_rfl
theorem t9{t:BT}{n:Nat}{life:Life}{a:Nat}{o:Obj}(h:a<n)(g:(t.get a).bind alive=some o):(absHeap t n life).get? a=some o:=
 af g λ_ h1 h2=>(abs_get h h1).trans h2
theorem sZ{t:BT}{n:Nat}{life:Life}{f:Nat→Option Obj}(f1:∀a,∃o,f a=some o):∀{l:List Nat},(l.all λa=>Nat.blt a n)=true→(l.map λa=>(t.get a).bind alive)=l.map f→l.map (absHeap t n life).get?=l.map f
 | [],_,_=>rfl
 |a::l,h,g=>jX (bJ (f1 a) λ_ e=>(t9 (Nat.le_of_ble_eq_true (fe h)) ((List.cons.inj g).1.trans e)).trans e.symm) (sZ (l:=l) f1 (iz h) (List.cons.inj g).2)
noncomputable def Jo(s:Shared):List (Option Obj):=(3::gM).map s.heap.get?
noncomputable def Jn(w:World):List (Option Obj):=some (j5 w.params)::gM.map λa=>some (ob w.params a)
theorem Ip(w:World)(os:OsState):Jo ⟨H1 w.params,⟨[]⟩,boot_drawn,1383,os⟩=Jn w:=
 jX (t9 (by decide) (yz w.params)) (sZ (λa=>⟨_,rfl⟩) Bq (x_ w.params))
noncomputable def tF(w:World):Frag:=b_ w.params
theorem uU(w:World)(s:Shared)(h:Jo s=Jn w):(tF w).In s.heap:=
 Frag.in_of (as:=3::gM) (jX rfl (by unfold qa;rw[List.map_map];exact(List.map_id _).symm)) (h.trans (jX rfl (by unfold qa;rw[List.map_map];rfl)))
noncomputable def mK:DefRec:=⟨(uN [] (vv 135)).nm,(uN [] (vv 135)).args,(uN [] (vv 135)).body,(uN [] (vv 135)).sc,(uN [] (vv 135)).pos⟩
theorem Il:LeftO TW qV jN Kv Jo Jn 10000:=by
 refine LeftO.of_pieces (H₀:=boot_heap) (H₁:=H1) (gs₀:=⟨[]⟩) (gs₁:=⟨[]⟩) (d₀:=boot_drawn) (d₁:=boot_drawn) (k₀:=boot_toks) (k₁:=1383) (m₀:=11) (ann:=some (.ref 6))
  (boot_open (by kernel_rfl) (by decide) (λs=>by kernel_rfl)) IY (λw os=>MP w os) (by decide) (λw=>?_)
 funext os
 have h1:=Im w
 rw[← PySem.W.Fast.te5923862056798008813]at h1
 have h2:=congrFun (Io w) os
 rw[← PySem.W.Fast.te5923862056798008813,← PySem.W.Fast.te4187177175401517315]at h2
 refine Prod.ext ?_ (Prod.ext h2 (Ip w os))
 show(staticsOk (importedModules TW.main.body) (boot_heap w.params) (H1 w.params)&&namesBound TW (H1 w.params)&&true&&laidKept (boot_heap w.params) (H1 w.params))=true
 rw[Bool.and_true]
 exact h1
end
section
open PySem PySem.W PyProof.Rows
theorem ju:PySem.Challenge.rw_nt0458_01.row.prog=TW:=by
 rfl
theorem Ho:defOf qV PySem.Challenge.rw_nt0458_01.row.name=some (mK,[]):=by kernel_rfl
theorem Pw:PySem.Challenge.rw_nt0458_01.row.prog.theDef PySem.Challenge.rw_nt0458_01.row.name=some (mK.params,mK.body,mK.scope):=by
 rw[ju,PySem.W.Fast.te10235530238920679567];kernel_rfl
theorem LX:kwWritten? mK.params.kwonlyargs mK.params.kw_defaults=some []:=by kernel_rfl
theorem PK:(chainsOk qV&&opensWell TW&&(frees PySem.Challenge.rw_nt0458_01.row.toRowW&&PySem.Challenge.rw_nt0458_01.row.within.isEmpty))=true:=by kernel_rfl
theorem tabs_ok:TW.tablesWhole=true:=by
 unfold Program.tablesWhole TablesWhole.wProgram TablesWhole.holds
 rw[PySem.W.Fast.te6116379765354995101,PySem.W.Fast.te15985051520779696433];kernel_rfl
theorem rY(call:WalkO qV jN (λ_ _=>True) (λw h=>(tF w).In h) PySem.Challenge.rw_nt0458_01.row.toRowW mK [] (λf vs=>PySem.call f vs)):PySem.Challenge.rw_nt0458_01.Holds:=by
 refine zi λsaid=>?_
 refine holds_open (q:=qV) (loose:=jN) (Xt:=Kv) (XP:=λ_ _=>True) (Yf:=Jo) (Ya:=Jn) (YP:=λw h=>(tF w).In h) (d:=mK) (kwd:=[]) (N:=10000) ?left uU (λw h h' x k=>x.keeps k) (λ_ _=>trivial) (λ_ _ _ _ _=>trivial)
  Ho Pw LX (λs e=>recFacts_of e) (by rfl) said (by rw[ju];exact PK) ⟨rfl,rfl,rfl,rfl,rfl,by rw[ju];exact tabs_ok⟩ ?hw call
 case left=>rw[ju];exact Il
 case hw=>w_witness2
end
section
open PySem PySem.W PyProof.Rows
noncomputable def Jd(l:List Rw):List Rw:=l.filter λr=>Nat.beq r.j 0
noncomputable def L8(l:List Rw):List Rw:=l.filter λr=>!Nat.beq r.j 0
noncomputable def wQ:List Rw:=Jd rws++(L8 rws).tail
noncomputable def PI(l:List Rw):List Str:=l.map λr=>(fp r).nm
noncomputable def NY(l:List Nat):List Str:=l.map λi=>NZ (vv i)
noncomputable def rl(l:List Arg):List Str:=l.map (·.arg)
noncomputable def ET:List (Nat×Nat×Nat)→List Nat
 | []=>[]
 |(i,_,a)::l=>if Nat.beq (vv i).ctorIdx 5 then i::ET l else ET l
noncomputable def TB:Tb:=⟨PI (Jd rws),NY [37,54,109],NY (ET K6),attN⟩
where attN:List Str:=[Sx [102,105,108,101,115],Sx [114,97,110,107,115],Sx [115,105,122,101],Sx [102,117,108,108],Sx [104,97,115,95,100,111,117,98,108,101],Sx [104,97,115,95,99,97,115,116,108,105,110,103],Sx [102,105,108,101,95,109,97,115,107,115],Sx [114,97,110,107,95,109,97,115,107,115],Sx [114,97,121,115],Sx [107,105,110,103],Sx [107,110,105,103,104,116],Sx [112,97,119,110],Sx [99,97,115,116,108,101,115],Sx [114,105,103,104,116,115,95,108,111,115,116],Sx [103,101,111],Sx [122,111,98],Sx [98,111,97,114,100],Sx [107,105,110,100,115],Sx [115,105,100,101,115],Sx [115,105,100,101],Sx [114,105,103,104,116,115],Sx [101,112],Sx [104,97,108,102],Sx [107,101,121],Sx [104,105,115,116,111,114,121],Sx [112,105,101,99,101,115]]
noncomputable def cR(r:Rw):Option Fn:=OZ TB (rl (fp r).args.args) (fp r).sc (fp r).body
end
section
open PySem PySem.W PyProof.Rows
theorem gO:∀(l:List Str) (n:Nat) (x:Str) (k:Nat),look x (gb n l)=some k→n≤k∧l[k-n]?=some x
 | [],_,_,_,h=>aM h
 |y::r,n,x,k,h=>j4 (show(if x=y then some n else look x (gb (n+1) r))=some k from h)
   (λe h=>aL (P:=λk=>n≤k∧(y::r)[k-n]?=some x) h ⟨Nat.le_refl _,by rw[Nat.sub_self,e];rfl⟩)
   λ_ h=>dd (gO r (n+1) x k h) λh1 h2=>⟨Nat.le_of_succ_le h1,by
    rw[show k-n=k-(n+1)+1 from by exact Ar.Z4 [.e (.a .x0 .n1) .x1,.s .x3 .x1 (.a .x0 .n1),.s .x2 .x1 .x0] (.q .x2 (.a .x3 .n1)) rfl h1 (Ar.ts _ _) (Ar.ts _ _)];exact h2⟩
theorem lQ:∀(l:List Str) (n:Nat) (x:Str) (i:Nat),l.Nodup→l[i]?=some x→look x (gb n l)=some (n+i)
 | [],_,_,_,_,h=>aM h
 |y::r,n,x,0,_,h=>if_pos (c:=x=y) (Option.some.inj h).symm
 |y::r,n,x,i+1,hn,h=>(if_neg (c:=x=y) λe=>(List.nodup_cons.mp hn).1 (e▸List.mem_of_getElem? (i:=i) h)).trans
   ((lQ r (n+1) x i (List.nodup_cons.mp hn).2 h).trans (congrArg some (Nat.add_right_comm n 1 i)))
noncomputable def yK(l:List Str):Bool:=decide l.Nodup
theorem fB(l:List Str)(h:yK l=true):l.Nodup:=of_decide_eq_true h
noncomputable def namesOf(l:List (Str×NameKind)):List Str:=l.map (·.1)
noncomputable def tZ(x:Str×NameKind):Bool:=match x.2 with
 |.free=>false
 |_=>true
noncomputable def Hu(o:Option NameKind):Bool:=xk o
noncomputable def nE(a:Arguments):Bool:=a.posonlyargs.isEmpty&&a.vararg.isNone&&a.kwonlyargs.isEmpty&&a.kw_defaults.isEmpty&&a.kwarg.isNone&&a.defaults.isEmpty
noncomputable def gZ(r:Rw):List Str:=slotsOf (rl (fp r).args.args) (fp r).sc (fp r).body
noncomputable def N3(r:Rw):Bool:=
 nE (fp r).args&&yK (rl (fp r).args.args)&&yK (gZ r)&&yK (namesOf (fp r).sc.names)&&(gZ r).all oP&&(fp r).sc.names.all tZ
  && (rl (fp r).args.args).all (λx=>Hu ((fp r).sc.names.lookup x))&&(match(fp r).sc.kind with|.function=>true|_=>false)&&!(fp r).sc.isCoroutine&&!(fp r).sc.isGenerator
theorem Dk:wQ.all N3=true:=by kernel_rfl
noncomputable def uF(r:Rw):Obj:=match r.k with
 |0=>AA (fp r) r.t (r.t+3) r.a .none .none (.ref (r.a+2))
 |k+1=>AA (fp r) r.t (r.t+3+k) r.a (.ref (r.a+2)) (.ref (r.a+3)) (.ref (r.a+4))
noncomputable def A7(r:Rw):Obj:=fun1 (fp r) (qA r.mi) r.mt (qY r-1)
theorem yC{α β:Type}{f g:α→β}{l:List α}(h:l.map f=l.map g){a:α}(ha:a∈l):f a=g a:=List.map_inj_left.mp h a ha
theorem yQ(P:Params):wQ.map (λr=>ob P (qY r))=wQ.map A7:=by kernel_rfl
theorem yP(P:Params):wQ.map (λr=>ob P (qY r-1))=wQ.map uF:=by kernel_rfl
theorem tE{r:Rw}(h:r∈wQ):r∈rws:=(List.mem_append.mp h).elim (λh=>(List.mem_filter.mp h).1) λh=>(List.mem_filter.mp (List.mem_of_mem_tail h)).1
theorem Bp{r:Rw}(h:r∈wQ):qY r∈gM∧qY r-1∈gM:=
 ⟨List.mem_append_left _ (List.mem_flatMap_of_mem (tE h) (.head _)),List.mem_append_left _ (List.mem_flatMap_of_mem (tE h) (.tail _ (.head _)))⟩
theorem i9(P:Params)(a:Nat):∀l:List Nat,a∈l→(qa P l).lookup a=some (ob P a)
 |y::l,h=>by
  by_cases e:a=y
  ·subst e;exact List.lookup_cons_self
  ·exact(bV e).trans (i9 P a l ((List.mem_cons.mp h).resolve_left e))
theorem yb:(gM.all λa=>!Nat.beq a 3)=true:=by kernel_rfl
theorem gI(P:Params){a:Nat}(h:a∈gM):(b_ P).lookup a=some (ob P a):=
 (bV λe=>absurd (ER (fc yb h)) (by rw[e];exact nofun)).trans (i9 P a _ h)
theorem nh(P:Params):(b_ P).lookup 3=some (j5 P):=rfl
end
section
open PySem PySem.W PyProof.Rows
theorem uG(r:Rw):∃vs,(uF r).data=.fields vs∧vs[1]?=some (.str (fp r).q (r.t+1)):=by
 unfold uF
 cases r.k<;>exact⟨_,rfl,rfl⟩
theorem sN:∀{a:Arguments},nE a=true→a=⟨[],a.args,none,[],[],none,[]⟩
 |⟨[],_,none,[],[],none,[]⟩,_=>rfl
 |⟨[],_,none,[],[],none,_::_⟩,h|⟨[],_,none,[],[],some _,_⟩,h|⟨[],_,none,[],_::_,_,_⟩,h|⟨[],_,none,_::_,[],_,_⟩,h|⟨[],_,none,_::_,_::_,_,_⟩,h|⟨[],_,some _,_,_,_,_⟩,h|⟨_::_,_,_,_,_,_,_⟩,h=>nomatch h
theorem Hg{P:Params}{B:PySem.Heap}(X:(b_ P).In B){r:Rw}(hr:r∈wQ){fn:Fn}(hc:cR r=some fn):GB (b_ P) B TB (qY r) fn:=by
 refine dd (Bp hr) λk1 k2=>?_
 have o1:ob P (qY r)=A7 r:=yC (yQ P) hr
 have o2:ob P (qY r-1)=uF r:=yC (yP P) hr
 have l1:(b_ P).lookup (qY r)=some (A7 r):=(gI P k1).trans (by rw[o1])
 have l2:(b_ P).lookup (qY r-1)=some (uF r):=(gI P k2).trans (by rw[o2])
 have ck:=fc Dk hr
 unfold N3 at ck
 simp only[Bool.and_eq_true,Bool.not_eq_true']at ck
 obtain⟨⟨⟨⟨⟨⟨⟨⟨⟨c1,c2⟩,c3⟩,c4⟩,c5⟩,c6⟩,c7⟩,c8⟩,c9⟩,c10⟩:=ck
 have pa:=sN c1
 refine ay (Option.map_eq_some_iff.mp (show(eP (cS TB (gb 0 (gZ r)) 60 (fp r).sc) (fp r).body).map (λb=>(⟨(rl (fp r).args.args).length,(gZ r).length,b⟩:Fn))=some fn from hc)) λb hb e=>?_
 subst e
 refine ay (uG r) λvs hd hv=>?_
 have sl:gZ r=(fp r).args.args.map (·.arg)++(gZ r).drop ((fp r).args.args.map (·.arg)).length:=by
  unfold gZ slotsOf
  rw[List.append_assoc];exact(congrArg (rl (fp r).args.args++·) (List.drop_left (l₁:=rl (fp r).args.args)).symm)
 have nd:=fB _ c3
 refine⟨?_,A7 r,{ name:=(fp r).nm,qualname:=(fp r).q,params:=(fp r).args,body:=.stmts (fp r).body,scope:=(fp r).sc,globals:=3,closure:=[],defaults:=.none,kwdefaults:=.none,pyModule:=.str (qA r.mi) r.mt,code:=.ref (qY r-1) },
  (fp r).body,(fp r).args.args.map (·.arg),gb 0 (gZ r),X _ _ l1,rfl,⟨qY r-1,uF r,vs,r.t+1,rfl,X _ _ l2,hd,hv⟩,rfl,rfl,rfl,rfl,?_,c9,c10,?_,fB _ c2,λvals hl=>rn pa rfl (fB _ c2) vals hl,λx hx=>?_,λx k hk hlt=>?_,
  fB _ c4,λx hx=>?_,⟨λx y k h1 h2=>?_,λx k h=>?_⟩,hb⟩
 ·unfold keepIn
  dsimp only
  rw[l1];rfl
 ·revert c8;cases(fp r).sc.kind<;>intro h<;>first|rfl|exact bY h
 ·rfl
 ·have:=fc c7 hx
  revert this
  unfold Hu
  cases(fp r).sc.names.lookup x with
  |none=>intro h;exact bY h
  |some n=>cases n<;>intro h<;>first|exact .inl rfl|exact .inr rfl|exact bY h
 ·have hlt:k<((fp r).args.args.map (·.arg)).length:=hlt
  have h2:=(gO _ _ _ _ hk).2
  rw[Nat.sub_zero,sl,List.getElem?_append_left hlt]at h2
  exact h2
 ·have:=fc c6 hx
  rintro e
  unfold tZ at this
  rw[e]at this;exact bY this
 ·exact Option.some.inj ((gO _ _ _ _ h1).2.symm.trans (gO _ _ _ _ h2).2)
 ·exact fc c5 (List.mem_of_getElem? (gO _ _ _ _ h).2)
end
section
open PySem PySem.W PyProof.Rows
noncomputable def Ay(c:Nat):Nat:=match c with
 |0=>158
 |1=>277
 |_=>536
noncomputable def cD(k:Nat):Str:=(TB.dM[k]?).getD ⟨⟨[]⟩⟩
theorem Pz(P:Params):makesIn (b_ P) 158=true:=by kernel_rfl
theorem PA(P:Params):makesIn (b_ P) 277=true:=by kernel_rfl
theorem Hn(P:Params):makesIn (b_ P) 536=true:=by kernel_rfl
noncomputable def Hv(x:Option (Option Value)):Bool:=x.any (·.isNone)
theorem Bn:∀{x:Option (Option Value)},Hv x=true→x=some none
 |some none,_=>rfl
 |none,h=>nomatch h
 |some (some _),h=>nomatch h
end
noncomputable def f0:Fn:=⟨1,1,[.ret (.b .shr (.l 0) (.c (.int 3)))]⟩
noncomputable def f1:Fn:=⟨1,1,[.ret (.b .band (.l 0) (.c (.int 7)))]⟩
noncomputable def f2:Fn:=⟨1,1,[.ret (.b .band (.b .shr (.l 0) (.c (.int 6))) (.c (.int 63)))]⟩
noncomputable def f3:Fn:=⟨1,1,[.ret (.b .band (.l 0) (.c (.int 63)))]⟩
noncomputable def f4:Fn:=⟨1,1,[.ret (.b .band (.b .shr (.l 0) (.c (.int 14))) (.c (.int 3)))]⟩
noncomputable def f5:Fn:=⟨1,1,[.ite (.cmp .ne (.b .band (.b .shr (.l 0) (.c (.int 14))) (.c (.int 3))) (.aV 11)) [.ret (.aV 2)] [],.ret (.b .add (.b .band (.b .shr (.l 0) (.c (.int 12))) (.c (.int 3))) (.aV 4))]⟩
noncomputable def f6:Fn:=⟨1,1,[.ite (.or (.cmp .le (.l 0) (.c (.int 0))) (.cmp .ge (.l 0) (.c (.int 65536)))) [.ret (.c (.bool false))] [],.ite (.cmp .eq (.call 2 [.l 0]) (.call 3 [.l 0])) [.ret (.c (.bool false))] [],.ret (.or (.cmp .eq (.call 4 [.l 0]) (.aV 11)) (.cmp .eq (.b .band (.b .shr (.l 0) (.c (.int 12))) (.c (.int 3))) (.c (.int 0))))]⟩
noncomputable def f7:Fn:=⟨1,1,[.ret (.cmp .ne (.b .band (.l 0) (.b .sub (.l 0) (.c (.int 1)))) (.c (.int 0)))]⟩
noncomputable def f8:Fn:=⟨1,3,[.ite (.cmp .eq (.l 0) (.c (.int 0))) [.ret (.neg (.c (.int 1)))] [],.set 1 (.c (.int 1)),.zR (.b .shr (.l 0) (.l 1)) [.aug 1 .mul (.c (.int 2))],.set 2 (.c (.int 0)),.zR (.cmp .gt (.l 1) (.c (.int 1))) [.aug 1 .bX (.c (.int 2)),.ite (.b .shr (.l 0) (.l 1)) [.aug 0 .shr (.l 1),.aug 2 .add (.l 1)] []],.ret (.l 2)]⟩
noncomputable def f9:Fn:=⟨1,1,[.ret (.call 8 [.b .band (.l 0) (.neg (.l 0))])]⟩
noncomputable def Lb:Fn:=⟨1,3,[.set 1 (.lst []),.set 2 (.c (.int 0)),.zR (.l 0) [.zR (.not (.b .band (.l 0) (.c (.int 15)))) [.aug 0 .shr (.c (.int 4)),.aug 2 .add (.c (.int 4))],.ite (.b .band (.l 0) (.c (.int 1))) [.exp (.app (.l 1) (.l 2))] [],.aug 0 .shr (.c (.int 1)),.aug 2 .add (.c (.int 1))],.ret (.l 1)]⟩
noncomputable def Ld:Fn:=⟨3,4,[.fr 3 (.range [.c (.int 8)]) [.ite (.b .band (.b .shr (.sub (.sub (.attr (.l 0) 8) (.l 3)) (.l 1)) (.l 2)) (.c (.int 1))) [.ret (.l 3)] []],.ret (.neg (.c (.int 1)))]⟩
noncomputable def Jz:Fn:=⟨3,4,[.set 3 (.call 11 [.l 0,.l 1,.l 2]),.ite (.cmp .lt (.l 3) (.c (.int 0))) [.ret (.c (.int 0))] [],.ret (.b .band (.sub (.sub (.attr (.l 0) 8) (.l 3)) (.l 1)) (.sub (.sub (.attr (.l 0) 8) (.b .bxor (.l 3) (.c (.int 2)))) (.l 2)))]⟩
noncomputable def JA:Fn:=⟨3,4,[.set 3 (.call 11 [.l 0,.l 1,.l 2]),.ite (.cmp .lt (.l 3) (.c (.int 0))) [.ret (.c (.int 0))] [],.ret (.b .bor (.b .bor (.sub (.sub (.attr (.l 0) 8) (.l 3)) (.l 1)) (.sub (.sub (.attr (.l 0) 8) (.b .bxor (.l 3) (.c (.int 2)))) (.l 1))) (.b .shl (.c (.int 1)) (.l 1)))]⟩
noncomputable def G9:Fn:=⟨4,4,[.ret (.cmp .eq (.b .band (.b .shr (.call 13 [.l 0,.l 1,.l 2]) (.l 3)) (.c (.int 1))) (.c (.int 1)))]⟩
noncomputable def Pa:Fn:=⟨1,1,[.ret (.or (.cmp .gt (.sub (.aV 15) (.l 0)) (.c (.int 0))) (.cmp .eq (.l 0) (.c (.int 1))))]⟩
noncomputable def Pb:Fn:=⟨1,5,[.set 1 (.b .sub (.b .shl (.c (.int 1)) (.attr (.l 0) 0)) (.c (.int 1))),.set 2 (.c (.int 0)),.fr 3 (.range [.attr (.l 0) 1]) [.exp (.app (.attr (.l 0) 7) (.b .shl (.l 1) (.b .mul (.l 3) (.attr (.l 0) 0)))),.aug 2 .bor (.b .shl (.c (.int 1)) (.b .mul (.l 3) (.attr (.l 0) 0)))],.fr 4 (.range [.attr (.l 0) 0]) [.exp (.app (.attr (.l 0) 6) (.b .shl (.l 2) (.l 4)))]]⟩
noncomputable def Pc:Fn:=⟨2,3,[.set 2 (.c (.int 0)),.ite (.cmp .gt (.sub (.aV 14) (.l 1)) (.c (.int 0))) [.aug 2 .bor (.sub (.attr (.l 0) 6) (.b .sub (.attr (.l 0) 0) (.c (.int 1))))] [],.ite (.cmp .lt (.sub (.aV 14) (.l 1)) (.c (.int 0))) [.aug 2 .bor (.sub (.attr (.l 0) 6) (.c (.int 0)))] [],.ite (.cmp .gt (.sub (.aV 15) (.l 1)) (.c (.int 0))) [.aug 2 .bor (.sub (.attr (.l 0) 7) (.b .sub (.attr (.l 0) 1) (.c (.int 1))))] [],.ite (.cmp .lt (.sub (.aV 15) (.l 1)) (.c (.int 0))) [.aug 2 .bor (.sub (.attr (.l 0) 7) (.c (.int 0)))] [],.ret (.b .band (.attr (.l 0) 3) (.inv (.l 2)))]⟩
noncomputable def Pd:Fn:=⟨1,8,[.b6 (.l 0) 9 (.b .mul (.lst [.c (.int 0)]) (.attr (.l 0) 2)),.fr 1 (.range [.c (.int 8)]) [.set 2 (.call 17 [.l 0,.l 1]),.set 3 (.b .add (.b .mul (.sub (.aV 15) (.l 1)) (.attr (.l 0) 0)) (.sub (.aV 14) (.l 1))),.set 4 (.b .mul (.lst [.c (.int 0)]) (.attr (.l 0) 2)),.set 5 (.range [.attr (.l 0) 2]),.ite (.call 15 [.l 1]) [.set 5 (.range [.b .sub (.attr (.l 0) 2) (.c (.int 1)),.neg (.c (.int 1)),.neg (.c (.int 1))])] [],.fr 6 (.l 5) [.ite (.b .band (.b .shr (.l 2) (.l 6)) (.c (.int 1))) [.set 7 (.b .add (.l 6) (.l 3)),.gW (.l 4) (.l 6) (.b .bor (.sub (.l 4) (.l 7)) (.b .shl (.c (.int 1)) (.l 7))),.nV (.attr (.l 0) 9) (.l 6) .bor (.b .shl (.c (.int 1)) (.l 7))] []],.exp (.app (.attr (.l 0) 8) (.l 4))]]⟩
noncomputable def Pe:Fn:=⟨1,2,[.fr 1 (.range [.attr (.l 0) 2]) [.exp (.app (.sub (.attr (.l 0) 11) (.c (.int 0))) (.b .band (.sub (.attr (.l 0) 9) (.l 1)) (.b .bor (.sub (.sub (.attr (.l 0) 8) (.c (.int 4))) (.l 1)) (.sub (.sub (.attr (.l 0) 8) (.c (.int 7))) (.l 1))))),.exp (.app (.sub (.attr (.l 0) 11) (.c (.int 1))) (.b .band (.sub (.attr (.l 0) 9) (.l 1)) (.b .bor (.sub (.sub (.attr (.l 0) 8) (.c (.int 5))) (.l 1)) (.sub (.sub (.attr (.l 0) 8) (.c (.int 6))) (.l 1)))))]]⟩
noncomputable def Pf:Fn:=⟨1,11,[.set 1 (.attr (.l 0) 0),.set 2 (.b .band (.attr (.l 0) 3) (.inv (.sub (.attr (.l 0) 6) (.c (.int 0))))),.set 3 (.b .band (.attr (.l 0) 3) (.inv (.sub (.attr (.l 0) 6) (.b .sub (.l 1) (.c (.int 1)))))),.set 4 (.b .band (.l 2) (.inv (.sub (.attr (.l 0) 6) (.c (.int 1))))),.set 5 (.b .band (.l 3) (.inv (.sub (.attr (.l 0) 6) (.b .sub (.l 1) (.c (.int 2)))))),.fr 6 (.range [.attr (.l 0) 2]) [.set 7 (.b .shl (.c (.int 1)) (.l 6)),.set 8 (.b .bor (.b .band (.b .shl (.l 7) (.c (.int 1))) (.l 2)) (.b .band (.b .shr (.l 7) (.c (.int 1))) (.l 3))),.set 9 (.b .bor (.b .band (.b .shl (.l 7) (.c (.int 2))) (.l 4)) (.b .band (.b .shr (.l 7) (.c (.int 2))) (.l 5))),.set 10 (.b .bor (.b .bor (.b .bor (.b .shl (.l 8) (.b .mul (.c (.int 2)) (.l 1))) (.b .shr (.l 8) (.b .mul (.c (.int 2)) (.l 1)))) (.b .shl (.l 9) (.l 1))) (.b .shr (.l 9) (.l 1))),.exp (.app (.attr (.l 0) 10) (.b .band (.l 10) (.attr (.l 0) 3)))]]⟩
noncomputable def Ph:Fn:=⟨1,7,[.b6 (.l 0) 13 (.b .mul (.lst [.c (.int 0)]) (.attr (.l 0) 2)),.set 1 (.b .bX (.attr (.l 0) 0) (.c (.int 2))),.fr 2 (.range [.c (.int 4)]) [.set 3 (.b .mul (.b .mul (.b .shr (.l 2) (.c (.int 1))) (.b .sub (.attr (.l 0) 1) (.c (.int 1)))) (.attr (.l 0) 0)),.set 4 (.b .sub (.attr (.l 0) 0) (.c (.int 1))),.set 5 (.c (.int 1)),.ite (.b .band (.l 2) (.c (.int 1))) [.set 4 (.c (.int 0)),.set 5 (.neg (.c (.int 1)))] [],.set 6 (.b .add (.l 1) (.b .mul (.c (.int 2)) (.l 5))),.ite (.and (.attr (.l 0) 5) (.cmp .gt (.b .mul (.b .sub (.l 4) (.l 6)) (.l 5)) (.c (.int 0)))) [.exp (.app (.attr (.l 0) 12) (.tup [.b .add (.l 3) (.l 1),.b .add (.l 3) (.l 6),.b .add (.l 3) (.l 4),.b .sub (.b .add (.l 3) (.l 6)) (.l 5)])),.nV (.attr (.l 0) 13) (.b .add (.l 3) (.l 1)) .bor (.b .shl (.c (.int 1)) (.l 2)),.nV (.attr (.l 0) 13) (.b .add (.l 3) (.l 4)) .bor (.b .shl (.c (.int 1)) (.l 2))] [.exp (.app (.attr (.l 0) 12) (.c .bW))]]]⟩
noncomputable def Pj:Fn:=⟨4,5,[.ite (.or (.cmp .lt (.l 0) (.c (.int 2))) (.or (.cmp .gt (.l 0) (.c (.int 8))) (.or (.cmp .lt (.l 1) (.c (.int 3))) (.cmp .gt (.l 1) (.c (.int 8)))))) [.bad] [],.set 4 (.mk 0 [.l 0,.l 1,.l 2,.l 3]),.exp (.call 16 [.l 4]),.exp (.call 18 [.l 4]),.exp (.call 19 [.l 4]),.exp (.call 20 [.l 4]),.exp (.call 21 [.l 4]),.ret (.l 4)]⟩
noncomputable def Le:Fn:=⟨4,7,[.set 4 (.sub (.sub (.attr (.l 0) 8) (.l 1)) (.l 2)),.set 5 (.b .band (.l 4) (.l 3)),.ite (.cmp .eq (.l 5) (.c (.int 0))) [.ret (.l 4)] [],.ite (.call 15 [.l 1]) [.ret (.b .band (.l 4) (.b .bxor (.l 5) (.b .sub (.l 5) (.c (.int 1)))))] [],.set 6 (.b .shr (.l 5) (.c (.int 1))),.aug 6 .bor (.b .shr (.l 6) (.c (.int 1))),.aug 6 .bor (.b .shr (.l 6) (.c (.int 2))),.aug 6 .bor (.b .shr (.l 6) (.c (.int 4))),.aug 6 .bor (.b .shr (.l 6) (.c (.int 8))),.aug 6 .bor (.b .shr (.l 6) (.c (.int 16))),.aug 6 .bor (.b .shr (.l 6) (.c (.int 32))),.ret (.b .band (.l 4) (.inv (.l 6)))]⟩
noncomputable def Lf:Fn:=⟨3,5,[.set 3 (.c (.int 0)),.fr 4 (.range [.c (.int 4)]) [.aug 3 .bor (.call 23 [.l 0,.l 4,.l 1,.l 2])],.ret (.l 3)]⟩
noncomputable def Lg:Fn:=⟨3,5,[.set 3 (.c (.int 0)),.fr 4 (.range [.c (.int 4),.c (.int 8)]) [.aug 3 .bor (.call 23 [.l 0,.l 4,.l 1,.l 2])],.ret (.l 3)]⟩
noncomputable def Lh:Fn:=⟨3,3,[.ret (.b .bor (.call 24 [.l 0,.l 1,.l 2]) (.call 25 [.l 0,.l 1,.l 2]))]⟩
noncomputable def G_:Fn:=⟨4,4,[.ite (.cmp .eq (.l 1) (.aV 5)) [.ret (.call 25 [.l 0,.l 2,.l 3])] [],.ite (.cmp .eq (.l 1) (.aV 6)) [.ret (.call 24 [.l 0,.l 2,.l 3])] [],.ite (.cmp .eq (.l 1) (.aV 7)) [.ret (.call 26 [.l 0,.l 2,.l 3])] [],.ret (.c (.int 0))]⟩
noncomputable def FX:Fn:=⟨5,5,[.ite (.cmp .eq (.l 2) (.aV 3)) [.ret (.sub (.sub (.attr (.l 0) 11) (.l 1)) (.l 3))] [],.ite (.cmp .eq (.l 2) (.aV 4)) [.ret (.sub (.attr (.l 0) 10) (.l 3))] [],.ite (.cmp .eq (.l 2) (.aV 8)) [.ret (.sub (.attr (.l 0) 9) (.l 3))] [],.ret (.call 27 [.l 0,.l 2,.l 3,.l 4])]⟩
noncomputable def Li:Fn:=⟨3,4,[.set 3 (.b .shl (.c (.int 1)) (.l 2)),.gW (.attr (.l 0) 16) (.l 2) (.l 1),.nV (.attr (.l 0) 17) (.call 1 [.l 1]) .bor (.l 3),.nV (.attr (.l 0) 18) (.call 0 [.l 1]) .bor (.l 3),.vU (.l 0) 23 .bxor (.sub (.sub (.attr (.attr (.l 0) 15) 25) (.l 1)) (.l 2))]⟩
noncomputable def Lj:Fn:=⟨1,1,[.ret (.b .bor (.sub (.attr (.l 0) 18) (.aV 0)) (.sub (.attr (.l 0) 18) (.aV 1)))]⟩
noncomputable def Lk:Fn:=⟨2,2,[.ret (.call 9 [.b .band (.sub (.attr (.l 0) 18) (.l 1)) (.sub (.attr (.l 0) 17) (.aV 8))])]⟩
noncomputable def Ll:Fn:=⟨1,1,[.ret (.b .bor (.sub (.attr (.l 0) 17) (.aV 6)) (.sub (.attr (.l 0) 17) (.aV 7)))]⟩
noncomputable def Lm:Fn:=⟨1,1,[.ret (.b .bor (.sub (.attr (.l 0) 17) (.aV 5)) (.sub (.attr (.l 0) 17) (.aV 7)))]⟩
noncomputable def Ln:Fn:=⟨3,3,[.ret (.b .band (.b .band (.sub (.sub (.attr (.attr (.l 0) 14) 11) (.b .sub (.c (.int 1)) (.l 2))) (.l 1)) (.sub (.attr (.l 0) 17) (.aV 3))) (.sub (.attr (.l 0) 18) (.l 2)))]⟩
noncomputable def Lo:Fn:=⟨3,5,[.set 3 (.attr (.l 0) 14),.set 4 (.b .band (.sub (.attr (.l 3) 10) (.l 1)) (.sub (.attr (.l 0) 17) (.aV 4))),.aug 4 .bor (.b .band (.sub (.attr (.l 3) 9) (.l 1)) (.sub (.attr (.l 0) 17) (.aV 8))),.ret (.b .bor (.call 34 [.l 0,.l 1,.l 2]) (.b .band (.l 4) (.sub (.attr (.l 0) 18) (.l 2))))]⟩
noncomputable def Lp:Fn:=⟨3,6,[.set 3 (.c (.int 0)),.set 4 (.call 32 [.l 0]),.ite (.l 4) [.aug 3 .bor (.b .band (.call 24 [.attr (.l 0) 14,.l 1,.l 2]) (.l 4))] [],.set 5 (.call 33 [.l 0]),.ite (.l 5) [.aug 3 .bor (.b .band (.call 25 [.attr (.l 0) 14,.l 1,.l 2]) (.l 5))] [],.ret (.l 3)]⟩
noncomputable def Lq:Fn:=⟨3,4,[.set 3 (.b .bor (.call 35 [.l 0,.l 1,.aV 0]) (.call 35 [.l 0,.l 1,.aV 1])),.ret (.b .bor (.l 3) (.call 36 [.l 0,.l 1,.l 2]))]⟩
noncomputable def Lr:Fn:=⟨4,8,[.ite (.call 35 [.l 0,.l 1,.l 2]) [.ret (.c (.bool true))] [],.set 4 (.attr (.l 0) 14),.set 5 (.sub (.attr (.l 0) 18) (.l 2)),.set 6 (.b .band (.call 32 [.l 0]) (.l 5)),.ite (.and (.l 6) (.b .band (.call 24 [.l 4,.l 1,.l 3]) (.l 6))) [.ret (.c (.bool true))] [],.set 7 (.b .band (.call 33 [.l 0]) (.l 5)),.ret (.and (.cmp .ne (.l 7) (.c (.int 0))) (.cmp .ne (.b .band (.call 25 [.l 4,.l 1,.l 3]) (.l 7)) (.c (.int 0))))]⟩
noncomputable def Ls:Fn:=⟨2,3,[.set 2 (.b .bor (.sub (.attr (.l 0) 18) (.aV 0)) (.sub (.attr (.l 0) 18) (.aV 1))),.ret (.b .band (.call 37 [.l 0,.call 31 [.l 0,.l 1],.l 2]) (.sub (.attr (.l 0) 18) (.b .sub (.c (.int 1)) (.l 1))))]⟩
noncomputable def Lu:Fn:=⟨1,1,[.ret (.call 39 [.l 0,.attr (.l 0) 19])]⟩
noncomputable def Lv:Fn:=⟨2,4,[.set 2 (.call 31 [.l 0,.l 1]),.set 3 (.b .band (.call 24 [.attr (.l 0) 14,.l 2,.c (.int 0)]) (.call 32 [.l 0])),.aug 3 .bor (.b .band (.call 25 [.attr (.l 0) 14,.l 2,.c (.int 0)]) (.call 33 [.l 0])),.ret (.b .band (.l 3) (.sub (.attr (.l 0) 18) (.b .sub (.c (.int 1)) (.l 1))))]⟩
noncomputable def Lw:Fn:=⟨2,9,[.set 2 (.call 31 [.l 0,.l 1]),.set 3 (.call 41 [.l 0,.l 1]),.set 4 (.b .bxor (.b .bor (.sub (.attr (.l 0) 18) (.aV 0)) (.sub (.attr (.l 0) 18) (.aV 1))) (.l 3)),.set 5 (.c (.int 0)),.set 6 (.c (.int 0)),.fr 7 (.call 10 [.l 3]) [.set 8 (.b .band (.call 12 [.attr (.l 0) 14,.l 2,.l 7]) (.l 4)),.ite (.and (.l 8) (.not (.call 7 [.l 8]))) [.aug 5 .bor (.l 8),.ite (.b .band (.l 8) (.sub (.attr (.l 0) 18) (.l 1))) [.aug 6 .bor (.b .shl (.c (.int 1)) (.l 7))] []] []],.ret (.tup [.l 5,.l 6])]⟩
noncomputable def Lx:Fn:=⟨2,2,[.ret (.b .band (.sub (.call 42 [.l 0,.l 1]) (.c (.int 0))) (.sub (.attr (.l 0) 18) (.l 1)))]⟩
noncomputable def Ly:Fn:=⟨3,6,[.set 3 (.c (.int 0)),.fr 4 (.tup [.aV 3,.aV 4,.aV 5,.aV 6,.aV 7,.aV 8]) [.fr 5 (.call 10 [.b .band (.sub (.attr (.l 0) 17) (.l 4)) (.sub (.attr (.l 0) 18) (.l 1))]) [.aug 3 .bor (.call 28 [.attr (.l 0) 14,.l 1,.l 4,.l 5,.l 2])]],.ret (.l 3)]⟩
noncomputable def Lz:Fn:=⟨2,3,[.set 2 (.b .bor (.sub (.attr (.l 0) 18) (.aV 0)) (.sub (.attr (.l 0) 18) (.aV 1))),.ret (.call 44 [.l 0,.b .sub (.c (.int 1)) (.l 1),.b .bxor (.l 2) (.b .shl (.c (.int 1)) (.call 31 [.l 0,.l 1]))])]⟩
noncomputable def JB:Fn:=⟨2,2,[.ite (.cmp .lt (.l 0) (.l 1)) [.ret (.b .sub (.b .shl (.c (.int 1)) (.l 1)) (.b .shl (.c (.int 2)) (.l 0)))] [],.ret (.b .sub (.b .shl (.c (.int 1)) (.l 0)) (.b .shl (.c (.int 2)) (.l 1)))]⟩
noncomputable def LA:Fn:=⟨2,9,[.set 2 (.sub (.attr (.attr (.l 0) 14) 12) (.l 1)),.ite (.cmp .F7 (.l 2) (.c .bW)) [.ret (.aV 17)] [],.ite (.cmp .eq (.b .band (.attr (.l 0) 20) (.b .shl (.c (.int 1)) (.l 1))) (.c (.int 0))) [.ret (.aV 18)] [],.kq [3,4,5,6] (.l 2),.set 7 (.call 30 [.l 0]),.ite (.b .band (.l 7) (.call 46 [.l 3,.l 5])) [.ret (.aV 19)] [],.set 8 (.b .sub (.c (.int 1)) (.b .shr (.l 1) (.c (.int 1)))),.ite (.call 38 [.l 0,.l 3,.l 8,.l 7]) [.ret (.aV 20)] [],.ite (.call 38 [.l 0,.l 6,.l 8,.l 7]) [.ret (.aV 21)] [],.ite (.call 38 [.l 0,.l 4,.l 8,.l 7]) [.ret (.aV 22)] [],.ret (.aV 16)]⟩
noncomputable def JC:Fn:=⟨2,2,[.ite (.or (.cmp .eq (.l 1) (.c (.int 0))) (.call 7 [.l 1])) [.ret (.c (.int 0))] [],.ret (.b .bor (.l 1) (.call 12 [.attr (.l 0) 14,.call 31 [.l 0,.attr (.l 0) 19],.call 9 [.l 1]]))]⟩
noncomputable def JD:Fn:=⟨1,1,[.ite (.cmp .eq (.attr (.l 0) 19) (.aV 0)) [.ret (.b .sub (.attr (.l 0) 21) (.attr (.attr (.l 0) 14) 0))] [],.ret (.b .add (.attr (.l 0) 21) (.attr (.attr (.l 0) 14) 0))]⟩
noncomputable def LB:Fn:=⟨2,2,[.ite (.cmp .lt (.attr (.l 0) 21) (.c (.int 0))) [.ret (.c (.bool false))] [],.ret (.cmp .ne (.b .band (.l 1) (.b .bor (.b .shl (.c (.int 1)) (.attr (.l 0) 21)) (.b .shl (.c (.int 1)) (.call 49 [.l 0])))) (.c (.int 0)))]⟩
noncomputable def JE:Fn:=⟨2,3,[.set 2 (.call 3 [.l 1]),.ite (.cmp .ne (.call 4 [.l 1]) (.aV 12)) [.ret (.l 2)] [],.ite (.cmp .eq (.attr (.l 0) 19) (.aV 0)) [.ret (.b .sub (.l 2) (.attr (.attr (.l 0) 14) 0))] [],.ret (.b .add (.l 2) (.attr (.attr (.l 0) 14) 0))]⟩
noncomputable def LC:Fn:=⟨2,7,[.set 2 (.b .shl (.c (.int 1)) (.call 51 [.l 0,.l 1])),.set 3 (.b .shl (.c (.int 1)) (.call 3 [.l 1])),.set 4 (.b .bor (.sub (.attr (.l 0) 18) (.aV 0)) (.sub (.attr (.l 0) 18) (.aV 1))),.set 5 (.b .bor (.b .bxor (.b .bxor (.l 4) (.b .shl (.c (.int 1)) (.call 2 [.l 1]))) (.l 2)) (.l 3)),.set 6 (.call 37 [.l 0,.call 31 [.l 0,.attr (.l 0) 19],.l 5]),.ret (.cmp .eq (.b .band (.b .band (.l 6) (.sub (.attr (.l 0) 18) (.b .sub (.c (.int 1)) (.attr (.l 0) 19)))) (.inv (.l 2))) (.c (.int 0)))]⟩
noncomputable def JF:Fn:=⟨3,8,[.set 3 (.call 4 [.l 1]),.ite (.cmp .eq (.l 3) (.aV 13)) [.ret (.c (.bool true))] [],.ite (.cmp .eq (.l 3) (.aV 12)) [.ret (.call 52 [.l 0,.l 1])] [],.set 4 (.call 2 [.l 1]),.set 5 (.call 3 [.l 1]),.set 6 (.call 31 [.l 0,.attr (.l 0) 19]),.ite (.cmp .eq (.l 4) (.l 6)) [.set 7 (.b .bxor (.b .bor (.sub (.attr (.l 0) 18) (.aV 0)) (.sub (.attr (.l 0) 18) (.aV 1))) (.b .shl (.c (.int 1)) (.l 6))),.ret (.not (.call 38 [.l 0,.l 5,.b .sub (.c (.int 1)) (.attr (.l 0) 19),.l 7]))] [],.ite (.cmp .eq (.b .band (.b .shr (.l 2) (.l 4)) (.c (.int 1))) (.c (.int 0))) [.ret (.c (.bool true))] [],.ret (.call 14 [.attr (.l 0) 14,.l 4,.l 5,.l 6])]⟩
noncomputable def FY:Fn:=⟨3,6,[.fr 3 (.range [.c (.int 2)]) [.set 4 (.b .add (.b .mul (.attr (.l 0) 19) (.c (.int 2))) (.l 3)),.set 5 (.sub (.attr (.attr (.l 0) 14) 12) (.l 4)),.ite (.and (.cmp .F8 (.l 5) (.c .bW)) (.and (.cmp .eq (.sub (.l 5) (.c (.int 0))) (.l 1)) (.cmp .eq (.sub (.l 5) (.c (.int 1))) (.l 2)))) [.ret (.l 4)] []],.ret (.neg (.c (.int 1)))]⟩
noncomputable def Ha:Fn:=⟨3,4,[.set 3 (.call 54 [.l 0,.l 1,.l 2]),.ret (.and (.cmp .ge (.l 3) (.c (.int 0))) (.cmp .eq (.call 47 [.l 0,.l 3]) (.c (.int 0))))]⟩
noncomputable def JG:Fn:=⟨3,6,[.set 3 (.attr (.l 0) 14),.set 4 (.attr (.l 3) 0),.set 5 (.c (.int 1)),.ite (.cmp .eq (.attr (.l 0) 19) (.aV 1)) [.set 4 (.neg (.attr (.l 3) 0)),.set 5 (.b .sub (.attr (.l 3) 1) (.c (.int 2)))] [],.ite (.cmp .ne (.sub (.attr (.l 0) 16) (.l 2)) (.aV 9)) [.ret (.c (.bool false))] [],.ite (.cmp .eq (.l 2) (.b .add (.l 1) (.l 4))) [.ret (.c (.bool true))] [],.ite (.or (.cmp .ne (.l 2) (.b .add (.l 1) (.b .mul (.c (.int 2)) (.l 4)))) (.not (.attr (.l 3) 4))) [.ret (.c (.bool false))] [],.ret (.and (.cmp .eq (.b .bX (.l 1) (.attr (.l 3) 0)) (.l 5)) (.cmp .eq (.sub (.attr (.l 0) 16) (.b .add (.l 1) (.l 4))) (.aV 9)))]⟩
noncomputable def JH:Fn:=⟨4,7,[.set 4 (.attr (.l 0) 14),.set 5 (.c (.int 0)),.ite (.cmp .eq (.attr (.l 0) 19) (.aV 0)) [.set 5 (.b .sub (.attr (.l 4) 1) (.c (.int 1)))] [],.ite (.cmp .ne (.cmp .eq (.b .bX (.l 2) (.attr (.l 4) 0)) (.l 5)) (.cmp .eq (.l 3) (.aV 11))) [.ret (.c (.bool false))] [],.set 6 (.cmp .eq (.b .band (.b .shr (.sub (.sub (.attr (.l 4) 11) (.attr (.l 0) 19)) (.l 1)) (.l 2)) (.c (.int 1))) (.c (.int 1))),.ite (.cmp .eq (.l 3) (.aV 12)) [.ret (.and (.l 6) (.cmp .eq (.l 2) (.attr (.l 0) 21)))] [],.ite (.l 6) [.ret (.cmp .eq (.b .band (.b .shr (.sub (.attr (.l 0) 18) (.b .sub (.c (.int 1)) (.attr (.l 0) 19))) (.l 2)) (.c (.int 1))) (.c (.int 1)))] [],.ret (.call 56 [.l 0,.l 1,.l 2])]⟩
noncomputable def LD:Fn:=⟨5,6,[.ite (.cmp .eq (.l 1) (.aV 3)) [.ret (.call 57 [.l 0,.l 2,.l 3,.l 4])] [],.ite (.cmp .ne (.l 4) (.aV 10)) [.ret (.c (.bool false))] [],.set 5 (.b .bor (.sub (.attr (.l 0) 18) (.aV 0)) (.sub (.attr (.l 0) 18) (.aV 1))),.ret (.cmp .eq (.b .band (.b .shr (.call 28 [.attr (.l 0) 14,.attr (.l 0) 19,.l 1,.l 2,.l 5]) (.l 3)) (.c (.int 1))) (.c (.int 1)))]⟩
noncomputable def JI:Fn:=⟨3,5,[.set 3 (.call 40 [.l 0]),.ite (.or (.cmp .eq (.l 3) (.c (.int 0))) (.cmp .eq (.l 2) (.aV 8))) [.ret (.c (.bool true))] [],.set 4 (.call 48 [.l 0,.l 3]),.ite (.cmp .eq (.call 4 [.l 1]) (.aV 12)) [.ret (.call 50 [.l 0,.l 4])] [],.ret (.cmp .eq (.b .band (.b .shr (.l 4) (.call 3 [.l 1])) (.c (.int 1))) (.c (.int 1)))]⟩
noncomputable def Hb:Fn:=⟨2,7,[.ite (.not (.call 6 [.l 1])) [.ret (.aV 24)] [],.set 2 (.call 2 [.l 1]),.set 3 (.call 3 [.l 1]),.ite (.or (.cmp .ge (.l 2) (.attr (.attr (.l 0) 14) 2)) (.cmp .ge (.l 3) (.attr (.attr (.l 0) 14) 2))) [.ret (.aV 25)] [],.set 4 (.sub (.attr (.l 0) 16) (.l 2)),.ite (.or (.cmp .eq (.l 4) (.aV 9)) (.cmp .ne (.call 0 [.l 4]) (.attr (.l 0) 19))) [.ret (.aV 26)] [],.ite (.b .band (.b .shr (.sub (.attr (.l 0) 18) (.attr (.l 0) 19)) (.l 3)) (.c (.int 1))) [.ret (.aV 27)] [],.set 5 (.call 4 [.l 1]),.ite (.cmp .eq (.l 5) (.aV 13)) [.ret (.ite (.call 55 [.l 0,.l 2,.l 3]) (.aV 23) (.aV 28))] [],.set 6 (.call 1 [.l 4]),.ite (.not (.call 58 [.l 0,.l 6,.l 2,.l 3,.l 5])) [.ret (.aV 28)] [],.ret (.ite (.call 59 [.l 0,.l 1,.l 6]) (.aV 23) (.aV 29))]⟩
noncomputable def FZ:Fn:=⟨2,3,[.set 2 (.call 60 [.l 0,.l 1]),.ite (.cmp .ne (.l 2) (.aV 23)) [.ret (.l 2)] [],.ite (.call 53 [.l 0,.l 1,.call 43 [.l 0,.attr (.l 0) 19]]) [.ret (.aV 23)] [],.ret (.aV 30)]⟩
noncomputable def LF:Fn:=⟨1,3,[.set 1 (.sub (.attr (.l 0) 18) (.attr (.l 0) 19)),.set 2 (.b .band (.sub (.attr (.attr (.l 0) 14) 9) (.call 31 [.l 0,.attr (.l 0) 19])) (.inv (.l 1))),.ret (.b .band (.l 2) (.inv (.call 45 [.l 0,.attr (.l 0) 19])))]⟩
noncomputable def LG:Fn:=⟨2,3,[.set 2 (.sub (.attr (.attr (.l 0) 14) 12) (.call 54 [.l 0,.call 2 [.l 1],.call 3 [.l 1]])),.ret (.tup [.sub (.l 2) (.c (.int 2)),.sub (.l 2) (.c (.int 3))])]⟩
noncomputable def Hc:Fn:=⟨2,7,[.set 2 (.b .bor (.sub (.attr (.l 0) 18) (.aV 0)) (.sub (.attr (.l 0) 18) (.aV 1))),.set 3 (.b .band (.l 2) (.inv (.b .shl (.c (.int 1)) (.call 2 [.l 1])))),.set 4 (.call 4 [.l 1]),.ite (.cmp .eq (.l 4) (.aV 12)) [.aug 3 .band (.inv (.b .shl (.c (.int 1)) (.call 51 [.l 0,.l 1])))] [.ite (.cmp .eq (.l 4) (.aV 13)) [.kq [5,6] (.call 63 [.l 0,.l 1]),.set 3 (.b .bor (.b .band (.l 3) (.inv (.b .shl (.c (.int 1)) (.l 5)))) (.b .shl (.c (.int 1)) (.l 6)))] []],.ret (.b .bor (.l 3) (.b .shl (.c (.int 1)) (.call 3 [.l 1])))]⟩
noncomputable def JJ:Fn:=⟨2,3,[.set 2 (.call 5 [.l 1]),.ite (.cmp .ne (.l 2) (.aV 2)) [.ret (.l 2)] [],.ret (.call 1 [.sub (.attr (.l 0) 16) (.call 2 [.l 1])])]⟩
noncomputable def Hd:Fn:=⟨2,12,[.set 2 (.attr (.l 0) 19),.set 3 (.call 31 [.l 0,.b .sub (.c (.int 1)) (.l 2)]),.set 4 (.call 64 [.l 0,.l 1]),.set 5 (.b .band (.sub (.attr (.l 0) 18) (.l 2)) (.inv (.b .shl (.c (.int 1)) (.call 2 [.l 1])))),.set 6 (.lst [.tup [.call 65 [.l 0,.l 1],.call 3 [.l 1]]]),.ite (.cmp .eq (.call 4 [.l 1]) (.aV 13)) [.kq [7,8] (.call 63 [.l 0,.l 1]),.aug 5 .band (.inv (.b .shl (.c (.int 1)) (.l 7))),.exp (.app (.l 6) (.tup [.aV 6,.l 8]))] [],.set 9 (.b .band (.call 37 [.l 0,.l 3,.l 4]) (.l 5)),.Hh [10,11] (.l 6) [.ite (.b .band (.b .shr (.call 28 [.attr (.l 0) 14,.l 2,.l 10,.l 11,.l 4]) (.l 3)) (.c (.int 1))) [.aug 9 .bor (.b .shl (.c (.int 1)) (.l 11))] []],.ret (.l 9)]⟩
noncomputable def LH:Fn:=⟨2,2,[.ret (.call 7 [.call 66 [.l 0,.l 1]])]⟩
noncomputable def Pk:Fn:=⟨0,0,[.ret (.lst [.c (.int 0),.c (.int 0),.c (.int 0),.c (.int 38),.c (.int 1),.c (.int 0),.c (.int 5),.c (.int 3),.c (.int 10),.c (.int 8)])]⟩
noncomputable def D2:Fn:=⟨5,10,[.set 5 (.b .sub (.b .mod (.l 3) (.l 0)) (.b .mod (.l 2) (.l 0))),.set 6 (.b .sub (.b .bX (.l 3) (.l 0)) (.b .bX (.l 2) (.l 0))),.set 7 (.max (.abs (.l 5)) (.abs (.l 6))),.set 8 (.b .mod (.l 1) (.c (.int 8))),.ite (.cmp .eq (.l 8) (.c (.int 1))) [.ret (.and (.cmp .eq (.abs (.l 5)) (.c (.int 1))) (.cmp .eq (.l 6) (.ite (.cmp .lt (.l 1) (.c (.int 8))) (.c (.int 1)) (.neg (.c (.int 1))))))] [],.ite (.cmp .eq (.l 8) (.c (.int 2))) [.ret (.cmp .eq (.abs (.b .mul (.l 5) (.l 6))) (.c (.int 2)))] [],.ite (.cmp .eq (.l 8) (.c (.int 6))) [.ret (.cmp .eq (.l 7) (.c (.int 1)))] [],.ite (.or (.cmp .eq (.l 7) (.c (.int 0))) (.or (.cmp .BJ (.abs (.l 5)) (.tup [.c (.int 0),.l 7])) (.cmp .BJ (.abs (.l 6)) (.tup [.c (.int 0),.l 7])))) [.ret (.c (.bool false))] [],.ite (.or (.and (.cmp .eq (.l 8) (.c (.int 3))) (.cmp .eq (.b .mul (.l 5) (.l 6)) (.c (.int 0)))) (.and (.cmp .eq (.l 8) (.c (.int 4))) (.cmp .ne (.b .mul (.l 5) (.l 6)) (.c (.int 0))))) [.ret (.c (.bool false))] [],.fr 9 (.range [.c (.int 1),.l 7]) [.ite (.sub (.l 4) (.b .add (.l 2) (.b .mul (.l 9) (.b .add (.b .bX (.l 5) (.l 7)) (.b .mul (.b .bX (.l 6) (.l 7)) (.l 0)))))) [.ret (.c (.bool false))] []],.ret (.c (.bool true))]⟩
noncomputable def LJ:Fn:=⟨5,6,[.ret (.comp (.l 5) 5 (.range [.len (.l 1)]) [.and (.sub (.l 1) (.l 5)) (.and (.cmp .eq (.b .bX (.sub (.l 1) (.l 5)) (.c (.int 8))) (.l 4)) (.call 69 [.l 0,.sub (.l 1) (.l 5),.l 5,.l 2,.l 3]))])]⟩
noncomputable def Pl:Fn:=⟨1,3,[.set 1 (.c (.int 0)),.fr 2 (.l 0) [.aug 1 .add (.b .shl (.c (.int 1)) (.l 2))],.ret (.l 1)]⟩
noncomputable def LK:Fn:=⟨6,7,[.set 6 (.b .bX (.len (.l 1)) (.l 0)),.ite (.or (.sub (.l 1) (.l 5)) (.and (.cmp .eq (.b .mod (.l 4) (.c (.int 8))) (.c (.int 1))) (.not (.chain .lt .lt (.c (.int 0)) (.b .bX (.l 5) (.l 0)) (.b .sub (.l 6) (.c (.int 1))))))) [.ret (.c .bW)] [],.ite (.and (.cmp .eq (.b .bX (.l 4) (.c (.int 8))) (.l 3)) (.call 69 [.l 0,.l 4,.l 5,.sub (.l 2) (.b .sub (.c (.int 1)) (.l 3)),.l 1])) [.ret (.c .bW)] [],.gW (.l 1) (.l 5) (.l 4)]⟩
noncomputable def Pm:Fn:=⟨5,7,[.set 5 (.ite (.and (.l 2) (.cmp .eq (.b .mod (.l 3) (.c (.int 2))) (.c (.int 0)))) (.b .bX (.l 0) (.c (.int 2))) (.b .mod (.b .bX (.l 3) (.c (.int 2))) (.l 1))),.set 6 (.ite (.and (.l 2) (.cmp .eq (.b .mod (.l 4) (.c (.int 2))) (.c (.int 0)))) (.b .add (.b .sub (.l 1) (.l 0)) (.b .bX (.l 0) (.c (.int 2)))) (.b .mod (.b .bX (.l 4) (.c (.int 2))) (.l 1))),.zR (.and (.cmp .lt (.abs (.b .sub (.b .mod (.l 5) (.l 0)) (.b .mod (.l 6) (.l 0)))) (.c (.int 2))) (.cmp .lt (.abs (.b .sub (.b .bX (.l 5) (.l 0)) (.b .bX (.l 6) (.l 0)))) (.c (.int 2)))) [.set 6 (.b .mod (.b .add (.l 6) (.c (.int 1))) (.l 1))],.ret (.lst [.l 5,.l 6])]⟩
noncomputable def LN:Fn:=⟨3,3,[.ret (.b .add (.b .mul (.b .bX (.l 2) (.c (.int 2))) (.b .sub (.l 1) (.l 0))) (.ite (.b .mod (.l 2) (.c (.int 2))) (.c (.int 0)) (.b .sub (.l 0) (.c (.int 1)))))]⟩
noncomputable def Pn:Fn:=⟨4,8,[.set 4 (.len (.l 1)),.set 5 (.c (.int 0)),.fr 6 (.range [.c (.int 4)]) [.set 7 (.b .add (.b .mul (.b .bX (.l 6) (.c (.int 2))) (.b .sub (.l 4) (.l 0))) (.b .bX (.l 0) (.c (.int 2)))),.ite (.and (.b .band (.b .shr (.l 3) (.l 6)) (.c (.int 1))) (.and (.or (.cmp .eq (.l 0) (.c (.int 8))) (.b .mod (.l 6) (.c (.int 2)))) (.and (.cmp .eq (.sub (.l 2) (.b .bX (.l 6) (.c (.int 2)))) (.l 7)) (.cmp .eq (.sub (.l 1) (.call 74 [.l 0,.l 4,.l 6])) (.b .add (.c (.int 4)) (.b .mul (.b .bX (.l 6) (.c (.int 2))) (.c (.int 8)))))))) [.aug 5 .add (.b .shl (.c (.int 1)) (.l 6))] []],.ret (.l 5)]⟩
noncomputable def JK:Fn:=⟨5,7,[.set 5 (.b .add (.b .mul (.l 3) (.l 0)) (.l 4)),.set 6 (.ite (.cmp .eq (.l 2) (.c (.int 0))) (.l 0) (.neg (.l 0))),.ite (.or (.cmp .ne (.sub (.l 1) (.l 5)) (.b .sub (.c (.int 9)) (.b .mul (.l 2) (.c (.int 8))))) (.or (.sub (.l 1) (.b .add (.l 5) (.l 6))) (.sub (.l 1) (.b .add (.l 5) (.b .mul (.c (.int 2)) (.l 6)))))) [.ret (.neg (.c (.int 1)))] [],.ite (.or (.and (.cmp .gt (.l 4) (.c (.int 0))) (.cmp .eq (.sub (.l 1) (.b .sub (.l 5) (.c (.int 1)))) (.b .add (.c (.int 1)) (.b .mul (.l 2) (.c (.int 8)))))) (.and (.cmp .lt (.l 4) (.b .sub (.l 0) (.c (.int 1)))) (.cmp .eq (.sub (.l 1) (.b .add (.l 5) (.c (.int 1)))) (.b .add (.c (.int 1)) (.b .mul (.l 2) (.c (.int 8))))))) [.ret (.b .add (.l 5) (.l 6))] [],.ret (.neg (.c (.int 1)))]⟩
noncomputable def Po:Fn:=⟨1,15,[.kq [1,2,3,4] (.sub (.aV 31) (.b .mod (.sub (.l 0) (.c (.int 0))) (.c (.int 6)))),.set 5 (.b .mul (.l 1) (.l 2)),.set 6 (.b .mod (.sub (.l 0) (.c (.int 1))) (.c (.int 2))),.set 7 (.b .mul (.lst [.c (.int 0)]) (.l 5)),.set 8 (.call 73 [.l 1,.l 5,.l 4,.sub (.l 0) (.c (.int 2)),.sub (.l 0) (.c (.int 3))]),.gW (.l 7) (.sub (.l 8) (.c (.int 0))) (.c (.int 6)),.gW (.l 7) (.sub (.l 8) (.c (.int 1))) (.c (.int 14)),.set 9 (.ite (.cmp .eq (.l 6) (.c (.int 0))) (.b .sub (.l 2) (.c (.int 4))) (.c (.int 3))),.set 10 (.b .mod (.sub (.l 0) (.c (.int 5))) (.l 1)),.ite (.l 4) [.fr 11 (.range [.c (.int 4)]) [.ite (.b .band (.b .shr (.sub (.l 0) (.c (.int 4))) (.l 11)) (.c (.int 1))) [.exp (.call 72 [.l 1,.l 7,.l 8,.l 6,.b .add (.c (.int 4)) (.b .mul (.b .bX (.l 11) (.c (.int 2))) (.c (.int 8))),.call 74 [.l 1,.l 5,.l 11]])] []]] [.ite (.cmp .eq (.b .mod (.sub (.l 0) (.c (.int 4))) (.c (.int 2))) (.c (.int 0))) [.exp (.call 72 [.l 1,.l 7,.l 8,.l 6,.b .sub (.c (.int 9)) (.b .mul (.l 6) (.c (.int 8))),.b .add (.b .mul (.l 9) (.l 1)) (.l 10)]),.exp (.call 72 [.l 1,.l 7,.l 8,.l 6,.b .add (.c (.int 1)) (.b .mul (.l 6) (.c (.int 8))),.b .add (.b .mul (.l 9) (.l 1)) (.ite (.cmp .lt (.b .add (.l 10) (.c (.int 1))) (.l 1)) (.b .add (.l 10) (.c (.int 1))) (.b .sub (.l 10) (.c (.int 1))))])] []],.set 12 (.sub (.l 8) (.c (.int 0))),.fr 11 (.range [.c (.int 6),.min (.b .sub (.len (.l 0)) (.c (.int 1))) (.ite (.l 4) (.c (.int 9)) (.c (.int 14))),.c (.int 2)]) [.set 12 (.b .mod (.b .add (.b .add (.l 12) (.c (.int 1))) (.sub (.l 0) (.l 11))) (.l 5)),.exp (.call 72 [.l 1,.l 7,.l 8,.l 6,.b .add (.b .add (.c (.int 1)) (.b .mod (.sub (.l 0) (.b .add (.l 11) (.c (.int 1)))) (.c (.int 5)))) (.b .mul (.b .mod (.b .bX (.sub (.l 0) (.b .add (.l 11) (.c (.int 1)))) (.c (.int 5))) (.c (.int 2))) (.c (.int 8))),.l 12])],.set 13 (.ite (.l 3) (.call 76 [.l 1,.l 7,.l 6,.l 9,.l 10]) (.neg (.c (.int 1)))),.set 14 (.ite (.l 4) (.call 75 [.l 1,.l 7,.l 8,.sub (.l 0) (.c (.int 5))]) (.c (.int 0))),.ret (.tup [.l 1,.l 2,.l 3,.l 4,.l 6,.l 7,.l 8,.l 13,.l 14])]⟩
noncomputable def LO:Fn:=⟨8,12,[.set 8 (.b .mul (.l 0) (.l 1)),.set 9 (.call 22 [.l 0,.l 1,.cmp .eq (.l 2) (.c (.int 1)),.cmp .eq (.l 3) (.c (.int 1))]),.set 10 (.mk 1 [.l 9,.mk 2 [.b .mul (.lst [.b .mul (.lst [.c (.int 0)]) (.l 8)]) (.c (.int 15)),.b .mul (.lst [.c (.int 0)]) (.l 0),.b .mul (.lst [.c (.int 0)]) (.c (.int 16)),.c (.int 0)]]),.fr 11 (.range [.l 8]) [.ite (.sub (.l 5) (.l 11)) [.exp (.call 29 [.l 10,.sub (.l 5) (.l 11),.l 11])] []],.b6 (.l 10) 19 (.l 4),.b6 (.l 10) 21 (.l 6),.b6 (.l 10) 20 (.l 7),.ret (.l 10)]⟩
noncomputable def F1:Fn:=⟨7,9,[.set 7 (.len (.l 1)),.set 8 (.ite (.cmp .eq (.l 2) (.c (.int 0))) (.l 0) (.neg (.l 0))),.ite (.call 69 [.l 0,.b .add (.c (.int 1)) (.b .mul (.l 2) (.c (.int 8))),.l 3,.l 4,.l 1]) [.ite (.sub (.l 1) (.l 4)) [.ret (.c (.int 0))] [],.ret (.ite (.cmp .eq (.l 4) (.l 5)) (.c (.int 2)) (.neg (.c (.int 1))))] [],.ite (.sub (.l 1) (.l 4)) [.ret (.neg (.c (.int 1)))] [],.ite (.cmp .eq (.l 4) (.b .add (.l 3) (.l 8))) [.ret (.c (.int 0))] [],.ite (.and (.l 6) (.and (.cmp .eq (.l 4) (.b .add (.l 3) (.b .mul (.c (.int 2)) (.l 8)))) (.and (.cmp .eq (.sub (.l 1) (.b .add (.l 3) (.l 8))) (.c (.int 0))) (.cmp .eq (.b .bX (.l 3) (.l 0)) (.ite (.cmp .eq (.l 2) (.c (.int 0))) (.c (.int 1)) (.b .sub (.b .bX (.l 7) (.l 0)) (.c (.int 2)))))))) [.ret (.c (.int 0))] [],.ret (.neg (.c (.int 1)))]⟩
noncomputable def LQ:Fn:=⟨4,12,[.set 4 (.len (.l 1)),.set 5 (.b .add (.b .mul (.l 2) (.b .sub (.l 4) (.l 0))) (.b .bX (.l 0) (.c (.int 2)))),.set 6 (.lst []),.fr 7 (.tup [.c (.int 0),.c (.int 1)]) [.set 8 (.b .sub (.c (.int 1)) (.b .mul (.c (.int 2)) (.l 7))),.set 9 (.call 74 [.l 0,.l 4,.b .add (.b .mul (.c (.int 2)) (.l 2)) (.l 7)]),.set 10 (.range [.b .add (.l 5) (.l 8),.l 9,.l 8]),.ite (.and (.b .band (.b .shr (.l 3) (.b .add (.b .mul (.c (.int 2)) (.l 2)) (.l 7))) (.c (.int 1))) (.cmp .eq (.comp (.l 11) 11 (.l 10) [.sub (.l 1) (.l 11)]) (.lst []))) [.ite (.cmp .eq (.comp (.l 11) 11 (.tup [.l 5,.b .add (.l 5) (.l 8),.b .add (.l 5) (.b .mul (.c (.int 2)) (.l 8))]) [.call 70 [.l 0,.l 1,.l 11,.l 1,.b .sub (.c (.int 1)) (.l 2)]]) (.lst [])) [.exp (.app (.l 6) (.b .add (.b .add (.b .add (.l 5) (.b .mul (.c (.int 2)) (.l 8))) (.b .mul (.l 5) (.c (.int 64)))) (.b .mul (.c (.int 3)) (.c (.int 16384)))))] []] []],.ret (.l 6)]⟩
noncomputable def LS:Fn:=⟨6,12,[.set 6 (.len (.l 1)),.set 7 (.lst []),.fr 8 (.range [.l 6]) [.ite (.or (.cmp .eq (.sub (.l 1) (.l 8)) (.c (.int 0))) (.cmp .ne (.b .bX (.sub (.l 1) (.l 8)) (.c (.int 8))) (.l 2))) [.cnt] [],.fr 9 (.range [.l 6]) [.ite (.and (.sub (.l 1) (.l 9)) (.cmp .eq (.b .bX (.sub (.l 1) (.l 9)) (.c (.int 8))) (.l 2))) [.cnt] [],.ite (.cmp .eq (.b .mod (.sub (.l 1) (.l 8)) (.c (.int 8))) (.c (.int 1))) [.set 10 (.call 79 [.l 0,.l 1,.l 2,.l 8,.l 9,.l 4,.l 5]),.ite (.and (.cmp .eq (.l 10) (.c (.int 0))) (.or (.cmp .lt (.l 9) (.l 0)) (.cmp .ge (.l 9) (.b .sub (.l 6) (.l 0))))) [.fr 11 (.range [.c (.int 4)]) [.exp (.app (.l 7) (.b .add (.b .add (.b .add (.l 9) (.b .mul (.l 8) (.c (.int 64)))) (.b .mul (.l 11) (.c (.int 4096)))) (.c (.int 16384))))]] [.ite (.cmp .ge (.l 10) (.c (.int 0))) [.exp (.app (.l 7) (.b .add (.b .add (.l 9) (.b .mul (.l 8) (.c (.int 64)))) (.b .mul (.l 10) (.c (.int 16384)))))] []]] [.ite (.call 69 [.l 0,.sub (.l 1) (.l 8),.l 8,.l 9,.l 1]) [.exp (.app (.l 7) (.b .add (.l 9) (.b .mul (.l 8) (.c (.int 64)))))] []]]],.ret (.b .add (.l 7) (.call 80 [.l 0,.l 1,.l 2,.l 3]))]⟩
noncomputable def CK:Fn:=⟨4,9,[.kq [4,5,6] (.tup [.b .mod (.b .bX (.l 3) (.c (.int 64))) (.c (.int 64)),.b .mod (.l 3) (.c (.int 64)),.b .bX (.l 3) (.c (.int 16384))]),.set 7 (.qP (.l 1)),.gW (.l 7) (.l 4) (.c (.int 0)),.gW (.l 7) (.l 5) (.sub (.l 1) (.l 4)),.ite (.cmp .eq (.l 6) (.c (.int 1))) [.gW (.l 7) (.l 5) (.b .add (.b .add (.c (.int 2)) (.b .mod (.b .bX (.l 3) (.c (.int 4096))) (.c (.int 4)))) (.b .mul (.l 2) (.c (.int 8))))] [],.ite (.cmp .eq (.l 6) (.c (.int 2))) [.gW (.l 7) (.b .add (.l 5) (.ite (.l 2) (.l 0) (.neg (.l 0)))) (.c (.int 0))] [],.ite (.cmp .eq (.l 6) (.c (.int 3))) [.set 8 (.ite (.cmp .gt (.l 5) (.l 4)) (.c (.int 1)) (.neg (.c (.int 1)))),.gW (.l 7) (.b .add (.b .mul (.b .bX (.l 5) (.l 0)) (.l 0)) (.ite (.cmp .gt (.l 8) (.c (.int 0))) (.b .sub (.l 0) (.c (.int 1))) (.c (.int 0)))) (.c (.int 0)),.gW (.l 7) (.b .sub (.l 5) (.l 8)) (.b .add (.c (.int 4)) (.b .mul (.l 2) (.c (.int 8))))] [],.ret (.l 7)]⟩
noncomputable def D3:Fn:=⟨6,8,[.ite (.or (.cmp .eq (.l 4) (.lst [])) (.cmp .eq (.b .mod (.b .bX (.l 5) (.c (.int 64))) (.c (.int 64))) (.sub (.l 3) (.l 2)))) [.ret (.c (.bool true))] [],.ite (.cmp .gt (.len (.l 4)) (.c (.int 1))) [.ret (.c (.bool false))] [],.set 6 (.call 82 [.l 0,.l 1,.l 2,.l 5]),.set 7 (.sub (.l 4) (.c (.int 0))),.ret (.or (.cmp .ne (.sub (.l 6) (.l 7)) (.sub (.l 1) (.l 7))) (.not (.call 69 [.l 0,.sub (.l 6) (.l 7),.l 7,.sub (.l 3) (.l 2),.l 6])))]⟩
noncomputable def He:Fn:=⟨7,12,[.kq [7,8,9] (.tup [.b .mod (.b .bX (.l 6) (.c (.int 64))) (.c (.int 64)),.b .mod (.l 6) (.c (.int 64)),.b .bX (.l 6) (.c (.int 16384))]),.ite (.or (.cmp .le (.l 6) (.c (.int 0))) (.or (.cmp .gt (.l 6) (.c (.int 65535))) (.or (.cmp .eq (.l 7) (.l 8)) (.and (.cmp .ne (.l 9) (.c (.int 1))) (.cmp .ne (.b .mod (.b .bX (.l 6) (.c (.int 4096))) (.c (.int 4))) (.c (.int 0))))))) [.ret (.c (.int 1))] [],.ite (.or (.cmp .ge (.l 7) (.len (.l 1))) (.cmp .ge (.l 8) (.len (.l 1)))) [.ret (.c (.int 2))] [],.ite (.or (.cmp .eq (.sub (.l 1) (.l 7)) (.c (.int 0))) (.cmp .ne (.b .bX (.sub (.l 1) (.l 7)) (.c (.int 8))) (.l 2))) [.ret (.c (.int 3))] [],.ite (.and (.sub (.l 1) (.l 8)) (.cmp .eq (.b .bX (.sub (.l 1) (.l 8)) (.c (.int 8))) (.l 2))) [.ret (.c (.int 4))] [],.ite (.cmp .BJ (.l 6) (.l 5)) [.ret (.c (.int 5))] [],.ite (.not (.call 83 [.l 0,.l 1,.l 2,.l 3,.l 4,.l 6])) [.ret (.c (.int 6))] [],.set 10 (.call 82 [.l 0,.l 1,.l 2,.l 6]),.set 11 (.ite (.cmp .eq (.l 7) (.sub (.l 3) (.l 2))) (.l 8) (.sub (.l 3) (.l 2))),.ret (.ite (.call 70 [.l 0,.l 10,.l 11,.l 10,.b .sub (.c (.int 1)) (.l 2)]) (.c (.int 7)) (.c (.int 0)))]⟩
noncomputable def LU:Fn:=⟨1,24,[.set 1 (.qZ (.l 0) (.c (.int 14))),.set 1 (.b .add (.l 1) (.jv (.call 68 []) (.len (.l 1)))),.kq [2,3,4,5,6,7,8,9,10] (.call 77 [.l 1]),.set 11 (.call 78 [.l 2,.l 3,.l 4,.l 5,.l 6,.l 7,.l 9,.l 10]),.set 12 (.call 81 [.l 2,.l 7,.l 6,.l 10,.l 9,.l 4]),.set 13 (.call 70 [.l 2,.l 7,.sub (.l 8) (.l 6),.l 7,.b .sub (.c (.int 1)) (.l 6)]),.set 14 (.c (.int 0)),.fr 15 (.l 12) [.set 16 (.call 84 [.l 2,.l 7,.l 6,.l 8,.l 13,.l 12,.l 15]),.ite (.cmp .ne (.call 61 [.l 11,.l 15]) (.l 16)) [.ret (.c (.bool false))] [],.ite (.cmp .eq (.l 16) (.c (.int 0))) [.set 17 (.call 82 [.l 2,.l 7,.l 6,.l 15]),.ite (.cmp .ne (.call 67 [.l 11,.l 15]) (.cmp .gt (.len (.call 70 [.l 2,.l 17,.sub (.l 8) (.b .sub (.c (.int 1)) (.l 6)),.l 17,.l 6])) (.c (.int 1)))) [.ret (.c (.bool false))] [],.ite (.cmp .eq (.b .bX (.l 15) (.c (.int 64))) (.sub (.l 8) (.l 6))) [.aug 14 .add (.b .shl (.c (.int 1)) (.b .mod (.l 15) (.c (.int 64))))] []] []],.set 18 (.comp (.l 22) 22 (.range [.b .mul (.l 2) (.l 3)]) [.and (.sub (.l 7) (.l 22)) (.cmp .eq (.b .bX (.sub (.l 7) (.l 22)) (.c (.int 8))) (.l 6))]),.set 19 (.sub (.l 18) (.b .mod (.sub (.l 1) (.c (.int 4))) (.len (.l 18)))),.set 20 (.comp (.b .add (.b .add (.l 23) (.b .mul (.l 19) (.c (.int 64)))) (.b .mul (.b .mod (.sub (.l 1) (.c (.int 5))) (.c (.int 16))) (.c (.int 4096)))) 23 (.range [.b .mul (.l 2) (.l 3)]) []),.fr 21 (.l 1) [.exp (.app (.l 20) (.l 21)),.exp (.app (.l 20) (.b .mod (.l 21) (.c (.int 65536))))],.fr 15 (.l 20) [.ite (.cmp .ne (.call 61 [.l 11,.l 15]) (.call 84 [.l 2,.l 7,.l 6,.l 8,.l 13,.l 12,.l 15])) [.ret (.c (.bool false))] []],.ret (.cmp .eq (.call 62 [.l 11]) (.l 14))]⟩
noncomputable def Pp:Fn:=⟨5,5,[.b6 (.l 0) 0 (.l 1),.b6 (.l 0) 1 (.l 2),.b6 (.l 0) 2 (.b .mul (.l 1) (.l 2)),.b6 (.l 0) 3 (.b .sub (.b .shl (.c (.int 1)) (.b .mul (.l 1) (.l 2))) (.c (.int 1))),.b6 (.l 0) 4 (.and (.l 3) (.cmp .ge (.l 2) (.c (.int 5)))),.b6 (.l 0) 5 (.l 4),.b6 (.l 0) 6 (.lst []),.b6 (.l 0) 7 (.lst []),.b6 (.l 0) 8 (.lst []),.b6 (.l 0) 9 (.lst []),.b6 (.l 0) 10 (.lst []),.b6 (.l 0) 11 (.lst [.lst [],.lst []]),.b6 (.l 0) 12 (.lst []),.b6 (.l 0) 13 (.lst [])]⟩
noncomputable def Pq:Fn:=⟨3,3,[.b6 (.l 0) 14 (.l 1),.b6 (.l 0) 15 (.l 2),.b6 (.l 0) 16 (.b .mul (.lst [.aV 9]) (.attr (.l 1) 2)),.b6 (.l 0) 17 (.b .mul (.lst [.c (.int 0)]) (.c (.int 7))),.b6 (.l 0) 18 (.lst [.c (.int 0),.c (.int 0)]),.b6 (.l 0) 19 (.aV 0),.b6 (.l 0) 20 (.c (.int 0)),.b6 (.l 0) 21 (.neg (.c (.int 1))),.b6 (.l 0) 22 (.c (.int 0)),.b6 (.l 0) 3 (.c (.int 1)),.b6 (.l 0) 23 (.c (.int 0)),.b6 (.l 0) 24 (.lst [])]⟩
noncomputable def Pr:Fn:=⟨5,5,[.b6 (.l 0) 25 (.l 1),.b6 (.l 0) 21 (.l 2),.b6 (.l 0) 20 (.l 3),.b6 (.l 0) 19 (.l 4)]⟩
noncomputable def gl:List V:=[.int 0,.int 1,.int 0,.int 1,.int 2,.int 3,.int 4,.int 5,.int 6,.int 0,.int 0,.int 1,.int 2,.int 3,.tup [.int 0,.int 1,.int 0,.int (-1),.int 1,.int 1,.int (-1),.int (-1)],.tup [.int 1,.int 0,.int (-1),.int 0,.int 1,.int (-1),.int (-1),.int 1],.int 0,.int 1,.int 2,.int 3,.int 4,.int 5,.int 6,.int 0,.int 1,.int 2,.int 3,.int 4,.int 5,.int 6,.int 7,.tup [.tup [.int 4,.int 5,.int 1,.int 0],.tup [.int 8,.int 3,.int 0,.int 1],.tup [.int 5,.int 5,.int 1,.int 0],.tup [.int 6,.int 3,.int 0,.int 1],.tup [.int 3,.int 5,.int 1,.int 0],.tup [.int 4,.int 5,.int 0,.int 0]]]
noncomputable def NG:List Fn:=[f0,f1,f2,f3,f4,f5,f6,f7,f8,f9,Lb,Ld,Jz,JA,G9,Pa,Pb,Pc,Pd,Pe,Pf,Ph,Pj,Le,Lf,Lg,Lh,G_,FX,Li,Lj,Lk,Ll,Lm,Ln,Lo,Lp,Lq,Lr,Ls,Lu,Lv,Lw,Lx,Ly,Lz,JB,LA,JC,JD,LB,JE,LC,JF,FY,Ha,JG,JH,LD,JI,Hb,FZ,LF,LG,Hc,JJ,Hd,LH,Pk,D2,LJ,Pl,LK,Pm,LN,Pn,JK,Po,LO,F1,LQ,LS,CK,D3,He,LU,Pp,Pq,Pr]
noncomputable def PB:Pg:=⟨NG,[86,87,88],gl⟩
section
open PySem PySem.W PyProof.Rows
theorem wm:wQ.map cR=NG.map some:=by kernel_rfl
theorem An{α β:Type}{f:α→Option β}{l:List α}{fs:List β}{k:Nat}{fn:β}(h:l.map f=fs.map some)(h2:fs[k]?=some fn):∃r,l[k]?=some r∧f r=some fn:=by
 have h3:(l.map f)[k]?=some (some fn):=by rw[h,List.getElem?_map,h2];rfl
 rw[List.getElem?_map]at h3
 exact Option.map_eq_some_iff.mp h3
noncomputable def fa(k:Nat):Addr:=match wQ[k]? with
 |some r=>qY r
 |none=>0
noncomputable def AP(P:Params):List DictEntry:=wz (j5 P)
noncomputable def rU(x:Str)(l:List DictEntry):Option Value:=(l.find? λe=>e.key.isStr x).map (·.val)
theorem uW(P:Params):(j5 P).data=.dict ⟨AP P⟩ 131:=rfl
theorem sH{P:Params}{h:PySem.Heap}{mg:Str→Option Value}(hn:h.Ns mainGlobals mg)(hm:h.get? 3=some (j5 P))(x:Str):mg x=rU x (AP P):=by
 refine FP (hn) λo es ep h1 h2 _ h4=>?_
 have h1:h.get? 3=some o:=h1
 rw[hm]at h1;cases h1
 rw[uW]at h2;cases h2
 rw[← h4 x]
 exact congrArg (Option.map DictEntry.val) (Array.find?_toList (p:=λe:DictEntry=>e.key.isStr x) (xs:=(⟨AP P⟩:Array DictEntry))).symm
theorem Aw(P:Params):all2 (λx r=>decide (rU x (AP P)=some (.ref (qY r)))) TB.fns wQ=true:=by kernel_rfl
theorem Au(P:Params):(TB.cls.map λx=>rU x (AP P))=[some (.ref (Ay 0)),some (.ref (Ay 1)),some (.ref (Ay 2))]:=by kernel_rfl
noncomputable def Hs:List Nat:=[140,141,576,577,578,579,580,581,582]
noncomputable def jK(P:Params):bR:=qa P Hs
noncomputable def E8:V→Value→Bool
 |.int i,.int j _=>decide (i=j)
 |_,_=>false
noncomputable def IJ(f:V→Value→Bool)(l:List V)(xs:List Value):Bool:=Nat.beq l.length xs.length&&all2 f l xs
noncomputable def FG(o:Obj):Option (List Value):=match o.data with
 |.seq xs _=>some xs.toList
 |_=>none
noncomputable def E9(I:List (Nat×Obj))(f:V→Value→Bool):V→Value→Bool
 |.tup l,.ref a=>(I.lookup a).any λo=>decide (o.cls=.type "tuple")&&(FG o).any λxs=>IJ f l xs
 |v,x=>E8 v x
theorem uf{I:bR}{v:V}{x:Value}(h:E8 v x=true):VR [] I v x:=by
 cases v<;>first|exact bY h|skip
 cases x<;>first|exact bY h|exact of_decide_eq_true h▸.int _ _
theorem B2{I:bR}{f:V→Value→Bool}(hf:∀v x,f v x=true→VR [] I v x){l:List V}{xs:List Value}(h:IJ f l xs=true):LR [] I l xs:=
 ⟨Nat.eq_of_beq_eq_true (fe h),λ_ v x h1 h2=>ay (kz (iz h) h1) λr h3 h4=>hf v x (Option.some.inj (h2.symm.trans h3)▸h4)⟩
theorem nu{β:Type}{a:Nat}{o:β}:∀{l:List (Nat×β)},l.lookup a=some o→(a,o)∈l
 | [],h=>aM h
 |(b,p)::l,h=>by
  by_cases e:a=b
  ·subst e;rw[List.lookup_cons_self]at h;exact aL (P:=λo=>(a,o)∈(a,p)::l) h (.head _)
  ·rw[bV e]at h;exact .tail _ (nu h)
theorem ri{α:Type}{o:Option α}{p:α→Bool}{G:Prop}(h:o.any p=true)(k:∀a,o=some a→p a=true→G):G:=by
 cases o with
 |none=>exact bY h
 |some a=>exact k a rfl h
theorem Cv{o:Obj}{xs:List Value}(h:FG o=some xs):∃items n,o.data=.seq items n∧items.toList=xs:=by
 unfold FG at h
 cases q:o.data<;>rw[q]at h<;>first|exact aM h|exact⟨_,_,rfl,Option.some.inj h⟩
theorem ug{I:bR}{f:V→Value→Bool}(hf:∀v x,f v x=true→VR [] I v x):∀{v:V} {x:Value},E9 I f v x=true→VR [] I v x
 |.tup l,.ref a,h=>ri h λo h1 h=>ri (iz h) λxs h2 h3=>cQ (Cv h2) λitems n h4 h5=>
   have r:=B2 hf h3
   .tup l a o items n (nu h1) (of_decide_eq_true (fe h)) h4 (by rw[r.1,← h5];exact Array.length_toList) λi v x e1 e2=>r.2 i v x e1 (by rw[← h5,Array.getElem?_toList];exact e2)
 |.int _,_,h|.bW,_,h|.bool _,_,h|.ref _,_,h|.bQ ..,_,h|.ft _,_,h=>uf h
 |.tup _,.none,h|.tup _,.ellipsis,h|.tup _,.notImplemented,h|.tup _,.bool _,h|.tup _,.int ..,h|.tup _,.float ..,h|.tup _,.str ..,h|.tup _,.bytes ..,h|.tup _,.type _,h|.tup _,.builtin _,h=>bY h
noncomputable def IK(I:bR):V→Value→Bool:=E9 I (E9 I E8)
theorem B3{I:bR}{v:V}{x:Value}(h:IK I v x=true):VR [] I v x:=ug (λ_ _ h=>ug (λ_ _ h=>uf h) h) h
theorem Ax(P:Params):all2 (λx v=>(rU x (AP P)).any (IK (jK P) v)) TB.aV gl=true:=by kernel_rfl
theorem DA(P:Params):([lY,lX,lZ,l7,fj].all λx=>(rU x (AP P)).isNone)=true:=by kernel_rfl
theorem Av:((TB.fns++TB.cls++TB.aV).all λx=>!(x==sI))=true:=by kernel_rfl
end
section
open PySem PySem.W PyProof.Rows
theorem jd:∀{l:List Str} {x:Str} {k:Nat},idx x l=some k→l[k]?=some x
 | [],_,_,h=>aM h
 |y::r,x,k,h=>j4 (show(if x=y then some 0 else(idx x r).map (·+1))=some k from h)
   (λe h=>aL (P:=λk=>(y::r)[k]?=some x) h (congrArg some e.symm))
   λ_ h=>a_ (P:=λk=>(y::r)[k]?=some x) h λj hj=>jd (l:=r) hj
noncomputable def vR:List Str:=TB.dM++[⟨⟨[]⟩⟩]
theorem s8:yK vR=true:=by kernel_rfl
theorem iR:TB.dM.length=26:=by kernel_rfl
theorem pE(j:Nat):vR[min j 26]?=some (cD j):=by
 unfold vR cD
 by_cases hj:j<26
 ·rw[Nat.min_eq_left (Nat.le_of_lt hj),List.getElem?_append_left (by rw[iR];exact hj)]
  have:j<TB.dM.length:=by rw[iR];exact hj
  simp[this]
 ·rw[Nat.min_eq_right (Nat.le_of_not_lt hj),List.getElem?_append_right (by rw[iR];exact Nat.le_refl _),iR]
  have:TB.dM[j]?=none:=by rw[List.getElem?_eq_none_iff,iR];exact Ar.Z1 [.N (.l .x0 (.n 26))] (.e (.n 26) .x0) rfl hj
  rw[this];rfl
theorem vQ(i j:Nat)(hi:i<26)(h:cD i=cD j):i=j:=by
 have h1:=lQ vR 0 _ _ (fB _ s8) (pE i)
 have h2:=lQ vR 0 _ _ (fB _ s8) (pE j)
 rw[h,h2]at h1
 have:=Option.some.inj h1
 omega
noncomputable def Mt(P:Params)(L:Nat)(o:Obj):Nm:=⟨Ay,cD,gB (b_ P) cD TB.dM.length,TB.dM,(L,o)::jK P⟩
theorem rF{P:Params}{C:Addr}(h1:(TB.dM.all λnm=>plainGet (b_ P) C nm&&Hv (findIn (b_ P) (.ref C) nm))=true)(h2:hasDictIn (b_ P) C=true)(h3:findIn (b_ P) (.ref C) "__setattr__" = some (some (.builtin "object.__setattr__")))(h4:plainOver (b_ P) C=true):gB (b_ P) cD TB.dM.length C:=
 have key:=λa (ha:a<TB.dM.length)=>fc h1 (x:=cD a) (by unfold cD;rw[List.getElem?_eq_getElem ha];exact List.getElem_mem ha)
 ⟨λa ha=>fe (key a ha),h2,λa ha=>Bn (iz (key a ha)),h3,h4⟩
theorem O1(P:Params):gB (b_ P) cD TB.dM.length 158:=rF (by kernel_rfl) (by kernel_rfl) (by kernel_rfl) (by kernel_rfl)
theorem O2(P:Params):gB (b_ P) cD TB.dM.length 277:=rF (by kernel_rfl) (by kernel_rfl) (by kernel_rfl) (by kernel_rfl)
theorem O3(P:Params):gB (b_ P) cD TB.dM.length 536:=rF (by kernel_rfl) (by kernel_rfl) (by kernel_rfl) (by kernel_rfl)
theorem OQ:bootBuiltins lY=some (.builtin "len"):=by kernel_rfl
theorem OS:bootBuiltins lX=some (.builtin "abs"):=by kernel_rfl
theorem OT:bootBuiltins lZ=some (.builtin "max"):=by kernel_rfl
theorem OU:bootBuiltins l7=some (.builtin "min"):=by kernel_rfl
theorem OV:bootBuiltins fj=some (.type "range"):=by kernel_rfl
theorem ne5:([lY,lX,lZ,l7,fj].all λx=>!(x==("__name__" : Str)))=true:=by kernel_rfl
theorem Hl{P:Params}{B:PySem.Heap}(X:(b_ P).In B){mg mb:Str→Option Value}(hg:B.Ns mainGlobals mg)(hb:B.Ns builtinsNs mb)(hl:B.NoLimit)(hbb:∀x:Str,x ≠ "__name__" → mb x=bootBuiltins x)(L:Nat)(o:Obj) :
  Gd (b_ P) (Mt P L o) B TB PB fa:=by
 have gt:=λx=>sH hg (X _ _ (nh P)) x
 have five:∀{v} x (_:bootBuiltins x=some v),x∈[lY,lX,lZ,l7,fj]→mg x=none∧mb x=some v:=λx e hx=>⟨(gt x).trans (Option.isNone_iff_eq_none.mp (fc (DA P) hx)),(hbb x (ne_of_beq_false (ER (fc ne5 hx)))).trans e⟩
 refine⟨X,rfl,λk x h=>congrArg (λo:Option Str=>o.getD ⟨⟨[]⟩⟩) (jd h),λi j hi h=>vQ i j hi h,λi hi=>?_,show TB.dM.length≤1000 by decide +kernel,hl,λx hx=>ER (fc Av ?_),⟨mg,mb,hg,hb,λx k h=>?_,λx k h=>?_,λx k v h h2=>?_,five _ OQ (.head _),five _ OS (.tail _ (.head _)),five _ OT (.tail _ (.tail _ (.head _))),five _ OU (.tail _ (.tail _ (.tail _ (.head _)))),five _ OV (.tail _ (.tail _ (.tail _ (.tail _ (.head _)))))⟩,λk fn h=>?_,λc f h=>?_⟩
 ·show cD i∈TB.dM
  unfold cD
  rw[List.getElem?_eq_getElem (show i<TB.dM.length from hi)]
  exact List.getElem_mem _
 ·exact hx.elim (λh=>List.mem_append_left _ (List.mem_append_left _ h)) λh=>h.elim (λh=>List.mem_append_left _ (List.mem_append_right _ h)) λh=>List.mem_append_right _ h
 ·refine ay (kz (Aw P) (jd h)) λr h1 h2=>?_
  rw[gt,of_decide_eq_true h2];unfold fa;rw[h1]
 ·have h1:(TB.cls.map λx=>rU x (AP P))[k]?=some (rU x (AP P)):=(List.getElem?_map ..).trans (congrArg (Option.map _) (jd h))
  rw[Au]at h1
  rw[gt]
  match k,h1 with
  |0,h1=>exact(Option.some.inj h1).symm
  |1,h1=>exact(Option.some.inj h1).symm
  |2,h1=>exact(Option.some.inj h1).symm
  |_+3,h1=>exact aM h1
 ·refine ay (kz (Ax P) (jd h)) λu h3 h4=>ri h4 λy h5 h6=>?_
  exact⟨y,(gt x).trans h5,(Option.some.inj (h3.symm.trans h2)▸B3 h6).mono ⟨[],rfl⟩ λp hp=>.tail _ hp⟩
 ·refine ay (An wm h) λr h1 h2=>?_
  have:=Hg X (List.mem_of_getElem? h1) h2
  unfold fa;rw[h1];exact this
 ·match c,h with
  |0,h=>exact aL (P:=λf=>makesIn (b_ P) 158=true∧keepIn (b_ P) (.ref 158)=true∧findIn (b_ P) (.ref 158) "__init__" = some (some (.ref (fa f)))∧typeIn (b_ P) (.ref (fa f))=some (.type "function")∧gB (b_ P) cD TB.dM.length 158) h ⟨Pz P,by kernel_rfl,by kernel_rfl,by kernel_rfl,O1 P⟩
  |1,h=>exact aL (P:=λf=>makesIn (b_ P) 277=true∧keepIn (b_ P) (.ref 277)=true∧findIn (b_ P) (.ref 277) "__init__" = some (some (.ref (fa f)))∧typeIn (b_ P) (.ref (fa f))=some (.type "function")∧gB (b_ P) cD TB.dM.length 277) h ⟨PA P,by kernel_rfl,by kernel_rfl,by kernel_rfl,O2 P⟩
  |2,h=>exact aL (P:=λf=>makesIn (b_ P) 536=true∧keepIn (b_ P) (.ref 536)=true∧findIn (b_ P) (.ref 536) "__init__" = some (some (.ref (fa f)))∧typeIn (b_ P) (.ref (fa f))=some (.type "function")∧gB (b_ P) cD TB.dM.length 536) h ⟨Hn P,by kernel_rfl,by kernel_rfl,by kernel_rfl,O3 P⟩
  |_+3,h=>exact aM h
end
section
open PySem PySem.W PyProof.Rows
noncomputable def pz:Prop:=∀xs:List Int,xs.length≤63→∃H',ag PB 20 85 [.ft (xs.map .int)] []=some (.bool true,H')
theorem qN{R:WRecords}{cl:Str→Option Addr}{h:PySem.Heap}{I:bR}:∀{ds:List WData} {vs:List Value} {as:List Addr},WShape.hasItems R ds .int=true→ReadsAllW R cl h vs ds as →
  ∃xs:List Int,xs.length=ds.length∧LR [] I (xs.map .int) vs
 | [],vs,_,_,r=>⟨[],rfl,(readsAllW_nil_inv r).1▸.nil⟩
 |d::ds,vs,_,x,r=>Jj (readsAllW_cons_inv r) λv vs' a b e _ r1 r2=>bJ (hasW_int (fe x)) λi e1=>ay (readsW_int_inv (e1▸r1)) λt e2 _=>
   ay (qN (ds:=ds) (iz x) r2) λxs h1 h2=>⟨i::xs,congrArg (·+1) h1,(e.trans (congrArg (·::vs') e2))▸.cons (.int i t) h2⟩
theorem Bt:idx mK.name TB.fns=some 85:=by kernel_rfl
theorem xc:∀a∈Hs,a∈[11,13,14,120,121,122,123,124,125,126,134,135,136,137,138,139,140,141,142,143,144,145,146,147,148,156,157,158,159,160,161,162,261,262,263,264,265,266,267,275,276,277,278,279,280,281,520,521,522,523,524,525,526,534,535,536,537,538,539,540,576,577,578,579,580,581,582]:=by decide +kernel
theorem Ad{args:List WData}(p1:WShape.hasAll [] args [.list .int]=true):∃ds,args=[.list ds]∧WShape.hasItems [] ds .int=true:=
 df (hasAllW_cons p1) λd r e p3 p4=>ay (hasW_list p3) λds e2 p5=>⟨ds,by rw[e,e2,hasAllW_nil p4],p5⟩
theorem BD{ds:List WData}(p2:WTm.holds [] (PySem.Challenge.rw_nt0458_01.pre) { args:=[.list ds] }=true):ds.length≤63:=by
 have p2:WTm.holds [] (.and (.lit (.bool (!decide (((63:Nat):Int)<(ds.length:Int))))) (.lit (.bool true))) { args:=[.list ds] }=true:=p2
 refine Nat.le_of_not_lt λh=>?_
 rw[decide_eq_true (Int.ofNat_lt.mpr h)]at p2
 exact bY p2
theorem yZ{R:WRecords}{cl:Str→Option Addr}{h:PySem.Heap}{ds:List WData}{vs:List Value}{as:List Addr}(r:ReadsAllW R cl h vs [.list ds] as) :
  ∃L ob its n,vs=[.ref L]∧h.get? L=some ob∧ob.cls=.type "list" ∧ ob.data=.seq its n∧∃as',ReadsAllW R cl h its.toList ds as':=
 Jj (readsAllW_cons_inv r) λv vs' a b e _ r1 r2=>M8 (readsW_list_open r1) λl o its n ai e1 e2 e3 e4 e5 _=>⟨l,o,its,n,by rw[e,e1,(readsAllW_nil_inv r2).1],e2,e3,e4,ai,e5⟩
theorem sV(pl:pz):WalkO qV jN (λ_ _=>True) (λw h=>(tF w).In h) PySem.Challenge.rw_nt0458_01.row.toRowW mK [] (λf vs=>PySem.call f vs):=by
 intro w s₀ s₁ mg mb G X a o pm cd doc dV kV h1 h2 h3 h4 h5 h6 args vals as hpre hlay hrd hwell hsm
 clear hlay hwell hsm h1 h2 h3 h4
 refine dd (pre_splitW hpre) λp1 p2=>?_
 clear hpre
 refine ay (Ad p1) λds e p5=>?_
 subst e
 refine M7 (yZ hrd) λL ob its n e e1 e2 e3 q=>?_
 subst e
 refine bJ q λas' e4=>?_
 refine ay (qN (I:=(L,ob)::jK w.params) p5 e4) λxs hxl hlr=>?_
 refine bJ (pl xs (hxl▸BD p2)) λH' hcall=>?_
 have gd:=Hl (P:=w.params) (B:=s₁.heap) X G.T.g G.T.b G.T.nolimit G.T.builtins L ob
 let c:Cx:=⟨PySem.Challenge.rw_nt0458_01.row.prog,w,b_ w.params,Mt w.params L ob,s₁.heap,TB,PB,fa,20,[]⟩
 have cs:iM c:=td (c:=c) gd 20
 have ha:a=fa 85:=by
  have hm:s₁.heap.get? 3=some (j5 w.params):=X _ _ (nh _)
  cases gd.ns with
  |mk mg' mb' q1 _ hF=>exact Value.ref.inj (Option.some.inj (h5.symm.trans ((sH G.T.g hm _).trans ((sH q1 hm _).symm.trans (hF _ _ Bt)))))
 subst ha
 have inv:Inv (Mt w.params L ob) s₁.heap [] ((L,ob)::jK w.params) [] s₁.heap:=by
  refine⟨λ_ _ e=>e,rfl,λi e o q=>aM q,λp hp=>?_,λ_ _ e he=>(nomatch he),λi j ei ej q=>aM q,λe he=>(nomatch he),λp hp=>hp⟩
  rcases List.mem_cons.mp hp with rfl|hp
  ·exact e1
  ·exact ay (List.mem_map.mp hp) λa ha e=>e▸X _ _ (gI _ (List.mem_append_right _ (xc a ha)))
 have lr:LR [] ((L,ob)::jK w.params) [.ft (xs.map .int)] [.ref L]:=
  .cons (.ft _ L ob its n (.head _) e2 e3 (hlr.1.trans Array.length_toList) λi v x q1 q2=>hlr.2 i v x q1 (by rw[Array.getElem?_toList];exact q2)) .nil
 refine enter_call (codeAny_mono (cs 85 _ [] _ _ hcall callerA s₁ [] _ [.ref L] ⟨rfl,(by decide:callerA.depth+4*20+2≤900),(by decide:callerA.units+20*20+290≤9000)⟩ inv lr) λres s' q=>?_)
 cases q with
 |mk q=>cases q with
  |mk φ' I' h' tk v' x' rel=>
   have rel:=rel.g8
   subst rel
   refine⟨.inl ⟨_,.bool true,[],rfl,λ_=>rfl,.bool true,?_,λ_=>⟨List.nodup_nil,λ_ h=>by cases h⟩⟩,.of_keep v'.base,rfl,by rw[h6];exact .empty⟩
   wrow_post
theorem qd(pl:pz):PySem.Challenge.rw_nt0458_01.Holds:=rY (sV pl)
end
section
open PySem
noncomputable def eJ:Nat→(Nat→Bool)→Nat
 |0,_=>0
 |n+1,p=>eJ n p+(if p n then 2 ^ n else 0)
theorem rq(p:Nat→Bool):∀n,eJ n p<2 ^ n
 |0=>by simp[eJ]
 |n+1=>by
  have:=rq p n
  unfold eJ
  simp only[Nat.pow_succ]
  split<;>first|exact Ar.Z2 [.l .x0 .x1] (.l (.a .x0 .x1) (.r .x1 2)) rfl this|exact Ar.Z2 [.l .x0 .x1] (.l (.a .x0 .n0) (.r .x1 2)) rfl this
theorem bo(p:Nat→Bool)(i:Nat):∀n,(eJ n p).testBit i=(decide (i<n)&&p i)
 |0=>by simp[eJ]
 |n+1=>by
  have ih:=bo p i n
  have lt:=rq p n
  unfold eJ
  split
  ·rename_i hp
   rw[Nat.add_comm]
   rcases Nat.lt_trichotomy i n with h|rfl|h
   ·simp only[Nat.testBit_two_pow_add_gt h,ih];simp[h,Nat.lt_succ_of_lt h]
   ·simp only[Nat.testBit_two_pow_add_eq,Nat.testBit_lt_two_pow lt];simp[hp]
   ·have:2 ^ n+eJ n p<2 ^ i:=Nat.lt_of_lt_of_le (by simp only[Nat.pow_succ];exact Ar.Z2 [.l .x0 .x1] (.l (.a .x1 .x0) (.r .x1 2)) rfl lt:_<2 ^ (n+1)) (Nat.pow_le_pow_right (by decide) h)
    rw[Nat.testBit_lt_two_pow this];simp;exact Ar.Zx 0 2 [_] [] [_,_] [.l .x0 .x1] (.I (.l .x1 (.a .x0 .n1)) (.x 0)) rfl rfl h
  ·rename_i hp
   simp only[Nat.add_zero,ih]
   rcases Nat.lt_trichotomy i n with h|rfl|h
   ·simp[h,Nat.lt_succ_of_lt h]
   ·simp[hp]
   ·have h1:¬ i<n:=by exact Ar.Z2 [.l .x0 .x1] (.N (.l .x1 .x0)) rfl h
    have h2:¬ i<n+1:=by exact Ar.Z2 [.l .x0 .x1] (.N (.l .x1 (.a .x0 .n1))) rfl h
    simp[h1,h2]
noncomputable def bm(n:Nat)(p:Nat→Bool):Int:=(eJ n p:Nat)
theorem bitNot_bitNot(x:Int):Builtin.bitNot (Builtin.bitNot x)=x:=by unfold Builtin.bitNot;exact Ar.eI [] (.Q (.s (.g (.s (.g .y0) .n1)) .n1) .y0) rfl
theorem dh(a b:Nat):bM a b=((a&&&b:Nat):Int):=by
 unfold bM Builtin.bitAnd
 rw[decide_eq_true (by exact Ar.Z1 [] (.E .n0 (.c .x0)) rfl:(0:Int)≤a),decide_eq_true (by exact Ar.Z1 [] (.E .n0 (.c .x0)) rfl:(0:Int)≤b)]
 rfl
theorem iA(a:Nat):decide ((0:Int)≤Builtin.bitNot (a:Int))=false:=by
 unfold Builtin.bitNot;rw[decide_eq_false_iff_not];exact Ar.Z1 [] (.N (.E .n0 (.s (.g (.c .x0)) .n1))) rfl
theorem kY(a b:Nat):fM a b=((a|||b:Nat):Int):=by
 unfold fM Builtin.bitOr Builtin.bitAnd
 simp only[iA,iA,bitNot_bitNot,bitNot_bitNot,bitNot_bitNot];rfl
theorem q_(a b:Nat):(a&&&b)+(a^^^b)=a|||b:=by
 induction a using Nat.strongRecOn generalizing b with
 |_ a ih=>
  by_cases h:a=0
  ·subst h;simp
  ·have h1:=ih (a/2) (by exact Ar.Z3 [.N (.q .x0 .n0),.d 2 .x1 .x2 .x0] (.l .x1 .x0) rfl h (Ar.md _ 2 rfl)) (b/2)
   have e1:(a&&&b)=2*(a/2&&&b/2)+(a&&&b)%2:=by rw[← Nat.and_div_two];exact Ar.Z3 [.d 2 .x1 .x2 .x0] (.q .x0 (.a (.m 2 .x1) .x2)) rfl (Ar.md _ 2 rfl)
   have e2:(a^^^b)=2*(a/2^^^b/2)+(a^^^b)%2:=by rw[← Nat.xor_div_two];exact Ar.Z3 [.d 2 .x1 .x2 .x0] (.q .x0 (.a (.m 2 .x1) .x2)) rfl (Ar.md _ 2 rfl)
   have e3:(a|||b)=2*(a/2|||b/2)+(a|||b)%2:=by rw[← Nat.or_div_two];exact Ar.Z3 [.d 2 .x1 .x2 .x0] (.q .x0 (.a (.m 2 .x1) .x2)) rfl (Ar.md _ 2 rfl)
   have e4:(a&&&b)%2+(a^^^b)%2=(a|||b)%2:=by
    have z:∀x:Nat,x%2=(x.testBit 0).toNat:=λx=>by rw[Nat.testBit_zero];rcases Nat.mod_two_eq_zero_or_one x with h|h<;>simp[h]
    simp only[z,z,z,Nat.testBit_and,Nat.testBit_xor,Nat.testBit_or]
    cases a.testBit 0<;>cases b.testBit 0<;>rfl
   exact Ar.Ni [.q (.a .x5 .bc) .x4,.q .bU (.a (.m 2 .x5) .x9),.q .x1 (.a (.m 2 .bc) .x7),.q .x6 (.a (.m 2 .x4) .x3),.q (.a .x9 .x7) .x3,.d 2 .x2 .x3 .x6,.d 2 .x0 .x7 .x1,.d 2 .x8 .x9 .bU] (.q (.a .bU .x1) .x6) rfl h1 e1 e2 e3 e4 (Ar.md _ 2 rfl) (Ar.md _ 2 rfl) (Ar.md _ 2 rfl)
theorem mT(a b:Nat):iS a b=((a^^^b:Nat):Int):=by
 unfold iS Builtin.bitXor
 have h1:=kY a b
 have h2:=dh a b
 unfold fM at h1
 unfold bM at h2
 simp only[h1,h2]
 have:=q_ a b
 exact Ar.Z3 [.q (.a .x0 .x1) .x2] (.Q (.s (.c .x2) (.c .x0)) (.c .x1)) rfl this
theorem Aa(a b:Nat):((a:Int)-((a&&&b:Nat):Int))=((a&&&(a^^^b):Nat):Int):=by
 have h:(a&&&b)+(a&&&(a^^^b))=a:=by
  have h2:((a&&&b)&&&(a&&&(a^^^b)))=0:=by
   apply Nat.eq_of_testBit_eq;intro i;simp only[Nat.zero_testBit];simp only[Nat.testBit_and,Nat.testBit_xor];cases a.testBit i<;>cases b.testBit i<;>rfl
  have h3:((a&&&b)|||(a&&&(a^^^b)))=a:=by
   apply Nat.eq_of_testBit_eq;intro i;simp only[Nat.testBit_and,Nat.testBit_xor,Nat.testBit_or];cases a.testBit i<;>cases b.testBit i<;>rfl
  have h6:((a&&&b)+(a&&&(a^^^b)))=((a&&&b)|||(a&&&(a^^^b))):=by
   have:∀x y:Nat,x&&&y=0→x+y=x|||y:=by
    intro x
    induction x using Nat.strongRecOn with
    |_ x ih=>
     intro y hxy
     by_cases h:x=0
     ·subst h;simp
     ·have i1:=ih (x/2) (by exact Ar.Z3 [.N (.q .x0 .n0),.d 2 .x1 .x2 .x0] (.l .x1 .x0) rfl h (Ar.md _ 2 rfl)) (y/2) (by rw[← Nat.and_div_two,hxy])
      have e3:(x|||y)=2*(x/2|||y/2)+(x|||y)%2:=by rw[← Nat.or_div_two];exact Ar.Z3 [.d 2 .x1 .x2 .x0] (.q .x0 (.a (.m 2 .x1) .x2)) rfl (Ar.md _ 2 rfl)
      have e4:x%2+y%2=(x|||y)%2:=by
       have z:∀x:Nat,x%2=(x.testBit 0).toNat:=λx=>by rw[Nat.testBit_zero];rcases Nat.mod_two_eq_zero_or_one x with h|h<;>simp[h]
       have h0:(x&&&y).testBit 0=false:=by rw[hxy];rfl
       rw[Nat.testBit_and]at h0
       rw[z,z,z,Nat.testBit_or]
       revert h0
       cases x.testBit 0<;>cases y.testBit 0<;>decide
      exact Ar.Kw [.q (.a .x0 .x3) .x6,.q .x7 (.a (.m 2 .x6) .x8),.q (.a .x2 .x5) .x8,.d 2 .x9 .x8 .x7,.d 2 .x3 .x5 .x4,.d 2 .x0 .x2 .x1] (.q (.a .x1 .x4) .x7) rfl i1 e3 e4 (Ar.md _ 2 rfl) (Ar.md _ 2 rfl) (Ar.md _ 2 rfl)
   exact this _ _ h2
  simp only[h6,h3]
 exact Ar.Z3 [.q (.a .x0 .x1) .x2] (.Q (.s (.c .x2) (.c .x0)) (.c .x1)) rfl h
theorem uD(a b:Nat):bM a (-(b:Int)-1)=((a&&&(a^^^b):Nat):Int):=by
 have:(-(b:Int)-1)=Builtin.bitNot b:=rfl
 rw[this]
 unfold bM Builtin.bitAnd
 simp only[decide_eq_true (by exact Ar.Z1 [] (.E .n0 (.c .x0)) rfl:(0:Int)≤a),iA,bitNot_bitNot]
 exact Aa a b
theorem eC{n a:Nat}{p:Nat→Bool}(h:∀i,a.testBit i=(decide (i<n)&&p i)):a=eJ n p:=
 Nat.eq_of_testBit_eq λi=>by simp only[h,bo]
theorem aE{n:Nat}{p q:Nat→Bool}(h:∀i,i<n→p i=q i):bm n p=bm n q:=by
 unfold bm
 rw[eC (a:=eJ n p) (n:=n) (p:=q)]
 intro i
 rw[bo]
 by_cases hi:i<n
 ·rw[h i hi]
 ·simp[hi]
theorem Dq{n:Nat}{p q:Nat→Bool}(h:bm n p=bm n q)(i:Nat)(hi:i<n):p i=q i:=by
 unfold bm at h
 have h1:=bo p i n
 have h2:=bo q i n
 simp only[Int.ofNat_inj.mp h,h2]at h1
 simpa[hi]using h1.symm
theorem cW(n:Nat):bm n (λ_=>false)=0:=by
 unfold bm
 have:∀n,eJ n (λ_=>false)=0:=by
  intro n;induction n with
  |zero=>rfl
  |succ n ih=>unfold eJ;rw[ih];rfl
 rw[this];rfl
theorem nY{n:Nat}{p:Nat→Bool}:bm n p=0↔∀i,i<n→p i=false:=by
 constructor
 ·intro h i hi
  simp only[← cW n]at h
  exact Dq h i hi
 ·intro h
  rw[← cW n];exact aE h
theorem cB(n:Nat)(p q:Nat→Bool):bM (bm n p) (bm n q)=bm n (λi=>p i&&q i):=by
 unfold bm
 rw[dh];congr 1
 exact eC λi=>by simp only[Nat.testBit_and,bo,bo];cases decide (i<n)<;>simp
theorem bT(n:Nat)(p q:Nat→Bool):fM (bm n p) (bm n q)=bm n (λi=>p i||q i):=by
 unfold bm
 rw[kY];congr 1
 exact eC λi=>by simp only[Nat.testBit_or,bo,bo];cases decide (i<n)<;>simp
theorem nX(n:Nat)(p q:Nat→Bool):iS (bm n p) (bm n q)=bm n (λi=>p i ^^ q i):=by
 unfold bm
 rw[mT];congr 1
 exact eC λi=>by simp only[Nat.testBit_xor,bo,bo];cases decide (i<n)<;>simp
theorem eY(n:Nat)(p q:Nat→Bool):bM (bm n p) (-(bm n q)-1)=bm n (λi=>p i&&!q i):=by
 unfold bm
 rw[uD];congr 1
 exact eC λi=>by simp only[Nat.testBit_and,Nat.testBit_xor,bo,bo];cases decide (i<n)<;>cases p i<;>simp
theorem two_pow_cast(k:Nat):((2:Int) ^ k)=((2 ^ k:Nat):Int):=by simp
theorem gG(a k:Nat):((a:Nat):Int).fdiv (2 ^ k)=((a>>>k:Nat):Int):=by
 simp only[two_pow_cast,Int.fdiv_eq_ediv_of_nonneg _ (Int.natCast_nonneg _),Nat.shiftRight_eq_div_pow]
 simp
theorem rA(n:Nat)(p:Nat→Bool)(k:Nat):bM ((bm n p).fdiv (2 ^ k)) 1=if(decide (k<n)&&p k)=true then 1 else 0:=by
 unfold bm
 rw[gG]
 have:(1:Int)=((1:Nat):Int):=rfl
 rw[this,dh,Nat.and_one_is_mod]
 have h:=bo p k n
 rw[Nat.testBit_eq_decide_div_mod_eq]at h
 rw[← h,Nat.shiftRight_eq_div_pow]
 rcases Nat.mod_two_eq_zero_or_one (eJ n p/2 ^ k)with h|h<;>simp[h]
theorem Dr{n s:Nat}(h:s<n):(1:Int)*2 ^ s=bm n (λi=>i==s):=by
 unfold bm
 simp only[Int.one_mul,two_pow_cast]
 congr 1
 refine eC λi=>?_
 rw[Nat.testBit_two_pow]
 by_cases hi:s=i
 ·subst hi;simp[h]
 ·have:(i==s)=false:=by simp;exact Ar.Z2 [.N (.q .x0 .x1)] (.N (.q .x1 .x0)) rfl hi
  simp[hi,this]
noncomputable def uC:Nat→(Nat→Bool)→Bool
 |0,_=>true
 |n+1,p=>uC n p&&p n
theorem pA{n:Nat}{p:Nat→Bool}:uC n p=true↔∀i,i<n→p i=true:=by
 induction n with
 |zero=>simp[uC]
 |succ n ih=>
  simp only[uC,Bool.and_eq_true,ih]
  constructor
  ·intro⟨h1,h2⟩ j hj
   rcases Nat.lt_succ_iff_lt_or_eq.mp hj with h|rfl
   ·exact h1 j h
   ·exact h2
  ·intro h;exact⟨λj hj=>h j (by exact Ar.Z2 [.l .x0 .x1] (.l .x0 (.a .x1 .n1)) rfl hj),h n (by exact Ar.Z1 [] (.l .x0 (.a .x0 .n1)) rfl)⟩
noncomputable def aO:Nat→(Nat→Bool)→Bool
 |0,_=>false
 |n+1,p=>aO n p||p n
theorem aB{n:Nat}{p:Nat→Bool}:aO n p=true↔∃i,i<n∧p i=true:=by
 induction n with
 |zero=>simp[aO]
 |succ n ih=>
  simp only[aO,Bool.or_eq_true,ih]
  constructor
  ·rintro(⟨j,h1,h2⟩|h)
   ·exact⟨j,by exact Ar.Z2 [.l .x0 .x1] (.l .x0 (.a .x1 .n1)) rfl h1,h2⟩
   ·exact⟨n,by exact Ar.Z1 [] (.l .x0 (.a .x0 .n1)) rfl,h⟩
  ·rintro⟨j,h1,h2⟩
   rcases Nat.lt_succ_iff_lt_or_eq.mp h1 with h|rfl
   ·exact .inl ⟨j,h,h2⟩
   ·exact .inr h2
noncomputable def fC(p:Nat→Bool)(i:Nat):Bool:=uC i λj=>!p j
theorem ip(p:Nat→Bool)(i:Nat):fC p i=true↔∀j,j<i→p j=false:=by
 unfold fC;rw[pA];simp
theorem qU(i:Nat):∀x:Nat,x≠0→((x^^^(x-1)).testBit i=true↔∀j,j<i→x.testBit j=false):=by
 induction i with
 |zero=>
  intro x hx
  rw[Nat.testBit_xor,Nat.testBit_zero,Nat.testBit_zero]
  have:∀j,j<0→x.testBit j=false:=by intro j hj;exact False.elim (Ar.Z1 [.l .x0 .n0] .F rfl hj)
  simp only[iff_true_right this]
  refine Or.elim (Nat.mod_two_eq_zero_or_one x) (λh=>?_) λh=>?_
  ·have:(x-1)%2=1:=by exact Ar.Z6 [.q .x3 .n0,.N (.q .x1 .n0),.d 2 .x5 .x0 .x2,.s .x2 .x1 .n1,.d 2 .x4 .x3 .x1] (.q .x0 .n1) rfl h hx (Ar.md _ 2 rfl) (Ar.ts _ _) (Ar.md _ 2 rfl)
   simp[h,this]
  ·have:(x-1)%2=0:=by exact Ar.Z6 [.q .x1 .n1,.d 2 .x5 .x0 .x2,.s .x2 .x3 .n1,.d 2 .x4 .x1 .x3] (.q .x0 .n0) rfl h (Ar.md _ 2 rfl) (Ar.ts _ _) (Ar.md _ 2 rfl)
   simp[h,this]
 |succ i ih=>
  intro x hx
  rw[Nat.testBit_xor,Nat.testBit_succ,Nat.testBit_succ]
  refine Or.elim (Nat.mod_two_eq_zero_or_one x) (λh=>?_) λh=>?_
  ·have h1:(x-1)/2=x/2-1:=by exact Ar.Z7 [.q .x0 .n0,.s .x6 .x2 .n1,.d 2 .x3 .x5 .x4,.s .x4 .x1 .n1,.d 2 .x2 .x0 .x1] (.q .x3 .x6) rfl h (Ar.ts _ _) (Ar.md _ 2 rfl) (Ar.ts _ _) (Ar.md _ 2 rfl)
   rw[h1,← Nat.testBit_xor,ih (x/2) (by exact Ar.Z3 [.q .x1 .n0,.N (.q .x0 .n0),.d 2 .x2 .x1 .x0] (.N (.q .x2 .n0)) rfl h hx (Ar.md _ 2 rfl))]
   constructor
   ·intro q j hj
    cases j with
    |zero=>rw[Nat.testBit_zero];simp[h]
    |succ j=>rw[Nat.testBit_succ];exact q j (by exact Ar.Z2 [.l (.a .x0 .n1) (.a .x1 .n1)] (.l .x0 .x1) rfl hj)
   ·intro q j hj
    have:=q (j+1) (by exact Ar.Z2 [.l .x0 .x1] (.l (.a .x0 .n1) (.a .x1 .n1)) rfl hj)
    rwa [Nat.testBit_succ]at this
  ·have h1:(x-1)/2=x/2:=by exact Ar.Z6 [.q .x0 .n1,.d 2 .x3 .x5 .x4,.s .x4 .x1 .n1,.d 2 .x2 .x0 .x1] (.q .x3 .x2) rfl h (Ar.md _ 2 rfl) (Ar.ts _ _) (Ar.md _ 2 rfl)
   rw[h1,Bool.xor_self]
   constructor
   ·intro h;exact bY h
   ·intro q
    have:=q 0 (by exact Ar.Z1 [] (.l .n0 (.a .x0 .n1)) rfl)
    rw[Nat.testBit_zero]at this
    simp[h]at this
theorem vX{n i:Nat}(p:Nat→Bool)(hi:i<n):(∀j,j<i→(eJ n p).testBit j=false)↔fC p i=true:=by
 rw[ip]
 constructor
 ·intro h j hj
  have:=h j hj
  rw[bo]at this
  have hn:j<n:=by exact Ar.Z3 [.l .x0 .x1,.l .x2 .x0] (.l .x2 .x1) rfl hi hj
  simpa[hn]using this
 ·intro h j hj
  simp only[bo,h j hj];simp
theorem v7{n:Nat}{p:Nat→Bool}(h:bm n p≠0):eJ n p≠0:=λq=>h (by unfold bm;rw[q];rfl)
theorem Ai(n:Nat)(r p:Nat→Bool)(h:bm n p≠0):bM (bm n r) (iS (bm n p) (bm n p-1))=bm n (λi=>r i&&fC p i):=by
 have hp:=v7 h
 unfold bm
 have:((eJ n p:Nat):Int)-1=((eJ n p-1:Nat):Int):=by exact Ar.Z2 [.N (.q .x0 .n0),.s .x1 .x0 .n1] (.Q (.s (.c .x0) .n1) (.c .x1)) rfl hp (Ar.ts _ _)
 simp only[this,mT,dh]
 congr 1
 refine eC λi=>?_
 simp only[Nat.testBit_and,bo]
 by_cases hi:i<n
 ·have:=(qU i _ hp).trans (vX p hi)
  simp only[Bool.eq_iff_iff.mpr this];simp[hi]
 ·simp[hi]
theorem Aj(n:Nat)(p:Nat→Bool):bM (bm n p) (bm n p-1)≠0↔∃i j,i<j∧j<n∧p i=true∧p j=true:=by
 by_cases h:bm n p=0
 ·rw[h]
  have h0:=nY.mp h
  refine⟨λq=>absurd (by decide) q,λ⟨i,j,h1,h2,_,h4⟩=>by rw[h0 j h2]at h4;cases h4⟩
 ·have hp:=v7 h
  unfold bm
  have e:((eJ n p:Nat):Int)-1=((eJ n p-1:Nat):Int):=by exact Ar.Z2 [.N (.q .x0 .n0),.s .x1 .x0 .n1] (.Q (.s (.c .x0) .n1) (.c .x1)) rfl hp (Ar.ts _ _)
  simp only[e,dh]
  have key:∀j,(eJ n p&&&(eJ n p-1)).testBit j=true↔((eJ n p).testBit j=true∧¬ ∀i,i<j→(eJ n p).testBit i=false):=by
   intro j
   simp only[← qU j _ hp,Nat.testBit_xor,Nat.testBit_and]
   cases(eJ n p).testBit j<;>cases(eJ n p-1).testBit j<;>simp
  constructor
  ·intro q
   have q:(eJ n p&&&(eJ n p-1))≠0:=λz=>q (by rw[z];rfl)
   refine bJ (Nat.exists_testBit_of_ne_zero q) λj hj=>?_
   rw[key j,bo]at hj
   simp only[Bool.and_eq_true,decide_eq_true_eq]at hj
   obtain⟨⟨h1,h2⟩,h3⟩:=hj
   refine Classical.byContradiction λhn=>h3 λi hi=>?_
   rw[bo]
   cases hpi:p i with
   |false=>simp
   |true=>exact absurd ⟨i,j,hi,h1,hpi,h2⟩ hn
  ·rintro⟨i,j,h1,h2,h3,h4⟩ q
   have q:(eJ n p&&&(eJ n p-1))=0:=by exact Ar.Z1 [.Q (.c .x0) .n0] (.q .x0 .n0) rfl q
   have hj:=(key j).mpr ⟨by simp only[bo,h4];simp[h2],λz=>by
    have:=z i h1
    simp only[bo,h3]at this
    have hi:i<n:=by exact Ar.Z3 [.l .x0 .x1,.l .x1 .x2] (.l .x0 .x2) rfl h1 h2
    simp[hi]at this⟩
   rw[q,Nat.zero_testBit]at hj
   exact bY hj
noncomputable def fG(n:Nat)(p:Nat→Bool)(i:Nat):Bool:=aO n λj=>decide (i<j)&&p j
noncomputable def upTo(x:Nat)(m:Nat)(y:Nat):Prop:=∀i,y.testBit i=true↔∃j,i<j∧j≤i+m∧x.testBit j=true
theorem zP(x:Nat):upTo x 1 (x>>>1):=λi=>by
 rw[Nat.testBit_shiftRight]
 constructor
 ·intro h;exact⟨1+i,by exact Ar.Z1 [] (.l .x0 (.a .n1 .x0)) rfl,by exact Ar.Z1 [] (.e (.a .n1 .x0) (.a .x0 .n1)) rfl,h⟩
 ·rintro⟨j,h1,h2,h3⟩
  have:j=1+i:=by exact Ar.Z2 [.l .x0 .x1,.e .x1 (.a .x0 .n1)] (.q .x1 (.a .n1 .x0)) rfl h1 h2
  subst this;exact h3
theorem eG{x m y:Nat}(h:upTo x m y)(k:Nat)(hk:k≤m):upTo x (m+k) (y|||y>>>k):=λi=>by
 simp only[Nat.testBit_or,Nat.testBit_shiftRight,Bool.or_eq_true,h i,h (k+i)]
 constructor
 ·rintro(⟨j,h1,h2,h3⟩|⟨j,h1,h2,h3⟩)
  ·exact⟨j,h1,by exact Ar.Z4 [.e .x0 (.a .x1 .x2)] (.e .x0 (.a .x1 (.a .x2 .x3))) rfl h2,h3⟩
  ·exact⟨j,by exact Ar.Z3 [.l (.a .x0 .x1) .x2] (.l .x1 .x2) rfl h1,by exact Ar.Z4 [.e .x0 (.a (.a .x1 .x2) .x3)] (.e .x0 (.a .x2 (.a .x3 .x1))) rfl h2,h3⟩
 ·rintro⟨j,h1,h2,h3⟩
  by_cases hj:j≤i+m
  ·exact .inl ⟨j,h1,hj,h3⟩
  ·exact .inr ⟨j,by exact Ar.Z4 [.e .x0 .x1,.N (.e .x2 (.a .x3 .x1))] (.l (.a .x0 .x3) .x2) rfl hk hj,by exact Ar.Z4 [.e .x0 (.a .x1 (.a .x2 .x3))] (.e .x0 (.a (.a .x3 .x1) .x2)) rfl h2,h3⟩
noncomputable def qQ(x:Nat):Nat:=
 let a:=x>>>1
 let a:=a|||a>>>1
 let a:=a|||a>>>2
 let a:=a|||a>>>4
 let a:=a|||a>>>8
 let a:=a|||a>>>16
 a|||a>>>32
theorem zr(x:Nat):upTo x 64 (qQ x):=
 eG (eG (eG (eG (eG (eG (zP x) 1 (by exact Ar.Zx 0 0 [] [] [] [] (.e .n1 .n1) rfl rfl)) 2 (by exact Ar.Zx 0 0 [] [] [] [] (.e .n2 (.a .n1 .n1)) rfl rfl)) 4 (by exact Ar.Zx 0 0 [] [] [] [] (.e .n4 (.a (.a .n1 .n1) .n2)) rfl rfl)) 8 (by exact Ar.Zx 0 0 [] [] [] [] (.e .n8 (.a (.a (.a .n1 .n1) .n2) .n4)) rfl rfl)) 16 (by exact Ar.Zx 0 0 [] [] [] [] (.e .Iv (.a (.a (.a (.a .n1 .n1) .n2) .n4) .n8)) rfl rfl)) 32 (by exact Ar.Zx 0 0 [] [] [] [] (.e (.n 32) (.a (.a (.a (.a (.a .n1 .n1) .n2) .n4) .n8) .Iv)) rfl rfl)
theorem zq{n:Nat}(hn:n≤64)(p:Nat→Bool):qQ (eJ n p)=eJ n (fG n p):=by
 refine eC λi=>?_
 rw[Bool.eq_iff_iff,zr (eJ n p) i]
 unfold fG
 simp only[bo,Bool.and_eq_true,decide_eq_true_eq,aB]
 constructor
 ·rintro⟨j,h1,h2,h3,h4⟩;exact⟨by exact Ar.Z3 [.l .x0 .x1,.l .x1 .x2] (.l .x0 .x2) rfl h1 h3,j,h3,h1,h4⟩
 ·rintro⟨h0,j,h1,h2,h3⟩;exact⟨j,h2,by exact Ar.Z3 [.e .x0 .ko,.l .x1 .x0] (.e .x1 (.a .x2 .ko)) rfl hn h1,h1,h3⟩
theorem v8{n:Nat}(hn:n≤64)(r p:Nat→Bool):bM (bm n r) (-((qQ (eJ n p):Nat):Int)-1)=bm n (λi=>r i&&!fG n p i):=by
 rw[zq hn];exact eY n r _
end
section
open PySem
noncomputable def aS(F d a b:Nat):Bool:=
 match d with
 |0=>Nat.beq (a%F) (b%F)&&Nat.blt (a/F) (b/F)
 |1=>Nat.beq (a/F) (b/F)&&Nat.blt (a%F) (b%F)
 |2=>Nat.beq (a%F) (b%F)&&Nat.blt (b/F) (a/F)
 |3=>Nat.beq (a/F) (b/F)&&Nat.blt (b%F) (a%F)
 |4=>Nat.beq (b%F+a/F) (a%F+b/F)&&Nat.blt (a%F) (b%F)
 |5=>Nat.beq (b%F+b/F) (a%F+a/F)&&Nat.blt (a%F) (b%F)
 |6=>Nat.beq (b%F+a/F) (a%F+b/F)&&Nat.blt (b%F) (a%F)
 |7=>Nat.beq (b%F+b/F) (a%F+a/F)&&Nat.blt (b%F) (a%F)
 |_=>false
noncomputable def dst(a b:Nat):Nat:=(a-b)+(b-a)
noncomputable def nr(F a b:Nat):Bool:=Nat.ble (dst (a%F) (b%F)) 1&&Nat.ble (dst (a/F) (b/F)) 1&&!(Nat.beq (dst (a%F) (b%F)) 0&&Nat.beq (dst (a/F) (b/F)) 0)
noncomputable def sD(F a b:Nat):Bool:=(Nat.beq (dst (a%F) (b%F)) 1&&Nat.beq (dst (a/F) (b/F)) 2)||(Nat.beq (dst (a%F) (b%F)) 2&&Nat.beq (dst (a/F) (b/F)) 1)
noncomputable def fu(F s a b:Nat):Bool:=Nat.beq (dst (a%F) (b%F)) 1&&(match s with|0=>Nat.beq (b/F) (a/F+1)|_=>Nat.beq (a/F) (b/F+1))
noncomputable def tab(n:Nat)(f:Nat→V):List V:=(List.range n).map f
noncomputable def bt(n:Nat)(f:Nat→Nat→Bool):MO:=.lst (tab n λa=>.int (bm n (f a)))
noncomputable def zs(n:Nat):MO:=.lst (List.replicate n (.int 0))
noncomputable def z1:MO:=.lst [.int 0]
noncomputable def bj(F R:Nat)(wings:Bool)(i:Nat):Option (Nat×Nat×Nat×Nat):=
 let base:=if i/2=1 then(R-1)*F else 0
 let st:=base+F/2
 match wings,i%2 with
 |false,_=>none
 |true,0=>if F/2+2<F-1 then some (st,st+2,base+F-1,st+1)else none
 |true,_=>if 2<F/2 then some (st,st-2,base,st-1)else none
noncomputable def sW:Option (Nat×Nat×Nat×Nat)→V
 |none=>.bW
 |some (a,b,c,e)=>.tup [.int a,.int b,.int c,.int e]
noncomputable def eK(F R:Nat)(wings:Bool)(i:Nat):V:=sW (bj F R wings i)
noncomputable def te(F R:Nat)(wings:Bool)(i s:Nat):Bool:=
 match bj F R wings i with
 |some (a,_,c,_)=>Nat.beq a s||Nat.beq c s
 |none=>false
noncomputable def Iq(F R:Nat)(wings:Bool)(s:Nat):Nat:=(if te F R wings 0 s then 1 else 0)+(if te F R wings 1 s then 2 else 0)+(if te F R wings 2 s then 4 else 0)+(if te F R wings 3 s then 8 else 0)
noncomputable def gH(F R:Nat)(dbl wings:Bool):List MO:=
 let N:=F*R
 [.ins 0 [(0,.int F),(1,.int R),(2,.int N),(3,.int ((2 ^ N-1:Nat))),(4,.bool dbl),(5,.bool wings),(6,.ref 8),(7,.ref 9),(8,.ref 10),(9,.ref 19),(10,.ref 12),(11,.ref 15),(12,.ref 16),(13,.ref 37)],
  .lst (tab F λf=>.int (bm N λi=>Nat.beq (i%F) f)),.lst (tab R λr=>.int (bm N λi=>Nat.beq (i/F) r)),.lst [.ref 21,.ref 23,.ref 25,.ref 27,.ref 29,.ref 31,.ref 33,.ref 35],.lst [],
  bt N (sD F),bt N (fu F 0),bt N (fu F 1),.lst [.ref 13,.ref 14],.lst [eK F R wings 0,eK F R wings 1,eK F R wings 2,eK F R wings 3],.lst [],z1,bt N (nr F),
  z1,bt N (aS F 0),z1,bt N (aS F 1),z1,bt N (aS F 2),z1,bt N (aS F 3),z1,bt N (aS F 4),z1,bt N (aS F 5),z1,bt N (aS F 6),z1,bt N (aS F 7),z1,.lst (tab N λs=>.int (Iq F R wings s))]
noncomputable def O_(a b:Int):Bool:=decide (a=b)
mutual
noncomputable def K_:V→V→Bool
 |.bW,.bW=>true
 |.bool a,.bool b=>a==b
 |.int a,.int b=>O_ a b
 |.ref a,.ref b=>Nat.beq a b
 |.tup l,.tup m=>AO l m
 |_,_=>false
noncomputable def AO:List V→List V→Bool
 | [],[]=>true
 |a::l,b::m=>K_ a b&&AO l m
 |_,_=>false
end
noncomputable def K9:List (Nat×V)→List (Nat×V)→Bool
 | [],[]=>true
 |(a,v)::l,(b,u)::m=>Nat.beq a b&&K_ v u&&K9 l m
 |_,_=>false
noncomputable def ND:MO→MO→Bool
 |.lst l,.lst m=>AO l m
 |.ins c f,.ins d g=>Nat.beq c d&&K9 f g
 |_,_=>false
noncomputable def GZ:List MO→List MO→Bool
 | [],[]=>true
 |a::l,b::m=>ND a b&&GZ l m
 |_,_=>false
theorem L9{a b:Nat}{l m:List (Nat×V)}(h:a=b)(k:l=m):MO.ins a l=MO.ins b m:=by rw[h,k]
mutual
theorem wD:∀a b:V,K_ a b=true→a=b
 |.bW,b,h=>by cases b<;>first|rfl|exact bY h
 |.bool a,b,h=>by cases b<;>first|exact congrArg V.bool (eq_of_beq h)|exact bY h
 |.int a,b,h=>by cases b<;>first|exact congrArg V.int (of_decide_eq_true h)|exact bY h
 |.ref a,b,h=>by cases b<;>first|exact congrArg V.ref (Nat.eq_of_beq_eq_true h)|exact bY h
 |.tup l,b,h=>by cases b<;>first|exact congrArg V.tup (od l _ h)|exact bY h
 |.bQ _ _ _,b,h=>by cases b<;>exact bY h
 |.ft _,b,h=>by cases b<;>exact bY h
theorem od:∀a b:List V,AO a b=true→a=b
 | [],[],_=>rfl
 | [],_::_,h=>bY h
 |_::_,[],h=>bY h
 |a::l,b::m,h=>jX (wD a b (fe h)) (od l m (iz h))
end
theorem wB:∀a b:List (Nat×V),K9 a b=true→a=b
 | [],[],_=>rfl
 | [],_::_,h=>bY h
 |_::_,[],h=>bY h
 |(_,v)::l,(_,u)::m,h=>jX (IF (Nat.eq_of_beq_eq_true (fe (fe h))) (wD v u (iz (fe h)))) (wB l m (iz h))
theorem DH:∀a b:MO,ND a b=true→a=b
 |.lst l,.lst m,h=>congrArg MO.lst (od l m h)
 |.ins _ f,.ins _ g,h=>L9 (Nat.eq_of_beq_eq_true (fe h)) (wB f g (iz h))
 |.lst _,.ins _ _,h=>bY h
 |.ins _ _,.lst _,h=>bY h
theorem wC:∀a b:List MO,GZ a b=true→a=b
 | [],[],_=>rfl
 | [],_::_,h=>bY h
 |_::_,[],h=>bY h
 |a::l,b::m,h=>jX (DH a b (fe h)) (wC l m (iz h))
theorem NW{α:Type}{x:α}{l:List α}{G:Prop}(h:[]=x::l):G:=nomatch h
noncomputable def EV(g:List MO)(r:R):List MO:=match r with
 |some (.ref n,H)=>cond (Nat.beq n 7&&GZ (H.drop 7) g) (H.take 7) []
 |_=>[]
theorem jR{g l:List MO}{x:MO}:∀{r:R},EV g r=x::l→r=some (.ref 7,x::l++g)
 |some (.ref n,H),h=>by
  have h:cond (Nat.beq n 7&&GZ (H.drop 7) g) (H.take 7) []=x::l:=h
  cases q:Nat.beq n 7&&GZ (H.drop 7) g with
  |false=>rw[q]at h;exact NW h
  |true=>
   rw[q]at h
   have h2:H.take 7=x::l:=h
   rw[Nat.eq_of_beq_eq_true (fe q),← h2,← wC _ _ (iz q),List.take_append_drop]
 |none,h|some (.bW,_),h|some (.bool _,_),h|some (.int _,_),h|some (.tup _,_),h|some (.bQ ..,_),h|some (.ft _,_),h=>NW h
theorem A9(d:Nat)(a b c e f g h:MO):EV (gH 4 5 true false) (ag PB (d+6) 22 [.int 4,.int 5,.bool true,.bool false] [a,b,c,e,f,g,h])=[a,b,c,e,f,g,h]:=by kernel_rfl
theorem A_(d:Nat)(a b c e f g h:MO):EV (gH 8 3 false true) (ag PB (d+6) 22 [.int 8,.int 3,.bool false,.bool true] [a,b,c,e,f,g,h])=[a,b,c,e,f,g,h]:=by kernel_rfl
theorem Ba(d:Nat)(a b c e f g h:MO):EV (gH 5 5 true false) (ag PB (d+6) 22 [.int 5,.int 5,.bool true,.bool false] [a,b,c,e,f,g,h])=[a,b,c,e,f,g,h]:=by kernel_rfl
theorem Bb(d:Nat)(a b c e f g h:MO):EV (gH 6 3 false true) (ag PB (d+6) 22 [.int 6,.int 3,.bool false,.bool true] [a,b,c,e,f,g,h])=[a,b,c,e,f,g,h]:=by kernel_rfl
theorem Bc(d:Nat)(a b c e f g h:MO):EV (gH 3 5 true false) (ag PB (d+6) 22 [.int 3,.int 5,.bool true,.bool false] [a,b,c,e,f,g,h])=[a,b,c,e,f,g,h]:=by kernel_rfl
theorem Be(d:Nat)(a b c e f g h:MO):EV (gH 4 5 false false) (ag PB (d+6) 22 [.int 4,.int 5,.bool false,.bool false] [a,b,c,e,f,g,h])=[a,b,c,e,f,g,h]:=by kernel_rfl
end
section
open PySem
noncomputable abbrev Fd(d:Nat):Cf:=⟨ag PB d,λc=>PB.F6[c]?,λg=>PB.aV[g]?⟩
theorem Ao{d f:Nat}{as:List V}{H:MH}{fn:Fn}(h:PB.fns[f]?=some fn)(hl:Nat.beq as.length fn.params=true) :
  ag PB (d+1) f as H=(eZ (Fd d) fn.body (as.map some++List.replicate (fn.slots-fn.params) none) H).bind λr=>match r.1 with
   |.ret v=>some (v,r.2.2)
   |.bf=>some (.bW,r.2.2)
   |.cnt=>none:=by
 unfold ag
 rw[h,Option.bind_some,if_pos hl];try rfl
theorem F4(x:Option V)(ρ:Loc):getL (x::ρ) 0=x:=rfl
theorem F3(x:Option V)(ρ:Loc)(k:Nat):getL (x::ρ) (k+1)=getL ρ k:=rfl
theorem Gw(x:Option V)(ρ:Loc)(v:V):aX (x::ρ) 0 v=some v::ρ:=rfl
theorem Gv(x:Option V)(ρ:Loc)(k:Nat)(v:V):aX (x::ρ) (k+1) v=x::aX ρ k v:=rfl
theorem IM(x:Option V):List.replicate 0 x=[]:=rfl
theorem IL(n:Nat)(x:Option V):List.replicate (n+1) x=x::List.replicate n x:=rfl
theorem FW(x:Int)(k:Nat):binI .shr x (k:Int)=some (x.fdiv (2 ^ k)):=by
 show(if decide (0≤((k:Nat):Int))=true then some (x.fdiv (2 ^ ((k:Nat):Int).toNat))else none)=_
 simp
theorem Ju(x y:Bool)(H:MH):cX .eq (.bool x) (.bool y) H=some (x==y):=rfl
theorem Jw(x y:Bool)(H:MH):cX .ne (.bool x) (.bool y) H=some !(x==y):=rfl
theorem KX(x:V)(H:MH):cX .F7 x .bW H=some (gK x):=rfl
theorem Jv(x:V)(H:MH):cX .F8 x .bW H=some !(gK x):=rfl
theorem Qd(x:Int):binI .shr x 1=some (x.fdiv (2 ^ 1)):=rfl
theorem Qe(x:Int):binI .shr x 2=some (x.fdiv (2 ^ 2)):=rfl
theorem Qf(x:Int):binI .shr x 3=some (x.fdiv (2 ^ 3)):=rfl
theorem Qg(x:Int):binI .shr x 4=some (x.fdiv (2 ^ 4)):=rfl
theorem Qh(x:Int):binI .shr x 6=some (x.fdiv (2 ^ 6)):=rfl
theorem Qi(x:Int):binI .shr x 8=some (x.fdiv (2 ^ 8)):=rfl
theorem Oc(x:Int):binI .shr x 12=some (x.fdiv (2 ^ 12)):=rfl
theorem Od(x:Int):binI .shr x 14=some (x.fdiv (2 ^ 14)):=rfl
theorem Oe(x:Int):binI .shr x 16=some (x.fdiv (2 ^ 16)):=rfl
theorem Of(x:Int):binI .shr x 32=some (x.fdiv (2 ^ 32)):=rfl
theorem zg:dc 0 8 1=some [.int 0,.int 1,.int 2,.int 3,.int 4,.int 5,.int 6,.int 7]:=rfl
theorem qO:dc 0 4 1=some [.int 0,.int 1,.int 2,.int 3]:=rfl
theorem vk:dc 4 8 1=some [.int 4,.int 5,.int 6,.int 7]:=rfl
theorem js:dc 0 2 1=some [.int 0,.int 1]:=rfl
theorem mk8:eA [.int 8]=some (.bQ 0 8 1):=rfl
theorem NS:eA [.int 4]=some (.bQ 0 4 1):=rfl
theorem Mp:eA [.int 4,.int 8]=some (.bQ 4 8 1):=rfl
theorem Ka:eA [.int 2]=some (.bQ 0 2 1):=rfl
end
section
open PySem
structure St where
 F:Nat
 R:Nat
 dbl:Bool
 wg:Bool
 c:Nat→Nat
 s:Nat
 ep:Int
 rt:Nat→Bool
 k:Nat→Nat
noncomputable abbrev St.N(q:St):Nat:=q.F*q.R
noncomputable def St.oc(q:St)(x:Nat):Bool:=!Nat.beq (q.c x) 0
noncomputable def nG(c:Nat→Nat)(t x:Nat):Bool:=!Nat.beq (c x) 0&&Nat.beq (c x/8) t
noncomputable def Bo(c:Nat→Nat)(k x:Nat):Bool:=Nat.beq (c x%8) k
noncomputable def St.sd(q:St)(t x:Nat):Bool:=nG q.c t x
noncomputable def St.kd(q:St)(k x:Nat):Bool:=Bo q.c k x
theorem len_tab(n:Nat)(f:Nat→V):(tab n f).length=n:=by simp[tab]
theorem Bf{n a:Nat}(f:Nat→V)(h:a<n):(tab n f)[a]?=some (f a):=by simp[tab,h]
theorem ji{a:Nat}(h:a<1000000):jh (a:Int)=true:=by unfold jh;simp;exact Ar.Z1 [.l .x0 .av] (.L (.c .x0) .av) rfl h
theorem bu{H:MH}{n a:Nat}{l:List V}(hl:aj H n=some l)(h:a<1000000):aJ (.ref n) (.int (a:Int)) H=l[a]?:=by
 unfold aJ;simp only[ji h,hl,if_true,Option.bind_some,Int.toNat_natCast]
theorem cP{H:MH}{n a N:Nat}{f:Nat→V}(hl:aj H n=some (tab N f))(hN:N≤25)(h:a<N):aJ (.ref n) (.int (a:Int)) H=some (f a):=by
 rw[bu hl (by exact Ar.Z2 [.e .x0 .aQ,.l .x1 .x0] (.l .x1 .av) rfl hN h),Bf f h]
theorem aY{H K:MH}{n:Nat}{l:List V}(h:aj H n=some l):aj (H++K) n=some l:=by
 unfold aj at h ⊢
 split at h
 ·rename_i l' e;rw[List.getElem?_append_left (List.getElem?_eq_some_iff.mp e).1,e];exact h
 ·exact aM h
theorem bH{H K:MH}{v:V}{a:Nat}{x:V}(h:bK v a H=some x):bK v a (H++K)=some x:=by
 unfold bK at h ⊢
 split at h
 ·split at h
  ·rename_i e;simp only[List.getElem?_append_left (List.getElem?_eq_some_iff.mp e).1,e];exact h
  ·exact aM h
 ·exact aM h
structure HP (q:St) (H:MH):Prop where
 hN:q.N≤25
 hF:3≤q.F
 hR:3≤q.R
 hs:q.s<2
 aF:bK (.ref 7) 0 H=some (.int q.F)
 aR:bK (.ref 7) 1 H=some (.int q.R)
 aN:bK (.ref 7) 2 H=some (.int q.N)
 aD:bK (.ref 7) 4 H=some (.bool q.dbl)
 vJ:bK (.ref 7) 8 H=some (.ref 10)
 Jr:bK (.ref 7) 9 H=some (.ref 19)
 KG:bK (.ref 7) 10 H=some (.ref 12)
 GI:bK (.ref 7) 11 H=some (.ref 15)
 Di:bK (.ref 7) 12 H=some (.ref 16)
 pG:bK (.ref 47) 14 H=some (.ref 7)
 pB:bK (.ref 47) 16 H=some (.ref 49)
 pK:bK (.ref 47) 17 H=some (.ref 51)
 pS:bK (.ref 47) 18 H=some (.ref 52)
 ps:bK (.ref 47) 19 H=some (.int q.s)
 pr:bK (.ref 47) 20 H=some (.int (bm 4 q.rt))
 pe:bK (.ref 47) 21 H=some (.int q.ep)
 Ie:aj H 10=some [.ref 21,.ref 23,.ref 25,.ref 27,.ref 29,.ref 31,.ref 33,.ref 35]
 lR:∀d,d<8→aj H (21+2*d)=some (tab q.N λa=>.int (bm q.N (aS q.F d a)))
 NL:aj H 19=some (tab q.N λa=>.int (bm q.N (nr q.F a)))
 NM:aj H 12=some (tab q.N λa=>.int (bm q.N (sD q.F a)))
 lP:aj H 15=some [.ref 13,.ref 14]
 NN:aj H 13=some (tab q.N λa=>.int (bm q.N (fu q.F 0 a)))
 NO:aj H 14=some (tab q.N λa=>.int (bm q.N (fu q.F 1 a)))
 NK:aj H 16=some [eK q.F q.R q.wg 0,eK q.F q.R q.wg 1,eK q.F q.R q.wg 2,eK q.F q.R q.wg 3]
 lB:aj H 49=some (tab q.N λt=>.int (q.c t))
 lK:aj H 51=some [.int 0,.int (bm q.N (q.kd 1)),.int (bm q.N (q.kd 2)),.int (bm q.N (q.kd 3)),.int (bm q.N (q.kd 4)),.int (bm q.N (q.kd 5)),.int (bm q.N (q.kd 6))]
 lS:aj H 52=some [.int (bm q.N (q.sd 0)),.int (bm q.N (q.sd 1))]
theorem HP.app{q:St}{H:MH}(h:HP q H)(K:MH):HP q (H++K):=
 ⟨h.hN,h.hF,h.hR,h.hs,bH h.aF,bH h.aR,bH h.aN,bH h.aD,bH h.vJ,bH h.Jr,bH h.KG,bH h.GI,bH h.Di,
  bH h.pG,bH h.pB,bH h.pK,bH h.pS,bH h.ps,bH h.pr,bH h.pe,aY h.Ie,λd hd=>aY (h.lR d hd),aY h.NL,aY h.NM,
  aY h.lP,aY h.NN,aY h.NO,aY h.NK,aY h.lB,aY h.lK,aY h.lS⟩
section
variable {q:St} {H:MH} (h:HP q H)
include h
theorem HP.k1:aJ (.ref 51) (.int 1) H=some (.int (bm q.N (q.kd 1))):=bu (a:=1) h.lK (by decide)
theorem HP.k2:aJ (.ref 51) (.int 2) H=some (.int (bm q.N (q.kd 2))):=bu (a:=2) h.lK (by decide)
theorem HP.k3:aJ (.ref 51) (.int 3) H=some (.int (bm q.N (q.kd 3))):=bu (a:=3) h.lK (by decide)
theorem HP.k4:aJ (.ref 51) (.int 4) H=some (.int (bm q.N (q.kd 4))):=bu (a:=4) h.lK (by decide)
theorem HP.k5:aJ (.ref 51) (.int 5) H=some (.int (bm q.N (q.kd 5))):=bu (a:=5) h.lK (by decide)
theorem HP.k6:aJ (.ref 51) (.int 6) H=some (.int (bm q.N (q.kd 6))):=bu (a:=6) h.lK (by decide)
theorem HP.s0:aJ (.ref 52) (.int 0) H=some (.int (bm q.N (q.sd 0))):=bu (a:=0) h.lS (by decide)
theorem HP.s1:aJ (.ref 52) (.int 1) H=some (.int (bm q.N (q.sd 1))):=bu (a:=1) h.lS (by decide)
theorem HP.st{t:Nat}(ht:t<2):aJ (.ref 52) (.int t) H=some (.int (bm q.N (q.sd t))):=by
 rw[bu h.lS (by exact Ar.Z1 [.l .x0 .n2] (.l .x0 .av) rfl ht)]
 match t,ht with
 |0,_=>rfl
 |1,_=>rfl
theorem HP.p0:aJ (.ref 15) (.int 0) H=some (.ref 13):=bu (a:=0) h.lP (by decide)
theorem HP.p1:aJ (.ref 15) (.int 1) H=some (.ref 14):=bu (a:=1) h.lP (by decide)
theorem HP.pt{t:Nat}(ht:t<2):aJ (.ref 15) (.int t) H=some (.ref (13+t)):=by
 rw[bu h.lP (by exact Ar.Z1 [.l .x0 .n2] (.l .x0 .av) rfl ht)]
 match t,ht with
 |0,_=>rfl
 |1,_=>rfl
theorem HP.pw{t a:Nat}(ht:t<2)(ha:a<q.N):aJ (.ref (13+t)) (.int a) H=some (.int (bm q.N (fu q.F t a))):=by
 match t,ht with
 |0,_=>exact cP h.NN h.hN ha
 |1,_=>exact cP h.NO h.hN ha
theorem HP.kg{a:Nat}(ha:a<q.N):aJ (.ref 19) (.int a) H=some (.int (bm q.N (nr q.F a))):=cP h.NL h.hN ha
theorem HP.kn{a:Nat}(ha:a<q.N):aJ (.ref 12) (.int a) H=some (.int (bm q.N (sD q.F a))):=cP h.NM h.hN ha
theorem HP.b{a:Nat}(ha:a<q.N):aJ (.ref 49) (.int a) H=some (.int (q.c a)):=cP h.lB h.hN ha
theorem HP.rd{d:Nat}(hd:d<8):aJ (.ref 10) (.int d) H=some (.ref (21+2*d)):=by
 rw[bu h.Ie (by exact Ar.Z1 [.l .x0 .n8] (.l .x0 .av) rfl hd)]
 match d,hd with
 |0,_=>rfl
 |1,_=>rfl
 |2,_=>rfl
 |3,_=>rfl
 |4,_=>rfl
 |5,_=>rfl
 |6,_=>rfl
 |7,_=>rfl
theorem HP.ra{d a:Nat}(hd:d<8)(ha:a<q.N):aJ (.ref (21+2*d)) (.int a) H=some (.int (bm q.N (aS q.F d a))):=cP (h.lR d hd) h.hN ha
theorem HP.r0{a:Nat}(ha:a<q.N):aJ (.ref 21) (.int a) H=some (.int (bm q.N (aS q.F 0 a))):=h.ra (d:=0) (by decide) ha
theorem HP.r1{a:Nat}(ha:a<q.N):aJ (.ref 23) (.int a) H=some (.int (bm q.N (aS q.F 1 a))):=h.ra (d:=1) (by decide) ha
theorem HP.r2{a:Nat}(ha:a<q.N):aJ (.ref 25) (.int a) H=some (.int (bm q.N (aS q.F 2 a))):=h.ra (d:=2) (by decide) ha
theorem HP.r3{a:Nat}(ha:a<q.N):aJ (.ref 27) (.int a) H=some (.int (bm q.N (aS q.F 3 a))):=h.ra (d:=3) (by decide) ha
theorem HP.r4{a:Nat}(ha:a<q.N):aJ (.ref 29) (.int a) H=some (.int (bm q.N (aS q.F 4 a))):=h.ra (d:=4) (by decide) ha
theorem HP.r5{a:Nat}(ha:a<q.N):aJ (.ref 31) (.int a) H=some (.int (bm q.N (aS q.F 5 a))):=h.ra (d:=5) (by decide) ha
theorem HP.r6{a:Nat}(ha:a<q.N):aJ (.ref 33) (.int a) H=some (.int (bm q.N (aS q.F 6 a))):=h.ra (d:=6) (by decide) ha
theorem HP.r7{a:Nat}(ha:a<q.N):aJ (.ref 35) (.int a) H=some (.int (bm q.N (aS q.F 7 a))):=h.ra (d:=7) (by decide) ha
theorem HP.d0:aJ (.ref 10) (.int 0) H=some (.ref 21):=h.rd (d:=0) (by decide)
theorem HP.d1:aJ (.ref 10) (.int 1) H=some (.ref 23):=h.rd (d:=1) (by decide)
theorem HP.d2:aJ (.ref 10) (.int 2) H=some (.ref 25):=h.rd (d:=2) (by decide)
theorem HP.d3:aJ (.ref 10) (.int 3) H=some (.ref 27):=h.rd (d:=3) (by decide)
theorem HP.d4:aJ (.ref 10) (.int 4) H=some (.ref 29):=h.rd (d:=4) (by decide)
theorem HP.d5:aJ (.ref 10) (.int 5) H=some (.ref 31):=h.rd (d:=5) (by decide)
theorem HP.d6:aJ (.ref 10) (.int 6) H=some (.ref 33):=h.rd (d:=6) (by decide)
theorem HP.d7:aJ (.ref 10) (.int 7) H=some (.ref 35):=h.rd (d:=7) (by decide)
end
end
section
open PySem
noncomputable abbrev KV:=V×MH→R
noncomputable abbrev KS:=Fl×Loc×MH→R
noncomputable abbrev KL:=List V×MH→R
noncomputable abbrev KT:=Bool×MH→R
noncomputable abbrev DE:=Loc→MH→KV→R
noncomputable abbrev DL:=Loc→MH→KL→R
noncomputable abbrev DT:=Loc→MH→KT→R
noncomputable abbrev DS:=Loc→MH→KS→R
noncomputable section
theorem Dg:∃f:(α:Type)→Option α→(α→R)→R,∀α o K,f α o K=o.bind K:=⟨λ_=>Option.bind,λ_ _ _=>rfl⟩
noncomputable def xO{α:Type}(o:Option α)(K:α→R):R:=Classical.choose Dg α o K
theorem ke{α:Type}(o:Option α)(K:α→R):xO o K=o.bind K:=Classical.choose_spec Dg α o K
theorem Df:∃f:Bool→R→R→R,∀b x y,f b x y=if b=true then x else y:=⟨_,λ_ _ _=>rfl⟩
noncomputable def xI(b:Bool)(x y:R):R:=Classical.choose Df b x y
theorem nS(b:Bool)(x y:R):xI b x y=if b=true then x else y:=Classical.choose_spec Df b x y
noncomputable def zO{α:Type}(o:Option α)(K:α→R):R:=o.bind K
noncomputable def tO(v:V)(H:MH)(K:Bool→R):R:=match v with
 |.bool b=>K b
 |.int i=>K (decide (i≠0))
 |v=>xO (truth v H) K
noncomputable def L_:Cm→Option (Int→Int→Bool)
 |.eq=>some λx y=>decide (x=y)
 |.ne=>some λx y=>!decide (x=y)
 |.lt=>some λx y=>decide (x<y)
 |.le=>some λx y=>decide (x≤y)
 |.gt=>some λx y=>decide (y<x)
 |.ge=>some λx y=>decide (y≤x)
 |_=>none
noncomputable def cO(op:Cm)(a b:V)(H:MH)(K:Bool→R):R:=match a,b,L_ op with
 |.int x,.int y,some p=>K (p x y)
 |_,_,_=>xO (cX op a b H) K
noncomputable def Mb:Op→Option (Int→Int→Int)
 |.add=>some λx y=>x+y
 |.sub=>some λx y=>x-y
 |.band=>some bM
 |.bor=>some fM
 |.bxor=>some iS
 |_=>none
noncomputable def iO(op:Op)(i j:Int)(K:Int→R):R:=match Mb op with
 |some f=>K (f i j)
 |none=>xO (binI op i j) K
noncomputable def ox:KS:=λr=>match r.1 with
 |.ret v=>some (v,r.2.2)
 |.bf=>some (.bW,r.2.2)
 |.cnt=>none
noncomputable def gj(H:MH)(K:KV)(v:V):R:=K (v,H)
noncomputable def qh(a:Nat)(K:KV):KV:=λr=>xO (bK r.1 a r.2) (gj r.2 K)
noncomputable def tR(v:V)(K:KV):KV:=λq=>xO (aJ v q.1 q.2) (gj q.2 K)
noncomputable def qr(i:DE)(ρ:Loc)(K:KV):KV:=λr=>i ρ r.2 (tR r.1 K)
noncomputable def Ei(H:MH)(K:KV)(z:Int):R:=K (.int z,H)
noncomputable def nk(op:Op)(v:V)(K:KV):KV:=λy=>match v,y.1 with
 |.int a,.int b=>iO op a b (Ei y.2 K)
 |v,u=>xO (nW op v u y.2) K
noncomputable def qi(op:Op)(r:DE)(ρ:Loc)(K:KV):KV:=λx=>r ρ x.2 (nk op x.1 K)
noncomputable def xR(K:KV):KV:=λr=>match r.1 with
 |.int i=>K (.int (-i),r.2)
 |_=>none
noncomputable def xG(K:KV):KV:=λr=>match r.1 with
 |.int i=>K (.int (-i-1),r.2)
 |_=>none
noncomputable def xU(H:MH)(K:KV)(b:Bool):R:=K (.bool !b,H)
noncomputable def xT(K:KV):KV:=λr=>tO r.1 r.2 (xU r.2 K)
noncomputable def xn(r:DE)(ρ:Loc)(v:V)(H:MH)(K:KV)(b:Bool):R:=xI b (r ρ H K) (K (v,H))
noncomputable def qf(r:DE)(ρ:Loc)(K:KV):KV:=λx=>tO x.1 x.2 (xn r ρ x.1 x.2 K)
noncomputable def Ek(r:DE)(ρ:Loc)(v:V)(H:MH)(K:KV)(b:Bool):R:=xI b (K (v,H)) (r ρ H K)
noncomputable def xV(r:DE)(ρ:Loc)(K:KV):KV:=λx=>tO x.1 x.2 (Ek r ρ x.1 x.2 K)
noncomputable def xy(H:MH)(K:KV)(b:Bool):R:=K (.bool b,H)
noncomputable def lL(op:Cm)(v:V)(K:KV):KV:=λy=>cO op v y.1 y.2 (xy y.2 K)
noncomputable def qk(op:Cm)(r:DE)(ρ:Loc)(K:KV):KV:=λx=>r ρ x.2 (lL op x.1 K)
noncomputable def ou(o2:Cm)(u:V)(c:DE)(ρ:Loc)(H:MH)(K:KV)(q:Bool):R:=xI q (c ρ H (lL o2 u K)) (K (.bool false,H))
noncomputable def kF(o1 o2:Cm)(v:V)(c:DE)(ρ:Loc)(K:KV):KV:=λy=>cO o1 v y.1 y.2 (ou o2 y.1 c ρ y.2 K)
noncomputable def jj(o1 o2:Cm)(b c:DE)(ρ:Loc)(K:KV):KV:=λx=>b ρ x.2 (kF o1 o2 x.1 c ρ K)
noncomputable def xH(a b:DE)(ρ:Loc)(H:MH)(K:KV)(q:Bool):R:=xI q (a ρ H K) (b ρ H K)
noncomputable def qn(a b:DE)(ρ:Loc)(K:KV):KV:=λx=>tO x.1 x.2 (xH a b ρ x.2 K)
noncomputable def tM(v:V)(K:KL):KL:=λq=>K (v::q.1,q.2)
noncomputable def xu(r:DL)(ρ:Loc)(K:KL):KV:=λx=>r ρ x.2 (tM x.1 K)
noncomputable def qj(d f:Nat)(K:KV):KL:=λr=>xO (ag PB d f r.1 r.2) K
noncomputable def xM(H:MH)(K:KV)(l:List V):R:=xI (aI l.length) (K (.int l.length,H)) none
noncomputable def xK(K:KV):KV:=λr=>match r.1 with
 |.ref n=>xO (aj r.2 n) (xM r.2 K)
 |_=>none
noncomputable def xl(K:KV):KV:=λr=>match r.1 with
 |.int i=>K (.int i.natAbs,r.2)
 |_=>none
noncomputable def xP(v:V)(K:KV):KV:=λy=>match v,y.1 with
 |.int i,.int j=>K (.int (if i<j then j else i),y.2)
 |_,_=>none
noncomputable def qo(r:DE)(ρ:Loc)(K:KV):KV:=λx=>r ρ x.2 (xP x.1 K)
noncomputable def xQ(v:V)(K:KV):KV:=λy=>match v,y.1 with
 |.int i,.int j=>K (.int (if j<i then j else i),y.2)
 |_,_=>none
noncomputable def qp(r:DE)(ρ:Loc)(K:KV):KV:=λx=>r ρ x.2 (xQ x.1 K)
noncomputable def xY(K:KV):KL:=λr=>xO (eA r.1) (gj r.2 K)
noncomputable def xt(n:Nat)(H:MH)(v:V)(K:KV)(l:List V):R:=xI (aI l.length) (K (.bW,H.set n (.lst (l++[v])))) none
noncomputable def tK(n:Nat)(K:KV):KV:=λq=>xO (aj q.2 n) (xt n q.2 q.1 K)
noncomputable def xq(x:DE)(ρ:Loc)(n:Nat)(H:MH)(K:KV)(_:List V):R:=x ρ H (tK n K)
noncomputable def qg(x:DE)(ρ:Loc)(K:KV):KV:=λr=>match r.1 with
 |.ref n=>xO (aj r.2 n) (xq x ρ n r.2 K)
 |_=>none
noncomputable def xZ(K:KV):KL:=λr=>K (.tup r.1,r.2)
noncomputable def xN(K:KV):KL:=λr=>K (.ref r.2.length,r.2++[.lst r.1])
noncomputable def sA(H:MH)(K:KV)(l:List V):R:=xI (aI l.length) (K (.ref H.length,H++[.lst l])) none
noncomputable def ql(K:KV):KV:=λr=>match r.1 with
 |.ref n=>xO (aj r.2 n) (sA r.2 K)
 |_=>none
noncomputable def Ee(cs:DT)(ρ:Loc)(H:MH)(K:KT)(b:Bool):R:=xI b (cs ρ H K) (K (false,H))
noncomputable def Gk(cs:DT)(ρ:Loc)(K:KT):KV:=λx=>tO x.1 x.2 (Ee cs ρ x.2 K)
noncomputable def k9(d:Nat)(elt:E)(k:Nat)(cs:List E)(ρ:Loc)(n:Nat)(v:V)(H1:MH):Option MH:=
 (fQ (Fd d) cs (aX ρ k v) H1).bind λq=>if q.1 then(ar (Fd d) elt (aX ρ k v) q.2).bind λx=>(aj x.2 n).bind λl=>if aI l.length then some (x.2.set n (.lst (l++[x.1])))else none else some q.2
noncomputable def lM(d:Nat)(elt:E)(k:Nat)(cs:List E)(ρ:Loc)(K:KV):KV:=λr=>
 (each (k9 d elt k cs ρ r.2.length) r.1 (r.2++[.lst []])).bind λH2=>K (.ref r.2.length,H2)
noncomputable def rE(d:Nat)(e:E):DE:=@E.rec (λ_=>DE) (λ_=>DL×DT)
 (λv ρ H K=>K (v,H))
 (λk ρ H K=>zO (getL ρ k) (gj H K))
 (λg ρ H K=>zO (PB.aV[g]?) (gj H K))
 (λ_ a x ρ H K=>x ρ H (qh a K))
 (λ_ _ x y ρ H K=>x ρ H (qr y ρ K))
 (λa b _ _ ρ H K=>xO (ar (Fd d) (.jv a b) ρ H) K)
 (λa b _ _ ρ H K=>xO (ar (Fd d) (.qZ a b) ρ H) K)
 (λ_ x ρ H K=>x ρ H (ql K))
 (λop _ _ x y ρ H K=>x ρ H (qi op y ρ K))
 (λ_ x ρ H K=>x ρ H (xR K))
 (λ_ x ρ H K=>x ρ H (xG K))
 (λ_ x ρ H K=>x ρ H (xT K))
 (λ_ _ x y ρ H K=>x ρ H (qf y ρ K))
 (λ_ _ x y ρ H K=>x ρ H (xV y ρ K))
 (λop _ _ x y ρ H K=>x ρ H (qk op y ρ K))
 (λo1 o2 _ _ _ x y z ρ H K=>x ρ H (jj o1 o2 y z ρ K))
 (λ_ _ _ x y z ρ H K=>x ρ H (qn y z ρ K))
 (λf _ x ρ H K=>x.1 ρ H (qj d f K))
 (λc as _ ρ H K=>xO (ar (Fd d) (.mk c as) ρ H) K)
 (λ_ x ρ H K=>x ρ H (xK K))
 (λ_ x ρ H K=>x ρ H (xl K))
 (λ_ _ x y ρ H K=>x ρ H (qo y ρ K))
 (λ_ _ x y ρ H K=>x ρ H (qp y ρ K))
 (λ_ x ρ H K=>x.1 ρ H (xY K))
 (λ_ _ x y ρ H K=>x ρ H (qg y ρ K))
 (λ_ x ρ H K=>x.1 ρ H (xZ K))
 (λ_ x ρ H K=>x.1 ρ H (xN K))
 (λelt k _ cs _ x _ ρ H K=>x ρ H (lM d elt k cs ρ K))
 (λρ H K=>K ([],H),λρ H K=>K (true,H))
 (λ_ _ x y=>(λρ H K=>x ρ H (xu y.1 ρ K),λρ H K=>x ρ H (Gk y.2 ρ K))) e
noncomputable def rP(d:Nat)(e:List E):DL×DT:=@E.rec_1 (λ_=>DE) (λ_=>DL×DT)
 (λv ρ H K=>K (v,H))
 (λk ρ H K=>zO (getL ρ k) (gj H K))
 (λg ρ H K=>zO (PB.aV[g]?) (gj H K))
 (λ_ a x ρ H K=>x ρ H (qh a K))
 (λ_ _ x y ρ H K=>x ρ H (qr y ρ K))
 (λa b _ _ ρ H K=>xO (ar (Fd d) (.jv a b) ρ H) K)
 (λa b _ _ ρ H K=>xO (ar (Fd d) (.qZ a b) ρ H) K)
 (λ_ x ρ H K=>x ρ H (ql K))
 (λop _ _ x y ρ H K=>x ρ H (qi op y ρ K))
 (λ_ x ρ H K=>x ρ H (xR K))
 (λ_ x ρ H K=>x ρ H (xG K))
 (λ_ x ρ H K=>x ρ H (xT K))
 (λ_ _ x y ρ H K=>x ρ H (qf y ρ K))
 (λ_ _ x y ρ H K=>x ρ H (xV y ρ K))
 (λop _ _ x y ρ H K=>x ρ H (qk op y ρ K))
 (λo1 o2 _ _ _ x y z ρ H K=>x ρ H (jj o1 o2 y z ρ K))
 (λ_ _ _ x y z ρ H K=>x ρ H (qn y z ρ K))
 (λf _ x ρ H K=>x.1 ρ H (qj d f K))
 (λc as _ ρ H K=>xO (ar (Fd d) (.mk c as) ρ H) K)
 (λ_ x ρ H K=>x ρ H (xK K))
 (λ_ x ρ H K=>x ρ H (xl K))
 (λ_ _ x y ρ H K=>x ρ H (qo y ρ K))
 (λ_ _ x y ρ H K=>x ρ H (qp y ρ K))
 (λ_ x ρ H K=>x.1 ρ H (xY K))
 (λ_ _ x y ρ H K=>x ρ H (qg y ρ K))
 (λ_ x ρ H K=>x.1 ρ H (xZ K))
 (λ_ x ρ H K=>x.1 ρ H (xN K))
 (λelt k _ cs _ x _ ρ H K=>x ρ H (lM d elt k cs ρ K))
 (λρ H K=>K ([],H),λρ H K=>K (true,H))
 (λ_ _ x y=>(λρ H K=>x ρ H (xu y.1 ρ K),λρ H K=>x ρ H (Gk y.2 ρ K))) e
noncomputable def xE(d:Nat)(e:E):DE:=rE d e
noncomputable def CA(d:Nat)(e:List E):DL:=(rP d e).1
noncomputable def z5(d:Nat)(e:List E):DT:=(rP d e).2
noncomputable def kB(b:DS)(K:KS):KS:=λr=>match r.1 with
 |.bf=>b r.2.1 r.2.2 K
 |f=>K (f,r.2.1,r.2.2)
noncomputable def eE(k:Nat)(ρ:Loc)(K:KS):KV:=λr=>K (.bf,aX ρ k r.1,r.2)
noncomputable def Ej(H:MH)(K:KS)(ρ:Loc):R:=K (.bf,ρ,H)
noncomputable def jk(ρ:Loc)(K:KS)(H:MH):R:=K (.bf,ρ,H)
noncomputable def qq(ks:List Nat)(ρ:Loc)(K:KS):KV:=λr=>zO (mL ks ρ r.1) (Ej r.2 K)
noncomputable def oy(a:Nat)(v:V)(ρ:Loc)(K:KS):KV:=λq=>xO (gV q.1 a v q.2) (jk ρ K)
noncomputable def lN(o:DE)(a:Nat)(ρ:Loc)(K:KS):KV:=λr=>o ρ r.2 (oy a r.1 ρ K)
noncomputable def oA(v u:V)(ρ:Loc)(K:KS):KV:=λp=>xO (dX u p.1 v p.2) (jk ρ K)
noncomputable def oz(v:V)(i:DE)(ρ:Loc)(K:KS):KV:=λq=>i ρ q.2 (oA v q.1 ρ K)
noncomputable def lO(o i:DE)(ρ:Loc)(K:KS):KV:=λr=>o ρ r.2 (oz r.1 i ρ K)
noncomputable def gi(k:Nat)(ρ:Loc)(H:MH)(K:KS)(z:Int):R:=K (.bf,aX ρ k (.int z),H)
noncomputable def fz(k:Nat)(op:Op)(v:V)(ρ:Loc)(K:KS):KV:=λr=>match v,r.1 with
 |.int x,.int y=>iO op x y (gi k ρ r.2 K)
 |_,_=>none
noncomputable def tL(k:Nat)(op:Op)(e:DE)(ρ:Loc)(H:MH)(K:KS)(v:V):R:=e ρ H (fz k op v ρ K)
noncomputable def sz(w u:V)(ρ:Loc)(H:MH)(K:KS)(z:Int):R:=xO (dX w u (.int z) H) (jk ρ K)
noncomputable def ot(w u:V)(op:Op)(v:V)(ρ:Loc)(K:KS):KV:=λq=>match v,q.1 with
 |.int x,.int y=>iO op x y (sz w u ρ q.2 K)
 |_,_=>none
noncomputable def su(w u:V)(op:Op)(e:DE)(ρ:Loc)(H:MH)(K:KS)(v:V):R:=e ρ H (ot w u op v ρ K)
noncomputable def oq(w:V)(op:Op)(e:DE)(ρ:Loc)(K:KS):KV:=λp=>xO (aJ w p.1 p.2) (su w p.1 op e ρ p.2 K)
noncomputable def lJ(i:DE)(op:Op)(e:DE)(ρ:Loc)(K:KS):KV:=λr=>i ρ r.2 (oq r.1 op e ρ K)
noncomputable def sr(w:V)(a:Nat)(ρ:Loc)(H:MH)(K:KS)(z:Int):R:=xO (gV w a (.int z) H) (jk ρ K)
noncomputable def om(w:V)(a:Nat)(op:Op)(v:V)(ρ:Loc)(K:KS):KV:=λq=>match v,q.1 with
 |.int x,.int y=>iO op x y (sr w a ρ q.2 K)
 |_,_=>none
noncomputable def sq(w:V)(a:Nat)(op:Op)(e:DE)(ρ:Loc)(H:MH)(K:KS)(v:V):R:=e ρ H (om w a op v ρ K)
noncomputable def lI(a:Nat)(op:Op)(e:DE)(ρ:Loc)(K:KS):KV:=λr=>xO (bK r.1 a r.2) (sq r.1 a op e ρ r.2 K)
noncomputable def xA(ρ:Loc)(K:KS):KV:=λr=>match r.1 with
 |.bW=>K (.bf,ρ,r.2)
 |_=>none
noncomputable def xX(ρ:Loc)(K:KS):KV:=λr=>K (.ret r.1,ρ,r.2)
noncomputable def Eh(a b:DS)(ρ:Loc)(H:MH)(K:KS)(q:Bool):R:=xI q (a ρ H K) (b ρ H K)
noncomputable def xD(a b:DS)(ρ:Loc)(K:KS):KV:=λx=>tO x.1 x.2 (Eh a b ρ x.2 K)
noncomputable def kFor(x:DS)(K:KS):KS:=λr=>match r.1 with
 |.ret v=>K (.ret v,r.2.1,r.2.2)
 |_=>x r.2.1 r.2.2 K
noncomputable def rW(t:DE)(b:DS)(g:Nat):DS:=@Nat.rec (λ_=>DS) (λ_ _ _=>none)
 (λ_ x ρ H K=>t ρ H λy=>tO y.1 y.2 λq=>xI q (b ρ y.2 (kFor x K)) (K (.bf,ρ,y.2))) g
noncomputable def B1(k:Nat)(b:DS)(l:List V):DS:=@List.rec V (λ_=>DS) (λρ H K=>K (.bf,ρ,H))
 (λv _ x ρ H K=>b (aX ρ k v) H (kFor x K)) l
noncomputable def rL(put:Loc→V→Option Loc)(b:DS)(n:Nat)(g:Nat):Nat→DS:=@Nat.rec (λ_=>Nat→DS) (λ_ _ _ _=>none)
 (λ_ x i ρ H K=>xO (aj H n) λl=>match l[i]? with
  |none=>K (.bf,ρ,H)
  |some v=>zO (put ρ v) λρ=>b ρ H (kFor (x (i+1)) K)) g
noncomputable def Ef(k:Nat)(b:DS)(ρ:Loc)(K:KS):KV:=λr=>match r.1 with
 |.ref n=>xO (aj r.2 n) λl=>rL (λρ v=>some (aX ρ k v)) b n (l.length+1) 0 ρ r.2 K
 |.tup l=>B1 k b l ρ r.2 K
 |.bQ a c e=>xO (dc a c e) λl=>B1 k b l ρ r.2 K
 |_=>none
noncomputable def xC(ks:List Nat)(b:DS)(ρ:Loc)(K:KS):KV:=λr=>match r.1 with
 |.ref n=>xO (aj r.2 n) λl=>rL (mL ks) b n (l.length+1) 0 ρ r.2 K
 |_=>none
noncomputable def rS(d:Nat)(s:S):DS:=@S.rec (λ_=>DS) (λ_=>DS)
 (λk e ρ H K=>xE d e ρ H (eE k ρ K))
 (λks e ρ H K=>xE d e ρ H (qq ks ρ K))
 (λo a e ρ H K=>xE d e ρ H (lN (xE d o) a ρ K))
 (λo i e ρ H K=>xE d e ρ H (lO (xE d o) (xE d i) ρ K))
 (λk op e ρ H K=>zO (getL ρ k) (tL k op (xE d e) ρ H K))
 (λo a op e ρ H K=>xE d o ρ H (lI a op (xE d e) ρ K))
 (λo i op e ρ H K=>xE d o ρ H (lJ (xE d i) op (xE d e) ρ K))
 (λe ρ H K=>xE d e ρ H (xA ρ K))
 (λe ρ H K=>xE d e ρ H (xX ρ K))
 (λt _ _ a b ρ H K=>xE d t ρ H (xD a b ρ K))
 (λt _ b ρ H K=>rW (xE d t) b turns ρ H K)
 (λk e _ b ρ H K=>xE d e ρ H (Ef k b ρ K))
 (λks e _ b ρ H K=>xE d e ρ H (xC ks b ρ K))
 (λρ H K=>K (.cnt,ρ,H))
 (λ_ _ _=>none)
 (λρ H K=>K (.bf,ρ,H))
 (λ_ _ x y ρ H K=>x ρ H (kB y K)) s
noncomputable def rB(d:Nat)(s:List S):DS:=@S.rec_1 (λ_=>DS) (λ_=>DS)
 (λk e ρ H K=>xE d e ρ H (eE k ρ K))
 (λks e ρ H K=>xE d e ρ H (qq ks ρ K))
 (λo a e ρ H K=>xE d e ρ H (lN (xE d o) a ρ K))
 (λo i e ρ H K=>xE d e ρ H (lO (xE d o) (xE d i) ρ K))
 (λk op e ρ H K=>zO (getL ρ k) (tL k op (xE d e) ρ H K))
 (λo a op e ρ H K=>xE d o ρ H (lI a op (xE d e) ρ K))
 (λo i op e ρ H K=>xE d o ρ H (lJ (xE d i) op (xE d e) ρ K))
 (λe ρ H K=>xE d e ρ H (xA ρ K))
 (λe ρ H K=>xE d e ρ H (xX ρ K))
 (λt _ _ a b ρ H K=>xE d t ρ H (xD a b ρ K))
 (λt _ b ρ H K=>rW (xE d t) b turns ρ H K)
 (λk e _ b ρ H K=>xE d e ρ H (Ef k b ρ K))
 (λks e _ b ρ H K=>xE d e ρ H (xC ks b ρ K))
 (λρ H K=>K (.cnt,ρ,H))
 (λ_ _ _=>none)
 (λρ H K=>K (.bf,ρ,H))
 (λ_ _ x y ρ H K=>x ρ H (kB y K)) s
noncomputable def xS(d:Nat)(s:S):DS:=rS d s
noncomputable def xB(d:Nat)(b:List S):DS:=rB d b
noncomputable def cj(d k:Nat)(b:List S)(l:List V):DS:=B1 k (xB d b) l
noncomputable def iw(d k:Nat)(b:List S)(n g i:Nat):DS:=rL (λρ v=>some (aX ρ k v)) (xB d b) n g i
noncomputable def FT(d:Nat)(ks:List Nat)(b:List S)(n g i:Nat):DS:=rL (mL ks) (xB d b) n g i
noncomputable def xJ(d k:Nat)(b:List S)(ρ:Loc)(H:MH)(K:KS)(l:List V):R:=cj d k b l ρ H K
noncomputable def tQ(d k:Nat)(b:List S)(n:Nat)(ρ:Loc)(H:MH)(K:KS)(l:List V):R:=iw d k b n (l.length+1) 0 ρ H K
noncomputable def HS(d:Nat)(ks:List Nat)(b:List S)(n:Nat)(ρ:Loc)(H:MH)(K:KS)(l:List V):R:=FT d ks b n (l.length+1) 0 ρ H K
noncomputable def xW(d:Nat)(t:E)(b:List S)(g:Nat):DS:=rW (xE d t) (xB d b) g
noncomputable def Mg(d:Nat)(t:E)(b:List S)(g:Nat)(ρ:Loc)(H:MH)(K:KS)(q:Bool):R:=xI q (xB d b ρ H (kFor (xW d t b g) K)) (K (.bf,ρ,H))
noncomputable def kW(d:Nat)(t:E)(b:List S)(g:Nat)(ρ:Loc)(K:KS):KV:=λx=>tO x.1 x.2 (Mg d t b g ρ x.2 K)
end
/-! ## slots by number -/
section
variable {d:Nat} {ρ:Loc} {H:MH} {K:KV} {Z:KS} {v w:V} {z:Int} {op:Op} {e:E} {bs:List S} {l:List V}
theorem R7:xE d (.aV 0) ρ H K=K ((.int 0),H):=rfl
theorem R8:xE d (.aV 1) ρ H K=K ((.int 1),H):=rfl
theorem R9:xE d (.aV 2) ρ H K=K ((.int 0),H):=rfl
theorem R_:xE d (.aV 3) ρ H K=K ((.int 1),H):=rfl
theorem Sa:xE d (.aV 4) ρ H K=K ((.int 2),H):=rfl
theorem Sb:xE d (.aV 5) ρ H K=K ((.int 3),H):=rfl
theorem Sd:xE d (.aV 6) ρ H K=K ((.int 4),H):=rfl
theorem Se:xE d (.aV 7) ρ H K=K ((.int 5),H):=rfl
theorem Sf:xE d (.aV 8) ρ H K=K ((.int 6),H):=rfl
theorem Sh:xE d (.aV 9) ρ H K=K ((.int 0),H):=rfl
theorem QW:xE d (.aV 10) ρ H K=K ((.int 0),H):=rfl
theorem QX:xE d (.aV 11) ρ H K=K ((.int 1),H):=rfl
theorem QY:xE d (.aV 12) ρ H K=K ((.int 2),H):=rfl
theorem QZ:xE d (.aV 13) ρ H K=K ((.int 3),H):=rfl
theorem Q0:xE d (.aV 14) ρ H K=K ((.tup [.int 0,.int 1,.int 0,.int (-1),.int 1,.int 1,.int (-1),.int (-1)]),H):=rfl
theorem Q2:xE d (.aV 15) ρ H K=K ((.tup [.int 1,.int 0,.int (-1),.int 0,.int 1,.int (-1),.int (-1),.int 1]),H):=rfl
theorem Q3:xE d (.aV 16) ρ H K=K ((.int 0),H):=rfl
theorem Q4:xE d (.aV 17) ρ H K=K ((.int 1),H):=rfl
theorem Q5:xE d (.aV 18) ρ H K=K ((.int 2),H):=rfl
theorem Q6:xE d (.aV 19) ρ H K=K ((.int 3),H):=rfl
theorem Q7:xE d (.aV 20) ρ H K=K ((.int 4),H):=rfl
theorem Q8:xE d (.aV 21) ρ H K=K ((.int 5),H):=rfl
theorem Q9:xE d (.aV 22) ρ H K=K ((.int 6),H):=rfl
theorem Q_:xE d (.aV 23) ρ H K=K ((.int 0),H):=rfl
theorem Ra:xE d (.aV 24) ρ H K=K ((.int 1),H):=rfl
theorem Rb:xE d (.aV 25) ρ H K=K ((.int 2),H):=rfl
theorem Rc:xE d (.aV 26) ρ H K=K ((.int 3),H):=rfl
theorem Rd:xE d (.aV 27) ρ H K=K ((.int 4),H):=rfl
theorem Rf:xE d (.aV 28) ρ H K=K ((.int 5),H):=rfl
theorem Rg:xE d (.aV 29) ρ H K=K ((.int 6),H):=rfl
theorem Rh:xE d (.aV 30) ρ H K=K ((.int 7),H):=rfl
theorem Ri:xE d (.aV 31) ρ H K=K ((.tup [.tup [.int 4,.int 5,.int 1,.int 0],.tup [.int 8,.int 3,.int 0,.int 1],.tup [.int 5,.int 5,.int 1,.int 0],.tup [.int 6,.int 3,.int 0,.int 1],.tup [.int 3,.int 5,.int 1,.int 0],.tup [.int 4,.int 5,.int 0,.int 0]]),H):=rfl
variable {a0 a1 a2 a3 a4 a5 a6 a7 a8 a9 eX fK gy ia kh ky mH pg q8 zY Dh Jq KA x:Option V}
theorem RM:xE d (.l 0) (some v::ρ) H K=K (v,H):=rfl
theorem Rl:gi 0 (x::ρ) H Z z=Z (.bf,some (.int z)::ρ,H):=rfl
theorem RE:xS d (.aug 0 op e) (some v::ρ) H Z=xE d e (some v::ρ) H (fz 0 op v (some v::ρ) Z):=rfl
theorem RN:xE d (.l 1) (a0::some v::ρ) H K=K (v,H):=rfl
theorem RY:eE 1 (a0::x::ρ) Z (v,H)=Z (.bf,a0::some v::ρ,H):=rfl
theorem Rm:gi 1 (a0::x::ρ) H Z z=Z (.bf,a0::some (.int z)::ρ,H):=rfl
theorem RF:xS d (.aug 1 op e) (a0::some v::ρ) H Z=xE d e (a0::some v::ρ) H (fz 1 op v (a0::some v::ρ) Z):=rfl
theorem Ru:cj d 1 bs (v::l) (a0::x::ρ) H Z=xB d bs (a0::some v::ρ) H (kFor (cj d 1 bs l) Z):=rfl
theorem RO:xE d (.l 2) (a0::a1::some v::ρ) H K=K (v,H):=rfl
theorem RZ:eE 2 (a0::a1::x::ρ) Z (v,H)=Z (.bf,a0::a1::some v::ρ,H):=rfl
theorem Rn:gi 2 (a0::a1::x::ρ) H Z z=Z (.bf,a0::a1::some (.int z)::ρ,H):=rfl
theorem RG:xS d (.aug 2 op e) (a0::a1::some v::ρ) H Z=xE d e (a0::a1::some v::ρ) H (fz 2 op v (a0::a1::some v::ρ) Z):=rfl
theorem Rv:cj d 2 bs (v::l) (a0::a1::x::ρ) H Z=xB d bs (a0::a1::some v::ρ) H (kFor (cj d 2 bs l) Z):=rfl
theorem RP:xE d (.l 3) (a0::a1::a2::some v::ρ) H K=K (v,H):=rfl
theorem R0:eE 3 (a0::a1::a2::x::ρ) Z (v,H)=Z (.bf,a0::a1::a2::some v::ρ,H):=rfl
theorem Ro:gi 3 (a0::a1::a2::x::ρ) H Z z=Z (.bf,a0::a1::a2::some (.int z)::ρ,H):=rfl
theorem RH:xS d (.aug 3 op e) (a0::a1::a2::some v::ρ) H Z=xE d e (a0::a1::a2::some v::ρ) H (fz 3 op v (a0::a1::a2::some v::ρ) Z):=rfl
theorem Rx:cj d 3 bs (v::l) (a0::a1::a2::x::ρ) H Z=xB d bs (a0::a1::a2::some v::ρ) H (kFor (cj d 3 bs l) Z):=rfl
theorem RQ:xE d (.l 4) (a0::a1::a2::a3::some v::ρ) H K=K (v,H):=rfl
theorem R1:eE 4 (a0::a1::a2::a3::x::ρ) Z (v,H)=Z (.bf,a0::a1::a2::a3::some v::ρ,H):=rfl
theorem Rp:gi 4 (a0::a1::a2::a3::x::ρ) H Z z=Z (.bf,a0::a1::a2::a3::some (.int z)::ρ,H):=rfl
theorem RI:xS d (.aug 4 op e) (a0::a1::a2::a3::some v::ρ) H Z=xE d e (a0::a1::a2::a3::some v::ρ) H (fz 4 op v (a0::a1::a2::a3::some v::ρ) Z):=rfl
theorem Ry:cj d 4 bs (v::l) (a0::a1::a2::a3::x::ρ) H Z=xB d bs (a0::a1::a2::a3::some v::ρ) H (kFor (cj d 4 bs l) Z):=rfl
theorem RT:xE d (.l 5) (a0::a1::a2::a3::a4::some v::ρ) H K=K (v,H):=rfl
theorem R2:eE 5 (a0::a1::a2::a3::a4::x::ρ) Z (v,H)=Z (.bf,a0::a1::a2::a3::a4::some v::ρ,H):=rfl
theorem Rq:gi 5 (a0::a1::a2::a3::a4::x::ρ) H Z z=Z (.bf,a0::a1::a2::a3::a4::some (.int z)::ρ,H):=rfl
theorem RJ:xS d (.aug 5 op e) (a0::a1::a2::a3::a4::some v::ρ) H Z=xE d e (a0::a1::a2::a3::a4::some v::ρ) H (fz 5 op v (a0::a1::a2::a3::a4::some v::ρ) Z):=rfl
theorem Rz:cj d 5 bs (v::l) (a0::a1::a2::a3::a4::x::ρ) H Z=xB d bs (a0::a1::a2::a3::a4::some v::ρ) H (kFor (cj d 5 bs l) Z):=rfl
theorem RU:xE d (.l 6) (a0::a1::a2::a3::a4::a5::some v::ρ) H K=K (v,H):=rfl
theorem R3:eE 6 (a0::a1::a2::a3::a4::a5::x::ρ) Z (v,H)=Z (.bf,a0::a1::a2::a3::a4::a5::some v::ρ,H):=rfl
theorem Rr:gi 6 (a0::a1::a2::a3::a4::a5::x::ρ) H Z z=Z (.bf,a0::a1::a2::a3::a4::a5::some (.int z)::ρ,H):=rfl
theorem RK:xS d (.aug 6 op e) (a0::a1::a2::a3::a4::a5::some v::ρ) H Z=xE d e (a0::a1::a2::a3::a4::a5::some v::ρ) H (fz 6 op v (a0::a1::a2::a3::a4::a5::some v::ρ) Z):=rfl
theorem RA:cj d 6 bs (v::l) (a0::a1::a2::a3::a4::a5::x::ρ) H Z=xB d bs (a0::a1::a2::a3::a4::a5::some v::ρ) H (kFor (cj d 6 bs l) Z):=rfl
theorem RV:xE d (.l 7) (a0::a1::a2::a3::a4::a5::a6::some v::ρ) H K=K (v,H):=rfl
theorem R4:eE 7 (a0::a1::a2::a3::a4::a5::a6::x::ρ) Z (v,H)=Z (.bf,a0::a1::a2::a3::a4::a5::a6::some v::ρ,H):=rfl
theorem RB:cj d 7 bs (v::l) (a0::a1::a2::a3::a4::a5::a6::x::ρ) H Z=xB d bs (a0::a1::a2::a3::a4::a5::a6::some v::ρ) H (kFor (cj d 7 bs l) Z):=rfl
theorem RW:xE d (.l 8) (a0::a1::a2::a3::a4::a5::a6::a7::some v::ρ) H K=K (v,H):=rfl
theorem R5:eE 8 (a0::a1::a2::a3::a4::a5::a6::a7::x::ρ) Z (v,H)=Z (.bf,a0::a1::a2::a3::a4::a5::a6::a7::some v::ρ,H):=rfl
theorem RC:cj d 8 bs (v::l) (a0::a1::a2::a3::a4::a5::a6::a7::x::ρ) H Z=xB d bs (a0::a1::a2::a3::a4::a5::a6::a7::some v::ρ) H (kFor (cj d 8 bs l) Z):=rfl
theorem RX:xE d (.l 9) (a0::a1::a2::a3::a4::a5::a6::a7::a8::some v::ρ) H K=K (v,H):=rfl
theorem R6:eE 9 (a0::a1::a2::a3::a4::a5::a6::a7::a8::x::ρ) Z (v,H)=Z (.bf,a0::a1::a2::a3::a4::a5::a6::a7::a8::some v::ρ,H):=rfl
theorem Rt:gi 9 (a0::a1::a2::a3::a4::a5::a6::a7::a8::x::ρ) H Z z=Z (.bf,a0::a1::a2::a3::a4::a5::a6::a7::a8::some (.int z)::ρ,H):=rfl
theorem RL:xS d (.aug 9 op e) (a0::a1::a2::a3::a4::a5::a6::a7::a8::some v::ρ) H Z=xE d e (a0::a1::a2::a3::a4::a5::a6::a7::a8::some v::ρ) H (fz 9 op v (a0::a1::a2::a3::a4::a5::a6::a7::a8::some v::ρ) Z):=rfl
theorem RD:cj d 9 bs (v::l) (a0::a1::a2::a3::a4::a5::a6::a7::a8::x::ρ) H Z=xB d bs (a0::a1::a2::a3::a4::a5::a6::a7::a8::some v::ρ) H (kFor (cj d 9 bs l) Z):=rfl
theorem Qy:xE d (.l 10) (a0::a1::a2::a3::a4::a5::a6::a7::a8::a9::some v::ρ) H K=K (v,H):=rfl
theorem QM:eE 10 (a0::a1::a2::a3::a4::a5::a6::a7::a8::a9::x::ρ) Z (v,H)=Z (.bf,a0::a1::a2::a3::a4::a5::a6::a7::a8::a9::some v::ρ,H):=rfl
theorem Qz:xE d (.l 11) (a0::a1::a2::a3::a4::a5::a6::a7::a8::a9::eX::some v::ρ) H K=K (v,H):=rfl
theorem QN:eE 11 (a0::a1::a2::a3::a4::a5::a6::a7::a8::a9::eX::x::ρ) Z (v,H)=Z (.bf,a0::a1::a2::a3::a4::a5::a6::a7::a8::a9::eX::some v::ρ,H):=rfl
theorem Qu:cj d 11 bs (v::l) (a0::a1::a2::a3::a4::a5::a6::a7::a8::a9::eX::x::ρ) H Z=xB d bs (a0::a1::a2::a3::a4::a5::a6::a7::a8::a9::eX::some v::ρ) H (kFor (cj d 11 bs l) Z):=rfl
theorem QA:xE d (.l 12) (a0::a1::a2::a3::a4::a5::a6::a7::a8::a9::eX::fK::some v::ρ) H K=K (v,H):=rfl
theorem QO:eE 12 (a0::a1::a2::a3::a4::a5::a6::a7::a8::a9::eX::fK::x::ρ) Z (v,H)=Z (.bf,a0::a1::a2::a3::a4::a5::a6::a7::a8::a9::eX::fK::some v::ρ,H):=rfl
theorem QB:xE d (.l 13) (a0::a1::a2::a3::a4::a5::a6::a7::a8::a9::eX::fK::gy::some v::ρ) H K=K (v,H):=rfl
theorem QP:eE 13 (a0::a1::a2::a3::a4::a5::a6::a7::a8::a9::eX::fK::gy::x::ρ) Z (v,H)=Z (.bf,a0::a1::a2::a3::a4::a5::a6::a7::a8::a9::eX::fK::gy::some v::ρ,H):=rfl
theorem QC:xE d (.l 14) (a0::a1::a2::a3::a4::a5::a6::a7::a8::a9::eX::fK::gy::ia::some v::ρ) H K=K (v,H):=rfl
theorem QQ:eE 14 (a0::a1::a2::a3::a4::a5::a6::a7::a8::a9::eX::fK::gy::ia::x::ρ) Z (v,H)=Z (.bf,a0::a1::a2::a3::a4::a5::a6::a7::a8::a9::eX::fK::gy::ia::some v::ρ,H):=rfl
theorem Qt:gi 14 (a0::a1::a2::a3::a4::a5::a6::a7::a8::a9::eX::fK::gy::ia::x::ρ) H Z z=Z (.bf,a0::a1::a2::a3::a4::a5::a6::a7::a8::a9::eX::fK::gy::ia::some (.int z)::ρ,H):=rfl
theorem Qx:xS d (.aug 14 op e) (a0::a1::a2::a3::a4::a5::a6::a7::a8::a9::eX::fK::gy::ia::some v::ρ) H Z=xE d e (a0::a1::a2::a3::a4::a5::a6::a7::a8::a9::eX::fK::gy::ia::some v::ρ) H (fz 14 op v (a0::a1::a2::a3::a4::a5::a6::a7::a8::a9::eX::fK::gy::ia::some v::ρ) Z):=rfl
theorem QD:xE d (.l 15) (a0::a1::a2::a3::a4::a5::a6::a7::a8::a9::eX::fK::gy::ia::kh::some v::ρ) H K=K (v,H):=rfl
theorem Qv:cj d 15 bs (v::l) (a0::a1::a2::a3::a4::a5::a6::a7::a8::a9::eX::fK::gy::ia::kh::x::ρ) H Z=xB d bs (a0::a1::a2::a3::a4::a5::a6::a7::a8::a9::eX::fK::gy::ia::kh::some v::ρ) H (kFor (cj d 15 bs l) Z):=rfl
theorem QE:xE d (.l 16) (a0::a1::a2::a3::a4::a5::a6::a7::a8::a9::eX::fK::gy::ia::kh::ky::some v::ρ) H K=K (v,H):=rfl
theorem QR:eE 16 (a0::a1::a2::a3::a4::a5::a6::a7::a8::a9::eX::fK::gy::ia::kh::ky::x::ρ) Z (v,H)=Z (.bf,a0::a1::a2::a3::a4::a5::a6::a7::a8::a9::eX::fK::gy::ia::kh::ky::some v::ρ,H):=rfl
theorem QF:xE d (.l 17) (a0::a1::a2::a3::a4::a5::a6::a7::a8::a9::eX::fK::gy::ia::kh::ky::mH::some v::ρ) H K=K (v,H):=rfl
theorem QS:eE 17 (a0::a1::a2::a3::a4::a5::a6::a7::a8::a9::eX::fK::gy::ia::kh::ky::mH::x::ρ) Z (v,H)=Z (.bf,a0::a1::a2::a3::a4::a5::a6::a7::a8::a9::eX::fK::gy::ia::kh::ky::mH::some v::ρ,H):=rfl
theorem QG:xE d (.l 18) (a0::a1::a2::a3::a4::a5::a6::a7::a8::a9::eX::fK::gy::ia::kh::ky::mH::pg::some v::ρ) H K=K (v,H):=rfl
theorem QT:eE 18 (a0::a1::a2::a3::a4::a5::a6::a7::a8::a9::eX::fK::gy::ia::kh::ky::mH::pg::x::ρ) Z (v,H)=Z (.bf,a0::a1::a2::a3::a4::a5::a6::a7::a8::a9::eX::fK::gy::ia::kh::ky::mH::pg::some v::ρ,H):=rfl
theorem QH:xE d (.l 19) (a0::a1::a2::a3::a4::a5::a6::a7::a8::a9::eX::fK::gy::ia::kh::ky::mH::pg::q8::some v::ρ) H K=K (v,H):=rfl
theorem QU:eE 19 (a0::a1::a2::a3::a4::a5::a6::a7::a8::a9::eX::fK::gy::ia::kh::ky::mH::pg::q8::x::ρ) Z (v,H)=Z (.bf,a0::a1::a2::a3::a4::a5::a6::a7::a8::a9::eX::fK::gy::ia::kh::ky::mH::pg::q8::some v::ρ,H):=rfl
theorem QI:xE d (.l 20) (a0::a1::a2::a3::a4::a5::a6::a7::a8::a9::eX::fK::gy::ia::kh::ky::mH::pg::q8::zY::some v::ρ) H K=K (v,H):=rfl
theorem QV:eE 20 (a0::a1::a2::a3::a4::a5::a6::a7::a8::a9::eX::fK::gy::ia::kh::ky::mH::pg::q8::zY::x::ρ) Z (v,H)=Z (.bf,a0::a1::a2::a3::a4::a5::a6::a7::a8::a9::eX::fK::gy::ia::kh::ky::mH::pg::q8::zY::some v::ρ,H):=rfl
theorem QJ:xE d (.l 21) (a0::a1::a2::a3::a4::a5::a6::a7::a8::a9::eX::fK::gy::ia::kh::ky::mH::pg::q8::zY::Dh::some v::ρ) H K=K (v,H):=rfl
theorem Qw:cj d 21 bs (v::l) (a0::a1::a2::a3::a4::a5::a6::a7::a8::a9::eX::fK::gy::ia::kh::ky::mH::pg::q8::zY::Dh::x::ρ) H Z=xB d bs (a0::a1::a2::a3::a4::a5::a6::a7::a8::a9::eX::fK::gy::ia::kh::ky::mH::pg::q8::zY::Dh::some v::ρ) H (kFor (cj d 21 bs l) Z):=rfl
theorem QK:xE d (.l 22) (a0::a1::a2::a3::a4::a5::a6::a7::a8::a9::eX::fK::gy::ia::kh::ky::mH::pg::q8::zY::Dh::Jq::some v::ρ) H K=K (v,H):=rfl
theorem QL:xE d (.l 23) (a0::a1::a2::a3::a4::a5::a6::a7::a8::a9::eX::fK::gy::ia::kh::ky::mH::pg::q8::zY::Dh::Jq::KA::some v::ρ) H K=K (v,H):=rfl
end
/-! ## the evaluator's steps: each by its bare definition -/
section
variable (d:Nat) (ρ:Loc) (H:MH) (K:KV) (L:KL) (Z:KS) (v u w:V) (b:Bool) (x y:R) (op:Op) (cm c2:Cm) (X Y:DE) (XS YS:DS) (a k n f:Nat) (i j z:Int) (e e1 e2 e3:E) (es:List E) (bs bt:List S) (l:List V)
theorem CB{α:Type}(a:α)(K:α→R):xO (some a) K=K a:=ke _ _
theorem aA:xI true x y=x:=nS _ _ _
theorem au:xI false x y=y:=nS _ _ _
theorem qT(b c:Bool):xI (b||c) x y=xI b x (xI c x y):=by cases b<;>simp only[Bool.true_or,Bool.false_or,aA,au]
theorem jU(b c:Bool):xI (b&&c) x y=xI b (xI c x y) y:=by cases b<;>simp only[Bool.true_and,Bool.false_and,aA,au]
theorem fo(b:Bool):xI (!b) x y=xI b y x:=by cases b<;>simp only[Bool.not_true,Bool.not_false,aA,au]
theorem kc(b:Bool)(z:R):xI b (xI b x y) z=xI b x z:=by cases b<;>simp only[aA,au]
theorem kb(b:Bool)(z:R):xI b x (xI b y z)=xI b x z:=by cases b<;>simp only[aA,au]
theorem PG:decide ((0:Int)≠0)=false:=rfl
theorem PH:decide ((1:Int)≠0)=true:=rfl
theorem Qq{b:Bool}(h:b=true):xI b x y=x:=h▸aA x y
theorem Qp{b:Bool}(h:b=false):xI b x y=y:=h▸au x y
theorem Kq{α:Type}(a:α)(K:α→R):zO (some a) K=K a:=rfl
theorem Qm(K:Bool→R):tO (.bool b) H K=K b:=rfl
theorem Qn(K:Bool→R):tO (.int i) H K=K (decide (i≠0)):=rfl
theorem Qo(K:Bool→R):tO (.ref n) H K=xO (truth (.ref n) H) K:=rfl
theorem Np(K:Bool→R):cO .eq (.int i) (.int j) H K=K (decide (i=j)):=rfl
theorem Nx(K:Bool→R):cO .ne (.int i) (.int j) H K=K !(decide (i=j)):=rfl
theorem Nw(K:Bool→R):cO .lt (.int i) (.int j) H K=K (decide (i<j)):=rfl
theorem Nv(K:Bool→R):cO .le (.int i) (.int j) H K=K (decide (i≤j)):=rfl
theorem Nr(K:Bool→R):cO .gt (.int i) (.int j) H K=K (decide (j<i)):=rfl
theorem Nq(K:Bool→R):cO .ge (.int i) (.int j) H K=K (decide (j≤i)):=rfl
theorem Nn(b':Bool)(K:Bool→R):cO cm (.bool b) (.bool b') H K=xO (cX cm (.bool b) (.bool b') H) K:=rfl
theorem Ny(m:Nat)(K:Bool→R):cO cm (.ref n) (.ref m) H K=xO (cX cm (.ref n) (.ref m) H) K:=rfl
theorem Nu(K:Bool→R):cO .F7 v .bW H K=xO (cX .F7 v .bW H) K:=by cases v<;>rfl
theorem KQ(K:Bool→R):cO .F8 v .bW H K=xO (cX .F8 v .bW H) K:=by cases v<;>rfl
theorem Nt(K:Bool→R):cO .JM v u H K=xO (cX .JM v u H) K:=by cases v<;>cases u<;>rfl
theorem KR(K:Bool→R):cO .BJ v u H K=xO (cX .BJ v u H) K:=by cases v<;>cases u<;>rfl
theorem LY(K:Int→R):iO .add i j K=K (i+j):=rfl
theorem L6(K:Int→R):iO .sub i j K=K (i-j):=rfl
theorem LZ(K:Int→R):iO .band i j K=K (bM i j):=rfl
theorem NI(K:Int→R):iO .bor i j K=K (fM i j):=rfl
theorem L7(K:Int→R):iO .bxor i j K=K (iS i j):=rfl
theorem L4(K:Int→R):iO .shl i j K=xO (binI .shl i j) K:=rfl
theorem L5(K:Int→R):iO .shr i j K=xO (binI .shr i j) K:=rfl
theorem L3(K:Int→R):iO .mul i j K=xO (binI .mul i j) K:=rfl
theorem L1(K:Int→R):iO .bX i j K=xO (binI .bX i j) K:=rfl
theorem L2(K:Int→R):iO .mod i j K=xO (binI .mod i j) K:=rfl
theorem gL:ox (.ret v,ρ,H)=some (v,H):=rfl
theorem HT:ox (.bf,ρ,H)=some (.bW,H):=rfl
theorem Ow:xE d (.c v) ρ H K=K (v,H):=rfl
theorem HV:gj H K v=K (v,H):=rfl
theorem Nc:xE d (.l k) ρ H K=zO (getL ρ k) (gj H K):=rfl
theorem HD:qh a K (v,H)=xO (bK v a H) (gj H K):=rfl
theorem M_:xE d (.attr e a) ρ H K=xE d e ρ H (qh a K):=rfl
theorem Ia:qr X ρ K (v,H)=X ρ H (tR v K):=rfl
theorem Ib:tR v K (u,H)=xO (aJ v u H) (gj H K):=rfl
theorem OH:xE d (.sub e e1) ρ H K=xE d e ρ H (qr (xE d e1) ρ K):=rfl
theorem HI:qi op X ρ K (v,H)=X ρ H (nk op v K):=rfl
theorem JW:Ei H K z=K (.int z,H):=rfl
theorem Ea:nk op (.int i) K (.int j,H)=iO op i j (Ei H K):=rfl
theorem HK(m:Nat):nk op (.ref n) K (.ref m,H)=xO (nW op (.ref n) (.ref m) H) K:=rfl
theorem HJ:nk op (.ref n) K (.int j,H)=xO (nW op (.ref n) (.int j) H) K:=rfl
theorem Ou:xE d (.b op e e1) ρ H K=xE d e ρ H (qi op (xE d e1) ρ K):=rfl
theorem J0:xR K (.int i,H)=K (.int (-i),H):=rfl
theorem OD:xE d (.neg e) ρ H K=xE d e ρ H (xR K):=rfl
theorem JX:xG K (.int i,H)=K (.int (-i-1),H):=rfl
theorem Ox:xE d (.inv e) ρ H K=xE d e ρ H (xG K):=rfl
theorem J1:xT K (v,H)=tO v H (xU H K):=rfl
theorem H8:xU H K b=K (.bool !b,H):=rfl
theorem OF:xE d (.not e) ρ H K=xE d e ρ H (xT K):=rfl
theorem Hx:qf X ρ K (v,H)=tO v H (xn X ρ v H K):=rfl
theorem Hy:xn X ρ v H K b=xI b (X ρ H K) (K (v,H)):=rfl
theorem Oq:xE d (.and e e1) ρ H K=xE d e ρ H (qf (xE d e1) ρ K):=rfl
theorem J3:xV X ρ K (v,H)=tO v H (Ek X ρ v H K):=rfl
theorem J4:Ek X ρ v H K b=xI b (K (v,H)) (X ρ H K):=rfl
theorem Qs:xE d (.or e e1) ρ H K=xE d e ρ H (xV (xE d e1) ρ K):=rfl
theorem HL:xy H K b=K (.bool b,H):=rfl
theorem HN:qk cm X ρ K (v,H)=X ρ H (lL cm v K):=rfl
theorem HO:lL cm v K (u,H)=cO cm v u H (xy H K):=rfl
theorem Ov:xE d (.cmp cm e e1) ρ H K=xE d e ρ H (qk cm (xE d e1) ρ K):=rfl
theorem Eb:jj cm c2 X Y ρ K (v,H)=X ρ H (kF cm c2 v Y ρ K):=rfl
theorem Ec:kF cm c2 v X ρ K (u,H)=cO cm v u H (ou c2 u X ρ H K):=rfl
theorem Ed:ou c2 u X ρ H K b=xI b (X ρ H (lL c2 u K)) (K (.bool false,H)):=rfl
theorem Kn:xE d (.chain cm c2 e e1 e2) ρ H K=xE d e ρ H (jj cm c2 (xE d e1) (xE d e2) ρ K):=rfl
theorem HW:qn X Y ρ K (v,H)=tO v H (xH X Y ρ H K):=rfl
theorem HX:xH X Y ρ H K b=xI b (X ρ H K) (Y ρ H K):=rfl
theorem Oy:xE d (.ite e e1 e2) ρ H K=xE d e ρ H (qn (xE d e1) (xE d e2) ρ K):=rfl
theorem JO(r:DL):xu r ρ L (v,H)=r ρ H (tM v L):=rfl
theorem HQ:tM v L (l,H)=L (v::l,H):=rfl
theorem OE:CA d [] ρ H L=L ([],H):=rfl
theorem Na:CA d (e::es) ρ H L=xE d e ρ H (xu (CA d es) ρ L):=rfl
theorem HM:qj d f K (l,H)=xO (ag PB d f l H) K:=rfl
theorem x_call:xE d (.call f es) ρ H K=CA d es ρ H (qj d f K):=rfl
theorem JY:xK K (.ref n,H)=xO (aj H n) (xM H K):=rfl
theorem HY:xM H K l=xI (aI l.length) (K (.int l.length,H)) none:=rfl
theorem Oz:xE d (.len e) ρ H K=xE d e ρ H (xK K):=rfl
theorem JN:xl K (.int i,H)=K (.int i.natAbs,H):=rfl
theorem Oo:xE d (.abs e) ρ H K=xE d e ρ H (xl K):=rfl
theorem HZ:qo X ρ K (v,H)=X ρ H (xP v K):=rfl
theorem H0:xP (.int i) K (.int j,H)=K (.int (if i<j then j else i),H):=rfl
theorem OB:xE d (.max e e1) ρ H K=xE d e ρ H (qo (xE d e1) ρ K):=rfl
theorem H6:qp X ρ K (v,H)=X ρ H (xQ v K):=rfl
theorem H7:xQ (.int i) K (.int j,H)=K (.int (if j<i then j else i),H):=rfl
theorem OC:xE d (.min e e1) ρ H K=xE d e ρ H (qp (xE d e1) ρ K):=rfl
theorem J6:xY K (l,H)=xO (eA l) (gj H K):=rfl
theorem Ko:xE d (.range es) ρ H K=CA d es ρ H (xY K):=rfl
theorem Hz:qg X ρ K (.ref n,H)=xO (aj H n) (xq X ρ n H K):=rfl
theorem HA:xq X ρ n H K l=X ρ H (tK n K):=rfl
theorem HB:tK n K (v,H)=xO (aj H n) (xt n H v K):=rfl
theorem HC:xt n H v K l=xI (aI l.length) (K (.bW,H.set n (.lst (l++[v])))) none:=rfl
theorem Ot:xE d (.app e e1) ρ H K=xE d e ρ H (qg (xE d e1) ρ K):=rfl
theorem Qr:xE d (.mk a es) ρ H K=xO (ar (Fd d) (.mk a es) ρ H) K:=rfl
theorem Kp:xE d (.jv e e1) ρ H K=xO (ar (Fd d) (.jv e e1) ρ H) K:=rfl
theorem OG:xE d (.qZ e e1) ρ H K=xO (ar (Fd d) (.qZ e e1) ρ H) K:=rfl
theorem J8:xZ K (l,H)=K (.tup l,H):=rfl
theorem OI:xE d (.tup es) ρ H K=CA d es ρ H (xZ K):=rfl
theorem JZ:xN K (l,H)=K (.ref H.length,H++[.lst l]):=rfl
theorem OA:xE d (.lst es) ρ H K=CA d es ρ H (xN K):=rfl
theorem HR:ql K (.ref n,H)=xO (aj H n) (sA H K):=rfl
theorem Gj:sA H K l=xI (aI l.length) (K (.ref H.length,H++[.lst l])) none:=rfl
theorem Nb:xE d (.qP e) ρ H K=xE d e ρ H (ql K):=rfl
theorem Md:kB XS Z (.bf,ρ,H)=XS ρ H Z:=rfl
theorem Me:kB XS Z (.ret v,ρ,H)=Z (.ret v,ρ,H):=rfl
theorem Mc:kB XS Z (.cnt,ρ,H)=Z (.cnt,ρ,H):=rfl
theorem M9:xB d [] ρ H Z=Z (.bf,ρ,H):=rfl
theorem Kl(s:S):xB d (s::bs) ρ H Z=xS d s ρ H (kB (xB d bs) Z):=rfl
theorem J7:eE k ρ Z (v,H)=Z (.bf,aX ρ k v,H):=rfl
theorem Oa:xS d (.set k e) ρ H Z=xE d e ρ H (eE k ρ Z):=rfl
theorem J2:Ej H Z ρ=Z (.bf,ρ,H):=rfl
theorem H9:jk ρ Z H=Z (.bf,ρ,H):=rfl
theorem H_(ks:List Nat):qq ks ρ Z (v,H)=zO (mL ks ρ v) (Ej H Z):=rfl
theorem Ke(ks:List Nat):mL ks ρ (.tup l)=dY ρ ks l:=rfl
theorem Gx:dY ρ [] []=some ρ:=rfl
theorem Fh(ks:List Nat):dY ρ (k::ks) (v::l)=dY (aX ρ k v) ks l:=rfl
theorem MV(ks:List Nat):xS d (.kq ks e) ρ H Z=xE d e ρ H (qq ks ρ Z):=rfl
theorem Gm:lN X a ρ Z (v,H)=X ρ H (oy a v ρ Z):=rfl
theorem Gn:oy a v ρ Z (u,H)=xO (gV u a v H) (jk ρ Z):=rfl
theorem MT:xS d (.b6 e1 a e) ρ H Z=xE d e ρ H (lN (xE d e1) a ρ Z):=rfl
theorem Gp:lO X Y ρ Z (v,H)=X ρ H (oz v Y ρ Z):=rfl
theorem Gq:oz v X ρ Z (u,H)=X ρ H (oA v u ρ Z):=rfl
theorem Gr:oA v u ρ Z (w,H)=xO (dX u w v H) (jk ρ Z):=rfl
theorem MU:xS d (.gW e1 e2 e) ρ H Z=xE d e ρ H (lO (xE d e1) (xE d e2) ρ Z):=rfl
theorem HE:tL k op X ρ H Z v=X ρ H (fz k op v ρ Z):=rfl
theorem HF:fz k op (.int i) ρ Z (.int j,H)=iO op i j (gi k ρ H Z):=rfl
theorem HH:gi k ρ H Z z=Z (.bf,aX ρ k (.int z),H):=rfl
theorem N6:xS d (.aug k op e) ρ H Z=zO (getL ρ k) (tL k op (xE d e) ρ H Z):=rfl
theorem Ge:lJ X op Y ρ Z (v,H)=X ρ H (oq v op Y ρ Z):=rfl
theorem Gf:oq v op X ρ Z (u,H)=xO (aJ v u H) (su v u op X ρ H Z):=rfl
theorem Gg:su v u op X ρ H Z w=X ρ H (ot v u op w ρ Z):=rfl
theorem Gh:ot v u op (.int i) ρ Z (.int j,H)=iO op i j (sz v u ρ H Z):=rfl
theorem Gi:sz v u ρ H Z z=xO (dX v u (.int z) H) (jk ρ Z):=rfl
theorem MS:xS d (.nV e1 e2 op e) ρ H Z=xE d e1 ρ H (lJ (xE d e2) op (xE d e) ρ Z):=rfl
theorem F9:lI a op X ρ Z (v,H)=xO (bK v a H) (sq v a op X ρ H Z):=rfl
theorem F_:sq w a op X ρ H Z v=X ρ H (om w a op v ρ Z):=rfl
theorem Ga:om w a op (.int i) ρ Z (.int j,H)=iO op i j (sr w a ρ H Z):=rfl
theorem Gb:sr w a ρ H Z z=xO (gV w a (.int z) H) (jk ρ Z):=rfl
theorem MR:xS d (.vU e1 a op e) ρ H Z=xE d e1 ρ H (lI a op (xE d e) ρ Z):=rfl
theorem JQ:xA ρ Z (.bW,H)=Z (.bf,ρ,H):=rfl
theorem N8:xS d (.exp e) ρ H Z=xE d e ρ H (xA ρ Z):=rfl
theorem J5:xX ρ Z (v,H)=Z (.ret v,ρ,H):=rfl
theorem N_:xS d (.ret e) ρ H Z=xE d e ρ H (xX ρ Z):=rfl
theorem JU:xD XS YS ρ Z (v,H)=tO v H (Eh XS YS ρ H Z):=rfl
theorem JV:Eh XS YS ρ H Z b=xI b (XS ρ H Z) (YS ρ H Z):=rfl
theorem N9:xS d (.ite e bs bt) ρ H Z=xE d e ρ H (xD (xB d bs) (xB d bt) ρ Z):=rfl
theorem N7:xS d .cnt ρ H Z=Z (.cnt,ρ,H):=rfl
theorem fA:kFor XS Z (.bf,ρ,H)=XS ρ H Z:=rfl
theorem HU:kFor XS Z (.cnt,ρ,H)=XS ρ H Z:=rfl
theorem qm:kFor XS Z (.ret v,ρ,H)=Z (.ret v,ρ,H):=rfl
theorem zV:cj d k bs [] ρ H Z=Z (.bf,ρ,H):=rfl
theorem eH:cj d k bs (v::l) ρ H Z=xB d bs (aX ρ k v) H (kFor (cj d k bs l) Z):=rfl
theorem Gl:xJ d k bs ρ H Z l=cj d k bs l ρ H Z:=rfl
theorem El:tQ d k bs n ρ H Z l=iw d k bs n (l.length+1) 0 ρ H Z:=rfl
theorem JR:Ef k (xB d bs) ρ Z (.ref n,H)=xO (aj H n) (tQ d k bs n ρ H Z):=rfl
theorem JT:Ef k (xB d bs) ρ Z (.tup l,H)=cj d k bs l ρ H Z:=rfl
theorem JS:Ef k (xB d bs) ρ Z (.bQ i j z,H)=xO (dc i j z) (xJ d k bs ρ H Z):=rfl
theorem Qc:xS d (.fr k e bs) ρ H Z=xE d e ρ H (Ef k (xB d bs) ρ Z):=rfl
end
end
section
open PySem
section
variable {α β γ:Type}
theorem cL{o:Option α}{f:α→Option β}{K:β→R}{y:α→R}(g:∀r,y r=(f r).bind K):o.bind y=(o.bind f).bind K:=
 (congrArg o.bind (funext g)).trans (Option.bind_assoc o f K).symm
theorem nB{o:Option α}{f:α→Option β}{K:β→R}{y:α→R}(g:∀r,y r=(f r).bind K):xO o y=(o.bind f).bind K:=(ke o y).trans (cL g)
theorem N0{o:Option α}{v:α}{f:α→Option β}{K:β→R}{y:R}(e:o=some v)(g:y=(f v).bind K):y=(o.bind f).bind K:=by rw[e];exact g
theorem C2{v:V}{H:MH}{f:Bool→Option β}{K:β→R}{y:Bool→R}(g:∀r,y r=(f r).bind K):tO v H y=((truth v H).bind f).bind K:=by
 cases v with
 |bool b=>exact g b
 |int i=>exact g _
 |_=>exact nB g
theorem Mu{op:Cm}{a b:V}{H:MH}{f:Bool→Option β}{K:β→R}{y:Bool→R}(g:∀r,y r=(f r).bind K):cO op a b H y=((cX op a b H).bind f).bind K:=by
 unfold cO
 split
 ·rename_i p e
  refine N0 ?_ (g _)
  cases op<;>cases e<;>rfl
 ·exact nB g
theorem Kb{op:Op}{i j:Int}{f:Int→Option β}{K:β→R}{y:Int→R}(g:∀r,y r=(f r).bind K):iO op i j y=((binI op i j).bind f).bind K:=by
 unfold iO
 split
 ·rename_i p e
  refine N0 ?_ (g _)
  cases op<;>cases e<;>rfl
 ·exact nB g
theorem yO{b:Bool}{p q:Option β}{K:β→R}{y z:R}(g:y=p.bind K)(h:z=q.bind K):xI b y z=(if b=true then p else q).bind K:=by rw[nS];cases b<;>assumption
end
variable {d:Nat}
noncomputable abbrev Nh(d:Nat)(e:E):Prop:=∀ρ H K,xE d e ρ H K=(ar (Fd d) e ρ H).bind K
noncomputable abbrev OJ(d:Nat)(e:List E):Prop:=(∀ρ H K,CA d e ρ H K=(da (Fd d) e ρ H).bind K)∧∀ρ H K,z5 d e ρ H K=(fQ (Fd d) e ρ H).bind K
theorem kJ:∀e,Nh d e:=by
 intro e
 refine @E.rec (Nh d) (OJ d) ?_ ?_ ?_ ?_ ?_ ?_ ?_ ?_ ?_ ?_ ?_ ?_ ?_ ?_ ?_ ?_ ?_ ?_ ?_ ?_ ?_ ?_ ?_ ?_ ?_ ?_ ?_ ?_ ?_ ?_ e
 ·exact λ_ _ _ _=>rfl
 ·exact λ_ _ _ _=>cL λ_=>rfl
 ·exact λ_ _ _ _=>cL λ_=>rfl
 ·exact λ_ a x ρ H K=>(x ρ H (qh a K)).trans (cL λr=>nB λ_=>rfl)
 ·exact λ_ b x y ρ H K=>(x ρ H (qr (xE d b) ρ K)).trans (cL λr=>(y ρ _ (tR r.1 K)).trans (cL λq=>nB λ_=>rfl))
 ·exact λ_ _ _ _ _ _ _=>ke _ _
 ·exact λ_ _ _ _ _ _ _=>ke _ _
 ·exact λ_ x ρ H K=>(x ρ H (ql K)).trans (cL λ|(.ref n,H)=>nB λ_=>yO rfl rfl|(.bW,_)|(.bool _,_)|(.int _,_)|(.tup _,_)|(.bQ ..,_)|(.ft _,_)=>rfl)
 ·exact λop _ b x y ρ H K=>(x ρ H (qi op (xE d b) ρ K)).trans (cL fun
   |(.int i,H)=>(y ρ H (nk op (.int i) K)).trans (cL λ|(.int j,H)=>Kb λ_=>rfl|(.bW,_)|(.bool _,_)|(.ref _,_)|(.tup _,_)|(.bQ ..,_)|(.ft _,_)=>ke _ _)
   |(.bW,H)|(.bool _,H)|(.ref _,H)|(.tup _,H)|(.bQ ..,H)|(.ft _,H)=>(y ρ H _).trans (cL λ|(.int j,H)|(.bW,H)|(.bool _,H)|(.ref _,H)|(.tup _,H)|(.bQ ..,H)|(.ft _,H)=>ke _ _))
 ·exact λ_ x ρ H K=>(x ρ H (xR K)).trans (cL λ|(.int n,H)|(.ref _,_)|(.bW,_)|(.bool _,_)|(.tup _,_)|(.bQ ..,_)|(.ft _,_)=>rfl)
 ·exact λ_ x ρ H K=>(x ρ H (xG K)).trans (cL λ|(.int n,H)|(.ref _,_)|(.bW,_)|(.bool _,_)|(.tup _,_)|(.bQ ..,_)|(.ft _,_)=>rfl)
 ·exact λ_ x ρ H K=>(x ρ H (xT K)).trans (cL λr=>C2 λ_=>rfl)
 ·exact λ_ b x y ρ H K=>(x ρ H (qf (xE d b) ρ K)).trans (cL λr=>C2 λb=>yO (y ρ _ K) rfl)
 ·exact λ_ b x y ρ H K=>(x ρ H (xV (xE d b) ρ K)).trans (cL λr=>C2 λb=>yO rfl (y ρ _ K))
 ·exact λop _ b x y ρ H K=>(x ρ H (qk op (xE d b) ρ K)).trans (cL λr=>(y ρ _ (lL op r.1 K)).trans (cL λq=>Mu λ_=>rfl))
 ·exact λo p _ b c x y z ρ H K=>(x ρ H (jj o p (xE d b) (xE d c) ρ K)).trans (cL λr=>(y ρ _ (kF o p r.1 (xE d c) ρ K)).trans (cL λq=>Mu λb=>yO ((z ρ _ (lL p q.1 K)).trans (cL λ_=>Mu λ_=>rfl)) rfl))
 ·exact λ_ a b x y z ρ H K=>(x ρ H (qn (xE d a) (xE d b) ρ K)).trans (cL λr=>C2 λb=>yO (y ρ _ K) (z ρ _ K))
 ·exact λf _ x ρ H K=>(x.1 ρ H (qj d f K)).trans (cL λr=>ke _ _)
 ·exact λ_ _ _ _ _ _=>ke _ _
 ·exact λ_ x ρ H K=>(x ρ H (xK K)).trans (cL λ|(.ref n,H)=>nB λ_=>yO rfl rfl|(.bW,_)|(.bool _,_)|(.int _,_)|(.tup _,_)|(.bQ ..,_)|(.ft _,_)=>rfl)
 ·exact λ_ x ρ H K=>(x ρ H (xl K)).trans (cL λ|(.int n,H)|(.ref _,_)|(.bW,_)|(.bool _,_)|(.tup _,_)|(.bQ ..,_)|(.ft _,_)=>rfl)
 ·exact λ_ b x y ρ H K=>(x ρ H (qo (xE d b) ρ K)).trans (cL fun
   |(.int n,H)=>(y ρ H _).trans (cL λ|(.int n,H)|(.ref _,_)|(.bW,_)|(.bool _,_)|(.tup _,_)|(.bQ ..,_)|(.ft _,_)=>rfl)
   |(.ref _,H)|(.bW,H)|(.bool _,H)|(.tup _,H)|(.bQ ..,H)|(.ft _,H)=>(y ρ H _).trans (cL λ_=>rfl))
 ·exact λ_ b x y ρ H K=>(x ρ H (qp (xE d b) ρ K)).trans (cL fun
   |(.int n,H)=>(y ρ H _).trans (cL λ|(.int n,H)|(.ref _,_)|(.bW,_)|(.bool _,_)|(.tup _,_)|(.bQ ..,_)|(.ft _,_)=>rfl)
   |(.ref _,H)|(.bW,H)|(.bool _,H)|(.tup _,H)|(.bQ ..,H)|(.ft _,H)=>(y ρ H _).trans (cL λ_=>rfl))
 ·exact λ_ x ρ H K=>(x.1 ρ H (xY K)).trans (cL λr=>nB λ_=>rfl)
 ·exact λ_ b x y ρ H K=>(x ρ H (qg (xE d b) ρ K)).trans (cL fun
   |(.ref n,H)=>nB λ_=>(y ρ H (tK n K)).trans (cL λ_=>nB λ_=>yO rfl rfl)
   |(.int _,_)|(.bW,_)|(.bool _,_)|(.tup _,_)|(.bQ ..,_)|(.ft _,_)=>rfl)
 ·exact λ_ x ρ H K=>(x.1 ρ H (xZ K)).trans (cL λr=>rfl)
 ·exact λ_ x ρ H K=>(x.1 ρ H (xN K)).trans (cL λr=>rfl)
 ·exact λa k _ c _ x _ ρ H K=>(x ρ H (lM d a k c ρ K)).trans (cL λr=>(Option.bind_assoc (each (k9 d a k c ρ r.2.length) r.1 (r.2++[MO.lst []])) (λH2=>some (V.ref r.2.length,H2)) K).symm)
 ·exact⟨λ_ _ _=>rfl,λ_ _ _=>rfl⟩
 ·exact λ_ b x y=>⟨λρ H K=>(x ρ H (xu (CA d b) ρ K)).trans (cL λr=>(y.1 ρ _ (tM r.1 K)).trans (cL λ_=>rfl)),λρ H K=>(x ρ H (Gk (z5 d b) ρ K)).trans (cL λr=>C2 λb=>yO (y.2 ρ _ K) rfl)⟩
noncomputable abbrev vH(d:Nat)(x:DS)(y:Loc→MH→RS):Prop:=∀ρ H K,x ρ H K=(y ρ H).bind K
theorem yM{x:DS}{y:Loc→MH→RS}(h:vH d x y){K:KS}:∀r:Fl×Loc×MH,kFor x K r=(match r.1 with
   |.ret v=>(some (Fl.ret v,r.2.1,r.2.2):RS)
   |_=>y r.2.1 r.2.2).bind K
 |(.ret _,_,_)=>rfl
 |(.bf,ρ,H)=>h ρ H K
 |(.cnt,ρ,H)=>h ρ H K
theorem N1{t:E}{b:DS}{c:Loc→MH→RS}(h:vH d b c):∀g,vH d (rW (xE d t) b g) (Cw (ar (Fd d) t) c g)
 |0,_,_,_=>rfl
 |g+1,ρ,H,K=>(kJ t ρ H _).trans (cL λx=>C2 λq=>yO ((h ρ _ _).trans (cL (yM (N1 h g)))) rfl)
theorem Mw{k:Nat}{b:DS}{c:Loc→MH→RS}(h:vH d b c):∀l,vH d (B1 k b l) (wU (λρ v=>some (aX ρ k v)) c l)
 | [],_,_,_=>rfl
 |v::l,ρ,H,K=>(h (aX ρ k v) H _).trans (cL (yM (Mw h l)))
theorem My{put:Loc→V→Option Loc}{b:DS}{c:Loc→MH→RS}{n:Nat}(h:vH d b c):∀g i,vH d (rL put b n g i) (forL put c n g i)
 |0,_,_,_,_=>rfl
 |g+1,i,ρ,H,K=>nB (o:=aj H n) λl=>by
  show(match l[i]? with|none=>_|some v=>_)=Option.bind (match l[i]? with|none=>_|some v=>_) K
  cases l[i]? with
  |none=>rfl
  |some v=>exact cL λρ=>(h ρ H _).trans (cL (yM (My h g (i+1))))
theorem PJ:∀s,vH d (xS d s) (tx (Fd d) s):=by
 intro s
 refine @S.rec (λs=>vH d (xS d s) (tx (Fd d) s)) (λb=>vH d (xB d b) (eZ (Fd d) b)) ?_ ?_ ?_ ?_ ?_ ?_ ?_ ?_ ?_ ?_ ?_ ?_ ?_ ?_ ?_ ?_ ?_ s
 ·exact λk e ρ H K=>(kJ e ρ H (eE k ρ K)).trans (cL λ_=>rfl)
 ·exact λk e ρ H K=>(kJ e ρ H (qq k ρ K)).trans (cL λ_=>cL λ_=>rfl)
 ·exact λo a e ρ H K=>(kJ e ρ H (lN (xE d o) a ρ K)).trans (cL λr=>(kJ o ρ _ (oy a r.1 ρ K)).trans (cL λ_=>nB λ_=>rfl))
 ·exact λo i e ρ H K=>(kJ e ρ H (lO (xE d o) (xE d i) ρ K)).trans (cL λr=>(kJ o ρ _ (oz r.1 (xE d i) ρ K)).trans (cL λq=>(kJ i ρ _ (oA r.1 q.1 ρ K)).trans (cL λ_=>nB λ_=>rfl)))
 ·exact λk op e ρ H K=>cL (o:=getL ρ k) fun
   |.int v=>(kJ e ρ H (fz k op (.int v) ρ K)).trans (cL λ|(.int n,H)=>Kb λ_=>rfl|(.ref _,_)|(.bW,_)|(.bool _,_)|(.tup _,_)|(.bQ ..,_)|(.ft _,_)=>rfl)
   |.ref _|.bW|.bool _|.tup _|.bQ .. |.ft _=>(kJ e ρ H _).trans (cL λ_=>rfl)
 ·exact λo a op e ρ H K=>(kJ o ρ H (lI a op (xE d e) ρ K)).trans (cL λr=>nB fun
   |.int v=>(kJ e ρ _ (om r.1 a op (.int v) ρ K)).trans (cL λ|(.int n,H)=>Kb λ_=>nB λ_=>rfl|(.ref _,_)|(.bW,_)|(.bool _,_)|(.tup _,_)|(.bQ ..,_)|(.ft _,_)=>rfl)
   |.ref _|.bW|.bool _|.tup _|.bQ .. |.ft _=>(kJ e ρ _ _).trans (cL λ_=>rfl))
 ·exact λo i op e ρ H K=>(kJ o ρ H (lJ (xE d i) op (xE d e) ρ K)).trans (cL λr=>(kJ i ρ _ (oq r.1 op (xE d e) ρ K)).trans (cL λp=>nB fun
   |.int v=>(kJ e ρ _ (ot r.1 p.1 op (.int v) ρ K)).trans (cL λ|(.int n,H)=>Kb λ_=>nB λ_=>rfl|(.ref _,_)|(.bW,_)|(.bool _,_)|(.tup _,_)|(.bQ ..,_)|(.ft _,_)=>rfl)
   |.ref _|.bW|.bool _|.tup _|.bQ .. |.ft _=>(kJ e ρ _ _).trans (cL λ_=>rfl)))
 ·exact λe ρ H K=>(kJ e ρ H (xA ρ K)).trans (cL λ|(.int n,H)|(.ref _,_)|(.bW,_)|(.bool _,_)|(.tup _,_)|(.bQ ..,_)|(.ft _,_)=>rfl)
 ·exact λe ρ H K=>(kJ e ρ H (xX ρ K)).trans (cL λ_=>rfl)
 ·exact λt a b x y ρ H K=>(kJ t ρ H (xD (xB d a) (xB d b) ρ K)).trans (cL λ_=>C2 λ_=>yO (x ρ _ K) (y ρ _ K))
 ·exact λt b x=>N1 x turns
 ·exact λk e b x ρ H K=>(kJ e ρ H (Ef k (xB d b) ρ K)).trans (cL fun
   |(.ref n,H)=>nB λl=>My x _ 0 ρ H K
   |(.tup l,H)=>Mw x l ρ H K
   |(.bQ a b c,H)=>nB λl=>Mw x l ρ H K
   |(.int n,H)|(.bW,_)|(.bool _,_)|(.ft _,_)=>rfl)
 ·exact λk e b x ρ H K=>(kJ e ρ H (xC k (xB d b) ρ K)).trans (cL fun
   |(.ref n,H)=>nB λl=>My x _ 0 ρ H K
   |(.int n,H)|(.bW,_)|(.bool _,_)|(.ft _,_)|(.tup _,_)|(.bQ ..,_)=>rfl)
 ·exact λρ H K=>rfl
 ·exact λρ H K=>rfl
 ·exact λρ H K=>rfl
 ·exact λs b x y ρ H K=>(x ρ H (kB (xB d b) K)).trans (cL λ|(.bf,ρ,H)=>y ρ H K|(.ret _,ρ,H)|(.cnt,ρ,H)=>rfl)
theorem IA:∀b,vH d (xB d b) (eZ (Fd d) b)
 | []=>λ_ _ _=>rfl
 |s::b=>λρ H K=>(PJ s ρ H (kB (xB d b) K)).trans (cL λ|(.bf,ρ,H)=>IA b ρ H K|(.ret _,ρ,H)|(.cnt,ρ,H)=>rfl)
theorem ax{d f:Nat}{as:List V}{H:MH}{fn:Fn}(h:PB.fns[f]?=some fn)(hl:Nat.beq as.length fn.params=true) :
  ag PB (d+1) f as H=xB d fn.body (as.map some++List.replicate (fn.slots-fn.params) none) H ox:=(Ao h hl).trans (IA _ _ _ _).symm
theorem yN{α:Type}{o:Option α}{r:α}{γ:Type}{g:α→Option γ}(hg:∀x y,(g x).isSome=true∧(g x=g y→x=y))(h:o.bind g=g r):o=some r:=by
 cases o with
 |none=>have:=(hg r r).1;rw[← h]at this;cases this
 |some x=>exact congrArg some ((hg x r).2 h)
theorem FR{e:E}{ρ:Loc}{H:MH}{r:V×MH}(h:∀K:KV,xE d e ρ H K=K r):ar (Fd d) e ρ H=some r:=
 yN (g:=some) (λ_ _=>⟨rfl,Option.some.inj⟩) ((kJ e ρ H some).symm.trans (h some))
theorem IB:∀(cs:List E) ρ H K,z5 d cs ρ H K=(fQ (Fd d) cs ρ H).bind K
 | [],_,_,_=>rfl
 |e::r,ρ,H,K=>(kJ e ρ H (Gk (z5 d r) ρ K)).trans (cL λx=>C2 λb=>yO (IB r ρ _ K) rfl)
theorem Cz{cs:List E}{ρ:Loc}{H:MH}{r:Bool×MH}(h:∀K:Bool×MH→R,z5 d cs ρ H K=K r):fQ (Fd d) cs ρ H=some r:=
 yN (g:=λq:Bool×MH=>some (V.bool q.1,q.2)) (λx y=>⟨rfl,λe=>by cases x;cases y;cases e;rfl⟩) ((IB cs ρ H _).symm.trans (h _))
end
section
open PySem
theorem ae(a b:Nat):(Nat.beq a b=true)=(a=b):=propext ⟨Nat.eq_of_beq_eq_true,λh=>by subst h;exact Nat.beq_refl a⟩
theorem aC(a b:Nat):(Nat.blt a b=true)=(a<b):=propext ⟨λh=>Nat.le_of_ble_eq_true h,λh=>Nat.ble_eq_true_of_le h⟩
theorem b5(a b:Nat):(Nat.ble a b=true)=(a≤b):=propext ⟨λh=>Nat.le_of_ble_eq_true h,λh=>Nat.ble_eq_true_of_le h⟩
theorem aq(a b:Nat):(Nat.beq a b=false)=¬ (a=b):=by rw[← ae,Bool.not_eq_true]
noncomputable def sX(d:Nat):Int:=match d with|1|4|5=>1|3|6|7 => -1|_=>0
noncomputable def sY(d:Nat):Int:=match d with|0|4|7=>1|2|5|6 => -1|_=>0
noncomputable def pq(d:Nat):Nat:=match d with|0=>2|1=>3|2=>0|3=>1|4=>6|5=>7|6=>4|_=>5
noncomputable def grow(d:Nat):Bool:=match d with|0|1|4|7=>true|_=>false
noncomputable def dt(F a g:Nat):Nat:=Nat.max (dst (a%F) (g%F)) (dst (a/F) (g/F))
theorem rI{d:Nat}(h:d<8):d=0∨d=1∨d=2∨d=3∨d=4∨d=5∨d=6∨d=7:=by exact Ar.Z1 [.l .x0 .n8] (.D (.q .x0 .n0) (.D (.q .x0 .n1) (.D (.q .x0 .n2) (.D (.q .x0 .n3) (.D (.q .x0 .n4) (.D (.q .x0 .n5) (.D (.q .x0 .n6) (.q .x0 .n7)))))))) rfl h
theorem jS(d:Nat):pq d<8:=by unfold pq;split<;>decide
theorem oU{d:Nat}(h:d<8):pq (pq d)=d:=(by decide:∀d,d<8→pq (pq d)=d) d h
structure Rk (F d a b k:Nat):Prop where
 d8:d<8
 k1:1≤k
 x:((b%F:Nat):Int)=((a%F:Nat):Int)+k*sX d
 y:((b/F:Nat):Int)=((a/F:Nat):Int)+k*sY d
theorem cJ{F d a b:Nat}:aS F d a b=true↔∃k,Rk F d a b k:=by
 constructor
 ·intro h
  have hd:d<8:=by
   match d,h with
   |0,_|1,_|2,_|3,_|4,_|5,_|6,_|7,_=>decide
  rcases rI hd with rfl|rfl|rfl|rfl|rfl|rfl|rfl|rfl
  all_goals
   refine dd ((Bool.and_eq_true _ _▸h:_∧_)) λh1 h2=>?_
   simp only[ae]at h1;simp only[aC]at h2
  ·exact⟨b/F-a/F,by decide,by exact Ar.Z3 [.l .x0 .x1,.s .x2 .x1 .x0] (.e .n1 .x2) rfl h2 (Ar.ts _ _),by simp only[sX];exact Ar.Z5 [.q .x0 .x1,.s .x2 .x3 .x4] (.Q (.c .x1) (.a (.c .x0) (.r (.c .x2) 0))) rfl h1 (Ar.ts _ _),by simp only[sY];exact Ar.Z3 [.l .x0 .x1,.s .x2 .x1 .x0] (.Q (.c .x1) (.a (.c .x0) (.r (.c .x2) 1))) rfl h2 (Ar.ts _ _)⟩
  ·exact⟨b%F-a%F,by decide,by exact Ar.Z3 [.l .x0 .x1,.s .x2 .x1 .x0] (.e .n1 .x2) rfl h2 (Ar.ts _ _),by simp only[sX];exact Ar.Z3 [.l .x0 .x1,.s .x2 .x1 .x0] (.Q (.c .x1) (.a (.c .x0) (.r (.c .x2) 1))) rfl h2 (Ar.ts _ _),by simp only[sY];exact Ar.Z5 [.q .x0 .x1,.s .x2 .x3 .x4] (.Q (.c .x1) (.a (.c .x0) (.r (.c .x2) 0))) rfl h1 (Ar.ts _ _)⟩
  ·exact⟨a/F-b/F,by decide,by exact Ar.Z3 [.l .x0 .x1,.s .x2 .x1 .x0] (.e .n1 .x2) rfl h2 (Ar.ts _ _),by simp only[sX];exact Ar.Z5 [.q .x0 .x1,.s .x2 .x3 .x4] (.Q (.c .x1) (.a (.c .x0) (.r (.c .x2) 0))) rfl h1 (Ar.ts _ _),by simp only[sY];exact Ar.Z3 [.l .x0 .x1,.s .x2 .x1 .x0] (.Q (.c .x0) (.a (.c .x1) (.R (.c .x2) 1))) rfl h2 (Ar.ts _ _)⟩
  ·exact⟨a%F-b%F,by decide,by exact Ar.Z3 [.l .x0 .x1,.s .x2 .x1 .x0] (.e .n1 .x2) rfl h2 (Ar.ts _ _),by simp only[sX];exact Ar.Z3 [.l .x0 .x1,.s .x2 .x1 .x0] (.Q (.c .x0) (.a (.c .x1) (.R (.c .x2) 1))) rfl h2 (Ar.ts _ _),by simp only[sY];exact Ar.Z5 [.q .x0 .x1,.s .x2 .x3 .x4] (.Q (.c .x1) (.a (.c .x0) (.r (.c .x2) 0))) rfl h1 (Ar.ts _ _)⟩
  ·exact⟨b%F-a%F,by decide,by exact Ar.Z5 [.q (.a .x0 .x1) (.a .x2 .x3),.l .x2 .x0,.s .x4 .x0 .x2] (.e .n1 .x4) rfl h1 h2 (Ar.ts _ _),by simp only[sX];exact Ar.Z5 [.q (.a .x0 .x1) (.a .x2 .x3),.l .x2 .x0,.s .x4 .x0 .x2] (.Q (.c .x0) (.a (.c .x2) (.r (.c .x4) 1))) rfl h1 h2 (Ar.ts _ _),by simp only[sY];exact Ar.Z5 [.q (.a .x0 .x1) (.a .x2 .x3),.l .x2 .x0,.s .x4 .x0 .x2] (.Q (.c .x3) (.a (.c .x1) (.r (.c .x4) 1))) rfl h1 h2 (Ar.ts _ _)⟩
  ·exact⟨b%F-a%F,by decide,by exact Ar.Z5 [.q (.a .x0 .x1) (.a .x2 .x3),.l .x2 .x0,.s .x4 .x0 .x2] (.e .n1 .x4) rfl h1 h2 (Ar.ts _ _),by simp only[sX];exact Ar.Z5 [.q (.a .x0 .x1) (.a .x2 .x3),.l .x2 .x0,.s .x4 .x0 .x2] (.Q (.c .x0) (.a (.c .x2) (.r (.c .x4) 1))) rfl h1 h2 (Ar.ts _ _),by simp only[sY];exact Ar.Z5 [.q (.a .x0 .x1) (.a .x2 .x3),.l .x2 .x0,.s .x4 .x0 .x2] (.Q (.c .x1) (.a (.c .x3) (.R (.c .x4) 1))) rfl h1 h2 (Ar.ts _ _)⟩
  ·exact⟨a%F-b%F,by decide,by exact Ar.Z5 [.q (.a .x0 .x1) (.a .x2 .x3),.l .x0 .x2,.s .x4 .x2 .x0] (.e .n1 .x4) rfl h1 h2 (Ar.ts _ _),by simp only[sX];exact Ar.Z5 [.q (.a .x0 .x1) (.a .x2 .x3),.l .x0 .x2,.s .x4 .x2 .x0] (.Q (.c .x0) (.a (.c .x2) (.R (.c .x4) 1))) rfl h1 h2 (Ar.ts _ _),by simp only[sY];exact Ar.Z5 [.q (.a .x0 .x1) (.a .x2 .x3),.l .x0 .x2,.s .x4 .x2 .x0] (.Q (.c .x3) (.a (.c .x1) (.R (.c .x4) 1))) rfl h1 h2 (Ar.ts _ _)⟩
  ·exact⟨a%F-b%F,by decide,by exact Ar.Z5 [.q (.a .x0 .x1) (.a .x2 .x3),.l .x0 .x2,.s .x4 .x2 .x0] (.e .n1 .x4) rfl h1 h2 (Ar.ts _ _),by simp only[sX];exact Ar.Z5 [.q (.a .x0 .x1) (.a .x2 .x3),.l .x0 .x2,.s .x4 .x2 .x0] (.Q (.c .x0) (.a (.c .x2) (.R (.c .x4) 1))) rfl h1 h2 (Ar.ts _ _),by simp only[sY];exact Ar.Z5 [.q (.a .x0 .x1) (.a .x2 .x3),.l .x0 .x2,.s .x4 .x2 .x0] (.Q (.c .x1) (.a (.c .x3) (.r (.c .x4) 1))) rfl h1 h2 (Ar.ts _ _)⟩
 ·rintro⟨k,hd,k1,x,y⟩
  rcases rI hd with rfl|rfl|rfl|rfl|rfl|rfl|rfl|rfl
  all_goals
   simp only[sX,sY]at x y
   show(_&&_)=true
   simp only[Bool.and_eq_true,ae,aC]
   first|exact Ar.Z5 [.e .n1 .x0,.Q (.c .x1) (.a (.c .x2) (.r (.c .x0) 0)),.Q (.c .x3) (.a (.c .x4) (.r (.c .x0) 1))] (.C (.q .x2 .x1) (.l .x4 .x3)) rfl k1 x y|exact Ar.Z5 [.e .n1 .x0,.Q (.c .x1) (.a (.c .x2) (.r (.c .x0) 1)),.Q (.c .x3) (.a (.c .x4) (.r (.c .x0) 0))] (.C (.q .x4 .x3) (.l .x2 .x1)) rfl k1 x y|exact Ar.Z5 [.e .n1 .x0,.Q (.c .x1) (.a (.c .x2) (.r (.c .x0) 0)),.Q (.c .x3) (.a (.c .x4) (.R (.c .x0) 1))] (.C (.q .x2 .x1) (.l .x3 .x4)) rfl k1 x y|exact Ar.Z5 [.e .n1 .x0,.Q (.c .x1) (.a (.c .x2) (.R (.c .x0) 1)),.Q (.c .x3) (.a (.c .x4) (.r (.c .x0) 0))] (.C (.q .x4 .x3) (.l .x1 .x2)) rfl k1 x y|exact Ar.Z5 [.e .n1 .x0,.Q (.c .x1) (.a (.c .x2) (.r (.c .x0) 1)),.Q (.c .x3) (.a (.c .x4) (.r (.c .x0) 1))] (.C (.q (.a .x1 .x4) (.a .x2 .x3)) (.l .x2 .x1)) rfl k1 x y|exact Ar.Z5 [.e .n1 .x0,.Q (.c .x1) (.a (.c .x2) (.r (.c .x0) 1)),.Q (.c .x3) (.a (.c .x4) (.R (.c .x0) 1))] (.C (.q (.a .x1 .x3) (.a .x2 .x4)) (.l .x2 .x1)) rfl k1 x y|exact Ar.Z5 [.e .n1 .x0,.Q (.c .x1) (.a (.c .x2) (.R (.c .x0) 1)),.Q (.c .x3) (.a (.c .x4) (.R (.c .x0) 1))] (.C (.q (.a .x1 .x4) (.a .x2 .x3)) (.l .x1 .x2)) rfl k1 x y|exact Ar.Z5 [.e .n1 .x0,.Q (.c .x1) (.a (.c .x2) (.R (.c .x0) 1)),.Q (.c .x3) (.a (.c .x4) (.r (.c .x0) 1))] (.C (.q (.a .x1 .x3) (.a .x2 .x4)) (.l .x1 .x2)) rfl k1 x y|lia
theorem dG{F d a b:Nat}(h:aS F d a b=true):d<8:=let⟨_,r⟩:=cJ.mp h;r.d8
section
variable {F R d e a b g x y k l:Nat}
theorem Rk.aS(h:Rk F d a b k):aS F d a b=true:=cJ.mpr ⟨k,h⟩
theorem Rk.trans(h:Rk F d a x k)(h':Rk F d x b l):Rk F d a b (k+l):=
 ⟨h.d8,Nat.le_trans h.k1 (Nat.le_add_right _ _),by rw[h'.x,h.x,Int.natCast_add,Int.add_mul,Int.add_assoc],by simp only[h'.y,h.y,Int.natCast_add,Int.add_mul,Int.add_assoc]⟩
theorem C8:∀d,d<8→sX (pq d) = -sX d∧sY (pq d) = -sY d:=by decide
theorem Rk.pq(h:Rk F d a b k):Rk F (pq d) b a k:=
 ⟨jS d,h.k1,by rw[h.x,(C8 d h.d8).1,Int.mul_neg,Int.add_neg_cancel_right],by simp only[h.y,(C8 d h.d8).2,Int.mul_neg,Int.add_neg_cancel_right]⟩
theorem gU:∀d,d<8→(sX d=0∨sX d=1∨sX d = -1)∧(sY d=0∨sY d=1∨sY d = -1)∧¬ (sX d=0∧sY d=0):=by decide
theorem IU:∀d,d<8→∀e,e<8→sX d=sX e→sY d=sY e→d=e:=by decide
theorem sg{p q s:Int}(k1:1≤k)(hs:s=0∨s=1∨s = -1)(h:q=p+k*s):s=(q-p).sign:=by
 subst h
 rw[Int.add_comm,Int.add_sub_cancel,Int.sign_mul,Int.sign_eq_one_of_pos (by exact Ar.Z1 [.e .n1 .x0] (.L .n0 (.c .x0)) rfl k1),Int.one_mul]
 rcases hs with rfl|rfl|rfl<;>rfl
theorem Rk.sx(h:Rk F d a b k):sX d=(((b%F:Nat):Int)-((a%F:Nat):Int)).sign:=sg h.k1 (gU d h.d8).1 h.x
theorem Rk.sy(h:Rk F d a b k):sY d=(((b/F:Nat):Int)-((a/F:Nat):Int)).sign:=sg h.k1 (gU d h.d8).2.1 h.y
theorem cN(h:aS F d a x=true)(h':aS F d x b=true):aS F d a b=true:=
 let⟨_,r⟩:=cJ.mp h
 let⟨_,r'⟩:=cJ.mp h'
 (r.trans r').aS
theorem cY(h:aS F d a b=true):aS F (pq d) b a=true:=let⟨_,r⟩:=cJ.mp h;r.pq.aS
theorem dO(hd:d<8):aS F (pq d) b a=aS F d a b:=by
 rw[Bool.eq_iff_iff]
 exact⟨λh=>by have:=cY h;rwa [oU hd]at this,cY⟩
theorem eR(h:aS F d a b=true)(h':aS F e a b=true):d=e:=
 let⟨_,r⟩:=cJ.mp h
 let⟨_,r'⟩:=cJ.mp h'
 IU d r.d8 e r'.d8 (r.sx.trans r'.sx.symm) (r.sy.trans r'.sy.symm)
theorem zu(hx:a%F=b%F)(hy:a/F=b/F):a=b:=by rw[← Nat.div_add_mod a F,← Nat.div_add_mod b F,hx,hy]
theorem Rk.off(h:Rk F d a x k)(h':Rk F d a b l)(hl:k<l):Rk F d x b (l-k):=
 ⟨h.d8,by exact Ar.Z3 [.l .x0 .x1,.s .x2 .x1 .x0] (.e .n1 .x2) rfl hl (Ar.ts _ _),by simp only[h'.x,h.x,Int.natCast_sub (Nat.le_of_lt hl),Int.sub_mul];exact Ar.z_ [] (.Q (.a (.c .x0) .y0) (.a (.a (.c .x0) .y1) (.s .y0 .y1))) rfl,by simp only[h'.y,h.y,Int.natCast_sub (Nat.le_of_lt hl),Int.sub_mul];exact Ar.z_ [] (.Q (.a (.c .x0) .y0) (.a (.a (.c .x0) .y1) (.s .y0 .y1))) rfl⟩
theorem jr(h:aS F d a x=true)(h':aS F d a b=true)(hne:x≠b):aS F d x b=true∨aS F d b x=true:=by
 refine bJ (cJ.mp h) λk r=>?_
 refine bJ (cJ.mp h') λl r'=>?_
 rcases Nat.lt_trichotomy k l with q|rfl|q
 ·exact .inl (r.off r' q).aS
 ·exact absurd (zu (Int.ofNat.inj (r.x.trans r'.x.symm)) (Int.ofNat.inj (r.y.trans r'.y.symm))) hne
 ·exact .inr (r'.off r q).aS
theorem ue:aS F d a a=false:=by
 cases h:aS F d a a with
 |false=>rfl
 |true=>
  obtain⟨k,r⟩:=cJ.mp h
  exact absurd ⟨r.sx.trans (by rw[Int.sub_self];rfl),r.sy.trans (by rw[Int.sub_self];rfl)⟩ (gU d r.d8).2.2
theorem s_grow:∀d,d<8→grow d=true→sY d=1∨sY d=0∧sX d=1:=by decide
theorem Hk:∀d,d<8→grow d=false→grow (pq d)=true:=by decide
theorem mh(hg:grow d=true)(h:aS F d a b=true):a<b:=by
 refine bJ (cJ.mp h) λk r=>?_
 have k1:=r.k1
 have x:=r.x
 have y:=r.y
 rcases s_grow d r.d8 hg with q|⟨q1,q2⟩
 ·rw[q]at y;exact Nat.lt_of_div_lt_div (c:=F) (by exact Ar.Z3 [.e .n1 .x0,.Q (.c .x1) (.a (.c .x2) (.r (.c .x0) 1))] (.l .x2 .x1) rfl k1 y)
 ·rw[q1]at y;rw[q2]at x
  rw[← Nat.div_add_mod a F,← Nat.div_add_mod b F,show b/F=a/F by exact Ar.Z3 [.Q (.c .x0) (.a (.c .x1) (.r (.c .x2) 0))] (.q .x0 .x1) rfl y];exact Ar.Z4 [.e .n1 .x0,.Q (.c .x1) (.a (.c .x2) (.r (.c .x0) 1))] (.l (.a .x3 .x2) (.a .x3 .x1)) rfl k1 x
theorem qM(hg:grow d=false)(h:aS F d a b=true):b<a:=mh (Hk d (dG h) hg) (cY h)
noncomputable def eV(F a b x:Nat):Bool:=aO 8 λd=>aS F d a x&&aS F d x b
theorem cq:eV F a b x=true↔∃d,aS F d a x=true∧aS F d x b=true:=by
 unfold eV
 rw[aB]
 constructor
 ·rintro⟨d,_,h⟩;simp at h;exact⟨d,h⟩
 ·rintro⟨d,h1,h2⟩;exact⟨d,dG h1,by simp[h1,h2]⟩
theorem cZ(h:aS F d a b=true):eV F a b x=true↔aS F d a x=true∧aS F d x b=true:=by
 rw[cq]
 constructor
 ·rintro⟨e,h1,h2⟩
  have:=eR h (cN h1 h2)
  subst this;exact⟨h1,h2⟩
 ·intro h;exact⟨d,h⟩
theorem g9:eV F a b x=eV F b a x:=by
 have key:∀a b,eV F a b x=true→eV F b a x=true:=λa b h=>by
  rw[cq]at *
  refine ay (h) λd h1 h2=>?_
  exact⟨pq d,cY h2,cY h1⟩
 rw[Bool.eq_iff_iff];exact⟨key a b,key b a⟩
noncomputable def ik(F N:Nat)(o:Nat→Bool)(a b:Nat):Bool:=uC N λx=>!(eV F a b x&&o x)
variable {N:Nat} {o o':Nat→Bool}
theorem bO:ik F N o a b=true↔∀x,x<N→eV F a b x=true→o x=false:=by
 unfold ik
 rw[pA]
 constructor
 ·intro h x hx hb;have:=h x hx;simpa[hb]using this
 ·intro h x hx
  cases hb:eV F a b x with
  |false=>rfl
  |true=>simp[h x hx hb]
theorem g_:ik F N o a b=ik F N o b a:=by
 rw[Bool.eq_iff_iff,bO,bO]
 constructor<;>intro h x hx hb<;>exact h x hx (by rwa [g9])
theorem uE(h:∀x,x<N→eV F a b x=true→o x=o' x):ik F N o a b=ik F N o' a b:=by
 rw[Bool.eq_iff_iff,bO,bO]
 constructor<;>intro q x hx hb
 ·rw[← h x hx hb];exact q x hx hb
 ·rw[h x hx hb];exact q x hx hb
theorem wZ(hg:grow d=true)(h:aS F d a b=true)(hb:b<N):fC (λi=>aS F d a i&&o i) b=ik F N o a b:=by
 rw[Bool.eq_iff_iff,ip,bO]
 constructor
 ·intro q x hx hb
  rw[cZ h]at hb
  have:=q x (mh hg hb.2)
  simpa[hb.1]using this
 ·intro q j hj
  cases hr:aS F d a j with
  |false=>rfl
  |true=>
   rcases jr hr h (by exact Ar.Z2 [.l .x0 .x1] (.N (.q .x0 .x1)) rfl hj)with h1|h1
   ·simp[q j (by exact Ar.Z3 [.l .x0 .x1,.l .x2 .x0] (.l .x2 .x1) rfl hb hj) ((cZ h).mpr ⟨hr,h1⟩)]
   ·have:=mh hg h1;exact False.elim (Ar.Z2 [.l .x0 .x1,.l .x1 .x0] .F rfl hj this)
theorem wK(hg:grow d=false)(h:aS F d a b=true)(ha:a<N)(hb:b<N):(!fG N (λi=>aS F d a i&&o i) b)=ik F N o a b:=by
 rw[Bool.eq_iff_iff,bO]
 unfold fG
 rw[Bool.not_eq_true',← Bool.not_eq_true,aB]
 constructor
 ·intro q x hx hb
  rw[cZ h]at hb
  cases ho:o x with
  |false=>rfl
  |true=>exact absurd ⟨x,hx,by simp[qM hg hb.2,hb.1,ho]⟩ q
 ·rintro q ⟨j,hj,hq⟩
  simp only[Bool.and_eq_true,decide_eq_true_eq]at hq
  obtain⟨h1,h2,h3⟩:=hq
  rcases jr h2 h (by exact Ar.Z2 [.l .x0 .x1] (.N (.q .x1 .x0)) rfl h1)with h4|h4
  ·rw[q j hj ((cZ h).mpr ⟨h2,h4⟩)]at h3;exact bY h3
  ·have:=qM hg h4;exact Ar.Z2 [.l .x0 .x1,.l .x1 .x0] .F rfl h1 this
end
end
section
open PySem
section
variable {q:St} {H:MH} {d a b e:Nat} {o:Nat→Bool}
theorem jA(N:Nat)(p:Nat→Bool)(k:Nat):decide (bM ((bm N p).fdiv (2 ^ k)) 1≠0)=(decide (k<N)&&p k):=by
 rw[rA];cases decide (k<N)&&p k<;>rfl
theorem kS(N:Nat)(p:Nat→Bool)(k:Nat):decide (bM ((bm N p).fdiv (2 ^ k)) 1=1)=(decide (k<N)&&p k):=by
 rw[rA];cases decide (k<N)&&p k<;>rfl
theorem ite_int(c:Prop)[Decidable c](a b:Int)(H:MH):some (V.int (if c then a else b),H)=if c then some (V.int a,H)else some (V.int b,H):=by split<;>rfl
noncomputable def uK(F a b:Nat):Int:=
 if aS F 0 a b then 0 else if aS F 1 a b then 1 else if aS F 2 a b then 2 else if aS F 3 a b then 3 else if aS F 4 a b then 4 else if aS F 5 a b then 5 else if aS F 6 a b then 6 else if aS F 7 a b then 7 else -1
theorem mX{F:Nat}(h:aS F d a b=true):uK F a b=d:=by
 have hd:=dG h
 have no:∀e,e≠d→aS F e a b=false:=λe he=>by
  cases q:aS F e a b with
  |false=>rfl
  |true=>exact absurd (eR q h) he
 unfold uK
 rcases rI hd with rfl|rfl|rfl|rfl|rfl|rfl|rfl|rfl<;>simp(disch:=decide) only[h,no,if_true,Bool.false_eq_true,if_false]<;>rfl
theorem mW{F:Nat}(h:∀d,aS F d a b=false):uK F a b = -1:=by
 unfold uK;simp only[h,Bool.false_eq_true,if_false]
theorem eD(h:HP q H)(ha:a<q.N)(hb:b<q.N):ag PB (d+1) 11 [.ref 7,.int a,.int b] H=some (.int (uK q.F a b),H):=by
 rw[ax (fn:=Ld) rfl rfl]
 erw[xf,Ld,mk8,zg,h.vJ,h.d0,h.d1,h.d2,h.d3,h.d4,h.d5,h.d6,h.d7,h.r0 ha,h.r1 ha,h.r2 ha,h.r3 ha,h.r4 ha,h.r5 ha,h.r6 ha,h.r7 ha,jA,hb,decide_true,Bool.true_and]
 simp only[uK,ite_int,nS]
theorem Bh(he:e<8):ag PB (d+1) 15 [.int (e:Int)] H=some (.bool (grow e),H):=by
 rcases rI he with rfl|rfl|rfl|rfl|rfl|rfl|rfl|rfl<;>rfl
theorem mS(N:Nat)(p:Nat→Bool):decide (bm N p≠0)=aO N p:=by
 rw[Bool.eq_iff_iff,decide_eq_true_eq,Ne,nY,aB]
 constructor
 ·intro h
  refine Classical.byContradiction λhn=>h λi hi=>?_
  cases hp:p i with
  |false=>rfl
  |true=>exact absurd ⟨i,hi,hp⟩ hn
 ·rintro⟨i,hi,hp⟩ h;rw[h i hi]at hp;exact bY hp
theorem kX(N:Nat)(p:Nat→Bool):decide (bm N p=0)=!aO N p:=by
 rw[← mS];by_cases h:bm N p=0<;>simp[h]
theorem vZ(N:Nat)(p:Nat→Bool):(!decide (bm N p=0))=aO N p:=by simp only[kX,Bool.not_not]
theorem kZ(N:Nat)(p:Nat→Bool):fM 0 (bm N p)=bm N p:=by
 simp only[← cW N,bT];exact aE λi _=>Bool.false_or _
noncomputable def ur(x:Int):Int:=
 let a:=x.fdiv (2 ^ 1)
 let a:=fM a (a.fdiv (2 ^ 1))
 let a:=fM a (a.fdiv (2 ^ 2))
 let a:=fM a (a.fdiv (2 ^ 4))
 let a:=fM a (a.fdiv (2 ^ 8))
 let a:=fM a (a.fdiv (2 ^ 16))
 fM a (a.fdiv (2 ^ 32))
theorem nO(n:Nat):ur (n:Int)=((qQ n:Nat):Int):=by
 unfold ur qQ
 simp only[gG,kY]
theorem bE(h:HP q H)(he:e<8)(ha:a<q.N):ag PB (d+2) 23 [.ref 7,.int (e:Int),.int (a:Int),.int (bm q.N o)] H =
  some (.int (bm q.N λb=>aS q.F e a b&&ik q.F q.N o a b),H):=by
 rw[ax (fn:=Le) rfl rfl]
 have hs:∀n:Nat,ur (n:Int)=_:=nO
 erw[xf,Le,h.vJ,h.rd he,h.ra he ha,cB,kX,Bh he]
 cases h0:aO q.N (λi=>aS q.F e a i&&o i)with
 |false=>
  rw[Bool.not_false,aA]
  refine congrArg some (Prod.ext (congrArg V.int (aE λb hb=>?_)) rfl)
  cases hr:aS q.F e a b with
  |false=>rfl
  |true=>
   symm
   rw[Bool.true_and,bO]
   intro x hx hb
   rw[cZ hr]at hb
   cases ho:o x with
   |false=>rfl
   |true=>
    rw[← Bool.not_eq_true,aB]at h0
    exact absurd ⟨x,hx,by simp[hb.1,ho]⟩ h0
 |true=>
  rw[Bool.not_true,au]
  have hne:bm q.N (λi=>aS q.F e a i&&o i)≠0:=by
   have:=mS q.N (λi=>aS q.F e a i&&o i)
   simp only[h0,decide_eq_true_eq]at this;exact this
  cases hg:grow e with
  |true=>
   rw[aA,Ai _ _ _ hne]
   refine congrArg some (Prod.ext (congrArg V.int (aE λb hb=>?_)) rfl)
   cases hr:aS q.F e a b with
   |false=>rfl
   |true=>simp only[Bool.true_and,Bool.true_and];exact wZ hg hr hb
  |false=>
   rw[au]
   refine congrArg some (Prod.ext (congrArg V.int ?_) rfl)
   have h2:bM (bm q.N λb=>aS q.F e a b) (-(ur (bm q.N λi=>aS q.F e a i&&o i))-1)=bm q.N λb=>aS q.F e a b&&ik q.F q.N o a b:=by
    have:bm q.N (λi=>aS q.F e a i&&o i)=((eJ q.N (λi=>aS q.F e a i&&o i):Nat):Int):=rfl
    rw[this,nO,v8 (by have:=h.hN;exact Ar.Z1 [.e .x0 .aQ] (.e .x0 .ko) rfl this)]
    refine aE λb hb=>?_
    cases hr:aS q.F e a b with
    |false=>rfl
    |true=>simp only[Bool.true_and,Bool.true_and];exact wK hg hr ha hb
   exact h2
end
end
section
open PySem
noncomputable def bZ(F a b:Nat):Bool:=aS F 0 a b||aS F 1 a b||aS F 2 a b||aS F 3 a b
noncomputable def dn(F a b:Nat):Bool:=aS F 4 a b||aS F 5 a b||aS F 6 a b||aS F 7 a b
noncomputable def gu(k F a b:Nat):Bool:=match k with
 |3=>dn F a b
 |4=>bZ F a b
 |5=>bZ F a b||dn F a b
 |_=>false
noncomputable def w9(F N k t a b:Nat)(o:Nat→Bool):Bool:=match k with
 |1=>fu F t a b
 |2=>sD F a b
 |6=>nr F a b
 |k=>gu k F a b&&ik F N o a b
noncomputable def bk(F N m a b:Nat)(o:Nat→Bool):Bool:=w9 F N (m%8) (m/8) a b o
theorem ew{a b:Int}(h:a=b)(H:MH):some (V.int a,H)=some (V.int b,H):=by rw[h]
theorem l9{a b:Bool}(h:a=b)(H:MH):some (V.bool a,H)=some (V.bool b,H):=by rw[h]
theorem kM(b x y:Bool)(H:MH):xI b (some (V.bool x,H)) (some (V.bool y,H))=some (V.bool (if b then x else y),H):=by simp only[nS];cases b<;>rfl
theorem FU(b:Bool)(x y:Int)(H:MH):xI b (some (V.int x,H)) (some (V.int y,H))=some (V.int (if b then x else y),H):=by simp only[nS];cases b<;>rfl
section
variable {q:St} {H:MH} {d a b e t k:Nat} {o:Nat→Bool}
theorem jt(h:HP q H)(ha:a<q.N):ag PB (d+3) 24 [.ref 7,.int (a:Int),.int (bm q.N o)] H=some (.int (bm q.N λb=>bZ q.F a b&&ik q.F q.N o a b),H):=by
 rw[ax (fn:=Lf) rfl rfl]
 have r0:=bE (d:=d) (o:=o) (e:=0) h (by decide) ha
 have r1:=bE (d:=d) (o:=o) (e:=1) h (by decide) ha
 have r2:=bE (d:=d) (o:=o) (e:=2) h (by decide) ha
 have r3:=bE (d:=d) (o:=o) (e:=3) h (by decide) ha
 erw[xf,Lf,NS,qO,show ag PB (d+2) 23 [.ref 7,.int 0,.int (a:Int),.int (bm q.N o)] H=_ from r0,show ag PB (d+2) 23 [.ref 7,.int 1,.int (a:Int),.int (bm q.N o)] H=_ from r1,show ag PB (d+2) 23 [.ref 7,.int 2,.int (a:Int),.int (bm q.N o)] H=_ from r2,show ag PB (d+2) 23 [.ref 7,.int 3,.int (a:Int),.int (bm q.N o)] H=_ from r3,kZ,bT]
 refine ew (aE λb _=>?_) H
 unfold bZ
 cases aS q.F 0 a b<;>cases aS q.F 1 a b<;>cases aS q.F 2 a b<;>cases aS q.F 3 a b<;>cases ik q.F q.N o a b<;>rfl
theorem fv(h:HP q H)(ha:a<q.N):ag PB (d+3) 25 [.ref 7,.int (a:Int),.int (bm q.N o)] H=some (.int (bm q.N λb=>dn q.F a b&&ik q.F q.N o a b),H):=by
 rw[ax (fn:=Lg) rfl rfl]
 have r0:=bE (d:=d) (o:=o) (e:=4) h (by decide) ha
 have r1:=bE (d:=d) (o:=o) (e:=5) h (by decide) ha
 have r2:=bE (d:=d) (o:=o) (e:=6) h (by decide) ha
 have r3:=bE (d:=d) (o:=o) (e:=7) h (by decide) ha
 erw[xf,Lg,Mp,vk,show ag PB (d+2) 23 [.ref 7,.int 4,.int (a:Int),.int (bm q.N o)] H=_ from r0,show ag PB (d+2) 23 [.ref 7,.int 5,.int (a:Int),.int (bm q.N o)] H=_ from r1,show ag PB (d+2) 23 [.ref 7,.int 6,.int (a:Int),.int (bm q.N o)] H=_ from r2,show ag PB (d+2) 23 [.ref 7,.int 7,.int (a:Int),.int (bm q.N o)] H=_ from r3,kZ,bT]
 refine ew (aE λb _=>?_) H
 unfold dn
 cases aS q.F 4 a b<;>cases aS q.F 5 a b<;>cases aS q.F 6 a b<;>cases aS q.F 7 a b<;>cases ik q.F q.N o a b<;>rfl
theorem yX(h:HP q H)(ha:a<q.N):ag PB (d+4) 26 [.ref 7,.int (a:Int),.int (bm q.N o)] H=some (.int (bm q.N λb=>(bZ q.F a b||dn q.F a b)&&ik q.F q.N o a b),H):=by
 rw[ax (fn:=Lh) rfl rfl]
 erw[xf,Lh,jt h ha,fv h ha,bT]
 refine ew (aE λb _=>?_) H
 cases bZ q.F a b<;>cases dn q.F a b<;>cases ik q.F q.N o a b<;>rfl
theorem vr(h:HP q H)(ha:a<q.N)(hk:k=3∨k=4∨k=5):ag PB (d+5) 27 [.ref 7,.int (k:Int),.int (a:Int),.int (bm q.N o)] H=some (.int (bm q.N λb=>gu k q.F a b&&ik q.F q.N o a b),H):=by
 rw[ax (fn:=G_) rfl rfl]
 rcases hk with rfl|rfl|rfl
 ·erw[xf,G_,show decide (((3:Nat):Int)=3)=true from rfl,fv h ha];rfl
 ·erw[xf,G_,show decide (((4:Nat):Int)=3)=false from rfl,show decide (((4:Nat):Int)=4)=true from rfl,jt h ha];rfl
 ·erw[xf,G_,show decide (((5:Nat):Int)=3)=false from rfl,show decide (((5:Nat):Int)=4)=false from rfl,show decide (((5:Nat):Int)=5)=true from rfl,yX h ha];rfl
theorem ee(a b:Nat):decide (((a:Nat):Int)=((b:Nat):Int))=Nat.beq a b:=by
 rw[Bool.eq_iff_iff,decide_eq_true_eq,ae];exact Ar.Z2 [] (.B (.Q (.c .x0) (.c .x1)) (.q .x0 .x1)) rfl
theorem me(h:HP q H)(ha:a<q.N)(ht:t<2)(hk:1≤k)(hk':k≤6):ag PB (d+6) 28 [.ref 7,.int (t:Int),.int (k:Int),.int (a:Int),.int (bm q.N o)] H =
  some (.int (bm q.N λb=>bk q.F q.N (k+8*t) a b o),H):=by
 rw[ax (fn:=FX) rfl rfl]
 have e1:(k+8*t)%8=k:=by exact Ar.Z4 [.e .x0 .n6,.d 8 .x3 .x1 (.a .x0 (.m 8 .x2))] (.q .x1 .x0) rfl hk' (Ar.md _ 8 rfl)
 have e2:(k+8*t)/8=t:=by exact Ar.Z4 [.q .x0 .x1,.d 8 .x3 .x0 (.a .x1 (.m 8 .x2))] (.q .x3 .x2) rfl e1 (Ar.md _ 8 rfl)
 have key:(λb=>bk q.F q.N (k+8*t) a b o)=λb=>w9 q.F q.N k t a b o:=by funext b;unfold bk;simp only[e1,e2]
 simp only[key]
 have hc:k=1∨k=2∨k=6∨k=3∨k=4∨k=5:=by exact Ar.Z1 [.e .n1 .x0,.e .x0 .n6] (.D (.q .x0 .n1) (.D (.q .x0 .n2) (.D (.q .x0 .n6) (.D (.q .x0 .n3) (.D (.q .x0 .n4) (.q .x0 .n5)))))) rfl hk hk'
 rcases hc with rfl|rfl|rfl|hk
 ·erw[xf,FX,show decide (((1:Nat):Int)=1)=true from rfl,h.GI,h.pt ht,h.pw ht ha];rfl
 ·erw[xf,FX,show decide (((2:Nat):Int)=1)=false from rfl,show decide (((2:Nat):Int)=2)=true from rfl,h.KG,h.kn ha];rfl
 ·erw[xf,FX,show decide (((6:Nat):Int)=1)=false from rfl,show decide (((6:Nat):Int)=2)=false from rfl,show decide (((6:Nat):Int)=6)=true from rfl,h.Jr,h.kg ha];rfl
 ·have n1:decide ((k:Int)=1)=false:=by rw[decide_eq_false_iff_not];exact Ar.Z1 [.D (.q .x0 .n3) (.D (.q .x0 .n4) (.q .x0 .n5))] (.N (.Q (.c .x0) .n1)) rfl hk
  have n2:decide ((k:Int)=2)=false:=by rw[decide_eq_false_iff_not];exact Ar.Z1 [.D (.q .x0 .n3) (.D (.q .x0 .n4) (.q .x0 .n5))] (.N (.Q (.c .x0) .n2)) rfl hk
  have n6:decide ((k:Int)=6)=false:=by rw[decide_eq_false_iff_not];exact Ar.Z1 [.D (.q .x0 .n3) (.D (.q .x0 .n4) (.q .x0 .n5))] (.N (.Q (.c .x0) .n6)) rfl hk
  erw[xf,FX,n1,n2,n6,vr h ha hk]
  rcases hk with rfl|rfl|rfl<;>rfl
theorem CE(hd:d<8):iS (d:Int) 2=(pq d:Nat):=by
 rcases rI hd with rfl|rfl|rfl|rfl|rfl|rfl|rfl|rfl<;>rfl
theorem yI(d:Nat):decide (((d:Nat):Int)<0)=false:=by rw[decide_eq_false_iff_not];exact Ar.Z1 [] (.N (.L (.c .x0) .n0)) rfl
theorem kR(h:HP q H)(ha:a<q.N)(hb:b<q.N):ag PB (e+2) 12 [.ref 7,.int (a:Int),.int (b:Int)] H=some (.int (bm q.N λx=>eV q.F a b x),H):=by
 rw[ax (fn:=Jz) rfl rfl]
 by_cases hd:∃d,aS q.F d a b=true
 ·obtain⟨d,hd⟩:=hd
  have hl:=dG hd
  erw[xf,Jz,eD h ha hb,mX hd,yI,h.vJ,h.rd hl,h.ra hl ha,CE hl,h.rd (jS d),h.ra (jS d) hb,cB]
  refine ew (aE λx _=>?_) H
  rw[dO hl,Bool.eq_iff_iff,cZ hd,Bool.and_eq_true]
 ·have hd:∀d,aS q.F d a b=false:=λd=>by
   cases hr:aS q.F d a b with
   |false=>rfl
   |true=>exact absurd ⟨d,hr⟩ hd
  erw[xf,Jz,eD h ha hb,mW hd,show decide ((-1:Int)<0)=true from rfl]
  rw[← cW q.N]
  refine ew (aE λx _=>?_) H
  cases hx:eV q.F a b x with
  |false=>rfl
  |true=>
   rw[cq]at hx
   refine ay (hx) λe h1 h2=>?_
   have:=cN h1 h2
   rw[hd e]at this;exact bY this
noncomputable def kP(F a b c:Nat):Bool:=aO 8 λd=>aS F d a b&&(aS F d a c||aS F d c a||Nat.beq c a)
theorem vL{F c:Nat}(hd:aS F d a b=true):kP F a b c=(aS F d a c||aS F d c a||Nat.beq c a):=by
 rw[Bool.eq_iff_iff]
 unfold kP
 rw[aB]
 constructor
 ·rintro⟨e,_,he⟩
  simp only[Bool.and_eq_true]at he
  have:=eR hd he.1
  subst this;exact he.2
 ·intro hx;exact⟨d,dG hd,by simp only[hd,hx];rfl⟩
theorem bh{N s:Nat}(hs:s<N)(hN:N≤25):binI .shl 1 (s:Int)=some (bm N λi=>Nat.beq i s):=by
 show(if decide (0≤(s:Int))&&decide ((s:Int)<4096)&&small 1 then some (1*2 ^ ((s:Int)).toNat)else none)=_
 rw[if_pos (by simp[small];exact Ar.Z2 [.l .x0 .x1,.e .x1 .aQ] (.L (.c .x0) .il) rfl hs hN),Int.toNat_natCast,Dr hs]
 refine congrArg some (aE λi _=>?_)
 rw[Bool.eq_iff_iff,ae];simp
theorem q9{c:Nat}(h:HP q H)(ha:a<q.N)(hb:b<q.N)(hc:c<q.N):ag PB (e+3) 14 [.ref 7,.int (a:Int),.int (b:Int),.int (c:Int)] H=some (.bool (kP q.F a b c),H):=by
 have line:ag PB (e+2) 13 [.ref 7,.int (a:Int),.int (b:Int)] H=some (.int (bm q.N λc=>kP q.F a b c),H):=by
  rw[ax (fn:=JA) rfl rfl]
  by_cases hd:∃d,aS q.F d a b=true
  ·obtain⟨d,hd⟩:=hd
   have hl:=dG hd
   erw[xf,JA,eD h ha hb,mX hd,yI,h.vJ,h.rd hl,h.ra hl ha,CE hl,h.rd (jS d),h.ra (jS d) ha,bT,bh ha h.hN]
   refine ew (aE λx _=>?_) H
   rw[dO hl,vL hd]
  ·have hd:∀d,aS q.F d a b=false:=λd=>by
    cases hr:aS q.F d a b with
    |false=>rfl
    |true=>exact absurd ⟨d,hr⟩ hd
   erw[xf,JA,eD h ha hb,mW hd,show decide ((-1:Int)<0)=true from rfl]
   rw[← cW q.N]
   refine ew (aE λx _=>?_) H
   symm
   unfold kP
   rw[← Bool.not_eq_true,aB]
   rintro⟨e,_,he⟩
   rw[hd e]at he;exact bY he
 rw[ax (fn:=G9) rfl rfl]
 erw[xf,G9,line,kS,hc,decide_true,Bool.true_and]
end
end
section
open PySem
theorem Bw(d:Nat)(H:MH):(ag PB (d+2) 9 [.int (2 ^ 0)] H,ag PB (d+2) 9 [.int (2 ^ 1)] H,ag PB (d+2) 9 [.int (2 ^ 2)] H,ag PB (d+2) 9 [.int (2 ^ 3)] H,ag PB (d+2) 9 [.int (2 ^ 4)] H,ag PB (d+2) 9 [.int (2 ^ 5)] H,ag PB (d+2) 9 [.int (2 ^ 6)] H,ag PB (d+2) 9 [.int (2 ^ 7)] H,ag PB (d+2) 9 [.int (2 ^ 8)] H,ag PB (d+2) 9 [.int (2 ^ 9)] H,ag PB (d+2) 9 [.int (2 ^ 10)] H,ag PB (d+2) 9 [.int (2 ^ 11)] H,ag PB (d+2) 9 [.int (2 ^ 12)] H) =
 (some (.int 0,H),some (.int 1,H),some (.int 2,H),some (.int 3,H),some (.int 4,H),some (.int 5,H),some (.int 6,H),some (.int 7,H),some (.int 8,H),some (.int 9,H),some (.int 10,H),some (.int 11,H),some (.int 12,H)):=by kernel_rfl
theorem yq(d:Nat)(H:MH):(ag PB (d+2) 9 [.int (2 ^ 13)] H,ag PB (d+2) 9 [.int (2 ^ 14)] H,ag PB (d+2) 9 [.int (2 ^ 15)] H,ag PB (d+2) 9 [.int (2 ^ 16)] H,ag PB (d+2) 9 [.int (2 ^ 17)] H,ag PB (d+2) 9 [.int (2 ^ 18)] H,ag PB (d+2) 9 [.int (2 ^ 19)] H,ag PB (d+2) 9 [.int (2 ^ 20)] H,ag PB (d+2) 9 [.int (2 ^ 21)] H,ag PB (d+2) 9 [.int (2 ^ 22)] H,ag PB (d+2) 9 [.int (2 ^ 23)] H,ag PB (d+2) 9 [.int (2 ^ 24)] H) =
 (some (.int 13,H),some (.int 14,H),some (.int 15,H),some (.int 16,H),some (.int 17,H),some (.int 18,H),some (.int 19,H),some (.int 20,H),some (.int 21,H),some (.int 22,H),some (.int 23,H),some (.int 24,H)):=by kernel_rfl
theorem Bx{k:Nat}(d:Nat)(H:MH)(hk:k<25):ag PB (d+2) 9 [.int (2 ^ k)] H=some (.int k,H):=by
 have h1:=Bw d H
 have h2:=yq d H
 simp only[Prod.mk.injEq]at h1 h2
 obtain⟨a0,a1,a2,a3,a4,a5,a6,a7,a8,a9,eX,fK,gy⟩:=h1
 obtain⟨ia,kh,ky,mH,pg,q8,zY,Dh,Jq,KA,KD,OK⟩:=h2
 match k,hk with
 |0,_=>exact a0
 |1,_=>exact a1
 |2,_=>exact a2
 |3,_=>exact a3
 |4,_=>exact a4
 |5,_=>exact a5
 |6,_=>exact a6
 |7,_=>exact a7
 |8,_=>exact a8
 |9,_=>exact a9
 |10,_=>exact eX
 |11,_=>exact fK
 |12,_=>exact gy
 |13,_=>exact ia
 |14,_=>exact kh
 |15,_=>exact ky
 |16,_=>exact mH
 |17,_=>exact pg
 |18,_=>exact q8
 |19,_=>exact zY
 |20,_=>exact Dh
 |21,_=>exact Jq
 |22,_=>exact KA
 |23,_=>exact KD
 |24,_=>exact OK
 |_+25,h=>exact absurd h (by exact Ar.Z1 [] (.N (.l (.a .x0 .aQ) .aQ)) rfl)
theorem yt{N k:Nat}{p:Nat→Bool}(d:Nat)(H:MH)(hN:N≤25)(hk:k<N)(hp:∀i,i<N→p i=Nat.beq i k):ag PB (d+2) 9 [.int (bm N p)] H=some (.int k,H):=by
 have:bm N p=2 ^ k:=by
  have h1:=bh hk hN
  have h2:binI .shl 1 (k:Int)=some (2 ^ k):=by
   show(if decide (0≤(k:Int))&&decide ((k:Int)<4096)&&small 1 then some (1*2 ^ ((k:Int)).toNat)else none)=_
   rw[if_pos (by simp[small];exact Ar.Z2 [.e .x0 .aQ,.l .x1 .x0] (.L (.c .x1) .il) rfl hN hk),Int.toNat_natCast,Int.one_mul]
  rw[aE hp]
  exact Option.some.inj (h1.symm.trans h2)
 rw[this];exact Bx d H (by exact Ar.Z2 [.e .x0 .aQ,.l .x1 .x0] (.l .x1 .aQ) rfl hN hk)
structure hZ (q:St):Prop where
 code:∀x,x<q.N→q.c x=0∨(1≤q.c x%8∧q.c x%8≤6∧q.c x/8<2)
 jy:∀t,t<2→q.k t<q.N
 oB:∀t,t<2→q.c (q.k t)=6+8*t
 yd:∀x t,x<q.N→t<2→q.c x=6+8*t→x=q.k t
 cast:∀i a b c e,i<4→bj q.F q.R q.wg i=some (a,b,c,e)→a<q.N∧b<q.N∧c<q.N∧e<q.N∧a≠c
section
variable {q:St} {H:MH} {d a b e t k:Nat} {o:Nat→Bool}
theorem hZ.Mi(m:hZ q)(ht:t<2)(i:Nat)(hi:i<q.N):(q.sd t i&&q.kd 6 i)=Nat.beq i (q.k t):=by
 rw[Bool.eq_iff_iff,ae]
 unfold St.sd St.kd nG Bo
 simp only[Bool.and_eq_true,Bool.not_eq_true',aq,ae]
 constructor
 ·rintro⟨⟨h1,h2⟩,h3⟩
  exact m.yd i t hi ht (by exact Ar.Z4 [.q .x0 .n6,.q .x2 .x3,.d 8 .x2 .x0 .x1] (.q .x1 (.a .n6 (.m 8 .x3))) rfl h3 h2 (Ar.md _ 8 rfl))
 ·rintro rfl
  rw[m.oB t ht];exact Ar.Z3 [.d 8 .x1 .x0 (.a .n6 (.m 8 .x2))] (.C (.C (.N (.q (.a .n6 (.m 8 .x2)) .n0)) (.q .x1 .x2)) (.q .x0 .n6)) rfl (Ar.md _ 8 rfl)
theorem dN(h:HP q H)(m:hZ q)(ht:t<2):ag PB (d+3) 31 [.ref 47,.int (t:Int)] H=some (.int (q.k t),H):=by
 rw[ax (fn:=Lk) rfl rfl]
 erw[xf,Lk,h.pS,h.st ht,h.pK,h.k6,cB,yt d H h.hN (m.jy t ht) (m.Mi ht)]
theorem ni{F N m a b:Nat}(hm:m%8=0):bk F N m a b o=false:=by unfold bk;rw[hm];rfl
theorem gF(a b:Nat):dst a b=dst b a:=by unfold dst;exact Ar.Z4 [.s .x0 .x1 .x2] (.q (.a .x0 .x3) (.a .x3 .x0)) rfl (Ar.ts _ _)
theorem En(F a b:Nat):nr F a b=nr F b a:=by unfold nr;rw[gF (a%F),gF (a/F)]
theorem Eo(F a b:Nat):sD F a b=sD F b a:=by unfold sD;rw[gF (a%F),gF (a/F)]
theorem yW(F a b:Nat):fu F 0 a b=fu F 1 b a:=by unfold fu;rw[gF (a%F)];rfl
theorem BZ(F a b:Nat)(ht:t<2):fu F (1-t) a b=fu F t b a:=by
 have:t=0∨t=1:=by exact Ar.Z1 [.l .x0 .n2] (.D (.q .x0 .n0) (.q .x0 .n1)) rfl ht
 rcases this with rfl|rfl
 ·exact(yW F b a).symm
 ·exact yW F a b
theorem jq(F a b:Nat):bZ F a b=bZ F b a:=by
 unfold bZ
 simp only[← dO (d:=0) (a:=a) (b:=b) (by decide),← dO (d:=1) (a:=a) (b:=b) (by decide),← dO (d:=2) (a:=a) (b:=b) (by decide),← dO (d:=3) (a:=a) (b:=b) (by decide)]
 show(aS F 2 b a||aS F 3 b a||aS F 0 b a||aS F 1 b a)=_
 cases aS F 0 b a<;>cases aS F 1 b a<;>cases aS F 2 b a<;>cases aS F 3 b a<;>rfl
theorem iU(F a b:Nat):dn F a b=dn F b a:=by
 unfold dn
 simp only[← dO (d:=4) (a:=a) (b:=b) (by decide),← dO (d:=5) (a:=a) (b:=b) (by decide),← dO (d:=6) (a:=a) (b:=b) (by decide),← dO (d:=7) (a:=a) (b:=b) (by decide)]
 show(aS F 6 b a||aS F 7 b a||aS F 4 b a||aS F 5 b a)=_
 cases aS F 4 b a<;>cases aS F 5 b a<;>cases aS F 6 b a<;>cases aS F 7 b a<;>rfl
theorem g7(h:HP q H):ag PB (d+1) 32 [.ref 47] H=some (.int (bm q.N λx=>q.kd 4 x||q.kd 5 x),H):=by
 rw[ax (fn:=Ll) rfl rfl]
 erw[xf,Ll,h.pK,h.k4,h.k5,bT]
theorem gY(h:HP q H):ag PB (d+1) 33 [.ref 47] H=some (.int (bm q.N λx=>q.kd 3 x||q.kd 5 x),H):=by
 rw[ax (fn:=Lm) rfl rfl]
 erw[xf,Lm,h.pK,h.k3,h.k5,bT]
theorem Cq(ht:t<2):(1:Int)-(t:Int)=((1-t:Nat):Int):=by exact Ar.Z2 [.l .x0 .n2,.s .x1 .n1 .x0] (.Q (.s .n1 (.c .x0)) (.c .x1)) rfl ht (Ar.ts _ _)
theorem qI(h:HP q H)(ht:t<2)(ha:a<q.N):ag PB (d+1) 34 [.ref 47,.int (a:Int),.int (t:Int)] H=some (.int (bm q.N λx=>(fu q.F (1-t) a x&&q.kd 1 x)&&q.sd t x),H):=by
 rw[ax (fn:=Ln) rfl rfl]
 erw[xf,Ln,h.pG,h.GI,Cq ht,h.pt (show 1-t<2 by exact Ar.Z2 [.s .x1 .n1 .x0] (.l .x1 .n2) rfl (Ar.ts _ _)),h.pw (show 1-t<2 by exact Ar.Z2 [.s .x1 .n1 .x0] (.l .x1 .n2) rfl (Ar.ts _ _)) ha,h.pK,h.k1,h.pS,h.st ht,cB]
noncomputable def iu(q:St)(t a x:Nat):Bool:=q.sd t x&&(fu q.F (1-t) a x&&q.kd 1 x||(sD q.F a x&&q.kd 2 x||nr q.F a x&&q.kd 6 x))
theorem o7(h:HP q H)(ht:t<2)(ha:a<q.N):ag PB (d+2) 35 [.ref 47,.int (a:Int),.int (t:Int)] H=some (.int (bm q.N λx=>iu q t a x),H):=by
 rw[ax (fn:=Lo) rfl rfl]
 erw[xf,Lo,h.pG,h.KG,h.kn ha,h.pK,h.k2,h.Jr,h.kg ha,h.k6,qI h ht ha,h.pS,h.st ht,cB,bT]
 refine ew (aE λx _=>?_) H
 unfold iu
 cases q.sd t x<;>cases fu q.F (1-t) a x<;>cases q.kd 1 x<;>cases sD q.F a x<;>cases q.kd 2 x<;>cases nr q.F a x<;>cases q.kd 6 x<;>rfl
noncomputable def jl(q:St)(o:Nat→Bool)(a x:Nat):Bool:=(bZ q.F a x&&ik q.F q.N o a x)&&(q.kd 4 x||q.kd 5 x)||(dn q.F a x&&ik q.F q.N o a x)&&(q.kd 3 x||q.kd 5 x)
theorem kA{N:Nat}{p:Nat→Bool}(h:aO N p=false)(i:Nat)(hi:i<N):p i=false:=by
 cases hp:p i with
 |false=>rfl
 |true=>rw[aB.mpr ⟨i,hi,hp⟩]at h;exact pF h
theorem Bu(h:HP q H)(ha:a<q.N):ag PB (d+4) 36 [.ref 47,.int (a:Int),.int (bm q.N o)] H=some (.int (bm q.N λx=>jl q o a x),H):=by
 rw[ax (fn:=Lp) rfl rfl]
 erw[xf,Lp,g7 h,gY h,mS,h.pG,jt h ha,fv h ha,cB,bT,kZ]
 cases h1:aO q.N (λx=>q.kd 4 x||q.kd 5 x)with
 |true=>
  cases h2:aO q.N (λx=>q.kd 3 x||q.kd 5 x)with
  |true=>simp only[aA];rfl
  |false=>
   simp only[aA,au]
   refine ew (aE λx hx=>?_) H
   unfold jl
   simp only[kA h2 x hx,Bool.and_false,Bool.or_false]
 |false=>
  cases h2:aO q.N (λx=>q.kd 3 x||q.kd 5 x)with
  |true=>
   simp only[aA,au]
   refine ew (aE λx hx=>?_) H
   unfold jl
   simp only[kA h1 x hx,Bool.and_false,Bool.false_or]
  |false=>
   rw[au,au,← cW q.N]
   refine ew (aE λx hx=>?_) H
   unfold jl
   simp only[kA h1 x hx,kA h2 x hx,Bool.and_false,Bool.and_false];rfl
end
end
section
open PySem
section
variable {q:St} {H:MH} {d a b e t k:Nat} {o:Nat→Bool}
noncomputable def dk(q:St)(o:Nat→Bool)(a x:Nat):Bool:=bk q.F q.N (q.c x) x a o
theorem qt{j x:Nat}(h:q.c x%8=k):q.kd j x=Nat.beq k j:=by unfold St.kd Bo;rw[h]
theorem zj{x s:Nat}(h0:q.c x≠0)(h:q.c x/8=s):q.sd t x=Nat.beq s t:=by
 unfold St.sd nG;rw[h]
 have:Nat.beq (q.c x) 0=false:=by simp only[aq];exact h0
 rw[this];rfl
theorem tS(k F a b:Nat):gu k F a b=gu k F b a:=by
 unfold gu;split<;>first|rfl|exact iU _ _ _|exact jq _ _ _|exact congr (congrArg or (jq _ _ _)) (iU _ _ _)
theorem ON:∀a b c:Bool,(a&&b&&(false||false)||c&&b&&(true||false))=(c&&b):=by decide
theorem OO:∀a b c:Bool,(a&&b&&(true||false)||c&&b&&(false||false))=(a&&b):=by decide
theorem OP:∀a b c:Bool,(a&&b&&(false||true)||c&&b&&(false||true))=((a||c)&&b):=by decide
theorem Js:∀a b c:Bool,(a&&b&&(false||false)||c&&b&&(false||false))=false:=by decide
theorem OW:∀s a b c:Bool,(s&&(a&&true||(b&&false||c&&false)))=(s&&a):=by decide
theorem OX:∀s a b c:Bool,(s&&(a&&false||(b&&true||c&&false)))=(s&&b):=by decide
theorem OY:∀s a b c:Bool,(s&&(a&&false||(b&&false||c&&true)))=(s&&c):=by decide
theorem KP:∀s a b c:Bool,(s&&(a&&false||(b&&false||c&&false)))=false:=by decide
theorem qR(m:hZ q){x:Nat}(hx:x<q.N):(∀t,t<2→iu q t a x=(q.sd t x&&Nat.ble (q.c x%8) 2&&dk q o a x||(q.sd t x&&Nat.beq (q.c x%8) 6&&dk q o a x))) ∧
  jl q o a x=((Nat.blt 2 (q.c x%8)&&Nat.blt (q.c x%8) 6)&&dk q o a x):=by
 unfold iu jl dk
 rcases m.code x hx with h0|⟨h1,h2,h3⟩
 ·have e:q.c x%8=0:=by rw[h0]
  have es:∀t,q.sd t x=false:=λt=>by unfold St.sd nG;rw[h0];rfl
  rw[ni e]
  simp only[qt e,es,e]
  refine⟨λt _=>rfl,?_⟩
  exact Js _ _ _
 ·have h0:q.c x≠0:=by rintro h;rw[h]at h1;simp at h1
  obtain⟨s,hs⟩:∃s,q.c x/8=s:=⟨_,rfl⟩
  obtain⟨k,hk⟩:∃k,q.c x%8=k:=⟨_,rfl⟩
  unfold bk
  simp only[qt hk,zj h0 hs,hk,hs]
  rw[hk]at h1 h2
  have hc:k=1∨k=2∨k=3∨k=4∨k=5∨k=6:=by exact Ar.Z4 [.e .x0 .n6,.e .n1 .x0,.q .x1 .x0,.d 8 .x3 .x1 .x2] (.D (.q .x0 .n1) (.D (.q .x0 .n2) (.D (.q .x0 .n3) (.D (.q .x0 .n4) (.D (.q .x0 .n5) (.q .x0 .n6)))))) rfl h2 h1 hk (Ar.md _ 8 rfl)
  have sw:∀t,t<2→∀z,(Nat.beq s t&&fu q.F (1-t) a x||z)=(Nat.beq s t&&fu q.F s x a||z):=λt ht z=>by
   cases hb:Nat.beq s t with
   |false=>rfl
   |true=>rw[Nat.eq_of_beq_eq_true hb,BZ _ _ _ ht]
  rcases hc with rfl|rfl|rfl|rfl|rfl|rfl
  ·refine⟨λt ht=>?_,Js _ _ _⟩
   have:=sw t ht false
   simp only[Bool.or_false,Bool.or_false]at this
   refine(OW _ _ _ _).trans (this.trans ?_)
   show _=(Nat.beq s t&&true&&fu q.F s x a||(Nat.beq s t&&false&&_))
   simp only[Bool.and_true,Bool.and_false,Bool.false_and,Bool.or_false]
  ·refine⟨λt ht=>?_,Js _ _ _⟩
   refine(OX _ _ _ _).trans ?_
   show _=(Nat.beq s t&&true&&sD q.F x a||(Nat.beq s t&&false&&_))
   simp only[Bool.and_true,Bool.and_false,Bool.false_and,Bool.or_false,Eo]
  ·refine⟨λt ht=>?_,?_⟩
   ·refine(KP _ _ _ _).trans ?_
    show _=(Nat.beq s t&&false&&_||(Nat.beq s t&&false&&_))
    rw[Bool.and_false,Bool.false_and];rfl
   ·refine(ON _ _ _).trans ?_
    rw[iU,g_];rfl
  ·refine⟨λt ht=>?_,?_⟩
   ·refine(KP _ _ _ _).trans ?_
    show _=(Nat.beq s t&&false&&_||(Nat.beq s t&&false&&_))
    rw[Bool.and_false,Bool.false_and];rfl
   ·refine(OO _ _ _).trans ?_
    rw[jq,g_];rfl
  ·refine⟨λt ht=>?_,?_⟩
   ·refine(KP _ _ _ _).trans ?_
    show _=(Nat.beq s t&&false&&_||(Nat.beq s t&&false&&_))
    rw[Bool.and_false,Bool.false_and];rfl
   ·refine(OP _ _ _).trans ?_
    rw[jq,iU,g_];rfl
  ·refine⟨λt ht=>?_,Js _ _ _⟩
   refine(OY _ _ _ _).trans ?_
   show _=(Nat.beq s t&&false&&nr q.F x a||(Nat.beq s t&&true&&nr q.F x a))
   simp only[Bool.and_true,Bool.and_false,Bool.false_and,Bool.false_or,En]
theorem qv(m:hZ q){x:Nat}(hx:x<q.N):dk q o a x=true→(q.sd 0 x=true∨q.sd 1 x=true)∧(Nat.ble (q.c x%8) 2||Nat.beq (q.c x%8) 6||(Nat.blt 2 (q.c x%8)&&Nat.blt (q.c x%8) 6))=true:=by
 intro h
 rcases m.code x hx with h0|⟨h1,h2,h3⟩
 ·unfold dk at h;rw[h0,ni rfl]at h;exact bY h
 ·have h0:q.c x≠0:=by rintro h;rw[h]at h1;simp at h1
  refine⟨?_,?_⟩
  ·simp only[zj h0 rfl,zj h0 rfl,ae,ae];exact Ar.Z3 [.l .x0 .n2,.d 8 .x0 .x2 .x1] (.D (.q .x0 .n0) (.q .x0 .n1)) rfl h3 (Ar.md _ 8 rfl)
  ·simp only[Bool.or_eq_true,Bool.and_eq_true,b5,aC,ae];exact Ar.Z3 [.e .x0 .n6,.d 8 .x2 .x0 .x1] (.D (.D (.e .x0 .n2) (.q .x0 .n6)) (.C (.l .n2 .x0) (.l .x0 .n6))) rfl h2 (Ar.md _ 8 rfl)
theorem Af(m:hZ q){x:Nat}(hx:x<q.N):(iu q 0 a x||iu q 1 a x||jl q o a x)=dk q o a x:=by
 refine dd (qR (a:=a) (o:=o) m hx) λs1 s2=>?_
 simp only[s1 0 (by decide),s1 1 (by decide),s2]
 cases h:dk q o a x with
 |false=>simp only[Bool.and_false,Bool.or_false]
 |true=>
  obtain⟨k1,k2⟩:=qv m hx h
  revert k1 k2
  generalize q.sd 0 x=u;generalize q.sd 1 x=v;generalize Nat.ble (q.c x%8) 2=w;generalize Nat.beq (q.c x%8) 6=y;generalize(Nat.blt 2 (q.c x%8)&&Nat.blt (q.c x%8) 6)=z
  revert u v w y z;decide
theorem vT(m:hZ q){x:Nat}(hx:x<q.N)(ht:t<2):(iu q t a x||jl q o a x&&q.sd t x)=(q.sd t x&&dk q o a x):=by
 refine dd (qR (a:=a) (o:=o) m hx) λs1 s2=>?_
 simp only[s1 t ht,s2]
 cases h:dk q o a x with
 |false=>simp only[Bool.and_false,Bool.or_false,Bool.false_and]
 |true=>
  refine dd (qv m hx h) λ_ k2=>?_
  revert k2
  generalize q.sd t x=u;generalize Nat.ble (q.c x%8) 2=w;generalize Nat.beq (q.c x%8) 6=y;generalize(Nat.blt 2 (q.c x%8)&&Nat.blt (q.c x%8) 6)=z
  revert u w y z;decide
theorem eB(h:HP q H)(m:hZ q)(ha:a<q.N):ag PB (d+5) 37 [.ref 47,.int (a:Int),.int (bm q.N o)] H=some (.int (bm q.N λx=>dk q o a x),H):=by
 rw[ax (fn:=Lq) rfl rfl]
 have w0:=o7 (d:=d+2) (t:=0) h (by decide) ha
 have w1:=o7 (d:=d+2) (t:=1) h (by decide) ha
 erw[xf,Lq,show ag PB (d+4) 35 [.ref 47,.int (a:Int),.int 0] H=_ from w0,show ag PB (d+4) 35 [.ref 47,.int (a:Int),.int 1] H=_ from w1,Bu h ha,bT]
 exact ew (aE λx hx=>Af m hx) H
theorem rj{N:Nat}{p r:Nat→Bool}:aO N (λx=>p x||r x)=(aO N p||aO N r):=by
 induction N with
 |zero=>rfl
 |succ n ih=>unfold aO;rw[ih];show(aO n p||aO n r||(p n||r n))=_;generalize aO n p=a;generalize aO n r=b;generalize p n=c;generalize r n=e;revert a b c e;decide
theorem any_congr{N:Nat}{p r:Nat→Bool}(h:∀x,x<N→p x=r x):aO N p=aO N r:=by
 induction N with
 |zero=>rfl
 |succ n ih=>unfold aO;simp only[ih λx hx=>h x (by exact Ar.Z2 [.l .x0 .x1] (.l .x0 (.a .x1 .n1)) rfl hx),h n (by exact Ar.Z1 [] (.l .x0 (.a .x0 .n1)) rfl)]
theorem s6{N:Nat}{p r:Nat→Bool}(h:∀x,x<N→r x=true→p x=true)(hp:aO N p=false):aO N r=false:=by
 rw[← Bool.not_eq_true,aB]
 rintro⟨x,hx,hr⟩
 rw[← Bool.not_eq_true,aB]at hp
 exact hp ⟨x,hx,h x hx hr⟩
theorem hM(h:HP q H)(m:hZ q)(ha:a<q.N)(ht:t<2):ag PB (d+5) 38 [.ref 47,.int (a:Int),.int (t:Int),.int (bm q.N o)] H=some (.bool (aO q.N λx=>q.sd t x&&dk q o a x),H):=by
 have key:(aO q.N λx=>q.sd t x&&dk q o a x)=(aO q.N (λx=>iu q t a x)||(aO q.N (λx=>(bZ q.F a x&&ik q.F q.N o a x)&&((q.kd 4 x||q.kd 5 x)&&q.sd t x))||aO q.N (λx=>(dn q.F a x&&ik q.F q.N o a x)&&((q.kd 3 x||q.kd 5 x)&&q.sd t x)))):=by
  rw[← rj,← rj]
  refine any_congr λx hx=>?_
  rw[← vT m hx ht]
  unfold jl
  generalize iu q t a x=u;generalize(bZ q.F a x&&ik q.F q.N o a x)=v;generalize(q.kd 4 x||q.kd 5 x)=w;generalize(dn q.F a x&&ik q.F q.N o a x)=y;generalize(q.kd 3 x||q.kd 5 x)=z;generalize q.sd t x=s
  revert u v w y z s;decide
 rw[key,ax (fn:=Lr) rfl rfl]
 erw[xf,Lr,o7 h ht ha,mS,vZ,h.pG,h.pS,h.st ht,g7 h,gY h,jt h ha,fv h ha,cB]
 cases aO q.N (λx=>iu q t a x)with
 |true=>exact aA _ _
 |false=>
  simp only[au,Bool.false_or]
  have n1:aO q.N (λx=>(q.kd 4 x||q.kd 5 x)&&q.sd t x)=false→aO q.N (λx=>(bZ q.F a x&&ik q.F q.N o a x)&&((q.kd 4 x||q.kd 5 x)&&q.sd t x))=false:=s6 λx _ hx=>(Bool.and_eq_true _ _▸hx).2
  have n2:aO q.N (λx=>(q.kd 3 x||q.kd 5 x)&&q.sd t x)=false→aO q.N (λx=>(dn q.F a x&&ik q.F q.N o a x)&&((q.kd 3 x||q.kd 5 x)&&q.sd t x))=false:=s6 λx _ hx=>(Bool.and_eq_true _ _▸hx).2
  revert n1 n2
  generalize aO q.N (λx=>(bZ q.F a x&&ik q.F q.N o a x)&&((q.kd 4 x||q.kd 5 x)&&q.sd t x))=u
  generalize aO q.N (λx=>(dn q.F a x&&ik q.F q.N o a x)&&((q.kd 3 x||q.kd 5 x)&&q.sd t x))=v
  generalize aO q.N (λx=>(q.kd 4 x||q.kd 5 x)&&q.sd t x)=w
  generalize aO q.N (λx=>(q.kd 3 x||q.kd 5 x)&&q.sd t x)=y
  simp only[kM]
  intro n1 n2
  refine l9 ?_ H
  revert w y u v;decide
end
end
section
open PySem
variable (d:Nat) (t:E) (b:List S) (g:Nat) (ρ:Loc) (H:MH) (K:KS) (v:V) (q:Bool)
theorem NJ:kW d t b g ρ K (v,H)=tO v H (Mg d t b g ρ H K):=rfl
theorem Mh:Mg d t b g ρ H K q=xI q (xB d b ρ H (kFor (xW d t b g) K)) (K (.bf,ρ,H)):=rfl
theorem Ob:xS d (.zR t b) ρ H K=xW d t b turns ρ H K:=rfl
theorem jw:xW d t b (g+1) ρ H K=xE d t ρ H (kW d t b g ρ K):=rfl
theorem sP{put:Loc→V→Option Loc}(B:DS)(n i:Nat){l:List V}(hl:aj H n=some l):rL put B n (g+1) i ρ H K=match l[i]? with
  |none=>K (.bf,ρ,H)
  |some v=>zO (put ρ v) λρ=>B ρ H (kFor (rL put B n g (i+1)) K):=
 (congrArg (λo=>xO o _) hl).trans (CB _ _)
theorem gg(k n i:Nat){l:List V}(hl:aj H n=some l):iw d k b n (g+1) i ρ H K=match l[i]? with
  |none=>K (.bf,ρ,H)
  |some v=>xB d b (aX ρ k v) H (kFor (iw d k b n g (i+1)) K):=sP g ρ H K (xB d b) n i hl
section
variable {σ:Type} {d k n:Nat} {b:List S}
noncomputable def nT(K:KS):Prop:=∀ρ H,K (.cnt,ρ,H)=K (.bf,ρ,H)
theorem fx(x:DS)(K:KS):nT (kFor x K):=λ_ _=>rfl
theorem lD(P:σ→Loc→MH→Prop)(step:σ→V→σ):∀(l:List V),
  (∀v∈l,∀st ρ H,P st ρ H→∃ρ' H',P (step st v) ρ' H'∧∀K,nT K→xB d b (aX ρ k v) H K=K (.bf,ρ',H')) →
  ∀st ρ H,P st ρ H→∃ρ' H',P (l.foldl step st) ρ' H'∧∀K,cj d k b l ρ H K=K (.bf,ρ',H')
 | [],_,st,ρ,H,hp=>⟨ρ,H,hp,λ_=>rfl⟩
 |v::l,hb,st,ρ,H,hp=>by
  refine cQ (hb v (.head _) st ρ H hp) λρ1 H1 p1 e1=>?_
  refine cQ (lD P step l (λu hu=>hb u (.tail _ hu)) (step st v) ρ1 H1 p1) λρ2 H2 p2 e2=>?_
  exact⟨ρ2,H2,p2,λK=>by simp only[eH,e1 _ (fx _ _),fA,e2]⟩
theorem m_(P:σ→Loc→MH→Prop)(step:σ→V→σ)(l:List V)(hl:∀st ρ H,P st ρ H→aj H n=some l)
  (hb:∀v∈l,∀st ρ H,P st ρ H→∃ρ' H',P (step st v) ρ' H'∧∀K,nT K→xB d b (aX ρ k v) H K=K (.bf,ρ',H')) :
  ∀(r:List V) (i g:Nat),l.drop i=r→r.length<g→∀st ρ H,P st ρ H→∃ρ' H',P (r.foldl step st) ρ' H'∧∀K,iw d k b n g i ρ H K=K (.bf,ρ',H')
 | [],i,g+1,hr,_,st,ρ,H,hp=>by
  refine⟨ρ,H,hp,λK=>?_⟩
  rw[gg _ _ _ _ _ _ _ _ _ (hl st ρ H hp)]
  have:l[i]?=none:=by rw[List.getElem?_eq_none_iff];have:=congrArg List.length hr;simp at this;exact Ar.Z3 [.q .x0 .n0,.s .x0 .x1 .x2] (.e .x1 .x2) rfl this (Ar.ts _ _)
  rw[this]
 |v::r,i,g+1,hr,hg,st,ρ,H,hp=>by
  have hi:l[i]?=some v:=by
   have:=congrArg (·[0]?) hr
   simpa[List.getElem?_drop]using this
  refine cQ (hb v (List.mem_of_getElem? hi) st ρ H hp) λρ1 H1 p1 e1=>?_
  have hr':l.drop (i+1)=r:=by
   have:=congrArg (List.drop 1) hr
   simpa[List.drop_drop,Nat.add_comm]using this
  refine cQ (m_ P step l hl hb r (i+1) g hr' (by simp at hg;exact Ar.Z2 [.l .x0 .x1] (.l .x0 .x1) rfl hg) (step st v) ρ1 H1 p1) λρ2 H2 p2 e2=>?_
  refine⟨ρ2,H2,p2,λK=>?_⟩
  rw[gg _ _ _ _ _ _ _ _ _ (hl st ρ H hp),hi]
  show xB d b (aX ρ k v) H _=_
  rw[e1 _ (fx _ _)];exact e2 K
theorem m9(P:σ→Loc→MH→Prop)(step:σ→V→σ)(l:List V)(hl:∀st ρ H,P st ρ H→aj H n=some l)
  (hb:∀v∈l,∀st ρ H,P st ρ H→∃ρ' H',P (step st v) ρ' H'∧∀K,nT K→xB d b (aX ρ k v) H K=K (.bf,ρ',H'))
  (st:σ) (ρ:Loc) (H:MH) (hp:P st ρ H):∃ρ' H',P (l.foldl step st) ρ' H'∧∀K,iw d k b n (l.length+1) 0 ρ H K=K (.bf,ρ',H'):=
 m_ P step l hl hb l 0 (l.length+1) rfl (by exact Ar.Z1 [] (.l .x0 (.a .x0 .n1)) rfl) st ρ H hp
theorem p_(P:Loc→MH→Prop)(p:V→Bool)(r:V):∀(l:List V),
  (∀v∈l,∀ρ H,P ρ H→∃ρ' H',P ρ' H'∧∀K,nT K→xB d b (aX ρ k v) H K=xI (p v) (K (.ret r,ρ',H')) (K (.bf,ρ',H'))) →
  ∀ρ H,P ρ H→∃ρ' H',P ρ' H'∧∀K,cj d k b l ρ H K=xI (l.any p) (K (.ret r,ρ',H')) (K (.bf,ρ',H'))
 | [],_,ρ,H,hp=>⟨ρ,H,hp,λ_=>(au _ _).symm⟩
 |v::l,hb,ρ,H,hp=>by
  refine cQ (hb v (.head _) ρ H hp) λρ1 H1 p1 e1=>?_
  refine cQ (p_ P p r l (λu hu=>hb u (.tail _ hu)) ρ1 H1 p1) λρ2 H2 p2 e2=>?_
  cases hv:p v with
  |true=>exact⟨ρ1,H1,p1,λK=>by simp only[eH,e1 _ (fx _ _),qm,fA,List.any_cons,hv,Bool.true_or,aA,aA]⟩
  |false=>exact⟨ρ2,H2,p2,λK=>by simp only[eH,e1 _ (fx _ _),qm,fA,e2,List.any_cons,hv,Bool.false_or,au]⟩
end
end
section
open PySem
noncomputable def cA:Nat→Nat→Nat→List V
 |0,_,_=>[]
 |n+1,b,s=>if b%2=1 then .int s::cA n (b/2) (s+1)else cA n (b/2) (s+1)
theorem iB:∀n s,cA n 0 s=[]
 |0,_=>rfl
 |n+1,s=>by unfold cA;exact iB n (s+1)
theorem kT:∀n b s,b<2 ^ n→cA (n+1) b s=cA n b s
 |0,b,s,h=>by
           have:b=0:=by simpa using h
           subst this;exact iB 1 s
 |n+1,b,s,h=>by
  rw[cA,kT n (b/2) (s+1) (by rw[Nat.pow_succ]at h;exact Ar.Z4 [.l .x0 (.r .x1 2),.d 2 .x2 .x3 .x0] (.l .x2 .x1) rfl h (Ar.md _ 2 rfl))];rfl
theorem mQ:∀k n b s,b<2 ^ n→cA (n+k) b s=cA n b s
 |0,_,_,_,_=>rfl
 |k+1,n,b,s,h=>by
  rw[← Nat.add_assoc,kT (n+k) b s (Nat.lt_of_lt_of_le h (Nat.pow_le_pow_right (by decide) (by exact Ar.Z2 [] (.e .x0 (.a .x0 .x1)) rfl))),mQ k n b s h]
theorem mI(n b s:Nat)(h:b%16=0)(hb:b<2 ^ n):cA n (b/16) (s+4)=cA n b s:=by
 rw[← mQ 4 n b s hb]
 show _=cA (n+4) b s
 rw[cA,if_neg (by omega),cA,if_neg (by omega),cA,if_neg (by omega),cA,if_neg (by omega)]
 have:b/2/2/2/2=b/16:=by exact Ar.Jp [.d 2 .x3 .bU .x4,.d 2 .x4 .x9 .x5,.d 2 .x5 .x8 .x6,.d 2 .x6 .x7 .x1,.d 16 .x2 .x0 .x1] (.q .x3 .x2) rfl (Ar.md _ 2 rfl) (Ar.md _ 2 rfl) (Ar.md _ 2 rfl) (Ar.md _ 2 rfl) (Ar.md _ 16 rfl)
 simp only[this]
theorem jV:∀n b s,cA n b s=((List.range n).filter b.testBit).map λi=>.int ((s+i:Nat):Int)
 |0,_,_=>rfl
 |n+1,b,s=>by
  simp only[cA,jV n (b/2) (s+1),List.range_succ_eq_map,List.filter_cons,List.filter_map]
  have e:(List.filter (b.testBit∘Nat.succ) (List.range n))=List.filter (b/2).testBit (List.range n):=by
   congr 1;funext i;exact Nat.testBit_succ b i
  have f:(λi=>V.int ((s+1+i:Nat):Int))=(λi=>V.int ((s+i:Nat):Int))∘Nat.succ:=by
   funext i;show V.int _=V.int _;congr 2;exact Ar.Z2 [] (.q (.a (.a .x0 .n1) .x1) (.a .x0 (.a .x1 .n1))) rfl
  rw[Nat.testBit_zero,e,f]
  by_cases h:b%2=1
  ·simp only[h,if_true,decide_true,List.map_cons,List.map_map];rfl
  ·simp only[h,if_false,decide_false,Bool.false_eq_true,List.map_map]
noncomputable def cz(N:Nat)(p:Nat→Bool):List Nat:=(List.range N).filter p
noncomputable def aP(l:List Nat):List V:=l.map λi=>.int (i:Nat)
theorem vY(N:Nat)(p:Nat→Bool):cA N (eJ N p) 0=aP (cz N p):=by
 rw[jV]
 have:(List.range N).filter (eJ N p).testBit=(List.range N).filter p:=by
  refine List.filter_congr λi hi=>?_
  rw[List.mem_range]at hi
  simp only[bo,decide_eq_true hi,Bool.true_and]
 rw[this];unfold aP cz;congr 1;funext i;rw[Nat.zero_add]
theorem GJ(n:Nat):bM (n:Int) 15=((n%16:Nat):Int):=by
 rw[show(15:Int)=((15:Nat):Int)from rfl,dh]
 congr 1
 exact Nat.and_two_pow_sub_one_eq_mod n 4
theorem KH(n:Nat):bM (n:Int) 1=((n%2:Nat):Int):=by
 simp only[show(1:Int)=((1:Nat):Int)from rfl,dh,Nat.and_one_is_mod]
theorem Pu(n:Nat):(n:Int).fdiv (2 ^ 4)=((n/16:Nat):Int):=by rw[gG,Nat.shiftRight_eq_div_pow]
theorem Pt(n:Nat):(n:Int).fdiv (2 ^ 1)=((n/2:Nat):Int):=by rw[gG,Nat.shiftRight_eq_div_pow]
theorem iV(n:Nat):decide ((n:Int)≠0)=!Nat.beq n 0:=by
 rw[Bool.eq_iff_iff,decide_eq_true_eq,Bool.not_eq_true',aq];exact Ar.Z1 [] (.B (.N (.Q (.c .x0) .n0)) (.N (.q .x0 .n0))) rfl
theorem GU(s k:Nat):((s:Nat):Int)+((k:Nat):Int)=((s+k:Nat):Int):=by exact Ar.Z2 [] (.Q (.a (.c .x0) (.c .x1)) (.c (.a .x0 .x1))) rfl
theorem eS(H:MH)(l m:List V):(H++[MO.lst l]).set H.length (MO.lst m)=H++[MO.lst m]:=by
 induction H with
 |nil=>rfl
 |cons a r ih=>show a::List.set (r++[MO.lst l]) r.length (MO.lst m)=_;rw[ih];rfl
theorem bq(H:MH)(l:List V):aj (H++[MO.lst l]) H.length=some l:=by unfold aj;simp
noncomputable abbrev Oj:E:=.not (.b .band (.l 0) (.c (.int 15)))
noncomputable abbrev Oh:List S:=[.aug 0 .shr (.c (.int 4)),.aug 2 .add (.c (.int 4))]
noncomputable abbrev Oi:List S:=[.zR Oj Oh,.ite (.b .band (.l 0) (.c (.int 1))) [.exp (.app (.l 1) (.l 2))] [],.aug 0 .shr (.c (.int 1)),.aug 2 .add (.c (.int 1))]
section
variable {q:St} {H:MH} {d a e t k:Nat} {o:Nat→Bool}
theorem C9(n:Nat):∀(g b s:Nat) (v:V) (K:KS),b≠0→b<2 ^ n→b<2 ^ g→∃b' s',b'≠0∧b'≤b∧cA n b' s'=cA n b s∧xW d Oj Oh (g+1) [some (.int (b:Int)),some v,some (.int (s:Int))] H K=K (.bf,[some (.int (b':Int)),some v,some (.int (s':Int))],H)
 |0,b,s,v,K,h0,_,hg=>absurd hg (by simpa using h0)
 |g+1,b,s,v,K,h0,hn,hg=>by
  simp only[jw]
  erw[xf,wf,GJ,iV]
  cases h:Nat.beq (b%16) 0 with
  |false=>exact⟨b,s,h0,Nat.le_refl _,rfl,au _ _⟩
  |true=>
   simp only[ae]at h
   simp only[Bool.not_true,Bool.not_false,aA]
   refine Cy (C9 n g (b/16) (s+4) v K (by exact Ar.Z3 [.q .x1 .n0,.N (.q .x0 .n0),.d 16 .x2 .x1 .x0] (.N (.q .x2 .n0)) rfl h h0 (Ar.md _ 16 rfl)) (by exact Ar.Z4 [.l .x0 .x1,.d 16 .x3 .x2 .x0] (.l .x3 .x1) rfl hn (Ar.md _ 16 rfl)) (by simp only[Nat.pow_succ]at hg;exact Ar.Z4 [.l .x0 (.r .x1 2),.d 16 .x3 .x2 .x0] (.l .x3 .x1) rfl hg (Ar.md _ 16 rfl))) λb' s' i1 i2 i3 i4=>?_
   refine⟨b',s',i1,by exact Ar.Z4 [.e .x3 .x2,.d 16 .x2 .x1 .x0] (.e .x3 .x0) rfl i2 (Ar.md _ 16 rfl),i3.trans (mI n b s h hn),?_⟩
   erw[xf,wf,Pu,show((s:Nat):Int)+4=((s+4:Nat):Int)from rfl]
   exact i4
theorem sT:∀(n g b s:Nat) (acc:List V) (K:KS),b<2 ^ n→n<g→n<60→acc.length+n<1000→∃s':Nat,xW d (.l 0) Oi g [some (.int (b:Int)),some (.ref H.length),some (.int (s:Int))] (H++[.lst acc]) K =
  K (.bf,[some (.int 0),some (.ref H.length),some (.int (s':Int))],H++[.lst (acc++cA n b s)])
 |n,0,_,_,_,_,_,h,_,_=>absurd h (by exact Ar.Z1 [] (.N (.l .x0 .n0)) rfl)
 |n,g+1,b,s,acc,K,hb,hg,hn,ha=>by
  simp only[jw]
  erw[xf,wf,iV]
  cases h:Nat.beq b 0 with
  |true=>
   rw[ae]at h;subst h
   exact⟨s,by rw[iB,List.append_nil];exact au _ _⟩
  |false=>
   simp only[aq]at h
   simp only[Bool.not_false,aA]
   match n,hb,hg,hn,ha with
   |0,hb,_,_,_=>exact absurd hb (by simpa using h)
   |n+1,hb,hg,hn,ha=>
   refine Cy (C9 (d:=d) (H:=H++[.lst acc]) (n+1) 199 b s (.ref H.length) (kB (xB d [.ite (.b .band (.l 0) (.c (.int 1))) [.exp (.app (.l 1) (.l 2))] [],.aug 0 .shr (.c (.int 1)),.aug 2 .add (.c (.int 1))]) (kFor (xW d (.l 0) Oi g) K)) h hb (Nat.lt_of_lt_of_le hb (Nat.pow_le_pow_right (by decide) (by exact Ar.Z1 [.l (.a .x0 .n1) (.n 60)] (.e (.a .x0 .n1) (.n 199)) rfl hn)))) λb' s' i1 i2 i3 i4=>?_
   simp only[show turns=199+1 from rfl,i4]
   have room:aI acc.length=true:=by unfold aI;rw[b5];unfold room;exact Ar.Z2 [.l (.a .x0 .x1) .aG] (.e .x0 .av) rfl (by assumption)
   erw[xf,wf,KH,iV,Pt,bq,room,eS,show((s':Nat):Int)+1=((s'+1:Nat):Int)from rfl]
   rw[← i3,cA]
   have hb2:b'/2<2 ^ n:=by simp only[Nat.pow_succ]at hb;exact Ar.Z5 [.l .x0 (.r .x1 2),.e .x2 .x0,.d 2 .x3 .x4 .x2] (.l .x3 .x1) rfl hb i2 (Ar.md _ 2 rfl)
   by_cases hodd:b'%2=1
   ·rw[if_pos hodd,show(!Nat.beq (b'%2) 0)=true by rw[hodd];rfl,aA]
    refine bJ (sT n g (b'/2) (s'+1) (acc++[.int s']) K hb2 (by exact Ar.Z2 [.l (.a .x0 .n1) (.a .x1 .n1)] (.l .x0 .x1) rfl hg) (by exact Ar.Z1 [.l (.a .x0 .n1) (.n 60)] (.l .x0 (.n 60)) rfl hn) (by simp;exact Ar.Z2 [.l (.a .x0 (.a .x1 .n1)) .aG] (.l (.a (.a .x0 .n1) .x1) .aG) rfl ha)) λs2 e2=>?_
    exact⟨s2,by rw[e2,List.append_assoc];rfl⟩
   ·rw[if_neg hodd,show(!Nat.beq (b'%2) 0)=false by rw[show b'%2=0 by exact Ar.Z3 [.N (.q .x0 .n1),.d 2 .x2 .x0 .x1] (.q .x0 .n0) rfl hodd (Ar.md _ 2 rfl)];rfl,au]
    exact sT n g (b'/2) (s'+1) acc K hb2 (by exact Ar.Z2 [.l (.a .x0 .n1) (.a .x1 .n1)] (.l .x0 .x1) rfl hg) (by exact Ar.Z1 [.l (.a .x0 .n1) (.n 60)] (.l .x0 (.n 60)) rfl hn) (by exact Ar.Z2 [.l (.a .x0 (.a .x1 .n1)) .aG] (.l (.a .x0 .x1) .aG) rfl ha)
theorem my{N:Nat}(hN:N≤25)(p:Nat→Bool):ag PB (d+1) 10 [.int (bm N p)] H=some (.ref H.length,H++[.lst (aP (cz N p))]):=by
 rw[ax (fn:=Lb) rfl rfl]
 erw[xf,wf,Lb]
 refine bJ (sT (d:=d) (H:=H) N 200 (eJ N p) 0 [] (kB (xB d [.ret (.l 1)]) ox) (rq p N) (by exact Ar.Z1 [.e .x0 .aQ] (.l .x0 (.n 200)) rfl hN) (by exact Ar.Z1 [.e .x0 .aQ] (.l .x0 (.n 60)) rfl hN) (by simp;exact Ar.Z1 [.e .x0 .aQ] (.l .x0 .aG) rfl hN)) λs' e=>?_
 simp only[List.nil_append,vY]at e
 refine Eq.trans e ?_
 erw[xf,wf,gL]
end
end
section
open PySem
section
variable {q:St} {H:MH} {d a b e t k:Nat} {o:Nat→Bool}
theorem ID(m:hZ q){x:Nat}(hx:x<q.N):(q.sd 0 x||q.sd 1 x)=q.oc x:=by
 unfold St.sd nG St.oc
 rcases m.code x hx with h|⟨h1,h2,h3⟩
 ·rw[h];rfl
 ·have:q.c x/8=0∨q.c x/8=1:=by exact Ar.Z3 [.l .x0 .n2,.d 8 .x0 .x2 .x1] (.D (.q .x0 .n0) (.q .x0 .n1)) rfl h3 (Ar.md _ 8 rfl)
  rcases this with h|h<;>rw[h]<;>cases Nat.beq (q.c x) 0<;>rfl
theorem fk(m:hZ q):bm q.N (λx=>q.sd 0 x||q.sd 1 x)=bm q.N q.oc:=aE λx hx=>ID m hx
theorem lk(h:HP q H)(m:hZ q)(ht:t<2):ag PB (d+6) 39 [.ref 47,.int (t:Int)] H=some (.int (bm q.N λx=>dk q q.oc (q.k t) x&&q.sd (1-t) x),H):=by
 rw[ax (fn:=Ls) rfl rfl]
 erw[xf,Ls,h.pS,h.s0,h.s1,bT,fk m,dN h m ht,eB h m (m.jy t ht),Cq ht,h.st (show 1-t<2 by exact Ar.Z2 [.s .x1 .n1 .x0] (.l .x1 .n2) rfl (Ar.ts _ _)),cB]
theorem jW(h:HP q H)(m:hZ q):ag PB (d+7) 40 [.ref 47] H=some (.int (bm q.N λx=>dk q q.oc (q.k q.s) x&&q.sd (1-q.s) x),H):=by
 rw[ax (fn:=Lu) rfl rfl]
 erw[xf,Lu,h.ps,lk h m h.hs]
noncomputable def g6(q:St)(t x:Nat):Bool:=(bZ q.F (q.k t) x&&(q.kd 4 x||q.kd 5 x)||dn q.F (q.k t) x&&(q.kd 3 x||q.kd 5 x))&&q.sd (1-t) x
theorem wj(F N a b:Nat):ik F N (λ_=>false) a b=true:=by rw[bO];intros;rfl
theorem sS(h:HP q H)(m:hZ q)(ht:t<2):ag PB (d+4) 41 [.ref 47,.int (t:Int)] H=some (.int (bm q.N (g6 q t)),H):=by
 have k:=m.jy t ht
 have r:=jt (d:=d) (o:=λ_=>false) h k
 have b:=fv (d:=d) (o:=λ_=>false) h k
 simp only[cW,wj,Bool.and_true]at r b
 rw[ax (fn:=Lv) rfl rfl]
 erw[xf,Lv,dN h m ht,h.pG,r,b,g7 h,gY h,h.pS,Cq ht,h.st (show 1-t<2 by exact Ar.Z2 [.s .x1 .n1 .x0] (.l .x1 .n2) rfl (Ar.ts _ _)),cB,bT]
 rfl
noncomputable def manyN(N:Nat)(p:Nat→Bool):Bool:=aO N λj=>p j&&aO j p
theorem yA(N:Nat)(p:Nat→Bool):(!decide (bM (bm N p) (bm N p-1)=0))=manyN N p:=by
 rw[Bool.eq_iff_iff,Bool.not_eq_true',decide_eq_false_iff_not]
 refine(Aj N p).trans ?_
 unfold manyN
 rw[aB]
 constructor
 ·rintro⟨i,j,h1,h2,h3,h4⟩
  exact⟨j,h2,by rw[h4,Bool.true_and,aB];exact⟨i,h1,h3⟩⟩
 ·rintro⟨j,h2,h3⟩
  rw[Bool.and_eq_true,aB]at h3
  obtain⟨h4,i,h1,h5⟩:=h3
  exact⟨i,j,h1,h2,h5,h4⟩
theorem kH(N:Nat)(p:Nat→Bool):ag PB (d+1) 7 [.int (bm N p)] H=some (.bool (manyN N p),H):=by
 rw[ax (fn:=f7) rfl rfl]
 erw[xf,f7,yA]
noncomputable def eu(q:St)(t s x:Nat):Bool:=eV q.F (q.k t) s x&&(q.oc x ^^ g6 q t x)
noncomputable def oS(N:Nat)(p:Nat→Bool):Bool:=aO N p&&!manyN N p
noncomputable def gh(q:St)(t x:Nat):Bool:=(cz q.N (g6 q t)).any λs=>oS q.N (eu q t s)&&eu q t s x
theorem b7{N:Nat}{p:Nat→Bool}{s:Nat}:s∈cz N p↔s<N∧p s=true:=by
 unfold cz;rw[List.mem_filter,List.mem_range]
theorem eF{l:List Nat}{v:V}(h:v∈aP l):∃s∈l,v=.int (s:Nat):=by
 refine ay (List.mem_map.mp h) λs h1 h2=>?_;exact⟨s,h1,h2.symm⟩
theorem B9{N:Nat}{p f:Nat→Bool}:(cz N p).any f=aO N λx=>p x&&f x:=by
 rw[Bool.eq_iff_iff,List.any_eq_true,aB]
 constructor
 ·rintro⟨s,h1,h2⟩
  rw[b7]at h1
  exact⟨s,h1.1,by simp only[h1.2,h2];rfl⟩
 ·rintro⟨s,h1,h2⟩
  simp only[Bool.and_eq_true]at h2
  exact⟨s,b7.mpr ⟨h1,h2.1⟩,h2.2⟩
noncomputable def iv(q:St)(t:Nat)(p:(Nat→Bool)×(Nat→Bool))(v:V):(Nat→Bool)×(Nat→Bool):=match v with
 |.int s=>(λx=>p.1 x||(oS q.N (eu q t s.toNat)&&eu q t s.toNat x),
   λx=>p.2 x||(oS q.N (eu q t s.toNat)&&aO q.N (λx=>eu q t s.toNat x&&q.sd t x))&&Nat.beq x s.toNat)
 |_=>p
theorem mA(q:St)(t:Nat):∀(l:List Nat) (p:(Nat→Bool)×(Nat→Bool)) (x:Nat),((aP l).foldl (iv q t) p).1 x=(p.1 x||l.any λs=>oS q.N (eu q t s)&&eu q t s x)
 | [],p,x=>by simp only[List.any_nil,Bool.or_false];rfl
 |s::l,p,x=>by
  show((aP l).foldl (iv q t) (iv q t p (.int s))).1 x=_
  simp only[mA q t l,List.any_cons,← Bool.or_assoc];rfl
noncomputable abbrev GN:List S:=[.set 8 (.b .band (.call 12 [.attr (.l 0) 14,.l 2,.l 7]) (.l 4)),.ite (.and (.l 8) (.not (.call 7 [.l 8]))) [.aug 5 .bor (.l 8),.ite (.b .band (.l 8) (.sub (.attr (.l 0) 18) (.l 1))) [.aug 6 .bor (.b .shl (.c (.int 1)) (.l 7))] []] []]
theorem uv(x:V)(l:List V)(H:MH):aJ (.tup (x::l)) (.int 0) H=some x:=rfl
theorem ve(h:HP q H)(m:hZ q)(ht:t<2):∃K,ag PB (d+6) 43 [.ref 47,.int (t:Int)] H=some (.int (bm q.N λx=>gh q t x&&q.sd t x),H++K):=by
 have hk:=m.jy t ht
 have blk:∃pn,ag PB (d+5) 42 [.ref 47,.int (t:Int)] H=some (.tup [.int (bm q.N (gh q t)),.int pn],H++[.lst (aP (cz q.N (g6 q t)))]):=by
  have h':=h.app [.lst (aP (cz q.N (g6 q t)))]
  have lp:=m9 (d:=d+4) (k:=7) (n:=H.length) (b:=GN)
   (λ(p:(Nat→Bool)×(Nat→Bool)) ρ H1=>H1=H++[MO.lst (aP (cz q.N (g6 q t)))]∧∃u v,ρ=[some (.ref 47),some (.int t),some (.int (q.k t)),some (.int (bm q.N (g6 q t))),some (.int (bm q.N λx=>q.oc x ^^ g6 q t x)),some (.int (bm q.N p.1)),some (.int (bm q.N p.2)),u,v])
   (iv q t) (aP (cz q.N (g6 q t))) (λst ρ H1 hp=>by rw[hp.1];exact bq _ _)
   (λv hv st ρ H1 hp=>by
    obtain⟨rfl,u,w,rfl⟩:=hp
    refine ay (eF hv) λs hs rf2_=>?_;subst rf2_
    rw[b7]at hs
    refine⟨[some (.ref 47),some (.int t),some (.int (q.k t)),some (.int (bm q.N (g6 q t))),some (.int (bm q.N λx=>q.oc x ^^ g6 q t x)),some (.int (bm q.N (iv q t st (.int s)).1)),some (.int (bm q.N (iv q t st (.int s)).2)),some (.int s),some (.int (bm q.N (eu q t s)))],_,⟨rfl,_,_,rfl⟩,λK _=>?_⟩
    have bt:(λx=>eV q.F (q.k t) s x&&(q.oc x ^^ g6 q t x))=eu q t s:=rfl
    erw[xf,h'.pG,kR h' hk hs.1,cB,bt,mS,kH,h'.pS,h'.st ht,bh hs.1 h.hN]
    have e1:(iv q t st (.int s)).1=λx=>st.1 x||(oS q.N (eu q t s)&&eu q t s x):=rfl
    have e2:(iv q t st (.int s)).2=λx=>st.2 x||(oS q.N (eu q t s)&&aO q.N (λx=>eu q t s x&&q.sd t x))&&Nat.beq x s:=rfl
    rw[e1,e2]
    have one:oS q.N (eu q t s)=(aO q.N (eu q t s)&&!manyN q.N (eu q t s)):=rfl
    rw[one]
    cases aO q.N (eu q t s)with
    |false=>
     simp only[Bool.false_and,Bool.or_false,au]<;>rfl
    |true=>
     rw[aA]
     cases manyN q.N (eu q t s)with
     |true=>simp only[Bool.not_true,Bool.and_false,Bool.false_and,Bool.or_false,au]<;>rfl
     |false=>
      cases aO q.N (λx=>eu q t s x&&q.sd t x)with
      |false=>simp only[Bool.not_false,Bool.and_true,Bool.true_and,Bool.and_false,Bool.false_and,Bool.or_false,aA,au,bT]
      |true=>simp only[Bool.not_false,Bool.and_true,Bool.true_and,aA,bT])
   (λ_=>false,λ_=>false)
  obtain⟨ρ',H',⟨hH,u,v,hρ⟩,e⟩:=lp [some (.ref 47),some (.int t),some (.int (q.k t)),some (.int (bm q.N (g6 q t))),some (.int (bm q.N λx=>q.oc x ^^ g6 q t x)),some (.int 0),some (.int 0),none,none] _ ⟨rfl,_,_,by rw[cW]⟩
  refine⟨bm q.N ((aP (cz q.N (g6 q t))).foldl (iv q t) (λ_=>false,λ_=>false)).2,?_⟩
  rw[ax (fn:=Lw) rfl rfl]
  erw[xf,Lw,dN h m ht,sS h m ht,h.pS,h.s0,h.s1,bT,fk m,nX,my h.hN,bq,show(GN)=_ from rfl]
  refine(e _).trans ?_
  simp only[hρ,hH]
  erw[xf,gL]
  have:bm q.N ((aP (cz q.N (g6 q t))).foldl (iv q t) (λ_=>false,λ_=>false)).1=bm q.N (gh q t):=aE λx _=>by
   rw[mA];rfl
  rw[this]
 obtain⟨pn,blk⟩:=blk
 refine⟨[.lst (aP (cz q.N (g6 q t)))],?_⟩
 have h':=h.app [.lst (aP (cz q.N (g6 q t)))]
 rw[ax (fn:=Lx) rfl rfl]
 erw[xf,Lx,blk,uv,h'.pS,h'.st ht,cB]
end
end
section
open PySem
section
variable {q:St} {H:MH} {d a b e t k:Nat} {o:Nat→Bool}
noncomputable def uJ(q:St)(t:Nat)(o:Nat→Bool)(b:Nat):Bool:=aO q.N λx=>q.sd t x&&bk q.F q.N (q.c x) x b o
noncomputable def nN(q:St)(t k:Nat)(o:Nat→Bool)(p:Nat→Bool)(v:V):Nat→Bool:=match v with
 |.int s=>λb=>p b||bk q.F q.N (k+8*t) s.toNat b o
 |_=>p
theorem mz(q:St)(t k:Nat)(o:Nat→Bool)(b:Nat):∀(l:List Nat) (p:Nat→Bool),((aP l).foldl (nN q t k o) p) b=(p b||l.any λs=>bk q.F q.N (k+8*t) s b o)
 | [],p=>by simp only[List.any_nil,Bool.or_false];rfl
 |s::l,p=>by
  show((aP l).foldl (nN q t k o) (nN q t k o p (.int s))) b=_
  simp only[mz q t k o b l,List.any_cons,← Bool.or_assoc];rfl
noncomputable def stepK(q:St)(t:Nat)(o:Nat→Bool)(p:Nat→Bool)(v:V):Nat→Bool:=match v with
 |.int k=>λb=>p b||aO q.N λx=>(q.kd k.toNat x&&q.sd t x)&&bk q.F q.N (k.toNat+8*t) x b o
 |_=>p
noncomputable abbrev GV:List S:=[.aug 3 .bor (.call 28 [.attr (.l 0) 14,.l 1,.l 4,.l 5,.l 2])]
noncomputable abbrev KY:List S:=[.fr 5 (.call 10 [.b .band (.sub (.attr (.l 0) 17) (.l 4)) (.sub (.attr (.l 0) 18) (.l 1))]) GV]
theorem HP.Py(h:HP q H)(h1:1≤k)(h6:k≤6):aJ (.ref 51) (.int (k:Int)) H=some (.int (bm q.N (q.kd k))):=by
 match k,h1,h6 with
 |1,_,_=>exact h.k1
 |2,_,_=>exact h.k2
 |3,_,_=>exact h.k3
 |4,_,_=>exact h.k4
 |5,_,_=>exact h.k5
 |6,_,_=>exact h.k6
theorem rH(h:HP q H)(m:hZ q)(ht:t<2):∃K,ag PB (d+7) 44 [.ref 47,.int (t:Int),.int (bm q.N o)] H=some (.int (bm q.N (uJ q t o)),H++K):=by
 have lp:=lD (d:=d+6) (k:=4) (b:=KY)
  (λ(p:Nat→Bool) ρ H1=>(∃K,H1=H++K)∧∃u v,ρ=[some (.ref 47),some (.int t),some (.int (bm q.N o)),some (.int (bm q.N p)),u,v])
  (stepK q t o) [.int 1,.int 2,.int 3,.int 4,.int 5,.int 6]
  (λv hv p ρ H1 hp=>by
   obtain⟨⟨K1,rfl⟩,u,w,rfl⟩:=hp
   refine ay (eF (l:=[1,2,3,4,5,6]) hv) λk hk rf2_=>?_;subst rf2_
   obtain⟨k1,k6⟩:=(by decide:∀k∈[1,2,3,4,5,6],1≤k∧k≤6) k hk
   have h1:=h.app K1
   have h2:=h1.app [.lst (aP (cz q.N λx=>q.kd k x&&q.sd t x))]
   have li:=m9 (d:=d+6) (k:=5) (n:=(H++K1).length) (b:=GV)
    (λ(p:Nat→Bool) ρ H1=>H1=(H++K1)++[MO.lst (aP (cz q.N λx=>q.kd k x&&q.sd t x))]∧∃v,ρ=[some (.ref 47),some (.int t),some (.int (bm q.N o)),some (.int (bm q.N p)),some (.int k),v])
    (nN q t k o) (aP (cz q.N λx=>q.kd k x&&q.sd t x)) (λst ρ H1 hp=>by rw[hp.1];exact bq _ _)
    (λv hv st ρ H1 hp=>by
     obtain⟨rfl,v,rfl⟩:=hp
     refine ay (eF hv) λs hs rf2_=>?_;subst rf2_
     rw[b7]at hs
     refine⟨[some (.ref 47),some (.int t),some (.int (bm q.N o)),some (.int (bm q.N (nN q t k o st (.int s)))),some (.int k),some (.int s)],_,⟨rfl,_,rfl⟩,λK _=>?_⟩
     erw[xf,h2.pG,me h2 hs.1 ht k1 k6,bT]
     rfl)
   have hw:bm q.N ((aP (cz q.N λx=>q.kd k x&&q.sd t x)).foldl (nN q t k o) p)=bm q.N (stepK q t o p (.int k)):=aE λb _=>by
    simp only[mz,B9];rfl
   obtain⟨ρ',H',⟨hH,v,hρ⟩,e⟩:=li p [some (.ref 47),some (.int t),some (.int (bm q.N o)),some (.int (bm q.N p)),some (.int k),w] _ ⟨rfl,_,rfl⟩
   refine⟨[some (.ref 47),some (.int t),some (.int (bm q.N o)),some (.int (bm q.N (stepK q t o p (.int k)))),some (.int k),v],(H++K1)++[MO.lst (aP (cz q.N λx=>q.kd k x&&q.sd t x))],⟨⟨K1++[MO.lst (aP (cz q.N λx=>q.kd k x&&q.sd t x))],by rw[List.append_assoc]⟩,_,_,rfl⟩,λK _=>?_⟩
   erw[xf,h1.pK,h1.Py k1 k6,h1.pS,h1.st ht,cB,my h.hN,bq]
   refine(e _).trans ?_
   simp only[hρ,hH,hw];rfl)
 obtain⟨ρ',H',⟨⟨K1,hH⟩,u,v,hρ⟩,e⟩:=lp (λ_=>false) [some (.ref 47),some (.int t),some (.int (bm q.N o)),some (.int 0),none,none] H ⟨⟨[],by simp only[List.append_nil]⟩,_,_,by rw[cW]⟩
 refine⟨K1,?_⟩
 rw[ax (fn:=Ly) rfl rfl]
 erw[Ly]
 refine(e _).trans ?_
 simp only[hρ,hH]
 erw[xf,gL]
 refine ew (aE λb _=>?_) (H++K1)
 show(false||_||_||_||_||_||_)=_
 simp only[Bool.false_or,← rj]
 refine any_congr λx hx=>?_
 cases hs:q.sd t x with
 |false=>simp only[Bool.and_false,Bool.false_and,Bool.or_false]
 |true=>
  have hs':=hs
  unfold St.sd nG at hs'
  rw[Bool.and_eq_true,Bool.not_eq_true',aq,ae]at hs'
  obtain⟨k,hk⟩:∃k,q.c x%8=k:=⟨_,rfl⟩
  have hc:q.c x=k+8*t:=by exact Ar.Z5 [.q .x2 .x4,.C (.N (.q .x0 .n0)) (.q .x1 .x3),.d 8 .x1 .x2 .x0] (.q .x0 (.a .x4 (.m 8 .x3))) rfl hk hs' (Ar.md _ 8 rfl)
  rcases m.code x hx with h0|⟨h1,h2,_⟩
  ·exact absurd h0 hs'.1
  ·rw[hk]at h1 h2
   show((q.kd 1 x&&true)&&bk q.F q.N (1+8*t) x b o||(q.kd 2 x&&true)&&bk q.F q.N (2+8*t) x b o||(q.kd 3 x&&true)&&bk q.F q.N (3+8*t) x b o||(q.kd 4 x&&true)&&bk q.F q.N (4+8*t) x b o||(q.kd 5 x&&true)&&bk q.F q.N (5+8*t) x b o||(q.kd 6 x&&true)&&bk q.F q.N (6+8*t) x b o)=_
   simp only[qt hk,hc]
   have hc:k=1∨k=2∨k=3∨k=4∨k=5∨k=6:=by exact Ar.Z5 [.q .x2 .x4,.e .n1 .x4,.e .x4 .n6,.C (.N (.q .x0 .n0)) (.q .x1 .x3)] (.D (.q .x4 .n1) (.D (.q .x4 .n2) (.D (.q .x4 .n3) (.D (.q .x4 .n4) (.D (.q .x4 .n5) (.q .x4 .n6)))))) rfl hk h1 h2 hs'
   rcases hc with rfl|rfl|rfl|rfl|rfl|rfl<;>simp only[show∀a b,Nat.beq a b=Nat.beq a b from λ_ _=>rfl,Nat.beq,Bool.false_and,Bool.true_and,Bool.or_false,Bool.false_or]
theorem oh(h:HP q H)(m:hZ q)(ht:t<2):∃K,ag PB (d+8) 45 [.ref 47,.int (t:Int)] H=some (.int (bm q.N (uJ q (1-t) λx=>q.oc x ^^ Nat.beq x (q.k t))),H++K):=by
 refine bJ (rH (d:=d) (t:=1-t) (o:=λx=>q.oc x ^^ Nat.beq x (q.k t)) h m (by exact Ar.Z2 [.s .x1 .n1 .x0] (.l .x1 .n2) rfl (Ar.ts _ _))) λK hK=>?_
 refine⟨K,?_⟩
 rw[ax (fn:=Lz) rfl rfl]
 erw[xf,Lz,h.pS,h.s0,h.s1,bT,fk m,Cq ht,dN h m ht,bh (m.jy t ht) h.hN,nX,hK]
theorem rO(h:HP q H)(m:hZ q):∃K,ag PB (d+9) 62 [.ref 47] H=some (.int (bm q.N λx=>(nr q.F (q.k q.s) x&&!q.sd q.s x)&&!uJ q (1-q.s) (λx=>q.oc x ^^ Nat.beq x (q.k q.s)) x),H++K):=by
 refine bJ (oh (d:=d) h m h.hs) λK hK=>?_
 refine⟨K,?_⟩
 rw[ax (fn:=LF) rfl rfl]
 erw[xf,LF,h.pS,h.ps,h.st h.hs,h.pG,h.Jr,dN h m h.hs,h.kg (m.jy _ h.hs),eY,hK]
end
end
section
open PySem
section
variable {q:St} {H:MH} {d a b e g t k m n:Nat} {o:Nat→Bool}
theorem dE(m k:Nat):bM (m:Int) ((2 ^ k-1:Nat):Int)=((m%2 ^ k:Nat):Int):=by rw[dh,Nat.and_two_pow_sub_one_eq_mod]
theorem D4(m k:Nat):(m:Int).fdiv (2 ^ k)=((m/2 ^ k:Nat):Int):=by rw[gG,Nat.shiftRight_eq_div_pow]
theorem dw:ag PB (d+1) 2 [.int (m:Int)] H=some (.int ((m/64%64:Nat):Int),H):=by
 have:ag PB (d+1) 2 [.int (m:Int)] H=some (.int (bM ((m:Int).fdiv (2 ^ 6)) 63),H):=rfl
 rw[this,D4];exact ew (dE _ 6) H
theorem fI:ag PB (d+1) 3 [.int (m:Int)] H=some (.int ((m%64:Nat):Int),H):=by
 have:ag PB (d+1) 3 [.int (m:Int)] H=some (.int (bM (m:Int) 63),H):=rfl
 simp only[this];exact ew (dE _ 6) H
theorem bG:ag PB (d+1) 4 [.int (m:Int)] H=some (.int ((m/16384%4:Nat):Int),H):=by
 have:ag PB (d+1) 4 [.int (m:Int)] H=some (.int (bM ((m:Int).fdiv (2 ^ 14)) 3),H):=rfl
 rw[this,D4];exact ew (dE _ 2) H
theorem um:ag PB (d+1) 0 [.int (m:Int)] H=some (.int ((m/8:Nat):Int),H):=by
 have:ag PB (d+1) 0 [.int (m:Int)] H=some (.int ((m:Int).fdiv (2 ^ 3)),H):=rfl
 simp only[this,D4]
theorem oF:ag PB (d+1) 1 [.int (m:Int)] H=some (.int ((m%8:Nat):Int),H):=by
 have:ag PB (d+1) 1 [.int (m:Int)] H=some (.int (bM (m:Int) 7),H):=rfl
 simp only[this];exact ew (dE _ 3) H
theorem qK:ag PB (d+1) 5 [.int (m:Int)] H=some (.int (((if m/16384%4=1 then m/4096%4+2 else 0):Nat):Int),H):=by
 rw[ax (fn:=f5) rfl rfl]
 have e1:bM ((m:Int).fdiv (2 ^ 14)) 3=((m/16384%4:Nat):Int):=by rw[D4];exact dE _ 2
 have e2:bM ((m:Int).fdiv (2 ^ 12)) 3=((m/4096%4:Nat):Int):=by rw[D4];exact dE _ 2
 erw[xf,f5,e1,e2]
 by_cases h:m/16384%4=1
 ·rw[if_pos h,h];exact au _ _
 ·rw[if_neg h,show(!decide (((m/16384%4:Nat):Int)=1))=true by simp;lia];exact aA _ _
noncomputable def uZ(m:Nat):Bool:=!Nat.beq (m/64%64) (m%64)&&(Nat.beq (m/16384%4) 1||Nat.beq (m/4096%4) 0)
theorem so(h0:0<m)(h1:m<65536):ag PB (d+2) 6 [.int (m:Int)] H=some (.bool (uZ m),H):=by
 rw[ax (fn:=f6) rfl rfl]
 have e2:bM ((m:Int).fdiv (2 ^ 12)) 3=((m/4096%4:Nat):Int):=by rw[D4];exact dE _ 2
 erw[xf,f6,dw,fI,bG,e2,show decide ((m:Int)≤0)=false by simp;exact Ar.Z1 [.l .n0 .x0] (.N (.q .x0 .n0)) rfl h0,show decide ((65536:Int)≤(m:Int))=false by simp;exact Ar.Z1 [.l .x0 (.n 65536)] (.L (.c .x0) (.n 65536)) rfl h1,ee]
 have d1:decide (((m/16384%4:Nat):Int)=1)=Nat.beq (m/16384%4) 1:=ee _ 1
 have d0:decide (((m/4096%4:Nat):Int)=0)=Nat.beq (m/4096%4) 0:=ee _ 0
 simp only[d1,d0]
 unfold uZ
 simp only[kM]
 refine l9 ?_ H
 generalize Nat.beq (m/64%64) (m%64)=x;generalize Nat.beq (m/16384%4) 1=y;generalize Nat.beq (m/4096%4) 0=z
 revert x y z;decide
theorem sa{v:Int}(h:v≤0∨65536≤v):ag PB (d+2) 6 [.int v] H=some (.bool false,H):=by
 rw[ax (fn:=f6) rfl rfl]
 erw[xf,f6]
 by_cases h0:v≤0
 ·rw[decide_eq_true h0];simp only[aA,au]
 ·rw[decide_eq_false h0,decide_eq_true (by exact Ar.eI [.N (.E .y0 .n0),.D (.E .y0 .n0) (.E (.n 65536) .y0)] (.E (.n 65536) .y0) rfl h0 h:65536≤v)];simp only[aA,au]
noncomputable def iL(F s a g:Nat):Bool:=match s with|0=>Nat.beq g (a+F)|_=>Nat.beq a (g+F)
noncomputable def fH(F s a g:Nat):Bool:=match s with|0=>Nat.beq g (a+2*F)|_=>Nat.beq a (g+2*F)
noncomputable def mid(F s a g:Nat):Nat:=match s with|0=>a+F|_=>g+F
noncomputable def lE(R s:Nat):Nat:=match s with|0=>1|_=>R-2
noncomputable def gQ(R s:Nat):Nat:=match s with|0=>R-1|_=>0
noncomputable def iq(q:St)(a g:Nat):Bool:=Nat.beq (q.c g) 0&&(iL q.F q.s a g||(fH q.F q.s a g&&q.dbl)&&(Nat.beq (a/q.F) (lE q.R q.s)&&Nat.beq (q.c (mid q.F q.s a g)) 0))
theorem oL(y:Int):binI .mul 2 y=some (2*y):=rfl
theorem tV(y:Int):binI .mul y 2=some (y*2):=by
 show(if(small y||small 2)=true then some (y*2)else none)=_
 rw[show small 2=true from rfl,Bool.or_true];rfl
theorem fh{F:Nat}(h1:0<F)(h2:F≤25):binI .bX (a:Int) (F:Int)=some ((a/F:Nat):Int):=by
 show(if(decide ((0:Int)<F)&&small F)=true then some ((a:Int).fdiv F)else none)=_
 rw[if_pos (by unfold small;simp;exact Ar.Z1 [.l .n0 .x0,.e .x0 .aQ] (.C (.l .n0 .x0) (.C (.L (.g (.n 4611686018427387904)) (.c .x0)) (.L (.c .x0) (.n 4611686018427387904)))) rfl h1 h2),Int.fdiv_eq_ediv_of_nonneg _ (by exact Ar.Z1 [] (.E .n0 (.c .x0)) rfl)];rfl
theorem HP.Ks(h:HP q H):q.F≤25:=by
 have h1:=h.hN;have h2:=h.hR
 refine Nat.le_trans ?_ h1
 exact Nat.le_mul_of_pos_right _ (by exact Ar.Z1 [.e .n3 .x0] (.l .n0 .x0) rfl h2)
theorem HP.uj(h:HP q H):q.s=0∨q.s=1:=by have:=h.hs;exact Ar.Z1 [.l .x0 .n2] (.D (.q .x0 .n0) (.q .x0 .n1)) rfl this
theorem uc(h:HP q H)(ha:a<q.N)(hg:g<q.N):ag PB (d+1) 56 [.ref 47,.int (a:Int),.int (g:Int)] H=some (.bool (iq q a g),H):=by
 have fd:=λa=>fh (a:=a) (F:=q.F) (by have:=h.hF;exact Ar.Z1 [.e .n3 .x0] (.l .n0 .x0) rfl this) h.Ks
 have c0:∀x:Nat,decide ((x:Int)=0)=Nat.beq x 0:=λx=>ee x 0
 rw[ax (fn:=JG) rfl rfl]
 unfold iq
 refine Or.elim (h.uj) (λs=>?_) λs=>?_
 ·have e1:decide ((g:Int)=(a:Int)+(q.F:Int))=Nat.beq g (a+q.F):=by rw[← ee];congr 1
  have e2:decide ((g:Int)=(a:Int)+2*(q.F:Int))=Nat.beq g (a+2*q.F):=by rw[← ee];congr 1
  have e3:decide (((a/q.F:Nat):Int)=1)=Nat.beq (a/q.F) 1:=ee _ 1
  have hb:fH q.F 0 a g=true→aJ (.ref 49) (.int ((a:Int)+(q.F:Int))) H=some (.int (q.c (a+q.F))):=λq2=>by
   simp only[fH,ae]at q2
   exact h.b (a:=a+q.F) (by exact Ar.Z4 [.l .x2 .x1,.q .x2 (.a .x0 (.m 2 .x3))] (.l (.a .x0 .x3) .x1) rfl hg q2)
  erw[xf,JG,h.pG,h.aF,h.ps,s,show decide (((0:Nat):Int)=1)=false from rfl,h.pB,h.b hg,c0,e1,e2,oL,h.aD,fd,e3]
  simp only[iL,fH,lE,mid]at hb ⊢
  cases Nat.beq (q.c g) 0 with
  |false=>first|rfl|(erw[ff]<;>rfl)
  |true=>
   cases Nat.beq g (a+q.F)with
   |true=>first|rfl|(erw[ff]<;>rfl)
   |false=>
    cases h2:Nat.beq g (a+2*q.F)with
    |false=>first|rfl|(erw[ff]<;>rfl)
    |true=>
     erw[xf,hb h2,c0]
     cases q.dbl<;>cases Nat.beq (a/q.F) 1<;>first|rfl|(erw[ff]<;>rfl)
 ·have e1:decide ((g:Int)=(a:Int) + -(q.F:Int))=Nat.beq a (g+q.F):=by rw[← ee];congr 1;apply propext;exact Ar.Z3 [] (.B (.Q (.c .x0) (.a (.c .x1) (.g (.c .x2)))) (.Q (.c .x1) (.c (.a .x0 .x2)))) rfl
  have e2:decide ((g:Int)=(a:Int)+2 * -(q.F:Int))=Nat.beq a (g+2*q.F):=by rw[← ee];congr 1;apply propext;exact Ar.Z3 [] (.B (.Q (.c .x0) (.a (.c .x1) (.m 2 (.g (.c .x2))))) (.Q (.c .x1) (.c (.a .x0 (.m 2 .x2))))) rfl
  have hR:=h.hR
  have e3:decide (((a/q.F:Nat):Int)=(q.R:Int)-2)=Nat.beq (a/q.F) (q.R-2):=by
   rw[← ee];congr 1;rw[show((q.R-2:Nat):Int)=(q.R:Int)-2 by exact Ar.Z2 [.e .n3 .x0,.s .x1 .x0 .n2] (.Q (.c .x1) (.s (.c .x0) .n2)) rfl hR (Ar.ts _ _)]
  have hb:fH q.F 1 a g=true→aJ (.ref 49) (.int ((a:Int) + -(q.F:Int))) H=some (.int (q.c (g+q.F))):=λq2=>by
   simp only[fH,ae]at q2
   have:=h.b (a:=g+q.F) (by exact Ar.Z4 [.l .x0 .x1,.q .x0 (.a .x2 (.m 2 .x3))] (.l (.a .x2 .x3) .x1) rfl ha q2)
   rwa [show((g+q.F:Nat):Int)=(a:Int) + -(q.F:Int) by exact Ar.Z3 [.q .x0 (.a .x1 (.m 2 .x2))] (.Q (.c (.a .x1 .x2)) (.a (.c .x0) (.g (.c .x2)))) rfl q2]at this
  erw[xf,JG,h.pG,h.aF,h.aR,h.ps,s,show decide (((1:Nat):Int)=1)=true from rfl,h.pB,h.b hg,c0,e1,e2,oL,h.aD,fd,e3]
  simp only[iL,fH,lE,mid]at hb ⊢
  cases Nat.beq (q.c g) 0 with
  |false=>first|rfl|(erw[ff]<;>rfl)
  |true=>
   cases Nat.beq a (g+q.F)with
   |true=>first|rfl|(erw[ff]<;>rfl)
   |false=>
    cases h2:Nat.beq a (g+2*q.F)with
    |false=>first|rfl|(erw[ff]<;>rfl)
    |true=>
     erw[xf,hb h2,c0]
     cases q.dbl<;>cases Nat.beq (a/q.F) (q.R-2)<;>first|rfl|(erw[ff]<;>rfl)
end
end
section
open PySem
section
variable {q:St} {H:MH} {d a b e g t k m n z:Nat} {o:Nat→Bool}
theorem c0(x:Nat):decide ((x:Int)=0)=Nat.beq x 0:=ee x 0
theorem c1(x:Nat):decide ((x:Int)=1)=Nat.beq x 1:=ee x 1
theorem c2(x:Nat):decide ((x:Int)=2)=Nat.beq x 2:=ee x 2
theorem c3(x:Nat):decide ((x:Int)=3)=Nat.beq x 3:=ee x 3
theorem c6(x:Nat):decide ((x:Int)=6)=Nat.beq x 6:=ee x 6
theorem Ff(h:q.s<2):(1:Int)-(q.s:Int)=((1-q.s:Nat):Int):=by exact Ar.Z2 [.l .x0 .n2,.s .x1 .n1 .x0] (.Q (.s .n1 (.c .x0)) (.c .x1)) rfl h (Ar.ts _ _)
noncomputable def fE(q:St)(a g z:Nat):Bool:=(Nat.beq (g/q.F) (gQ q.R q.s)==Nat.beq z 1) &&
 (if Nat.beq z 2 then fu q.F q.s a g&&decide ((g:Int)=q.ep)else if fu q.F q.s a g then q.sd (1-q.s) g else iq q a g)
theorem BN(h:HP q H)(ha:a<q.N)(hg:g<q.N):ag PB (d+2) 57 [.ref 47,.int (a:Int),.int (g:Int),.int (z:Int)] H=some (.bool (fE q a g z),H):=by
 have fd:=λa=>fh (a:=a) (F:=q.F) (by have:=h.hF;exact Ar.Z1 [.e .n3 .x0] (.l .n0 .x0) rfl this) h.Ks
 have hs:=h.hs
 have hR:=h.hR
 have hs1:1-q.s<2:=by exact Ar.Z2 [.s .x1 .n1 .x0] (.l .x1 .n2) rfl (Ar.ts _ _)
 rw[ax (fn:=JH) rfl rfl]
 have el:∀L:Nat,(L:Int)=((gQ q.R q.s:Nat):Int)→decide (((g/q.F:Nat):Int)=(L:Int))=Nat.beq (g/q.F) (gQ q.R q.s):=λL hL=>by simp only[hL,ee]
 have main:∀L:Int,L=((gQ q.R q.s:Nat):Int)→decide (((g/q.F:Nat):Int)=L)=Nat.beq (g/q.F) (gQ q.R q.s):=λL hL=>by simp only[hL,ee]
 have l0:q.s=0→(q.R:Int)-1=((gQ q.R q.s:Nat):Int):=λe=>by rw[e];show _=((q.R-1:Nat):Int);exact Ar.Z2 [.e .n3 .x0,.s .x1 .x0 .n1] (.Q (.s (.c .x0) .n1) (.c .x1)) rfl hR (Ar.ts _ _)
 have l1:q.s=1→(0:Int)=((gQ q.R q.s:Nat):Int):=λe=>by rw[e];rfl
 unfold fE
 have fin:∀L:Int,L=((gQ q.R q.s:Nat):Int)→xI (!(decide (((g/q.F:Nat):Int)=L)==Nat.beq z 1)) (some (V.bool false,H))
   (xI (Nat.beq z 2) (xI (fu q.F q.s a g) (some (V.bool (decide ((g:Int)=q.ep)),H)) (some (V.bool (fu q.F q.s a g),H)))
    (xI (fu q.F q.s a g) (some (V.bool (q.sd (1-q.s) g),H)) (some (V.bool (iq q a g),H)))) =
   some (V.bool ((Nat.beq (g/q.F) (gQ q.R q.s)==Nat.beq z 1)&&(if Nat.beq z 2 then fu q.F q.s a g&&decide ((g:Int)=q.ep)else if fu q.F q.s a g then q.sd (1-q.s) g else iq q a g)),H):=λL hL=>by
  simp only[main L hL]
  simp only[kM]
  refine l9 ?_ H
  generalize(Nat.beq (g/q.F) (gQ q.R q.s)==Nat.beq z 1)=x1;generalize Nat.beq z 2=x2;generalize fu q.F q.s a g=x3;generalize decide ((g:Int)=q.ep)=x4;generalize q.sd (1-q.s) g=x5;generalize iq q a g=x6
  revert x1 x2 x3 x4 x5 x6;decide
 rcases h.uj with s|s
 ·refine Eq.trans ?_ (fin ((q.R:Int)-1) (l0 s))
  erw[xf,JH,h.pG,h.aR,h.aF,h.ps,show decide ((q.s:Int)=0)=true by rw[s];rfl,fd,c1,c2,h.GI,h.pt hs,h.pw hs ha,kS,hg,decide_true,Bool.true_and,h.pe,h.pS,Ff hs,h.st hs1,uc h ha hg]
 ·refine Eq.trans ?_ (fin 0 (l1 s))
  erw[xf,JH,h.pG,h.aR,h.aF,h.ps,show decide ((q.s:Int)=0)=false by rw[s];rfl,fd,c1,c2,h.GI,h.pt hs,h.pw hs ha,kS,hg,decide_true,Bool.true_and,h.pe,h.pS,Ff hs,h.st hs1,uc h ha hg]
noncomputable def qc(q:St)(k a g z:Nat):Bool:=if Nat.beq k 1 then fE q a g z else Nat.beq z 0&&bk q.F q.N (k+8*q.s) a g q.oc
theorem Hm(h:HP q H)(mm:hZ q)(ha:a<q.N)(hg:g<q.N)(k1:1≤k)(k6:k≤6):ag PB (d+7) 58 [.ref 47,.int (k:Int),.int (a:Int),.int (g:Int),.int (z:Int)] H=some (.bool (qc q k a g z),H):=by
 rw[ax (fn:=LD) rfl rfl]
 erw[xf,LD,c1,c0,BN h ha hg,h.pS,h.s0,h.s1,bT,fk mm,h.pG,h.ps,me h ha h.hs k1 k6,kS,hg,decide_true,Bool.true_and]
 unfold qc
 cases Nat.beq k 1<;>cases Nat.beq z 0<;>first|rfl|(erw[ff]<;>rfl)
noncomputable def di(q:St)(x:Nat):Bool:=dk q q.oc (q.k q.s) x&&q.sd (1-q.s) x
noncomputable def Cu(q:St)(x:Nat):Bool:=di q x||aO q.N λu=>di q u&&eV q.F (q.k q.s) u x
noncomputable def ij(q:St)(x:Nat):Bool:=!manyN q.N (di q)&&Cu q x
theorem oT{N:Nat}{p:Nat→Bool}(h1:aO N p=true)(h2:manyN N p=false):∃u,u<N∧p u=true∧∀x,x<N→p x=Nat.beq x u:=by
 refine ay (aB.mp h1) λu hu hp=>?_
 refine⟨u,hu,hp,λx hx=>?_⟩
 rw[Bool.eq_iff_iff,ae]
 constructor
 ·intro hx'
  refine Decidable.byContradiction λhne=>?_
  rw[← Bool.not_eq_true]at h2
  apply h2
  unfold manyN
  rw[aB]
  refine Or.elim (Nat.lt_or_gt_of_ne hne) (λhlt=>?_) λhlt=>?_
  ·exact⟨u,hu,by rw[hp,Bool.true_and,aB];exact⟨x,hlt,hx'⟩⟩
  ·exact⟨x,hx,by rw[hx',Bool.true_and,aB];exact⟨u,hlt,hp⟩⟩
 ·rintro rfl;exact hp
theorem rM(h:HP q H)(mm:hZ q)(hc:aO q.N (di q)=true):ag PB (d+4) 48 [.ref 47,.int (bm q.N (di q))] H=some (.int (bm q.N (ij q)),H):=by
 rw[ax (fn:=JC) rfl rfl]
 have e1:∀x,x<q.N→ij q x=(!manyN q.N (di q)&&Cu q x):=λ_ _=>rfl
 have z0:decide (bm q.N (di q)=0)=false:=by simp only[kX,hc];rfl
 cases hm:manyN q.N (di q)with
 |true=>
  erw[xf,JC,z0,kH,hm]
  rw[← cW q.N]
  refine ew (aE λx hx=>?_) H
  simp only[e1 x hx,hm];rfl
 |false=>
  refine dD (oT hc hm) λu hu hp huniq=>?_
  erw[xf,JC,z0,kH,hm,h.pG,h.ps,dN h mm h.hs,yt _ H h.hN hu huniq,kR h (mm.jy _ h.hs) hu,bT]
  refine ew (aE λx hx=>?_) H
  simp only[e1 x hx,hm,Bool.not_false,Bool.true_and]
  unfold Cu
  congr 1
  rw[Bool.eq_iff_iff,aB]
  constructor
  ·intro hb;exact⟨u,hu,by rw[hp,hb];rfl⟩
  ·rintro⟨v,hv,hb⟩
   rw[Bool.and_eq_true,huniq v hv,ae]at hb
   rw[← hb.1];exact hb.2
structure hY (q:St) (e p:Nat):Prop where
 ep:q.ep=(e:Nat)
 eN:e<q.N
 pN:p<q.N
 st:iL q.F q.s p e=true
theorem hY.Kd(w:hY q e b):(q.s=0→(e:Int)-(q.F:Int)=(b:Int))∧(q.s≠0→(e:Int)+(q.F:Int)=(b:Int)):=by
 have:=w.st
 unfold iL at this
 constructor
 ·intro h;rw[h]at this;simp only[ae]at this;exact Ar.Z3 [.q .x0 (.a .x1 .x2)] (.Q (.s (.c .x0) (.c .x2)) (.c .x1)) rfl this
 ·intro h
  split at this
  ·exact absurd (by assumption) h
  ·simp only[ae]at this;exact Ar.Z3 [.q .x0 (.a .x1 .x2)] (.Q (.a (.c .x1) (.c .x2)) (.c .x0)) rfl this
theorem nonneg(x:Nat):decide ((x:Int)<0)=false:=by rw[decide_eq_false_iff_not];exact Ar.Z1 [] (.N (.L (.c .x0) .n0)) rfl
theorem vc(h:HP q H)(w:hY q e b):ag PB (d+1) 49 [.ref 47] H=some (.int (b:Int),H):=by
 rw[ax (fn:=JD) rfl rfl]
 refine Or.elim (h.uj) (λs=>?_) λs=>?_
 ·erw[xf,JD,h.ps,show decide ((q.s:Int)=0)=true by rw[s];rfl,h.pe,w.ep,h.pG,h.aF,w.Kd.1 s]
 ·erw[xf,JD,h.ps,show decide ((q.s:Int)=0)=false by rw[s];rfl,h.pe,w.ep,h.pG,h.aF,w.Kd.2 (by exact Ar.Z1 [.q .x0 .n1] (.N (.q .x0 .n0)) rfl s)]
theorem uX(h:HP q H)(w:hY q e b)(p:Nat→Bool):ag PB (d+2) 50 [.ref 47,.int (bm q.N p)] H=some (.bool (p e||p b),H):=by
 rw[ax (fn:=LB) rfl rfl]
 erw[xf,LB,h.pe,w.ep,nonneg,bh w.eN h.hN,vc h w,bh w.pN h.hN,bT,cB,vZ]
 refine l9 ?_ H
 rw[Bool.eq_iff_iff,aB,Bool.or_eq_true]
 constructor
 ·rintro⟨x,_,hx⟩
  simp only[Bool.and_eq_true,Bool.or_eq_true,ae,ae]at hx
  rcases hx.2 with rfl|rfl
  ·exact .inl hx.1
  ·exact .inr hx.1
 ·rintro(hx|hx)
  ·exact⟨e,w.eN,by rw[hx,Nat.beq_refl];rfl⟩
  ·exact⟨b,w.pN,by simp only[hx,Nat.beq_refl,Bool.or_true];rfl⟩
noncomputable def pC(q:St)(k z g p:Nat):Bool:=!aO q.N (di q)||Nat.beq k 6||(if Nat.beq z 2 then ij q g||ij q p else ij q g)
theorem Dl(h:HP q H)(mm:hZ q)(hg:m%64<q.N)(hz:m/16384<4)(w:m/16384%4=2→hY q (m%64) b):ag PB (d+8) 59 [.ref 47,.int (m:Int),.int (k:Int)] H=some (.bool (pC q k (m/16384%4) (m%64) b),H):=by
 have ce:(λx=>dk q q.oc (q.k q.s) x&&q.sd (1-q.s) x)=di q:=rfl
 rw[ax (fn:=JI) rfl rfl]
 unfold pC
 cases hc:aO q.N (di q)with
 |false=>
  erw[xf,JI,jW h mm,ce,kX,hc,Bool.not_false]
  first|rfl|(erw[ff]<;>rfl)
 |true=>
  erw[xf,JI,jW h mm,ce,kX,hc,Bool.not_true,c6,rM h mm hc,bG,c2,fI,kS,hg,decide_true,Bool.true_and]
  cases Nat.beq k 6 with
  |true=>first|rfl|(erw[ff]<;>rfl)
  |false=>
   simp only[au,Bool.false_or,Bool.false_or]
   by_cases h2:m/16384%4=2
   ·simp only[h2,show Nat.beq 2 2=true from rfl,aA]
    erw[xf,uX h (w h2)]
    rfl
   ·have:Nat.beq (m/16384%4) 2=false:=by simp only[aq];exact h2
    simp only[this,au];rfl
end
end
section
open PySem
section
variable {q:St} {H:MH} {d a b e g t k m n z i:Nat} {o:Nat→Bool}
theorem qS(h:HP q H)(h2:m/16384%4=2)(w:hY q (m%64) b):ag PB (d+2) 51 [.ref 47,.int (m:Int)] H=some (.int (b:Int),H):=by
 rw[ax (fn:=JE) rfl rfl]
 refine Or.elim (h.uj) (λs=>?_) λs=>?_
 ·erw[xf,JE,fI,bG,c2,h2,show Nat.beq 2 2=true from rfl,Bool.not_true,h.ps,show decide ((q.s:Int)=0)=true by rw[s];rfl,h.pG,h.aF,w.Kd.1 s]
 ·erw[xf,JE,fI,bG,c2,h2,show Nat.beq 2 2=true from rfl,Bool.not_true,h.ps,show decide ((q.s:Int)=0)=false by rw[s];rfl,h.pG,h.aF,w.Kd.2 (by exact Ar.Z1 [.q .x0 .n1] (.N (.q .x0 .n0)) rfl s)]
noncomputable def Jx(q:St)(a g p x:Nat):Bool:=((q.oc x ^^ Nat.beq x a) ^^ Nat.beq x p)||Nat.beq x g
noncomputable def zh(q:St)(a g p:Nat):Bool:=!aO q.N λx=>(dk q (Jx q a g p) (q.k q.s) x&&q.sd (1-q.s) x)&&!Nat.beq x p
theorem B7(h:HP q H)(mm:hZ q)(ha:m/64%64<q.N)(h2:m/16384%4=2)(w:hY q (m%64) b):ag PB (d+6) 52 [.ref 47,.int (m:Int)] H=some (.bool (zh q (m/64%64) (m%64) b),H):=by
 have hs1:1-q.s<2:=by have:=h.hs;exact Ar.Z2 [.s .x1 .n1 .x0] (.l .x1 .n2) rfl (Ar.ts _ _)
 have eo:(λx=>((q.oc x ^^ Nat.beq x (m/64%64)) ^^ Nat.beq x b)||Nat.beq x (m%64))=Jx q (m/64%64) (m%64) b:=rfl
 rw[ax (fn:=LC) rfl rfl]
 erw[xf,LC,qS h h2 w,fI,dw,bh w.pN h.hN,bh w.eN h.hN,bh ha h.hN,h.pS,h.s0,h.s1,bT,fk mm,nX,eo,h.ps,dN h mm h.hs,eB h mm (mm.jy _ h.hs),Ff h.hs,h.st hs1,cB,eY,kX]
 rfl
noncomputable def ib(q:St)(z a g p:Nat):Bool:=if Nat.beq z 3 then true else if Nat.beq z 2 then zh q a g p else
 if Nat.beq a (q.k q.s)then !aO q.N λx=>q.sd (1-q.s) x&&dk q (λx=>q.oc x ^^ Nat.beq x (q.k q.s)) g x
 else if !(gh q q.s a&&q.sd q.s a)then true else kP q.F a g (q.k q.s)
theorem yj(h:HP q H)(mm:hZ q)(ha:m/64%64<q.N)(hg:m%64<q.N)(w:m/16384%4=2→hY q (m%64) b):ag PB (d+7) 53 [.ref 47,.int (m:Int),.int (bm q.N λx=>gh q q.s x&&q.sd q.s x)] H =
  some (.bool (ib q (m/16384%4) (m/64%64) (m%64) b),H):=by
 have hs1:1-q.s<2:=by have:=h.hs;exact Ar.Z2 [.s .x1 .n1 .x0] (.l .x1 .n2) rfl (Ar.ts _ _)
 have bz:decide (bM ((bm q.N λx=>gh q q.s x&&q.sd q.s x).fdiv (2 ^ (m/64%64))) 1=0)=!(gh q q.s (m/64%64)&&q.sd q.s (m/64%64)):=by
  simp only[rA,decide_eq_true ha,Bool.true_and];cases(gh q q.s (m/64%64)&&q.sd q.s (m/64%64))<;>rfl
 rw[ax (fn:=JF) rfl rfl]
 unfold ib
 by_cases h2:m/16384%4=2
 ·rw[h2]
  erw[xf,JF,bG,h2,c3,c2,show Nat.beq 2 3=false from rfl,show Nat.beq 2 2=true from rfl,B7 h mm ha h2 (w h2)]
  rfl
 ·have n2:Nat.beq (m/16384%4) 2=false:=by rw[aq];exact h2
  erw[xf,JF,bG,c3,c2,n2,dw,fI,h.ps,dN h mm h.hs,ee,h.pS,h.s0,h.s1,bT,fk mm,bh (mm.jy _ h.hs) h.hN,nX,Ff h.hs,hM h mm hg hs1,bz,h.pG,q9 h ha hg (mm.jy _ h.hs)]
  simp only[kM,n2,Bool.false_eq_true,if_false]
theorem HP.cs(h:HP q H)(hi:i<4):aJ (.ref 16) (.int (i:Int)) H=some (eK q.F q.R q.wg i):=by
 rw[bu h.NK (by exact Ar.Z1 [.l .x0 .n4] (.l .x0 .av) rfl hi)]
 match i,hi with
 |0,_=>rfl
 |1,_=>rfl
 |2,_=>rfl
 |3,_=>rfl
noncomputable def eW(w:Option (Nat×Nat×Nat×Nat))(a g:Nat):Bool:=match w with
 |some (x,y,_,_)=>Nat.beq x a&&Nat.beq y g
 |none=>false
theorem dJ(x y u v a g:Nat):eW (some (x,y,u,v)) a g=(Nat.beq x a&&Nat.beq y g):=rfl
theorem nR(a g:Nat):eW none a g=false:=rfl
theorem zG(x y:V)(l:List V)(H:MH):aJ (.tup (x::y::l)) (.int 1) H=some y:=rfl
theorem fN(h:HP q H):ag PB (d+1) 54 [.ref 47,.int (a:Int),.int (g:Int)] H =
  some (.int (if eW (bj q.F q.R q.wg (2*q.s)) a g then((2*q.s:Nat):Int)else if eW (bj q.F q.R q.wg (2*q.s+1)) a g then((2*q.s+1:Nat):Int)else -1),H):=by
 have hs:=h.hs
 rw[ax (fn:=FY) rfl rfl]
 have i0:(q.s:Int)*2+0=((2*q.s:Nat):Int):=by exact Ar.Z1 [] (.Q (.a (.r (.c .x0) 2) .n0) (.c (.m 2 .x0))) rfl
 have i1:(q.s:Int)*2+1=((2*q.s+1:Nat):Int):=by exact Ar.Z1 [] (.Q (.a (.r (.c .x0) 2) .n1) (.c (.a (.m 2 .x0) .n1))) rfl
 have nt:∀l,(!gK (V.tup l))=true:=λ_=>rfl
 rcases e0:bj q.F q.R q.wg (2*q.s)with _|⟨x,y,u,v⟩<;>rcases e1:bj q.F q.R q.wg (2*q.s+1)with _|⟨x',y',u',v'⟩
 ·erw[xf,FY,Ka,js,h.ps,tV,i0,i1,h.pG,h.Di,h.cs (show 2*q.s<4 by exact Ar.Z1 [.l .x0 .n2] (.l (.m 2 .x0) .n4) rfl hs),h.cs (show 2*q.s+1<4 by exact Ar.Z1 [.l .x0 .n2] (.l (.a (.m 2 .x0) .n1) .n4) rfl hs),eK,e0,e1,sW,show(!gK V.bW)=false from rfl]
  try rfl
 ·rw[nR,dJ]
  erw[xf,FY,Ka,js,h.ps,tV,i0,i1,h.pG,h.Di,h.cs (show 2*q.s<4 by exact Ar.Z1 [.l .x0 .n2] (.l (.m 2 .x0) .n4) rfl hs),h.cs (show 2*q.s+1<4 by exact Ar.Z1 [.l .x0 .n2] (.l (.a (.m 2 .x0) .n1) .n4) rfl hs),eK,e0,e1,sW,show(!gK V.bW)=false from rfl,nt,uv,zG,ee]
  cases Nat.beq x' a<;>cases Nat.beq y' g<;>first|rfl|(erw[ff]<;>rfl)
 ·rw[nR,dJ]
  erw[xf,FY,Ka,js,h.ps,tV,i0,i1,h.pG,h.Di,h.cs (show 2*q.s<4 by exact Ar.Z1 [.l .x0 .n2] (.l (.m 2 .x0) .n4) rfl hs),h.cs (show 2*q.s+1<4 by exact Ar.Z1 [.l .x0 .n2] (.l (.a (.m 2 .x0) .n1) .n4) rfl hs),eK,e0,e1,sW,show(!gK V.bW)=false from rfl,nt,uv,zG,ee]
  cases Nat.beq x a<;>cases Nat.beq y g<;>first|rfl|(erw[ff]<;>rfl)
 ·rw[dJ,dJ]
  erw[xf,FY,Ka,js,h.ps,tV,i0,i1,h.pG,h.Di,h.cs (show 2*q.s<4 by exact Ar.Z1 [.l .x0 .n2] (.l (.m 2 .x0) .n4) rfl hs),h.cs (show 2*q.s+1<4 by exact Ar.Z1 [.l .x0 .n2] (.l (.a (.m 2 .x0) .n1) .n4) rfl hs),eK,e0,e1,sW,nt,uv,zG,ee]
  cases Nat.beq x a<;>cases Nat.beq y g<;>cases Nat.beq x' a<;>cases Nat.beq y' g<;>first|rfl|(erw[ff]<;>rfl)
noncomputable def fV(a b x:Nat):Bool:=(Nat.blt a x&&Nat.blt x b)||(Nat.blt b x&&Nat.blt x a)
theorem mR(a:Nat):∀n,a<n→eJ n (λx=>Nat.blt a x)+2 ^ (a+1)=2 ^ n
 |0,h=>absurd h (by exact Ar.Z1 [] (.N (.l .x0 .n0)) rfl)
 |n+1,h=>by
  unfold eJ
  by_cases hn:a<n
  ·rw[if_pos (by rw[aC];exact hn)]
   have:=mR a n hn
   simp only[Nat.pow_succ 2 n];exact Ar.Z3 [.q (.a .x0 .x1) .x2] (.q (.a (.a .x0 .x2) .x1) (.r .x2 2)) rfl this
  ·have:a=n:=by exact Ar.Z2 [.l .x0 (.a .x1 .n1),.N (.l .x0 .x1)] (.q .x0 .x1) rfl h hn
   subst this
   rw[if_neg (by rw[aC];exact Ar.Z1 [] (.N (.l .x0 .x0)) rfl)]
   have z:eJ a (λx=>Nat.blt a x)=0:=by
    have:bm a (λx=>Nat.blt a x)=0:=nY.mpr λi hi=>by rw[← Bool.not_eq_true,aC];exact Ar.Z2 [.l .x0 .x1] (.N (.l .x1 .x0)) rfl hi
    unfold bm at this;exact Ar.Z1 [.Q (.c .x0) .n0] (.q .x0 .n0) rfl this
   rw[z];exact Ar.Z1 [] (.q (.a (.a .n0 .n0) .x0) .x0) rfl
theorem Dp{N:Nat}{p r:Nat→Bool}(hb:b≤N)(h:∀x,x<N→r x=(Nat.blt x b&&p x)):bm N r=bm b p:=by
 unfold bm;congr 1
 symm
 refine eC λi=>?_
 rw[bo]
 by_cases hi:i<N
 ·simp only[h i hi,decide_eq_true hi,Bool.true_and]
  cases hq:Nat.blt i b with
  |true=>rw[aC]at hq;rw[decide_eq_true hq]
  |false=>rw[← Bool.not_eq_true,aC]at hq;rw[decide_eq_false hq]
 ·rw[decide_eq_false hi,decide_eq_false (by exact Ar.Z3 [.e .x0 .x1,.N (.l .x2 .x1)] (.N (.l .x2 .x0)) rfl hb hi:¬ i<b)];rfl
theorem xh{N:Nat}(hab:a<b)(hb:b<N):(2:Int) ^ b-2*2 ^ a=bm N (fV a b):=by
 rw[Dp (b:=b) (p:=λx=>Nat.blt a x) (by exact Ar.Z2 [.l .x0 .x1] (.e .x0 .x1) rfl hb)]
 ·have:=mR a b hab
  unfold bm
  simp only[Nat.pow_succ]at this
  simp only[two_pow_cast,two_pow_cast]
  exact Ar.Z3 [.q (.a .x0 (.r .x1 2)) .x2] (.Q (.s (.c .x2) (.m 2 (.c .x1))) (.c .x0)) rfl this
 ·intro x hx
  unfold fV
  have:(Nat.blt b x&&Nat.blt x a)=false:=by simp only[← Bool.not_eq_true,Bool.and_eq_true,aC,aC];exact Ar.Z3 [.l .x0 .x1] (.N (.C (.l .x1 .x2) (.l .x2 .x0))) rfl hab
  simp only[this,Bool.or_false,Bool.and_comm]
theorem o5{x:Int}(hx:small x=true)(h:a<25):binI .shl x (a:Int)=some (x*2 ^ a):=by
 show(if decide (0≤(a:Int))&&decide ((a:Int)<4096)&&small x then some (x*2 ^ ((a:Int)).toNat)else none)=_
 rw[if_pos (by rw[hx];simp;exact Ar.Z1 [.l .x0 .aQ] (.L (.c .x0) .il) rfl h),Int.toNat_natCast]
theorem Bl(a b x:Nat):fV a b x=fV b a x:=by unfold fV;simp only[Bool.or_comm]
theorem vz{N:Nat}(hN:N≤25)(ha:a<N)(hb:b<N)(hab:a≠b):ag PB (d+1) 46 [.int (a:Int),.int (b:Int)] H=some (.int (bm N (fV a b)),H):=by
 rw[ax (fn:=JB) rfl rfl]
 by_cases h:a<b
 ·erw[xf,JB,show decide ((a:Int)<(b:Int))=true by simp;exact Ar.Z2 [.l .x0 .x1] (.l .x0 .x1) rfl h,o5 (show small 1=true from rfl) (show b<25 by exact Ar.Z2 [.e .x0 .aQ,.l .x1 .x0] (.l .x1 .aQ) rfl hN hb),o5 (show small 2=true from rfl) (show a<25 by exact Ar.Z2 [.e .x0 .aQ,.l .x1 .x0] (.l .x1 .aQ) rfl hN ha),Int.one_mul,xh h hb]
 ·erw[xf,JB,show decide ((a:Int)<(b:Int))=false by simp;exact Ar.Z2 [.N (.l .x0 .x1)] (.e .x1 .x0) rfl h,o5 (show small 1=true from rfl) (show a<25 by exact Ar.Z2 [.e .x0 .aQ,.l .x1 .x0] (.l .x1 .aQ) rfl hN ha),o5 (show small 2=true from rfl) (show b<25 by exact Ar.Z2 [.e .x0 .aQ,.l .x1 .x0] (.l .x1 .aQ) rfl hN hb),Int.one_mul,xh (show b<a by exact Ar.Z2 [.N (.l .x0 .x1),.N (.q .x0 .x1)] (.l .x1 .x0) rfl h hab) ha]
  exact ew (aE λx _=>Bl _ _ _) H
theorem EU(h:HP q H)(mm:hZ q):ag PB (d+1) 30 [.ref 47] H=some (.int (bm q.N q.oc),H):=by
 rw[ax (fn:=Lj) rfl rfl]
 erw[xf,Lj,h.pS,h.s0,h.s1,bT,fk mm]
noncomputable def bp(q:St)(t a:Nat):Bool:=aO q.N λx=>q.sd t x&&dk q q.oc a x
noncomputable def fJ(q:St)(i kf kt rf rt:Nat):Bool:=q.rt i&&(!aO q.N (λx=>q.oc x&&fV kf rf x)&&(!bp q (1-i/2) kf&&(!bp q (1-i/2) rt&&!bp q (1-i/2) kt)))
theorem sR(h:HP q H)(mm:hZ q)(hi:i<4){kf kt rf rt:Nat}(hw:bj q.F q.R q.wg i=some (kf,kt,rf,rt)):∃c:Int,ag PB (d+6) 47 [.ref 47,.int (i:Int)] H=some (.int c,H)∧decide (c=0)=fJ q i kf kt rf rt:=by
 refine pd (mm.cast i kf kt rf rt hi hw) λw1 w2 w3 w4 w5=>?_
 have ie:(1:Int)-((i:Int).fdiv (2 ^ 1))=((1-i/2:Nat):Int):=by rw[D4];exact Ar.Z4 [.l .x0 .n4,.s .x3 .n1 .x1,.d 2 .x1 .x2 .x0] (.Q (.s .n1 (.c .x1)) (.c .x3)) rfl hi (Ar.ts _ _) (Ar.md _ 2 rfl)
 have hs1:1-i/2<2:=by exact Ar.q0 [.Q (.s .n1 .y0) (.c .x0),.s .x0 .n1 .x1,.d 2 .x1 .x3 .x2] (.l .x0 .n2) rfl ie (Ar.ts _ _) (Ar.md _ 2 rfl)
 have nt:∀l,gK (V.tup l)=false:=λ_=>rfl
 have bz:decide (bm 4 (λx=>q.rt x&&Nat.beq x i)=0)=!q.rt i:=by
  rw[kX];congr 1
  rw[Bool.eq_iff_iff,aB]
  constructor
  ·rintro⟨x,_,hx⟩;simp only[Bool.and_eq_true,ae]at hx;rw[← hx.2];exact hx.1
  ·intro hr;exact⟨i,hi,by simp only[hr,Nat.beq_refl];rfl⟩
 refine⟨if !q.rt i then 2 else if aO q.N (λx=>q.oc x&&fV kf rf x)then 3 else if bp q (1-i/2) kf then 4 else if bp q (1-i/2) rt then 5 else if bp q (1-i/2) kt then 6 else 0,?_,?_⟩
 ·rw[ax (fn:=LA) rfl rfl]
  erw[xf,LA,h.pG,h.Di,h.cs hi,eK,hw,sW,nt,h.pr,bh hi (show 4≤25 by decide),bz,EU h mm,vz h.hN w1 w3 w5,cB,mS,ie,hM h mm w1 hs1,hM h mm w4 hs1,hM h mm w2 hs1]
  show _=some (V.int (if !q.rt i then 2 else if aO q.N (λx=>q.oc x&&fV kf rf x)then 3 else if bp q (1-i/2) kf then 4 else if bp q (1-i/2) rt then 5 else if bp q (1-i/2) kt then 6 else 0),H)
  unfold bp
  simp only[FU]
 ·unfold fJ
  generalize q.rt i=x1;generalize aO q.N (λx=>q.oc x&&fV kf rf x)=x2;generalize bp q (1-i/2) kf=x3;generalize bp q (1-i/2) rt=x4;generalize bp q (1-i/2) kt=x5
  revert x1 x2 x3 x4 x5;decide
noncomputable def u9(q:St)(i:Nat):Bool:=match bj q.F q.R q.wg i with
 |some (kf,kt,rf,rt)=>fJ q i kf kt rf rt
 |none=>false
noncomputable def oI(q:St)(a g:Nat):Bool:=if eW (bj q.F q.R q.wg (2*q.s)) a g then u9 q (2*q.s)else if eW (bj q.F q.R q.wg (2*q.s+1)) a g then u9 q (2*q.s+1)else false
theorem ED(h:HP q H)(mm:hZ q):ag PB (d+7) 55 [.ref 47,.int (a:Int),.int (g:Int)] H=some (.bool (oI q a g),H):=by
 have hs:=h.hs
 have ge:∀x:Nat,decide ((0:Int)≤(x:Int))=true:=λx=>by simp
 have one:∀i,i<4→eW (bj q.F q.R q.wg i) a g=true→∃c:Int,ag PB (d+6) 47 [.ref 47,.int (i:Int)] H=some (.int c,H)∧decide (c=0)=u9 q i:=λi hi hw=>by
  unfold u9
  unfold eW at hw
  split at hw
  ·rename_i x y u v e
   exact sR h mm hi e
  ·exact bY hw
 rw[ax (fn:=Ha) rfl rfl]
 unfold oI
 cases h0:eW (bj q.F q.R q.wg (2*q.s)) a g with
 |true=>
  refine ay (one (2*q.s) (by exact Ar.Z1 [.l .x0 .n2] (.l (.m 2 .x0) .n4) rfl hs) h0) λc e1 e2=>?_
  erw[xf,Ha,fN h,h0,if_true,ge,e1,e2]
 |false=>
  cases h1:eW (bj q.F q.R q.wg (2*q.s+1)) a g with
  |true=>
   refine ay (one (2*q.s+1) (by exact Ar.Z1 [.l .x0 .n2] (.l (.a (.m 2 .x0) .n1) .n4) rfl hs) h1) λc e1 e2=>?_
   erw[xf,Ha,fN h,h0,h1,if_true,if_false,Bool.false_eq_true,ge,e1,e2]
  |false=>
   erw[xf,Ha,fN h,h0,h1,if_true,if_false,Bool.false_eq_true,show decide ((0:Int) ≤ -1)=false from rfl]
end
end
section
open PySem
section
variable {q:St} {H:MH} {d a b e g t k m n z i:Nat} {o:Nat→Bool}
noncomputable def oW(q:St)(m p:Nat):Nat:=
 let a:=m/64%64
 let g:=m%64
 let z:=m/16384%4
 if !uZ m then 1 else if Nat.ble q.N a||Nat.ble q.N g then 2 else if Nat.beq (q.c a) 0||!Nat.beq (q.c a/8) q.s then 3 else if q.sd q.s g then 4
 else if Nat.beq z 3 then(if oI q a g then 0 else 5)else if !qc q (q.c a%8) a g z then 5 else if pC q (q.c a%8) z g p then 0 else 6
theorem Mn(h:HP q H)(x:Nat):decide (((q.N:Nat):Int)≤(x:Int))=Nat.ble q.N x:=by rw[Bool.eq_iff_iff,decide_eq_true_eq,b5];exact Ar.Z2 [] (.B (.E (.c .x0) (.c .x1)) (.e .x0 .x1)) rfl
theorem yU(h:HP q H)(mm:hZ q)(h0:0<m)(h1:m<65536)(w:qc q (q.c (m/64%64)%8) (m/64%64) (m%64) (m/16384%4)=true→m/16384%4=2→hY q (m%64) b) :
  ag PB (d+9) 60 [.ref 47,.int (m:Int)] H=some (.int ((oW q m b:Nat):Int),H):=by
 have mv:=so (d:=d+6) (H:=H) h0 h1
 have hz:m/16384%4=m/16384:=by exact Ar.Z5 [.l .x0 (.n 65536),.d 4 .x4 .x1 .x2,.d 16384 .x2 .x3 .x0] (.q .x1 .x2) rfl h1 (Ar.md _ 4 rfl) (Ar.md _ 16384 rfl)
 rw[ax (fn:=Hb) rfl rfl]
 erw[xf,Hb,mv,dw,fI,h.pG,h.aN,Mn h,fo,kc,kb]
 unfold oW
 dsimp only
 cases uZ m with
 |false=>exact(au _ _).trans rfl
 |true=>
 simp only[aA]
 cases e2:Nat.ble q.N (m/64%64)with
 |true=>exact(aA _ _).trans rfl
 |false=>
 simp only[au]
 cases e3:Nat.ble q.N (m%64)with
 |true=>exact(aA _ _).trans rfl
 |false=>
 have ha:m/64%64<q.N:=by rw[← Bool.not_eq_true,b5]at e2;exact Ar.Z6 [.N (.e .x0 .x1),.d 64 .x5 .x1 .x2,.d 64 .x2 .x4 .x3] (.l .x1 .x0) rfl e2 (Ar.md _ 64 rfl) (Ar.md _ 64 rfl)
 have hg:m%64<q.N:=by rw[← Bool.not_eq_true,b5]at e3;exact Ar.Z4 [.N (.e .x0 .x1),.d 64 .x3 .x1 .x2] (.l .x1 .x0) rfl e3 (Ar.md _ 64 rfl)
 simp only[au]
 erw[xf,h.pB,h.b ha,c0,um,h.ps,ee,h.pS,h.st h.hs,jA,hg,decide_true,Bool.true_and,bG,c3,ED h mm,oF,fo,kc,kb]
 cases e4:Nat.beq (q.c (m/64%64)) 0 with
 |true=>exact(aA _ _).trans rfl
 |false=>
 simp only[au]
 cases Nat.beq (q.c (m/64%64)/8) q.s with
 |false=>exact(au _ _).trans rfl
 |true=>
 simp only[aA]
 cases q.sd q.s (m%64)with
 |true=>exact(aA _ _).trans rfl
 |false=>
 simp only[au]
 cases Nat.beq (m/16384%4) 3 with
 |true=>rw[aA];cases oI q (m/64%64) (m%64)<;>(first|rfl|(erw[ff]<;>rfl))
 |false=>
 have hk:1≤q.c (m/64%64)%8∧q.c (m/64%64)%8≤6:=by
  refine Or.elim (mm.code _ ha) (λhc=>?_) λhc=>?_
  ·rw[hc]at e4;exact pF e4
  ·exact⟨hc.1,hc.2.1⟩
 simp only[au]
 erw[xf,Hm h mm ha hg hk.1 hk.2]
 cases e8:qc q (q.c (m/64%64)%8) (m/64%64) (m%64) (m/16384%4)with
 |false=>exact(aA _ _).trans rfl
 |true=>
 refine(au _ _).trans ?_
 erw[xf,Dl h mm hg (by exact Ar.Z3 [.l .x0 (.n 65536),.d 16384 .x1 .x2 .x0] (.l .x1 .n4) rfl h1 (Ar.md _ 16384 rfl)) (w e8)]
 cases pC q (q.c (m/64%64)%8) (m/16384%4) (m%64) b<;>(first|rfl|(erw[ff]<;>rfl))
noncomputable def kp(q:St)(m p:Nat):Nat:=if Nat.beq (oW q m p) 0 then(if ib q (m/16384%4) (m/64%64) (m%64) p then 0 else 7)else oW q m p
theorem yV(q:St)(m p:Nat)(hp:oW q m p=0):m/64%64<q.N∧m%64<q.N∧(m/16384%4≠3→qc q (q.c (m/64%64)%8) (m/64%64) (m%64) (m/16384%4)=true):=by
 unfold oW at hp
 dsimp only at hp
 split at hp
 ·cases hp
 split at hp
 ·cases hp
 rename_i h2
 rw[Bool.or_eq_true,b5,b5]at h2
 refine⟨by exact Ar.Z6 [.N (.D (.e .x0 .x1) (.e .x0 .x4)),.d 64 .x5 .x1 .x2,.d 64 .x2 .x4 .x3] (.l .x1 .x0) rfl h2 (Ar.md _ 64 rfl) (Ar.md _ 64 rfl),by exact Ar.Z6 [.N (.D (.e .x0 .x1) (.e .x0 .x4)),.d 64 .x5 .x1 .x2,.d 64 .x2 .x4 .x3] (.l .x4 .x0) rfl h2 (Ar.md _ 64 rfl) (Ar.md _ 64 rfl),λh3=>?_⟩
 split at hp
 ·cases hp
 split at hp
 ·cases hp
 rw[if_neg (by rw[ae];exact h3)]at hp
 split at hp
 ·cases hp
 ·rename_i h4;simpa using h4
theorem E6(h:HP q H)(mm:hZ q)(h0:0<m)(h1:m<65536)(w:qc q (q.c (m/64%64)%8) (m/64%64) (m%64) (m/16384%4)=true→m/16384%4=2→hY q (m%64) b) :
  ∃K,ag PB (d+10) 61 [.ref 47,.int (m:Int)] H=some (.int ((kp q m b:Nat):Int),H++K):=by
 rw[ax (fn:=FZ) rfl rfl]
 unfold kp
 cases e:Nat.beq (oW q m b) 0 with
 |false=>
  refine⟨[],?_⟩
  rw[List.append_nil]
  erw[xf,FZ,yU h mm h0 h1 w,c0,e,Bool.not_false]
  rfl
 |true=>
  obtain⟨K,hK⟩:=ve (d:=d+3) h mm h.hs
  refine gw (yV q m b (by rwa [ae]at e)) λha hg hz=>?_
  refine⟨K,?_⟩
  have w':m/16384%4=2→hY q (m%64) b:=λh2=>w (hz (by exact Ar.Z5 [.q .x0 .n2,.d 4 .x4 .x0 .x1,.d 16384 .x1 .x3 .x2] (.N (.q .x0 .n3)) rfl h2 (Ar.md _ 4 rfl) (Ar.md _ 16384 rfl))) h2
  erw[xf,FZ,yU h mm h0 h1 w,c0,e,Bool.not_true,h.ps,hK,yj (h.app K) mm ha hg w']
  cases ib q (m/16384%4) (m/64%64) (m%64) b<;>(first|rfl|(erw[ff]<;>rfl))
theorem E0(v:Int)(hv:v≤0∨65536≤v):ag PB (d+10) 61 [.ref 47,.int v] H=some (.int 1,H):=by
 have:ag PB (d+9) 60 [.ref 47,.int v] H=some (.int 1,H):=by
  rw[ax (fn:=Hb) rfl rfl]
  erw[xf,Hb,sa hv,Bool.not_false]
 rw[ax (fn:=FZ) rfl rfl]
 erw[xf,FZ,this,show(!decide ((1:Int)=0))=true from rfl]
end
end
section
open PySem
theorem ov(d:Nat)(ks:List Nat)(b:List S)(n g i:Nat)(ρ:Loc)(H:MH)(K:KS):kFor (FT d ks b n g i) K (.bf,ρ,H)=FT d ks b n g i ρ H K:=rfl
theorem tP(d:Nat)(ks:List Nat)(b:List S)(n:Nat)(ρ:Loc)(H:MH)(K:KS)(l:List V):HS d ks b n ρ H K l=FT d ks b n (l.length+1) 0 ρ H K:=rfl
theorem tN(d:Nat)(ks:List Nat)(b:List S)(n:Nat)(ρ:Loc)(H:MH)(K:KS):xC ks (xB d b) ρ K (.ref n,H)=xO (aj H n) (HS d ks b n ρ H K):=rfl
theorem C7(d:Nat)(ks:List Nat)(e:E)(b:List S)(ρ:Loc)(H:MH)(K:KS):xS d (.Hh ks e b) ρ H K=xE d e ρ H (xC ks (xB d b) ρ K):=rfl
theorem uz(d:Nat)(ks:List Nat)(b:List S)(n g i:Nat)(ρ:Loc)(H:MH)(K:KS){l:List V}(hl:aj H n=some l)(hi:l[i]?=none):FT d ks b n (g+1) i ρ H K=K (.bf,ρ,H):=by
 refine(sP g ρ H K (xB d b) n i hl).trans ?_
 rw[hi]
theorem mF(d:Nat)(ks:List Nat)(b:List S)(n g i:Nat)(ρ ρ':Loc)(H:MH)(K:KS){l:List V}{v:V}(hl:aj H n=some l)(hi:l[i]?=some v)(hp:mL ks ρ v=some ρ') :
  FT d ks b n (g+1) i ρ H K=xB d b ρ' H (kFor (FT d ks b n g (i+1)) K):=by
 refine(sP g ρ H K (xB d b) n i hl).trans ?_
 rw[hi]
 show zO (mL ks ρ v) _=_
 rw[hp];rfl
section
variable {q:St} {H:MH} {d a b e g t k m n z i:Nat} {o:Nat→Bool}
noncomputable def kr(q:St)(a g:Nat):Nat:=if eW (bj q.F q.R q.wg (2*q.s)) a g then 2*q.s else 2*q.s+1
noncomputable def Way(q:St)(a g u v:Nat):Prop:=bj q.F q.R q.wg (kr q a g)=some (a,g,u,v)
theorem FI(h:oI q a g=true):∃u v,Way q a g u v∧fJ q (kr q a g) a g u v=true:=by
 unfold oI at h
 unfold Way kr
 have one:∀i,eW (bj q.F q.R q.wg i) a g=true→u9 q i=true→∃u v,bj q.F q.R q.wg i=some (a,g,u,v)∧fJ q i a g u v=true:=λi hw ho=>by
  unfold eW at hw
  unfold u9 at ho
  split at hw
  ·rename_i x y u v e
   rw[e]at ho
   simp only[Bool.and_eq_true,ae,ae]at hw
   obtain⟨rfl,rfl⟩:=hw
   exact⟨u,v,e,ho⟩
  ·exact bY hw
 split at h
 ·rename_i h0;rw[if_pos h0];exact one _ h0 h
 ·rename_i h0
  rw[if_neg h0]
  split at h
  ·rename_i h1;exact one _ h1 h
  ·exact bY h
theorem FH{u v:Nat}(h:HP q H)(w:Way q a g u v):ag PB (d+1) 54 [.ref 47,.int (a:Int),.int (g:Int)] H=some (.int (kr q a g:Nat),H)∧kr q a g<4:=by
 have hs:=h.hs
 unfold Way kr at w
 unfold kr
 rw[fN h]
 cases h0:eW (bj q.F q.R q.wg (2*q.s)) a g with
 |true=>exact⟨rfl,by show 2*q.s<4;exact Ar.Z1 [.l .x0 .n2] (.l (.m 2 .x0) .n4) rfl hs⟩
 |false=>
  rw[h0]at w
  have w:bj q.F q.R q.wg (2*q.s+1)=some (a,g,u,v):=w
  have h1:eW (bj q.F q.R q.wg (2*q.s+1)) a g=true:=by simp only[w,dJ,Nat.beq_refl,Nat.beq_refl];rfl
  rw[h1]
  exact⟨rfl,by show 2*q.s+1<4;exact Ar.Z1 [.l .x0 .n2] (.l (.a (.m 2 .x0) .n1) .n4) rfl hs⟩
theorem Jb(x y z:V)(l:List V)(H:MH):aJ (.tup (x::y::z::l)) (.int 2) H=some z:=rfl
theorem Jc(x y z u:V)(l:List V)(H:MH):aJ (.tup (x::y::z::u::l)) (.int 3) H=some u:=rfl
theorem nD{u v:Nat}(h:HP q H)(w:Way q (m/64%64) (m%64) u v):ag PB (d+2) 63 [.ref 47,.int (m:Int)] H=some (.tup [.int (u:Int),.int (v:Int)],H):=by
 refine dd (FH (d:=d) h w) λw1 w2=>?_
 have w:bj q.F q.R q.wg (kr q (m/64%64) (m%64))=_:=w
 rw[ax (fn:=LG) rfl rfl]
 erw[xf,LG,h.pG,h.Di,dw,fI,w1,h.cs w2,eK,w,sW,Jb,Jc]
noncomputable def dQ(q:St)(z a g p u v x:Nat):Bool:=(if Nat.beq z 2 then(q.oc x&&!Nat.beq x a)&&!Nat.beq x p else if Nat.beq z 3 then((q.oc x&&!Nat.beq x a)&&!Nat.beq x u)||Nat.beq x v else q.oc x&&!Nat.beq x a)||Nat.beq x g
structure Mv (q:St) (m p u v:Nat):Prop where
 aN:m/64%64<q.N
 gN:m%64<q.N
 ep:m/16384%4=2→hY q (m%64) p
 cs:m/16384%4=3→Way q (m/64%64) (m%64) u v∧u<q.N∧v<q.N
 k1:1≤q.c (m/64%64)%8
 k6:q.c (m/64%64)%8≤6
variable {p u v:Nat}
theorem mN(h:HP q H)(mm:hZ q)(w:Mv q m p u v):ag PB (d+3) 64 [.ref 47,.int (m:Int)] H=some (.int (bm q.N (dQ q (m/16384%4) (m/64%64) (m%64) p u v)),H):=by
 have hz:m/16384%4<4:=by exact Ar.Z5 [.d 4 .x4 .x0 .x1,.d 16384 .x1 .x3 .x2] (.l .x0 .n4) rfl (Ar.md _ 4 rfl) (Ar.md _ 16384 rfl)
 rw[ax (fn:=Hc) rfl rfl]
 by_cases h2:m/16384%4=2
 ·erw[xf,Hc,h.pS,h.s0,h.s1,bT,fk mm,dw,bh w.aN h.hN,eY,bG,c2,h2,show Nat.beq 2 2=true from rfl,qS h h2 (w.ep h2),bh (w.ep h2).pN h.hN,fI,bh w.gN h.hN]
  rfl
 ·have n2:Nat.beq (m/16384%4) 2=false:=by rw[aq];exact h2
  by_cases h3:m/16384%4=3
  ·refine gw (w.cs h3) λw1 w2 w3=>?_
   erw[xf,Hc,h.pS,h.s0,h.s1,bT,fk mm,dw,bh w.aN h.hN,eY,bG,c2,c3,h3,show Nat.beq 3 2=false from rfl,show Nat.beq 3 3=true from rfl,nD h w1,bh w2 h.hN,bh w3 h.hN,fI,bh w.gN h.hN]
   rfl
  ·have n3:Nat.beq (m/16384%4) 3=false:=by rw[aq];exact h3
   erw[xf,Hc,h.pS,h.s0,h.s1,bT,fk mm,dw,bh w.aN h.hN,eY,bG,c2,c3,n2,n3,fI,bh w.gN h.hN]
   refine ew (aE λx _=>?_) H
   unfold dQ;rw[n2,n3];rfl
noncomputable def ph(q:St)(m:Nat):Nat:=if m/16384%4=1 then m/4096%4+2 else q.c (m/64%64)%8
theorem qu(h:HP q H)(w:Mv q m p u v):ag PB (d+2) 65 [.ref 47,.int (m:Int)] H=some (.int ((ph q m:Nat):Int),H):=by
 rw[ax (fn:=JJ) rfl rfl]
 unfold ph
 by_cases h1:m/16384%4=1
 ·erw[xf,JJ,qK,h1,if_true,c0]
  exact aA _ _
 ·erw[xf,JJ,qK,h1,if_false,c0,show Nat.beq 0 0=true from rfl,Bool.not_true,h.pB,dw,h.b w.aN,oF]
end
end
section
open PySem
section
variable {q:St} {H:MH} {d a b e g t k m n z i p u v:Nat} {o:Nat→Bool}
noncomputable abbrev F5:List S:=[.ite (.b .band (.b .shr (.call 28 [.attr (.l 0) 14,.l 2,.l 10,.l 11,.l 4]) (.l 3)) (.c (.int 1))) [.aug 9 .bor (.b .shl (.c (.int 1)) (.l 11))] []]
noncomputable abbrev JL(q:St)(m:Nat)(o st:Nat→Bool)(n:Nat)(x7 x8:Option V)(gv:Nat→Bool)(bU bc:Option V):Loc:=
 [some (.ref 47),some (.int (m:Int)),some (.int (q.s:Int)),some (.int (q.k (1-q.s):Nat)),some (.int (bm q.N o)),some (.int (bm q.N st)),some (.ref n),x7,x8,some (.int (bm q.N gv)),bU,bc]
theorem rV(h:HP q H)(mm:hZ q)(hg:g<q.N)(k1:1≤k)(k6:k≤6)(o st:Nat→Bool)(n:Nat)(x7 x8:Option V)(gv:Nat→Bool)(K:KS) :
  xB (d+6) F5 (JL q m o st n x7 x8 gv (some (.int (k:Int))) (some (.int (g:Int)))) H K =
   K (.bf,JL q m o st n x7 x8 (λx=>gv x||(bk q.F q.N (k+8*q.s) g (q.k (1-q.s)) o&&Nat.beq x g)) (some (.int (k:Int))) (some (.int (g:Int))),H):=by
 have hk:q.k (1-q.s)<q.N:=mm.jy _ (by have:=h.hs;exact Ar.Z2 [.s .x1 .n1 .x0] (.l .x1 .n2) rfl (Ar.ts _ _))
 erw[xf,h.pG,me h hg h.hs k1 k6,jA,hk,decide_true,Bool.true_and,bh hg h.hN,bT]
 cases bk q.F q.N (k+8*q.s) g (q.k (1-q.s)) o with
 |true=>(first|rfl|(erw[ff]<;>rfl))
 |false=>simp only[au,Bool.false_and,Bool.or_false]
noncomputable def D9(q:St)(m p u v x:Nat):Bool:=
 let a:=m/64%64
 let g:=m%64
 let z:=m/16384%4
 let o:=dQ q z a g p u v
 let kk:=q.k (1-q.s)
 ((dk q o kk x&&((q.sd q.s x&&!Nat.beq x a)&&(!(Nat.beq z 3)||!Nat.beq x u)))||(bk q.F q.N (ph q m+8*q.s) g kk o&&Nat.beq x g))||(Nat.beq z 3&&(bk q.F q.N (4+8*q.s) v kk o&&Nat.beq x v))
theorem Ic(w:Mv q m p u v):1≤ph q m∧ph q m≤6:=by
 unfold ph
 split
 ·exact Ar.Z5 [.d 4 .x4 .x0 .x1,.d 4096 .x1 .x3 .x2] (.C (.e .n1 (.a .x0 .n2)) (.e (.a .x0 .n2) .n6)) rfl (Ar.md _ 4 rfl) (Ar.md _ 4096 rfl)
 ·exact⟨w.k1,w.k6⟩
theorem uO(h:HP q H)(mm:hZ q)(w:Mv q m p u v):∃K,ag PB (d+7) 66 [.ref 47,.int (m:Int)] H=some (.int (bm q.N (D9 q m p u v)),H++K):=by
 have hs:=h.hs
 have hs1:1-q.s<2:=by exact Ar.Z2 [.s .x1 .n1 .x0] (.l .x1 .n2) rfl (Ar.ts _ _)
 refine dd (Ic w) λk1 k6=>?_
 have eo:∀x,dQ q (m/16384%4) (m/64%64) (m%64) p u v x=dQ q (m/16384%4) (m/64%64) (m%64) p u v x:=λ_=>rfl
 by_cases h3:m/16384%4=3
 ·refine gw (w.cs h3) λw1 w2 w3=>?_
  have h1:=h.app [.lst [.tup [.int (ph q m:Nat),.int (m%64:Nat)]]]
  refine⟨[.lst [.tup [.int (ph q m:Nat),.int (m%64:Nat)],.tup [.int 4,.int (v:Int)]]],?_⟩
  have h2:=h.app [.lst [.tup [.int (ph q m:Nat),.int (m%64:Nat)],.tup [.int 4,.int (v:Int)]]]
  rw[ax (fn:=Hd) rfl rfl]
  erw[xf,Hd,h.ps,Ff hs,dN h mm hs1,mN h mm w,h.pS,h.st hs,dw,bh w.aN h.hN,eY,qu h w,fI,bG,h3,show decide (((3:Nat):Int)=3)=true from rfl,nD h1 w1,bh w2 h1.hN,bq,show aI [V.tup [V.int (ph q m:Nat),V.int (m%64:Nat)]].length=true from rfl,eS,eB h2 mm (mm.jy _ hs1),cB,C7,tN,tP]
  have s1:=mF (d+6) [10,11] F5 H.length 2 0 (JL q m (dQ q 3 (m/64%64) (m%64) p u v) (λi=>(q.sd q.s i&&!Nat.beq i (m/64%64))&&!Nat.beq i u) H.length (some (.int (u:Int))) (some (.int (v:Int))) (λi=>dk q (dQ q 3 (m/64%64) (m%64) p u v) (q.k (1-q.s)) i&&((q.sd q.s i&&!Nat.beq i (m/64%64))&&!Nat.beq i u)) none none) _ (H++[.lst [.tup [.int (ph q m:Nat),.int (m%64:Nat)],.tup [.int 4,.int (v:Int)]]]) (kB (xB (d+6) [.ret (.l 9)]) ox) (bq _ _) rfl rfl
  refine Eq.trans s1 ?_
  refine Eq.trans (rV h2 mm w.gN k1 k6 _ _ _ _ _ _ _) ?_
  simp only[ov]
  refine Eq.trans (mF (d+6) [10,11] F5 H.length 1 1 _ _ _ _ (bq _ _) rfl rfl) ?_
  refine Eq.trans (rV h2 mm w3 (show 1≤4 by decide) (show 4≤6 by decide) _ _ _ _ _ _ _) ?_
  rw[ov,uz (d+6) [10,11] F5 H.length 0 2 _ _ _ (bq _ _) rfl]
  erw[xf,gL]
  refine ew (aE λx _=>?_) _
  unfold D9
  simp only[h3,show Nat.beq 3 3=true from rfl,Bool.not_true,Bool.false_or,Bool.true_and]
 ·have n3:Nat.beq (m/16384%4) 3=false:=by rw[aq];exact h3
  refine⟨[.lst [.tup [.int (ph q m:Nat),.int (m%64:Nat)]]],?_⟩
  have h1:=h.app [.lst [.tup [.int (ph q m:Nat),.int (m%64:Nat)]]]
  rw[ax (fn:=Hd) rfl rfl]
  erw[xf,Hd,h.ps,Ff hs,dN h mm hs1,mN h mm w,h.pS,h.st hs,dw,bh w.aN h.hN,eY,qu h w,fI,bG,c3,n3,eB h1 mm (mm.jy _ hs1),cB,C7,tN,tP,bq]
  refine Eq.trans (mF (d+6) [10,11] F5 H.length 1 0 (JL q m (dQ q (m/16384%4) (m/64%64) (m%64) p u v) (λi=>q.sd q.s i&&!Nat.beq i (m/64%64)) H.length none none (λi=>dk q (dQ q (m/16384%4) (m/64%64) (m%64) p u v) (q.k (1-q.s)) i&&(q.sd q.s i&&!Nat.beq i (m/64%64))) none none) _ _ _ (bq _ _) rfl rfl) ?_
  refine Eq.trans (rV h1 mm w.gN k1 k6 _ _ _ _ _ _ _) ?_
  rw[ov,uz (d+6) [10,11] F5 H.length 0 1 _ _ _ (bq _ _) rfl]
  erw[xf,gL]
  refine ew (aE λx _=>?_) _
  unfold D9
  simp only[n3,Bool.not_false,Bool.true_or,Bool.false_and,Bool.or_false,Bool.and_true]
theorem uL(h:HP q H)(mm:hZ q)(w:Mv q m p u v):∃K,ag PB (d+8) 67 [.ref 47,.int (m:Int)] H=some (.bool (manyN q.N (D9 q m p u v)),H++K):=by
 refine bJ (uO (d:=d) h mm w) λK hK=>?_
 refine⟨K,?_⟩
 rw[ax (fn:=LH) rfl rfl]
 erw[xf,LH,hK,kH]
end
end
section
section
variable {F R d a b g x k:Nat}
theorem i5(F a g:Nat):dt F a g=if dst (a%F) (g%F)≤dst (a/F) (g/F)then dst (a/F) (g/F)else dst (a%F) (g%F):=by
 unfold dt
 show max _ _=_
 simp only[Nat.max_def]
theorem dK(a b:Nat):((b:Int)-(a:Int)).natAbs=dst a b:=by unfold dst;exact Ar.Z5 [.s .x4 .x1 .x2,.s .x3 .x2 .x1,.b .x0 (.s (.c .x1) (.c .x2))] (.q .x0 (.a .x3 .x4)) rfl (Ar.ts _ _) (Ar.ts _ _) (Ar.na _)
theorem CJ{p q:Nat}{s:Int}(h:(q:Int)=(p:Int)+k*s):dst p q=k*s.natAbs:=by
 simp only[← dK,h,Int.add_comm,Int.add_sub_cancel,Int.natAbs_mul,Int.natAbs_natCast]
theorem IQ:∀d,d<8→Nat.max (sX d).natAbs (sY d).natAbs=1:=by decide
theorem Rk.dt(h:Rk F d a g k):dt F a g=k:=by
 unfold Mine.dt
 simp only[CJ h.x,CJ h.y]
 have:=IQ d h.d8
 rcases(gU d h.d8).1 with e|e|e<;>rcases(gU d h.d8).2.1 with q|q|q<;>rw[e,q]at this ⊢<;>first|(cases this;done)|(show Nat.max (k*_) (k*_)=k;simp)
theorem ud(h:aS F d a g=true):1≤dt F a g∧((g%F:Nat):Int)-((a%F:Nat):Int)=(dt F a g:Nat)*sX d∧((g/F:Nat):Int)-((a/F:Nat):Int)=(dt F a g:Nat)*sY d:=by
 refine bJ (cJ.mp h) λk r=>?_
 rw[r.dt,r.x,r.y]
 exact⟨r.k1,by rw[Int.add_comm,Int.add_sub_cancel],by rw[Int.add_comm,Int.add_sub_cancel]⟩
theorem IT:∀u∈[(0:Int),1,-1],∀v∈[(0:Int),1,-1],¬ (u=0∧v=0)→∃d,d<8∧sX d=u∧sY d=v:=by decide
theorem IW{p q k:Nat}(h:dst p q=0∨dst p q=k):∃s∈[(0:Int),1,-1],(q:Int)=(p:Int)+k*s∧(s=0→dst p q=0):=by
 unfold dst at *
 rcases Nat.lt_trichotomy p q with e|e|e
 ·exact⟨1,by decide,by exact Ar.Z5 [.l .x1 .x2,.D (.q (.a .x0 .x3) .n0) (.q (.a .x0 .x3) .x4),.s .x3 .x2 .x1,.s .x0 .x1 .x2] (.Q (.c .x2) (.a (.c .x1) (.r (.c .x4) 1))) rfl e h (Ar.ts _ _) (Ar.ts _ _),λh=>by cases h⟩
 ·exact⟨0,by decide,by exact Ar.Z3 [.q .x0 .x1] (.Q (.c .x1) (.a (.c .x0) (.r (.c .x2) 0))) rfl e,λ_=>by exact Ar.Z4 [.q .x0 .x1,.s .x3 .x1 .x0,.s .x2 .x0 .x1] (.q (.a .x2 .x3) .n0) rfl e (Ar.ts _ _) (Ar.ts _ _)⟩
 ·exact⟨-1,by decide,by exact Ar.Z5 [.l .x2 .x1,.D (.q (.a .x0 .x3) .n0) (.q (.a .x0 .x3) .x4),.s .x3 .x2 .x1,.s .x0 .x1 .x2] (.Q (.c .x2) (.a (.c .x1) (.R (.c .x4) 1))) rfl e h (Ar.ts _ _) (Ar.ts _ _),λh=>by cases h⟩
theorem yY(h0:dt F a g≠0)(h1:dst (a%F) (g%F)=0∨dst (a%F) (g%F)=dt F a g)(h2:dst (a/F) (g/F)=0∨dst (a/F) (g/F)=dt F a g):∃d,aS F d a g=true:=by
 refine dD (IW h1) λu hu x u0=>?_
 refine dD (IW h2) λv hv y v0=>?_
 refine dD (IT u hu v hv λe=>h0 (by simp only[i5,u0 e.1,v0 e.2];rfl)) λd hd rf2_ rf3_=>?_;subst rf2_;subst rf3_
 exact⟨d,cJ.mpr ⟨_,hd,Nat.pos_of_ne_zero h0,x,y⟩⟩
theorem zt(F a:Nat):((a:Nat):Int)=(F:Int)*((a/F:Nat):Int)+((a%F:Nat):Int):=by
 have:=Nat.div_add_mod a F
 rw[← Int.natCast_mul,← Int.natCast_add,this]
theorem gE{p r:Nat}(hF:0<F)(hp:p<F)(hx:x=F*r+p):x%F=p∧x/F=r:=by
 subst hx
 constructor
 ·simp only[Nat.mul_add_mod,Nat.mod_eq_of_lt hp]
 ·rw[Nat.mul_add_div hF,Nat.div_eq_of_lt hp];rfl
theorem yw(hx:x/F<R)(hF:0<F):x<F*R:=by
 rw[Nat.div_lt_iff_lt_mul hF]at hx;rwa [Nat.mul_comm]
theorem mU(h:x<F*R):x/F<R:=Nat.div_lt_of_lt_mul h
theorem M1{u m w k l:Nat}{s:Int}(hk:1≤k)(hl:1≤l)(hs:s=0∨s=1∨s = -1)(h1:(m:Int)=(u:Int)+k*s)(h2:(w:Int)=(m:Int)+l*s):w=u→m=u:=by
 rcases hs with rfl|rfl|rfl<;>first|exact Ar.Z4 [.Q (.c .x0) (.a (.c .x1) (.r (.c .x2) 0))] (.I (.q .x3 .x1) (.q .x0 .x1)) rfl h1|exact Ar.Z5 [.Q (.c .x2) (.a (.c .x3) (.r (.c .x0) 1)),.Q (.c .x4) (.a (.c .x2) (.r (.c .x1) 1))] (.I (.q .x4 .x3) (.q .x2 .x3)) rfl h1 h2|exact Ar.Z5 [.Q (.c .x2) (.a (.c .x3) (.R (.c .x0) 1)),.Q (.c .x4) (.a (.c .x2) (.R (.c .x1) 1))] (.I (.q .x4 .x3) (.q .x2 .x3)) rfl h1 h2
theorem M3{u m w k l:Nat}{s:Int}(hk:1≤k)(hl:1≤l)(hs:s=0∨s=1∨s = -1)(h1:(m:Int)=(u:Int)+k*s)(h2:(w:Int)=(m:Int)+l*s):(w=u+2→m=u+1)∧(u=w+2→m=w+1):=by
 rcases hs with rfl|rfl|rfl<;>first|exact Ar.Z5 [.Q (.c .x0) (.a (.c .x1) (.r (.c .x2) 0)),.Q (.c .x3) (.a (.c .x0) (.r (.c .x4) 0))] (.C (.I (.q .x3 (.a .x1 .n2)) (.q .x0 (.a .x1 .n1))) (.I (.q .x1 (.a .x3 .n2)) (.q .x0 (.a .x3 .n1)))) rfl h1 h2|exact Ar.Z5 [.e .n1 .x0,.e .n1 .x1,.Q (.c .x2) (.a (.c .x3) (.r (.c .x0) 1)),.Q (.c .x4) (.a (.c .x2) (.r (.c .x1) 1))] (.C (.I (.q .x4 (.a .x3 .n2)) (.q .x2 (.a .x3 .n1))) (.I (.q .x3 (.a .x4 .n2)) (.q .x2 (.a .x4 .n1)))) rfl hk hl h1 h2|exact Ar.Z5 [.e .n1 .x0,.e .n1 .x1,.Q (.c .x2) (.a (.c .x3) (.R (.c .x0) 1)),.Q (.c .x4) (.a (.c .x2) (.R (.c .x1) 1))] (.C (.I (.q .x4 (.a .x3 .n2)) (.q .x2 (.a .x3 .n1))) (.I (.q .x3 (.a .x4 .n2)) (.q .x2 (.a .x4 .n1)))) rfl hk hl h1 h2
theorem Ir{p q B f:Nat}{s:Int}(hs:s=0∨s=1∨s = -1)(hp:p<B)(hq:q<B)(h:(q:Int)=(p:Int)+f*s)(kf:k<f):∃r:Nat,r<B∧(r:Int)=(p:Int)+k*s:=by
 rcases hs with rfl|rfl|rfl
 ·exact⟨p,hp,by exact Ar.Z2 [] (.Q (.c .x0) (.a (.c .x0) (.r (.c .x1) 0))) rfl⟩
 ·exact⟨p+k,by exact Ar.Z5 [.l .x0 .x1,.l .x2 .x3,.Q (.c .x0) (.a (.c .x4) (.r (.c .x3) 1))] (.l (.a .x4 .x2) .x1) rfl hq kf h,by exact Ar.Z2 [] (.Q (.c (.a .x0 .x1)) (.a (.c .x0) (.r (.c .x1) 1))) rfl⟩
 ·exact⟨p-k,by exact Ar.Z6 [.l .x0 .x1,.Q (.c .x2) (.a (.c .x0) (.R (.c .x3) 1)),.s .x4 .x0 .x5] (.l .x4 .x1) rfl hp h (Ar.ts _ _),by exact Ar.Z5 [.l .x0 .x1,.Q (.c .x2) (.a (.c .x3) (.R (.c .x1) 1)),.s .x4 .x3 .x0] (.Q (.c .x4) (.a (.c .x3) (.R (.c .x0) 1))) rfl kf h (Ar.ts _ _)⟩
theorem t_(hF:0<F)(h:aS F d a g=true)(ha:a<F*R)(hg:g<F*R)(k1:1≤k)(k2:k<dt F a g) :
  ∃x:Nat,(x:Int)=(a:Int)+(k:Int)*(sX d+sY d*(F:Int))∧x<F*R∧eV F a g x=true:=by
 refine bJ (cJ.mp h) λf r=>?_
 simp only[r.dt]at k2
 refine ay (Ir (gU d r.d8).1 (Nat.mod_lt a hF) (Nat.mod_lt g hF) r.x k2) λp hp ep=>?_
 refine ay (Ir (gU d r.d8).2.1 (mU ha) (mU hg) r.y k2) λq hq eq=>?_
 refine dd (gE (x:=F*q+p) hF hp rfl) λc1 c2=>?_
 have rx:Rk F d a (F*q+p) k:=⟨r.d8,k1,by rw[c1];exact ep,by rw[c2];exact eq⟩
 refine⟨F*q+p,?_,yw (by rw[c2];exact hq) hF,(cZ h).mpr ⟨rx.aS,(rx.off r k2).aS⟩⟩
 simp only[Int.natCast_add,Int.natCast_mul,ep,eq,zt F a,Int.mul_add,Int.mul_add,← Int.mul_assoc (k:Int) (sY d),Int.mul_comm ((k:Int)*sY d)]
 exact Ar.GH [] (.Q (.a (.a .y0 .y1) (.a (.c .x0) .y2)) (.a (.a .y0 (.c .x0)) (.a .y2 .y1))) rfl
theorem oV(h:aS F d a g=true)(hb:eV F a g x=true):∃k:Nat,1≤k∧k<dt F a g∧(x:Int)=(a:Int)+(k:Int)*(sX d+sY d*(F:Int)):=by
 rw[cZ h]at hb
 refine bJ (cJ.mp hb.1) λk r1=>?_
 obtain⟨l,r2⟩:=cJ.mp hb.2
 refine⟨k,r1.k1,by rw[(r1.trans r2).dt];exact Nat.lt_add_of_pos_right r2.k1,?_⟩
 simp only[zt F x,zt F a,r1.x,r1.y,Int.mul_add,Int.mul_add,← Int.mul_assoc (k:Int) (sY d),Int.mul_comm ((k:Int)*sY d)]
 exact Ar.GH [] (.Q (.a (.a .y0 .y1) (.a (.c .x0) .y2)) (.a (.a .y0 (.c .x0)) (.a .y2 .y1))) rfl
end
end
section
open PySem
theorem fY{F:Nat}(h1:0<F)(a:Nat):binI .mod (a:Int) (F:Int)=some ((a%F:Nat):Int):=by
 show(if decide ((0:Int)<F)=true then some ((a:Int).fmod F)else none)=_
 rw[if_pos (by simp;exact Ar.Z1 [.l .n0 .x0] (.l .n0 .x0) rfl h1),Int.fmod_eq_emod_of_nonneg _ (by exact Ar.Z1 [] (.E .n0 (.c .x0)) rfl)];rfl
theorem mod_lit(m k:Nat)(h:0<k):binI .mod (m:Int) ((k:Nat):Int)=some ((m%k:Nat):Int):=fY h m
theorem aW{x y:Int}(h:-(2 ^ 62)<x∧x<2 ^ 62):binI .mul x y=some (x*y):=by
 show(if(small x||small y)=true then some (x*y)else none)=_
 rw[show small x=true by unfold small;simp;exact Ar.eI [.C (.L (.g (.n 4611686018427387904)) .y0) (.L .y0 (.n 4611686018427387904))] (.C (.L (.g (.n 4611686018427387904)) .y0) (.L .y0 (.n 4611686018427387904))) rfl h];rfl
theorem fZ{x y:Int}(h:-(2 ^ 62)<y∧y<2 ^ 62):binI .mul x y=some (x*y):=by
 show(if(small x||small y)=true then some (x*y)else none)=_
 rw[show small y=true by unfold small;simp;exact Ar.eI [.C (.L (.g (.n 4611686018427387904)) .y0) (.L .y0 (.n 4611686018427387904))] (.C (.L (.g (.n 4611686018427387904)) .y0) (.L .y0 (.n 4611686018427387904))) rfl h,Bool.or_true];rfl
theorem tB{x:Int}{F:Nat}(h1:0<F)(h2:F≤1000):binI .bX x (F:Int)=some (x.fdiv F):=by
 show(if(decide ((0:Int)<F)&&small F)=true then some (x.fdiv F)else none)=_
 rw[if_pos (by unfold small;simp;exact Ar.Z1 [.l .n0 .x0,.e .x0 .aG] (.C (.l .n0 .x0) (.C (.L (.g (.n 4611686018427387904)) (.c .x0)) (.L (.c .x0) (.n 4611686018427387904)))) rfl h1 h2)]
theorem BA(i j:Nat):(if((i:Nat):Int)<((j:Nat):Int)then((j:Nat):Int)else((i:Nat):Int))=((Nat.max i j:Nat):Int):=by
 show _=((max i j:Nat):Int)
 simp only[Nat.max_def];split<;>split<;>first|exact Ar.Z1 [] (.Q (.c .x0) (.c .x0)) rfl|exact Ar.Z2 [.L (.c .x0) (.c .x1),.N (.e .x0 .x1)] (.Q (.c .x1) (.c .x0)) rfl (by assumption) (by assumption)|exact Ar.Z2 [.N (.L (.c .x0) (.c .x1)),.e .x0 .x1] (.Q (.c .x0) (.c .x1)) rfl (by assumption) (by assumption)
theorem yJ(x f:Nat)(H:MH):cX .BJ (.int (x:Int)) (.tup [.int 0,.int (f:Int)]) H=some !(Nat.beq x 0||Nat.beq x f):=by
 show some (!(if(x:Int)=0 then true else if(x:Int)=(f:Int)then true else false))=_
 congr 2
 rw[Bool.eq_iff_iff,Bool.or_eq_true,ae,ae]
 split
 ·simp;exact Ar.Z2 [.Q (.c .x0) .n0] (.D (.q .x0 .n0) (.q .x0 .x1)) rfl (by assumption)
 ·split
  ·simp;exact Ar.Z2 [.Q (.c .x0) (.c .x1)] (.D (.q .x0 .n0) (.q .x0 .x1)) rfl (by assumption)
  ·simp;exact Ar.Z2 [.N (.Q (.c .x0) .n0),.N (.Q (.c .x0) (.c .x1))] (.C (.N (.q .x0 .n0)) (.N (.q .x0 .x1))) rfl (by assumption) (by assumption)
theorem B5(n:Nat)(h:n≤1000):eA [.int 1,.int (n:Int)]=some (.bQ 1 n 1):=by
 show(if bI 1&&bI (n:Int)then some (V.bQ 1 n 1)else none)=_
 rw[if_pos (by unfold bI;simp;exact Ar.Z1 [.e .x0 .aG] (.E (.c .x0) .av) rfl h)]
theorem zf(n:Nat):dc 1 (n:Int) 1=some (aK (n-1) 1 1):=by
 show some (aK ((n:Int)-1).toNat 1 1)=_
 congr 2;exact Ar.Z3 [.s .x2 .x1 .n1,.t .x0 (.s (.c .x1) .n1)] (.q .x0 .x2) rfl (Ar.ts _ _) (Ar.tn _)
theorem gS{v:V}{c:Nat}:∀(n a:Nat),v∈aK n (a:Int) 1→∃k:Nat,a≤k∧k<a+n∧v=.int (k:Int)
 |0,a,h=>by cases h
 |n+1,a,h=>by
  unfold aK at h
  rcases List.mem_cons.mp h with rfl|h
  ·exact⟨a,Nat.le_refl _,by exact Ar.Z2 [] (.l .x0 (.a .x0 (.a .x1 .n1))) rfl,rfl⟩
  ·refine dD (gS (c:=c) n (a+1) (by exact h)) λk h1 h2 h3=>?_
   exact⟨k,by exact Ar.Z2 [.e (.a .x0 .n1) .x1] (.e .x0 .x1) rfl h1,by exact Ar.Z3 [.l .x0 (.a (.a .x1 .n1) .x2)] (.l .x0 (.a .x1 (.a .x2 .n1))) rfl h2,h3⟩
theorem j8{k:Nat}:∀(n a:Nat),a≤k→k<a+n→V.int (k:Int)∈aK n (a:Int) 1
 |0,a,h,h'=>by exact False.elim (Ar.Z2 [.e .x0 .x1,.l .x1 (.a .x0 .n0)] .F rfl h h')
 |n+1,a,h,h'=>by
  unfold aK
  by_cases e:k=a
  ·subst e;exact .head _
  ·exact .tail _ (j8 n (a+1) (by exact Ar.Z2 [.e .x0 .x1,.N (.q .x1 .x0)] (.e (.a .x0 .n1) .x1) rfl h e) (by exact Ar.Z3 [.l .x0 (.a .x1 (.a .x2 .n1))] (.l .x0 (.a (.a .x1 .n1) .x2)) rfl h'))
theorem B6{F d a g:Nat}(h:aS F d a g=true):bZ F a g=true↔sX d=0∨sY d=0:=by
 have hd:=dG h
 unfold bZ
 have no:∀e,e≠d→aS F e a g=false:=λe he=>by
  cases q:aS F e a g with
  |false=>rfl
  |true=>exact absurd (eR q h) he
 rcases rI hd with rfl|rfl|rfl|rfl|rfl|rfl|rfl|rfl<;>simp(disch:=decide) [h,no,sX,sY]
theorem u_{F d a g:Nat}(h:aS F d a g=true):dn F a g=!bZ F a g:=by
 have hd:=dG h
 unfold bZ dn
 have no:∀e,e≠d→aS F e a g=false:=λe he=>by
  cases q:aS F e a g with
  |false=>rfl
  |true=>exact absurd (eR q h) he
 rcases rI hd with rfl|rfl|rfl|rfl|rfl|rfl|rfl|rfl<;>simp(disch:=decide) [h,no]
theorem tY{F a g:Nat}(h:∀d,aS F d a g=false):bZ F a g=false∧dn F a g=false:=by
 unfold bZ dn;simp only[h];exact⟨rfl,rfl⟩
theorem mul_two{m n:Nat}:(m*n=2)↔(m=1∧n=2)∨(m=2∧n=1):=by
 constructor
 ·intro h
  match m,n,h with
  |0,n,h=>simp at h
  |1,n,h=>exact Ar.Z1 [.q (.m 1 .x0) .n2] (.D (.C (.q .n1 .n1) (.q .x0 .n2)) (.C (.q .n1 .n2) (.q .x0 .n1))) rfl h
  |2,n,h=>exact Ar.Z1 [.q (.m 2 .x0) .n2] (.D (.C (.q .n2 .n1) (.q .x0 .n2)) (.C (.q .n2 .n2) (.q .x0 .n1))) rfl h
  |m+3,0,h=>simp at h
  |m+3,n+1,h=>
   have:(m+3)*(n+1)≥3:=Nat.le_trans (by exact Ar.Z1 [] (.e .n3 (.a .x0 .n3)) rfl) (Nat.le_mul_of_pos_right _ (by exact Ar.Z1 [] (.l .n0 (.a .x0 .n1)) rfl))
   exact Ar.Z3 [.q .x0 .n2,.e .n3 .x0] (.D (.C (.q (.a .x1 .n3) .n1) (.q (.a .x2 .n1) .n2)) (.C (.q (.a .x1 .n3) .n2) (.q (.a .x2 .n1) .n1))) rfl h this
 ·rintro(⟨rfl,rfl⟩|⟨rfl,rfl⟩)<;>rfl
end
section
open PySem
section
variable {F R:Nat} {H:MH} {d a b e g t k m n:Nat} {c:Nat→Nat}
structure Bd (F R:Nat):Prop where
 f3:3≤F
 f8:F≤8
 r3:3≤R
 r8:R≤8
 aQ:F*R≤25
noncomputable def Code(N:Nat)(c:Nat→Nat):Prop:=∀x,x<N→c x=0∨(1≤c x%8∧c x%8≤6∧c x/8<2)
noncomputable def Cells(H:MH)(n N:Nat)(c:Nat→Nat):Prop:=aj H n=some (tab N λt=>.int (c t:Int))
noncomputable abbrev Hp:List S:=[.ite (.sub (.l 4) (.b .add (.l 2) (.b .mul (.l 9) (.b .add (.b .bX (.l 5) (.l 7)) (.b .mul (.b .bX (.l 6) (.l 7)) (.l 0)))))) [.ret (.c (.bool false))] []]
theorem dS(bd:Bd F R)(hc:Cells H n (F*R) c)(ha:a<F*R)(hg:g<F*R)(m1:1≤m%8)(m6:m%8≤6)(m2:m/8<2) :
  ag PB (d+1) 69 [.int (F:Int),.int (m:Int),.int (a:Int),.int (g:Int),.ref n] H=some (.bool (bk F (F*R) m a g λx=>!Nat.beq (c x) 0),H):=by
 have hF:=bd.f3
 have hF8:=bd.f8
 have hR8:=bd.r8
 have hN:=bd.aQ
 have F0:0<F:=by exact Ar.Z1 [.e .n3 .x0] (.l .n0 .x0) rfl hF
 have fd:=λa=>fh (a:=a) (F:=F) F0 (by exact Ar.Z1 [.e .x0 .n8] (.e .x0 .aQ) rfl hF8)
 have md:=λa=>fY (F:=F) F0 a
 have m8:binI .mod (m:Int) 8=some ((m%8:Nat):Int):=mod_lit m 8 (by decide)
 have xa:=Nat.mod_lt a F0
 have xg:=Nat.mod_lt g F0
 have ya:=mU ha
 have yg:=mU hg
 have far8:dt F a g≤8:=by
  rw[i5];unfold dst
  generalize a%F=p at *;generalize g%F=r at *;generalize a/F=s at *;generalize g/F=t at *
  split<;>first|exact Ar.Z5 [.e .x0 .n8,.l .x1 .x0,.l .x2 .x0,.s .x4 .x2 .x1,.s .x3 .x1 .x2] (.e (.a .x3 .x4) .n8) rfl hR8 ya yg (Ar.ts _ _) (Ar.ts _ _)|exact Ar.Z5 [.e .x0 .n8,.l .x1 .x0,.l .x2 .x0,.s .x4 .x2 .x1,.s .x3 .x1 .x2] (.e (.a .x3 .x4) .n8) rfl hF8 xa xg (Ar.ts _ _) (Ar.ts _ _)
 have mx:(if((dst (a%F) (g%F):Nat):Int)<((dst (a/F) (g/F):Nat):Int)then((dst (a/F) (g/F):Nat):Int)else((dst (a%F) (g%F):Nat):Int))=((dt F a g:Nat):Int):=BA _ _
 have dfs:-(2 ^ 62)<((g%F:Nat):Int)-((a%F:Nat):Int)∧((g%F:Nat):Int)-((a%F:Nat):Int)<2 ^ 62:=by exact Ar.Z3 [.e .x0 .n8,.l .x1 .x0,.l .x2 .x0] (.C (.L (.g (.n 4611686018427387904)) (.s (.c .x2) (.c .x1))) (.L (.s (.c .x2) (.c .x1)) (.n 4611686018427387904))) rfl hF8 xa xg
 rw[ax (fn:=D2) rfl rfl]
 unfold bk
 obtain⟨k,hk⟩:∃k,m%8=k:=⟨_,rfl⟩
 rw[hk]at m1 m6 ⊢
 have hcase:k=1∨k=2∨k=6∨(k=3∨k=4∨k=5):=by exact Ar.Z4 [.e .x0 .n6,.e .n1 .x0,.q .x1 .x0,.d 8 .x3 .x1 .x2] (.D (.q .x0 .n1) (.D (.q .x0 .n2) (.D (.q .x0 .n6) (.D (.q .x0 .n3) (.D (.q .x0 .n4) (.q .x0 .n5)))))) rfl m6 m1 hk (Ar.md _ 8 rfl)
 rcases hcase with rfl|rfl|rfl|h345
 · -- a yR
  erw[D2,md,fd,m8,hk,dK,mx,show decide (((1:Nat):Int)=1)=true from rfl,c1]
  have sgn:∀(e:Int),decide (((g/F:Nat):Int)-((a/F:Nat):Int)=e)=decide (((g/F:Nat):Int)=((a/F:Nat):Int)+e):=λe=>by congr 1;apply propext;exact Ar.uB [] (.B (.Q (.s (.c .x0) (.c .x1)) .y0) (.Q (.c .x0) (.a (.c .x1) .y0))) rfl
  show _=some (V.bool (fu F (m/8) a g),H)
  unfold fu
  have e1:Nat.beq (dst (a%F) (g%F)) 1=Nat.beq (dst (a%F) (g%F)) 1:=rfl
  have hm:m/8=0∨m/8=1:=by exact Ar.Z3 [.l .x0 .n2,.d 8 .x0 .x2 .x1] (.D (.q .x0 .n0) (.q .x0 .n1)) rfl m2 (Ar.md _ 8 rfl)
  rcases hm with hm|hm
  ·rw[show decide ((m:Int)<8)=true by simp;exact Ar.Z3 [.q .x2 .n0,.d 8 .x2 .x0 .x1] (.L (.c .x1) .n8) rfl hm (Ar.md _ 8 rfl),hm]
   have:decide (((g/F:Nat):Int)-((a/F:Nat):Int)=1)=Nat.beq (g/F) (a/F+1):=by rw[← ee,sgn];rfl
   erw[this]
   cases Nat.beq (dst (a%F) (g%F)) 1<;>(first|rfl|(erw[ff]<;>rfl))
  ·rw[show decide ((m:Int)<8)=false by simp;exact Ar.Z3 [.q .x2 .n1,.d 8 .x2 .x0 .x1] (.E .n8 (.c .x1)) rfl hm (Ar.md _ 8 rfl),hm]
   have:decide (((g/F:Nat):Int)-((a/F:Nat):Int) = -1)=Nat.beq (a/F) (g/F+1):=by rw[← ee];congr 1;apply propext;exact Ar.Z2 [] (.B (.Q (.s (.c .x0) (.c .x1)) (.g .n1)) (.Q (.c .x1) (.c (.a .x0 .n1)))) rfl
   erw[this]
   cases Nat.beq (dst (a%F) (g%F)) 1<;>(first|rfl|(erw[ff]<;>rfl))
 · -- a knight
  have kn:decide (((((g%F:Nat):Int)-((a%F:Nat):Int))*(((g/F:Nat):Int)-((a/F:Nat):Int))).natAbs=(2:Nat))=sD F a g:=by
   rw[Int.natAbs_mul,dK,dK,Bool.eq_iff_iff,decide_eq_true_eq,mul_two]
   unfold sD
   simp only[Bool.or_eq_true,Bool.and_eq_true,Bool.and_eq_true,ae,ae,ae,ae]
  erw[D2,md,fd,m8,hk,dK,mx,show decide (((2:Nat):Int)=1)=false from rfl,show decide (((2:Nat):Int)=2)=true from rfl,aW dfs]
  refine l9 (Eq.trans ?_ kn) H
  congr 1;apply propext;exact Ar.h_ [.b .x0 .y0] (.B (.Q (.c .x0) .n2) (.q .x0 .n2)) rfl (Ar.na _)
 · -- a kj
  erw[D2,md,fd,m8,hk,dK,mx,show decide (((6:Nat):Int)=1)=false from rfl,show decide (((6:Nat):Int)=2)=false from rfl,show decide (((6:Nat):Int)=6)=true from rfl,c1]
  refine l9 ?_ H
  show _=nr F a g
  rw[Bool.eq_iff_iff,ae,i5]
  unfold nr
  simp only[Bool.and_eq_true,Bool.not_eq_true',b5,ae,← Bool.not_eq_true]
  split<;>first|exact Ar.Z2 [.e .x0 .x1] (.B (.q .x1 .n1) (.C (.C (.e .x0 .n1) (.e .x1 .n1)) (.N (.C (.q .x0 .n0) (.q .x1 .n0))))) rfl (by assumption)|exact Ar.Z2 [.N (.e .x0 .x1)] (.B (.q .x0 .n1) (.C (.C (.e .x0 .n1) (.e .x1 .n1)) (.N (.C (.q .x0 .n0) (.q .x1 .n0))))) rfl (by assumption)
 · -- a man of lines
  have n1:decide ((k:Int)=1)=false:=by simp;exact Ar.Z1 [.D (.q .x0 .n3) (.D (.q .x0 .n4) (.q .x0 .n5))] (.N (.Q (.c .x0) .n1)) rfl h345
  have n2:decide ((k:Int)=2)=false:=by simp;exact Ar.Z1 [.D (.q .x0 .n3) (.D (.q .x0 .n4) (.q .x0 .n5))] (.N (.Q (.c .x0) .n2)) rfl h345
  have n6:decide ((k:Int)=6)=false:=by simp;exact Ar.Z1 [.D (.q .x0 .n3) (.D (.q .x0 .n4) (.q .x0 .n5))] (.N (.Q (.c .x0) .n6)) rfl h345
  have tgt:w9 F (F*R) k (m/8) a g (λx=>!Nat.beq (c x) 0)=(gu k F a g&&ik F (F*R) (λx=>!Nat.beq (c x) 0) a g):=by
   rcases h345 with rfl|rfl|rfl<;>rfl
  rw[tgt]
  by_cases hr:∃d,aS F d a g=true
  ·obtain⟨e,hr⟩:=hr
   refine gw (ud hr) λf1 f2 f3=>?_
   have z0:Nat.beq (dt F a g) 0=false:=by simp only[aq];exact Ar.Z1 [.e .n1 .x0] (.N (.q .x0 .n0)) rfl f1
   have hor:=B6 hr
   have hdi:=u_ hr
   have in1:(Nat.beq (dst (a%F) (g%F)) 0||Nat.beq (dst (a%F) (g%F)) (dt F a g))=true:=by
    rw[Bool.or_eq_true,ae,ae,← dK,f2,Int.natAbs_mul]
    have:(sX e).natAbs=0∨(sX e).natAbs=1:=by unfold sX;split<;>simp
    rcases this with h|h<;>rw[h]<;>simp
   have in2:(Nat.beq (dst (a/F) (g/F)) 0||Nat.beq (dst (a/F) (g/F)) (dt F a g))=true:=by
    rw[Bool.or_eq_true,ae,ae,← dK,f3,Int.natAbs_mul]
    have:(sY e).natAbs=0∨(sY e).natAbs=1:=by unfold sY;split<;>simp
    rcases this with h|h<;>rw[h]<;>simp
   have dz:decide ((((g%F:Nat):Int)-((a%F:Nat):Int))*(((g/F:Nat):Int)-((a/F:Nat):Int))=0)=bZ F a g:=by
    rw[Bool.eq_iff_iff,decide_eq_true_eq,hor,f2,f3,Int.mul_eq_zero,Int.mul_eq_zero,Int.mul_eq_zero]
    have:((dt F a g:Nat):Int)≠0:=by exact Ar.h_ [.Q .y0 (.c .x0),.e .n1 .x0] (.N (.Q (.c .x0) .n0)) rfl mx f1
    simp only[this,false_or]
   have dv1:(((g%F:Nat):Int)-((a%F:Nat):Int)).fdiv ((dt F a g:Nat):Int)=sX e:=by rw[f2,Int.mul_fdiv_cancel_left _ (by exact Ar.h_ [.Q .y0 (.c .x0),.e .n1 .x0] (.N (.Q (.c .x0) .n0)) rfl mx f1)]
   have dv2:(((g/F:Nat):Int)-((a/F:Nat):Int)).fdiv ((dt F a g:Nat):Int)=sY e:=by rw[f3,Int.mul_fdiv_cancel_left _ (by exact Ar.h_ [.Q .y0 (.c .x0),.e .n1 .x0] (.N (.Q (.c .x0) .n0)) rfl mx f1)]
   have fdd:=λx:Int=>tB (x:=x) (F:=dt F a g) (by exact Ar.h_ [.Q .y0 (.c .x0),.e .n1 .x0] (.l .n0 .x0) rfl mx f1) (by exact Ar.h_ [.e .x0 .n8,.Q .y0 (.c .x0)] (.e .x0 .aG) rfl far8 mx)
   have lin:(!(Nat.beq k 3&&bZ F a g||Nat.beq k 4&&!bZ F a g))=gu k F a g:=by
    unfold gu;rw[hdi]
    rcases h345 with rfl|rfl|rfl<;>cases bZ F a g<;>rfl
   simp only[← lin]
   have lp:=p_ (d:=d) (k:=9) (b:=Hp)
    (λρ H1=>H1=H∧∃v,ρ=[some (.int (F:Int)),some (.int (m:Int)),some (.int (a:Int)),some (.int (g:Int)),some (.ref n),some (.int (((g%F:Nat):Int)-((a%F:Nat):Int))),some (.int (((g/F:Nat):Int)-((a/F:Nat):Int))),some (.int (dt F a g:Nat)),some (.int (k:Int)),v])
    (λv=>match v with|.int j=>!Nat.beq (c ((a:Int)+j*(sX e+sY e*(F:Int))).toNat) 0|_=>false) (.bool false) (aK (dt F a g-1) 1 1)
    (λv hv ρ H1 hp=>by
     obtain⟨rfl,w,rfl⟩:=hp
     refine dD (gS (c:=0) (dt F a g-1) 1 hv) λj j1 j2 rf3_=>?_;subst rf3_
     refine dD (t_ F0 hr ha hg j1 (by exact Ar.vI [.Q .y0 (.c .x0),.e .n1 .x0,.l .x1 (.a .n1 .x2),.s .x2 .x0 .n1] (.l .x1 .x0) rfl mx f1 j2 (Ar.ts _ _):j<dt F a g)) λx x1 x2 x3=>?_
     have sm:-(2 ^ 62)<sY e∧sY e<2 ^ 62:=by unfold sY;split<;>decide
     have sj:-(2 ^ 62)<(j:Int)∧(j:Int)<2 ^ 62:=by exact Ar.Z3 [.e .x0 .n8,.l .x1 (.a .n1 .x2),.s .x2 .x0 .n1] (.C (.L (.g (.n 4611686018427387904)) (.c .x1)) (.L (.c .x1) (.n 4611686018427387904))) rfl far8 j2 (Ar.ts _ _)
     refine⟨[some (.int (F:Int)),some (.int (m:Int)),some (.int (a:Int)),some (.int (g:Int)),some (.ref n),some (.int (((g%F:Nat):Int)-((a%F:Nat):Int))),some (.int (((g/F:Nat):Int)-((a/F:Nat):Int))),some (.int (dt F a g:Nat)),some (.int (k:Int)),some (.int (j:Int))],_,⟨rfl,_,rfl⟩,λK _=>?_⟩
     have hx:aJ (.ref n) (.int (x:Int)) H1=some (.int (c x:Int)):=cP hc hN x2
     erw[fdd,dv1,dv2,aW sm,aW sj,← x1,hx,iV,Int.toNat_natCast])
   obtain⟨ρ',H',⟨hH,w,hρ⟩,el⟩:=lp [some (.int (F:Int)),some (.int (m:Int)),some (.int (a:Int)),some (.int (g:Int)),some (.ref n),some (.int (((g%F:Nat):Int)-((a%F:Nat):Int))),some (.int (((g/F:Nat):Int)-((a/F:Nat):Int))),some (.int (dt F a g:Nat)),some (.int (k:Int)),none] H ⟨rfl,_,rfl⟩
   have anyc:(!(aK (dt F a g-1) 1 1).any λv=>match v with|.int j=>!Nat.beq (c ((a:Int)+j*(sX e+sY e*(F:Int))).toNat) 0|_=>false)=ik F (F*R) (λx=>!Nat.beq (c x) 0) a g:=by
    rw[Bool.eq_iff_iff,bO,Bool.not_eq_true',← Bool.not_eq_true,List.any_eq_true]
    constructor
    ·intro hno x hx hb
     refine dD (oV hr hb) λj j1 j2 j3=>?_
     cases hz:Nat.beq (c x) 0 with
     |true=>rfl
     |false=>exact absurd ⟨.int (j:Int),j8 _ 1 j1 (by exact Ar.Z3 [.l .x1 .x0,.s .x2 .x0 .n1] (.l .x1 (.a .n1 .x2)) rfl j2 (Ar.ts _ _)),by show(!Nat.beq (c ((a:Int)+(j:Int)*(sX e+sY e*(F:Int))).toNat) 0)=true;simp only[← j3,Int.toNat_natCast,hz];rfl⟩ hno
    ·rintro hcl ⟨v,hv,hp⟩
     refine dD (gS (c:=0) (dt F a g-1) 1 hv) λj j1 j2 rf3_=>?_;subst rf3_
     refine dD (t_ F0 hr ha hg j1 (by exact Ar.vI [.Q .y0 (.c .x0),.e .n1 .x0,.l .x1 (.a .n1 .x2),.s .x2 .x0 .n1] (.l .x1 .x0) rfl mx f1 j2 (Ar.ts _ _):j<dt F a g)) λx x1 x2 x3=>?_
     have hp:(!Nat.beq (c ((a:Int)+(j:Int)*(sX e+sY e*(F:Int))).toNat) 0)=true:=hp
     simp only[← x1,Int.toNat_natCast,hcl x x2 x3]at hp
     exact bY hp
   have d3:decide ((k:Int)=3)=Nat.beq k 3:=ee k 3
   have d4:decide ((k:Int)=4)=Nat.beq k 4:=ee k 4
   erw[D2,md,fd,m8,hk,dK,mx,n1,n2,n6,c0,z0,yJ,in1,in2,Bool.not_true,d3,d4,aW dfs,dz,B5 _ (show dt F a g≤1000 by exact Ar.h_ [.e .x0 .n8,.Q .y0 (.c .x0)] (.e .x0 .aG) rfl far8 mx),zf]
   simp only[← anyc]
   have el:=el (kB (xB d [.ret (.c (.bool true))]) ox)
   have fin:cj d 9 Hp (aK (dt F a g-1) 1 1) [some (.int (F:Int)),some (.int (m:Int)),some (.int (a:Int)),some (.int (g:Int)),some (.ref n),some (.int (((g%F:Nat):Int)-((a%F:Nat):Int))),some (.int (((g/F:Nat):Int)-((a/F:Nat):Int))),some (.int (dt F a g:Nat)),some (.int (k:Int)),none] H (kB (xB d [.ret (.c (.bool true))]) ox) =
     some (.bool (!(aK (dt F a g-1) 1 1).any λv=>match v with|.int j=>!Nat.beq (c ((a:Int)+j*(sX e+sY e*(F:Int))).toNat) 0|_=>false),H):=by
    refine el.trans ?_
    rw[hH]
    cases((aK (dt F a g-1) 1 1).any λv=>match v with|.int j=>!Nat.beq (c ((a:Int)+j*(sX e+sY e*(F:Int))).toNat) 0|_=>false)<;>(first|rfl|(erw[ff]<;>rfl))
   simp only[fin]
   cases Nat.beq k 3<;>cases Nat.beq k 4<;>cases bZ F a g<;>(first|rfl|(erw[ff]<;>rfl))
  ·have hr:∀d,aS F d a g=false:=λd=>by
    cases hd:aS F d a g with
    |false=>rfl
    |true=>exact absurd ⟨d,hd⟩ hr
   refine dd (tY hr) λl1 l2=>?_
   have lf:gu k F a g=false:=by rcases h345 with rfl|rfl|rfl<;>simp[gu,l1,l2]
   simp only[lf,Bool.false_and]
   have bad:(Nat.beq (dt F a g) 0||(!(Nat.beq (dst (a%F) (g%F)) 0||Nat.beq (dst (a%F) (g%F)) (dt F a g))||!(Nat.beq (dst (a/F) (g/F)) 0||Nat.beq (dst (a/F) (g/F)) (dt F a g))))=true:=by
    cases hz:(Nat.beq (dt F a g) 0||(!(Nat.beq (dst (a%F) (g%F)) 0||Nat.beq (dst (a%F) (g%F)) (dt F a g))||!(Nat.beq (dst (a/F) (g/F)) 0||Nat.beq (dst (a/F) (g/F)) (dt F a g))))with
    |true=>rfl
    |false=>
     simp only[Bool.or_eq_false_iff,Bool.not_eq_false',Bool.or_eq_true,ae,aq]at hz
     obtain⟨e,he⟩:=yY hz.1 hz.2.1 hz.2.2
     rw[hr e]at he;exact bY he
   erw[D2,md,fd,m8,hk,dK,mx,n1,n2,n6,c0,yJ]
   revert bad
   generalize Nat.beq (dt F a g) 0=u;generalize(Nat.beq (dst (a%F) (g%F)) 0||Nat.beq (dst (a%F) (g%F)) (dt F a g))=v;generalize(Nat.beq (dst (a/F) (g/F)) 0||Nat.beq (dst (a/F) (g/F)) (dt F a g))=w
   cases u<;>cases v<;>cases w<;>intro bad<;>first|(first|rfl|(erw[ff]<;>rfl))|exact bY bad
end
end
section
open PySem
theorem Mf(X:DT)(ρ:Loc)(K:KT)(v:V)(H:MH):Gk X ρ K (v,H)=tO v H (Ee X ρ H K):=rfl
theorem JP(X:DT)(ρ:Loc)(H:MH)(K:KT)(b:Bool):Ee X ρ H K b=xI b (X ρ H K) (K (false,H)):=rfl
theorem Km(d:Nat)(ρ:Loc)(H:MH)(K:KT):z5 d [] ρ H K=K (true,H):=rfl
theorem Jk(d:Nat)(e:E)(r:List E)(ρ:Loc)(H:MH)(K:KT):z5 d (e::r) ρ H K=xE d e ρ H (Gk (z5 d r) ρ K):=rfl
theorem zW(d:Nat)(elt:E)(k:Nat)(it:E)(cs:List E)(ρ:Loc)(H:MH)(K:KV):xE d (.comp elt k it cs) ρ H K=xE d it ρ H (lM d elt k cs ρ K):=rfl
theorem oY(H G:MH)(l m:List V):(H++MO.lst l::G).set H.length (MO.lst m)=H++MO.lst m::G:=by
 induction H with
 |nil=>rfl
 |cons a r ih=>show a::List.set (r++MO.lst l::G) r.length (MO.lst m)=_;rw[ih];rfl
theorem cw(H G:MH)(l:List V):aj (H++MO.lst l::G) H.length=some l:=by unfold aj;simp
theorem jF{d:Nat}{elt:E}{k:Nat}{cs:List E}{ρ:Loc}{H:MH}(p:V→Bool)(f:V→V):∀(items:List V) (acc:List V) (G:MH),acc.length+items.length≤1000 →
  (∀v∈items,∀acc G,∃G',∀K:Bool×MH→R,z5 d cs (aX ρ k v) (H++MO.lst acc::G) K=K (p v,H++MO.lst acc::(G++G'))) →
  (∀v∈items,p v=true→∀acc G,∀K:KV,xE d elt (aX ρ k v) (H++MO.lst acc::G) K=K (f v,H++MO.lst acc::G)) →
  ∃G',iW (k9 d elt k cs ρ H.length) items (H++MO.lst acc::G)=some (H++MO.lst (acc++(items.filter p).map f)::(G++G'))
 | [],acc,G,_,_,_=>⟨[],by simp only[List.filter_nil,List.map_nil,List.append_nil,List.append_nil];rfl⟩
 |v::items,acc,G,hr,hc,he=>by
  obtain⟨G1,e1⟩:=hc v (.head _) acc G
  have e1:=Cz e1
  unfold iW k9
  rw[e1,Option.bind_some]
  dsimp only
  cases hp:p v with
  |false=>
   rw[if_neg (by decide),Option.bind_some]
   obtain⟨G2,e2⟩:=jF p f items acc (G++G1) (by simp at hr;exact Ar.Z2 [.e (.a .x0 (.a .x1 .n1)) .aG] (.e (.a .x0 .x1) .aG) rfl hr) (λu hu=>hc u (.tail _ hu)) (λu hu=>he u (.tail _ hu))
   refine⟨G1++G2,?_⟩
   rw[List.filter_cons,hp,if_neg (by decide),← List.append_assoc]
   exact e2
  |true=>
   have e3:=FR (he v (.head _) hp acc (G++G1))
   have room:aI acc.length=true:=by unfold aI room;exact Nat.ble_eq_true_of_le (by simp at hr;exact Ar.Z2 [.e (.a .x0 (.a .x1 .n1)) .aG] (.e .x0 .av) rfl hr)
   rw[if_pos rfl,e3,Option.bind_some]
   dsimp only
   simp only[cw,Option.bind_some,if_pos room,Option.bind_some,oY]
   obtain⟨G2,e2⟩:=jF p f items (acc++[f v]) (G++G1) (by simp at hr ⊢;exact Ar.Z2 [.e (.a .x0 (.a .x1 .n1)) .aG] (.e (.a (.a .x0 .n1) .x1) .aG) rfl hr) (λu hu=>hc u (.tail _ hu)) (λu hu=>he u (.tail _ hu))
   refine⟨G1++G2,?_⟩
   rw[List.filter_cons,hp,if_pos rfl,List.map_cons,← List.append_assoc,show acc++f v::(items.filter p).map f=acc++[f v]++(items.filter p).map f by rw[List.append_assoc];rfl]
   exact e2
theorem eO{d:Nat}{elt:E}{k:Nat}{cs:List E}{ρ:Loc}{H:MH}(p:V→Bool)(f:V→V)(items:List V)(v:V)(hv:each (k9 d elt k cs ρ H.length) v (H++[.lst []])=iW (k9 d elt k cs ρ H.length) items (H++[.lst []]))(hl:items.length≤1000)
  (hc:∀v∈items,∀acc G,∃G',∀K:Bool×MH→R,z5 d cs (aX ρ k v) (H++MO.lst acc::G) K=K (p v,H++MO.lst acc::(G++G')))
  (he:∀v∈items,p v=true→∀acc G,∀K:KV,xE d elt (aX ρ k v) (H++MO.lst acc::G) K=K (f v,H++MO.lst acc::G)) :
  ∃G,∀K:KV,lM d elt k cs ρ K (v,H)=K (.ref H.length,H++MO.lst ((items.filter p).map f)::G):=by
 refine bJ (jF p f items [] [] (by simpa using hl) hc he) λG e=>?_
 refine⟨G,λK=>?_⟩
 show(each (k9 d elt k cs ρ H.length) v (H++[.lst []])).bind _=_
 rw[hv,e];rfl
theorem iX{a b c:Int}{items:List V}(body:V→MH→Option MH)(H:MH)(h:dc a b c=some items):each body (.bQ a b c) H=iW body items H:=by
 show(dc a b c).bind _=_;rw[h];rfl
theorem wx(l:List V)(body:V→MH→Option MH)(H:MH):each body (.tup l) H=iW body l H:=rfl
end
section
open PySem
section
variable {F R:Nat} {H:MH} {d a b e g t k m n l:Nat} {c c':Nat→Nat}
theorem Cells.app(h:Cells H n k c)(K:MH):Cells (H++K) n k c:=aY h
theorem Cells.at(h:Cells H n k c)(hk:k≤25)(ha:a<k):aJ (.ref n) (.int (a:Int)) H=some (.int (c a:Int)):=cP h hk ha
theorem kK:∀(n a:Nat),aK n (a:Int) 1=(List.range' a n).map λi=>V.int (i:Nat)
 |0,_=>rfl
 |n+1,a=>by
  simp only[aK,List.range'_succ,List.map_cons,← kK n (a+1)];rfl
theorem dW(n:Nat):dc 0 (n:Int) 1=some (aP (List.range n)):=by
 show some (aK ((n:Int)-0).toNat 0 1)=_
 rw[show((n:Int)-0).toNat=n by exact Ar.Z2 [.t .x0 (.s (.c .x1) .n0)] (.q .x0 .x1) rfl (Ar.tn _),List.range_eq_range']
 exact congrArg some (kK n 0)
theorem mk_zero(n:Nat)(h:n≤1000):eA [.int (n:Int)]=some (.bQ 0 n 1):=by
 show(if bI (n:Int)then some (V.bQ 0 n 1)else none)=_
 rw[if_pos (by unfold bI;simp;exact Ar.Z1 [.e .x0 .aG] (.E (.c .x0) .av) rfl h)]
theorem bw(l:List Nat):(aP l).length=l.length:=List.length_map _
theorem iF(l:List Nat)(p:Nat→Bool)(q:V→Bool)(h:∀x:Nat,q (.int x)=p x):((aP l).filter q).map id=aP (l.filter p):=by
 rw[List.map_id]
 unfold aP
 rw[List.filter_map]
 congr 1
 exact List.filter_congr λx _=>h x
theorem bF(n:Nat)(h:n≤1000):aI n=true:=by unfold aI room;exact Nat.ble_eq_true_of_le (by exact Ar.Z1 [.e .x0 .aG] (.e .x0 .av) rfl h)
noncomputable def bD(F N t g:Nat)(c c':Nat→Nat)(x:Nat):Bool:=nG c t x&&bk F N (c x) x g λx=>!Nat.beq (c' x) 0
noncomputable def pV(p:Nat→Bool):V→Bool
 |.int x=>p x.toNat
 |_=>false
theorem uM(a:Nat):binI .bX (a:Int) 8=some ((a/8:Nat):Int):=fh (a:=a) (F:=8) (by decide) (by decide)
theorem fS(bd:Bd F R)(hc:Cells H n (F*R) c)(hc':Cells H l (F*R) c')(cd:Code (F*R) c)(hg:g<F*R)(ht:t<2) :
  ∃G,ag PB (d+2) 70 [.int (F:Int),.ref n,.int (g:Int),.ref l,.int (t:Int)] H=some (.ref H.length,H++MO.lst (aP (cz (F*R) (bD F (F*R) t g c c')))::G):=by
 have hN:=bd.aQ
 have lt:aj H n=_:=hc
 obtain⟨G,e⟩:=eO (d:=d+1) (elt:=.l 5) (k:=5) (cs:=[.and (.sub (.l 1) (.l 5)) (.and (.cmp .eq (.b .bX (.sub (.l 1) (.l 5)) (.c (.int 8))) (.l 4)) (.call 69 [.l 0,.sub (.l 1) (.l 5),.l 5,.l 2,.l 3]))])
  (ρ:=[some (.int (F:Int)),some (.ref n),some (.int (g:Int)),some (.ref l),some (.int (t:Int)),none]) (H:=H) (pV (bD F (F*R) t g c c')) id (aP (List.range (F*R))) (.bQ 0 (F*R:Nat) 1) (iX _ _ (dW _)) (by rw[bw,List.length_range];exact Ar.Z1 [.e .x0 .aQ] (.e .x0 .aG) rfl hN)
  (λv hv acc G=>by
   refine⟨[],λK=>?_⟩
   refine ay (eF hv) λx hx rf2_=>?_;subst rf2_
   rw[List.mem_range]at hx
   have h1:=(hc.app (MO.lst acc::G)).at hN hx
   rw[List.append_nil]
   show _=K (bD F (F*R) t g c c' x,_)
   unfold bD nG
   rcases cd x hx with h0|⟨k1,k6,k2⟩
   ·erw[cf,h1,iV,h0,show Nat.beq 0 0=true from rfl,Bool.not_true]
    rfl
   ·have n0:Nat.beq (c x) 0=false:=by rw[aq];rintro h;rw[h]at k1;simp at k1
    erw[cf,h1,iV,n0,Bool.not_false,uM,ee,dS bd (hc'.app (MO.lst acc::G)) hx hg k1 k6 k2]
    cases Nat.beq (c x/8) t with
    |false=>(first|rfl|(erw[ff]<;>rfl))
    |true=>
     rw[aA]
     cases bk F (F*R) (c x) x g (λx=>!Nat.beq (c' x) 0)<;>(first|rfl|(erw[ff]<;>rfl)))
  (λv hv hp acc G K=>by
   erw[cf,]
   rfl)
 refine⟨G,?_⟩
 rw[ax (fn:=LJ) rfl rfl]
 erw[cf,LJ,lt,len_tab,bF _ (show F*R≤1000 by exact Ar.Z1 [.e .x0 .aQ] (.e .x0 .aG) rfl hN),mk_zero _ (show F*R≤1000 by exact Ar.Z1 [.e .x0 .aQ] (.e .x0 .aG) rfl hN)]
 rw[show(F*R:Nat)=F*R from rfl]at e
 refine(e _).trans ?_
 rw[iF _ (bD F (F*R) t g c c') _ (λx=>rfl)]
 rfl
end
end
section
open PySem
structure LP (q:St) (H:MH):Prop where
 bd:Bd q.F q.R
 s2:q.s<2
 cl:Cells H 5 q.N q.c
 kl:aj H 6=some [.int (q.k 0:Nat),.int (q.k 1:Nat)]
section
variable {q:St} {H:MH} {d a b e g t k m n z i p u v:Nat} {o:Nat→Bool}
theorem LP.app(h:LP q H)(K:MH):LP q (H++K):=⟨h.bd,h.s2,h.cl.app K,aY h.kl⟩
theorem LP.at(h:LP q H)(ha:a<q.N):aJ (.ref 5) (.int (a:Int)) H=some (.int (q.c a:Int)):=h.cl.at h.bd.aQ ha
theorem LP.kj(h:LP q H)(ht:t<2):aJ (.ref 6) (.int (t:Int)) H=some (.int (q.k t:Nat)):=by
 rw[bu h.kl (by exact Ar.Z1 [.l .x0 .n2] (.l .x0 .av) rfl ht)]
 match t,ht with
 |0,_=>rfl
 |1,_=>rfl
theorem LP.uj(h:LP q H):q.s=0∨q.s=1:=by have:=h.s2;exact Ar.Z1 [.l .x0 .n2] (.D (.q .x0 .n0) (.q .x0 .n1)) rfl this
theorem LP.fd(h:LP q H)(a:Nat):binI .bX (a:Int) (q.F:Int)=some ((a/q.F:Nat):Int):=fh (by have:=h.bd.f3;exact Ar.Z1 [.e .n3 .x0] (.l .n0 .x0) rfl this) (by have:=h.bd.f8;exact Ar.Z1 [.e .x0 .n8] (.e .x0 .aQ) rfl this)
theorem LP.md(h:LP q H)(a:Nat):binI .mod (a:Int) (q.F:Int)=some ((a%q.F:Nat):Int):=fY (by have:=h.bd.f3;exact Ar.Z1 [.e .n3 .x0] (.l .n0 .x0) rfl this) a
theorem Nf(h:Bd a b):a*b/a=b:=Nat.mul_div_cancel_left _ (by have:=h.f3;exact Ar.Z1 [.e .n3 .x0] (.l .n0 .x0) rfl this)
theorem O5(g a F:Nat):decide ((g:Int)=(a:Int)+(F:Int))=Nat.beq g (a+F):=by rw[Bool.eq_iff_iff,decide_eq_true_eq,ae];exact Ar.Z3 [] (.B (.Q (.c .x0) (.a (.c .x1) (.c .x2))) (.q .x0 (.a .x1 .x2))) rfl
theorem O6(g a F:Nat):decide ((g:Int)=(a:Int)+2*(F:Int))=Nat.beq g (a+2*F):=by rw[Bool.eq_iff_iff,decide_eq_true_eq,ae];exact Ar.Z3 [] (.B (.Q (.c .x0) (.a (.c .x1) (.m 2 (.c .x2)))) (.q .x0 (.a .x1 (.m 2 .x2)))) rfl
theorem O7(g a F:Nat):decide ((g:Int)=(a:Int) + -(F:Int))=Nat.beq a (g+F):=by rw[Bool.eq_iff_iff,decide_eq_true_eq,ae];exact Ar.Z3 [] (.B (.Q (.c .x0) (.a (.c .x1) (.g (.c .x2)))) (.q .x1 (.a .x0 .x2))) rfl
theorem O8(g a F:Nat):decide ((g:Int)=(a:Int)+2 * -(F:Int))=Nat.beq a (g+2*F):=by rw[Bool.eq_iff_iff,decide_eq_true_eq,ae];exact Ar.Z3 [] (.B (.Q (.c .x0) (.a (.c .x1) (.m 2 (.g (.c .x2))))) (.q .x1 (.a .x0 (.m 2 .x2)))) rfl
theorem O9{R:Nat}(x:Nat)(h:2≤R):decide ((x:Int)=(R:Int)-2)=Nat.beq x (R-2):=by rw[Bool.eq_iff_iff,decide_eq_true_eq,ae];exact Ar.Z3 [.e .n2 .x0,.s .x2 .x0 .n2] (.B (.Q (.c .x1) (.s (.c .x0) .n2)) (.q .x1 .x2)) rfl h (Ar.ts _ _)
theorem zD(F a g:Nat):iL F 0 a g=Nat.beq g (a+F):=rfl
theorem zE(F a g:Nat):iL F 1 a g=Nat.beq a (g+F):=rfl
theorem o8(F a g:Nat):fH F 0 a g=Nat.beq g (a+2*F):=rfl
theorem o9(F a g:Nat):fH F 1 a g=Nat.beq a (g+2*F):=rfl
theorem CX(F a g:Nat):mid F 0 a g=a+F:=rfl
theorem CY(F a g:Nat):mid F 1 a g=g+F:=rfl
noncomputable def ez(q:St)(a g:Nat):Nat:=if fu q.F q.s a g then(if Nat.beq (q.c g) 0 then(if decide ((g:Int)=q.ep)then 3 else 0)else 1)
 else if !Nat.beq (q.c g) 0 then 0 else if iL q.F q.s a g then 1 else if q.dbl&&(fH q.F q.s a g&&(Nat.beq (q.c (mid q.F q.s a g)) 0&&Nat.beq (a/q.F) (lE q.R q.s)))then 1 else 0
noncomputable def gq(b:Bool):Int:=if b then 1 else 0
theorem qw(h:LP q H)(ha:a<q.N)(hg:g<q.N):ag PB (d+2) 79 [.int (q.F:Int),.ref 5,.int (q.s:Int),.int (a:Int),.int (g:Int),.int q.ep,.int (gq q.dbl)] H=some (.int ((ez q a g:Nat)-1:Int),H):=by
 have lt:aj H 5=_:=h.cl
 have hN:=h.bd.aQ
 have hR:=h.bd.r3
 have hs:=h.s2
 have mc:(1:Int)+(q.s:Int)*8=((1+q.s*8:Nat):Int):=by exact Ar.Z1 [] (.Q (.a .n1 (.r (.c .x0) 8)) (.c (.a .n1 (.r .x0 8)))) rfl
 have pw:bk q.F q.N (1+q.s*8) a g (λx=>!Nat.beq (q.c x) 0)=fu q.F q.s a g:=by
  unfold bk
  rw[show(1+q.s*8)%8=1 by exact Ar.Z3 [.d 8 .x2 .x0 (.a .n1 (.r .x1 8))] (.q .x0 .n1) rfl (Ar.md _ 8 rfl),show(1+q.s*8)/8=q.s by exact Ar.Z3 [.d 8 .x0 .x2 (.a .n1 (.r .x1 8))] (.q .x0 .x1) rfl (Ar.md _ 8 rfl)];rfl
 have hit:=dS (d:=d) (m:=1+q.s*8) h.bd h.cl ha hg (by exact Ar.Z3 [.d 8 .x2 .x0 (.a .n1 (.r .x1 8))] (.e .n1 .x0) rfl (Ar.md _ 8 rfl)) (by exact Ar.Z3 [.d 8 .x2 .x0 (.a .n1 (.r .x1 8))] (.e .x0 .n6) rfl (Ar.md _ 8 rfl)) (by exact Ar.Z3 [.l .x0 .n2,.d 8 .x1 .x2 (.a .n1 (.r .x0 8))] (.l .x1 .n2) rfl hs (Ar.md _ 8 rfl))
 rw[pw]at hit
 have m8:binI .mul (q.s:Int) 8=some ((q.s:Int)*8):=aW (by exact Ar.Z1 [.l .x0 .n2] (.C (.L (.g (.n 4611686018427387904)) (.c .x0)) (.L (.c .x0) (.n 4611686018427387904))) rfl hs)
 have db:decide (gq q.dbl≠0)=q.dbl:=by cases q.dbl<;>rfl
 rw[ax (fn:=F1) rfl rfl]
 unfold ez
 cases hp:fu q.F q.s a g with
 |true=>
  rw[hp]at hit
  have body:∀up:Int,xI true (xI (!Nat.beq (q.c g) 0) (some (V.int 0,H)) (xI (decide ((g:Int)=q.ep)) (some (V.int 2,H)) (some (V.int (-1),H)))) (some (V.int up,H))=some (V.int (((if true then(if Nat.beq (q.c g) 0 then(if decide ((g:Int)=q.ep)then 3 else 0)else 1)else 0:Nat):Int)-1),H):=λup=>by
   cases Nat.beq (q.c g) 0<;>cases decide ((g:Int)=q.ep)<;>(first|rfl|(erw[ff]<;>rfl))
  rcases h.uj with s|s
  ·erw[xf,F1,lt,len_tab,bF _ (show q.F*q.R≤1000 by exact Ar.Z1 [.e .x0 .aQ] (.e .x0 .aG) rfl hN),c0,show Nat.beq q.s 0=true by rw[s];rfl,m8,mc,hit,h.at hg,iV]
   exact(aA _ _).symm.trans (body 0)
  ·erw[xf,F1,lt,len_tab,bF _ (show q.F*q.R≤1000 by exact Ar.Z1 [.e .x0 .aQ] (.e .x0 .aG) rfl hN),c0,show Nat.beq q.s 0=false by rw[s];rfl,m8,mc,hit,h.at hg,iV]
   exact(aA _ _).symm.trans (body 0)
 |false=>
  rw[hp]at hit
  rw[show(if false=true then(if Nat.beq (q.c g) 0=true then(if decide ((g:Int)=q.ep)=true then 3 else 0)else 1)else if(!Nat.beq (q.c g) 0)=true then 0 else if iL q.F q.s a g=true then 1 else if(q.dbl&&(fH q.F q.s a g&&(Nat.beq (q.c (mid q.F q.s a g)) 0&&Nat.beq (a/q.F) (lE q.R q.s))))=true then 1 else 0:Nat)=(if(!Nat.beq (q.c g) 0)=true then 0 else if iL q.F q.s a g=true then 1 else if(q.dbl&&(fH q.F q.s a g&&(Nat.beq (q.c (mid q.F q.s a g)) 0&&Nat.beq (a/q.F) (lE q.R q.s))))=true then 1 else 0:Nat)from rfl]
  refine Or.elim (h.uj) (λs=>?_) λs=>?_
  ·have e1:decide ((g:Int)=(a:Int)+(q.F:Int))=iL q.F q.s a g:=by simp only[s,zD,O5]
   have e2:decide ((g:Int)=(a:Int)+2*(q.F:Int))=fH q.F q.s a g:=by simp only[s,o8,O6]
   have e3:decide (((a/q.F:Nat):Int)=1)=Nat.beq (a/q.F) (lE q.R q.s):=by rw[s];exact ee _ 1
   have hb:fH q.F q.s a g=true→aJ (.ref 5) (.int ((a:Int)+(q.F:Int))) H=some (.int (q.c (mid q.F q.s a g):Nat)):=λq2=>by
    rw[s,o8,ae]at q2
    rw[s,CX]
    exact h.at (a:=a+q.F) (by exact Ar.Z4 [.l .x2 .x1,.q .x2 (.a .x0 (.m 2 .x3))] (.l (.a .x0 .x3) .x1) rfl hg q2)
   erw[xf,F1,lt,len_tab,bF _ (show q.F*q.R≤1000 by exact Ar.Z1 [.e .x0 .aQ] (.e .x0 .aG) rfl hN),c0,show Nat.beq q.s 0=true by rw[s];rfl,m8,mc,hit,h.at hg,iV,e1,db,oL,e2,h.fd,e3]
   cases Nat.beq (q.c g) 0 with
   |false=>(first|rfl|(erw[ff]<;>rfl))
   |true=>
    cases iL q.F q.s a g with
    |true=>(first|rfl|(erw[ff]<;>rfl))
    |false=>
     cases q.dbl with
     |false=>(first|rfl|(erw[ff]<;>rfl))
     |true=>
      cases h2:fH q.F q.s a g with
      |false=>(first|rfl|(erw[ff]<;>rfl))
      |true=>
       erw[xf,hb h2,c0,h.fd,show Nat.beq q.s 0=true by rw[s];rfl,e3]
       cases Nat.beq (q.c (mid q.F q.s a g)) 0<;>cases Nat.beq (a/q.F) (lE q.R q.s)<;>(first|rfl|(erw[ff]<;>rfl))
  ·have e1:decide ((g:Int)=(a:Int) + -(q.F:Int))=iL q.F q.s a g:=by simp only[s,zE,O7]
   have e2:decide ((g:Int)=(a:Int)+2 * -(q.F:Int))=fH q.F q.s a g:=by simp only[s,o9,O8]
   have e3:decide (((a/q.F:Nat):Int)=((q.R:Nat):Int)-2)=Nat.beq (a/q.F) (lE q.R q.s):=by
    rw[s,O9 _ (by exact Ar.Z1 [.e .n3 .x0] (.e .n2 .x0) rfl hR)];rfl
   have hb:fH q.F q.s a g=true→aJ (.ref 5) (.int ((a:Int) + -(q.F:Int))) H=some (.int (q.c (mid q.F q.s a g):Nat)):=λq2=>by
    rw[s,o9,ae]at q2
    rw[s,CY]
    have:=h.at (a:=g+q.F) (by exact Ar.Z4 [.l .x0 .x1,.q .x0 (.a .x2 (.m 2 .x3))] (.l (.a .x2 .x3) .x1) rfl ha q2)
    rwa [show((g+q.F:Nat):Int)=(a:Int) + -(q.F:Int) by exact Ar.Z3 [.q .x0 (.a .x1 (.m 2 .x2))] (.Q (.c (.a .x1 .x2)) (.a (.c .x0) (.g (.c .x2)))) rfl q2]at this
   erw[xf,F1,lt,len_tab,bF _ (show q.F*q.R≤1000 by exact Ar.Z1 [.e .x0 .aQ] (.e .x0 .aG) rfl hN),c0,show Nat.beq q.s 0=false by rw[s];rfl,m8,mc,hit,h.at hg,iV,e1,db,oL,e2,h.fd,Nf h.bd,e3]
   cases Nat.beq (q.c g) 0 with
   |false=>(first|rfl|(erw[ff]<;>rfl))
   |true=>
    cases iL q.F q.s a g with
    |true=>(first|rfl|(erw[ff]<;>rfl))
    |false=>
     cases q.dbl with
     |false=>(first|rfl|(erw[ff]<;>rfl))
     |true=>
      cases h2:fH q.F q.s a g with
      |false=>(first|rfl|(erw[ff]<;>rfl))
      |true=>
       erw[xf,hb h2,c0,h.fd,show Nat.beq q.s 0=false by rw[s];rfl,Nf h.bd,e3]
       cases Nat.beq (q.c (mid q.F q.s a g)) 0<;>cases Nat.beq (a/q.F) (lE q.R q.s)<;>(first|rfl|(erw[ff]<;>rfl))
noncomputable def upd(c:Nat→Nat)(i w x:Nat):Nat:=if Nat.beq x i then w else c x
theorem Cs(n i w:Nat)(c:Nat→Nat):(tab n λt=>V.int (c t:Int)).set i (.int (w:Int))=tab n λt=>V.int (upd c i w t:Int):=by
 unfold tab
 apply List.ext_getElem?
 intro j
 simp only[List.getElem?_set,List.getElem?_map,List.getElem?_map,List.length_map,List.length_range]
 unfold upd
 by_cases hij:i=j
 ·subst hij
  by_cases hj:i<n
  ·simp[hj]
  ·simp[hj]
 ·rw[if_neg hij]
  have nji:Nat.beq j i=false:=by rw[aq];exact Ar.Z2 [.N (.q .x0 .x1)] (.N (.q .x1 .x0)) rfl hij
  cases hr:(List.range n)[j]? with
  |none=>rfl
  |some y=>
   have:y=j:=by
             rw[List.getElem?_range]at hr;· simpa using hr.symm
             ·exact(by have:=(List.getElem?_eq_some_iff.mp hr).1;simpa using this)
   subst this
   simp only[Option.map_some,nji,Bool.false_eq_true,if_false]
theorem zl{H:MH}{n N i w:Nat}{c:Nat→Nat}(h:Cells H n N c)(hN:N≤25)(hi:i<N):dX (.ref n) (.int (i:Int)) (.int (w:Int)) H=some (H.set n (.lst (tab N λt=>V.int (upd c i w t:Int)))):=by
 show(if jh (i:Int)then(aj H n).bind λl=>if Nat.blt (i:Int).toNat l.length then some (H.set n (.lst (l.set (i:Int).toNat (.int (w:Int)))))else none else none)=_
 have h:aj H n=_:=h
 rw[if_pos (ji (by exact Ar.Z2 [.e .x0 .aQ,.l .x1 .x0] (.l .x1 .av) rfl hN hi)),h,Option.bind_some,len_tab,Int.toNat_natCast,if_pos (by rw[aC];exact hi),Cs]
end
end
section
open PySem
section
variable {q:St} {H:MH} {d a b e g t k m n z i p u v:Nat} {o:Nat→Bool}
theorem AV(a k:Nat)(h:0<k)(h2:k<2 ^ 60):binI .bX (a:Int) (k:Int)=some ((a/k:Nat):Int):=by
 show(if(decide ((0:Int)<k)&&small k)=true then some ((a:Int).fdiv k)else none)=_
 rw[if_pos (by unfold small;simp;exact Ar.Z1 [.l .n0 .x0,.l .x0 (.n 1152921504606846976)] (.C (.l .n0 .x0) (.C (.L (.g (.n 4611686018427387904)) (.c .x0)) (.L (.c .x0) (.n 4611686018427387904)))) rfl h h2),Int.fdiv_eq_ediv_of_nonneg _ (by exact Ar.Z1 [] (.E .n0 (.c .x0)) rfl)];rfl
theorem jG(a:Nat):binI .bX (a:Int) 64=some ((a/64:Nat):Int):=AV a 64 (by decide) (by decide)
theorem wM(a:Nat):binI .bX (a:Int) 4096=some ((a/4096:Nat):Int):=AV a 4096 (by decide) (by decide)
theorem fR(a:Nat):binI .bX (a:Int) 16384=some ((a/16384:Nat):Int):=AV a 16384 (by decide) (by decide)
theorem km(a:Nat):binI .mod (a:Int) 64=some ((a%64:Nat):Int):=mod_lit a 64 (by decide)
theorem NR(a:Nat):binI .mod (a:Int) 4=some ((a%4:Nat):Int):=mod_lit a 4 (by decide)
structure LM (q:St) (m p u v:Nat):Prop where
 lt:m<65536
 aN:m/64%64<q.N
 gN:m%64<q.N
 ep:m/16384=2→p<q.N∧iL q.F q.s p (m%64)=true
 cs:m/16384=3→u<q.N∧v<q.N∧((m/64%64<m%64∧u=m%64/q.F*q.F+(q.F-1)∧v+1=m%64)∨(m%64<m/64%64∧u=m%64/q.F*q.F∧v=m%64+1))
noncomputable def az(q:St)(m p u v:Nat):Nat→Nat:=
 let c2:=upd (upd q.c (m/64%64) 0) (m%64) (q.c (m/64%64))
 if Nat.beq (m/16384) 1 then upd c2 (m%64) (2+m/4096%4+q.s*8)else if Nat.beq (m/16384) 2 then upd c2 p 0 else if Nat.beq (m/16384) 3 then upd (upd c2 u 0) v (4+q.s*8)else c2
theorem fO(H:MH)(N:Nat)(c:Nat→Nat):Cells (H++[MO.lst (tab N λt=>V.int (c t:Int))]) H.length N c:=bq _ _
theorem dB{N i w:Nat}{c:Nat→Nat}(hN:N≤25)(hi:i<N):dX (.ref H.length) (.int (i:Int)) (.int (w:Int)) (H++[MO.lst (tab N λt=>V.int (c t:Int))])=some (H++[MO.lst (tab N λt=>V.int (upd c i w t:Int))]):=by
 rw[zl (fO H N c) hN hi,eS]
theorem cp{N i:Nat}{c:Nat→Nat}(hN:N≤25)(hi:i<N):dX (.ref H.length) (.int (i:Int)) (.int 0) (H++[MO.lst (tab N λt=>V.int (c t:Int))])=some (H++[MO.lst (tab N λt=>V.int (upd c i 0 t:Int))]):=dB (w:=0) hN hi
theorem oG(h:LP q H)(w:LM q m p u v):ag PB (d+1) 82 [.int (q.F:Int),.ref 5,.int (q.s:Int),.int (m:Int)] H=some (.ref H.length,H++[MO.lst (tab q.N λt=>V.int (az q m p u v t:Int))]):=by
 have hl:aj H 5=_:=h.cl
 have hN:=h.bd.aQ
 have hs:=h.s2
 have hm:=w.lt
 have ml8:binI .mul (q.s:Int) 8=some ((q.s:Int)*8):=aW (by exact Ar.Z1 [.l .x0 .n2] (.C (.L (.g (.n 4611686018427387904)) (.c .x0)) (.L (.c .x0) (.n 4611686018427387904))) rfl hs)
 have at1:=λK:MH=>(h.app K).at w.aN
 have pr:(2:Int)+((m/4096%4:Nat):Int)+(q.s:Int)*8=((2+m/4096%4+q.s*8:Nat):Int):=by exact Ar.Z6 [.d 4 .x4 .x0 .x1,.d 4096 .x1 .x3 .x2] (.Q (.a (.a .n2 (.c .x0)) (.r (.c .x5) 8)) (.c (.a (.a .n2 .x0) (.r .x5 8)))) rfl (Ar.md _ 4 rfl) (Ar.md _ 4096 rfl)
 have rk:(4:Int)+(q.s:Int)*8=((4+q.s*8:Nat):Int):=by exact Ar.Z1 [] (.Q (.a .n4 (.r (.c .x0) 8)) (.c (.a .n4 (.r .x0 8)))) rfl
 rw[ax (fn:=CK) rfl rfl]
 unfold az
 have hz:m/16384=1∨m/16384=2∨m/16384=3∨m/16384=0:=by exact Ar.Z3 [.l .x0 (.n 65536),.d 16384 .x1 .x2 .x0] (.D (.q .x1 .n1) (.D (.q .x1 .n2) (.D (.q .x1 .n3) (.q .x1 .n0)))) rfl hm (Ar.md _ 16384 rfl)
 rcases hz with z|z|z|z
 ·rw[z]
  erw[xf,CK,jG,km,fR,z,hl,len_tab,bF _ (show q.F*q.R≤1000 by exact Ar.Z1 [.e .x0 .aQ] (.e .x0 .aG) rfl hN),cp hN w.aN,at1,dB hN w.gN,c1,c2,c3,show Nat.beq 1 1=true from rfl,show Nat.beq 1 2=false from rfl,show Nat.beq 1 3=false from rfl,wM,NR,ml8,pr]
  rfl
 ·obtain⟨p1,p2⟩:=w.ep z
  rw[z]
  refine Or.elim (h.uj) (λs=>?_) λs=>?_
  ·rw[s,zD,ae]at p2
   have e:((m%64:Nat):Int) + -(q.F:Int)=(p:Int):=by exact Ar.Z5 [.q .x0 (.a .x3 .x4),.d 64 .x2 .x0 .x1] (.Q (.a (.c .x0) (.g (.c .x4))) (.c .x3)) rfl p2 (Ar.md _ 64 rfl)
   erw[xf,CK,jG,km,fR,z,hl,len_tab,bF _ (show q.F*q.R≤1000 by exact Ar.Z1 [.e .x0 .aQ] (.e .x0 .aG) rfl hN),cp hN w.aN,at1,dB hN w.gN,c1,c2,c3,show Nat.beq 2 1=false from rfl,show Nat.beq 2 2=true from rfl,show Nat.beq 2 3=false from rfl,iV,show Nat.beq q.s 0=true by rw[s];rfl,Bool.not_true,e,cp hN p1]
   rfl
  ·rw[s,zE,ae]at p2
   have e:((m%64:Nat):Int)+(q.F:Int)=(p:Int):=by exact Ar.Z5 [.q .x0 (.a .x1 .x4),.d 64 .x3 .x1 .x2] (.Q (.a (.c .x1) (.c .x4)) (.c .x0)) rfl p2 (Ar.md _ 64 rfl)
   erw[xf,CK,jG,km,fR,z,hl,len_tab,bF _ (show q.F*q.R≤1000 by exact Ar.Z1 [.e .x0 .aQ] (.e .x0 .aG) rfl hN),cp hN w.aN,at1,dB hN w.gN,c1,c2,c3,show Nat.beq 2 1=false from rfl,show Nat.beq 2 2=true from rfl,show Nat.beq 2 3=false from rfl,iV,show Nat.beq q.s 0=false by rw[s];rfl,Bool.not_false,e,cp hN p1]
   rfl
 ·refine gw (w.cs z) λu1 v1 p2=>?_
  rw[z]
  have hF:=h.bd.f3
  have hg:=w.gN
  have gd:m%64/q.F*q.F≤m%64:=Nat.div_mul_le_self _ _
  have mlF:binI .mul ((m%64/q.F:Nat):Int) (q.F:Int)=some ((m%64/q.F*q.F:Nat):Int):=by
   have f8:=h.bd.f8
   rw[fZ (by exact Ar.Z1 [.e .x0 .n8] (.C (.L (.g (.n 4611686018427387904)) (.c .x0)) (.L (.c .x0) (.n 4611686018427387904))) rfl f8)];rfl
  rcases p2 with⟨o1,o2,o3⟩|⟨o1,o2,o3⟩
  ·have e:((m%64/q.F*q.F:Nat):Int)+((q.F:Int)-1)=(u:Int):=by exact Ar.Z4 [.e .n3 .x0,.q .x1 (.a .x2 .x3),.s .x3 .x0 .n1] (.Q (.a (.c .x2) (.s (.c .x0) .n1)) (.c .x1)) rfl hF o2 (Ar.ts _ _)
   have e2:((m%64:Nat):Int)-1=(v:Int):=by exact Ar.Z4 [.q (.a .x0 .n1) .x1,.d 64 .x3 .x1 .x2] (.Q (.s (.c .x1) .n1) (.c .x0)) rfl o3 (Ar.md _ 64 rfl)
   erw[xf,CK,jG,km,fR,z,hl,len_tab,bF _ (show q.F*q.R≤1000 by exact Ar.Z1 [.e .x0 .aQ] (.e .x0 .aG) rfl hN),cp hN w.aN,at1,dB hN w.gN,c1,c2,c3,show Nat.beq 3 1=false from rfl,show Nat.beq 3 2=false from rfl,show Nat.beq 3 3=true from rfl,show decide (((m/64%64:Nat):Int)<((m%64:Nat):Int))=true by simp;lia,h.fd,mlF,show decide ((0:Int)<1)=true from rfl,e,cp hN u1,e2,ml8,rk,dB hN v1]
   rfl
  ·have e:((m%64/q.F*q.F:Nat):Int)+0=(u:Int):=by exact Ar.Z2 [.q .x0 .x1] (.Q (.a (.c .x1) .n0) (.c .x0)) rfl o2
   have e2:((m%64:Nat):Int) - -1=(v:Int):=by exact Ar.Z4 [.q .x0 (.a .x1 .n1),.d 64 .x3 .x1 .x2] (.Q (.s (.c .x1) (.g .n1)) (.c .x0)) rfl o3 (Ar.md _ 64 rfl)
   erw[xf,CK,jG,km,fR,z,hl,len_tab,bF _ (show q.F*q.R≤1000 by exact Ar.Z1 [.e .x0 .aQ] (.e .x0 .aG) rfl hN),cp hN w.aN,at1,dB hN w.gN,c1,c2,c3,show Nat.beq 3 1=false from rfl,show Nat.beq 3 2=false from rfl,show Nat.beq 3 3=true from rfl,show decide (((m/64%64:Nat):Int)<((m%64:Nat):Int))=false by simp;lia,h.fd,mlF,show decide ((0:Int) < -1)=false from rfl,e,cp hN u1,e2,ml8,rk,dB hN v1]
   rfl
 ·rw[z]
  erw[xf,CK,jG,km,fR,z,hl,len_tab,bF _ (show q.F*q.R≤1000 by exact Ar.Z1 [.e .x0 .aQ] (.e .x0 .aG) rfl hN),cp hN w.aN,at1,dB hN w.gN,c1,c2,c3,show Nat.beq 0 1=false from rfl,show Nat.beq 0 2=false from rfl,show Nat.beq 0 3=false from rfl]
  rfl
end
end
section
open PySem
section
variable {q:St} {H:MH} {d a b e g t k m n z i p u v:Nat} {o:Nat→Bool}
theorem lG:∀l:List Nat,intsOf (aP l)=some (l.map λ(i:Nat)=>(i:Int))
 | []=>rfl
 |i::l=>by
  show(intsOf (aP l)).bind _=_
  rw[lG l];rfl
theorem eq_nil{H:MH}{n m:Nat}{l:List Nat}(h1:aj H n=some (aP l))(h2:aj H m=some []):cX .eq (.ref n) (.ref m) H=some l.isEmpty:=by
 show(aj H n).bind (λl=>(aj H m).bind λr=>if r.isEmpty then(intsOf l).bind λ_=>some l.isEmpty else none)=_
 simp only[h1,Option.bind_some,h2,Option.bind_some,lG]
 cases l<;>rfl
theorem xe(x:Nat):∀l:List Nat,tI (x:Int) (l.map λ(i:Nat)=>(i:Int))=l.contains x
 | []=>rfl
 |i::l=>by
  show(if(x:Int)=(i:Int)then true else tI (x:Int) (l.map λ(i:Nat)=>(i:Int)))=_
  rw[xe x l,List.contains_cons]
  by_cases h:x=i
  ·subst h;simp
  ·rw[if_neg (by exact Ar.Z2 [.N (.q .x0 .x1)] (.N (.Q (.c .x0) (.c .x1))) rfl h)]
   have:(x==i)=false:=by simpa using h
   simp only[this,Bool.false_or]
theorem BK{H:MH}{n:Nat}{l:List Nat}(x:Nat)(h1:aj H n=some (aP l)):cX .BJ (.int (x:Int)) (.ref n) H=some !l.contains x:=by
 show(aj H n).bind (λl=>(intsOf l).bind λns=>some !(tI (x:Int) ns))=_
 simp only[h1,Option.bind_some,lG,Option.bind_some,xe]
theorem nQ{H:MH}{n:Nat}{l:List V}(h:aj H n=some l)(hl:l.length≤1000):truth (.ref n) H=some !l.isEmpty:=by
 show(aj H n).bind (λl=>if aI l.length then some !l.isEmpty else none)=_
 rw[h,Option.bind_some,if_pos (bF _ hl)]
theorem hV(N:Nat)(p:Nat→Bool):(cz N p).length≤N:=by
 unfold cz;exact Nat.le_trans (List.length_filter_le _ _) (by rw[List.length_range];exact Nat.le_refl _)
theorem nM(N:Nat)(p:Nat→Bool):(aP (cz N p)).isEmpty=!aO N p:=by
 have h:(aP (cz N p)).isEmpty=(cz N p).isEmpty:=by unfold aP;cases cz N p<;>rfl
 rw[h,Bool.eq_iff_iff,List.isEmpty_iff,Bool.not_eq_true',← Bool.not_eq_true,aB]
 constructor
 ·rintro h ⟨x,hx,hp⟩
  have:=b7.mpr ⟨hx,hp⟩
  rw[h]at this;cases this
 ·intro h
  cases hs:cz N p with
  |nil=>rfl
  |cons x l=>exact absurd ⟨x,(b7 (p:=p) (N:=N) (s:=x)).mp (by rw[hs];exact .head _)⟩ h
noncomputable def gm(q:St)(gl:List Nat)(m p u v:Nat):Bool:=gl.isEmpty||(Nat.beq (m/64%64) (q.k q.s)||(match gl with
 | [t]=>!Nat.beq (az q m p u v t) (q.c t)||!bk q.F q.N (az q m p u v t) t (q.k q.s) (λx=>!Nat.beq (az q m p u v x) 0)
 |_=>false))
theorem rh(h:LP q H)(w:LM q m p u v)(ks:q.k q.s<q.N){gr:Nat}{gl:List Nat}(hg:aj H gr=some (aP gl))(hgl:gl.length≤100)(gv:∀t∈gl,t<q.N∧1≤q.c t%8∧q.c t%8≤6∧q.c t/8<2) :
  ∃K,ag PB (d+2) 83 [.int (q.F:Int),.ref 5,.int (q.s:Int),.ref 6,.ref gr,.int (m:Int)] H=some (.bool (gm q gl m p u v),H++K):=by
 have hN:=h.bd.aQ
 have h1:=h.app [.lst []]
 have g1:=aY (K:=[.lst []]) hg
 have en:cX .eq (.ref gr) (.ref H.length) (H++[.lst []])=some gl.isEmpty:=eq_nil g1 (bq _ _)
 rw[ax (fn:=D3) rfl rfl]
 unfold gm
 have len:∀l:List Nat,(aP l).length=l.length:=bw
 match gl,hg,hgl,gv,g1,en with
 | [],hg,hgl,gv,g1,en=>
  refine⟨[.lst []],?_⟩
  erw[xf,D3,en,show([]:List Nat).isEmpty=true from rfl]
  rfl
 | [t],hg,hgl,gv,g1,en=>
  refine ic (gv t (.head _)) λt1 t2 t3 t4=>?_
  cases ek:Nat.beq (m/64%64) (q.k q.s)with
  |true=>
   refine⟨[.lst []],?_⟩
   erw[xf,D3,en,show([t]:List Nat).isEmpty=false from rfl,jG,km,h1.kj h.s2,ee,ek]
   rfl
  |false=>
   have mk:=oG (d:=d) h1 w
   have h2:=h1.app [MO.lst (tab q.N λt=>V.int (az q m p u v t:Int))]
   have g2:=aY (K:=[MO.lst (tab q.N λt=>V.int (az q m p u v t:Int))]) g1
   have sg:aJ (.ref gr) (.int 0) (H++[.lst []]++[MO.lst (tab q.N λt=>V.int (az q m p u v t:Int))])=some (.int (t:Int)):=bu (a:=0) g2 (by decide)
   have cn:Cells (H++[.lst []]++[MO.lst (tab q.N λt=>V.int (az q m p u v t:Int))]) (H++[MO.lst []]).length q.N (az q m p u v):=fO _ _ _
   refine⟨[.lst []]++[MO.lst (tab q.N λt=>V.int (az q m p u v t:Int))],?_⟩
   have one:(decide ((1:Int)<((([t]:List Nat).length:Nat):Int)))=false:=rfl
   erw[xf,D3,en,show([t]:List Nat).isEmpty=false from rfl,jG,km,h1.kj h.s2,ee,ek,g1,len,show aI ([t]:List Nat).length=true from rfl,one,mk,sg,cn.at hN t1,h2.at t1]
   cases em:Nat.beq (az q m p u v t) (q.c t)with
   |false=>rw[List.append_assoc];(first|rfl|(erw[ff]<;>rfl))
   |true=>
    have e':=em
    rw[ae]at e'
    have hh:=dS (d:=d) (m:=az q m p u v t) h.bd cn t1 ks (by rw[e'];exact t2) (by rw[e'];exact t3) (by rw[e'];exact t4)
    erw[xf,cn.at hN t1,h2.kj h.s2,hh]
    simp only[List.append_assoc];(first|rfl|(erw[ff]<;>rfl))
 |t::t'::r,hg,hgl,gv,g1,en=>
  refine⟨[.lst []],?_⟩
  have two:(decide ((1:Int)<(((t::t'::r:List Nat).length:Nat):Int)))=true:=by simp;exact Ar.Z1 [] (.L .n1 (.a (.a (.c .x0) .n1) .n1)) rfl
  cases ek:Nat.beq (m/64%64) (q.k q.s)with
  |true=>
   erw[xf,D3,en,show(t::t'::r:List Nat).isEmpty=false from rfl,jG,km,h1.kj h.s2,ee,ek]
   rfl
  |false=>
   erw[xf,D3,en,show(t::t'::r:List Nat).isEmpty=false from rfl,jG,km,h1.kj h.s2,ee,ek,g1,len,bF _ (show(t::t'::r:List Nat).length≤1000 by exact Ar.Z1 [.e .x0 (.n 100)] (.e .x0 .aG) rfl hgl),two]
   rfl
noncomputable def tT(q:St)(gl tl:List Nat)(m p u v:Nat):Nat:=
 let a:=m/64%64
 let g:=m%64
 if !uZ m then 1 else if Nat.ble q.N a||Nat.ble q.N g then 2 else if Nat.beq (q.c a) 0||!Nat.beq (q.c a/8) q.s then 3 else if !Nat.beq (q.c g) 0&&Nat.beq (q.c g/8) q.s then 4
 else if !tl.contains m then 5 else if !gm q gl m p u v then 6
 else if aO q.N (bD q.F q.N (1-q.s) (if Nat.beq a (q.k q.s)then g else q.k q.s) (az q m p u v) (az q m p u v))then 7 else 0
theorem vf(v:Int)(hv:v≤0∨65536≤v)(as:List V)(x1 x2 x3 x4 x5 x6:V)(has:as=[x1,x2,x3,x4,x5,x6]):ag PB (d+1) 84 (as++[.int v]) H=some (.int 1,H):=by
 subst has
 rw[ax (fn:=He) rfl rfl]
 have f1:binI .bX v 64=some (v.fdiv 64):=tB (F:=64) (by decide) (by decide)
 have f2:binI .bX v 16384=some (v.fdiv 16384):=rfl
 have m1:∀x:Int,binI .mod x 64=some (x.fmod 64):=λx=>rfl
 erw[xf,He,f1,f2,m1]
 by_cases h0:v≤0
 ·rw[decide_eq_true h0];(first|rfl|(erw[ff]<;>rfl))
 ·rw[decide_eq_false h0,decide_eq_true (by exact Ar.eI [.N (.E .y0 .n0),.D (.E .y0 .n0) (.E (.n 65536) .y0)] (.L (.n 65535) .y0) rfl h0 hv:(65535:Int)<v)];(first|rfl|(erw[ff]<;>rfl))
theorem vg(h:LP q H)(cd:Code q.N q.c)(ks:q.k q.s<q.N){gr tr:Nat}{gl tl:List Nat}(hg:aj H gr=some (aP gl))(hgl:gl.length≤100)(gv:∀t∈gl,t<q.N∧1≤q.c t%8∧q.c t%8≤6∧q.c t/8<2)
  (ht:aj H tr=some (aP tl)) (h0:0<m) (h1:m<65536) (w:m∈tl→LM q m p u v∧Code q.N (az q m p u v)) :
  ∃K,ag PB (d+3) 84 [.int (q.F:Int),.ref 5,.int (q.s:Int),.ref 6,.ref gr,.ref tr,.int (m:Int)] H=some (.int (tT q gl tl m p u v:Nat),H++K):=by
 have hN:=h.bd.aQ
 have hs:=h.s2
 have hl:aj H 5=_:=h.cl
 have n0:decide ((m:Int)≤0)=false:=by simp;exact Ar.Z1 [.l .n0 .x0] (.N (.q .x0 .n0)) rfl h0
 have n1:decide ((65535:Int)<(m:Int))=false:=by simp;exact Ar.Z1 [.l .x0 (.n 65536)] (.E (.c .x0) (.n 65535)) rfl h1
 have Mn:∀x:Nat,decide (((q.N:Nat):Int)≤(x:Int))=Nat.ble q.N x:=λx=>by rw[Bool.eq_iff_iff,decide_eq_true_eq,b5];exact Ar.Z2 [] (.B (.E (.c .x0) (.c .x1)) (.e .x0 .x1)) rfl
 have z4:m/16384%4=m/16384:=by exact Ar.Z5 [.l .x0 (.n 65536),.d 4 .x4 .x1 .x2,.d 16384 .x2 .x3 .x0] (.q .x1 .x2) rfl h1 (Ar.md _ 4 rfl) (Ar.md _ 16384 rfl)
 have rm:=bF q.N (show q.F*q.R≤1000 by exact Ar.Z1 [.e .x0 .aQ] (.e .x0 .aG) rfl hN)
 have nil:∀{x:R} {n:Nat},x=some (V.int (n:Int),H)→∃K,x=some (V.int (n:Int),H++K):=λe=>⟨[],by rw[List.append_nil];exact e⟩
 have pass:∀X Y:R,xI (Nat.beq (m/64%64) (m%64)) Y (xI (Nat.beq (m/16384) 1) X (xI (Nat.beq (m/4096%4) 0) X Y))=xI (uZ m) X Y:=λX Y=>by
  unfold uZ;rw[z4];simp only[qT,jU,fo]
 rw[ax (fn:=He) rfl rfl]
 erw[xf,He,jG,km,fR,wM,NR,n0,n1,ee,c1,c0,hl,len_tab,rm,Mn,fo,kc,kb]
 simp only[pass]
 unfold tT
 dsimp only
 cases uZ m with
 |false=>exact nil ((au _ _).trans rfl)
 |true=>
 rw[aA]
 cases e2:Nat.ble q.N (m/64%64)with
 |true=>exact nil ((aA _ _).trans rfl)
 |false=>
 simp only[au]
 cases e3:Nat.ble q.N (m%64)with
 |true=>exact nil ((aA _ _).trans rfl)
 |false=>
 have ha:m/64%64<q.N:=by rw[← Bool.not_eq_true,b5]at e2;exact Ar.Z6 [.N (.e .x0 .x1),.d 64 .x5 .x1 .x2,.d 64 .x2 .x4 .x3] (.l .x1 .x0) rfl e2 (Ar.md _ 64 rfl) (Ar.md _ 64 rfl)
 have hgo:m%64<q.N:=by rw[← Bool.not_eq_true,b5]at e3;exact Ar.Z4 [.N (.e .x0 .x1),.d 64 .x3 .x1 .x2] (.l .x1 .x0) rfl e3 (Ar.md _ 64 rfl)
 simp only[au]
 erw[xf,h.at ha,c0,uM,ee,h.at hgo,iV,BK m ht,fo,kc,kb]
 cases Nat.beq (q.c (m/64%64)) 0 with
 |true=>exact nil ((aA _ _).trans rfl)
 |false=>
 simp only[au]
 cases Nat.beq (q.c (m/64%64)/8) q.s with
 |false=>exact nil ((au _ _).trans rfl)
 |true=>
 rw[aA,show∀X Y:R,xI (Nat.beq (q.c (m%64)) 0) X (xI (Nat.beq (q.c (m%64)/8) q.s) Y X)=xI (!Nat.beq (q.c (m%64)) 0&&Nat.beq (q.c (m%64)/8) q.s) Y X from λX Y=>by simp only[jU,fo]]
 cases(!Nat.beq (q.c (m%64)) 0&&Nat.beq (q.c (m%64)/8) q.s)with
 |true=>exact nil ((aA _ _).trans rfl)
 |false=>
 rw[au]
 cases e7:tl.contains m with
 |false=>exact nil ((au _ _).trans rfl)
 |true=>
 rw[aA]
 refine dd (w (by simpa using e7)) λwl wc=>?_
 refine bJ (rh (d:=d) h wl ks hg hgl gv) λK1 k1=>?_
 have h1:=h.app K1
 have mk:=oG (d:=d+1) h1 wl
 have h2:=h1.app [MO.lst (tab q.N λt=>V.int (az q m p u v t:Int))]
 have cn:Cells (H++K1++[MO.lst (tab q.N λt=>V.int (az q m p u v t:Int))]) (H++K1).length q.N (az q m p u v):=fO _ _ _
 obtain⟨ow,how⟩:∃x,x=if Nat.beq (m/64%64) (q.k q.s)then m%64 else q.k q.s:=⟨_,rfl⟩
 have own:ow<q.N:=by rw[how];split<;>assumption
 refine bJ (fS (d:=d) (t:=1-q.s) h.bd cn cn wc own (by exact Ar.Z2 [.s .x1 .n1 .x0] (.l .x1 .n2) rfl (Ar.ts _ _))) λG hk=>?_
 have tr:=nQ (cw (H++K1++[MO.lst (tab q.N λt=>V.int (az q m p u v t:Int))]) G (aP (cz q.N (bD q.F q.N (1-q.s) ow (az q m p u v) (az q m p u v))))) (by rw[bw];have:=hV q.N (bD q.F q.N (1-q.s) ow (az q m p u v) (az q m p u v));have hN':q.N≤25:=hN;exact Ar.Z2 [.e .x0 .x1,.e .x1 .aQ] (.e .x0 .aG) rfl this hN')
 simp only[nM,Bool.not_not]at tr
 have sk:(1:Int)-(q.s:Int)=((1-q.s:Nat):Int):=by exact Ar.Z2 [.l .x0 .n2,.s .x1 .n1 .x0] (.Q (.s .n1 (.c .x0)) (.c .x1)) rfl hs (Ar.ts _ _)
 rw[← how]
 erw[xf,k1,mk,h2.kj hs,ee]
 cases gm q gl m p u v with
 |false=>exact⟨K1,(aA _ _).trans rfl⟩
 |true=>
 refine⟨K1++([MO.lst (tab q.N λt=>V.int (az q m p u v t:Int))]++(MO.lst (aP (cz q.N (bD q.F q.N (1-q.s) ow (az q m p u v) (az q m p u v))))::G)),?_⟩
 refine(au _ _).trans ?_
 cases ek:Nat.beq (m/64%64) (q.k q.s)<;>rw[ek]at how<;>simp only[if_true,Bool.false_eq_true,if_false]at how<;>subst how
 ·rw[au]
  erw[xf,sk,hk,tr]
  rw[List.append_assoc,List.append_assoc]
  cases aO q.N (bD q.F q.N (1-q.s) (q.k q.s) (az q m p u v) (az q m p u v))<;>(first|rfl|(erw[ff]<;>rfl))
 ·rw[aA]
  erw[xf,sk,hk,tr]
  rw[List.append_assoc,List.append_assoc]
  cases aO q.N (bD q.F q.N (1-q.s) (m%64) (az q m p u v) (az q m p u v))<;>(first|rfl|(erw[ff]<;>rfl))
end
end
section
open PySem
theorem nc{d k:Nat}{b:List S}(P:Nat→Loc→MH→Prop)(N:Nat)
  (hb:∀j,j<N→∀ρ H,P j ρ H→∃ρ' H',P (j+1) ρ' H'∧∀K,nT K→xB d b (aX ρ k (.int (j:Int))) H K=K (.bf,ρ',H')) :
  ∀n a,a+n=N→∀ρ H,P a ρ H→∃ρ' H',P N ρ' H'∧∀K,cj d k b (aK n (a:Int) 1) ρ H K=K (.bf,ρ',H')
 |0,a,h,ρ,H,hp=>by
  have:a=N:=by exact Ar.Z2 [.q (.a .x0 .n0) .x1] (.q .x0 .x1) rfl h
  subst this;exact⟨ρ,H,hp,λ_=>rfl⟩
 |n+1,a,h,ρ,H,hp=>by
  refine cQ (hb a (by exact Ar.Z3 [.q (.a .x0 (.a .x1 .n1)) .x2] (.l .x0 .x2) rfl h) ρ H hp) λρ1 H1 p1 e1=>?_
  refine cQ (nc P N hb n (a+1) (by exact Ar.Z3 [.q (.a .x0 (.a .x1 .n1)) .x2] (.q (.a (.a .x0 .n1) .x1) .x2) rfl h) ρ1 H1 p1) λρ2 H2 p2 e2=>?_
  refine⟨ρ2,H2,p2,λK=>?_⟩
  simp only[aK,eH,e1 _ (fx _ _),fA]
  exact e2 K
theorem i8{d k:Nat}{b:List S}(P:Nat→Loc→MH→Prop)(N:Nat)
  (hb:∀j,j<N→∀ρ H,P j ρ H→∃ρ' H',P (j+1) ρ' H'∧∀K,nT K→xB d b (aX ρ k (.int (j:Int))) H K=K (.bf,ρ',H')) (ρ:Loc) (H:MH) (hp:P 0 ρ H) :
  ∃ρ' H',P N ρ' H'∧∀K,cj d k b (aP (List.range N)) ρ H K=K (.bf,ρ',H'):=by
 refine cQ (nc P N hb N 0 (by exact Ar.Z1 [] (.q (.a .n0 .x0) .x0) rfl) ρ H hp) λρ' H' p e=>?_
 refine⟨ρ',H',p,λK=>?_⟩
 have:aP (List.range N)=aK N ((0:Nat):Int) 1:=by rw[List.range_eq_range'];exact(kK N 0).symm
 rw[this];exact e K
section
variable {q:St} {H:MH} {d a b e g t k m n z i p u v:Nat} {o:Nat→Bool}
noncomputable def qD(q:St)(a g:Nat):List Nat:=if !Nat.beq (q.c g) 0&&Nat.beq (q.c g/8) q.s then[]else
 if Nat.beq (q.c a%8) 1 then(if Nat.beq (ez q a g) 1&&(Nat.blt g q.F||Nat.ble (q.N-q.F) g)then(List.range 4).map (λp=>g+a*64+p*4096+16384)else if Nat.beq (ez q a g) 0 then[]else[g+a*64+(ez q a g-1)*16384])
 else if bk q.F q.N (q.c a) a g q.oc then[g+a*64]else[]
noncomputable def iK(q:St)(a:Nat):List Nat:=if Nat.beq (q.c a) 0||!Nat.beq (q.c a/8) q.s then[]else(List.range q.N).flatMap (qD q a)
theorem tW(q:St)(a g:Nat):(qD q a g).length≤4:=by
 unfold qD
 split
 ·exact Nat.zero_le _
 ·split
  ·split
   ·simp
   ·split<;>simp
  ·split<;>simp
theorem jH(f:Nat→List Nat)(n:Nat):(List.range (n+1)).flatMap f=(List.range n).flatMap f++f n:=by
 simp only[List.range_succ,List.flatMap_append];simp
theorem i6(f:Nat→List Nat)(k:Nat)(hf:∀a,(f a).length≤k):∀n,((List.range n).flatMap f).length≤k*n
 |0=>by simp
 |n+1=>by
  simp only[jH,List.length_append,Nat.mul_succ]
  have:=i6 f k hf n
  have:=hf n
  exact Ar.Z4 [.e .x0 .x1,.e .x2 .x3] (.e (.a .x0 .x2) (.a .x1 .x3)) rfl (by assumption) this
theorem BF(bd:Bd q.F q.R)(a:Nat):(iK q a).length≤100:=by
 have hN:=bd.aQ
 unfold iK
 split
 ·exact Nat.zero_le _
 ·have:=i6 (qD q a) 4 (tW q a) q.N
  have hN':q.N≤25:=hN
  exact Ar.Z2 [.e .x0 .aQ,.e .x1 (.m 4 .x0)] (.e .x1 (.n 100)) rfl hN this
theorem hQ(a b:List Nat):aP (a++b)=aP a++aP b:=List.map_append
theorem f_(n:Nat)(h:n≤100000):aI n=true:=by unfold aI room;exact Nat.ble_eq_true_of_le (by exact Ar.Z1 [.e .x0 (.n 100000)] (.e .x0 .av) rfl h)
noncomputable abbrev It:List S:=[.exp (.app (.l 7) (.b .add (.b .add (.b .add (.l 9) (.b .mul (.l 8) (.c (.int 64)))) (.b .mul (.l 11) (.c (.int 4096)))) (.c (.int 16384))))]
noncomputable abbrev EO:List S:=[.ite (.and (.sub (.l 1) (.l 9)) (.cmp .eq (.b .bX (.sub (.l 1) (.l 9)) (.c (.int 8))) (.l 2))) [.cnt] [],.ite (.cmp .eq (.b .mod (.sub (.l 1) (.l 8)) (.c (.int 8))) (.c (.int 1))) [.set 10 (.call 79 [.l 0,.l 1,.l 2,.l 8,.l 9,.l 4,.l 5]),.ite (.and (.cmp .eq (.l 10) (.c (.int 0))) (.or (.cmp .lt (.l 9) (.l 0)) (.cmp .ge (.l 9) (.b .sub (.l 6) (.l 0))))) [.fr 11 (.range [.c (.int 4)]) It] [.ite (.cmp .ge (.l 10) (.c (.int 0))) [.exp (.app (.l 7) (.b .add (.b .add (.l 9) (.b .mul (.l 8) (.c (.int 64)))) (.b .mul (.l 10) (.c (.int 16384)))))] []]] [.ite (.call 69 [.l 0,.sub (.l 1) (.l 8),.l 8,.l 9,.l 1]) [.exp (.app (.l 7) (.b .add (.l 9) (.b .mul (.l 8) (.c (.int 64)))))] []]]
noncomputable abbrev Mr:List S:=[.ite (.or (.cmp .eq (.sub (.l 1) (.l 8)) (.c (.int 0))) (.cmp .ne (.b .bX (.sub (.l 1) (.l 8)) (.c (.int 8))) (.l 2))) [.cnt] [],.fr 9 (.range [.l 6]) EO]
noncomputable abbrev yH(q:St)(n:Nat)(x8 x9 bU bc:Option V):Loc:=[some (.int (q.F:Int)),some (.ref 5),some (.int (q.s:Int)),some (.int (bm 4 q.rt)),some (.int q.ep),some (.int (gq q.dbl)),some (.int (q.N:Nat)),some (.ref n),x8,x9,bU,bc]
theorem qC(a:Nat):binI .mul (a:Int) 64=some ((a:Int)*64):=fZ (by decide)
theorem BE(a:Int):binI .mul a 4096=some (a*4096):=fZ (by decide)
theorem qB(a:Int):binI .mul a 16384=some (a*16384):=fZ (by decide)
theorem vG(bd:Bd q.F q.R):q.F≤q.N:=Nat.le_mul_of_pos_right _ (by have:=bd.r3;exact Ar.Z1 [.e .n3 .x0] (.l .n0 .x0) rfl this)
theorem EP(h:LP q H)(cd:Code q.N q.c)(ha:a<q.N)(hg:g<q.N)(own:1≤q.c a%8∧q.c a%8≤6∧q.c a/8<2)(x9 bU bc:Option V)(l:List Nat)(hl:l.length≤10000) :
  ∃y9 y10 y11,∀K:KS,nT K→xB (d+2) EO (aX (yH q H.length (some (.int (a:Int))) x9 bU bc) 9 (.int (g:Int))) (H++[MO.lst (aP l)]) K=K (.bf,yH q H.length (some (.int (a:Int))) y9 y10 y11,H++[MO.lst (aP (l++qD q a g))]):=by
 have hN:=h.bd.aQ
 have h1:=h.app [MO.lst (aP l)]
 have ll:=bq H (aP l)
 have m8:binI .mod (q.c a:Int) 8=some ((q.c a%8:Nat):Int):=mod_lit _ 8 (by decide)
 unfold qD
 cases e1:(!Nat.beq (q.c g) 0&&Nat.beq (q.c g/8) q.s)with
 |true=>
  refine⟨some (.int (g:Int)),bU,bc,λK ev=>?_⟩
  rw[if_pos rfl]
  simp only[Bool.and_eq_true]at e1
  erw[xf,h1.at hg,iV,e1.1,uM,ee,e1.2]
  rw[ev,List.append_nil]
 |false=>
  have p2:∀Y X:R,xI (!Nat.beq (q.c g) 0) (xI (Nat.beq (q.c g/8) q.s) Y X) (xI (!Nat.beq (q.c g) 0) Y X)=X:=λY X=>by
   revert e1
   generalize Nat.beq (q.c g) 0=x;generalize Nat.beq (q.c g/8) q.s=y
   cases x<;>cases y<;>intro e1<;>first|(first|rfl|(erw[ff]<;>rfl))|exact pF e1
  rw[if_neg (by decide)]
  cases e2:Nat.beq (q.c a%8) 1 with
  |false=>
   rw[if_neg (by decide)]
   have hit:=dS (d:=d+1) h.bd h1.cl ha hg own.1 own.2.1 own.2.2
   have eo:(λx=>!Nat.beq (q.c x) 0)=q.oc:=rfl
   rw[eo]at hit
   cases e3:bk q.F q.N (q.c a) a g q.oc with
   |false=>
    rw[e3]at hit
    rw[if_neg (by decide)]
    refine⟨some (.int (g:Int)),bU,bc,λK ev=>?_⟩
    erw[xf,h1.at hg,iV,uM,ee,h1.at ha,m8,c1,e2,hit]
    rw[p2,List.append_nil]
   |true=>
    rw[e3]at hit
    rw[if_pos rfl]
    refine⟨some (.int (g:Int)),bU,bc,λK ev=>?_⟩
    erw[xf,h1.at hg,iV,uM,ee,h1.at ha,m8,c1,e2,hit,ll,qC,bw,f_ _ (show l.length≤100000 by exact Ar.Z1 [.e .x0 (.n 10000)] (.e .x0 (.n 100000)) rfl hl),eS]
    rw[p2,hQ];rfl
  |true=>
   rw[if_pos rfl]
   have pw:=qw (d:=d) h1 ha hg
   have Ks:=h.bd.f8
   have lt1:decide ((g:Int)<(q.F:Int))=Nat.blt g q.F:=by rw[Bool.eq_iff_iff,decide_eq_true_eq,aC];exact Ar.Z2 [] (.B (.L (.c .x0) (.c .x1)) (.l .x0 .x1)) rfl
   have nf:=vG (q:=q) h.bd
   have ge1:decide (((q.N:Nat):Int)-(q.F:Int)≤(g:Int))=Nat.ble (q.N-q.F) g:=by rw[Bool.eq_iff_iff,decide_eq_true_eq,b5];exact Ar.Z4 [.s .x3 .x1 .x0] (.B (.E (.s (.c .x1) (.c .x0)) (.c .x2)) (.e .x3 .x2)) rfl (Ar.ts _ _)
   have lp:ez q a g=0∨ez q a g=1∨ez q a g=3:=by unfold ez;(repeat' split)<;>simp
   cases e3:(Nat.beq (ez q a g) 1&&(Nat.blt g q.F||Nat.ble (q.N-q.F) g))with
   |true=>
    rw[if_pos rfl]
    simp only[Bool.and_eq_true,ae]at e3
    have z0:decide (((ez q a g:Nat):Int)-1=0)=true:=by simp;exact Ar.Z1 [.q .x0 .n1] (.Q (.s (.c .x0) .n1) .n0) rfl e3.1
    have pm:∀j:Nat,((g:Int)+(a:Int)*64)+(j:Int)*4096+16384=((g+a*64+j*4096+16384:Nat):Int):=λj=>by exact Ar.Z3 [] (.Q (.a (.a (.a (.c .x0) (.r (.c .x1) 64)) (.r (.c .x2) 4096)) .jQ) (.c (.a (.a (.a .x0 (.r .x1 64)) (.r .x2 4096)) .jQ))) rfl
    have p0:((g:Int)+(a:Int)*64)+0*4096+16384=((g+a*64+0*4096+16384:Nat):Int):=pm 0
    have p1:((g:Int)+(a:Int)*64)+1*4096+16384=((g+a*64+1*4096+16384:Nat):Int):=pm 1
    have p2':((g:Int)+(a:Int)*64)+2*4096+16384=((g+a*64+2*4096+16384:Nat):Int):=pm 2
    have p3:((g:Int)+(a:Int)*64)+3*4096+16384=((g+a*64+3*4096+16384:Nat):Int):=pm 3
    have sel:∀X Y:R,xI (Nat.blt g q.F) (xI (Nat.blt g q.F) X Y) (xI (Nat.ble (q.N-q.F) g) X Y)=X:=λX Y=>by
     have:=e3.2
     revert this
     cases Nat.blt g q.F<;>cases Nat.ble (q.N-q.F) g<;>intro h<;>first|(first|rfl|(erw[ff]<;>rfl))|exact bY h
    refine⟨some (.int (g:Int)),some (.int ((ez q a g:Nat)-1:Int)),some (.int 3),λK ev=>?_⟩
    have four:∀X:KS,cj (d+2) 11 It [.int 0,.int 1,.int 2,.int 3] (yH q H.length (some (.int (a:Int))) (some (.int (g:Int))) (some (.int ((ez q a g:Nat)-1:Int))) bc) (H++[MO.lst (aP l)]) X=X (.bf,yH q H.length (some (.int (a:Int))) (some (.int (g:Int))) (some (.int ((ez q a g:Nat)-1:Int))) (some (.int 3)),H++[MO.lst (aP (l++(List.range 4).map (λp=>g+a*64+p*4096+16384)))]):=λX=>by
     have r0:aI (aP l).length=true:=by rw[bw];exact f_ _ (by exact Ar.Z1 [.e .x0 (.n 10000)] (.e .x0 (.n 100000)) rfl hl)
     have r1:∀z:List V,z.length≤3→aI (aP l++z).length=true:=λz hz=>by rw[List.length_append,bw];exact f_ _ (by exact Ar.Z2 [.e .x0 (.n 10000),.e .x1 .n3] (.e (.a .x0 .x1) (.n 100000)) rfl hl hz)
     erw[xf,ll,qC,BE,r0,eS,bq,p0,p1,p2',p3,r1 [.int ((g+a*64+0*4096+16384:Nat):Int)] (by simp),List.append_assoc,r1 [.int ((g+a*64+0*4096+16384:Nat):Int),.int ((g+a*64+1*4096+16384:Nat):Int)] (by simp),r1 [.int ((g+a*64+0*4096+16384:Nat):Int),.int ((g+a*64+1*4096+16384:Nat):Int),.int ((g+a*64+2*4096+16384:Nat):Int)] (by simp)]
     simp only[hQ];rfl
    have hx:∀X:R,X=X:=λ_=>rfl
    erw[h1.at hg,iV,uM,ee,h1.at ha,m8,c1,e2,pw,z0,lt1,ge1,NS,qO]
    rw[p2,sel]
    exact(four _).trans rfl
   |false=>
    rw[if_neg (by decide)]
    rcases lp with e4|e4|e4
    ·rw[if_pos (by rw[e4];rfl)]
     have z0:decide (((ez q a g:Nat):Int)-1=0)=false:=by simp;exact Ar.Z1 [.q .x0 .n0] (.N (.Q (.s (.c .x0) .n1) .n0)) rfl e4
     have z1:decide ((0:Int)≤((ez q a g:Nat):Int)-1)=false:=by simp;exact Ar.Z1 [.q .x0 .n0] (.L (.c .x0) .n1) rfl e4
     refine⟨some (.int (g:Int)),some (.int ((ez q a g:Nat)-1:Int)),bc,λK ev=>?_⟩
     erw[h1.at hg,iV,uM,ee,h1.at ha,m8,c1,e2,pw,z0,z1]
     simp only[p2,List.append_nil]
    ·rw[if_neg (by rw[e4];decide)]
     have z0:decide (((ez q a g:Nat):Int)-1=0)=true:=by simp;exact Ar.Z1 [.q .x0 .n1] (.Q (.s (.c .x0) .n1) .n0) rfl e4
     have z1:decide ((0:Int)≤((ez q a g:Nat):Int)-1)=true:=by simp;exact Ar.Z1 [.q .x0 .n1] (.E .n1 (.c .x0)) rfl e4
     rw[e4]at e3
     have e3:(Nat.blt g q.F||Nat.ble (q.N-q.F) g)=false:=e3
     rw[Bool.or_eq_false_iff]at e3
     have nm:((g:Int)+(a:Int)*64)+(((ez q a g:Nat):Int)-1)*16384=((g+a*64+(ez q a g-1)*16384:Nat):Int):=by rw[e4];exact Ar.Z3 [.s .x2 .n1 .n1] (.Q (.a (.a (.c .x0) (.r (.c .x1) 64)) (.r (.s (.c .n1) .n1) 16384)) (.c (.a (.a .x0 (.r .x1 64)) (.r .x2 16384)))) rfl (Ar.ts _ _)
     refine⟨some (.int (g:Int)),some (.int ((ez q a g:Nat)-1:Int)),bc,λK ev=>?_⟩
     erw[h1.at hg,iV,uM,ee,h1.at ha,m8,c1,e2,pw,z0,z1,lt1,ge1,e3.1,e3.2,ll,qC,qB,bw,f_ _ (show l.length≤100000 by exact Ar.Z1 [.e .x0 (.n 10000)] (.e .x0 (.n 100000)) rfl hl),eS,nm]
     simp only[p2,hQ];rfl
    ·rw[if_neg (by rw[e4];decide)]
     have z0:decide (((ez q a g:Nat):Int)-1=0)=false:=by simp;exact Ar.Z1 [.q .x0 .n3] (.N (.Q (.s (.c .x0) .n1) .n0)) rfl e4
     have z1:decide ((0:Int)≤((ez q a g:Nat):Int)-1)=true:=by simp;exact Ar.Z1 [.q .x0 .n3] (.E .n1 (.c .x0)) rfl e4
     have nm:((g:Int)+(a:Int)*64)+(((ez q a g:Nat):Int)-1)*16384=((g+a*64+(ez q a g-1)*16384:Nat):Int):=by rw[e4];exact Ar.Z3 [.s .x2 .n3 .n1] (.Q (.a (.a (.c .x0) (.r (.c .x1) 64)) (.r (.s (.c .n3) .n1) 16384)) (.c (.a (.a .x0 (.r .x1 64)) (.r .x2 16384)))) rfl (Ar.ts _ _)
     refine⟨some (.int (g:Int)),some (.int ((ez q a g:Nat)-1:Int)),bc,λK ev=>?_⟩
     erw[h1.at hg,iV,uM,ee,h1.at ha,m8,c1,e2,pw,z0,z1,ll,qC,qB,bw,f_ _ (show l.length≤100000 by exact Ar.Z1 [.e .x0 (.n 10000)] (.e .x0 (.n 100000)) rfl hl),eS,nm]
     rw[p2,hQ];rfl
end
end
section
open PySem
section
variable {q:St} {H:MH} {d a b e g t k m n z i p u v w:Nat} {o:Nat→Bool}
noncomputable def dm(F N i:Nat):Nat:=i/2*(N-F)+(if Nat.beq (i%2) 0 then F-1 else 0)
theorem F2(a:Nat):binI .bX (a:Int) 2=some ((a/2:Nat):Int):=AV a 2 (by decide) (by decide)
theorem NQ(a:Nat):binI .mod (a:Int) 2=some ((a%2:Nat):Int):=mod_lit a 2 (by decide)
theorem jC{F N:Nat}(h1:3≤F)(h2:F≤N)(hi:i<4):ag PB (d+1) 74 [.int (F:Int),.int (N:Int),.int (i:Int)] H=some (.int (dm F N i:Nat),H):=by
 rw[ax (fn:=LN) rfl rfl]
 have ml:binI .mul ((i/2:Nat):Int) ((N:Int)-(F:Int))=some (((i/2:Nat):Int)*((N:Int)-(F:Int))):=aW (by exact Ar.Z3 [.l .x0 .n4,.d 2 .x1 .x2 .x0] (.C (.L (.g (.n 4611686018427387904)) (.c .x1)) (.L (.c .x1) (.n 4611686018427387904))) rfl hi (Ar.md _ 2 rfl))
 erw[xf,LN,F2,NQ,ml,iV]
 unfold dm
 have e:((i/2:Nat):Int)*((N:Int)-(F:Int))=((i/2*(N-F):Nat):Int):=by
  simp only[Int.natCast_mul,Int.natCast_sub h2]
 cases hb:Nat.beq (i%2) 0 with
 |true=>rw[Bool.not_true,au,if_pos rfl];exact ew (by rw[e];exact Ar.Z3 [.e .n3 .x0,.s .x2 .x0 .n1] (.Q (.a (.c .x1) (.s (.c .x0) .n1)) (.c (.a .x1 .x2))) rfl h1 (Ar.ts _ _)) H
 |false=>rw[Bool.not_false,aA,if_neg (by decide)];exact ew (by rw[e];exact Ar.Z1 [] (.Q (.a (.c .x0) .n0) (.c (.a .x0 .n0))) rfl) H
theorem eL(bd:Bd q.F q.R)(hi:i<4){kf kt rf rt:Nat}(h:bj q.F q.R q.wg i=some (kf,kt,rf,rt)) :
  kf=i/2*(q.N-q.F)+q.F/2∧rf=dm q.F q.N i∧(i%2=0→kt=kf+2∧rt=kf+1∧kt<rf)∧(i%2=1→kt+2=kf∧rt+1=kf∧rf<kt):=by
 have base:(if i/2=1 then(q.R-1)*q.F else 0)=i/2*(q.N-q.F):=by
  have:(q.R-1)*q.F=q.N-q.F:=by
   show _=q.F*q.R-q.F
   rw[Nat.sub_mul,Nat.one_mul,Nat.mul_comm]
  split
  ·rename_i h;simp only[h,this,Nat.one_mul]
  ·have:i/2=0:=by exact Ar.Z3 [.l .x0 .n4,.N (.q .x1 .n1),.d 2 .x1 .x2 .x0] (.q .x1 .n0) rfl hi (by assumption) (Ar.md _ 2 rfl)
   simp only[this,Nat.zero_mul]
 unfold bj at h
 dsimp only at h
 rw[base]at h
 have f3:=bd.f3
 unfold dm
 split at h
 ·exact aM h
 ·rename_i hm
  split at h
  ·simp only[Option.some.injEq,Prod.mk.injEq]at h
   obtain⟨rfl,rfl,rfl,rfl⟩:=h
   rw[hm]
   refine⟨rfl,by show _=_+(q.F-1);exact Ar.Z5 [.q .x0 .x1,.e .n3 .x2,.s .x4 .x2 .n1,.s .x3 (.a .x1 .x2) .n1] (.q .x3 (.a .x1 .x4)) rfl base f3 (Ar.ts _ _) (Ar.ts _ _),λ_=>⟨rfl,rfl,by omega⟩,λh=>by exact Ar.Z5 [.q .n0 .n1,.d 2 .x1 .x3 .x2] (.C (.q (.a (.a (.a .x0 .x1) .n2) .n2) (.a .x0 .x1)) (.C (.q (.a (.a (.a .x0 .x1) .n1) .n1) (.a .x0 .x1)) (.l .x4 (.a (.a .x0 .x1) .n2)))) rfl h (Ar.md _ 2 rfl)⟩
  ·exact aM h
 ·rename_i hm
  have:i%2=1:=by
   have:i%2=0∨i%2=1:=by exact Ar.Z3 [.d 2 .x2 .x0 .x1] (.D (.q .x0 .n0) (.q .x0 .n1)) rfl (Ar.md _ 2 rfl)
   refine Or.elim (this) (λh0=>?_) λh0=>?_
   ·exact absurd h0 hm
   ·exact h0
  split at h
  ·simp only[Option.some.injEq,Prod.mk.injEq]at h
   obtain⟨rfl,rfl,rfl,rfl⟩:=h
   rw[this]
   refine⟨rfl,by show _=_+0;exact Ar.Z1 [] (.q .x0 (.a .x0 .n0)) rfl,λh=>by exact Ar.Z6 [.q .n1 .n0,.d 2 .x2 .x4 .x3] (.C (.q .x0 (.a (.a .x1 .x2) .n2)) (.C (.q .x5 (.a (.a .x1 .x2) .n1)) (.l .x0 .x1))) rfl h (Ar.md _ 2 rfl),λ_=>⟨by exact Ar.Z6 [.q .x0 .x1,.l .n2 .x2,.s .x5 (.a .x1 .x2) .n2,.d 2 .x2 .x4 .x3] (.q (.a .x5 .n2) (.a .x1 .x2)) rfl base (by assumption) (Ar.ts _ _) (Ar.md _ 2 rfl),by exact Ar.Z6 [.q .x0 .x1,.l .n2 .x2,.s .x5 (.a .x1 .x2) .n1,.d 2 .x2 .x4 .x3] (.q (.a .x5 .n1) (.a .x1 .x2)) rfl base (by assumption) (Ar.ts _ _) (Ar.md _ 2 rfl),by exact Ar.Z6 [.q .x0 .x1,.l .n2 .x2,.s .x5 (.a .x1 .x2) .n2,.d 2 .x2 .x4 .x3] (.l .x1 .x5) rfl base (by assumption) (Ar.ts _ _) (Ar.md _ 2 rfl)⟩⟩
  ·exact aM h
noncomputable def kv(q:St):Prop:=∀i,i<4→q.rt i=true→∃b c e,bj q.F q.R q.wg i=some (q.k (i/2),b,c,e)∧q.c c=4+8*(i/2)
noncomputable def bL(q:St)(i:Nat):List Nat:=match bj q.F q.R q.wg i with
 |some (a,b,_,_)=>if u9 q i then[b+a*64+49152]else[]
 |none=>[]
noncomputable def d_(a c:Nat):List Nat:=if a<c then List.range' (a+1) (c-a-1)else(List.range' (c+1) (a-c-1)).reverse
theorem zQ{N:Nat}{p:Nat→Bool}(ha:a<N)(hc:g<N):(d_ a g).any p=aO N λx=>p x&&fV a g x:=by
 rw[Bool.eq_iff_iff,List.any_eq_true,aB]
 have mem:∀x,x∈d_ a g↔fV a g x=true:=λx=>by
  unfold d_ fV
  simp only[Bool.or_eq_true,Bool.and_eq_true,Bool.and_eq_true,aC,aC,aC,aC]
  split
  ·rw[List.mem_range'_1];exact Ar.Z5 [.l .x0 .x1,.s .x3 .x4 .n1,.s .x4 .x1 .x0] (.B (.C (.e (.a .x0 .n1) .x2) (.l .x2 (.a (.a .x0 .n1) .x3))) (.D (.C (.l .x0 .x2) (.l .x2 .x1)) (.C (.l .x1 .x2) (.l .x2 .x0)))) rfl (by assumption) (Ar.ts _ _) (Ar.ts _ _)
  ·rw[List.mem_reverse,List.mem_range'_1];exact Ar.Z5 [.N (.l .x0 .x1),.s .x3 .x4 .n1,.s .x4 .x0 .x1] (.B (.C (.e (.a .x1 .n1) .x2) (.l .x2 (.a (.a .x1 .n1) .x3))) (.D (.C (.l .x0 .x2) (.l .x2 .x1)) (.C (.l .x1 .x2) (.l .x2 .x0)))) rfl (by assumption) (Ar.ts _ _) (Ar.ts _ _)
 constructor
 ·rintro⟨x,h1,h2⟩
  have hi:=(mem x).mp h1
  refine⟨x,?_,by simp only[h2,hi];rfl⟩
  unfold fV at hi
  simp only[Bool.or_eq_true,Bool.and_eq_true,Bool.and_eq_true,aC,aC,aC,aC]at hi
  exact Ar.Z4 [.l .x0 .x1,.l .x2 .x1,.D (.C (.l .x0 .x3) (.l .x3 .x2)) (.C (.l .x2 .x3) (.l .x3 .x0))] (.l .x3 .x1) rfl ha hc hi
 ·rintro⟨x,_,h2⟩
  simp only[Bool.and_eq_true]at h2
  exact⟨x,(mem x).mpr h2.2,h2.1⟩
theorem Fe(a c:Nat)(h:a<c):dc ((a:Int)+1) (c:Int) 1=some (aP (d_ a c)):=by
 show some (aK ((c:Int)-((a:Int)+1)).toNat ((a:Int)+1) 1)=_
 unfold d_
 rw[if_pos h,show((c:Int)-((a:Int)+1)).toNat=c-a-1 by exact Ar.Z5 [.s .x3 .x4 .n1,.s .x4 .x1 .x0,.t .x2 (.s (.c .x1) (.a (.c .x0) .n1))] (.q .x2 .x3) rfl (Ar.ts _ _) (Ar.ts _ _) (Ar.tn _)]
 exact congrArg some (kK (c-a-1) (a+1))
theorem zc:∀(n a:Nat),n≤a+1→aK n (a:Int) (-1)=aP ((List.range' (a+1-n) n).reverse)
 |0,a,_=>rfl
 |n+1,a,h=>by
  simp only[aK]
  have e:(List.range' (a+1-(n+1)) (n+1)).reverse=a::(List.range' (a+1-(n+1)) n).reverse:=by
   simp only[List.range'_concat,List.reverse_append]
   simp;exact Ar.Z3 [.e (.a .x0 .n1) (.a .x1 .n1),.s .x2 .x1 .x0] (.q (.a .x2 .x0) .x1) rfl h (Ar.ts _ _)
  rw[e]
  show V.int (a:Int)::aK n ((a:Int) + -1) (-1)=V.int (a:Int)::aP _
  congr 1
  match n,h with
  |0,_=>rfl
  |n+1,h=>
   simp only[show(a:Int) + -1=((a-1:Nat):Int) by exact Ar.Z3 [.e (.a (.a .x0 .n1) .n1) (.a .x1 .n1),.s .x2 .x1 .n1] (.Q (.a (.c .x1) (.g .n1)) (.c .x2)) rfl h (Ar.ts _ _),zc (n+1) (a-1) (by exact Ar.Z3 [.e (.a (.a .x0 .n1) .n1) (.a .x1 .n1),.s .x2 .x1 .n1] (.e (.a .x0 .n1) (.a .x2 .n1)) rfl h (Ar.ts _ _))]
   congr 3;exact Ar.Z5 [.s .x4 (.a .x2 .n1) (.a (.a .x3 .n1) .n1),.s .x0 (.a .x1 .n1) (.a .x3 .n1),.s .x1 .x2 .n1] (.q .x0 .x4) rfl (Ar.ts _ _) (Ar.ts _ _) (Ar.ts _ _)
theorem zd(a c:Nat)(h:c<a):dc ((a:Int) + -1) (c:Int) (-1)=some (aP (d_ a c)):=by
 show some (aK ((a:Int) + -1-(c:Int)).toNat ((a:Int) + -1) (-1))=_
 unfold d_
 rw[if_neg (by exact Ar.Z2 [.l .x0 .x1] (.N (.l .x1 .x0)) rfl h),show((a:Int) + -1-(c:Int)).toNat=a-c-1 by exact Ar.Z5 [.s .x3 .x4 .n1,.s .x4 .x1 .x0,.t .x2 (.s (.a (.c .x1) (.g .n1)) (.c .x0))] (.q .x2 .x3) rfl (Ar.ts _ _) (Ar.ts _ _) (Ar.tn _),show(a:Int) + -1=((a-1:Nat):Int) by exact Ar.Z3 [.l .x0 .x1,.s .x2 .x1 .n1] (.Q (.a (.c .x1) (.g .n1)) (.c .x2)) rfl h (Ar.ts _ _),zc _ _ (by exact Ar.Z5 [.s .x4 .x1 .n1,.s .x2 .x3 .n1,.s .x3 .x1 .x0] (.e .x2 (.a .x4 .n1)) rfl (Ar.ts _ _) (Ar.ts _ _) (Ar.ts _ _))]
 congr 3;congr 1;exact Ar.Z6 [.l .x0 .x1,.s .x2 (.a .x3 .n1) .x4,.s .x4 .x5 .n1,.s .x5 .x1 .x0,.s .x3 .x1 .n1] (.q .x2 (.a .x0 .n1)) rfl h (Ar.ts _ _) (Ar.ts _ _) (Ar.ts _ _) (Ar.ts _ _)
theorem PC(x y z:Int)(h1:bI x=true)(h2:bI y=true)(hz:z=1∨z = -1):eA [.int x,.int y,.int z]=some (.bQ x y z):=by
 show(if(bI x&&bI y&&(decide (z=1)||(decide (z=2)||decide (z = -1))))=true then some (V.bQ x y z)else none)=_
 rw[h1,h2]
 rcases hz with rfl|rfl<;>rfl
noncomputable abbrev O4:List S:=[.set 8 (.b .sub (.c (.int 1)) (.b .mul (.c (.int 2)) (.l 7))),.set 9 (.call 74 [.l 0,.l 4,.b .add (.b .mul (.c (.int 2)) (.l 2)) (.l 7)]),.set 10 (.range [.b .add (.l 5) (.l 8),.l 9,.l 8]),.ite (.and (.b .band (.b .shr (.l 3) (.b .add (.b .mul (.c (.int 2)) (.l 2)) (.l 7))) (.c (.int 1))) (.cmp .eq (.comp (.l 11) 11 (.l 10) [.sub (.l 1) (.l 11)]) (.lst []))) [.ite (.cmp .eq (.comp (.l 11) 11 (.tup [.l 5,.b .add (.l 5) (.l 8),.b .add (.l 5) (.b .mul (.c (.int 2)) (.l 8))]) [.call 70 [.l 0,.l 1,.l 11,.l 1,.b .sub (.c (.int 1)) (.l 2)]]) (.lst [])) [.exp (.app (.l 6) (.b .add (.b .add (.b .add (.l 5) (.b .mul (.c (.int 2)) (.l 8))) (.b .mul (.l 5) (.c (.int 64)))) (.b .mul (.c (.int 3)) (.c (.int 16384)))))] []] []]
noncomputable abbrev NA(q:St)(hm n:Nat)(x7 x8 x9 bU bc:Option V):Loc:=[some (.int (q.F:Int)),some (.ref 5),some (.int (q.s:Int)),some (.int (bm 4 q.rt)),some (.int (q.N:Nat)),some (.int (hm:Int)),some (.ref n),x7,x8,x9,bU,bc]
theorem vu(x:Nat)(h:x≤1000):bI (x:Int)=true:=by unfold bI;simp;exact Ar.Z1 [.e .x0 .aG] (.E (.c .x0) .av) rfl h
theorem t7(l:List Nat)(p:Nat→Bool):(aP l).filter (pV p)=aP (l.filter p):=by
 have:=iF l p (pV p) (λx=>rfl)
 rwa [List.map_id]at this
theorem filter_empty(l:List Nat)(p:Nat→Bool):(l.filter p).isEmpty=!l.any p:=by
 rw[Bool.eq_iff_iff,List.isEmpty_iff,List.filter_eq_nil_iff,Bool.not_eq_true',← Bool.not_eq_true,List.any_eq_true]
 constructor
 ·rintro h ⟨x,h1,h2⟩;exact h x h1 h2
 ·intro h x h1 h2;exact h ⟨x,h1,h2⟩
theorem oR{kf kt rf rt:Nat}(h:bj q.F q.R q.wg i=some (kf,kt,rf,rt)):u9 q i=fJ q i kf kt rf rt:=by unfold u9;rw[h]
theorem wo(h:LP q H)(cd:Code q.N q.c)(ro:kv q)(hw:w<2){hm:Nat}(hhm:hm=q.s*(q.N-q.F)+q.F/2)(acc:List Nat)(G:MH)(hacc:acc.length≤10)(x7 x8 x9 bU bc:Option V) :
  ∃y7 y8 y9 y10 y11 G',∀K:KS,xB (d+3) O4 (aX (NA q hm H.length x7 x8 x9 bU bc) 7 (.int (w:Int))) (H++MO.lst (aP acc)::G) K=K (.bf,NA q hm H.length y7 y8 y9 y10 y11,H++MO.lst (aP (acc++bL q (2*q.s+w)))::(G++G')):=by
 have hN:=h.bd.aQ
 have hs:=h.s2
 have f3:=h.bd.f3
 have nf:=vG (q:=q) h.bd
 have hN':q.N≤25:=hN
 have hi:2*q.s+w<4:=by exact Ar.Z2 [.l .x0 .n2,.l .x1 .n2] (.l (.a (.m 2 .x1) .x0) .n4) rfl hw hs
 have i2:(2*q.s+w)/2=q.s:=by exact Ar.Z4 [.l .x0 .n2,.d 2 .x1 .x3 (.a (.m 2 .x2) .x0)] (.q .x1 .x2) rfl hw (Ar.md _ 2 rfl)
 have im:(2*q.s+w)%2=w:=by exact Ar.Z4 [.q .x0 .x1,.d 2 .x0 .x3 (.a (.m 2 .x1) .x2)] (.q .x3 .x2) rfl i2 (Ar.md _ 2 rfl)
 have sNF:q.s*(q.N-q.F)≤25:=by
  rcases h.uj with s|s<;>rw[s]<;>first|exact Ar.Z3 [.s .x0 .x1 .x2] (.e (.m 0 .x0) .aQ) rfl (Ar.ts _ _)|exact Ar.Z3 [.e .x1 .aQ,.s .x2 .x1 .x0] (.e (.m 1 .x2) .aQ) rfl hN' (Ar.ts _ _)
 have hco:dm q.F q.N (2*q.s+w)≤60:=by unfold dm;rw[i2];split<;>first|exact Ar.Z4 [.e .x0 .x1,.e .x1 .aQ,.e .x2 .aQ,.s .x3 .x0 .n1] (.e (.a .x2 .x3) (.n 60)) rfl nf hN' sNF (Ar.ts _ _)|exact Ar.Z1 [.e .x0 .aQ] (.e (.a .x0 .n0) (.n 60)) rfl sNF
 have hb:=h.app (MO.lst (aP acc)::G)
 have co:=jC (d:=d+2) (F:=q.F) (N:=q.N) (H:=H++MO.lst (aP acc)::G) f3 nf hi
 have ix:(2:Int)*(q.s:Int)+(w:Int)=((2*q.s+w:Nat):Int):=by exact Ar.Z2 [] (.Q (.a (.m 2 (.c .x0)) (.c .x1)) (.c (.a (.m 2 .x0) .x1))) rfl
 obtain⟨t,ht⟩:∃t:Int,t=1-2*(w:Int):=⟨_,rfl⟩
 have ht1:t=1∨t = -1:=by exact Ar.h_ [.l .x0 .n2,.Q .y0 (.s .n1 (.m 2 (.c .x0)))] (.D (.Q .y0 .n1) (.Q .y0 (.g .n1))) rfl hw ht
 have sm1:bI ((hm:Int)+t)=true:=by unfold bI;simp;exact Ar.Ky [.l .x0 .n2,.q .x1 (.a .x2 .x3),.e .x6 .aQ,.e .x4 .x6,.e .x2 .aQ,.Q .y0 (.s .n1 (.m 2 (.c .x0))),.d 2 .x3 .x5 .x4] (.C (.E (.g .av) (.a (.c .x1) .y0)) (.E (.a (.c .x1) .y0) .av)) rfl hw hhm hN nf sNF ht (Ar.md _ 2 rfl)
 have mr:=PC _ _ t sm1 (vu _ (by exact Ar.Z1 [.e .x0 (.n 60)] (.e .x0 .aG) rfl hco:dm q.F q.N (2*q.s+w)≤1000)) ht1
 have b4:decide (2*q.s+w<4)=true:=by simp;exact Ar.Z2 [.l (.a (.m 2 .x0) .x1) .n4] (.l (.a (.m 2 .x0) .x1) .n4) rfl hi
 cases hr:q.rt (2*q.s+w)with
 |false=>
  have z:bL q (2*q.s+w)=[]:=by
   unfold bL
   split
   ·rename_i a b c e hc
    rw[oR hc];unfold fJ;rw[hr];rfl
   ·rfl
  rw[z,List.append_nil]
  refine⟨some (.int (w:Int)),some (.int t),some (.int (dm q.F q.N (2*q.s+w):Nat)),some (.bQ ((hm:Int)+t) (dm q.F q.N (2*q.s+w):Nat) t),bc,[],λK=>?_⟩
  erw[oL,← ht,ix,co,mr,jA,b4,hr]
  simp only[List.append_nil];(first|rfl|(erw[ff]<;>rfl))
 |true=>
  refine zU (ro _ hi hr) λb c e hc _=>?_
  rw[i2]at hc
  refine ic (eL h.bd hi hc) λn1 n2 n3 n4=>?_
  rw[i2]at n1
  rw[im]at n3 n4
  have kN:q.k q.s<q.N∧b<q.N∧c<q.N∧e<q.N:=by
   have hc1:dm q.F q.N (2*q.s+w)<q.N:=by
    unfold dm;rw[i2]
    rcases h.uj with s|s<;>rw[s]<;>split<;>first|exact Ar.Z4 [.e .n3 .x0,.e .x0 .x1,.s .x3 .x0 .n1] (.l (.a (.m 0 .x2) .x3) .x1) rfl f3 nf (Ar.ts _ _)|exact Ar.Z3 [.e .n3 .x0,.e .x0 .x1] (.l (.a (.m 0 .x2) .n0) .x1) rfl f3 nf|exact Ar.Z4 [.e .n3 .x0,.e .x0 .x1,.s .x3 .x0 .n1,.s .x2 .x1 .x0] (.l (.a (.m 1 .x2) .x3) .x1) rfl f3 nf (Ar.ts _ _) (Ar.ts _ _)|exact Ar.Z3 [.e .n3 .x0,.e .x0 .x1,.s .x2 .x1 .x0] (.l (.a (.m 1 .x2) .n0) .x1) rfl f3 nf (Ar.ts _ _)
   have hk1:q.s*(q.N-q.F)+q.F/2<q.N:=by
    rcases h.uj with s|s<;>rw[s]<;>first|exact Ar.Z5 [.e .n3 .x0,.e .x0 .x1,.d 2 .x3 .x4 .x0] (.l (.a (.m 0 .x2) .x3) .x1) rfl f3 nf (Ar.md _ 2 rfl)|exact Ar.Z5 [.e .n3 .x0,.e .x0 .x1,.d 2 .x3 .x4 .x0,.s .x2 .x1 .x0] (.l (.a (.m 1 .x2) .x3) .x1) rfl f3 nf (Ar.md _ 2 rfl) (Ar.ts _ _)
   have:w=0∨w=1:=by exact Ar.Z1 [.l .x0 .n2] (.D (.q .x0 .n0) (.q .x0 .n1)) rfl hw
   rcases this with rfl|rfl
   ·have:=n3 rfl;exact Ar.Kw [.l (.a .x1 .x2) .x5,.q .x6 .x7,.l .x7 .x5,.C (.q .x8 (.a .x0 .n2)) (.C (.q .x9 (.a .x0 .n1)) (.l .x8 .x6)),.d 2 .x2 .x4 .x3] (.C (.l .x0 .x5) (.C (.l .x8 .x5) (.C (.l .x6 .x5) (.l .x9 .x5)))) rfl hk1 n2 hc1 this (Ar.md _ 2 rfl)
   ·have:=n4 rfl;exact Ar.Kw [.q .x0 (.a .x1 .x2),.l (.a .x1 .x2) .x5,.l .x7 .x5,.C (.q (.a .x8 .n2) .x0) (.C (.q (.a .x9 .n1) .x0) (.l .x6 .x8)),.d 2 .x2 .x4 .x3] (.C (.l .x0 .x5) (.C (.l .x8 .x5) (.C (.l .x6 .x5) (.l .x9 .x5)))) rfl n1 hk1 hc1 this (Ar.md _ 2 rfl)
  have e1:((q.k q.s:Nat):Int)+t=(e:Int):=by
   have:w=0∨w=1:=by exact Ar.Z1 [.l .x0 .n2] (.D (.q .x0 .n0) (.q .x0 .n1)) rfl hw
   rcases this with rfl|rfl
   ·have:=n3 rfl;exact Ar.q0 [.Q .y0 (.s .n1 (.m 2 (.c .n0))),.C (.q .x0 (.a .x1 .n2)) (.C (.q .x2 (.a .x1 .n1)) (.l .x0 .x3))] (.Q (.a (.c .x1) .y0) (.c .x2)) rfl ht this
   ·have:=n4 rfl;exact Ar.q0 [.Q .y0 (.s .n1 (.m 2 (.c .n1))),.C (.q (.a .x0 .n2) .x1) (.C (.q (.a .x2 .n1) .x1) (.l .x3 .x0))] (.Q (.a (.c .x1) .y0) (.c .x2)) rfl ht this
  have e2:((q.k q.s:Nat):Int)+2*t=(b:Int):=by
   have:w=0∨w=1:=by exact Ar.Z1 [.l .x0 .n2] (.D (.q .x0 .n0) (.q .x0 .n1)) rfl hw
   rcases this with rfl|rfl
   ·have:=n3 rfl;exact Ar.q0 [.Q .y0 (.s .n1 (.m 2 (.c .n0))),.C (.q .x2 (.a .x0 .n2)) (.C (.q .x1 (.a .x0 .n1)) (.l .x2 .x3))] (.Q (.a (.c .x0) (.m 2 .y0)) (.c .x2)) rfl ht this
   ·have:=n4 rfl;exact Ar.q0 [.Q .y0 (.s .n1 (.m 2 (.c .n1))),.C (.q (.a .x2 .n2) .x0) (.C (.q (.a .x1 .n1) .x0) (.l .x3 .x2))] (.Q (.a (.c .x0) (.m 2 .y0)) (.c .x2)) rfl ht this
  have rg:dc (e:Int) (c:Int) t=some (aP (d_ (q.k q.s) c)):=by
   rw[← e1]
   have:w=0∨w=1:=by exact Ar.Z1 [.l .x0 .n2] (.D (.q .x0 .n0) (.q .x0 .n1)) rfl hw
   rcases this with rfl|rfl
   ·have:=n3 rfl
    rw[show t=1 by exact Ar.eI [.Q .y0 (.s .n1 (.m 2 (.c .n0)))] (.Q .y0 .n1) rfl ht];exact Fe _ _ (by exact Ar.GF [.Q .y0 (.s .n1 (.m 2 (.c .n0))),.q .x3 .x4,.C (.q .x2 (.a .x0 .n2)) (.C (.q .x1 (.a .x0 .n1)) (.l .x2 .x3))] (.l .x0 .x3) rfl ht n2 this)
   ·have:=n4 rfl
    rw[show t = -1 by exact Ar.eI [.Q .y0 (.s .n1 (.m 2 (.c .n1)))] (.Q .y0 (.g .n1)) rfl ht];exact zd _ _ (by exact Ar.GF [.Q .y0 (.s .n1 (.m 2 (.c .n1))),.q .x3 .x4,.C (.q (.a .x2 .n2) .x0) (.C (.q (.a .x1 .n1) .x0) (.l .x3 .x2))] (.l .x3 .x0) rfl ht n2 this)
  have wl:(d_ (q.k q.s) c).length≤1000:=by
   unfold d_;split
   ·rw[List.length_range'];exact Ar.Zx 1 12 [] [_] [_,_,_,_,_,_,_,_,_,_,_,_] [.e .x1 .aQ,.Q .y0 (.s .n1 (.m 2 (.c .x3))),.q .x4 (.a .x2 .x5),.C (.l .x4 .x1) (.C (.l .x7 .x1) (.C (.l .x8 .x1) (.l .x9 .x1))),.s .bU .bc .n1,.s .bc .x8 .x4,.d 2 .x5 .x6 .x0] (.e .bU .aG) rfl rfl hN' ht n1 kN (Ar.ts _ _) (Ar.ts _ _) (Ar.md _ 2 rfl)
   ·rw[List.length_reverse,List.length_range'];exact Ar.Zx 1 13 [] [_] [_,_,_,_,_,_,_,_,_,_,_,_,_] [.e .x1 .aQ,.Q .y0 (.s .n1 (.m 2 (.c .x4))),.q .x5 (.a .x2 .x6),.q .x8 .x3,.C (.l .x5 .x1) (.C (.l .x9 .x1) (.C (.l .x8 .x1) (.l .bU .x1))),.s .bc .ed .n1,.s .ed .x5 .x8,.d 2 .x6 .x7 .x0] (.e .bc .aG) rfl rfl hN' ht n1 n2 kN (Ar.ts _ _) (Ar.ts _ _) (Ar.md _ 2 rfl)
  have LX:hm=q.k q.s:=hhm.trans n1.symm
  subst LX
  rw[← n2]at mr co
  rw[e1]at mr
  obtain⟨G1,c1'⟩:=eO (d:=d+3) (elt:=.l 11) (k:=11) (cs:=[.sub (.l 1) (.l 11)])
   (ρ:=[some (.int (q.F:Int)),some (.ref 5),some (.int (q.s:Int)),some (.int (bm 4 q.rt)),some (.int (q.N:Nat)),some (.int (q.k q.s:Nat)),some (.ref H.length),some (.int (w:Int)),some (.int t),some (.int (c:Int)),some (.bQ ((e:Int)) (c:Int) t),bc])
   (H:=H++MO.lst (aP acc)::G) (pV q.oc) id (aP (d_ (q.k q.s) c)) (.bQ ((e:Int)) (c:Int) t) (iX _ _ rg) (by rw[bw];exact wl)
   (λv hv ac G'=>by
    refine⟨[],λK=>?_⟩
    refine ay (eF hv) λx hx rf2_=>?_;subst rf2_
    have hxN:x<q.N:=by
     unfold d_ at hx
     split at hx
     ·rw[List.mem_range'_1]at hx;exact Ar.Zx 1 9 [] [_] [_,_,_,_,_,_,_,_,_] [.Q .y0 (.s .n1 (.m 2 (.c .x0))),.C (.l .x1 .x2) (.C (.l .x3 .x2) (.C (.l .x4 .x2) (.l .x5 .x2))),.C (.e (.a .x1 .n1) .x6) (.l .x6 (.a (.a .x1 .n1) .x7)),.s .x7 .x8 .n1,.s .x8 .x4 .x1] (.l .x6 .x2) rfl rfl ht kN hx (Ar.ts _ _) (Ar.ts _ _)
     ·rw[List.mem_reverse,List.mem_range'_1]at hx;exact Ar.Zx 1 9 [] [_] [_,_,_,_,_,_,_,_,_] [.Q .y0 (.s .n1 (.m 2 (.c .x0))),.C (.l .x1 .x2) (.C (.l .x3 .x2) (.C (.l .x4 .x2) (.l .x5 .x2))),.C (.e (.a .x4 .n1) .x6) (.l .x6 (.a (.a .x4 .n1) .x7)),.s .x7 .x8 .n1,.s .x8 .x1 .x4] (.l .x6 .x2) rfl rfl ht kN hx (Ar.ts _ _) (Ar.ts _ _)
    have h1:=(hb.app (MO.lst ac::G')).at hxN
    simp only[List.append_nil]
    erw[cf,h1,iV]
    show _=K (q.oc x,_)
    unfold St.oc
    cases Nat.beq (q.c x) 0<;>(first|rfl|(erw[ff]<;>rfl)))
   (λv hv hp ac G' K=>by erw[cf,];rfl)
  rw[List.map_id,t7]at c1'
  have hlen1:aj (H++MO.lst (aP acc)::G++MO.lst (aP ((d_ (q.k q.s) c).filter q.oc))::G1++[MO.lst []]) (H++MO.lst (aP acc)::G).length=some (aP ((d_ (q.k q.s) c).filter q.oc)):=by
   rw[List.append_assoc,List.cons_append];exact cw _ _ _
  have en1:=eq_nil hlen1 (bq (H++MO.lst (aP acc)::G++MO.lst (aP ((d_ (q.k q.s) c).filter q.oc))::G1) [])
  rw[filter_empty,zQ kN.1 kN.2.2.1]at en1
  have wk:=oR hc
  unfold fJ at wk
  rw[hr,Bool.true_and,i2]at wk
  cases a1:aO q.N (λx=>q.oc x&&fV (q.k q.s) c x)with
  |true=>
   rw[a1]at en1 wk
   have z:bL q (2*q.s+w)=[]:=by unfold bL;rw[hc];dsimp only;rw[wk];rfl
   rw[z,List.append_nil]
   refine⟨some (.int (w:Int)),some (.int t),some (.int (c:Int)),some (.bQ ((e:Int)) (c:Int) t),bc,MO.lst (aP ((d_ (q.k q.s) c).filter q.oc))::G1++[MO.lst []],λK=>?_⟩
   erw[oL,← ht,ix,co,e1,mr,jA,b4,hr,zW,c1',en1]
   simp only[List.append_assoc,List.cons_append];(first|rfl|(erw[ff]<;>rfl))
  |false=>
   rw[a1]at en1 wk
   rw[Bool.not_false]at en1
   have hb2:=((hb.app (MO.lst (aP ((d_ (q.k q.s) c).filter q.oc))::G1)).app [MO.lst []])
   obtain⟨G2,c2'⟩:=eO (d:=d+3) (elt:=.l 11) (k:=11) (cs:=[.call 70 [.l 0,.l 1,.l 11,.l 1,.b .sub (.c (.int 1)) (.l 2)]])
    (ρ:=[some (.int (q.F:Int)),some (.ref 5),some (.int (q.s:Int)),some (.int (bm 4 q.rt)),some (.int (q.N:Nat)),some (.int (q.k q.s:Nat)),some (.ref H.length),some (.int (w:Int)),some (.int t),some (.int (c:Int)),some (.bQ ((e:Int)) (c:Int) t),bc])
    (H:=H++MO.lst (aP acc)::G++MO.lst (aP ((d_ (q.k q.s) c).filter q.oc))::G1++[MO.lst []]) (pV (bp q (1-q.s))) id (aP [q.k q.s,e,b]) (.tup [.int (q.k q.s:Nat),.int (e:Int),.int (b:Int)]) (wx _ _ _) (by simp[bw])
    (λv hv ac G'=>by
     refine ay (eF hv) λx hx rf2_=>?_;subst rf2_
     have hxN:x<q.N:=by
      simp only[List.mem_cons,List.not_mem_nil,or_false]at hx
      rcases hx with rfl|rfl|rfl<;>first|exact Ar.Kx [.Q .y0 (.s .n1 (.m 2 (.c .x0))),.C (.l .x1 .x2) (.C (.l .x3 .x2) (.C (.l .x4 .x2) (.l .x5 .x2)))] (.l .x1 .x2) rfl ht kN|exact Ar.Z5 [.C (.l .x0 .x1) (.C (.l .x2 .x1) (.C (.l .x3 .x1) (.l .x4 .x1)))] (.l .x4 .x1) rfl kN|exact Ar.Z5 [.C (.l .x0 .x1) (.C (.l .x2 .x1) (.C (.l .x3 .x1) (.l .x4 .x1)))] (.l .x2 .x1) rfl kN
     have h3:=(hb2.app (MO.lst ac::G')).cl
     refine bJ (fS (d:=d+1) (t:=1-q.s) h.bd h3 h3 cd hxN (by exact Ar.Z5 [.q .x1 .x0,.s .x4 .n1 .x0,.d 2 .x1 .x3 (.a (.m 2 .x0) .x2)] (.l .x4 .n2) rfl i2 (Ar.ts _ _) (Ar.md _ 2 rfl))) λG3 hk=>?_
     have tr:=nQ (cw (H++MO.lst (aP acc)::G++MO.lst (aP ((d_ (q.k q.s) c).filter q.oc))::G1++[MO.lst []]++MO.lst ac::G') G3 (aP (cz q.N (bD q.F q.N (1-q.s) x q.c q.c)))) (by rw[bw];have:=hV q.N (bD q.F q.N (1-q.s) x q.c q.c);exact Ar.Z2 [.e .x0 .aQ,.e .x1 .x0] (.e .x1 .aG) rfl hN this)
     rw[nM,Bool.not_not]at tr
     refine⟨MO.lst (aP (cz q.N (bD q.F q.N (1-q.s) x q.c q.c)))::G3,λK=>?_⟩
     erw[cf,Ff hs,hk,tr]
     show _=K (bp q (1-q.s) x,_)
     have he:bp q (1-q.s) x=aO q.N (bD q.F q.N (1-q.s) x q.c q.c):=rfl
     rw[he]
     cases aO q.N (bD q.F q.N (1-q.s) x q.c q.c)<;>simp only[aA,au,List.append_assoc,List.cons_append])
    (λv hv hp ac G' K=>by erw[cf,];rfl)
   rw[List.map_id,t7]at c2'
   have hlen2:aj (H++MO.lst (aP acc)::G++MO.lst (aP ((d_ (q.k q.s) c).filter q.oc))::G1++[MO.lst []]++MO.lst (aP ([q.k q.s,e,b].filter (bp q (1-q.s))))::G2++[MO.lst []]) (H++MO.lst (aP acc)::G++MO.lst (aP ((d_ (q.k q.s) c).filter q.oc))::G1++[MO.lst []]).length=some (aP ([q.k q.s,e,b].filter (bp q (1-q.s)))):=by
    rw[List.append_assoc (as:=H++MO.lst (aP acc)::G++MO.lst (aP ((d_ (q.k q.s) c).filter q.oc))::G1++[MO.lst []]),List.cons_append];exact cw _ _ _
   have en2:=eq_nil hlen2 (bq _ [])
   rw[filter_empty]at en2
   have wk2:u9 q (2*q.s+w)=!([q.k q.s,e,b].any (bp q (1-q.s))):=by
    rw[wk]
    show(!false&&_)=!(bp q (1-q.s) (q.k q.s)||(bp q (1-q.s) e||(bp q (1-q.s) b||false)))
    generalize bp q (1-q.s) (q.k q.s)=x;generalize bp q (1-q.s) e=y;generalize bp q (1-q.s) b=z
    revert x y z;decide
   rw[← wk2]at en2
   have z:bL q (2*q.s+w)=if u9 q (2*q.s+w)then[b+q.k q.s*64+49152]else[]:=by unfold bL;simp only[hc]
   have m3:binI .mul 3 16384=some 49152:=rfl
   have nm:(b:Int)+((q.k q.s:Nat):Int)*64+49152=((b+q.k q.s*64+49152:Nat):Int):=by exact Ar.Z2 [] (.Q (.a (.a (.c .x0) (.r (.c .x1) 64)) (.n 49152)) (.c (.a (.a .x0 (.r .x1 64)) (.n 49152)))) rfl
   have lm:aj (H++MO.lst (aP acc)::G++MO.lst (aP ((d_ (q.k q.s) c).filter q.oc))::G1++[MO.lst []]++MO.lst (aP ([q.k q.s,e,b].filter (bp q (1-q.s))))::G2++[MO.lst []]) H.length=some (aP acc):=by
    simp only[List.append_assoc,List.cons_append];exact cw _ _ _
   have sm:∀l:List V,(H++MO.lst (aP acc)::G++MO.lst (aP ((d_ (q.k q.s) c).filter q.oc))::G1++[MO.lst []]++MO.lst (aP ([q.k q.s,e,b].filter (bp q (1-q.s))))::G2++[MO.lst []]).set H.length (MO.lst l)=H++MO.lst l::(G++(MO.lst (aP ((d_ (q.k q.s) c).filter q.oc))::G1++[MO.lst []]++MO.lst (aP ([q.k q.s,e,b].filter (bp q (1-q.s))))::G2++[MO.lst []])):=λl=>by
    simp only[List.append_assoc,List.cons_append];exact oY _ _ _ _
   refine⟨some (.int (w:Int)),some (.int t),some (.int (c:Int)),some (.bQ ((e:Int)) (c:Int) t),bc,MO.lst (aP ((d_ (q.k q.s) c).filter q.oc))::G1++[MO.lst []]++MO.lst (aP ([q.k q.s,e,b].filter (bp q (1-q.s))))::G2++[MO.lst []],λK=>?_⟩
   rw[z]
   erw[oL,← ht,ix,co,mr,jA,b4,hr,zW,c1',en1,e1,e2,c2',en2,lm,bw,bF _ (show acc.length≤1000 by exact Ar.Z1 [.e .x0 .oM] (.e .x0 .aG) rfl hacc),qC,m3,nm,sm]
   cases u9 q (2*q.s+w)with
   |true=>rw[if_pos rfl,hQ];(first|rfl|(erw[ff]<;>rfl))
   |false=>rw[if_neg (by decide),List.append_nil];simp only[List.append_assoc,List.cons_append];(first|rfl|(erw[ff]<;>rfl))
end
end
section
open PySem
section
variable {q:St} {H:MH} {d a b e g t k m n z i p u v w:Nat} {o:Nat→Bool}
theorem jB(q:St)(i:Nat):(bL q i).length≤1:=by
                                  unfold bL;split;· split<;>simp
                                  ·simp
theorem rC(h:LP q H)(cd:Code q.N q.c)(ro:kv q):∃G,ag PB (d+4) 80 [.int (q.F:Int),.ref 5,.int (q.s:Int),.int (bm 4 q.rt)] H=some (.ref H.length,H++MO.lst (aP (bL q (2*q.s)++bL q (2*q.s+1)))::G):=by
 have hN:=h.bd.aQ
 have hs:=h.s2
 have nf:=vG (q:=q) h.bd
 have hl:aj H 5=_:=h.cl
 have hm:(q.s:Int)*((q.N:Nat)-(q.F:Int))+((q.F/2:Nat):Int)=((q.s*(q.N-q.F)+q.F/2:Nat):Int):=by
  simp only[Int.natCast_add,Int.natCast_mul q.s (q.N-q.F),Int.natCast_sub nf]
 have ml:binI .mul (q.s:Int) ((q.N:Nat)-(q.F:Int))=some ((q.s:Int)*((q.N:Nat)-(q.F:Int))):=aW (by exact Ar.Z1 [.l .x0 .n2] (.C (.L (.g (.n 4611686018427387904)) (.c .x0)) (.L (.c .x0) (.n 4611686018427387904))) rfl hs)
 obtain⟨y7,y8,y9,y10,y11,G1,e1⟩:=wo (d:=d) (w:=0) h cd ro (by decide) rfl [] [] (by simp) none none none none none
 have l1:=jB q (2*q.s+0)
 obtain⟨z7,z8,z9,z10,z11,G2,e2⟩:=wo (d:=d) (w:=1) h cd ro (by decide) rfl ([]++bL q (2*q.s+0)) ([]++G1) (by simp only[List.nil_append];exact Ar.Z1 [.e .x0 .n1] (.e .x0 .oM) rfl l1) y7 y8 y9 y10 y11
 refine⟨[]++G1++G2,?_⟩
 rw[ax (fn:=LQ) rfl rfl]
 erw[LQ,hl,len_tab,bF q.N (show q.F*q.R≤1000 by exact Ar.Z1 [.e .x0 .aQ] (.e .x0 .aG) rfl hN),ml,F2,hm]
 simp only[eH]
 refine(e1 _).trans ?_
 simp only[fA,eH]
 refine(e2 _).trans ?_
 simp only[fA,zV]
 rfl
noncomputable def d9(q:St):List Nat:=(List.range q.N).flatMap (iK q)++(bL q (2*q.s)++bL q (2*q.s+1))
theorem qE(bd:Bd q.F q.R)(j:Nat)(hj:j≤25):((List.range j).flatMap (iK q)).length≤2500:=by
 have:=i6 (iK q) 100 (BF bd) j
 exact Ar.Z2 [.e .x0 .aQ,.e .x1 (.m 100 .x0)] (.e .x1 (.n 2500)) rfl hj this
theorem yF(h:LP q H)(cd:Code q.N q.c)(ro:kv q):∃n K,ag PB (d+5) 81 [.int (q.F:Int),.ref 5,.int (q.s:Int),.int (bm 4 q.rt),.int q.ep,.int (gq q.dbl)] H=some (.ref n,H++K)∧aj (H++K) n=some (aP (d9 q)):=by
 have hN:=h.bd.aQ
 have hN':q.N≤25:=hN
 have hl:aj H 5=_:=h.cl
 have outer:=i8 (d:=d+4) (k:=8) (b:=Mr) (λj ρ H1=>(∃x8 x9 bU bc,ρ=yH q H.length x8 x9 bU bc)∧H1=H++[MO.lst (aP ((List.range j).flatMap (iK q)))]) q.N
  (λa ha ρ H1 hp=>by
   obtain⟨⟨x8,x9,bU,bc,rfl⟩,rfl⟩:=hp
   have h1:=h.app [MO.lst (aP ((List.range a).flatMap (iK q)))]
   have len:=qE h.bd a (by exact Ar.Z2 [.e .x0 .aQ,.l .x1 .x0] (.e .x1 .aQ) rfl hN' ha)
   have fs:=jH (iK q) a
   rcases cd a ha with h0|⟨k1,k6,k2⟩
   ·have e0:Nat.beq (q.c a) 0=true:=by rw[h0];rfl
    have z:iK q a=[]:=by unfold iK;rw[e0];rfl
    refine⟨yH q H.length (some (.int (a:Int))) x9 bU bc,_,⟨⟨_,_,_,_,rfl⟩,rfl⟩,λK ev=>?_⟩
    simp only[fs,z,List.append_nil]
    erw[h1.at ha,c0,e0]
    exact ev _ _
   ·have e0:Nat.beq (q.c a) 0=false:=by simp only[aq];rintro hq;rw[hq]at k1;simp at k1
    cases e1:Nat.beq (q.c a/8) q.s with
    |false=>
     have z:iK q a=[]:=by unfold iK;rw[e0,e1];rfl
     refine⟨yH q H.length (some (.int (a:Int))) x9 bU bc,_,⟨⟨_,_,_,_,rfl⟩,rfl⟩,λK ev=>?_⟩
     simp only[fs,z,List.append_nil]
     erw[h1.at ha,c0,e0,uM,ee,e1,Bool.not_false]
     exact ev _ _
    |true=>
     have z:iK q a=(List.range q.N).flatMap (qD q a):=by unfold iK;rw[e0,e1];rfl
     have inner:=i8 (d:=d+4) (k:=9) (b:=EO) (λj ρ H1=>(∃x9 bU bc,ρ=yH q H.length (some (.int (a:Int))) x9 bU bc)∧H1=H++[MO.lst (aP ((List.range a).flatMap (iK q)++(List.range j).flatMap (qD q a)))]) q.N
      (λg hg ρ H1 hp=>by
       obtain⟨⟨x9,bU,bc,rfl⟩,rfl⟩:=hp
       have lg:=i6 (qD q a) 4 (tW q a) g
       refine zT (EP (d:=d+2) h cd ha hg ⟨k1,k6,k2⟩ x9 bU bc ((List.range a).flatMap (iK q)++(List.range g).flatMap (qD q a)) (by rw[List.length_append];exact Ar.Z4 [.e .x0 .aQ,.e .x1 (.n 2500),.l .x2 .x0,.e .x3 (.m 4 .x2)] (.e (.a .x1 .x3) (.n 10000)) rfl hN len hg lg)) λy9 y10 y11 e=>?_
       exact⟨_,_,⟨⟨y9,y10,y11,rfl⟩,by rw[jH,← List.append_assoc]⟩,e⟩)
     obtain⟨ρ',H',⟨⟨y9,y10,y11,rfl⟩,rfl⟩,e⟩:=inner (yH q H.length (some (.int (a:Int))) x9 bU bc) (H++[MO.lst (aP ((List.range a).flatMap (iK q)))]) ⟨⟨x9,bU,bc,rfl⟩,by simp⟩
     refine⟨yH q H.length (some (.int (a:Int))) y9 y10 y11,_,⟨⟨_,_,_,_,rfl⟩,rfl⟩,λK ev=>?_⟩
     erw[h1.at ha,c0,e0,uM,ee,e1,Bool.not_true,mk_zero _ (show q.N≤1000 by exact Ar.Z1 [.e .x0 .aQ] (.e .x0 .aG) rfl hN'),dW]
     refine(e _).trans ?_
     rw[← z,← fs];rfl)
 obtain⟨ρ',H',⟨⟨x8,x9,bU,bc,rfl⟩,rfl⟩,e⟩:=outer (yH q H.length none none none none) (H++[MO.lst (aP [])]) ⟨⟨_,_,_,_,rfl⟩,by simp⟩
 have h2:=h.app [MO.lst (aP ((List.range q.N).flatMap (iK q)))]
 refine bJ (rC (d:=d) h2 cd ro) λG ec=>?_
 have la:aj (H++[MO.lst (aP ((List.range q.N).flatMap (iK q)))]++MO.lst (aP (bL q (2*q.s)++bL q (2*q.s+1)))::G) H.length=some (aP ((List.range q.N).flatMap (iK q))):=by
  rw[List.append_assoc];exact cw _ _ _
 have lb:=cw (H++[MO.lst (aP ((List.range q.N).flatMap (iK q)))]) G (aP (bL q (2*q.s)++bL q (2*q.s+1)))
 have len:=qE h.bd q.N hN'
 have l1:=jB q (2*q.s)
 have l2:=jB q (2*q.s+1)
 have add:∀(H:MH) (n m:Nat) (l r:List Nat),aj H n=some (aP l)→aj H m=some (aP r)→(l++r).length≤100000→nW .add (.ref n) (.ref m) H=some (.ref H.length,H++[MO.lst (aP (l++r))]):=λH n m l r h1 h2 h3=>by
  show(aj H n).bind (λxs=>(aj H m).bind λys=>if aI (xs.length+ys.length)then some (V.ref H.length,H++[MO.lst (xs++ys)])else none)=_
  rw[h1,Option.bind_some,h2,Option.bind_some,if_pos (by rw[bw,bw,← List.length_append];exact f_ _ h3),hQ]
 refine⟨(H++[MO.lst (aP ((List.range q.N).flatMap (iK q)))]++MO.lst (aP (bL q (2*q.s)++bL q (2*q.s+1)))::G).length,[MO.lst (aP ((List.range q.N).flatMap (iK q)))]++(MO.lst (aP (bL q (2*q.s)++bL q (2*q.s+1)))::G)++[MO.lst (aP (d9 q))],?_,?_⟩
 ·have ad:=add _ _ _ _ _ la lb (by simp only[List.length_append,List.length_append];exact Ar.Z3 [.e .x0 (.n 2500),.e .x1 .n1,.e .x2 .n1] (.e (.a .x0 (.a .x1 .x2)) (.n 100000)) rfl len l1 l2)
  rw[ax (fn:=LS) rfl rfl]
  erw[LS,hl,len_tab,bF q.N (show q.F*q.R≤1000 by exact Ar.Z1 [.e .x0 .aQ] (.e .x0 .aG) rfl hN),mk_zero _ (show q.N≤1000 by exact Ar.Z1 [.e .x0 .aQ] (.e .x0 .aG) rfl hN'),dW]
  refine(e _).trans ?_
  erw[ec,ad]
  simp only[List.append_assoc];(first|rfl|(erw[ff]<;>rfl))
 ·have:=bq (H++[MO.lst (aP ((List.range q.N).flatMap (iK q)))]++MO.lst (aP (bL q (2*q.s)++bL q (2*q.s+1)))::G) (aP (d9 q))
  simpa only[List.append_assoc]using this
end
end
section
open PySem
structure Pos (q:St):Prop where
 jP:hZ q
 bd:Bd q.F q.R
 s2:q.s<2
 yR:∀x,x<q.N→q.c x%8=1→0<x/q.F∧x/q.F+1<q.R
 ep:q.ep = -1∨∃e p,hY q e p∧q.c p=1+8*(1-q.s)∧q.c e=0∧e/q.F≠gQ q.R q.s
 right:kv q
section
variable {q:St} {a b e g t k m n z i p u v w x:Nat} {o:Nat→Bool}
theorem Pos.uj(P:Pos q):q.s=0∨q.s=1:=by have:=P.s2;exact Ar.Z1 [.l .x0 .n2] (.D (.q .x0 .n0) (.q .x0 .n1)) rfl this
theorem Pos.Kt(P:Pos q):q.N≤25:=P.bd.aQ
theorem cU:q.sd t x=true↔q.c x≠0∧q.c x/8=t:=by
 unfold St.sd nG
 simp only[Bool.and_eq_true,Bool.not_eq_true',aq,ae]
theorem dF:q.oc x=true↔q.c x≠0:=by unfold St.oc;rw[Bool.not_eq_true',aq]
theorem IC:q.oc x=false↔q.c x=0:=by rw[← Bool.not_eq_true,dF];exact Ar.Z1 [] (.B (.N (.N (.q .x0 .n0))) (.q .x0 .n0)) rfl
theorem Pos.kinds(P:Pos q)(hx:x<q.N)(h:q.c x≠0):1≤q.c x%8∧q.c x%8≤6∧q.c x/8<2:=(P.jP.code x hx).resolve_left h
theorem Pos.mJ(P:Pos q)(hx:x<q.N)(h:q.c x≠0)(hs:q.c x/8≠q.s):q.sd (1-q.s) x=true:=by
 have:=P.kinds hx h
 have:=P.s2
 rw[cU];exact⟨h,by exact Ar.Z5 [.C (.e .n1 .x2) (.C (.e .x2 .n6) (.l .x0 .n2)),.l .x3 .n2,.N (.q .x0 .x3),.s .x4 .n1 .x3,.d 8 .x0 .x2 .x1] (.q .x0 .x4) rfl (by assumption) this hs (Ar.ts _ _) (Ar.md _ 8 rfl)⟩
theorem u6(m:Nat):m=m%64+m/64%64*64+m/4096%4*4096+m/16384*16384:=by
 have h1:=Nat.div_add_mod m 64
 have h2:64*(m/4096)+m/64%64=m/64:=Nat.div_div_eq_div_mul m 64 64▸Nat.div_add_mod (m/64) 64
 have h3:4*(m/16384)+m/4096%4=m/4096:=Nat.div_div_eq_div_mul m 4096 4▸Nat.div_add_mod (m/4096) 4
 generalize m/64%64=a at *
 generalize m%64=b at *
 generalize m/4096%4=c at *
 generalize m/64=d at *
 generalize m/4096=e at *
 generalize m/16384=f at *
 exact Ar.Z7 [.q (.a (.m 64 .x0) .x1) .x2,.q (.a (.m 64 .x3) .x4) .x0,.q (.a (.m 4 .x5) .x6) .x3] (.q .x2 (.a (.a (.a .x1 (.r .x4 64)) (.r .x6 4096)) (.r .x5 16384))) rfl h1 h2 h3
theorem oO{m g a p s:Nat}(h1:m%64=g)(h2:m/64%64=a)(h3:m/4096%4=p)(h4:m/16384=s):m=g+a*64+p*4096+s*16384:=by
 subst h1 h2 h3 h4;exact u6 m
theorem K5{g k X:Nat}(hg:g<k):(g+k*X)%k=g∧(g+k*X)/k=X:=
 ⟨by rw[Nat.add_mul_mod_self_left,Nat.mod_eq_of_lt hg],by rw[Nat.add_mul_div_left _ _ (Nat.lt_of_le_of_lt (Nat.zero_le _) hg),Nat.div_eq_of_lt hg,Nat.zero_add]⟩
theorem enc{g a p s:Nat}(hg:g<64)(ha:a<64)(hp:p<4)(m:Nat)(h:m=g+a*64+p*4096+s*16384):m%64=g∧m/64%64=a∧m/4096%4=p∧m/16384=s:=by
 have e:m=g+64*(a+64*(p+4*s)):=by exact Ar.Z5 [.q .x0 (.a (.a (.a .x1 (.r .x2 64)) (.r .x3 4096)) (.r .x4 16384))] (.q .x0 (.a .x1 (.m 64 (.a .x2 (.m 64 (.a .x3 (.m 4 .x4))))))) rfl h
 have d1:=K5 (X:=a+64*(p+4*s)) hg
 have d2:=K5 (X:=p+4*s) ha
 have d3:=K5 (X:=s) hp
 have e2:m/64/64=m/4096:=Nat.div_div_eq_div_mul m 64 64
 have e3:m/4096/4=m/16384:=Nat.div_div_eq_div_mul m 4096 4
 rw[← e3,← e2,e,d1.2,d2.2]
 exact⟨d1.1,d2.1,d3.1,d3.2⟩
theorem II{d:Nat}{F:Nat}(h:fu F t a g=true)(ht:t<2):(t=0→g/F=a/F+1)∧(t=1→a/F=g/F+1):=by
 unfold fu at h
 rw[Bool.and_eq_true]at h
 have h2:=h.2
 constructor
 ·rintro rfl;exact Nat.eq_of_beq_eq_true h2
 ·rintro rfl;exact Nat.eq_of_beq_eq_true h2
theorem Ja{F:Nat}(hF:0<F)(ht:t<2)(h:iL F t a g=true):(t=0→g/F=a/F+1)∧(t=1→a/F=g/F+1):=by
 constructor
 ·rintro rfl;simp only[zD,ae]at h;rw[h,Nat.add_div_right _ hF]
 ·rintro rfl;simp only[zE,ae]at h;rw[h,Nat.add_div_right _ hF]
theorem Fz{F:Nat}(hF:0<F)(ht:t<2)(h:fH F t a g=true):(t=0→g/F=a/F+2)∧(t=1→a/F=g/F+2):=by
 have e:∀x,(x+2*F)/F=x/F+2:=λx=>Nat.add_mul_div_right _ _ hF
 constructor
 ·rintro rfl;simp only[o8,ae]at h;rw[h,e]
 ·rintro rfl;simp only[o9,ae]at h;rw[h,e]
theorem wy(bd:Bd q.F q.R)(hg:g<q.N):(Nat.blt g q.F||Nat.ble (q.N-q.F) g)=true↔g/q.F=0∨g/q.F=q.R-1:=by
 have f3:=bd.f3
 have r3:=bd.r3
 have hy:=mU hg
 simp only[Bool.or_eq_true,aC,b5]
 have e1:g<q.F↔g/q.F=0:=by rw[Nat.div_eq_zero_iff];exact Ar.Z2 [.e .n3 .x0] (.B (.l .x1 .x0) (.D (.q .x0 .n0) (.l .x1 .x0))) rfl f3
 have e2:q.N-q.F≤g↔g/q.F=q.R-1:=by
  have hn:q.N-q.F=q.F*(q.R-1):=by show q.F*q.R-q.F=_;simp only[Nat.mul_sub,Nat.mul_one]
  rw[hn]
  constructor
  ·intro h
   have:=(Nat.le_div_iff_mul_le (by exact Ar.Z1 [.e .n3 .x0] (.l .n0 .x0) rfl f3:0<q.F)).mpr (by rw[Nat.mul_comm];exact h)
   exact Ar.Z3 [.l .x1 .x0,.e .x2 .x1,.s .x2 .x0 .n1] (.q .x1 .x2) rfl hy this (Ar.ts _ _)
  ·intro h
   have:=Nat.div_mul_le_self g q.F
   rw[h,Nat.mul_comm]at this;exact this
 simp only[e1,e2]
theorem vd(P:Pos q)(ha:a<q.N)(hg:g<q.N)(hk:q.c a%8=1)(hg':¬ (q.c g≠0∧q.c g/8=q.s)) :
  (fE q a g 2=Nat.beq (ez q a g) 3)∧(fE q a g 1=(Nat.beq (ez q a g) 1&&(Nat.blt g q.F||Nat.ble (q.N-q.F) g)))∧(fE q a g 0=(Nat.beq (ez q a g) 1&&!(Nat.blt g q.F||Nat.ble (q.N-q.F) g))):=by
 have f3:=P.bd.f3
 have r3:=P.bd.r3
 have F0:0<q.F:=by exact Ar.Z1 [.e .n3 .x0] (.l .n0 .x0) rfl f3
 refine dd (P.yR a ha hk) λy0 y1=>?_
 have hy:=mU hg
 have hs:=P.s2
 have one:Nat.beq (ez q a g) 1=(if fu q.F q.s a g then q.sd (1-q.s) g else iq q a g):=by
  unfold ez iq
  cases hp:fu q.F q.s a g with
  |true=>
   simp only[if_true]
   cases hc:Nat.beq (q.c g) 0 with
   |true=>
    rw[if_pos rfl]
    have:q.sd (1-q.s) g=false:=by unfold St.sd nG;rw[hc];rfl
    rw[this];split<;>rfl
   |false=>
    simp only[aq]at hc
    rw[if_neg (by decide),P.mJ hg hc (λh=>hg' ⟨hc,h⟩)];rfl
  |false=>
   simp only[Bool.false_eq_true,if_false]
   generalize Nat.beq (q.c g) 0=x1;generalize iL q.F q.s a g=x2;generalize fH q.F q.s a g=x3;generalize q.dbl=x4;generalize Nat.beq (a/q.F) (lE q.R q.s)=x5;generalize Nat.beq (q.c (mid q.F q.s a g)) 0=x6
   revert x1 x2 x3 x4 x5 x6;decide
 have edge:Nat.beq (ez q a g) 1=true→(Nat.beq (g/q.F) (gQ q.R q.s)=(Nat.blt g q.F||Nat.ble (q.N-q.F) g)):=by
  intro h1
  have hstep:(q.s=0→a/q.F<g/q.F)∧(q.s=1→g/q.F<a/q.F):=by
   unfold ez at h1
   cases hp:fu q.F q.s a g with
   |true=>have:=II (d:=0) hp hs;exact Ar.Z3 [.C (.I (.q .x0 .n0) (.q .x1 (.a .x2 .n1))) (.I (.q .x0 .n1) (.q .x2 (.a .x1 .n1)))] (.C (.I (.q .x0 .n0) (.l .x2 .x1)) (.I (.q .x0 .n1) (.l .x1 .x2))) rfl this
   |false=>
    rw[hp]at h1
    simp only[Bool.false_eq_true,if_false]at h1
    split at h1
    ·exact bY h1
    ·split at h1
     ·rename_i h2;have:=Ja F0 hs h2;exact Ar.Z3 [.C (.I (.q .x0 .n0) (.q .x1 (.a .x2 .n1))) (.I (.q .x0 .n1) (.q .x2 (.a .x1 .n1)))] (.C (.I (.q .x0 .n0) (.l .x2 .x1)) (.I (.q .x0 .n1) (.l .x1 .x2))) rfl this
     ·split at h1
      ·rename_i h2
       rw[Bool.and_eq_true,Bool.and_eq_true]at h2
       have:=Fz F0 hs h2.2.1;exact Ar.Z3 [.C (.I (.q .x0 .n0) (.q .x1 (.a .x2 .n2))) (.I (.q .x0 .n1) (.q .x2 (.a .x1 .n2)))] (.C (.I (.q .x0 .n0) (.l .x2 .x1)) (.I (.q .x0 .n1) (.l .x1 .x2))) rfl this
      ·exact bY h1
  rw[Bool.eq_iff_iff,ae,wy P.bd hg]
  refine Or.elim (P.uj) (λs=>?_) λs=>?_
  ·have:=hstep.1 s
   rw[s];show g/q.F=q.R-1↔_
   exact Ar.Z5 [.q .x1 .n0,.C (.I (.q .x1 .n0) (.l .x0 .x2)) (.I (.q .x1 .n1) (.l .x2 .x0)),.s .x3 .x4 .n1] (.B (.q .x2 .x3) (.D (.q .x2 .n0) (.q .x2 .x3))) rfl s hstep (Ar.ts _ _)
  ·have:=hstep.2 s
   rw[s];show g/q.F=0↔_
   exact Ar.Z4 [.l (.a .x1 .n1) .x0,.l .x2 .x1,.s .x3 .x0 .n1] (.B (.q .x2 .n0) (.D (.q .x2 .n0) (.q .x2 .x3))) rfl y1 this (Ar.ts _ _)
 refine⟨?_,?_,?_⟩
 ·unfold fE
  rw[show Nat.beq 2 2=true from rfl,if_pos rfl,show Nat.beq 2 1=false from rfl]
  have z:(fu q.F q.s a g&&decide ((g:Int)=q.ep))=true→q.c g=0∧g/q.F≠gQ q.R q.s:=λh=>by
   simp only[Bool.and_eq_true,decide_eq_true_eq]at h
   rcases P.ep with h0|⟨e,p,h1,h2,h3,h4⟩
   ·exact Ar.q0 [.Q (.c .x0) .y0,.Q .y0 (.g .n1)] (.C (.q .x1 .n0) (.N (.q .x2 .x3))) rfl h.2 h0
   ·have:g=e:=by have:=h1.ep;exact Ar.uB [.Q (.c .x0) .y0,.Q .y0 (.c .x1)] (.q .x0 .x1) rfl h.2 this
    subst this;exact⟨h3,h4⟩
  cases hz:(fu q.F q.s a g&&decide ((g:Int)=q.ep))with
  |false=>
   rw[Bool.and_false]
   symm
   rw[aq]
   unfold ez
   rw[Bool.and_eq_false_iff]at hz
   rcases hz with hz|hz
   ·rw[hz];simp only[Bool.false_eq_true,if_false];(repeat' split)<;>decide
   ·rw[hz];simp only[Bool.false_eq_true,if_false];(repeat' split)<;>decide
  |true=>
   refine dd (z hz) λz1 z2=>?_
   have e1:Nat.beq (g/q.F) (gQ q.R q.s)=false:=by rw[aq];exact z2
   simp only[Bool.and_eq_true]at hz
   unfold ez
   rw[e1,hz.1,hz.2,z1];rfl
 ·unfold fE
  rw[show Nat.beq 1 2=false from rfl,if_neg (by decide),show Nat.beq 1 1=true from rfl,← one]
  cases h1:Nat.beq (ez q a g) 1 with
  |false=>simp only[Bool.and_false,Bool.false_and]
  |true=>rw[edge h1,Bool.and_true,Bool.true_and];cases(Nat.blt g q.F||Nat.ble (q.N-q.F) g)<;>rfl
 ·unfold fE
  rw[show Nat.beq 0 2=false from rfl,if_neg (by decide),show Nat.beq 0 1=false from rfl,← one]
  cases h1:Nat.beq (ez q a g) 1 with
  |false=>simp only[Bool.and_false,Bool.false_and]
  |true=>rw[edge h1,Bool.and_true,Bool.true_and];cases(Nat.blt g q.F||Nat.ble (q.N-q.F) g)<;>rfl
end
end
section
open PySem
section
variable {q:St} {a b e g t k m n z i p u v w x:Nat} {o:Nat→Bool}
noncomputable def nU(q:St)(x:Nat):Prop:=q.c x≠0∧q.c x/8=q.s
theorem qH:(!Nat.beq (q.c g) 0&&Nat.beq (q.c g/8) q.s)=true↔nU q g:=by
 unfold nU;simp only[Bool.and_eq_true,Bool.not_eq_true',aq,ae]
theorem CV(q:St)(a g:Nat):ez q a g≤3:=by unfold ez;(repeat' split)<;>first|exact Ar.Zx 0 0 [] [] [] [] (.e .n3 .n3) rfl rfl|exact Ar.Zx 0 0 [] [] [] [] (.e .n0 .n3) rfl rfl|exact Ar.Zx 0 0 [] [] [] [] (.e .n1 .n3) rfl rfl
theorem Ez(q:St)(a g:Nat):ez q a g≠2:=by unfold ez;(repeat' split)<;>first|exact Ar.Zx 0 0 [] [] [] [] (.N (.q .n3 .n2)) rfl rfl|exact Ar.Zx 0 0 [] [] [] [] (.N (.q .n0 .n2)) rfl rfl|exact Ar.Zx 0 0 [] [] [] [] (.N (.q .n1 .n2)) rfl rfl
noncomputable def mY(q:St)(g:Nat):Bool:=Nat.blt g q.F||Nat.ble (q.N-q.F) g
theorem hP(ha:a<64)(hg:g<64):m∈qD q a g↔¬ nU q g∧m%64=g∧m/64%64=a∧m<65536 ∧
  ((
   q.c a%8=1∧((ez q a g=1∧mY q g=true∧m/16384=1)∨(¬ (ez q a g=1∧mY q g=true)∧ez q a g≠0∧m/16384+1=ez q a g∧m/4096%4=0))) ∨
   (q.c a%8≠1∧bk q.F q.N (q.c a) a g q.oc=true∧m/16384=0∧m/4096%4=0)):=by
 have le:=CV q a g
 unfold qD
 split
 ·rename_i h;rw[qH]at h;simp[h]
 ·rename_i h
  rw[qH]at h
  simp only[h,not_false_eq_true,true_and]
  split
  ·rename_i h1
   simp only[ae]at h1
   split
   ·rename_i h2
    simp only[Bool.and_eq_true,ae]at h2
    have he:mY q g=true:=h2.2
    rw[List.mem_map]
    simp only[h1,h2.1,he,true_and,not_true_eq_false,false_and,or_false,ne_eq,and_true]
    constructor
    ·rintro⟨p,hp,rfl⟩
     rw[List.mem_range]at hp
     have lt:g+a*64+p*4096+16384<65536:=by exact Ar.Z3 [.l .x0 .ko,.l .x1 .ko,.l .x2 .n4] (.l (.a (.a (.a .x1 (.r .x0 64)) (.r .x2 4096)) .jQ) (.n 65536)) rfl ha hg hp
     have q1:=enc (s:=1) hg ha hp _ rfl
     exact⟨q1.1,q1.2.1,lt,q1.2.2.2⟩
    ·rintro⟨e1,e2,e3,e4⟩
     exact⟨m/4096%4,by rw[List.mem_range];exact Nat.mod_lt _ (by decide),(oO e1 e2 rfl e4).symm⟩
   ·rename_i h2
    rw[Bool.and_eq_true,ae]at h2
    have he:¬ (ez q a g=1∧mY q g=true):=h2
    split
    ·rename_i h3
     rw[ae]at h3
     simp only[h1,h3,List.not_mem_nil,false_iff,true_and]
     exact Ar.Zx 0 13 [_,_] [] [_,_,_,_,_,_,_,_,_,_,_,_,_] [.d 4 .x0 .x3 .x2,.d 4096 .x2 .x1 .bc,.d 16384 .x5 .x4 .bc,.d 64 .x7 .x8 .bU] (.N (.C (.q .ed .x9) (.C (.q .x8 .x6) (.C (.l .bc (.n 65536)) (.D (.D (.C (.q .n0 .n1) (.C (.x 0) (.q .x5 .n1))) (.C (.N (.C (.q .n0 .n1) (.x 0))) (.C (.N (.q .n0 .n0)) (.C (.q (.a .x5 .n1) .n0) (.q .x3 .n0))))) (.C (.N (.q .n1 .n1)) (.C (.x 1) (.C (.q .x5 .n0) (.q .x3 .n0))))))))) rfl rfl (Ar.md _ 4 rfl) (Ar.md _ 4096 rfl) (Ar.md _ 16384 rfl) (Ar.md _ 64 rfl)
    ·rename_i h3
     rw[ae]at h3
     rw[List.mem_singleton]
     constructor
     ·rintro rfl
      have q1:=enc (p:=0) (s:=ez q a g-1) hg ha (by decide) _ rfl
      exact⟨q1.1,q1.2.1,by exact Ar.Zx 0 14 [] [] [_,_,_,_,_,_,_,_,_,_,_,_,_,_] [.e .ig .n3,.C (.q .ed .bc) (.C (.q .x7 .bU) (.C (.q .x5 .n0) (.q .x1 .x9))),.d 16384 .x1 .x0 (.a (.a (.a .bc (.r .bU 64)) (.m 0 .il)) (.r .x9 16384)),.d 4 .x2 .x5 .x4,.d 4096 .x4 .x3 (.a (.a (.a .bc (.r .bU 64)) (.m 0 .il)) (.r .x9 16384)),.d 64 .x6 .x7 .x8,.s .x9 .ig .n1] (.l (.a (.a .bc (.r .bU 64)) (.r .x9 16384)) (.n 65536)) rfl rfl le q1 (Ar.md _ 16384 rfl) (Ar.md _ 4 rfl) (Ar.md _ 4096 rfl) (Ar.md _ 64 rfl) (Ar.ts _ _),.inl ⟨h1,.inr ⟨he,h3,(congrArg (·+1) q1.2.2.2).trans (Nat.succ_pred_eq_of_ne_zero h3),q1.2.2.1⟩⟩⟩
     ·rintro⟨e1,e2,e3,e4⟩
      rcases e4 with⟨_,(e5|e5)⟩|e5
      ·exact absurd ⟨e5.1,e5.2.1⟩ he
      ·exact oO e1 e2 e5.2.2.2 (Nat.eq_sub_of_add_eq e5.2.2.1)
      ·exact absurd h1 e5.1
  ·rename_i h1
   rw[ae]at h1
   split
   ·rename_i h2
    rw[List.mem_singleton]
    constructor
    ·rintro rfl
     have q1:=enc (p:=0) (s:=0) hg ha (by decide) _ rfl
     exact⟨q1.1,q1.2.1,by exact Ar.Ni [.C (.q .x0 .x1) (.C (.q .x4 .x2) (.C (.q .x6 .n0) (.q .bU .n0))),.d 16384 .bU .bc (.a (.a (.a .x1 (.r .x2 64)) (.m 0 .il)) (.m 0 .jQ)),.d 4 .x9 .x6 .x7,.d 4096 .x7 .x8 (.a (.a (.a .x1 (.r .x2 64)) (.m 0 .il)) (.m 0 .jQ)),.d 64 .x5 .x4 .x3] (.l (.a .x1 (.r .x2 64)) (.n 65536)) rfl q1 (Ar.md _ 16384 rfl) (Ar.md _ 4 rfl) (Ar.md _ 4096 rfl) (Ar.md _ 64 rfl),.inr ⟨h1,h2,q1.2.2.2,q1.2.2.1⟩⟩
    ·rintro⟨e1,e2,e3,e4⟩
     rcases e4 with e5|e5
     ·exact absurd e5.1 h1
     ·exact oO e1 e2 e5.2.2.2 e5.2.2.1
   ·rename_i h2
    simp only[List.not_mem_nil,false_iff]
    rintro⟨e1,e2,e3,e4⟩
    rcases e4 with e5|e5
    ·exact absurd e5.1 h1
    ·exact h2 e5.2.1
theorem oK(bd:Bd q.F q.R)(ha:a<q.N):m∈iK q a↔nU q a∧m%64<q.N∧m∈qD q a (m%64):=by
 have hN:q.N≤25:=bd.aQ
 unfold iK
 split
 ·rename_i h
  have:¬ nU q a:=by
   rw[← qH]
   simp only[Bool.or_eq_true,Bool.not_eq_true']at h
   rw[Bool.and_eq_true,Bool.not_eq_true']
   rintro⟨h1,h2⟩
   refine Or.elim (h) (λh=>?_) λh=>?_
   ·rw[h]at h1;exact pF h1
   ·rw[h]at h2;exact bY h2
  simp[this]
 ·rename_i h
  have ho:nU q a:=by
   rw[← qH]
   revert h
   cases Nat.beq (q.c a) 0<;>cases Nat.beq (q.c a/8) q.s<;>simp
  rw[List.mem_flatMap]
  constructor
  ·rintro⟨g,hg,hm⟩
   rw[List.mem_range]at hg
   have:=(hP (by exact Ar.Z2 [.l .x0 .x1,.e .x1 .aQ] (.l .x0 .ko) rfl ha hN) (by exact Ar.Z2 [.e .x0 .aQ,.l .x1 .x0] (.l .x1 .ko) rfl hN hg)).mp hm
   rw[this.2.1]
   exact⟨ho,hg,hm⟩
  ·rintro⟨_,h1,h2⟩
   exact⟨m%64,List.mem_range.mpr h1,h2⟩
theorem qz(bd:Bd q.F q.R):m∈(List.range q.N).flatMap (iK q)↔m/64%64<q.N∧nU q (m/64%64)∧m%64<q.N∧m∈qD q (m/64%64) (m%64):=by
 have hN:q.N≤25:=bd.aQ
 rw[List.mem_flatMap]
 constructor
 ·rintro⟨a,ha,hm⟩
  rw[List.mem_range]at ha
  have h1:=(oK bd ha).mp hm
  have h2:=(hP (by exact Ar.Z2 [.e .x0 .aQ,.l .x1 .x0] (.l .x1 .ko) rfl hN ha) (by exact Ar.Z3 [.d 64 .x2 .x0 .x1] (.l .x0 .ko) rfl (Ar.md _ 64 rfl))).mp h1.2.2
  rw[h2.2.2.1]
  exact⟨ha,h1⟩
 ·rintro⟨h0,h1⟩
  exact⟨_,List.mem_range.mpr h0,(oK bd h0).mpr h1⟩
theorem tf(h:nU q a):q.c a=q.c a%8+8*q.s:=by have:=h.2;exact Ar.Z4 [.q .x0 .x3,.d 8 .x0 .x2 .x1] (.q .x1 (.a .x2 (.m 8 .x3))) rfl this (Ar.md _ 8 rfl)
structure vF (q:St) (i a g u v:Nat):Prop where
 i4:i<4
 i2:i/2=q.s
 ct:bj q.F q.R q.wg i=some (a,g,u,v)
 ok:fJ q i a g u v=true
theorem pP(P:Pos q)(h:vF q i a g u v):a=q.k q.s∧q.c u=4+8*q.s:=by
 have hr:q.rt i=true:=by
  have:=h.ok
  unfold fJ at this
  rw[Bool.and_eq_true]at this;exact this.1
 refine zU (P.right i h.i4 hr) λb c e h1 h2=>?_
 rw[h.ct]at h1
 simp only[Option.some.injEq,Prod.mk.injEq]at h1
 rw[h.i2]at h1 h2
 rw[← h1.2.2.1]at h2
 exact⟨h1.1,h2⟩
theorem iT(P:Pos q)(h:vF q i a g u v):a<q.N∧g<q.N∧u<q.N∧v<q.N∧((g=a+2∧v=a+1∧g<u)∨(g+2=a∧v+1=a∧u<g)):=by
 refine pd (P.jP.cast i a g u v h.i4 h.ct) λc1 c2 c3 c4 _=>?_
 refine ic (eL P.bd h.i4 h.ct) λ_ _ n3 n4=>?_
 have:i%2=0∨i%2=1:=by exact Ar.Z3 [.d 2 .x2 .x0 .x1] (.D (.q .x0 .n0) (.q .x0 .n1)) rfl (Ar.md _ 2 rfl)
 rcases this with h0|h0
 ·have:=n3 h0;exact⟨c1,c2,c3,c4,.inl ⟨this.1,this.2.1,this.2.2⟩⟩
 ·have:=n4 h0;exact⟨c1,c2,c3,c4,.inr ⟨this.1,this.2.1,this.2.2⟩⟩
theorem lu(h:vF q i a g u v)(hx:x<q.N)(hi:fV a u x=true):q.c x=0:=by
 have:=h.ok
 unfold fJ at this
 rw[Bool.and_eq_true,Bool.and_eq_true]at this
 have:=this.2.1
 rw[Bool.not_eq_true',← Bool.not_eq_true,aB]at this
 refine Classical.byContradiction λhc=>this ⟨x,hx,by rw[hi,Bool.and_true,dF];exact hc⟩
theorem nz:m∈bL q i↔∃a g u v,bj q.F q.R q.wg i=some (a,g,u,v)∧fJ q i a g u v=true∧m=g+a*64+49152:=by
 unfold bL
 cases hc:bj q.F q.R q.wg i with
 |none=>simp
 |some r=>
  obtain⟨a,g,u,v⟩:=r
  dsimp only
  rw[oR hc]
  constructor
  ·intro h
   split at h
   ·rename_i ho;rw[List.mem_singleton]at h;exact⟨a,g,u,v,rfl,ho,h⟩
   ·cases h
  ·rintro⟨a',g',u',v',h1,h2,rfl⟩
   simp only[Option.some.injEq,Prod.mk.injEq]at h1
   obtain⟨rfl,rfl,rfl,rfl⟩:=h1
   rw[if_pos h2];exact .head _
theorem jO(P:Pos q):m∈bL q (2*q.s)++bL q (2*q.s+1)↔m/16384=3∧m<65536∧m/4096%4=0∧∃i u v,vF q i (m/64%64) (m%64) u v:=by
 have hN:=P.Kt
 have hs:=P.s2
 have key:∀i,i<4→i/2=q.s→m∈bL q i→m/16384=3∧m<65536∧m/4096%4=0∧∃i u v,vF q i (m/64%64) (m%64) u v:=λi hi hi2 hm=>by
  refine Ji (nz.mp hm) λa g u v h1 h2 h3=>?_
  refine gw (iT P ⟨hi,hi2,h1,h2⟩) λn1 n2 _=>?_
  have⟨e2,e1,e3,e4⟩:=enc (p:=0) (s:=3) (Nat.lt_of_lt_of_le n2 (Nat.le_trans hN (by decide))) (Nat.lt_of_lt_of_le n1 (Nat.le_trans hN (by decide))) (by decide) m h3
  exact⟨e4,by exact Ar.Z6 [.e .x0 .aQ,.q .x1 (.a (.a .x2 (.r .x3 64)) (.n 49152)),.l .x3 .x0,.q .x4 .x2,.d 64 .x5 .x4 .x1] (.l .x1 (.n 65536)) rfl hN h3 n1 e2 (Ar.md _ 64 rfl),e3,i,u,v,by simp only[e1,e2];exact⟨hi,hi2,h1,h2⟩⟩
 rw[List.mem_append]
 constructor
 ·rintro(h|h)
  ·exact key _ (by exact Ar.Z1 [.l .x0 .n2] (.l (.m 2 .x0) .n4) rfl hs) (by exact Ar.Z3 [.d 2 .x0 .x2 (.m 2 .x1)] (.q .x0 .x1) rfl (Ar.md _ 2 rfl)) h
  ·exact key _ (by exact Ar.Z1 [.l .x0 .n2] (.l (.a (.m 2 .x0) .n1) .n4) rfl hs) (by exact Ar.Z3 [.d 2 .x0 .x2 (.a (.m 2 .x1) .n1)] (.q .x0 .x1) rfl (Ar.md _ 2 rfl)) h
 ·rintro⟨h1,h2,h3,i,u,v,hc⟩
  have:m∈bL q i:=nz.mpr ⟨_,_,u,v,hc.ct,hc.ok,oO rfl rfl h3 h1⟩
  have hi4:=hc.i4
  have hi2:=hc.i2
  have:i=2*q.s∨i=2*q.s+1:=by exact Ar.Z4 [.q .x0 .x3,.d 2 .x0 .x2 .x1] (.D (.q .x1 (.m 2 .x3)) (.q .x1 (.a (.m 2 .x3) .n1))) rfl hi2 (Ar.md _ 2 rfl)
  rcases this with rfl|rfl
  ·left;assumption
  ·right;assumption
theorem tU(P:Pos q):oI q a g=true↔∃i u v,vF q i a g u v:=by
 have hs:=P.s2
 constructor
 ·intro h
  refine cQ (FI h) λu v h1 h2=>?_
  have hw:kr q a g=2*q.s∨kr q a g=2*q.s+1:=by unfold kr;split<;>simp
  exact⟨_,u,v,by exact Ar.Z2 [.l .x0 .n2,.D (.q .x1 (.m 2 .x0)) (.q .x1 (.a (.m 2 .x0) .n1))] (.l .x1 .n4) rfl hs hw,by exact Ar.Z4 [.D (.q .x0 (.m 2 .x1)) (.q .x0 (.a (.m 2 .x1) .n1)),.d 2 .x2 .x3 .x0] (.q .x2 .x1) rfl hw (Ar.md _ 2 rfl),h1,h2⟩
 ·rintro⟨i,u,v,h⟩
  have hi4:=h.i4
  have hi2:=h.i2
  have wb:eW (bj q.F q.R q.wg i) a g=true:=by simp only[h.ct,dJ,Nat.beq_refl,Nat.beq_refl];rfl
  have ow:u9 q i=true:=by rw[oR h.ct];exact h.ok
  have:i=2*q.s∨i=2*q.s+1:=by exact Ar.Z4 [.q .x0 .x3,.d 2 .x0 .x2 .x1] (.D (.q .x1 (.m 2 .x3)) (.q .x1 (.a (.m 2 .x3) .n1))) rfl hi2 (Ar.md _ 2 rfl)
  unfold oI
  rcases this with rfl|rfl
  ·rw[wb,if_pos rfl];exact ow
  ·have nb:eW (bj q.F q.R q.wg (2*q.s)) a g=false:=by
    cases hb:eW (bj q.F q.R q.wg (2*q.s)) a g with
    |false=>rfl
    |true=>
     unfold eW at hb
     split at hb
     ·rename_i x y u' v' e
      simp only[Bool.and_eq_true,ae,ae]at hb
      obtain⟨rfl,rfl⟩:=hb
      have n1:=(eL P.bd (by exact Ar.Z1 [.l .x0 .n2] (.l (.m 2 .x0) .n4) rfl hs) e).2.2.1 (by exact Ar.Z3 [.d 2 .x2 .x0 (.m 2 .x1)] (.q .x0 .n0) rfl (Ar.md _ 2 rfl))
      have n2:=(eL P.bd (by exact Ar.Z1 [.l (.a (.m 2 .x0) .n1) .n4] (.l (.a (.m 2 .x0) .n1) .n4) rfl hi4) h.ct).2.2.2 (by exact Ar.Z3 [.q .x0 .x1,.d 2 .x0 .x2 (.a (.m 2 .x1) .n1)] (.q .x2 .n1) rfl hi2 (Ar.md _ 2 rfl))
      exact False.elim (Ar.Z6 [.C (.q .x0 (.a .x1 .n2)) (.C (.q .x2 (.a .x1 .n1)) (.l .x0 .x3)),.C (.q (.a .x0 .n2) .x1) (.C (.q (.a .x4 .n1) .x1) (.l .x5 .x0))] .F rfl n1 n2)
     ·exact bY hb
   rw[nb,if_neg (by decide),wb,if_pos rfl];exact ow
theorem o_(P:Pos q)(hm:m<65536)(mv:uZ m=true)(ha:m/64%64<q.N)(hg:m%64<q.N)(oa:nU q (m/64%64))(ng:¬ nU q (m%64)) :
  m∈d9 q↔(if Nat.beq (m/16384) 3 then oI q (m/64%64) (m%64)else qc q (q.c (m/64%64)%8) (m/64%64) (m%64) (m/16384))=true:=by
 have hN:=P.Kt
 unfold d9
 rw[List.mem_append,qz P.bd,jO P]
 simp only[ha,oa,hg,true_and,hm]
 unfold uZ at mv
 simp only[Bool.and_eq_true,Bool.or_eq_true,ae,ae]at mv
 by_cases h3:m/16384=3
 ·rw[if_pos (by rw[ae];exact h3),tU P]
  constructor
  ·rintro(h|⟨_,_,h⟩)
   ·have:=(hP (by exact Ar.Z5 [.d 64 .x4 .x0 .x1,.d 64 .x1 .x3 .x2] (.l .x0 .ko) rfl (Ar.md _ 64 rfl) (Ar.md _ 64 rfl)) (by exact Ar.Z3 [.d 64 .x2 .x0 .x1] (.l .x0 .ko) rfl (Ar.md _ 64 rfl))).mp h
    have:=CV q (m/64%64) (m%64)
    omega
   ·exact h
  ·intro h;exact .inr ⟨h3,by exact Ar.Z9 [.q .x1 .n3,.D (.q .x0 .n1) (.q .x5 .n0),.d 4 .x8 .x5 .x6,.d 4096 .x6 .x7 .x2,.d 4 .x4 .x0 .x1,.d 16384 .x1 .x3 .x2] (.q .x5 .n0) rfl h3 mv.2 (Ar.md _ 4 rfl) (Ar.md _ 4096 rfl) (Ar.md _ 4 rfl) (Ar.md _ 16384 rfl),h⟩
 ·rw[if_neg (by rw[ae];exact h3)]
  have:¬ (m/16384=3∧m/4096%4=0∧∃i u v,vF q i (m/64%64) (m%64) u v):=λh=>h3 h.1
  simp only[this,or_false]
  rw[hP (by exact Ar.Z5 [.d 64 .x4 .x0 .x1,.d 64 .x1 .x3 .x2] (.l .x0 .ko) rfl (Ar.md _ 64 rfl) (Ar.md _ 64 rfl)) (by exact Ar.Z3 [.d 64 .x2 .x0 .x1] (.l .x0 .ko) rfl (Ar.md _ 64 rfl))]
  simp only[ng,not_false_eq_true,true_and,hm]
  unfold qc
  by_cases hk:q.c (m/64%64)%8=1
  ·rw[if_pos (by rw[ae];exact hk)]
   simp only[hk,true_and,ne_eq,not_true_eq_false,false_and,or_false]
   refine gw (vd P ha hg hk ng) λw2 w1 w0=>?_
   have w1:fE q (m/64%64) (m%64) 1=(Nat.beq (ez q (m/64%64) (m%64)) 1&&mY q (m%64)):=w1
   have w0:fE q (m/64%64) (m%64) 0=(Nat.beq (ez q (m/64%64) (m%64)) 1&&!mY q (m%64)):=w0
   have hz:m/16384=0∨m/16384=1∨m/16384=2:=by exact Ar.Z3 [.l .x0 (.n 65536),.N (.q .x1 .n3),.d 16384 .x1 .x2 .x0] (.D (.q .x1 .n0) (.D (.q .x1 .n1) (.q .x1 .n2))) rfl hm h3 (Ar.md _ 16384 rfl)
   rcases hz with h|h|h
   ·rw[h,w0,Bool.and_eq_true,ae,Bool.not_eq_true',← Bool.not_eq_true]
    have:m/4096%4=0:=by exact Ar.Z9 [.q .x1 .n0,.D (.q .x0 .n1) (.q .x5 .n0),.d 4 .x8 .x5 .x6,.d 4096 .x6 .x7 .x2,.d 4 .x4 .x0 .x1,.d 16384 .x1 .x3 .x2] (.q .x5 .n0) rfl h mv.2 (Ar.md _ 4 rfl) (Ar.md _ 4096 rfl) (Ar.md _ 4 rfl) (Ar.md _ 16384 rfl)
    simp only[this]
    constructor
    ·rintro(⟨_,_,h1⟩|⟨h1,h2,h3,_⟩)
     ·exact False.elim (Ar.Zx 0 0 [] [] [] [.q .n0 .n1] .F rfl rfl h1)
     ·exact⟨by exact Ar.Z1 [.q (.a .n0 .n1) .x0] (.q .x0 .n1) rfl h3,λhe=>h1 ⟨by exact Ar.Z1 [.q (.a .n0 .n1) .x0] (.q .x0 .n1) rfl h3,he⟩⟩
    ·intro h;right;exact⟨λhh=>h.2 hh.2,by exact Ar.Z1 [.q .x0 .n1] (.N (.q .x0 .n0)) rfl h.1,by exact Ar.Z1 [.q .x0 .n1] (.q (.a .n0 .n1) .x0) rfl h.1,trivial⟩
   ·rw[h,w1,Bool.and_eq_true,ae]
    constructor
    ·rintro(⟨h1,h2,_⟩|⟨h1,h2,h3,_⟩)
     ·exact⟨h1,h2⟩
     ·exact absurd h3.symm (Ez q _ _)
    ·intro h;left;exact⟨h.1,h.2,rfl⟩
   ·rw[h,w2,ae]
    have:m/4096%4=0:=by exact Ar.Z9 [.q .x1 .n2,.D (.q .x0 .n1) (.q .x5 .n0),.d 4 .x8 .x5 .x6,.d 4096 .x6 .x7 .x2,.d 4 .x4 .x0 .x1,.d 16384 .x1 .x3 .x2] (.q .x5 .n0) rfl h mv.2 (Ar.md _ 4 rfl) (Ar.md _ 4096 rfl) (Ar.md _ 4 rfl) (Ar.md _ 16384 rfl)
    simp only[this]
    constructor
    ·intro h;exact Ar.Zx 0 1 [_,_] [] [_] [.D (.C (.q .x0 .n1) (.C (.x 0) (.q .n2 .n1))) (.C (.N (.C (.q .x0 .n1) (.x 0))) (.C (.N (.q .x0 .n0)) (.C (.q (.a .n2 .n1) .x0) (.x 1))))] (.q .x0 .n3) rfl rfl h
    ·intro h;right;exact⟨λhh=>by exact Ar.Z1 [.q .x0 .n3,.q .x0 .n1] .F rfl h hh.1,by exact Ar.Z1 [.q .x0 .n3] (.N (.q .x0 .n0)) rfl h,by exact Ar.Z1 [.q .x0 .n3] (.q (.a .n2 .n1) .x0) rfl h,trivial⟩
  ·rw[if_neg (by rw[ae];exact hk)]
   have hc:=tf oa
   simp only[hk,false_and,false_or,ne_eq,not_false_eq_true,true_and]
   rw[Bool.and_eq_true,ae,← hc]
   constructor
   ·intro h;exact⟨h.2.1,h.1⟩
   ·intro h;exact⟨h.2,h.1,by exact Ar.Z9 [.q .x1 .n0,.D (.q .x0 .n1) (.q .x5 .n0),.d 4 .x8 .x5 .x6,.d 4096 .x6 .x7 .x2,.d 4 .x4 .x0 .x1,.d 16384 .x1 .x3 .x2] (.q .x5 .n0) rfl h.1 mv.2 (Ar.md _ 4 rfl) (Ar.md _ 4096 rfl) (Ar.md _ 4 rfl) (Ar.md _ 16384 rfl)⟩
theorem hX(P:Pos q)(h:m∈d9 q):0<m∧m<65536∧uZ m=true∧m/64%64<q.N∧m%64<q.N∧nU q (m/64%64)∧¬ nU q (m%64):=by
 have hN:=P.Kt
 unfold d9 at h
 rw[List.mem_append,qz P.bd,jO P]at h
 rcases h with⟨h1,h2,h3,h4⟩|⟨h1,h2,h3,i,u,v,hc⟩
 ·refine pd ((hP (by exact Ar.Z5 [.d 64 .x4 .x0 .x1,.d 64 .x1 .x3 .x2] (.l .x0 .ko) rfl (Ar.md _ 64 rfl) (Ar.md _ 64 rfl)) (by exact Ar.Z3 [.d 64 .x2 .x0 .x1] (.l .x0 .ko) rfl (Ar.md _ 64 rfl))).mp h4) λm1 _ _ m4 m5=>?_
  have ne:m/64%64≠m%64:=λe=>m1 (e▸h2)
  refine⟨by exact Ar.Z5 [.N (.q .x0 .x3),.d 64 .x4 .x0 .x1,.d 64 .x1 .x3 .x2] (.l .n0 .x2) rfl ne (Ar.md _ 64 rfl) (Ar.md _ 64 rfl),m4,?_,h1,h3,h2,m1⟩
  unfold uZ
  simp only[Bool.and_eq_true,Bool.not_eq_true',aq,Bool.or_eq_true,ae,ae]
  refine⟨ne,?_⟩
  rcases m5 with⟨_,h|h⟩|h
  ·left;exact Ar.Z6 [.q .x0 .n1,.q .x1 .n1,.d 4 .x5 .x4 .x1,.d 16384 .x1 .x3 .x2] (.q .x4 .n1) rfl h.1 h.2.2 (Ar.md _ 4 rfl) (Ar.md _ 16384 rfl)
  ·right;exact h.2.2.2
  ·right;exact h.2.2.2
 ·refine pd (iT P hc) λn1 n2 n3 n4 n5=>?_
  refine dd (pP P hc) λk1 k2=>?_
  have gf:q.c (m%64)=0:=lu hc n2 (by unfold fV;simp only[Bool.or_eq_true,Bool.and_eq_true,Bool.and_eq_true,aC,aC,aC,aC];exact Ar.Z8 [.q .x4 .x0,.D (.C (.q .x7 (.a .x4 .n2)) (.C (.q .x2 (.a .x4 .n1)) (.l .x7 .x1))) (.C (.q (.a .x7 .n2) .x4) (.C (.q (.a .x2 .n1) .x4) (.l .x1 .x7))),.d 64 .x3 .x4 .x5,.d 64 .x5 .x7 .x6] (.D (.C (.l .x4 .x7) (.l .x7 .x1)) (.C (.l .x1 .x7) (.l .x7 .x4))) rfl k1 n5 (Ar.md _ 64 rfl) (Ar.md _ 64 rfl))
  have ka:=P.jP.oB q.s P.s2
  refine⟨by exact Ar.Z3 [.q .x0 .n3,.d 16384 .x0 .x2 .x1] (.l .n0 .x1) rfl h1 (Ar.md _ 16384 rfl),h2,?_,n1,n2,?_,λho=>ho.1 gf⟩
  ·unfold uZ
   simp only[Bool.and_eq_true,Bool.not_eq_true',aq,Bool.or_eq_true,ae,ae]
   exact⟨by lia,.inr h3⟩
  ·rw[k1];unfold nU;rw[ka];exact Ar.Z3 [.d 8 .x1 .x2 (.a .n6 (.m 8 .x0))] (.C (.N (.q (.a .n6 (.m 8 .x0)) .n0)) (.q .x1 .x0)) rfl (Ar.md _ 8 rfl)
end
end
section
open PySem
section
variable {q:St} {a b e g t k m n z i p u v w x y:Nat} {o o':Nat→Bool}
structure Mx (q:St) (m p u v:Nat):Prop where
 tr:m∈d9 q
 ep:m/16384=2→hY q (m%64) p∧q.c p=1+8*(1-q.s)∧q.c (m%64)=0
 cs:m/16384=3→∃i,vF q i (m/64%64) (m%64) u v
theorem mC(P:Pos q)(h:m∈d9 q):(m/16384=3→∃i u v,vF q i (m/64%64) (m%64) u v)∧(m/16384≠3→qc q (q.c (m/64%64)%8) (m/64%64) (m%64) (m/16384)=true):=by
 refine FL (hX P h) λ_ h2 h3 h4 h5 h6 h7=>?_
 have:=(o_ P h2 h3 h4 h5 h6 h7).mp h
 constructor
 ·intro hz
  rw[if_pos (by rw[ae];exact hz)]at this
  exact(tU P).mp this
 ·intro hz
  rwa [if_neg (by rw[ae];exact hz)]at this
theorem CO(P:Pos q)(h:qc q k a g 2=true):∃p,hY q g p∧q.c p=1+8*(1-q.s)∧q.c g=0:=by
 unfold qc at h
 split at h
 ·unfold fE at h
  rw[show Nat.beq 2 2=true from rfl,if_pos rfl,Bool.and_eq_true,Bool.and_eq_true,decide_eq_true_eq]at h
  rcases P.ep with h0|⟨e,p,h1,h2,h3,_⟩
  ·exact False.elim (Ar.h_ [.Q (.c .x0) .y0,.Q .y0 (.g .n1)] .F rfl h.2.2 h0)
  ·have:g=e:=by have:=h1.ep;exact Ar.uB [.Q (.c .x0) .y0,.Q .y0 (.c .x1)] (.q .x0 .x1) rfl h.2.2 this
   subst this;exact⟨p,h1,h2,h3⟩
 ·exact bY h
theorem CZ(P:Pos q)(h:m∈d9 q):∃p u v,Mx q m p u v:=by
 refine dd (mC P h) λk3 k0=>?_
 by_cases h3:m/16384=3
 ·refine zT (k3 h3) λi u v hc=>?_
  exact⟨0,u,v,h,λh2=>by exact False.elim (Ar.Z3 [.q .x0 .n3,.q .x0 .n2,.d 16384 .x0 .x2 .x1] .F rfl h3 h2 (Ar.md _ 16384 rfl)),λ_=>⟨i,hc⟩⟩
 ·by_cases h2:m/16384=2
  ·have:=k0 h3
   rw[h2]at this
   obtain⟨p,hp⟩:=CO P this
   exact⟨p,0,0,h,λ_=>hp,λh=>absurd h h3⟩
  ·exact⟨0,0,0,h,λh=>absurd h h2,λh=>absurd h h3⟩
theorem wq(P:Pos q)(h:vF q i a g u v):a/q.F=g/q.F∧a/q.F=u/q.F∧a/q.F=v/q.F∧((g%q.F=a%q.F+2∧v%q.F=a%q.F+1∧u%q.F=q.F-1∧g%q.F<u%q.F)∨(g%q.F+2=a%q.F∧v%q.F+1=a%q.F∧u%q.F=0∧u%q.F<g%q.F)):=by
 refine ic (eL P.bd h.i4 h.ct) λn1 n2 n3 n4=>?_
 have f3:=P.bd.f3
 have r3:=P.bd.r3
 have hb:q.N-q.F=q.F*(q.R-1):=by show q.F*q.R-q.F=_;simp only[Nat.mul_sub,Nat.mul_one]
 obtain⟨B,hB⟩:∃B,i/2*(q.N-q.F)=q.F*B:=⟨i/2*(q.R-1),by simp only[hb,Nat.mul_left_comm]⟩
 unfold dm at n2
 rw[hB]at n1 n2
 have F0:0<q.F:=by exact Ar.Z1 [.e .n3 .x0] (.l .n0 .x0) rfl f3
 have a2:q.F/2<q.F:=by exact Ar.Z3 [.e .n3 .x0,.d 2 .x1 .x2 .x0] (.l .x1 .x0) rfl f3 (Ar.md _ 2 rfl)
 have i2:i%2=0∨i%2=1:=by exact Ar.Z3 [.d 2 .x2 .x0 .x1] (.D (.q .x0 .n0) (.q .x0 .n1)) rfl (Ar.md _ 2 rfl)
 have ca:=gE F0 a2 n1
 refine Or.elim (i2) (λh0=>?_) λh0=>?_
 ·have:=n3 h0
  simp only[h0]at n2
  have n2:u=q.F*B+(q.F-1):=n2
  have cu:=gE F0 (by exact Ar.Z2 [.e .n3 .x0,.s .x1 .x0 .n1] (.l .x1 .x0) rfl f3 (Ar.ts _ _)) n2
  have cg:=gE (x:=g) (p:=q.F/2+2) (r:=B) F0 (by exact Ar.Zx 0 13 [] [] [_,_,_,_,_,_,_,_,_,_,_,_,_] [.q .x4 (.a .x8 .x9),.q .x0 .n0,.q .x6 (.a .x8 .bc),.q .x6 (.a .x8 .ed),.I (.q .x0 .n0) (.C (.q .x3 (.a .x4 .n2)) (.C (.q .x5 (.a .x4 .n1)) (.l .x3 .x6))),.s .ed .x7 .n1,.d 2 .x9 .bU .x7,.d 2 .x2 .x0 .x1] (.l (.a .x9 .n2) .x7) rfl rfl n1 h0 (by assumption) n2 n3 (Ar.ts _ _) (Ar.md _ 2 rfl) (Ar.md _ 2 rfl)) (by exact Ar.Jp [.q .x4 (.a .x7 .x8),.q .x0 .n0,.I (.q .x0 .n0) (.C (.q .x3 (.a .x4 .n2)) (.C (.q .x5 (.a .x4 .n1)) (.l .x3 .x6))),.d 2 .x8 .bU .x9,.d 2 .x2 .x0 .x1] (.q .x3 (.a .x7 (.a .x8 .n2))) rfl n1 h0 n3 (Ar.md _ 2 rfl) (Ar.md _ 2 rfl))
  have cv:=gE (x:=v) (p:=q.F/2+1) (r:=B) F0 (by exact Ar.Z3 [.e .n3 .x0,.d 2 .x1 .x2 .x0] (.l (.a .x1 .n1) .x0) rfl f3 (Ar.md _ 2 rfl)) (by exact Ar.Jp [.q .x4 (.a .x7 .x8),.q .x0 .n0,.I (.q .x0 .n0) (.C (.q .x3 (.a .x4 .n2)) (.C (.q .x5 (.a .x4 .n1)) (.l .x3 .x6))),.d 2 .x8 .bU .x9,.d 2 .x2 .x0 .x1] (.q .x5 (.a .x7 (.a .x8 .n1))) rfl n1 h0 n3 (Ar.md _ 2 rfl) (Ar.md _ 2 rfl))
  rw[ca.1,ca.2,cg.1,cg.2,cu.1,cu.2,cv.1,cv.2]
  refine⟨rfl,rfl,rfl,.inl ⟨rfl,rfl,rfl,by exact Ar.Zx 0 13 [] [] [_,_,_,_,_,_,_,_,_,_,_,_,_] [.q .x4 (.a .x7 .x8),.q .x0 .n0,.q .x6 (.a .x7 .bc),.q .x6 (.a .x7 .ed),.I (.q .x0 .n0) (.C (.q .x3 (.a .x4 .n2)) (.C (.q .x5 (.a .x4 .n1)) (.l .x3 .x6))),.d 2 .x8 .bU .x9,.d 2 .x2 .x0 .x1] (.l (.a .x8 .n2) .ed) rfl rfl n1 h0 (by assumption) n2 n3 (Ar.md _ 2 rfl) (Ar.md _ 2 rfl)⟩⟩
 ·have:=n4 h0
  rw[h0]at n2
  have n2:u=q.F*B+0:=n2
  have cu:=gE F0 (by exact Ar.Z1 [.l .n0 .x0] (.l .n0 .x0) rfl F0) n2
  have cg:=gE (x:=g) (p:=q.F/2-2) (r:=B) F0 (by exact Ar.Z7 [.l .x1 .x0,.C (.q .x3 .x1) (.q .x4 .x5),.s .x6 .x1 .n2,.d 2 .x1 .x2 .x0] (.l .x6 .x0) rfl a2 ca (Ar.ts _ _) (Ar.md _ 2 rfl)) (by exact Ar.Zx 0 14 [] [] [_,_,_,_,_,_,_,_,_,_,_,_,_,_] [.q .ed (.a .bc .bU),.q .x9 (.a .bc .x8),.q .x6 .bc,.C (.q .x5 .x8) (.q .x4 .x3),.C (.q (.a .x2 .n2) .x9) (.C (.q (.a .x1 .n1) .x9) (.l .ed .x2)),.s .x0 .x8 .n2,.d 2 .x8 .x7 .ig] (.q .x2 (.a .bc .x0)) rfl rfl (by assumption) n1 hB ca this (Ar.ts _ _) (Ar.md _ 2 rfl))
  have cv:=gE (x:=v) (p:=q.F/2-1) (r:=B) F0 (by exact Ar.Zx 0 14 [] [] [_,_,_,_,_,_,_,_,_,_,_,_,_,_] [.q .ig (.a .ed .bc),.q .x6 .ed,.l .x9 .x8,.C (.q .x5 .x9) (.q .x4 .x3),.C (.q (.a .x2 .n2) .bU) (.C (.q (.a .x1 .n1) .bU) (.l .ig .x2)),.s .x0 .x9 .n1,.d 2 .x9 .x7 .x8] (.l .x0 .x8) rfl rfl (by assumption) hB a2 ca this (Ar.ts _ _) (Ar.md _ 2 rfl)) (by exact Ar.Zx 0 14 [] [] [_,_,_,_,_,_,_,_,_,_,_,_,_,_] [.q .ig (.a .ed .bc),.q .bU (.a .ed .x9),.q .x6 .ed,.C (.q .x5 .x9) (.q .x4 .x3),.C (.q (.a .x2 .n2) .bU) (.C (.q (.a .x1 .n1) .bU) (.l .ig .x2)),.s .x0 .x9 .n1,.d 2 .x9 .x7 .x8] (.q .x1 (.a .ed .x0)) rfl rfl (by assumption) n1 hB ca this (Ar.ts _ _) (Ar.md _ 2 rfl))
  rw[ca.1,ca.2,cg.1,cg.2,cu.1,cu.2,cv.1,cv.2]
  refine⟨rfl,rfl,rfl,.inr ⟨by exact Ar.Zx 0 16 [] [] [_,_,_,_,_,_,_,_,_,_,_,_,_,_,_,_] [.q (.v 15) (.a (.v 14) .ig),.q .ed (.a (.v 14) .bc),.q .x8 (.v 14),.C (.q .x7 .bc) (.q .x6 .x5),.C (.q (.a .x4 .n2) .ed) (.C (.q (.a .x3 .n1) .ed) (.l (.v 15) .x4)),.C (.q .x2 .x1) (.q .x0 .x5),.s .x1 .bc .n2,.d 2 .bc .x9 .bU] (.q (.a .x1 .n2) .bc) rfl rfl (by assumption) n1 hB ca this cg (Ar.ts _ _) (Ar.md _ 2 rfl),by exact Ar.Zx 0 16 [] [] [_,_,_,_,_,_,_,_,_,_,_,_,_,_,_,_] [.q (.v 15) (.a (.v 14) .ig),.q .ed (.a (.v 14) .bc),.q .x8 (.v 14),.C (.q .x7 .bc) (.q .x6 .x5),.C (.q (.a .x4 .n2) .ed) (.C (.q (.a .x3 .n1) .ed) (.l (.v 15) .x4)),.C (.q .x2 .x1) (.q .x0 .x5),.s .x1 .bc .n1,.d 2 .bc .x9 .bU] (.q (.a .x1 .n1) .bc) rfl rfl (by assumption) n1 hB ca this cv (Ar.ts _ _) (Ar.md _ 2 rfl),rfl,by exact Ar.Zx 0 16 [] [] [_,_,_,_,_,_,_,_,_,_,_,_,_,_,_,_] [.q (.v 15) (.a (.v 14) .ig),.q .ed (.a (.v 14) .bc),.q .x8 (.v 14),.C (.q .x7 .bc) (.q .x6 .x5),.C (.q (.a .x4 .n2) .ed) (.C (.q (.a .x3 .n1) .ed) (.l (.v 15) .x4)),.C (.q .x2 .x1) (.q .x0 .x5),.s .x1 .bc .n2,.d 2 .bc .x9 .bU] (.l .n0 .x1) rfl rfl (by assumption) n1 hB ca this cg (Ar.ts _ _) (Ar.md _ 2 rfl)⟩⟩
structure Sq (q:St) (m p u v:Nat):Prop where
 lt:m<65536
 aN:m/64%64<q.N
 gN:m%64<q.N
 oa:nU q (m/64%64)
 ng:¬ nU q (m%64)
 ne:m/64%64≠m%64
 e2:m/16384=2→p<q.N∧p≠m%64∧p≠m/64%64∧q.c p=1+8*(1-q.s)∧q.c (m%64)=0∧q.c (m/64%64)%8=1
 e3:m/16384=3→u<q.N∧v<q.N∧u≠m%64∧u≠m/64%64∧v≠m%64∧v≠m/64%64∧u≠v∧q.c u=4+8*q.s∧q.c v=0∧q.c (m%64)=0∧m/64%64=q.k q.s
theorem dZ(P:Pos q)(M:Mx q m p u v):Sq q m p u v:=by
 refine FL (hX P M.tr) λ_ h2 h3 h4 h5 h6 h7=>?_
 have hs:=P.s2
 refine⟨h2,h4,h5,h6,h7,λe=>h7 (e▸h6),λhz=>?_,λhz=>?_⟩
 ·refine gw (M.ep hz) λe1 e2 e3=>?_
  have hg:=(mC P M.tr).2 (by exact Ar.Z3 [.q .x0 .n2,.d 16384 .x0 .x2 .x1] (.N (.q .x0 .n3)) rfl hz (Ar.md _ 16384 rfl))
  have hk:q.c (m/64%64)%8=1:=by
   unfold qc at hg
   split at hg
   ·rename_i hk;rwa [ae]at hk
   ·rw[hz]at hg;exact bY hg
  refine⟨e1.pN,λe=>by rw[e,e3]at e2;exact Ar.Z2 [.q .n0 (.a .n1 (.m 8 .x0)),.s .x0 .n1 .x1] .F rfl e2 (Ar.ts _ _),λe=>?_,e2,e3,hk⟩
  have:=h6.2
  rw[← e,e2]at this;exact Ar.Z4 [.q .x2 .x3,.d 8 .x2 .x0 (.a .n1 (.m 8 .x1)),.s .x1 .n1 .x3] .F rfl this (Ar.md _ 8 rfl) (Ar.ts _ _)
 ·obtain⟨i,hc⟩:=M.cs hz
  refine pd (iT P hc) λn1 n2 n3 n4 n5=>?_
  refine dd (pP P hc) λk1 k2=>?_
  have inn:∀x,((m/64%64<x∧x<u)∨(u<x∧x<m/64%64))→fV (m/64%64) u x=true:=λx hx=>by
   unfold fV;simp only[Bool.or_eq_true,Bool.and_eq_true,Bool.and_eq_true,aC,aC,aC,aC];exact hx
  exact⟨n3,n4,by exact Ar.Z8 [.q .x4 .x0,.D (.C (.q .x7 (.a .x4 .n2)) (.C (.q .x2 (.a .x4 .n1)) (.l .x7 .x1))) (.C (.q (.a .x7 .n2) .x4) (.C (.q (.a .x2 .n1) .x4) (.l .x1 .x7))),.d 64 .x3 .x4 .x5,.d 64 .x5 .x7 .x6] (.N (.q .x1 .x7)) rfl k1 n5 (Ar.md _ 64 rfl) (Ar.md _ 64 rfl),by exact Ar.Z8 [.q .x3 .x7,.D (.C (.q .x0 (.a .x3 .n2)) (.C (.q .x5 (.a .x3 .n1)) (.l .x0 .x6))) (.C (.q (.a .x0 .n2) .x3) (.C (.q (.a .x5 .n1) .x3) (.l .x6 .x0))),.d 64 .x4 .x3 .x2,.d 64 .x2 .x0 .x1] (.N (.q .x6 .x3)) rfl k1 n5 (Ar.md _ 64 rfl) (Ar.md _ 64 rfl),by exact Ar.Z8 [.q .x3 .x7,.D (.C (.q .x0 (.a .x3 .n2)) (.C (.q .x5 (.a .x3 .n1)) (.l .x0 .x6))) (.C (.q (.a .x0 .n2) .x3) (.C (.q (.a .x5 .n1) .x3) (.l .x6 .x0))),.d 64 .x4 .x3 .x2,.d 64 .x2 .x0 .x1] (.N (.q .x5 .x0)) rfl k1 n5 (Ar.md _ 64 rfl) (Ar.md _ 64 rfl),by exact Ar.Z8 [.q .x3 .x7,.D (.C (.q .x0 (.a .x3 .n2)) (.C (.q .x5 (.a .x3 .n1)) (.l .x0 .x6))) (.C (.q (.a .x0 .n2) .x3) (.C (.q (.a .x5 .n1) .x3) (.l .x6 .x0))),.d 64 .x4 .x3 .x2,.d 64 .x2 .x0 .x1] (.N (.q .x5 .x3)) rfl k1 n5 (Ar.md _ 64 rfl) (Ar.md _ 64 rfl),by exact Ar.Z8 [.q .x3 .x7,.D (.C (.q .x0 (.a .x3 .n2)) (.C (.q .x5 (.a .x3 .n1)) (.l .x0 .x6))) (.C (.q (.a .x0 .n2) .x3) (.C (.q (.a .x5 .n1) .x3) (.l .x6 .x0))),.d 64 .x4 .x3 .x2,.d 64 .x2 .x0 .x1] (.N (.q .x6 .x5)) rfl k1 n5 (Ar.md _ 64 rfl) (Ar.md _ 64 rfl),k2,lu hc n4 (inn _ (by exact Ar.Z8 [.q .x3 .x7,.D (.C (.q .x0 (.a .x3 .n2)) (.C (.q .x5 (.a .x3 .n1)) (.l .x0 .x6))) (.C (.q (.a .x0 .n2) .x3) (.C (.q (.a .x5 .n1) .x3) (.l .x6 .x0))),.d 64 .x4 .x3 .x2,.d 64 .x2 .x0 .x1] (.D (.C (.l .x3 .x5) (.l .x5 .x6)) (.C (.l .x6 .x5) (.l .x5 .x3))) rfl k1 n5 (Ar.md _ 64 rfl) (Ar.md _ 64 rfl))),lu hc n2 (inn _ (by exact Ar.Z8 [.q .x4 .x0,.D (.C (.q .x7 (.a .x4 .n2)) (.C (.q .x2 (.a .x4 .n1)) (.l .x7 .x1))) (.C (.q (.a .x7 .n2) .x4) (.C (.q (.a .x2 .n1) .x4) (.l .x1 .x7))),.d 64 .x3 .x4 .x5,.d 64 .x5 .x7 .x6] (.D (.C (.l .x4 .x7) (.l .x7 .x1)) (.C (.l .x1 .x7) (.l .x7 .x4))) rfl k1 n5 (Ar.md _ 64 rfl) (Ar.md _ 64 rfl))),k1⟩
theorem CU(P:Pos q)(M:Mx q m p u v):LM q m p u v:=by
 have S:=dZ P M
 refine⟨S.lt,S.aN,S.gN,λhz=>⟨(S.e2 hz).1,(M.ep hz).1.st⟩,λhz=>?_⟩
 obtain⟨i,hc⟩:=M.cs hz
 refine pd (iT P hc) λn1 n2 n3 n4 n5=>?_
 refine ic (wq P hc) λc1 c2 c3 c4=>?_
 have du:=Nat.div_add_mod u q.F
 have dg:=Nat.div_add_mod (m%64) q.F
 rw[← c2,c1]at du
 refine⟨n3,n4,?_⟩
 rw[Nat.mul_comm (m%64/q.F)]
 generalize q.F*(m%64/q.F)=B at *
 rcases n5 with⟨a1,a2,a3⟩|⟨a1,a2,a3⟩<;>rcases c4 with⟨_,_,k3,k4⟩|⟨_,_,k3,k4⟩
 ·exact .inl ⟨by exact Ar.Z7 [.q (.a .x0 .x1) .x2,.q .x2 (.a .x5 .n2),.d 64 .x6 .x5 .x4,.d 64 .x4 .x2 .x3] (.l .x5 .x2) rfl dg a1 (Ar.md _ 64 rfl) (Ar.md _ 64 rfl),by exact Ar.Z5 [.q (.a .x0 .x1) .x2,.q .x1 .x3,.s .x3 .x4 .n1] (.q .x2 (.a .x0 .x3)) rfl du k3 (Ar.ts _ _),by exact Ar.Z8 [.q (.a .x0 .x1) .x2,.q .x2 (.a .x5 .n2),.q .x7 (.a .x5 .n1),.d 64 .x6 .x5 .x4,.d 64 .x4 .x2 .x3] (.q (.a .x7 .n1) .x2) rfl dg a1 a2 (Ar.md _ 64 rfl) (Ar.md _ 64 rfl)⟩
 ·exact Ar.Zx 0 14 [] [] [_,_,_,_,_,_,_,_,_,_,_,_,_,_] [.q (.a .ig .ed) .bc,.q (.a .ig .bU) .x9,.l .x9 .bc,.q (.a .x5 .n1) .x6,.q .ed .n0,.s .x2 .x1 .n1,.d 64 .x3 .x4 .x7,.d 64 .x7 .x9 .x8] (.D (.C (.l .x4 .x9) (.C (.q .bc (.a .ig .x2)) (.q (.a .x0 .n1) .x9))) (.C (.l .x9 .x4) (.C (.q .bc .ig) (.q .x0 (.a .x9 .n1))))) rfl rfl du dg a3 (by assumption) k3 (Ar.ts _ _) (Ar.md _ 64 rfl) (Ar.md _ 64 rfl)
 ·exact Ar.Zx 0 14 [] [] [_,_,_,_,_,_,_,_,_,_,_,_,_,_] [.q (.a .ig .ed) .bc,.q (.a .ig .bU) .x9,.l .bc .x9,.q .bU (.a .x6 .n2),.q .x5 (.a .x6 .n1),.q .ed .x4,.l .bU .ed,.d 64 .x1 .x2 .x7,.s .x4 .x3 .n1,.d 64 .x7 .x9 .x8] (.D (.C (.l .x2 .x9) (.C (.q .bc (.a .ig .x4)) (.q (.a .x0 .n1) .x9))) (.C (.l .x9 .x2) (.C (.q .bc .ig) (.q .x0 (.a .x9 .n1))))) rfl rfl du dg a3 (by assumption) (by assumption) k3 k4 (Ar.md _ 64 rfl) (Ar.ts _ _) (Ar.md _ 64 rfl)
 ·exact .inr ⟨by exact Ar.Z7 [.q (.a .x0 .x1) .x2,.q (.a .x2 .n2) .x5,.d 64 .x6 .x5 .x4,.d 64 .x4 .x2 .x3] (.l .x2 .x5) rfl dg a1 (Ar.md _ 64 rfl) (Ar.md _ 64 rfl),by exact Ar.Z3 [.q (.a .x0 .x1) .x2,.q .x1 .n0] (.q .x2 .x0) rfl du k3,by exact Ar.Z8 [.q (.a .x0 .x1) .x2,.q (.a .x2 .n2) .x5,.q (.a .x7 .n1) .x5,.d 64 .x6 .x5 .x4,.d 64 .x4 .x2 .x3] (.q .x7 (.a .x2 .n1)) rfl dg a1 a2 (Ar.md _ 64 rfl) (Ar.md _ 64 rfl)⟩
noncomputable def z3(q:St)(m:Nat):Nat:=ph q m+8*q.s
theorem fW(P:Pos q)(M:Mx q m p u v)(x:Nat):az q m p u v x=if x=m%64 then z3 q m else if x=m/64%64 then 0 else if m/16384=2∧x=p then 0 else if m/16384=3∧x=u then 0 else if m/16384=3∧x=v then 4+8*q.s else q.c x:=by
 have S:=dZ P M
 have hca:=tf S.oa
 have z4:m/16384%4=m/16384:=by have:=S.lt;exact Ar.Z5 [.l .x0 (.n 65536),.d 4 .x4 .x1 .x2,.d 16384 .x2 .x3 .x0] (.q .x1 .x2) rfl this (Ar.md _ 4 rfl) (Ar.md _ 16384 rfl)
 unfold az z3 ph upd
 rw[z4]
 simp only[ae]
 by_cases h1:m/16384=1
 ·simp only[h1,if_true]
  by_cases hx:x=m%64
  ·simp only[hx,if_true];exact Ar.Z6 [.d 4 .x4 .x0 .x1,.d 4096 .x1 .x3 .x2] (.q (.a (.a .n2 .x0) (.r .x5 8)) (.a (.a .x0 .n2) (.m 8 .x5))) rfl (Ar.md _ 4 rfl) (Ar.md _ 4096 rfl)
  ·simp only[hx,if_false,show¬ ((1:Nat)=2) by decide,show¬ ((1:Nat)=3) by decide,false_and]
 ·by_cases h2:m/16384=2
  ·refine ic (S.e2 h2) λ_ p2 p3 _=>?_
   simp only[h2,show¬ ((2:Nat)=1) by decide,show¬ ((2:Nat)=3) by decide,if_false,if_true,true_and,false_and]
   by_cases hx:x=m%64
   ·have:x≠p:=by exact Ar.Z5 [.q .x4 .x1,.N (.q .x0 .x1),.d 64 .x3 .x1 .x2] (.N (.q .x4 .x0)) rfl hx p2 (Ar.md _ 64 rfl)
    simp only[this,if_false,hx,if_true]
    rw[if_neg (by exact Ar.Z5 [.q .x0 .x1,.N (.q .x0 .x4),.d 64 .x3 .x1 .x2] (.N (.q .x1 .x4)) rfl hx this (Ar.md _ 64 rfl))];exact Ar.Z4 [.q .x0 (.a .x1 (.m 8 .x3)),.d 8 .x2 .x1 .x0] (.q .x0 (.a .x1 (.m 8 .x3))) rfl hca (Ar.md _ 8 rfl)
   ·by_cases hp:x=p
    ·simp only[hp,if_true,p2,p3,if_false]
    ·simp only[hx,hp,if_false]
  ·by_cases h3:m/16384=3
   ·refine M5 (S.e3 h3) λ_ _ e3 e4 e5 e6 e7 _=>?_
    simp only[h3,show¬ ((3:Nat)=1) by decide,show¬ ((3:Nat)=2) by decide,if_false,if_true,true_and,false_and]
    by_cases hv:x=v
    ·rw[hv,if_pos rfl,if_neg e5,if_neg e6,if_neg (by exact Ar.Z2 [.N (.q .x0 .x1)] (.N (.q .x1 .x0)) rfl e7),if_pos rfl];exact Ar.Z1 [] (.q (.a .n4 (.r .x0 8)) (.a .n4 (.m 8 .x0))) rfl
    ·by_cases hu:x=u
     ·rw[hu,if_neg e7,if_pos rfl,if_neg e3,if_neg e4,if_pos rfl]
     ·rw[if_neg hv,if_neg hu]
      by_cases hx:x=m%64
      ·rw[if_pos hx,if_pos hx];exact Ar.Z4 [.q .x0 (.a .x1 (.m 8 .x3)),.d 8 .x2 .x1 .x0] (.q .x0 (.a .x1 (.m 8 .x3))) rfl hca (Ar.md _ 8 rfl)
      ·rw[if_neg hx,if_neg hx]
       by_cases ha:x=m/64%64
       ·rw[if_pos ha,if_pos ha]
       ·rw[if_neg ha,if_neg ha,if_neg hu,if_neg hv]
   ·simp only[h1,h2,h3,if_false,false_and]
    by_cases hx:x=m%64
    ·rw[if_pos hx,if_pos hx];exact Ar.Z4 [.q .x0 (.a .x1 (.m 8 .x3)),.d 8 .x2 .x1 .x0] (.q .x0 (.a .x1 (.m 8 .x3))) rfl hca (Ar.md _ 8 rfl)
    ·rw[if_neg hx,if_neg hx]
theorem qs(P:Pos q)(M:Mx q m p u v):1≤ph q m∧ph q m≤6:=by
 have S:=dZ P M
 have:=P.kinds S.aN S.oa.1
 unfold ph
 split<;>first|exact Ar.Z5 [.d 4 .x4 .x0 .x1,.d 4096 .x1 .x3 .x2] (.C (.e .n1 (.a .x0 .n2)) (.e (.a .x0 .n2) .n6)) rfl (Ar.md _ 4 rfl) (Ar.md _ 4096 rfl)|exact Ar.Z3 [.C (.e .n1 .x0) (.C (.e .x0 .n6) (.l .x2 .n2)),.d 8 .x2 .x0 .x1] (.C (.e .n1 .x0) (.e .x0 .n6)) rfl this (Ar.md _ 8 rfl)
theorem kG(P:Pos q)(M:Mx q m p u v)(x:Nat):(!Nat.beq (az q m p u v x) 0)=dQ q (m/16384) (m/64%64) (m%64) p u v x:=by
 have S:=dZ P M
 have hkb:=qs P M
 rw[fW P M x]
 unfold dQ
 rw[Bool.eq_iff_iff,Bool.not_eq_true',aq,Bool.or_eq_true,ae x (m%64)]
 by_cases hx:x=m%64
 ·simp only[hx,if_true,or_true,iff_true];unfold z3;exact Ar.Z2 [.C (.e .n1 .x0) (.e .x0 .n6)] (.N (.q (.a .x0 (.m 8 .x1)) .n0)) rfl hkb
 ·rw[if_neg hx]
  simp only[hx,or_false]
  by_cases ha:x=m/64%64
  ·rw[if_pos ha]
   have e:Nat.beq x (m/64%64)=true:=by simp only[ae];exact ha
   simp only[e,Bool.not_true,Bool.and_false,Bool.false_and,Bool.false_or]
   have nv:m/16384=3→Nat.beq x v=false:=λh3=>by simp only[aq];have:=(S.e3 h3).2.2.2.2.2.1;exact Ar.Z7 [.q .x0 .x1,.N (.q .x6 .x1),.d 64 .x5 .x1 .x2,.d 64 .x2 .x4 .x3] (.N (.q .x0 .x6)) rfl ha this (Ar.md _ 64 rfl) (Ar.md _ 64 rfl)
   by_cases h2:m/16384=2
   ·rw[h2];simp
   ·by_cases h3:m/16384=3
    ·rw[nv h3,h3];simp
    ·rw[if_neg (by rw[ae];exact h2),if_neg (by rw[ae];exact h3)];simp
  ·rw[if_neg ha]
   have e:Nat.beq x (m/64%64)=false:=by simp only[aq];exact ha
   simp only[e,Bool.not_false,Bool.and_true]
   by_cases h2:m/16384=2
   ·simp only[h2,true_and,show¬ ((2:Nat)=3) by decide,false_and,if_false]
    rw[show Nat.beq 2 2=true from rfl,if_pos rfl,Bool.and_eq_true,dF,Bool.not_eq_true',aq]
    split
    ·rename_i hp;simp[hp]
    ·rename_i hp;simp[hp]
   ·simp only[h2,false_and,if_false]
    rw[if_neg (show¬ (Nat.beq (m/16384) 2=true) by rw[ae];exact h2)]
    by_cases h3:m/16384=3
    ·simp only[h3,true_and]
     rw[show Nat.beq 3 3=true from rfl,if_pos rfl,Bool.or_eq_true,Bool.and_eq_true,dF,Bool.not_eq_true',aq,ae]
     have huv:=(S.e3 h3).2.2.2.2.2.2.1
     by_cases hu:x=u
     ·rw[if_pos hu];simp only[hu,not_true_eq_false,and_false,false_or];simp;exact huv
     ·rw[if_neg hu]
      by_cases hv:x=v
      ·rw[if_pos hv];simp[hv]
      ·rw[if_neg hv];simp[hu,hv]
    ·simp only[h3,false_and,if_false]
     rw[if_neg (show¬ (Nat.beq (m/16384) 3=true) by rw[ae];exact h3),dF]
theorem MQ(s:Nat):(4+8*s)/8=s:=by exact Ar.Z3 [.d 8 .x0 .x2 (.a .n4 (.m 8 .x1))] (.q .x0 .x1) rfl (Ar.md _ 8 rfl)
theorem Iz{s:Nat}{G:Prop}(h:s<2)(e:s=1-s):G:=by exact False.elim (Ar.Z2 [.q .x0 .x1,.s .x1 .n1 .x0] .F rfl e (Ar.ts _ _))
theorem yx(P:Pos q)(M:Mx q m p u v)(x:Nat):nG (az q m p u v) (1-q.s) x=true↔q.sd (1-q.s) x=true∧x≠m%64∧(m/16384=2→x≠p):=by
 have S:=dZ P M
 have hkb:=qs P M
 have hs:=P.s2
 have oa:=S.oa
 rw[cU]
 unfold nG
 simp only[Bool.and_eq_true,Bool.not_eq_true',aq,ae,fW P M x]
 by_cases hx:x=m%64
 ·rw[if_pos hx];unfold z3;simp only[hx,not_true_eq_false,false_and,and_false,iff_false];exact Ar.Zx 0 14 [] [] [_,_,_,_,_,_,_,_,_,_,_,_,_,_] [.C (.e .n1 .x6) (.e .x6 .n6),.d 16384 .x8 .x0 .bU,.d 64 .x9 .x7 .bU,.d 8 .x4 .x1 .ed,.s .bc .n1 .x5,.d 8 .x3 .x2 (.a .x6 (.m 8 .x5))] (.B (.C (.N (.q (.a .x6 (.m 8 .x5)) .n0)) (.q .x3 .bc)) (.C (.C (.N (.q .ed .n0)) (.q .x4 .bc)) (.C (.N (.q .x7 .x7)) (.I (.q .x8 .n2) (.N (.q .x7 .ig)))))) rfl rfl hkb (Ar.md _ 16384 rfl) (Ar.md _ 64 rfl) (Ar.md _ 8 rfl) (Ar.ts _ _) (Ar.md _ 8 rfl)
 ·rw[if_neg hx]
  by_cases ha:x=m/64%64
  ·rw[if_pos ha,ha]
   have:=oa.2
   constructor
   ·intro h;exact absurd rfl h.1
   ·intro h;exact Iz hs (this.symm.trans h.1.2)
  ·rw[if_neg ha]
   by_cases h2:m/16384=2∧x=p
   ·rw[if_pos h2];simp[h2]
   ·rw[if_neg h2]
    have c2:m/16384=2→x≠p:=λhz hp=>h2 ⟨hz,hp⟩
    by_cases h3:m/16384=3∧x=u
    ·rw[if_pos h3]
     have cu:=(S.e3 h3.1).2.2.2.2.2.2.2.1
     rw[h3.2,cu]
     constructor
     ·intro h;exact absurd rfl h.1
     ·intro h;exact Iz hs ((MQ _).symm.trans h.1.2)
    ·rw[if_neg h3]
     by_cases h4:m/16384=3∧x=v
     ·rw[if_pos h4]
      have cv:=(S.e3 h4.1).2.2.2.2.2.2.2.2.1
      rw[h4.2,cv]
      constructor
      ·intro h;exact Iz hs ((MQ _).symm.trans h.2)
      ·intro h;exact absurd rfl h.1.1
     ·rw[if_neg h4]
      constructor
      ·intro h;exact⟨h,hx,c2⟩
      ·intro h;exact h.1
theorem fX(P:Pos q)(M:Mx q m p u v){x:Nat}(h1:q.sd (1-q.s) x=true)(h2:x≠m%64)(h3:m/16384=2→x≠p):az q m p u v x=q.c x:=by
 have S:=dZ P M
 have hs:=P.s2
 rw[cU]at h1
 have oa:=S.oa
 rw[fW P M x,if_neg h2,if_neg (λha=>by rw[ha]at h1;exact Iz hs (oa.2.symm.trans h1.2)),if_neg (λh=>h3 h.1 h.2),if_neg (λh=>by have cu:=(S.e3 h.1).2.2.2.2.2.2.2.1;rw[h.2,cu]at h1;exact Iz hs ((MQ _).symm.trans h1.2)),
  if_neg (λh=>by have cv:=(S.e3 h.1).2.2.2.2.2.2.2.2.1;rw[h.2,cv]at h1;exact h1.1 rfl)]
theorem nx(P:Pos q)(M:Mx q m p u v):Code q.N (az q m p u v):=λx hx=>by
 have hkb:=qs P M
 have hs:=P.s2
 rw[fW P M x]
 split
 ·right;unfold z3;exact Ar.Z4 [.C (.e .n1 .x1) (.e .x1 .n6),.l .x3 .n2,.d 8 .x2 .x0 (.a .x1 (.m 8 .x3))] (.C (.e .n1 .x0) (.C (.e .x0 .n6) (.l .x2 .n2))) rfl hkb hs (Ar.md _ 8 rfl)
 ·split
  ·exact .inl rfl
  ·split
   ·exact .inl rfl
   ·split
    ·exact .inl rfl
    ·split
     ·right;exact Ar.Z3 [.l .x1 .n2,.d 8 .x2 .x0 (.a .n4 (.m 8 .x1))] (.C (.e .n1 .x0) (.C (.e .x0 .n6) (.l .x2 .n2))) rfl hs (Ar.md _ 8 rfl)
     ·exact P.jP.code x hx
end
end
section
open PySem
section
variable {q:St} {a b e g t k m n z i p u v w x y d F N:Nat} {o o':Nat→Bool}
theorem lF(h:k=1∨k=2∨k=6)(hm:m%8=k):bk F N m a b o=bk F N m a b o':=by
 unfold bk;rw[hm]
 rcases h with rfl|rfl|rfl<;>rfl
theorem dA(h:k=3∨k=4∨k=5)(hm:m%8=k):bk F N m a b o=(gu k F a b&&ik F N o a b):=by
 unfold bk;rw[hm]
 rcases h with rfl|rfl|rfl<;>rfl
theorem jb(h:k=1∨k=2∨k=6)(hm:m%8=k)(hh:bk F N m a b o=true):eV F a b x=false:=by
 cases hb:eV F a b x with
 |false=>rfl
 |true=>
  exfalso
  refine ay (cq.mp hb) λd r1 r2=>?_
  have r:=cN r1 r2
  refine dD (oV r hb) λj j1 j2 _=>?_
  refine gw (ud r) λf1 f2 f3=>?_
  have sx:sX d=0∨sX d=1∨sX d = -1:=by unfold sX;split<;>simp
  have sy:sY d=0∨sY d=1∨sY d = -1:=by unfold sY;split<;>simp
  have dx:dst (a%F) (b%F)=0∨dst (a%F) (b%F)=dt F a b:=by
   unfold dst;rcases sx with h|h|h<;>rw[h]at f2<;>first|exact Ar.Z6 [.l .x0 .x1,.Q (.s (.c .x2) (.c .x3)) (.r (.c .x1) 0),.s .x5 .x2 .x3,.s .x4 .x3 .x2] (.D (.q (.a .x4 .x5) .n0) (.q (.a .x4 .x5) .x1)) rfl j2 f2 (Ar.ts _ _) (Ar.ts _ _)|exact Ar.Z5 [.Q (.s (.c .x1) (.c .x2)) (.r (.c .x0) 1),.s .x4 .x1 .x2,.s .x3 .x2 .x1] (.D (.q (.a .x3 .x4) .n0) (.q (.a .x3 .x4) .x0)) rfl f2 (Ar.ts _ _) (Ar.ts _ _)|exact Ar.Z5 [.Q (.s (.c .x1) (.c .x2)) (.R (.c .x0) 1),.s .x4 .x1 .x2,.s .x3 .x2 .x1] (.D (.q (.a .x3 .x4) .n0) (.q (.a .x3 .x4) .x0)) rfl f2 (Ar.ts _ _) (Ar.ts _ _)
  have dy:dst (a/F) (b/F)=0∨dst (a/F) (b/F)=dt F a b:=by
   unfold dst;rcases sy with h|h|h<;>rw[h]at f3<;>first|exact Ar.Z6 [.l .x0 .x1,.Q (.s (.c .x2) (.c .x3)) (.r (.c .x1) 0),.s .x5 .x2 .x3,.s .x4 .x3 .x2] (.D (.q (.a .x4 .x5) .n0) (.q (.a .x4 .x5) .x1)) rfl j2 f3 (Ar.ts _ _) (Ar.ts _ _)|exact Ar.Z5 [.Q (.s (.c .x1) (.c .x2)) (.r (.c .x0) 1),.s .x4 .x1 .x2,.s .x3 .x2 .x1] (.D (.q (.a .x3 .x4) .n0) (.q (.a .x3 .x4) .x0)) rfl f3 (Ar.ts _ _) (Ar.ts _ _)|exact Ar.Z5 [.Q (.s (.c .x1) (.c .x2)) (.R (.c .x0) 1),.s .x4 .x1 .x2,.s .x3 .x2 .x1] (.D (.q (.a .x3 .x4) .n0) (.q (.a .x3 .x4) .x0)) rfl f3 (Ar.ts _ _) (Ar.ts _ _)
  unfold bk at hh
  rw[hm]at hh
  simp only[i5]at dx dy j2
  rcases h with rfl|rfl|rfl
  ·have hh:fu F (m/8) a b=true:=hh
   unfold fu at hh
   simp only[Bool.and_eq_true,ae]at hh
   have h2:dst (a/F) (b/F)=1:=by
    have:=hh.2
    split at this<;>simp only[ae]at this<;>unfold dst<;>first|exact Ar.Z4 [.q .x0 (.a .x1 .n1),.s .x3 .x0 .x1,.s .x2 .x1 .x0] (.q (.a .x2 .x3) .n1) rfl this (Ar.ts _ _) (Ar.ts _ _)|exact Ar.Z4 [.q .x0 (.a .x1 .n1),.s .x3 .x1 .x0,.s .x2 .x0 .x1] (.q (.a .x2 .x3) .n1) rfl this (Ar.ts _ _) (Ar.ts _ _)
   rw[hh.1,h2]at j2
   simp at j2;exact Ar.Z1 [.e .n1 .x0,.q .x0 .n0] .F rfl j1 j2
  ·have hh:sD F a b=true:=hh
   unfold sD at hh
   simp only[Bool.or_eq_true,Bool.and_eq_true,Bool.and_eq_true,ae,ae,ae,ae]at hh
   rcases hh with⟨h1,h2⟩|⟨h1,h2⟩<;>rw[h1,h2]at dx dy<;>simp at dx dy
  ·have hh:nr F a b=true:=hh
   unfold nr at hh
   simp only[Bool.and_eq_true,Bool.and_eq_true,b5,b5]at hh
   split at j2<;>first|exact Ar.Z3 [.e .n1 .x0,.C (.e .x1 .n1) (.e .x2 .n1),.l .x0 .x2] .F rfl j1 hh.1 j2|exact Ar.Z3 [.e .n1 .x0,.C (.e .x1 .n1) (.e .x2 .n1),.l .x0 .x1] .F rfl j1 hh.1 j2
theorem w_(F N m a:Nat)(o:Nat→Bool):bk F N m a a o=false:=by
 have d0:∀x,dst x x=0:=λx=>by unfold dst;exact Ar.Z2 [.s .x0 .x1 .x1] (.q (.a .x0 .x0) .n0) rfl (Ar.ts _ _)
 have lf:∀k,gu k F a a=false:=λk=>by
  have r:=λd=>@ue F d a
  refine dd (tY r) λl1 l2=>?_
  unfold gu;split<;>simp[l1,l2]
 unfold bk w9
 split
 ·unfold fu;rw[d0];rfl
 ·unfold sD;rw[d0,d0];rfl
 ·unfold nr;rw[d0,d0];rfl
 ·rw[lf];rfl
theorem o6(P:Pos q)(ht:t<2)(hx:x<q.N):g6 q t x=true↔q.sd (1-t) x=true∧gu (q.c x%8) q.F (q.k t) x=true:=by
 unfold g6
 rw[Bool.and_eq_true]
 constructor
 ·rintro⟨h1,h2⟩
  refine⟨h2,?_⟩
  rw[cU]at h2
  obtain⟨k1,k6,_⟩:=P.kinds hx h2.1
  obtain⟨k,hk⟩:∃k,q.c x%8=k:=⟨_,rfl⟩
  simp only[qt hk]at h1
  rw[hk]at k1 k6 ⊢
  have hc:k=1∨k=2∨k=3∨k=4∨k=5∨k=6:=by exact Ar.Z1 [.e .x0 .n6,.e .n1 .x0] (.D (.q .x0 .n1) (.D (.q .x0 .n2) (.D (.q .x0 .n3) (.D (.q .x0 .n4) (.D (.q .x0 .n5) (.q .x0 .n6)))))) rfl k6 k1
  rcases hc with rfl|rfl|rfl|rfl|rfl|rfl<;>simp[gu,Nat.beq]at h1 ⊢<;>exact h1
 ·rintro⟨h2,h1⟩
  refine⟨?_,h2⟩
  rw[cU]at h2
  obtain⟨k1,k6,_⟩:=P.kinds hx h2.1
  obtain⟨k,hk⟩:∃k,q.c x%8=k:=⟨_,rfl⟩
  simp only[qt hk]
  rw[hk]at k1 k6 h1
  have hc:k=1∨k=2∨k=3∨k=4∨k=5∨k=6:=by exact Ar.Z1 [.e .x0 .n6,.e .n1 .x0] (.D (.q .x0 .n1) (.D (.q .x0 .n2) (.D (.q .x0 .n3) (.D (.q .x0 .n4) (.D (.q .x0 .n5) (.q .x0 .n6)))))) rfl k6 k1
  rcases hc with rfl|rfl|rfl|rfl|rfl|rfl<;>simp[gu,Nat.beq]at h1 ⊢<;>exact h1
theorem kC:di q x=true↔q.sd (1-q.s) x=true∧bk q.F q.N (q.c x) x (q.k q.s) q.oc=true:=by
 unfold di dk;simp only[Bool.and_eq_true];exact And.comm
noncomputable def dj(q:St):List Nat:=cz q.N (bD q.F q.N (1-q.s) (q.k q.s) q.c q.c)
theorem w6(q:St):dj q=cz q.N (di q):=by
 unfold dj cz
 refine List.filter_congr λx _=>?_
 unfold bD di dk
 exact Bool.and_comm _ _
theorem jJ:t∈dj q↔t<q.N∧di q t=true:=by rw[w6,b7]
theorem Bk(h1:aO q.N (di q)=true)(h2:manyN q.N (di q)=false):∃t,dj q=[t]∧t<q.N∧di q t=true:=by
 refine dD (oT h1 h2) λt t1 t2 t3=>?_
 refine⟨t,?_,t1,t2⟩
 have hm:∀x,x∈dj q↔x=t:=λx=>by
  rw[jJ]
  constructor
  ·rintro⟨a,b⟩;rw[t3 x a,ae]at b;exact b
  ·rintro rfl;exact⟨t1,t2⟩
 have nd:(dj q).Nodup:=by unfold dj cz;exact List.nodup_range.filter _
 cases hl:dj q with
 |nil=>have:=(hm t).mpr rfl;rw[hl]at this;cases this
 |cons a l=>
  have ha:a=t:=(hm a).mp (by rw[hl];exact .head _)
  cases l with
  |nil=>rw[ha]
  |cons b l=>
   have hb:b=t:=(hm b).mp (by rw[hl];exact .tail _ (.head _))
   rw[hl,List.nodup_cons]at nd
   exact absurd (by rw[ha,hb];exact .head _) nd.1
theorem Bj(h:aO q.N (di q)=false):dj q=[]:=by
 cases hl:dj q with
 |nil=>rfl
 |cons a l=>
  have:=jJ.mp (show a∈dj q by rw[hl];exact .head _)
  rw[← Bool.not_eq_true,aB]at h
  exact absurd ⟨a,this⟩ h
theorem Bi(h:manyN q.N (di q)=true):∃a b l,dj q=a::b::l:=by
 unfold manyN at h
 rw[aB]at h
 obtain⟨j,j1,j2⟩:=h
 rw[Bool.and_eq_true,aB]at j2
 obtain⟨j2,i,i1,i2⟩:=j2
 have m1:j∈dj q:=jJ.mpr ⟨j1,j2⟩
 have m2:i∈dj q:=jJ.mpr ⟨by exact Ar.Z3 [.l .x0 .x1,.l .x2 .x0] (.l .x2 .x1) rfl j1 i1,i2⟩
 match hl:dj q with
 | []=>rw[hl]at m1;cases m1
 | [a]=>rw[hl,List.mem_singleton]at m1 m2;exact False.elim (Ar.Z3 [.l .x0 .x1,.q .x0 .x2,.q .x1 .x2] .F rfl i1 m2 m1)
 |a::b::l=>exact⟨a,b,l,rfl⟩
theorem jc(P:Pos q)(M:Mx q m p u v){r:Nat}:bD q.F q.N (1-q.s) r (az q m p u v) (az q m p u v) x=true↔(q.sd (1-q.s) x=true∧x≠m%64∧(m/16384=2→x≠p))∧bk q.F q.N (q.c x) x r (dQ q (m/16384) (m/64%64) (m%64) p u v)=true:=by
 unfold bD
 rw[Bool.and_eq_true,yx P M]
 have:(λx=>!Nat.beq (az q m p u v x) 0)=dQ q (m/16384) (m/64%64) (m%64) p u v:=funext λx=>kG P M x
 rw[this]
 constructor
 ·rintro⟨h1,h2⟩;rw[fX P M h1.1 h1.2.1 h1.2.2]at h2;exact⟨h1,h2⟩
 ·rintro⟨h1,h2⟩;rw[← fX P M h1.1 h1.2.1 h1.2.2]at h2;exact⟨h1,h2⟩
theorem fL(hz:z≠3):dQ q z a g p u v x=true↔(q.oc x=true∧x≠a∧(z=2→x≠p))∨x=g:=by
 unfold dQ
 rw[Bool.or_eq_true,ae x g,if_neg (show¬ (Nat.beq z 3=true) by rw[ae];exact hz)]
 by_cases h2:z=2
 ·rw[if_pos (show Nat.beq z 2=true by rw[ae];exact h2)]
  simp only[Bool.and_eq_true,Bool.not_eq_true',aq,h2,forall_const,and_assoc]
 ·rw[if_neg (show¬ (Nat.beq z 2=true) by rw[ae];exact h2)]
  simp only[Bool.and_eq_true,Bool.not_eq_true',aq,h2,false_implies,and_true]
theorem KN(P:Pos q)(M:Mx q m p u v)(hz:m/16384≠3)(ht:t<q.N)(hc:di q t=true) :
  (!Nat.beq (az q m p u v t) (q.c t)||!bk q.F q.N (az q m p u v t) t (q.k q.s) (λx=>!Nat.beq (az q m p u v x) 0)) =
   ((Nat.beq (m%64) t||eV q.F (q.k q.s) t (m%64))||(Nat.beq (m/16384) 2&&(Nat.beq p t||eV q.F (q.k q.s) t p))):=by
 have S:=dZ P M
 have hs:=P.s2
 have hkb:=qs P M
 refine dd (kC.mp hc) λc1 c2=>?_
 have c1':=cU.mp c1
 have eo:(λx=>!Nat.beq (az q m p u v x) 0)=dQ q (m/16384) (m/64%64) (m%64) p u v:=funext λx=>kG P M x
 rw[eo]
 by_cases hg:t=m%64
 ·have:Nat.beq (az q m p u v t) (q.c t)=false:=by
   rw[aq,fW P M t,if_pos hg];unfold z3;exact Ar.Z6 [.C (.e .n1 .x1) (.e .x1 .n6),.C (.N (.q .x2 .n0)) (.q .x3 .x5),.s .x5 .n1 .x0,.d 8 .x3 .x4 .x2] (.N (.q (.a .x1 (.m 8 .x0)) .x2)) rfl hkb c1' (Ar.ts _ _) (Ar.md _ 8 rfl)
  rw[this,show Nat.beq (m%64) t=true by rw[ae];exact hg.symm];rfl
 ·by_cases hp:m/16384=2∧t=p
  ·refine pd (S.e2 hp.1) λ_ p2 p3 p4 _=>?_
   have:Nat.beq (az q m p u v t) (q.c t)=false:=by
    rw[aq,fW P M t,if_neg hg,if_neg (by rw[hp.2];exact p3),if_pos hp];lia
   rw[this,show Nat.beq p t=true by rw[ae];exact hp.2.symm,hp.1]
   simp[Nat.beq]
  ·have hp':m/16384=2→t≠p:=λh1 h2=>hp ⟨h1,h2⟩
   simp only[fX P M c1 hg hp',Nat.beq_refl,Bool.not_true,Bool.false_or]
   have g0:Nat.beq (m%64) t=false:=by simp only[aq];exact λh=>hg h.symm
   have p0:(Nat.beq (m/16384) 2&&(Nat.beq p t||eV q.F (q.k q.s) t p))=false:=by
    simp only[← Bool.not_eq_true,Bool.and_eq_true,ae,Bool.or_eq_true,ae]
    rintro⟨h2,h3⟩
    refine Or.elim (h3) (λh3=>?_) λh3=>?_
    ·exact hp' h2 h3.symm
    ·refine pd (S.e2 h2) λpN _ _ p4 _=>?_
     have pc:q.oc p=true:=dF.mpr (by exact Ar.Z3 [.q .x0 (.a .n1 (.m 8 .x1)),.s .x1 .n1 .x2] (.N (.q .x0 .n0)) rfl p4 (Ar.ts _ _))
     refine gw (P.kinds ht c1'.1) λk1 k6 _=>?_
     obtain⟨k,hk⟩:∃k,q.c t%8=k:=⟨_,rfl⟩
     rw[hk]at k1 k6
     by_cases hst:k=1∨k=2∨k=6
     ·have:=jb (x:=p) hst hk c2
      rw[g9]at this;rw[this]at h3;exact bY h3
     ·have hln:k=3∨k=4∨k=5:=by exact Ar.Z6 [.e .x5 .n6,.e .n1 .x5,.C (.N (.q .x0 .n0)) (.q .x1 .x3),.N (.D (.q .x5 .n1) (.D (.q .x5 .n2) (.q .x5 .n6))),.s .x3 .n1 .x4,.d 8 .x1 .x2 .x0] (.D (.q .x5 .n3) (.D (.q .x5 .n4) (.q .x5 .n5))) rfl k6 k1 c1' hst (Ar.ts _ _) (Ar.md _ 8 rfl)
      rw[dA hln hk,Bool.and_eq_true,bO]at c2
      have:=c2.2 p pN (by rw[g9];exact h3)
      rw[this]at pc;exact bY pc
   simp only[p0,Bool.or_false,g0,Bool.false_or]
   refine gw (P.kinds ht c1'.1) λk1 k6 _=>?_
   obtain⟨k,hk⟩:∃k,q.c t%8=k:=⟨_,rfl⟩
   rw[hk]at k1 k6
   by_cases hst:k=1∨k=2∨k=6
   ·have:=jb (x:=m%64) hst hk c2
    rw[g9]at this
    rw[this,lF (o':=q.oc) hst hk,c2];rfl
   ·have hln:k=3∨k=4∨k=5:=by exact Ar.Z6 [.e .x5 .n6,.e .n1 .x5,.C (.N (.q .x0 .n0)) (.q .x1 .x3),.N (.D (.q .x5 .n1) (.D (.q .x5 .n2) (.q .x5 .n6))),.s .x3 .n1 .x4,.d 8 .x1 .x2 .x0] (.D (.q .x5 .n3) (.D (.q .x5 .n4) (.q .x5 .n5))) rfl k6 k1 c1' hst (Ar.ts _ _) (Ar.md _ 8 rfl)
    rw[dA hln hk,Bool.and_eq_true]at c2
    rw[dA hln hk,c2.1,Bool.true_and]
    have c3:=bO.mp c2.2
    rw[Bool.eq_iff_iff,Bool.not_eq_true',← Bool.not_eq_true,bO]
    constructor
    ·intro hno
     refine Classical.byContradiction λhb=>hno λx hx hbx=>?_
     have hxg:x≠m%64:=λe=>hb (by simp only[g9,← e];exact hbx)
     cases hbe:dQ q (m/16384) (m/64%64) (m%64) p u v x with
     |false=>rfl
     |true=>
      rw[fL hz]at hbe
      refine Or.elim (hbe) (λh1=>?_) λh1=>?_
      ·rw[c3 x hx hbx]at h1;cases h1.1
      ·exact absurd h1 hxg
    ·intro hb hno
     have:=hno (m%64) S.gN (by rw[g9];exact hb)
     rw[← Bool.not_eq_true,fL hz]at this
     exact this (.inr rfl)
theorem vM(P:Pos q)(M:Mx q m p u v)(hz:m/16384≠3):gm q (dj q) m p u v=pC q (q.c (m/64%64)%8) (m/16384) (m%64) p:=by
 have S:=dZ P M
 have hs:=P.s2
 have kk:Nat.beq (m/64%64) (q.k q.s)=Nat.beq (q.c (m/64%64)%8) 6:=by
  rw[Bool.eq_iff_iff,ae,ae]
  constructor
  ·intro h;simp only[h,P.jP.oB q.s hs];exact Ar.Z3 [.d 8 .x2 .x0 (.a .n6 (.m 8 .x1))] (.q .x0 .n6) rfl (Ar.md _ 8 rfl)
  ·intro h;exact P.jP.yd _ q.s S.aN hs (by have:=S.oa.2;exact Ar.Z4 [.q .x0 .n6,.q .x2 .x3,.d 8 .x2 .x0 .x1] (.q .x1 (.a .n6 (.m 8 .x3))) rfl h this (Ar.md _ 8 rfl))
 unfold gm pC
 rw[kk]
 cases hc:aO q.N (di q)with
 |false=>rw[Bj hc];rfl
 |true=>
  cases hm:manyN q.N (di q)with
  |true=>
   refine zT (Bi hm) λx y l hl=>?_
   rw[hl]
   have:∀x,ij q x=false:=λx=>by unfold ij;rw[hm];rfl
   simp only[this]
   show(false||(_||false))=(false||_||(if Nat.beq (m/16384) 2=true then(false||false)else false))
   cases Nat.beq (q.c (m/64%64)%8) 6<;>cases Nat.beq (m/16384) 2<;>rfl
  |false=>
   refine dD (Bk hc hm) λt hl t1 t2=>?_
   refine dD (oT hc hm) λt' u1 u2 u3=>?_
   have ht':t'=t:=by have:=u3 t t1;rw[t2]at this;have:=this.symm;simp only[ae]at this;exact this.symm
   subst ht'
   have at1:∀x,x<q.N→ij q x=(Nat.beq x t'||eV q.F (q.k q.s) t' x):=λx hx=>by
    unfold ij Cu
    simp only[hm,Bool.not_false,Bool.true_and,u3 x hx]
    congr 1
    rw[Bool.eq_iff_iff,aB]
    constructor
    ·rintro⟨w,w1,w2⟩
     rw[Bool.and_eq_true,u3 w w1,ae]at w2
     rw[← w2.1];exact w2.2
    ·intro hb;exact⟨t',u1,by simp only[u2,hb];rfl⟩
   rw[hl]
   show(false||(Nat.beq (q.c (m/64%64)%8) 6||(!Nat.beq (az q m p u v t') (q.c t')||!bk q.F q.N (az q m p u v t') t' (q.k q.s) (λx=>!Nat.beq (az q m p u v x) 0))))=_
   rw[KN P M hz t1 t2,Bool.not_true]
   have pb:m/16384=2→ij q p=(Nat.beq p t'||eV q.F (q.k q.s) t' p):=λh=>at1 p (S.e2 h).1
   rw[at1 _ S.gN]
   by_cases h2:m/16384=2
   ·rw[pb h2,h2]
    cases Nat.beq (q.c (m/64%64)%8) 6<;>simp[Nat.beq]
   ·have n2:Nat.beq (m/16384) 2=false:=by simp only[aq];exact h2
    rw[n2]
    cases Nat.beq (q.c (m/64%64)%8) 6<;>simp
theorem Ab(P:Pos q)(M:Mx q m p u v)(hz:m/16384≠3)(ha:gm q (dj q) m p u v=true)(hk:m/64%64≠q.k q.s)(hx:x<q.N)(hc:di q x=true)(h1:x≠m%64)(h2:m/16384=2→x≠p) :
  bk q.F q.N (q.c x) x (q.k q.s) (dQ q (m/16384) (m/64%64) (m%64) p u v)=false:=by
 have eo:(λx=>!Nat.beq (az q m p u v x) 0)=dQ q (m/16384) (m/64%64) (m%64) p u v:=funext λx=>kG P M x
 have mem:x∈dj q:=jJ.mpr ⟨hx,hc⟩
 unfold gm at ha
 rw[show Nat.beq (m/64%64) (q.k q.s)=false by rw[aq];exact hk,Bool.false_or]at ha
 match hl:dj q with
 | []=>rw[hl]at mem;cases mem
 | [t]=>
  rw[hl]at ha mem
  have:x=t:=by simpa using mem
  subst this
  have ha:(false||(!Nat.beq (az q m p u v x) (q.c x)||!bk q.F q.N (az q m p u v x) x (q.k q.s) (λx=>!Nat.beq (az q m p u v x) 0)))=true:=ha
  rw[fX P M (kC.mp hc).1 h1 h2,Nat.beq_refl,eo]at ha
  simpa using ha
 |a::b::l=>rw[hl]at ha;exact bY ha
end
end
section
open PySem
section
variable {q:St} {a b e g t k m n z i p u v w x y d F N:Nat} {o o':Nat→Bool}
theorem AS(h:eV F a g y=true):2≤dt F a g:=by
 refine ay (cq.mp h) λd r1 r2=>?_
 refine dD (oV (cN r1 r2) h) λj j1 j2 _=>?_
 exact Ar.Z2 [.e .n1 .x0,.l .x0 .x1] (.e .n2 .x1) rfl j1 j2
theorem BG(h:dt F a g≤1):eV F a g y=false:=by
 cases hb:eV F a g y with
 |false=>rfl
 |true=>have:=AS hb;exact False.elim (Ar.Z1 [.e .x0 .n1,.e .n2 .x0] .F rfl h this)
theorem sM(P:Pos q)(ha:a<q.N)(hg:g<q.N)(hc:q.c a≠0∧q.c a/8=q.s)(h:qc q (q.c a%8) a g z=true)(hy:y<q.N)(hb:eV q.F a g y=true):q.oc y=false:=by
 have F0:0<q.F:=by have:=P.bd.f3;exact Ar.Z1 [.e .n3 .x0] (.l .n0 .x0) rfl this
 refine gw (P.kinds ha hc.1) λk1 k6 _=>?_
 obtain⟨k,hk⟩:∃k,q.c a%8=k:=⟨_,rfl⟩
 have hcode:q.c a=k+8*q.s:=by exact Ar.Z5 [.q .x2 .x4,.C (.N (.q .x0 .n0)) (.q .x1 .x3),.d 8 .x1 .x2 .x0] (.q .x0 (.a .x4 (.m 8 .x3))) rfl hk hc (Ar.md _ 8 rfl)
 rw[hk]at h k1 k6
 unfold qc at h
 split at h
 ·rename_i h1
  rw[ae]at h1
  unfold fE at h
  simp only[Bool.and_eq_true]at h
  have h2:=h.2
  have pwn:fu q.F q.s a g=true→False:=λhp=>by
   have:bk q.F q.N (q.c a) a g q.oc=true:=by
    unfold bk;simp only[hk,h1,hc.2];exact hp
   have:=jb (x:=y) (.inl rfl) (by rw[hk];exact h1) this
   rw[this]at hb;exact bY hb
  have push:iq q a g=true→q.oc y=false:=λhp=>by
   unfold iq at hp
   rw[Bool.and_eq_true,Bool.or_eq_true]at hp
   refine Or.elim (hp.2) (λhp=>?_) λhp=>?_
   ·have e:dt q.F a g≤1:=by
     rw[i5]
     unfold dst
     unfold iL at hp
     split at hp<;>simp only[ae]at hp<;>rw[hp,Nat.add_mod_right,Nat.add_div_right _ F0]<;>split<;>first|exact Ar.Z3 [.s .x2 (.a .x1 .n1) .x1,.s .x0 .x1 (.a .x1 .n1)] (.e (.a .x0 .x2) .n1) rfl (Ar.ts _ _) (Ar.ts _ _)|exact Ar.Z3 [.s .x2 .x1 (.a .x1 .n1),.s .x0 (.a .x1 .n1) .x1] (.e (.a .x0 .x2) .n1) rfl (Ar.ts _ _) (Ar.ts _ _)|lia
    rw[BG e]at hb;exact bY hb
   ·simp only[Bool.and_eq_true,Bool.and_eq_true,Bool.and_eq_true,ae,ae]at hp
    obtain⟨⟨h3,_⟩,_,h5⟩:=hp
    refine ay (cq.mp hb) λd r1 r2=>?_
    have hd:=dG r1
    have e2:∀x,(x+2*q.F)%q.F=x%q.F∧(x+2*q.F)/q.F=x/q.F+2:=λx=>⟨Nat.add_mul_mod_self_right _ _ _,Nat.add_mul_div_right _ _ F0⟩
    have:y=mid q.F q.s a g:=by
     obtain⟨k,r1⟩:=cJ.mp r1
     obtain⟨l,r2⟩:=cJ.mp r2
     have sx:=M1 r1.k1 r2.k1 (gU d hd).1 r1.x r2.x
     have sy:=M3 r1.k1 r2.k1 (gU d hd).2.1 r1.y r2.y
     rcases P.uj with s|s
     ·rw[s]at h3 ⊢
      simp only[o8,ae]at h3
      simp only[CX]
      rw[h3,(e2 a).1]at sx;rw[h3,(e2 a).2]at sy
      exact zu (F:=q.F) (by rw[Nat.add_mod_right];exact sx rfl) (by rw[Nat.add_div_right _ F0];exact sy.1 rfl)
     ·rw[s]at h3 ⊢
      simp only[o9,ae]at h3
      simp only[CY]
      rw[h3,(e2 g).1]at sx;rw[h3,(e2 g).2]at sy
      exact zu (F:=q.F) (by rw[Nat.add_mod_right];exact sx rfl) (by rw[Nat.add_div_right _ F0];exact sy.2 rfl)
    rw[this];exact IC.mpr h5
  cases hp:fu q.F q.s a g with
  |true=>exact(pwn hp).elim
  |false=>
   rw[hp]at h2
   cases hz:Nat.beq z 2 with
   |true=>rw[hz]at h2;exact bY h2
   |false=>rw[hz]at h2;exact push h2
 ·rename_i h1
  rw[ae]at h1
  rw[Bool.and_eq_true,← hcode]at h
  have hh:=h.2
  by_cases hst:k=1∨k=2∨k=6
  ·have:=jb (x:=y) hst hk hh
   rw[this]at hb;exact bY hb
  ·have hln:k=3∨k=4∨k=5:=by exact Ar.Z4 [.e .x0 .n6,.e .n1 .x0,.q .x1 .x0,.N (.D (.q .x0 .n1) (.D (.q .x0 .n2) (.q .x0 .n6))),.d 8 .x3 .x1 .x2] (.D (.q .x0 .n3) (.D (.q .x0 .n4) (.q .x0 .n5))) rfl k6 k1 hk hst (Ar.md _ 8 rfl)
   rw[dA hln hk,Bool.and_eq_true,bO]at hh
   exact hh.2 y hy hb
theorem wL(h1:aS F d a x=true)(h2:aS F d x b=true):dt F a x<dt F a b:=by
 obtain⟨k,r⟩:=cJ.mp h1
 obtain⟨l,r'⟩:=cJ.mp h2
 simp only[r.dt,(r.trans r').dt];exact Nat.lt_add_of_pos_right r'.k1
theorem BH(P:Pos q)(K a:Nat)(hK:K=q.k q.s):∀n,∀s,s<q.N→aS q.F d K s=true→g6 q q.s s=true→(∀y,y<q.N→eV q.F K s y=true→q.oc y=true→y≠a→g6 q q.s y=true)→dt q.F K s=n →
  ∃x,x<q.N∧aS q.F d K x=true∧g6 q q.s x=true∧∀y,y<q.N→eV q.F K x y=true→q.oc y=true→y=a:=by
 intro n
 induction n using Nat.strongRecOn with
 |_ n ih=>
  intro s hs hr hn hall hf
  by_cases hex:∃y,y<q.N∧eV q.F K s y=true∧q.oc y=true∧y≠a
  ·refine FN (hex) λy y1 y2 y3 y4=>?_
   have yr:=(cZ hr).mp y2
   refine ih (dt q.F K y) (by simp only[← hf];exact wL yr.1 yr.2) y y1 yr.1 (hall y y1 y2 y3 y4) (λw w1 w2 w3 w4=>?_) rfl
   have wr:=(cZ yr.1).mp w2
   exact hall w w1 ((cZ hr).mpr ⟨wr.1,cN wr.2 yr.2⟩) w3 w4
  ·refine⟨s,hs,hr,hn,λy y1 y2 y3=>?_⟩
   exact Classical.byContradiction λhne=>hex ⟨y,y1,y2,y3,hne⟩
theorem IZ(P:Pos q)(hx:x<q.N)(h:g6 q q.s x=true):q.oc x=true:=dF.mpr (cU.mp ((o6 P P.s2 hx).mp h).1).1
theorem yl(h:gu k F a b=true):k=3∨k=4∨k=5:=by
 unfold gu at h;split at h<;>simp at h ⊢
theorem uV(P:Pos q)(M:Mx q m p u v)(h3:m/16384≠3)(h2:m/16384≠2)(hk:m/64%64≠q.k q.s)(hans:gm q (dj q) m p u v=true) :
  ib q (m/16384) (m/64%64) (m%64) p=!aO q.N (bD q.F q.N (1-q.s) (q.k q.s) (az q m p u v) (az q m p u v)):=by
 have S:=dZ P M
 have hs:=P.s2
 have kN:=P.jP.jy q.s hs
 have oB:=P.jP.oB q.s hs
 have ock:q.oc (q.k q.s)=true:=dF.mpr (by exact Ar.Z2 [.q .x0 (.a .n6 (.m 8 .x1))] (.N (.q .x0 .n0)) rfl oB)
 have oca:q.oc (m/64%64)=true:=dF.mpr S.oa.1
 have sda:q.sd q.s (m/64%64)=true:=cU.mpr S.oa
 have gk:m%64≠q.k q.s:=λe=>S.ng (by rw[e];unfold nU;exact Ar.Z4 [.q .x0 (.a .n6 (.m 8 .x1)),.d 8 .x2 .x3 .x0] (.C (.N (.q .x0 .n0)) (.q .x2 .x1)) rfl oB (Ar.md _ 8 rfl))
 have clrp:∀y,y<q.N→eV q.F (m/64%64) (m%64) y=true→q.oc y=false:=λy hy hb=>sM P S.aN S.gN S.oa ((mC P M.tr).2 h3) hy hb
 have leg:ib q (m/16384) (m/64%64) (m%64) p=(!gh q q.s (m/64%64)||kP q.F (m/64%64) (m%64) (q.k q.s)):=by
  unfold ib
  rw[if_neg (by rw[ae];exact h3),if_neg (by rw[ae];exact h2),if_neg (by rw[ae];exact hk),sda,Bool.and_true]
  cases gh q q.s (m/64%64)<;>rfl
 rw[leg]
 have held_iff:gh q q.s (m/64%64)=true↔∃s,s<q.N∧g6 q q.s s=true∧eV q.F (q.k q.s) s (m/64%64)=true∧∀y,y<q.N→eV q.F (q.k q.s) s y=true→y≠m/64%64→(q.oc y=true↔g6 q q.s y=true):=by
  unfold gh
  rw[List.any_eq_true]
  have sna:g6 q q.s (m/64%64)=false:=by
   cases hh:g6 q q.s (m/64%64)with
   |false=>rfl
   |true=>have h1:=(cU.mp ((o6 P hs S.aN).mp hh).1).2;have h2:=S.oa.2;exact False.elim (Ar.Z5 [.q .x1 .x4,.q .x1 .x0,.s .x4 .n1 .x0,.d 8 .x1 .x3 .x2] .F rfl h1 h2 (Ar.ts _ _) (Ar.md _ 8 rfl))
  have insA:∀s,eu q q.s s (m/64%64)=eV q.F (q.k q.s) s (m/64%64):=λs=>by unfold eu;simp only[oca,sna];simp
  constructor
  ·rintro⟨s,s1,s2⟩
   rw[b7]at s1
   rw[Bool.and_eq_true,insA]at s2
   refine⟨s,s1.1,s1.2,s2.2,λy hy hb hne=>?_⟩
   have ho:=s2.1
   unfold oS at ho
   rw[Bool.and_eq_true,Bool.not_eq_true']at ho
   refine dD (oT ho.1 ho.2) λw w1 w2 w3=>?_
   have ea:=w3 _ S.aN
   rw[insA,s2.2]at ea
   have ea:=ea.symm
   rw[ae]at ea
   have ey:=w3 y hy
   have:Nat.beq y w=false:=by rw[aq,← ea];exact hne
   simp only[this]at ey
   unfold eu at ey
   rw[hb,Bool.true_and]at ey
   revert ey
   cases q.oc y<;>cases g6 q q.s y<;>simp
  ·rintro⟨s,s1,s2,s3,s4⟩
   refine⟨s,b7.mpr ⟨s1,s2⟩,?_⟩
   have only:∀y,y<q.N→eu q q.s s y=true→y=m/64%64:=λy hy hi=>Classical.byContradiction λhne=>by
    unfold eu at hi
    simp only[Bool.and_eq_true]at hi
    have:=s4 y hy hi.1 hne
    revert this hi
    cases q.oc y<;>cases g6 q q.s y<;>simp
   rw[Bool.and_eq_true,insA]
   refine⟨?_,s3⟩
   unfold oS
   rw[Bool.and_eq_true,Bool.not_eq_true']
   refine⟨aB.mpr ⟨_,S.aN,by rw[insA];exact s3⟩,?_⟩
   rw[← Bool.not_eq_true]
   intro hm
   unfold manyN at hm
   rw[aB]at hm
   obtain⟨j,j1,j2⟩:=hm
   rw[Bool.and_eq_true,aB]at j2
   obtain⟨j2,i,i1,i2⟩:=j2
   have:=only j j1 j2
   have:=only i (by exact Ar.Z8 [.l .x0 .x1,.l .x2 .x0,.q .x0 .x3,.d 64 .x7 .x3 .x4,.d 64 .x4 .x6 .x5] (.l .x2 .x1) rfl j1 i1 this (Ar.md _ 64 rfl) (Ar.md _ 64 rfl)) i2
   exact Ar.Z7 [.l .x0 .x1,.q .x1 .x2,.q .x0 .x2,.d 64 .x6 .x2 .x3,.d 64 .x3 .x5 .x4] .F rfl i1 (by assumption) this (Ar.md _ 64 rfl) (Ar.md _ 64 rfl)
 rw[Bool.eq_iff_iff,Bool.not_eq_true',← Bool.not_eq_true,Bool.or_eq_true,Bool.not_eq_true',← Bool.not_eq_true,held_iff,aB]
 constructor
 · -- safe for the program: safe for the law
  rintro hsafe ⟨x,x1,x2⟩
  rw[jc P M]at x2
  obtain⟨⟨c1,c2,c3⟩,c4⟩:=x2
  have cx:=cU.mp c1
  have ocx:q.oc x=true:=dF.mpr cx.1
  refine gw (P.kinds x1 cx.1) λk1 k6 _=>?_
  obtain⟨k,hkx⟩:∃k,q.c x%8=k:=⟨_,rfl⟩
  rw[hkx]at k1 k6
  have notchk:di q x=false:=by
   cases hc:di q x with
   |false=>rfl
   |true=>rw[Ab P M h3 hans hk x1 hc c2 c3]at c4;exact bY c4
  by_cases hst:k=1∨k=2∨k=6
  ·rw[lF (o':=q.oc) hst hkx]at c4
   rw[kC.mpr ⟨c1,c4⟩]at notchk;exact pF notchk
  ·have hln:k=3∨k=4∨k=5:=by exact Ar.Z6 [.e .x5 .n6,.e .n1 .x5,.C (.N (.q .x0 .n0)) (.q .x1 .x3),.N (.D (.q .x5 .n1) (.D (.q .x5 .n2) (.q .x5 .n6))),.s .x3 .n1 .x4,.d 8 .x1 .x2 .x0] (.D (.q .x5 .n3) (.D (.q .x5 .n4) (.q .x5 .n5))) rfl k6 k1 cx hst (Ar.ts _ _) (Ar.md _ 8 rfl)
   rw[dA hln hkx,Bool.and_eq_true]at c4
   obtain⟨l1,l2⟩:=c4
   rw[g_]at l2
   have l2:=bO.mp l2
   have shut:∃y,y<q.N∧eV q.F (q.k q.s) x y=true∧q.oc y=true:=by
    refine Classical.byContradiction λhn=>?_
    have:di q x=true:=by
     rw[kC,dA hln hkx,Bool.and_eq_true,g_,bO]
     refine⟨c1,l1,λy hy hb=>?_⟩
     cases ho:q.oc y with
     |false=>rfl
     |true=>exact absurd ⟨y,hy,hb,ho⟩ hn
    rw[this]at notchk;exact pF notchk
   have onlyA:∀y,y<q.N→eV q.F (q.k q.s) x y=true→q.oc y=true→y=m/64%64:=λy hy hb ho=>Classical.byContradiction λhne=>by
    have:=l2 y hy hb
    rw[← Bool.not_eq_true,fL h3]at this
    exact this (.inl ⟨ho,hne,λhz=>absurd hz h2⟩)
   refine dD (shut) λy y1 y2 y3=>?_
   have:=onlyA y y1 y2 y3
   subst this
   have snx:g6 q q.s x=true:=(o6 P hs x1).mpr ⟨c1,by rw[hkx,tS];exact l1⟩
   have held:∃s,s<q.N∧g6 q q.s s=true∧eV q.F (q.k q.s) s (m/64%64)=true∧∀y,y<q.N→eV q.F (q.k q.s) s y=true→y≠m/64%64→(q.oc y=true↔g6 q q.s y=true):=
    ⟨x,x1,snx,y2,λw hw hb hne=>⟨λho=>absurd (onlyA w hw hb ho) hne,λhn=>IZ P hw hn⟩⟩
   refine Or.elim (hsafe) (λhsafe=>?_) λhaln=>?_
   ·exact hsafe held
   · -- along the line the mover would be in the way still
    refine ay (cq.mp y2) λe r1 r2=>?_
    unfold kP at haln
    rw[aB]at haln
    refine ay (haln) λd _ hd=>?_
    simp only[Bool.and_eq_true,Bool.or_eq_true,Bool.or_eq_true,ae]at hd
    obtain⟨rg,hd⟩:=hd
    have gbt:aS q.F e (q.k q.s) (m%64)=true→aS q.F e (m%64) x=true→False:=λg1 g2=>by
     have:=l2 _ S.gN (cq.mpr ⟨e,g1,g2⟩)
     rw[← Bool.not_eq_true,fL h3]at this
     exact this (.inr rfl)
    rcases hd with(hd|hd)|hd
    ·have de:d=pq e:=eR hd (cY r1)
     refine Or.elim (jr rg hd gk) (λt1=>?_) λt1=>?_
     ·have t2:aS q.F e (q.k q.s) (m%64)=true:=by
       have:=cY t1;rw[de,oU (dG r1)]at this;exact this
      have t3:aS q.F e (m%64) (m/64%64)=true:=by
       have:=cY rg;rw[de,oU (dG r1)]at this;exact this
      exact gbt t2 (cN t3 r2)
     ·have:=clrp _ kN (cq.mpr ⟨d,hd,t1⟩)
      rw[this]at ock;exact bY ock
    ·have de:d=e:=eR hd r1
     subst de
     rcases jr rg r2 (λh=>c2 h.symm)with t1|t1
     ·exact gbt (cN r1 rg) t1
     ·have:=clrp x x1 (cq.mpr ⟨d,r2,t1⟩)
      rw[this]at ocx;exact bY ocx
    ·exact hk hd.symm
 · -- held,and off the line: hit
  intro hno
  refine Classical.byContradiction λhn=>?_
  have held:∃s,s<q.N∧g6 q q.s s=true∧eV q.F (q.k q.s) s (m/64%64)=true∧∀y,y<q.N→eV q.F (q.k q.s) s y=true→y≠m/64%64→(q.oc y=true↔g6 q q.s y=true):=
   Classical.byContradiction λh=>hn (.inl h)
  have naln:kP q.F (m/64%64) (m%64) (q.k q.s)=false:=by
   cases h:kP q.F (m/64%64) (m%64) (q.k q.s)with
   |false=>rfl
   |true=>exact absurd (.inr h) hn
  refine FN (held) λs s1 s2 s3 s4=>?_
  refine ay (cq.mp s3) λe r1 r2=>?_
  have rs:=cN r1 r2
  refine FN (BH P (q.k q.s) (m/64%64) rfl _ s s1 rs s2 (λy hy hb ho hne=>(s4 y hy hb hne).mp ho) rfl) λx x1 xr xs xo=>?_
  have goff:aS q.F e (q.k q.s) (m%64)=false:=by
   cases hg:aS q.F e (q.k q.s) (m%64)with
   |false=>rfl
   |true=>
    exfalso
    rw[← Bool.not_eq_true]at naln
    apply naln
    unfold kP
    rw[aB]
    rcases jr hg r1 (λh=>S.ne h.symm)with t1|t1
    ·have t2:=cY t1
     exact⟨pq e,jS e,by simp only[t2,cY r1];rfl⟩
    ·exact⟨e,dG t1,by simp only[t1,r1];simp⟩
  obtain⟨n1,n2⟩:=(o6 P hs x1).mp xs
  have xg:x≠m%64:=λh=>by rw[h]at xr;rw[xr]at goff;exact pF goff
  refine hno ⟨x,x1,(jc P M).mpr ⟨⟨n1,xg,λhz=>absurd hz h2⟩,?_⟩⟩
  rw[dA (yl n2) rfl,Bool.and_eq_true,tS,g_,bO]
  refine⟨n2,λy hy hb=>?_⟩
  rw[← Bool.not_eq_true,fL h3]
  rintro(⟨h1,h4,_⟩|h1)
  ·exact h4 (xo y hy hb h1)
  ·have:=((cZ xr).mp hb).1
   rw[h1,goff]at this;exact bY this
end
end
section
open PySem
section
variable {q:St} {a b e g t k m n z i p u v w x y d F N:Nat} {o o':Nat→Bool}
theorem uQ(h:∀y,y<N→eV F a b y=true→o y=o' y):bk F N m a b o=bk F N m a b o':=by
 unfold bk w9
 split
 ·rfl
 ·rfl
 ·rfl
 ·simp only[uE h]
theorem Al:eV F a b b=false:=by
 cases h:eV F a b b with
 |false=>rfl
 |true=>refine ay (cq.mp h) λd _ h2=>?_;rw[ue]at h2;exact bY h2
theorem yh(P:Pos q)(M:Mx q m p u v)(h3:m/16384≠3)(hk:m/64%64=q.k q.s) :
  ib q (m/16384) (m/64%64) (m%64) p=!aO q.N (bD q.F q.N (1-q.s) (m%64) (az q m p u v) (az q m p u v)):=by
 have S:=dZ P M
 have hs:=P.s2
 have oB:=P.jP.oB q.s hs
 have h2:m/16384≠2:=λh=>by have:=(S.e2 h).2.2.2.2.2;rw[hk,oB]at this;exact Ar.Z3 [.q .x0 .n1,.d 8 .x2 .x0 (.a .n6 (.m 8 .x1))] .F rfl this (Ar.md _ 8 rfl)
 have ock:q.oc (q.k q.s)=true:=dF.mpr (by exact Ar.Z2 [.q .x0 (.a .n6 (.m 8 .x1))] (.N (.q .x0 .n0)) rfl oB)
 unfold ib
 rw[if_neg (by rw[ae];exact h3),if_neg (by rw[ae];exact h2),if_pos (by rw[ae];exact hk)]
 congr 1
 refine any_congr λx hx=>?_
 rw[Bool.eq_iff_iff,jc P M,Bool.and_eq_true]
 unfold dk
 have same:bk q.F q.N (q.c x) x (m%64) (λy=>q.oc y ^^ Nat.beq y (q.k q.s))=bk q.F q.N (q.c x) x (m%64) (dQ q (m/16384) (m/64%64) (m%64) p u v):=by
  refine uQ λy hy hb=>?_
  have yg:y≠m%64:=λe=>by rw[e,Al]at hb;exact bY hb
  rw[Bool.eq_iff_iff,fL h3,hk]
  by_cases yk:y=q.k q.s
  ·rw[yk,ock,Nat.beq_refl];simp;exact λe=>yg (yk.trans e)
  ·have:Nat.beq y (q.k q.s)=false:=by rw[aq];exact yk
   simp only[this,Bool.xor_false]
   constructor
   ·intro h;exact .inl ⟨h,yk,λhz=>absurd hz h2⟩
   ·rintro(h|h)
    ·exact h.1
    ·exact absurd h yg
 rw[same]
 constructor
 ·rintro⟨h1,h4⟩
  refine⟨⟨h1,λe=>?_,λhz=>absurd hz h2⟩,h4⟩
  rw[e,w_]at h4;exact bY h4
 ·rintro⟨⟨h1,_,_⟩,h4⟩;exact⟨h1,h4⟩
theorem Ex(P:Pos q)(M:Mx q m p u v)(h2:m/16384=2) :
  ib q (m/16384) (m/64%64) (m%64) p=!aO q.N (bD q.F q.N (1-q.s) (q.k q.s) (az q m p u v) (az q m p u v)):=by
 have S:=dZ P M
 have hs:=P.s2
 refine M4 (S.e2 h2) λp1 p2 p3 p4 p5 p6=>?_
 have oca:q.oc (m/64%64)=true:=dF.mpr S.oa.1
 have ocp:q.oc p=true:=dF.mpr (by exact Ar.Z3 [.q .x0 (.a .n1 (.m 8 .x1)),.s .x1 .n1 .x2] (.N (.q .x0 .n0)) rfl p4 (Ar.ts _ _))
 have eo:Jx q (m/64%64) (m%64) p=dQ q (m/16384) (m/64%64) (m%64) p u v:=by
  funext x
  rw[Bool.eq_iff_iff,fL (by exact Ar.Z3 [.q .x0 .n2,.d 16384 .x0 .x2 .x1] (.N (.q .x0 .n3)) rfl h2 (Ar.md _ 16384 rfl))]
  unfold Jx
  simp only[Bool.or_eq_true,ae]
  by_cases xa:x=m/64%64
  ·have:x≠p:=λe=>p3 (e.symm.trans xa)
   have np:Nat.beq x p=false:=by rw[aq];exact this
   rw[np,xa,oca,Nat.beq_refl];simp
  ·have na:Nat.beq x (m/64%64)=false:=by rw[aq];exact xa
   rw[na,Bool.xor_false]
   by_cases xp:x=p
   ·rw[xp,ocp,Nat.beq_refl];simp[h2]
   ·have np:Nat.beq x p=false:=by rw[aq];exact xp
    simp only[np,Bool.xor_false];simp[xa,xp]
 unfold ib
 rw[if_neg (by rw[ae];exact Ar.Z3 [.q .x0 .n2,.d 16384 .x0 .x2 .x1] (.N (.q .x0 .n3)) rfl h2 (Ar.md _ 16384 rfl)),if_pos (by rw[ae];exact h2)]
 unfold zh
 rw[eo]
 congr 1
 refine any_congr λx hx=>?_
 rw[Bool.eq_iff_iff,jc P M,Bool.and_eq_true,Bool.and_eq_true,Bool.not_eq_true',aq]
 unfold dk
 constructor
 ·rintro⟨⟨h1,h4⟩,h5⟩
  refine⟨⟨h4,λe=>?_,λ_=>h5⟩,h1⟩
  have:=(cU.mp h4).1;rw[e]at this;exact this p5
 ·rintro⟨⟨h1,_,h5⟩,h4⟩;exact⟨⟨h4,h1⟩,h5 h2⟩
theorem Jf{a g v k:Nat}{s:Int}(hs:s=0∨s=1∨s = -1)(k1:1≤k)(x:(g:Int)=(a:Int)+k*s)(h:(g=a+2∧v=a+1)∨(g+2=a∧v+1=a)):k=2∧(v:Int)=(a:Int)+(1:Nat)*s:=by
 rcases hs with rfl|rfl|rfl<;>rcases h with⟨h1,h2⟩|⟨h1,h2⟩<;>first|exact Ar.Z4 [.Q (.c .x0) (.a (.c .x1) (.r (.c .x2) 0)),.q .x0 (.a .x1 .n2)] (.C (.q .x2 .n2) (.Q (.c .x3) (.a (.c .x1) (.m 1 .n0)))) rfl x h1|exact Ar.Z4 [.Q (.c .x0) (.a (.c .x1) (.r (.c .x2) 0)),.q (.a .x0 .n2) .x1] (.C (.q .x2 .n2) (.Q (.c .x3) (.a (.c .x1) (.m 1 .n0)))) rfl x h1|exact Ar.Z4 [.Q (.c .x0) (.a (.c .x1) (.r (.c .x2) 1)),.q .x0 (.a .x1 .n2),.q .x3 (.a .x1 .n1)] (.C (.q .x2 .n2) (.Q (.c .x3) (.a (.c .x1) (.m 1 .n1)))) rfl x h1 h2|exact Ar.Z4 [.Q (.c .x1) (.a (.c .x2) (.r (.c .x0) 1)),.q (.a .x1 .n2) .x2] (.C (.q .x0 .n2) (.Q (.c .x3) (.a (.c .x2) (.m 1 .n1)))) rfl x h1|exact Ar.Z4 [.Q (.c .x1) (.a (.c .x2) (.R (.c .x0) 1)),.q .x1 (.a .x2 .n2)] (.C (.q .x0 .n2) (.Q (.c .x3) (.a (.c .x2) (.m 1 (.g .n1))))) rfl x h1|exact Ar.Z4 [.Q (.c .x0) (.a (.c .x1) (.R (.c .x2) 1)),.q (.a .x0 .n2) .x1,.q (.a .x3 .n1) .x1] (.C (.q .x2 .n2) (.Q (.c .x3) (.a (.c .x1) (.m 1 (.g .n1))))) rfl x h1 h2
theorem uI{F a u g k l:Nat}{s:Int}(hs:s=0∨s=1∨s = -1)(hw:a<F)(k1:1≤k)(l1:1≤l)(e1:(u:Int)=(a:Int)+k*s)(e2:(g:Int)=(u:Int)+l*s)(h:(u=F-1∧g<u)∨(u=0∧u<g)):False:=by
 rcases hs with rfl|rfl|rfl<;>rcases h with⟨h1,h2⟩|⟨h1,h2⟩<;>first|exact Ar.Z3 [.Q (.c .x0) (.a (.c .x1) (.r (.c .x2) 0)),.l .x0 .x1] .F rfl e2 h2|exact Ar.Z3 [.Q (.c .x0) (.a (.c .x1) (.r (.c .x2) 0)),.l .x1 .x0] .F rfl e2 h2|exact Ar.Z5 [.Q (.c .x1) (.a (.c .x2) (.r (.c .x0) 1)),.q .x2 .x3,.l .x1 .x2,.s .x3 .x4 .n1] .F rfl e2 h1 h2 (Ar.ts _ _)|exact Ar.Z3 [.e .n1 .x0,.Q (.c .x1) (.a (.c .x2) (.r (.c .x0) 1)),.q .x1 .n0] .F rfl k1 e1 h1|exact Ar.Z5 [.l .x0 .x1,.e .n1 .x2,.Q (.c .x3) (.a (.c .x0) (.R (.c .x2) 1)),.q .x3 .x4,.s .x4 .x1 .n1] .F rfl hw k1 e1 h1 (Ar.ts _ _)|exact Ar.Z3 [.e .n1 .x0,.Q (.c .x1) (.a (.c .x2) (.R (.c .x0) 1)),.q .x2 .n0] .F rfl l1 e2 h1
theorem yf(P:Pos q)(M:Mx q m p u v)(h3:m/16384=3) :
  ib q (m/16384) (m/64%64) (m%64) p=!aO q.N (bD q.F q.N (1-q.s) (m%64) (az q m p u v) (az q m p u v)):=by
 have S:=dZ P M
 have hs:=P.s2
 refine bJ (M.cs h3) λi hc=>?_
 refine ic (wq P hc) λx1 x2 x3 x4=>?_
 have F0:0<q.F:=by have:=P.bd.f3;exact Ar.Z1 [.e .n3 .x0] (.l .n0 .x0) rfl this
 have ok:=hc.ok
 unfold fJ at ok
 simp only[Bool.and_eq_true,Bool.not_eq_true',hc.i2]at ok
 have nohit:=ok.2.2.2.2
 unfold bp at nohit
 unfold ib
 rw[if_pos (by rw[ae];exact h3)]
 symm
 rw[Bool.not_eq_true',← Bool.not_eq_true,aB]
 rintro⟨x,hx,hh⟩
 rw[jc P M]at hh
 obtain⟨⟨c1,c2,_⟩,c4⟩:=hh
 have cx:=cU.mp c1
 refine gw (P.kinds hx cx.1) λk1 k6 _=>?_
 obtain⟨k,hkx⟩:∃k,q.c x%8=k:=⟨_,rfl⟩
 rw[hkx]at k1 k6
 have old:bk q.F q.N (q.c x) x (m%64) q.oc=false:=by
  rw[← Bool.not_eq_true,aB]at nohit
  cases hq:bk q.F q.N (q.c x) x (m%64) q.oc with
  |false=>rfl
  |true=>exact absurd ⟨x,hx,by unfold dk;simp only[c1,hq];rfl⟩ nohit
 by_cases hst:k=1∨k=2∨k=6
 ·rw[lF (o':=q.oc) hst hkx,old]at c4;exact bY c4
 ·have hln:k=3∨k=4∨k=5:=by exact Ar.Z6 [.e .x5 .n6,.e .n1 .x5,.C (.N (.q .x0 .n0)) (.q .x1 .x3),.N (.D (.q .x5 .n1) (.D (.q .x5 .n2) (.q .x5 .n6))),.s .x3 .n1 .x4,.d 8 .x1 .x2 .x0] (.D (.q .x5 .n3) (.D (.q .x5 .n4) (.q .x5 .n5))) rfl k6 k1 cx hst (Ar.ts _ _) (Ar.md _ 8 rfl)
  rw[dA hln hkx,Bool.and_eq_true,bO]at c4
  obtain⟨l1,l2⟩:=c4
  have beh:∀y,dQ q (m/16384) (m/64%64) (m%64) p u v y=false→q.oc y=true→y≠v∧(y=m/64%64∨y=u):=λy hb ho=>by
   unfold dQ at hb
   rw[h3,show Nat.beq 3 2=false from rfl,if_neg (by decide),show Nat.beq 3 3=true from rfl,if_pos rfl,ho,Bool.or_eq_false_iff,Bool.or_eq_false_iff,aq,aq]at hb
   refine⟨hb.1.2,?_⟩
   have:=hb.1.1
   simp only[Bool.true_and,Bool.and_eq_false_iff,Bool.not_eq_false',Bool.not_eq_false',ae,ae]at this
   exact this
  have ex:∃y,y<q.N∧eV q.F x (m%64) y=true∧q.oc y=true:=by
   refine Classical.byContradiction λhn=>?_
   have:bk q.F q.N (q.c x) x (m%64) q.oc=true:=by
    rw[dA hln hkx,Bool.and_eq_true,bO]
    refine⟨l1,λy hy hb=>?_⟩
    cases ho:q.oc y with
    |false=>rfl
    |true=>exact absurd ⟨y,hy,hb,ho⟩ hn
   rw[old]at this;exact bY this
  refine dD (ex) λy y1 y2 y3=>?_
  obtain⟨yv,ya⟩:=beh y (l2 y y1 y2) y3
  refine ay (cq.mp y2) λd r1 r2=>?_
  have hd:=dG r1
  have xF:=Nat.mod_lt x F0
  rcases ya with rfl|rfl
  · -- the king's home between: the rook stands in the way now
   have rv:aS q.F d (m/64%64) v=true∧aS q.F d v (m%64)=true:=by
    refine bJ (cJ.mp r2) λk r=>?_
    have key:k=2∧((v%q.F:Nat):Int)=((m/64%64%q.F:Nat):Int)+(1:Nat)*sX d:=by
     refine Jf (gU d hd).1 r.k1 r.x ?_
     refine Or.elim (x4) (λh=>?_) λh=>?_
     ·exact .inl ⟨h.1,h.2.1⟩
     ·exact .inr ⟨h.1,h.2.1⟩
    have rv:Rk q.F d (m/64%64) v 1:=⟨hd,Nat.le_refl 1,key.2,by simp only[r.sy,← x1,← x3,Int.sub_self];rfl⟩
    exact⟨rv.aS,(rv.off r (by exact Ar.vI [.C (.q .x0 .n2) (.Q (.c .x1) (.a (.c .x2) (.m 1 .y0)))] (.l .n1 .x0) rfl key)).aS⟩
   have vN:=(S.e3 h3).2.1
   have:=l2 v vN (cq.mpr ⟨d,cN r1 rv.1,rv.2⟩)
   unfold dQ at this
   rw[h3,show Nat.beq 3 2=false from rfl,if_neg (by decide),show Nat.beq 3 3=true from rfl,if_pos rfl,Nat.beq_refl,Bool.or_true]at this
   exact pF this
  · -- beyond the corner there is nothing
   obtain⟨k,r1⟩:=cJ.mp r1
   obtain⟨l,r2⟩:=cJ.mp r2
   refine uI (gU d hd).1 xF r1.k1 r2.k1 r1.x r2.x ?_
   refine Or.elim (x4) (λh=>?_) λh=>?_
   ·exact .inl h.2.2
   ·exact .inr h.2.2
theorem yi(P:Pos q)(M:Mx q m p u v)(hans:m/16384=3∨gm q (dj q) m p u v=true) :
  ib q (m/16384) (m/64%64) (m%64) p=!aO q.N (bD q.F q.N (1-q.s) (if Nat.beq (m/64%64) (q.k q.s)then m%64 else q.k q.s) (az q m p u v) (az q m p u v)):=by
 have S:=dZ P M
 by_cases h3:m/16384=3
 ·rw[yf P M h3,if_pos (by rw[ae];exact(S.e3 h3).2.2.2.2.2.2.2.2.2.2)]
 ·by_cases hk:m/64%64=q.k q.s
  ·rw[yh P M h3 hk,if_pos (by rw[ae];exact hk)]
  ·rw[if_neg (by rw[ae];exact hk)]
   by_cases h2:m/16384=2
   ·exact Ex P M h2
   ·exact uV P M h3 h2 hk (hans.resolve_left h3)
theorem vn(mv big nown sg may k3 go ans leg inT la anyh:Bool)
  (h:mv=true→big=false→nown=false→sg=false→(inT=if k3 then may else go)∧(inT=true→(k3=true→la=true)∧(k3=false→ans=la)∧(la=true→leg=!anyh))) :
  (if Nat.beq (if !mv then 1 else if big then 2 else if nown then 3 else if sg then 4 else if k3 then(if may then 0 else 5)else if !go then 5 else if ans then 0 else 6) 0 then(if leg then 0 else 7)
   else(if !mv then 1 else if big then 2 else if nown then 3 else if sg then 4 else if k3 then(if may then 0 else 5)else if !go then 5 else if ans then 0 else 6)) =
  (if !mv then 1 else if big then 2 else if nown then 3 else if sg then 4 else if !inT then 5 else if !la then 6 else if anyh then 7 else 0):=by
 cases mv with
 |false=>rfl
 |true=>cases big with
  |true=>rfl
  |false=>cases nown with
   |true=>rfl
   |false=>cases sg with
    |true=>rfl
    |false=>
     obtain⟨h1,h2⟩:=h rfl rfl rfl rfl
     cases inT with
     |false=>cases k3<;>simp at h1<;>subst h1<;>rfl
     |true=>
      refine gw (h2 rfl) λh3 h4 h5=>?_
      cases k3 with
      |true=>
       rw[if_pos rfl]at h1
       cases h3 rfl
       subst h1;rw[h5 rfl]
       cases anyh<;>rfl
      |false=>
       rw[if_neg (by decide)]at h1
       subst h1;rw[h4 rfl]
       cases la with
       |false=>rfl
       |true=>rw[h5 rfl];cases anyh<;>rfl
theorem y_(P:Pos q)(hm:m<65536)(M:m∈d9 q→Mx q m p u v):kp q m p=tT q (dj q) (d9 q) m p u v:=by
 have z4:m/16384%4=m/16384:=by exact Ar.Z5 [.l .x0 (.n 65536),.d 4 .x4 .x1 .x2,.d 16384 .x2 .x3 .x0] (.q .x1 .x2) rfl hm (Ar.md _ 4 rfl) (Ar.md _ 16384 rfl)
 have hs:=P.s2
 unfold kp tT oW
 dsimp only
 rw[z4]
 refine vn _ _ _ _ _ _ _ _ _ _ _ _ λe1 e2 e3 e4=>?_
 rw[Bool.or_eq_false_iff,← Bool.not_eq_true,← Bool.not_eq_true,b5,b5]at e2
 have ha:m/64%64<q.N:=by exact Ar.Z6 [.C (.N (.e .x0 .x1)) (.N (.e .x0 .x4)),.d 64 .x5 .x1 .x2,.d 64 .x2 .x4 .x3] (.l .x1 .x0) rfl e2 (Ar.md _ 64 rfl) (Ar.md _ 64 rfl)
 have hg:m%64<q.N:=by exact Ar.Z6 [.C (.N (.e .x0 .x1)) (.N (.e .x0 .x4)),.d 64 .x5 .x1 .x2,.d 64 .x2 .x4 .x3] (.l .x4 .x0) rfl e2 (Ar.md _ 64 rfl) (Ar.md _ 64 rfl)
 have oa:nU q (m/64%64):=by
  rw[Bool.or_eq_false_iff,aq,Bool.not_eq_false',ae]at e3;exact e3
 have sdg:q.sd q.s (m%64)=(!Nat.beq (q.c (m%64)) 0&&Nat.beq (q.c (m%64)/8) q.s):=rfl
 rw[sdg]at e4
 have ng:¬ nU q (m%64):=by rw[← qH,e4];decide
 have ti:=o_ P hm e1 ha hg oa ng
 refine⟨?_,λe5=>?_⟩
 ·rw[Bool.eq_iff_iff,List.contains_iff_mem,ti]
 ·have tm:m∈d9 q:=List.contains_iff_mem.mp e5
  have MM:=M tm
  have S:=dZ P MM
  have l3:m/16384=3→gm q (dj q) m p u v=true:=λe6=>by
   unfold gm
   rw[show Nat.beq (m/64%64) (q.k q.s)=true by rw[ae];exact(S.e3 e6).2.2.2.2.2.2.2.2.2.2,Bool.true_or,Bool.or_true]
  refine⟨λe6=>l3 (by rw[ae]at e6;exact e6),λe6=>(vM P MM (by rw[aq]at e6;exact e6)).symm,λla=>yi P MM (.inr la)⟩
end
end
section
open PySem
section
variable {q:St} {a b e g t k m n z i p u v w x y d F N:Nat} {o o':Nat→Bool}
theorem AD(P:Pos q)(h:vF q i a g u v):Way q a g u v:=by
 have hs:=P.s2
 have hi4:=h.i4
 have hi2:=h.i2
 unfold Way kr
 have:i=2*q.s∨i=2*q.s+1:=by exact Ar.Z4 [.q .x0 .x3,.d 2 .x0 .x2 .x1] (.D (.q .x1 (.m 2 .x3)) (.q .x1 (.a (.m 2 .x3) .n1))) rfl hi2 (Ar.md _ 2 rfl)
 rcases this with rfl|rfl
 ·rw[if_pos (show eW (bj q.F q.R q.wg (2*q.s)) a g=true by rw[h.ct,dJ,Nat.beq_refl,Nat.beq_refl];rfl)];exact h.ct
 ·have nb:¬ (eW (bj q.F q.R q.wg (2*q.s)) a g=true):=λhb=>by
   unfold eW at hb
   split at hb
   ·rename_i x y u' v' e
    simp only[Bool.and_eq_true,ae,ae]at hb
    obtain⟨rfl,rfl⟩:=hb
    have n1:=(eL P.bd (by exact Ar.Z1 [.l .x0 .n2] (.l (.m 2 .x0) .n4) rfl hs) e).2.2.1 (by exact Ar.Z3 [.d 2 .x2 .x0 (.m 2 .x1)] (.q .x0 .n0) rfl (Ar.md _ 2 rfl))
    have n2:=(eL P.bd (by exact Ar.Z1 [.l (.a (.m 2 .x0) .n1) .n4] (.l (.a (.m 2 .x0) .n1) .n4) rfl hi4) h.ct).2.2.2 (by exact Ar.Z3 [.q .x0 .x1,.d 2 .x0 .x2 (.a (.m 2 .x1) .n1)] (.q .x2 .n1) rfl hi2 (Ar.md _ 2 rfl))
    exact Ar.Z6 [.C (.q .x0 (.a .x1 .n2)) (.C (.q .x2 (.a .x1 .n1)) (.l .x0 .x3)),.C (.q (.a .x0 .n2) .x1) (.C (.q (.a .x4 .n1) .x1) (.l .x5 .x0))] .F rfl n1 n2
   ·exact bY hb
  rw[if_neg nb];exact h.ct
theorem Iu(P:Pos q)(M:Mx q m p u v):Mv q m p u v:=by
 have S:=dZ P M
 have z4:m/16384%4=m/16384:=by have:=S.lt;exact Ar.Z5 [.l .x0 (.n 65536),.d 4 .x4 .x1 .x2,.d 16384 .x2 .x3 .x0] (.q .x1 .x2) rfl this (Ar.md _ 4 rfl) (Ar.md _ 16384 rfl)
 have hk:=P.kinds S.aN S.oa.1
 refine⟨S.aN,S.gN,λh=>(M.ep (by exact Ar.Z5 [.q .x0 .x1,.q .x0 .n2,.d 4 .x4 .x0 .x1,.d 16384 .x1 .x3 .x2] (.q .x1 .n2) rfl z4 h (Ar.md _ 4 rfl) (Ar.md _ 16384 rfl))).1,λh=>?_,hk.1,hk.2.1⟩
 obtain⟨i,hc⟩:=M.cs (by exact Ar.Z5 [.q .x0 .x1,.q .x0 .n3,.d 4 .x4 .x0 .x1,.d 16384 .x1 .x3 .x2] (.q .x1 .n3) rfl z4 h (Ar.md _ 4 rfl) (Ar.md _ 16384 rfl))
 have s3:=S.e3 (by exact Ar.Z5 [.q .x0 .x1,.q .x0 .n3,.d 4 .x4 .x0 .x1,.d 16384 .x1 .x3 .x2] (.q .x1 .n3) rfl z4 h (Ar.md _ 4 rfl) (Ar.md _ 16384 rfl))
 exact⟨AD P hc,s3.1,s3.2.1⟩
theorem w8(P:Pos q)(M:Mx q m p u v):D9 q m p u v x=bD q.F q.N q.s (q.k (1-q.s)) (az q m p u v) (az q m p u v) x:=by
 have S:=dZ P M
 have z4:m/16384%4=m/16384:=by have:=S.lt;exact Ar.Z5 [.l .x0 (.n 65536),.d 4 .x4 .x1 .x2,.d 16384 .x2 .x3 .x0] (.q .x1 .x2) rfl this (Ar.md _ 4 rfl) (Ar.md _ 16384 rfl)
 have hkb:=qs P M
 have hs:=P.s2
 unfold bD
 have eo:(λx=>!Nat.beq (az q m p u v x) 0)=dQ q (m/16384) (m/64%64) (m%64) p u v:=funext λx=>kG P M x
 rw[eo]
 unfold D9 dk
 dsimp only
 rw[z4]
 generalize dQ q (m/16384) (m/64%64) (m%64) p u v=o
 have no:∀{y},¬ nU q y→q.sd q.s y=false:=λ{y} h=>by rw[← Bool.not_eq_true,cU];exact h
 unfold nG
 rw[fW P M x]
 by_cases hx:x=m%64
 ·rw[if_pos hx,hx,no S.ng,Nat.beq_refl]
  have k1:z3 q m/8=q.s:=by unfold z3;exact Ar.Z4 [.C (.e .n1 .x0) (.e .x0 .n6),.d 8 .x1 .x3 (.a .x0 (.m 8 .x2))] (.q .x1 .x2) rfl hkb (Ar.md _ 8 rfl)
  have k2:Nat.beq (z3 q m) 0=false:=by rw[aq];unfold z3;exact Ar.Z2 [.C (.e .n1 .x0) (.e .x0 .n6)] (.N (.q (.a .x0 (.m 8 .x1)) .n0)) rfl hkb
  have k3:(Nat.beq (m/16384) 3&&(bk q.F q.N (4+8*q.s) v (q.k (1-q.s)) o&&Nat.beq (m%64) v))=false:=by
   cases h3:Nat.beq (m/16384) 3 with
   |false=>rfl
   |true=>
    rw[ae]at h3
    simp only[show Nat.beq (m%64) v=false by rw[aq];exact λe=>(S.e3 h3).2.2.2.2.1 e.symm,Bool.and_false,Bool.and_false]
  simp only[k3,k1,k2,Nat.beq_refl]
  simp only[Bool.false_and,Bool.and_false,Bool.false_or,Bool.or_false,Bool.and_true,Bool.not_false,Bool.true_and]
  rfl
 ·rw[if_neg hx,show Nat.beq x (m%64)=false by rw[aq];exact hx]
  have nil:(!Nat.beq 0 0&&Nat.beq (0/8) q.s)=false:=rfl
  have nv3:m/16384≠3∨x≠v→(Nat.beq (m/16384) 3&&(bk q.F q.N (4+8*q.s) v (q.k (1-q.s)) o&&Nat.beq x v))=false:=λh=>by
   refine Or.elim (h) (λh=>?_) λh=>?_
   ·rw[show Nat.beq (m/16384) 3=false by rw[aq];exact h];rfl
   ·simp only[show Nat.beq x v=false by rw[aq];exact h,Bool.and_false,Bool.and_false]
  by_cases ha:x=m/64%64
  ·rw[if_pos ha,nil,show Nat.beq x (m/64%64)=true by rw[ae];exact ha]
   rw[nv3 (by
         by_cases h3:m/16384=3;· have:=(S.e3 h3).2.2.2.2.2.1;exact .inr (by exact Ar.Z7 [.q .x0 .x1,.N (.q .x6 .x1),.d 64 .x5 .x1 .x2,.d 64 .x2 .x4 .x3] (.N (.q .x0 .x6)) rfl ha this (Ar.md _ 64 rfl) (Ar.md _ 64 rfl))
         ·exact .inl h3)]
   simp only[Bool.not_true,Bool.and_false,Bool.false_and,Bool.or_false]
  ·rw[if_neg ha,show Nat.beq x (m/64%64)=false by rw[aq];exact ha]
   by_cases h2:m/16384=2∧x=p
   ·have hc:=(S.e2 h2.1).2.2.2.1
    rw[if_pos h2,nil,nv3 (.inl (by exact Ar.Z5 [.C (.q .x0 .n2) (.q .x3 .x4),.d 16384 .x0 .x2 .x1] (.N (.q .x0 .n3)) rfl h2 (Ar.md _ 16384 rfl))),no (y:=x) (λh=>by have:=h.2;rw[h2.2,hc]at this;exact Ar.Z4 [.q .x2 .x3,.d 8 .x2 .x0 (.a .n1 (.m 8 .x1)),.s .x1 .n1 .x3] .F rfl this (Ar.md _ 8 rfl) (Ar.ts _ _))]
    simp only[Bool.and_false,Bool.false_and,Bool.or_false]
   ·rw[if_neg h2]
    by_cases h3:m/16384=3∧x=u
    ·have s3:=S.e3 h3.1
     rw[if_pos h3,nil,nv3 (.inr (by rw[h3.2];exact s3.2.2.2.2.2.2.1)),show Nat.beq (m/16384) 3=true by rw[ae];exact h3.1,show Nat.beq x u=true by rw[ae];exact h3.2]
     simp only[Bool.and_false,Bool.false_and,Bool.or_false,Bool.not_true]
    ·rw[if_neg h3]
     by_cases h4:m/16384=3∧x=v
     ·have s3:=S.e3 h4.1
      have k1:(4+8*q.s)/8=q.s:=by exact Ar.Z3 [.d 8 .x0 .x2 (.a .n4 (.m 8 .x1))] (.q .x0 .x1) rfl (Ar.md _ 8 rfl)
      have k2:Nat.beq (4+8*q.s) 0=false:=by rw[aq];exact Ar.Z1 [] (.N (.q (.a .n4 (.m 8 .x0)) .n0)) rfl
      rw[if_pos h4,k1,k2,Nat.beq_refl,no (y:=x) (λh=>by have:=h.1;rw[h4.2]at this;exact this s3.2.2.2.2.2.2.2.2.1),show Nat.beq (m/16384) 3=true by rw[ae];exact h4.1,h4.2,Nat.beq_refl]
      simp only[Bool.and_false,Bool.false_and,Bool.false_or,Bool.and_true,Bool.true_and,Bool.not_false]
     ·rw[if_neg h4,nv3 (by exact Ar.Z5 [.N (.C (.q .x0 .n3) (.q .x3 .x4)),.d 16384 .x0 .x2 .x1] (.D (.N (.q .x0 .n3)) (.N (.q .x3 .x4))) rfl h4 (Ar.md _ 16384 rfl))]
      have e3:(!Nat.beq (m/16384) 3||!Nat.beq x u)=true:=by
       simp only[Bool.or_eq_true,Bool.not_eq_true',Bool.not_eq_true',aq,aq];exact Ar.Z5 [.N (.C (.q .x0 .n3) (.q .x3 .x4)),.d 16384 .x0 .x2 .x1] (.D (.N (.q .x0 .n3)) (.N (.q .x3 .x4))) rfl h3 (Ar.md _ 16384 rfl)
      simp only[e3]
      simp only[Bool.and_false,Bool.or_false,Bool.not_false,Bool.and_true]
      exact Bool.and_comm _ _
theorem yB(N:Nat)(f:Nat→Bool):manyN N f=decide (1<(cz N f).length):=by
 have nd:(cz N f).Nodup:=by unfold cz;exact List.nodup_range.filter _
 unfold manyN
 rw[Bool.eq_iff_iff,aB,decide_eq_true_eq]
 constructor
 ·rintro⟨j,j1,j2⟩
  rw[Bool.and_eq_true,aB]at j2
  obtain⟨j2,i,i1,i2⟩:=j2
  have m1:j∈cz N f:=b7.mpr ⟨j1,j2⟩
  have m2:i∈cz N f:=b7.mpr ⟨by exact Ar.Z3 [.l .x0 .x1,.l .x2 .x0] (.l .x2 .x1) rfl j1 i1,i2⟩
  match hl:cz N f with
  | []=>rw[hl]at m1;cases m1
  | [a]=>rw[hl,List.mem_singleton]at m1 m2;exact Ar.Z4 [.l .x0 .x1,.q .x0 .x2,.q .x1 .x2] (.l .n1 .x3) rfl i1 m2 m1
  |a::b::l=>simp only[List.length_cons,List.length_cons];exact Ar.Z1 [] (.l .n1 (.a (.a .x0 .n1) .n1)) rfl
 ·intro h
  match hl:cz N f with
  | []=>rw[hl]at h;exact absurd h (by decide)
  | [a]=>simp only[hl,List.length_singleton]at h;exact False.elim (Ar.Zx 0 0 [] [] [] [.l .n1 .n1] .F rfl rfl h)
  |a::b::l=>
   have ma:=b7.mp (show a∈cz N f by rw[hl];exact .head _)
   have mb:=b7.mp (show b∈cz N f by rw[hl];exact .tail _ (.head _))
   have ne:a≠b:=by
    rw[hl,List.nodup_cons]at nd
    rintro rfl;exact nd.1 (.head _)
   rcases Nat.lt_or_gt_of_ne ne with h|h
   ·exact⟨b,mb.1,by rw[Bool.and_eq_true,aB];exact⟨mb.2,a,h,ma.2⟩⟩
   ·exact⟨a,ma.1,by rw[Bool.and_eq_true,aB];exact⟨ma.2,b,h,mb.2⟩⟩
theorem sF{f g:Nat→Bool}(h:∀x,f x=g x):manyN N f=manyN N g:=by rw[funext h]
theorem pT(P:Pos q)(M:Mx q m p u v):manyN q.N (D9 q m p u v)=decide (1<(cz q.N (bD q.F q.N q.s (q.k (1-q.s)) (az q m p u v) (az q m p u v))).length):=by
 rw[sF λx=>w8 P M,yB]
end
end
section
open PySem
section
variable {q:St} {a b e g t k m n z i p u v w x y d F N:Nat} {o o':Nat→Bool} {l l':List Nat}
noncomputable def rN(q:St)(m:Nat):Bool:=Nat.beq (m/64) (q.k q.s)&&!uJ q (1-q.s) (λx=>q.oc x ^^ Nat.beq x (q.k q.s)) (m%64)
noncomputable def mZ(q:St)(l:List Nat):Nat:=(l.map λm=>if rN q m then 2 ^ (m%64)else 0).sum
theorem og:mZ q (l++l')=mZ q l+mZ q l':=by unfold mZ;simp only[List.map_append,List.sum_append]
theorem p7(h:∀m∈l,rN q m=false):mZ q l=0:=by
 induction l with
 |nil=>rfl
 |cons m l ih=>
  have:=ih λx hx=>h x (.tail _ hx)
  unfold mZ at this ⊢
  rw[List.map_cons,List.sum_cons,this,h m (.head _)];rfl
theorem pZ(f:Nat→List Nat)(n:Nat):mZ q ((List.range (n+1)).flatMap f)=mZ q ((List.range n).flatMap f)+mZ q (f n):=by
 simp only[List.range_succ,List.flatMap_append,og,List.flatMap_cons,List.flatMap_nil,List.append_nil]
noncomputable def zZ(q:St)(x:Nat):Bool:=(nr q.F (q.k q.s) x&&!q.sd q.s x)&&!uJ q (1-q.s) (λx=>q.oc x ^^ Nat.beq x (q.k q.s)) x
theorem AW(P:Pos q)(hg:g<q.N):mZ q (qD q (q.k q.s) g)=if zZ q g then 2 ^ g else 0:=by
 have hN:q.N≤25:=P.bd.aQ
 have hs:=P.s2
 have ck:=P.jP.oB _ hs
 have kN:=P.jP.jy _ hs
 have k6:(6+8*q.s)%8=6:=by exact Ar.Z3 [.d 8 .x2 .x0 (.a .n6 (.m 8 .x1))] (.q .x0 .n6) rfl (Ar.md _ 8 rfl)
 have k8:(6+8*q.s)/8=q.s:=by exact Ar.Z3 [.d 8 .x2 .x0 (.a .n6 (.m 8 .x1))] (.q .x2 .x1) rfl (Ar.md _ 8 rfl)
 have hh:bk q.F q.N (6+8*q.s) (q.k q.s) g q.oc=nr q.F (q.k q.s) g:=by unfold bk;rw[k6];rfl
 have e1:(g+q.k q.s*64)/64=q.k q.s:=by exact Ar.Z5 [.l .x0 .x1,.e .x1 .aQ,.d 64 .x2 .x4 (.a .x0 (.r .x3 64))] (.q .x2 .x3) rfl hg hN (Ar.md _ 64 rfl)
 have e2:(g+q.k q.s*64)%64=g:=by exact Ar.Z4 [.q .x0 .x2,.d 64 .x0 .x3 (.a .x1 (.r .x2 64))] (.q .x3 .x1) rfl e1 (Ar.md _ 64 rfl)
 have sd:q.sd q.s g=(!Nat.beq (q.c g) 0&&Nat.beq (q.c g/8) q.s):=rfl
 unfold qD zZ
 rw[ck,k6,hh,sd,show Nat.beq 6 1=false from rfl,if_neg (show¬ (false=true) by decide)]
 cases(!Nat.beq (q.c g) 0&&Nat.beq (q.c g/8) q.s)with
 |true=>rw[Bool.not_true,Bool.and_false,Bool.false_and];rfl
 |false=>
  cases nr q.F (q.k q.s) g with
  |false=>rfl
  |true=>
   rw[if_neg (by decide),if_pos rfl]
   unfold mZ rN
   simp only[List.map_cons,List.map_nil,List.sum_cons,List.sum_nil,e1,e2,Nat.beq_refl,Nat.add_zero]
   rfl
theorem wN(P:Pos q):∀n,n≤q.N→mZ q ((List.range n).flatMap (qD q (q.k q.s)))=eJ n (zZ q)
 |0,_=>rfl
 |n+1,h=>by rw[pZ,wN P n (by exact Ar.Z2 [.e (.a .x0 .n1) .x1] (.e .x0 .x1) rfl h),AW P (by exact Ar.Z2 [.e (.a .x0 .n1) .x1] (.l .x0 .x1) rfl h)];rfl
theorem tC(P:Pos q):∀n,n≤q.N→mZ q ((List.range n).flatMap (iK q))=if q.k q.s<n then eJ q.N (zZ q)else 0
 |0,_=>rfl
 |n+1,h=>by
  have hN:q.N≤25:=P.bd.aQ
  have hs:=P.s2
  simp only[pZ,tC P n (by exact Ar.Z2 [.e (.a .x0 .n1) .x1] (.e .x0 .x1) rfl h)]
  by_cases hk:q.k q.s=n
  ·subst hk
   rw[if_neg (by exact Ar.Z1 [] (.N (.l .x0 .x0)) rfl),if_pos (by exact Ar.Z1 [] (.l .x0 (.a .x0 .n1)) rfl),Nat.zero_add]
   have ck:=P.jP.oB _ hs
   unfold iK
   rw[if_neg (by simp only[ck,show Nat.beq (6+8*q.s) 0=false by rw[aq];exact Ar.Z1 [] (.N (.q (.a .n6 (.m 8 .x0)) .n0)) rfl,show(6+8*q.s)/8=q.s by exact Ar.Z3 [.d 8 .x0 .x2 (.a .n6 (.m 8 .x1))] (.q .x0 .x1) rfl (Ar.md _ 8 rfl),Nat.beq_refl];decide)]
   exact wN P q.N (Nat.le_refl _)
  ·rw[show mZ q (iK q n)=0 from p7 λm hm=>by
    have h1:=((oK P.bd (by exact Ar.Z2 [.e (.a .x0 .n1) .x1] (.l .x0 .x1) rfl h)).mp hm).2
    have h2:=(hP (by exact Ar.Z2 [.e (.a .x0 .n1) .x1,.e .x1 .aQ] (.l .x0 .ko) rfl h hN) (by exact Ar.Z3 [.d 64 .x2 .x0 .x1] (.l .x0 .ko) rfl (Ar.md _ 64 rfl))).mp h1.2
    unfold rN
    rw[show Nat.beq (m/64) (q.k q.s)=false by rw[aq];have:=P.jP.jy _ hs;lia];rfl]
   by_cases h2:q.k q.s<n
   ·rw[if_pos h2,if_pos (by exact Ar.Z2 [.l .x0 .x1] (.l .x0 (.a .x1 .n1)) rfl h2)];rfl
   ·rw[if_neg h2,if_neg (by exact Ar.Z2 [.N (.l .x0 .x1),.N (.q .x0 .x1)] (.N (.l .x0 (.a .x1 .n1))) rfl h2 hk)]
theorem D5(P:Pos q):mZ q (d9 q)=eJ q.N (zZ q):=by
 have hN:q.N≤25:=P.bd.aQ
 have hs:=P.s2
 have kN:=P.jP.jy _ hs
 unfold d9
 rw[og,tC P q.N (Nat.le_refl _),if_pos kN,show mZ q (bL q (2*q.s)++bL q (2*q.s+1))=0 from p7 λm hm=>by
  have h1:=(jO P).mp hm
  unfold rN
  rw[show Nat.beq (m/64) (q.k q.s)=false by rw[aq];exact Ar.Jp [.e .bU .aQ,.l .x9 .bU,.q .x8 .n3,.d 64 .x1 .x0 .x7,.d 4 .x2 .x5 .x4,.d 4096 .x4 .x3 .x7,.d 16384 .x8 .x6 .x7] (.N (.q .x1 .x9)) rfl hN kN h1.1 (Ar.md _ 64 rfl) (Ar.md _ 4 rfl) (Ar.md _ 4096 rfl) (Ar.md _ 16384 rfl)];rfl]
 rfl
theorem AX(mv big nown sg may k3 go ans leg:Bool)(h1:mv=true)(h2:big=false)(h3:nown=false)(h4:sg=false)(h5:k3=false)(h6:go=true)(h7:ans=true) :
  Nat.beq (if Nat.beq (if !mv then 1 else if big then 2 else if nown then 3 else if sg then 4 else if k3 then(if may then 0 else 5)else if !go then 5 else if ans then 0 else 6) 0 then(if leg then 0 else 7)
   else(if !mv then 1 else if big then 2 else if nown then 3 else if sg then 4 else if k3 then(if may then 0 else 5)else if !go then 5 else if ans then 0 else 6)) 0=leg:=by
 subst h1 h2 h3 h4 h5 h6 h7;cases leg<;>rfl
theorem D6(P:Pos q)(ht:m∈d9 q)(hk:m/64=q.k q.s):Nat.beq (kp q m p) 0=rN q m:=by
 have hN:q.N≤25:=P.bd.aQ
 have hs:=P.s2
 refine FL (hX P ht) λh1 h2 h3 h4 h5 h6 h7=>?_
 have kN:=P.jP.jy _ hs
 have ck:=P.jP.oB _ hs
 have ti:=(o_ P h2 h3 h4 h5 h6 h7).mp ht
 have z0:m/16384=0:=by exact Ar.Z7 [.q .x0 .x3,.e .x4 .aQ,.l .x3 .x4,.d 16384 .x5 .x6 .x1,.d 64 .x0 .x2 .x1] (.q .x5 .n0) rfl hk hN kN (Ar.md _ 16384 rfl) (Ar.md _ 64 rfl)
 have ka:m/64%64=q.k q.s:=by exact Ar.Z7 [.q .x0 .x3,.e .x4 .aQ,.l .x3 .x4,.d 64 .x6 .x5 .x0,.d 64 .x0 .x2 .x1] (.q .x5 .x3) rfl hk hN kN (Ar.md _ 64 rfl) (Ar.md _ 64 rfl)
 rw[z0,if_neg (by decide)]at ti
 have an:pC q (q.c (m/64%64)%8) 0 (m%64) p=true:=by
  unfold pC
  simp only[ka,ck,show(6+8*q.s)%8=6 by exact Ar.Z3 [.d 8 .x2 .x0 (.a .n6 (.m 8 .x1))] (.q .x0 .n6) rfl (Ar.md _ 8 rfl),show Nat.beq 6 6=true from rfl,Bool.or_true,Bool.true_or]
 have lg:ib q 0 (m/64%64) (m%64) p=!uJ q (1-q.s) (λx=>q.oc x ^^ Nat.beq x (q.k q.s)) (m%64):=by
  unfold ib
  rw[show Nat.beq 0 3=false from rfl,show Nat.beq 0 2=false from rfl,if_neg (by decide),if_neg (by decide),if_pos (by rw[ae];exact ka)]
  rfl
 unfold kp oW
 dsimp only
 rw[show m/16384%4=0 by exact Ar.Z5 [.q .x0 .n0,.d 4 .x4 .x3 .x0,.d 16384 .x0 .x2 .x1] (.q .x3 .n0) rfl z0 (Ar.md _ 4 rfl) (Ar.md _ 16384 rfl)]
 refine(AX _ _ _ _ _ _ _ _ _ h3 ?_ ?_ ?_ rfl ti an).trans ?_
 ·rw[Bool.or_eq_false_iff,← Bool.not_eq_true,← Bool.not_eq_true,b5,b5];exact Ar.Z7 [.l .x2 .x4,.l .x3 .x4,.q .x5 .x3,.d 64 .x6 .x5 .x0,.d 64 .x0 .x2 .x1] (.C (.N (.e .x4 .x5)) (.N (.e .x4 .x2))) rfl h5 kN ka (Ar.md _ 64 rfl) (Ar.md _ 64 rfl)
 ·rw[Bool.or_eq_false_iff,aq,Bool.not_eq_false',ae];exact h6
 ·rw[← Bool.not_eq_true,cU];exact h7
 ·rw[lg]
  unfold rN
  simp only[show Nat.beq (m/64) (q.k q.s)=true by rw[ae];exact hk,Bool.true_and]
end
end
section
open PySem
section
variable {q:St} {H:MH} {d a b e g t k m n z i p u v w x y F N gr tr:Nat} {o o':Nat→Bool}
structure Env (q:St) (gr tr:Nat) (H:MH):Prop where
 hp:HP q H
 lp:LP q H
 gl:aj H gr=some (aP (dj q))
 tl:aj H tr=some (aP (d9 q))
theorem Env.app(h:Env q gr tr H)(K:MH):Env q gr tr (H++K):=⟨h.hp.app K,h.lp.app K,aY h.gl,aY h.tl⟩
noncomputable abbrev GK(q:St)(gr tr:Nat)(v:Int):List V:=[.int (q.F:Int),.ref 5,.int (q.s:Int),.ref 6,.ref gr,.ref tr,.int v]
theorem w7(P:Pos q):(dj q).length≤100∧∀t∈dj q,t<q.N∧1≤q.c t%8∧q.c t%8≤6∧q.c t/8<2:=by
 have hN:q.N≤25:=P.bd.aQ
 constructor
 ·rw[w6];have:=hV q.N (di q);exact Ar.Z2 [.e .x0 .aQ,.e .x1 .x0] (.e .x1 (.n 100)) rfl hN this
 ·intro t ht
  refine dd (jJ.mp ht) λt1 t2=>?_
  unfold di at t2
  rw[Bool.and_eq_true,cU]at t2
  exact⟨t1,P.kinds t1 t2.2.1⟩
theorem gC(P:Pos q)(h0:0<m)(h1:m<65536)(M:m∈d9 q→Mx q m p u v)(w:qc q (q.c (m/64%64)%8) (m/64%64) (m%64) (m/16384%4)=true→m/16384%4=2→hY q (m%64) p)(E:Env q gr tr H) :
  (∃K,ag PB (d+11) 84 (GK q gr tr (m:Int)) H=some (.int (kp q m p:Nat),H++K))∧∃K,ag PB (d+11) 61 [.ref 47,.int (m:Int)] H=some (.int (kp q m p:Nat),H++K):=by
 refine dd (w7 P) λg1 g2=>?_
 constructor
 ·rw[y_ P h1 M]
  exact vg (d:=d+8) E.lp P.jP.code (P.jP.jy _ P.s2) E.gl g1 g2 E.tl h0 h1 λhm=>⟨CU P (M hm),nx P (M hm)⟩
 ·exact E6 (d:=d+1) E.hp P.jP h0 h1 w
theorem vO(P:Pos q)(v:Int):∃r:Nat,∀H,Env q gr tr H→(∃K,ag PB (d+11) 84 (GK q gr tr v) H=some (.int r,H++K))∧∃K,ag PB (d+11) 61 [.ref 47,.int v] H=some (.int r,H++K):=by
 by_cases hv:v≤0∨65536≤v
 ·refine⟨1,λH E=>⟨⟨[],?_⟩,[],?_⟩⟩
  ·rw[List.append_nil];exact vf (d:=d+10) v hv _ _ _ _ _ _ _ rfl
  ·rw[List.append_nil];exact E0 (d:=d+1) v hv
 ·obtain⟨m,rfl⟩:∃m:Nat,v=(m:Int):=⟨v.toNat,by exact Ar.h_ [.N (.D (.E .y0 .n0) (.E (.n 65536) .y0)),.t .x0 .y0] (.Q .y0 (.c .x0)) rfl hv (Ar.tn _)⟩
  have h0:0<m:=by exact Ar.Z1 [.N (.D (.E (.c .x0) .n0) (.E (.n 65536) (.c .x0)))] (.l .n0 .x0) rfl hv
  have h1:m<65536:=by exact Ar.Z1 [.N (.D (.E (.c .x0) .n0) (.E (.n 65536) (.c .x0)))] (.l .x0 (.n 65536)) rfl hv
  have z4:m/16384%4=m/16384:=by exact Ar.Z5 [.N (.D (.E (.c .x0) .n0) (.E (.n 65536) (.c .x0))),.d 4 .x4 .x1 .x2,.d 16384 .x2 .x3 .x0] (.q .x1 .x2) rfl hv (Ar.md _ 4 rfl) (Ar.md _ 16384 rfl)
  by_cases hm:m∈d9 q
  ·obtain⟨p,u,v,M⟩:=CZ P hm
   exact⟨_,λH E=>gC (p:=p) (u:=u) (v:=v) P h0 h1 (λ_=>M) (λ_ hz=>(M.ep (by exact Ar.Z5 [.q .x0 .x1,.q .x0 .n2,.d 4 .x4 .x0 .x1,.d 16384 .x1 .x3 .x2] (.q .x1 .n2) rfl z4 hz (Ar.md _ 4 rfl) (Ar.md _ 16384 rfl))).1) E⟩
  ·by_cases hz:qc q (q.c (m/64%64)%8) (m/64%64) (m%64) (m/16384%4)=true∧m/16384%4=2
   ·have hg:=hz.1
    rw[hz.2]at hg
    obtain⟨p,hp,_⟩:=CO P hg
    exact⟨_,λH E=>gC (p:=p) (u:=0) (v:=0) P h0 h1 (λh=>absurd h hm) (λ_ _=>hp) E⟩
   ·exact⟨_,λH E=>gC (p:=0) (u:=0) (v:=0) P h0 h1 (λh=>absurd h hm) (λh1 h2=>absurd ⟨h1,h2⟩ hz) E⟩
end
end
section
open PySem
noncomputable abbrev By:List S:=[.set 16 (.call 84 [.l 2,.l 7,.l 6,.l 8,.l 13,.l 12,.l 15]),.ite (.cmp .ne (.call 61 [.l 11,.l 15]) (.l 16)) [.ret (.c (.bool false))] [],.ite (.cmp .eq (.l 16) (.c (.int 0))) [.set 17 (.call 82 [.l 2,.l 7,.l 6,.l 15]),.ite (.cmp .ne (.call 67 [.l 11,.l 15]) (.cmp .gt (.len (.call 70 [.l 2,.l 17,.sub (.l 8) (.b .sub (.c (.int 1)) (.l 6)),.l 17,.l 6])) (.c (.int 1)))) [.ret (.c (.bool false))] [],.ite (.cmp .eq (.b .bX (.l 15) (.c (.int 64))) (.sub (.l 8) (.l 6))) [.aug 14 .add (.b .shl (.c (.int 1)) (.b .mod (.l 15) (.c (.int 64))))] []] []]
noncomputable abbrev EA:List S:=[.ite (.cmp .ne (.call 61 [.l 11,.l 15]) (.call 84 [.l 2,.l 7,.l 6,.l 8,.l 13,.l 12,.l 15])) [.ret (.c (.bool false))] []]
section
variable {q:St} {H:MH} {d a b e g t k m n z i p u v w x y F N gr tr:Nat} {o o':Nat→Bool}
noncomputable abbrev pj(q:St)(x0 xd xw xr:V)(gr tr:Nat)(x14 x15 x16 x17 x18 x19 x20 x21 x22 x23:Option V):Loc:=[some x0,some (.ref 3),some (.int (q.F:Int)),some (.int (q.R:Int)),some xd,some xw,some (.int (q.s:Int)),some (.ref 5),some (.ref 6),some (.int q.ep),some xr,some (.ref 47),some (.ref tr),some (.ref gr),x14,x15,x16,x17,x18,x19,x20,x21,x22,x23]
theorem uk{s:Nat}(h:s<64):binI .shl 1 (s:Int)=some ((2 ^ s:Nat):Int):=by
 show(if decide (0≤(s:Int))&&decide ((s:Int)<4096)&&small 1 then some (1*2 ^ ((s:Int)).toNat)else none)=_
 rw[if_pos (by simp[small];exact Ar.Z1 [.l .x0 .ko] (.L (.c .x0) .il) rfl h),Int.toNat_natCast,Int.one_mul];norm_cast
theorem NB(n:Nat):decide ((1:Int)<(n:Int))=decide (1<n):=by rw[Bool.eq_iff_iff,decide_eq_true_eq,decide_eq_true_eq];exact Ar.Z1 [] (.B (.L .n1 (.c .x0)) (.l .n1 .x0)) rfl
theorem zM(P:Pos q)(M:Mx q m p u v)(E:Env q gr tr H)(x0 xd xw xr:V)(f:Nat)(x15 x16 x17:Option V) :
  ∃y16 y17 K',∀K:KS,xB (d+11) By (aX (pj q x0 xd xw xr gr tr (some (.int (f:Int))) x15 x16 x17 none none none none none none) 15 (.int (m:Int))) H K =
   K (.bf,pj q x0 xd xw xr gr tr (some (.int ((f+if rN q m then 2 ^ (m%64)else 0:Nat):Int))) (some (.int (m:Int))) y16 y17 none none none none none none,H++K'):=by
 have S:=dZ P M
 have hs:=P.s2
 have hN:q.N≤25:=P.bd.aQ
 have h0:=(hX P M.tr).1
 have z4:m/16384%4=m/16384:=by have:=S.lt;exact Ar.Z5 [.l .x0 (.n 65536),.d 4 .x4 .x1 .x2,.d 16384 .x2 .x3 .x0] (.q .x1 .x2) rfl this (Ar.md _ 4 rfl) (Ar.md _ 16384 rfl)
 obtain⟨⟨K1,e1⟩,_⟩:=gC (d:=d) P h0 S.lt (λ_=>M) (λ_ hz=>(M.ep (by exact Ar.Z5 [.q .x0 .x1,.q .x0 .n2,.d 4 .x4 .x0 .x1,.d 16384 .x1 .x3 .x2] (.q .x1 .n2) rfl z4 hz (Ar.md _ 4 rfl) (Ar.md _ 16384 rfl))).1) E
 have E1:=E.app K1
 obtain⟨_,K2,e2⟩:=gC (d:=d) P h0 S.lt (λ_=>M) (λ_ hz=>(M.ep (by exact Ar.Z5 [.q .x0 .x1,.q .x0 .n2,.d 4 .x4 .x0 .x1,.d 16384 .x1 .x3 .x2] (.q .x1 .n2) rfl z4 hz (Ar.md _ 4 rfl) (Ar.md _ 16384 rfl))).1) E1
 have E2:=E1.app K2
 have flr:m/64=q.k q.s→rN q m=Nat.beq (kp q m p) 0:=λh=>(D6 P M.tr h).symm
 have fl0:m/64≠q.k q.s→rN q m=false:=λh=>by unfold rN;simp only[show Nat.beq (m/64) (q.k q.s)=false by rw[aq];exact h];rfl
 cases e0:Nat.beq (kp q m p) 0 with
 |false=>
  have:rN q m=false:=by
   by_cases hk:m/64=q.k q.s
   ·simp only[flr hk,e0]
   ·exact fl0 hk
  refine⟨some (.int (kp q m p:Nat)),x17,K1++K2,λK=>?_⟩
  erw[xf,e1,e2,ee,Nat.beq_refl,Bool.not_true,c0,e0]
  rw[this,List.append_assoc];(first|rfl|(erw[ff]<;>rfl))
 |true=>
  have mk:=oG (d:=d+10) E2.lp (CU P M)
  have cn:Cells (H++K1++K2++[MO.lst (tab q.N λt=>V.int (az q m p u v t:Int))]) (H++K1++K2).length q.N (az q m p u v):=fO _ _ _
  have E3:=E2.app [MO.lst (tab q.N λt=>V.int (az q m p u v t:Int))]
  obtain⟨K4,e4⟩:=uL (d:=d+3) E3.hp P.jP (Iu P M)
  have E4:=E3.app K4
  obtain⟨G,e5⟩:=fS (d:=d+9) (t:=q.s) P.bd (cn.app K4) (cn.app K4) (nx P M) (P.jP.jy (1-q.s) (by exact Ar.Z2 [.s .x1 .n1 .x0] (.l .x1 .n2) rfl (Ar.ts _ _))) hs
  have sk:(1:Int)-(q.s:Int)=((1-q.s:Nat):Int):=by exact Ar.Z2 [.l .x0 .n2,.s .x1 .n1 .x0] (.Q (.s .n1 (.c .x0)) (.c .x1)) rfl hs (Ar.ts _ _)
  have ll:=cw (H++K1++K2++[MO.lst (tab q.N λt=>V.int (az q m p u v t:Int))]++K4) G (aP (cz q.N (bD q.F q.N q.s (q.k (1-q.s)) (az q m p u v) (az q m p u v))))
  have E5:=E4.app (MO.lst (aP (cz q.N (bD q.F q.N q.s (q.k (1-q.s)) (az q m p u v) (az q m p u v))))::G)
  have rm:aI (cz q.N (bD q.F q.N q.s (q.k (1-q.s)) (az q m p u v) (az q m p u v))).length=true:=bF _ (by have:=hV q.N (bD q.F q.N q.s (q.k (1-q.s)) (az q m p u v) (az q m p u v));exact Ar.Z2 [.e .x0 .aQ,.e .x1 .x0] (.e .x1 .aG) rfl hN this)
  have ds:=pT P M
  refine⟨some (.int (kp q m p:Nat)),some (.ref (H++K1++K2).length),K1++K2++[MO.lst (tab q.N λt=>V.int (az q m p u v t:Int))]++K4++MO.lst (aP (cz q.N (bD q.F q.N q.s (q.k (1-q.s)) (az q m p u v) (az q m p u v))))::G,λK=>?_⟩
  have ap:H++(K1++K2++[MO.lst (tab q.N λt=>V.int (az q m p u v t:Int))]++K4++MO.lst (aP (cz q.N (bD q.F q.N q.s (q.k (1-q.s)) (az q m p u v) (az q m p u v))))::G)=H++K1++K2++[MO.lst (tab q.N λt=>V.int (az q m p u v t:Int))]++K4++MO.lst (aP (cz q.N (bD q.F q.N q.s (q.k (1-q.s)) (az q m p u v) (az q m p u v))))::G:=by simp only[List.append_assoc]
  simp only[ap]
  cases hk:Nat.beq (m/64) (q.k q.s)with
  |false=>
   have:rN q m=false:=fl0 (by rw[aq]at hk;exact hk)
   erw[xf,e1,e2,ee,Nat.beq_refl,Bool.not_true,c0,e0,mk,e4,E4.lp.kj (show 1-q.s<2 by exact Ar.Z2 [.Q (.s .n1 (.c .x0)) (.c .x1)] (.l .x1 .n2) rfl sk),sk,e5,ll,bw,rm,NB,ds,beq_self_eq_true,decide_true,jG,E5.lp.kj hs,hk]
   simp only[this];rfl
  |true=>
   have:rN q m=true:=by simp only[flr (by rw[ae]at hk;exact hk),e0]
   erw[xf,e1,e2,ee,Nat.beq_refl,Bool.not_true,c0,e0,mk,e4,E4.lp.kj (show 1-q.s<2 by exact Ar.Z2 [.Q (.s .n1 (.c .x0)) (.c .x1)] (.l .x1 .n2) rfl sk),sk,e5,ll,bw,rm,NB,ds,beq_self_eq_true,decide_true,jG,E5.lp.kj hs,hk,km,uk (show m%64<64 by exact Ar.Z3 [.d 64 .x2 .x0 .x1] (.l .x0 .ko) rfl (Ar.md _ 64 rfl)),this,if_true,Int.natCast_add]
end
end
section
open PySem
noncomputable abbrev EB:List S:=[.exp (.app (.l 20) (.l 21)),.exp (.app (.l 20) (.b .mod (.l 21) (.c (.int 65536))))]
noncomputable def NP:List S:=[.set 12 (.call 81 [.l 2,.l 7,.l 6,.l 10,.l 9,.l 4]),.set 13 (.call 70 [.l 2,.l 7,.sub (.l 8) (.l 6),.l 7,.b .sub (.c (.int 1)) (.l 6)]),.set 14 (.c (.int 0)),.fr 15 (.l 12) By,.set 18 (.comp (.l 22) 22 (.range [.b .mul (.l 2) (.l 3)]) [.and (.sub (.l 7) (.l 22)) (.cmp .eq (.b .bX (.sub (.l 7) (.l 22)) (.c (.int 8))) (.l 6))]),.set 19 (.sub (.l 18) (.b .mod (.sub (.l 1) (.c (.int 4))) (.len (.l 18)))),.set 20 (.comp (.b .add (.b .add (.l 23) (.b .mul (.l 19) (.c (.int 64)))) (.b .mul (.b .mod (.sub (.l 1) (.c (.int 5))) (.c (.int 16))) (.c (.int 4096)))) 23 (.range [.b .mul (.l 2) (.l 3)]) []),.fr 21 (.l 1) EB,.fr 15 (.l 20) EA,.ret (.cmp .eq (.call 62 [.l 11]) (.l 14))]
section
variable {d k n:Nat} {b:List S}
theorem i7(P:Nat→Loc→MH→Prop)(l:List V)(hl:∀i ρ H,P i ρ H→aj H n=some l)
  (hb:∀i v,l[i]?=some v→∀ρ H,P i ρ H→∃ρ' H',P (i+1) ρ' H'∧∀K,nT K→xB d b (aX ρ k v) H K=K (.bf,ρ',H')) :
  ∀g i,l.length<i+g→i≤l.length→∀ρ H,P i ρ H→∃ρ' H',P l.length ρ' H'∧∀K,iw d k b n g i ρ H K=K (.bf,ρ',H')
 |0,i,h1,h2,_,_,_=>by exact False.elim (Ar.Z2 [.l .x0 (.a .x1 .n0),.e .x1 .x0] .F rfl h1 h2)
 |g+1,i,h1,h2,ρ,H,hp=>by
  cases hi:l[i]? with
  |none=>
   have:i=l.length:=by rw[List.getElem?_eq_none_iff]at hi;exact Ar.Z2 [.e .x0 .x1,.e .x1 .x0] (.q .x0 .x1) rfl h2 hi
   refine⟨ρ,H,this▸hp,λK=>?_⟩
   rw[gg _ _ _ _ _ _ _ _ _ (hl i ρ H hp),hi]
  |some v=>
   have lt:i<l.length:=by
    refine Nat.lt_of_not_le λh=>?_
    rw[List.getElem?_eq_none_iff.mpr h]at hi;exact aM hi
   refine cQ (hb i v hi ρ H hp) λρ1 H1 p1 e1=>?_
   refine cQ (i7 P l hl hb g (i+1) (by exact Ar.Z3 [.l .x0 (.a .x1 (.a .x2 .n1))] (.l .x0 (.a (.a .x1 .n1) .x2)) rfl h1) lt ρ1 H1 p1) λρ2 H2 p2 e2=>?_
   refine⟨ρ2,H2,p2,λK=>?_⟩
   rw[gg _ _ _ _ _ _ _ _ _ (hl i ρ H hp),hi]
   show xB d b (aX ρ k v) H _=_
   rw[e1 _ (fx _ _)];exact e2 K
end
section
variable {q:St} {H:MH} {d a b e g t k m n z i p u v w x y F N gr tr:Nat} {o o':Nat→Bool}
theorem BM{l:List Nat}{v:V}(h:(aP l)[i]?=some v):∃m,l[i]?=some m∧v=.int (m:Int):=by
 unfold aP at h
 rw[List.getElem?_map]at h
 cases hl:l[i]? with
 |none=>rw[hl]at h;exact aM h
 |some m=>rw[hl]at h;exact⟨m,rfl,(Option.some.inj h).symm⟩
theorem yp(P:Pos q)(E:Env q gr tr H)(x0 xd xw xr:V)(x15 x16 x17:Option V) :
  ∃y15 y16 y17 K',∀K:KS,iw (d+11) 15 By tr ((aP (d9 q)).length+1) 0 (pj q x0 xd xw xr gr tr (some (.int 0)) x15 x16 x17 none none none none none none) H K =
   K (.bf,pj q x0 xd xw xr gr tr (some (.int (bm q.N (zZ q)))) y15 y16 y17 none none none none none none,H++K'):=by
 obtain⟨ρ',H',⟨y15,y16,y17,K',rfl,rfl⟩,e⟩:=i7 (d:=d+11) (k:=15) (b:=By) (n:=tr)
  (λi ρ H1=>∃y15 y16 y17 K',ρ=pj q x0 xd xw xr gr tr (some (.int (mZ q ((d9 q).take i):Nat))) y15 y16 y17 none none none none none none∧H1=H++K') (aP (d9 q))
  (λi ρ H1 h=>by refine FQ (h) λ_ _ _ K' _ rf5_=>?_;subst rf5_;exact(E.app K').tl)
  (λi v hv ρ H1 h=>by
   refine FQ (h) λy15 y16 y17 K1 rf4_ rf5_=>?_;subst rf4_;subst rf5_
   refine ay (BM hv) λm hm rf2_=>?_;subst rf2_
   refine zT (CZ P (List.mem_of_getElem? hm)) λp u v M=>?_
   refine zT (zM (d:=d) P M (E.app K1) x0 xd xw xr (mZ q ((d9 q).take i)) y15 y16 y17) λz16 z17 K2 e=>?_
   have tk:mZ q ((d9 q).take (i+1))=mZ q ((d9 q).take i)+if rN q m then 2 ^ (m%64)else 0:=by
    simp only[List.take_add_one,hm,og];rfl
   refine⟨_,_,⟨some (.int (m:Int)),z16,z17,K1++K2,rfl,rfl⟩,λK _=>?_⟩
   rw[e,tk,List.append_assoc])
  ((aP (d9 q)).length+1) 0 (by exact Ar.Z1 [] (.l .x0 (.a .n0 (.a .x0 .n1))) rfl) (Nat.zero_le _) (pj q x0 xd xw xr gr tr (some (.int 0)) x15 x16 x17 none none none none none none) H ⟨x15,x16,x17,[],rfl,by rw[List.append_nil]⟩
 refine⟨y15,y16,y17,K',λK=>?_⟩
 rw[e,bw,List.take_length,D5 P];rfl
theorem yn(P:Pos q)(E:Env q gr tr H){n:Nat}(L:List Int)(hL:aj H n=some (L.map .int))(x0 xd xw xr:V)(x14 x15 x16 x17 x18 x19 x20 x21 x22 x23:Option V) :
  ∃y15 K',∀K:KS,iw (d+11) 15 EA n ((L.map V.int).length+1) 0 (pj q x0 xd xw xr gr tr x14 x15 x16 x17 x18 x19 x20 x21 x22 x23) H K =
   K (.bf,pj q x0 xd xw xr gr tr x14 y15 x16 x17 x18 x19 x20 x21 x22 x23,H++K'):=by
 obtain⟨ρ',H',⟨y15,K',rfl,rfl⟩,e⟩:=i7 (d:=d+11) (k:=15) (b:=EA) (n:=n)
  (λ_ ρ H1=>∃y15 K',ρ=pj q x0 xd xw xr gr tr x14 y15 x16 x17 x18 x19 x20 x21 x22 x23∧H1=H++K') (L.map .int)
  (λi ρ H1 h=>by refine cQ (h) λ_ K' _ rf3_=>?_;subst rf3_;exact aY hL)
  (λi v hv ρ H1 h=>by
   obtain⟨y15,K1,rfl,rfl⟩:=h
   obtain⟨v,rfl⟩:∃x:Int,v=.int x:=by
    refine ay (List.mem_map.mp (List.mem_of_getElem? hv)) λx _ hx=>?_
    exact⟨x,hx.symm⟩
   obtain⟨r,hr⟩:=vO (d:=d) (gr:=gr) (tr:=tr) P v
   have E1:=E.app K1
   obtain⟨_,K2,e2⟩:=hr _ E1
   obtain⟨⟨K3,e3⟩,_⟩:=hr _ (E1.app K2)
   refine⟨_,_,⟨some (.int v),K1++K2++K3,rfl,rfl⟩,λK _=>?_⟩
   erw[xf,e2,e3,decide_true,Bool.not_true]
   simp only[List.append_assoc])
  ((L.map V.int).length+1) 0 (by exact Ar.Z1 [] (.l .x0 (.a .n0 (.a .x0 .n1))) rfl) (Nat.zero_le _) (pj q x0 xd xw xr gr tr x14 x15 x16 x17 x18 x19 x20 x21 x22 x23) H ⟨x15,[],rfl,by rw[List.append_nil]⟩
 exact⟨y15,K',e⟩
end
end
section
open PySem
section
variable {q:St} {H:MH} {d a b e g t k m n z i p u v w x y F N gr tr:Nat} {o o':Nat→Bool}
theorem BC(x:Int):binI .mod x 65536=some (x.fmod 65536):=rfl
theorem yo(G:MH)(L0:List Int)(h0:L0.length≤100)(sc:List Int)(hs:aj H 3=some (sc.map .int))(hsl:sc.length≤14)(x0 xd xw xr:V)(x14 x15 x16 x17 x18 x19 x21 x22 x23:Option V) :
  ∃y21,∃L:List Int,∀K:KS,iw (d+11) 21 EB 3 ((sc.map V.int).length+1) 0 (pj q x0 xd xw xr gr tr x14 x15 x16 x17 x18 x19 (some (.ref H.length)) x21 x22 x23) (H++MO.lst (L0.map .int)::G) K =
   K (.bf,pj q x0 xd xw xr gr tr x14 x15 x16 x17 x18 x19 (some (.ref H.length)) y21 x22 x23,H++MO.lst (L.map .int)::G):=by
 obtain⟨ρ',H',⟨y21,L,_,rfl,rfl⟩,e⟩:=i7 (d:=d+11) (k:=21) (b:=EB) (n:=3)
  (λi ρ H1=>∃y21,∃L:List Int,L.length≤100+2*i∧ρ=pj q x0 xd xw xr gr tr x14 x15 x16 x17 x18 x19 (some (.ref H.length)) y21 x22 x23∧H1=H++MO.lst (L.map .int)::G) (sc.map .int)
  (λi ρ H1 h=>by refine df (h) λ_ L _ _ rf4_=>?_;subst rf4_;exact aY hs)
  (λi v hv ρ H1 h=>by
   obtain⟨y21,L,hL,rfl,rfl⟩:=h
   have hi:i<14:=by
    refine Nat.lt_of_not_le λh=>?_
    rw[List.getElem?_eq_none_iff.mpr (by rw[List.length_map];exact Ar.Z2 [.e .x0 .nA,.e .nA .x1] (.e .x0 .x1) rfl hsl h)]at hv;exact aM hv
   obtain⟨v,rfl⟩:∃x:Int,v=.int x:=by
    refine ay (List.mem_map.mp (List.mem_of_getElem? hv)) λx _ hx=>?_
    exact⟨x,hx.symm⟩
   have l1:=cw H G (L.map V.int)
   have l2:=cw H G (L.map V.int++[V.int v])
   have r1:=f_ (L.map V.int).length (by rw[List.length_map];exact Ar.Z2 [.e .x0 (.a (.n 100) (.m 2 .x1)),.l .x1 .nA] (.e .x0 (.n 100000)) rfl hL hi)
   have r2:=f_ (L.map V.int++[V.int v]).length (by simp only[List.length_append,List.length_map];simp;exact Ar.Z2 [.e .x0 (.a (.n 100) (.m 2 .x1)),.l .x1 .nA] (.e .x0 (.n 99999)) rfl hL hi)
   refine⟨_,_,⟨some (.int v),L++[v]++[v.fmod 65536],by simp;exact Ar.Z2 [.e .x0 (.a (.n 100) (.m 2 .x1))] (.e (.a .x0 .n2) (.a (.n 100) (.m 2 (.a .x1 .n1)))) rfl hL,rfl,rfl⟩,λK _=>?_⟩
   erw[xf,l1,r1,oY,l2,BC,r2]
   simp only[List.map_append];rfl)
  ((sc.map V.int).length+1) 0 (by exact Ar.Z1 [] (.l .x0 (.a .n0 (.a .x0 .n1))) rfl) (Nat.zero_le _) (pj q x0 xd xw xr gr tr x14 x15 x16 x17 x18 x19 (some (.ref H.length)) x21 x22 x23) (H++MO.lst (L0.map .int)::G) ⟨x21,L0,by exact Ar.Z1 [.e .x0 (.n 100)] (.e .x0 (.a (.n 100) (.m 2 .n0))) rfl h0,rfl,rfl⟩
 exact⟨y21,L,e⟩
theorem EF(P:Pos q)(E:LP q H)(x0 xd xw xr:V)(x14 x15 x16 x17 x18 x19 x20 x21 x22 x23:Option V) :
  ∃G,∀K:KV,lM (d+11) (.l 22) 22 [.and (.sub (.l 7) (.l 22)) (.cmp .eq (.b .bX (.sub (.l 7) (.l 22)) (.c (.int 8))) (.l 6))] (pj q x0 xd xw xr gr tr x14 x15 x16 x17 x18 x19 x20 x21 x22 x23) K (.bQ 0 (q.N:Nat) 1,H)=K (.ref H.length,H++MO.lst (aP (cz q.N (q.sd q.s)))::G):=by
 have hN:q.N≤25:=P.bd.aQ
 obtain⟨G,e⟩:=eO (d:=d+11) (elt:=.l 22) (k:=22) (cs:=[.and (.sub (.l 7) (.l 22)) (.cmp .eq (.b .bX (.sub (.l 7) (.l 22)) (.c (.int 8))) (.l 6))])
  (ρ:=pj q x0 xd xw xr gr tr x14 x15 x16 x17 x18 x19 x20 x21 x22 x23) (H:=H) (pV (q.sd q.s)) id (aP (List.range q.N)) (.bQ 0 (q.N:Nat) 1) (iX _ _ (dW _)) (by simp only[bw,List.length_range];exact Ar.Z1 [.e .x0 .aQ] (.e .x0 .aG) rfl hN)
  (λv hv acc G=>by
   refine⟨[],λK=>?_⟩
   refine ay (eF hv) λx hx rf2_=>?_;subst rf2_
   rw[List.mem_range]at hx
   have h1:=(E.app (MO.lst acc::G)).at hx
   simp only[List.append_nil]
   show _=K (q.sd q.s x,_)
   unfold St.sd nG
   erw[cf,h1,iV,uM,ee]
   cases Nat.beq (q.c x) 0 with
   |true=>(first|rfl|(erw[ff]<;>rfl))
   |false=>cases Nat.beq (q.c x/8) q.s<;>(first|rfl|(erw[ff]<;>rfl)))
  (λv hv hp acc G K=>by
   erw[cf,]
   rfl)
 rw[iF _ (q.sd q.s) _ (λx=>rfl)]at e
 exact⟨G,e⟩
theorem vP(P:Pos q)(sc:List Int)(hs:aj H 3=some (sc.map .int)){s5:Int}(h5:sc[5]?=some s5)(ht:t<64)(x0 xd xw xr:V)(x14 x15 x16 x17 x18 x20 x21 x22 x23:Option V) :
  ∃G,∃L:List Int,L.length=q.N∧∀K:KV,lM (d+11) (.b .add (.b .add (.l 23) (.b .mul (.l 19) (.c (.int 64)))) (.b .mul (.b .mod (.sub (.l 1) (.c (.int 5))) (.c (.int 16))) (.c (.int 4096)))) 23 [] (pj q x0 xd xw xr gr tr x14 x15 x16 x17 x18 (some (.int (t:Int))) x20 x21 x22 x23) K (.bQ 0 (q.N:Nat) 1,H)=K (.ref H.length,H++MO.lst (L.map .int)::G):=by
 have hN:q.N≤25:=P.bd.aQ
 have b1:0≤s5.fmod 16∧s5.fmod 16<16:=by rw[Int.fmod_eq_emod_of_nonneg _ (by decide)];exact Ar.Kz [.z 16 .y2 .y0 .y1] (.C (.E .n0 .y0) (.L .y0 .Iv)) rfl (Ar.zm _ 16 rfl)
 have m1:binI .mod s5 16=some (s5.fmod 16):=rfl
 have m2:binI .mul (s5.fmod 16) 4096=some (s5.fmod 16*4096):=aW (by exact Ar.eI [.C (.E .n0 .y0) (.L .y0 .Iv)] (.C (.L (.g (.n 4611686018427387904)) .y0) (.L .y0 (.n 4611686018427387904))) rfl b1)
 have m3:binI .mul (t:Int) 64=some ((t:Int)*64):=aW (by exact Ar.Z1 [.l .x0 .ko] (.C (.L (.g (.n 4611686018427387904)) (.c .x0)) (.L (.c .x0) (.n 4611686018427387904))) rfl ht)
 let f:V→V:=λv=>match v with|.int x=>.int (x+(t:Int)*64+s5.fmod 16*4096)|v=>v
 obtain⟨G,e⟩:=eO (d:=d+11) (elt:=.b .add (.b .add (.l 23) (.b .mul (.l 19) (.c (.int 64)))) (.b .mul (.b .mod (.sub (.l 1) (.c (.int 5))) (.c (.int 16))) (.c (.int 4096)))) (k:=23) (cs:=[])
  (ρ:=pj q x0 xd xw xr gr tr x14 x15 x16 x17 x18 (some (.int (t:Int))) x20 x21 x22 x23) (H:=H) (λ_=>true) f (aP (List.range q.N)) (.bQ 0 (q.N:Nat) 1) (iX _ _ (dW _)) (by simp only[bw,List.length_range];exact Ar.Z1 [.e .x0 .aQ] (.e .x0 .aG) rfl hN)
  (λv hv acc G=>⟨[],λK=>by rw[List.append_nil];rfl⟩)
  (λv hv hp acc G K=>by
   refine ay (eF hv) λx hx rf2_=>?_;subst rf2_
   have h1:aJ (.ref 3) (.int 5) (H++MO.lst acc::G)=some (.int s5):=by
    rw[show(5:Int)=((5:Nat):Int)from rfl,bu (aY hs) (by decide),List.getElem?_map,h5];rfl
   erw[cf,h1,m1,m2,m3]
   rfl)
 refine⟨G,(List.range q.N).map (λx:Nat=>(x:Int)+(t:Int)*64+s5.fmod 16*4096),by simp,λK=>?_⟩
 rw[e]
 have:((aP (List.range q.N)).filter λ_=>true).map f=((List.range q.N).map (λx:Nat=>(x:Int)+(t:Int)*64+s5.fmod 16*4096)).map V.int:=by
  rw[List.filter_eq_self.mpr (λ_ _=>rfl)]
  unfold aP
  simp only[List.map_map,List.map_map];rfl
 rw[this]
end
end
section
open PySem
section
variable {q:St} {H:MH} {d a b e g t k m n z i p u v w x y F N gr tr:Nat} {o o':Nat→Bool}
theorem jn(P:Pos q):binI .mul (q.F:Int) (q.R:Int)=some ((q.N:Nat):Int):=by
 have f8:=P.bd.f8
 have hN:q.N≤25:=P.bd.aQ
 exact(aW (by
            have:(q.F:Int)*(q.R:Int)=((q.N:Nat):Int):=(Int.natCast_mul _ _).symm
            exact Ar.Z1 [.e .x0 .n8] (.C (.L (.g (.n 4611686018427387904)) (.c .x0)) (.L (.c .x0) (.n 4611686018427387904))) rfl f8)).trans (congrArg some (Int.natCast_mul _ _).symm)
theorem yD(P:Pos q)(s4:Int):∃j t:Nat,binI .mod s4 ((aP (cz q.N (q.sd q.s))).length:Int)=some ((j:Nat):Int)∧j<1000∧(aP (cz q.N (q.sd q.s)))[j]?=some (.int (t:Int))∧t<64:=by
 have hN:q.N≤25:=P.bd.aQ
 have hs:=P.s2
 have jy:q.k q.s∈cz q.N (q.sd q.s):=b7.mpr ⟨P.jP.jy _ hs,cU.mpr (by rw[P.jP.oB _ hs];exact Ar.Z3 [.d 8 .x1 .x2 (.a .n6 (.m 8 .x0))] (.C (.N (.q (.a .n6 (.m 8 .x0)) .n0)) (.q .x1 .x0)) rfl (Ar.md _ 8 rfl))⟩
 have l0:0<(cz q.N (q.sd q.s)).length:=List.length_pos_of_mem jy
 have l1:=hV q.N (q.sd q.s)
 have e:s4.fmod ((cz q.N (q.sd q.s)).length:Int)=((s4.fmod ((cz q.N (q.sd q.s)).length:Int)).toNat:Int):=by
  rw[Int.fmod_eq_emod_of_nonneg _ (by exact Ar.Z1 [] (.E .n0 (.c .x0)) rfl)]
  have:=Int.emod_nonneg s4 (b:=((cz q.N (q.sd q.s)).length:Int)) (by exact Ar.Z1 [.l .n0 .x0] (.N (.Q (.c .x0) .n0)) rfl l0)
  exact Ar.h_ [.E .n0 .y0,.t .x0 .y0] (.Q .y0 (.c .x0)) rfl this (Ar.tn _)
 have lt:(s4.fmod ((cz q.N (q.sd q.s)).length:Int)).toNat<(cz q.N (q.sd q.s)).length:=by
  rw[Int.fmod_eq_emod_of_nonneg _ (by exact Ar.Z1 [] (.E .n0 (.c .x0)) rfl)]
  have:=Int.emod_lt_of_pos s4 (b:=((cz q.N (q.sd q.s)).length:Int)) (by exact Ar.Z1 [.l .n0 .x0] (.L .n0 (.c .x0)) rfl l0)
  exact Ar.vI [.l .n0 .x1,.e .x1 .x0,.L .y0 (.c .x1),.t .x2 .y0] (.l .x2 .x1) rfl l0 l1 this (Ar.tn _)
 have mem:=List.getElem_mem lt
 obtain⟨t1,_⟩:=b7.mp mem
 refine⟨(s4.fmod ((cz q.N (q.sd q.s)).length:Int)).toNat,_,?_,by exact Ar.vI [.e .x0 .aQ,.e .x1 .x0,.l .x2 .x1,.t .x2 .y0] (.l .x2 .aG) rfl hN l1 lt (Ar.tn _),?_,show(cz q.N (q.sd q.s))[(s4.fmod ((cz q.N (q.sd q.s)).length:Int)).toNat]<64 by exact Ar.q0 [.e .x0 .aQ,.l .x1 .x2,.l .x3 .x0,.t .x1 .y0] (.l .x3 .ko) rfl hN lt t1 (Ar.tn _)⟩
 ·rw[bw,← e]
  show(if decide ((0:Int)<((cz q.N (q.sd q.s)).length:Int))=true then some (s4.fmod ((cz q.N (q.sd q.s)).length:Int))else none)=_
  rw[if_pos (by simp;exact Ar.Z1 [.l .n0 .x0] (.l .n0 .x0) rfl l0)]
 ·unfold aP
  simp only[List.getElem?_map,List.getElem?_eq_getElem lt];rfl
theorem Bz(P:Pos q)(hp:HP q H)(lp:LP q H)(sc:List Int)(hs:aj H 3=some (sc.map .int))(hsl:6≤sc.length∧sc.length≤14)(x0 xw:V) :
  ∃H',xB (d+11) NP [some x0,some (.ref 3),some (.int (q.F:Int)),some (.int (q.R:Int)),some (.int (gq q.dbl)),some xw,some (.int (q.s:Int)),some (.ref 5),some (.ref 6),some (.int q.ep),some (.int (bm 4 q.rt)),some (.ref 47),none,none,none,none,none,none,none,none,none,none,none,none] H ox=some (.bool true,H'):=by
 have hN:q.N≤25:=P.bd.aQ
 have s2:=P.s2
 obtain⟨s4,e4⟩:∃s,sc[4]?=some s:=⟨_,List.getElem?_eq_getElem (by exact Ar.Z1 [.C (.e .n6 .x0) (.e .x0 .nA)] (.l .n4 .x0) rfl hsl)⟩
 obtain⟨s5,e5⟩:∃s,sc[5]?=some s:=⟨_,List.getElem?_eq_getElem (by exact Ar.Z1 [.C (.e .n6 .x0) (.e .x0 .nA)] (.l .n5 .x0) rfl hsl)⟩
 refine cQ (yF (d:=d+6) lp P.jP.code P.right) λtr K1 m1 m2=>?_
 have lp1:=lp.app K1
 obtain⟨G2,h2⟩:∃G,ag PB (d+11) 70 [.int (q.F:Int),.ref 5,.int (q.k q.s:Int),.ref 5,.int ((1-q.s:Nat):Int)] (H++K1)=some (.ref (H++K1).length,H++K1++MO.lst (aP (dj q))::G):=fS (d:=d+9) (t:=1-q.s) P.bd lp1.cl lp1.cl P.jP.code (P.jP.jy _ s2) (by exact Ar.Z2 [.s .x1 .n1 .x0] (.l .x1 .n2) rfl (Ar.ts _ _))
 have E:Env q (H++K1).length tr (H++K1++MO.lst (aP (dj q))::G2):=⟨(hp.app K1).app _,lp1.app _,cw _ _ _,aY m2⟩
 refine M6 (yp (d:=d) P E x0 (.int (gq q.dbl)) xw (.int (bm 4 q.rt)) none none none) λy15 y16 y17 K3 h3=>?_
 have E3:=E.app K3
 generalize hH3:H++K1++MO.lst (aP (dj q))::G2++K3=H3 at E3 h3
 have hs3:aj H3 3=some (sc.map .int):=by rw[← hH3];exact aY (aY (aY hs))
 obtain⟨G4,h4⟩:=EF (d:=d) (gr:=(H++K1).length) (tr:=tr) P E3.lp x0 (.int (gq q.dbl)) xw (.int (bm 4 q.rt)) (some (.int (bm q.N (zZ q)))) y15 y16 y17 none none none none none none
 have E4:=E3.app (MO.lst (aP (cz q.N (q.sd q.s)))::G4)
 have l4:=cw H3 G4 (aP (cz q.N (q.sd q.s)))
 have hs4:=aY (K:=MO.lst (aP (cz q.N (q.sd q.s)))::G4) hs3
 generalize hH4:H3++MO.lst (aP (cz q.N (q.sd q.s)))::G4=H4 at E4 l4 hs4 h4
 refine Cy (yD P s4) λj t j1 j2 j3 t1=>?_
 have sj:aJ (.ref H3.length) (.int (j:Int)) H4=some (.int (t:Int)):=by rw[bu l4 (by exact Ar.Z1 [.l .x0 .aG] (.l .x0 .av) rfl j2)];exact j3
 have ss4:aJ (.ref 3) (.int 4) H4=some (.int s4):=by
  rw[show(4:Int)=((4:Nat):Int)from rfl,bu hs4 (by decide),List.getElem?_map,e4];rfl
 have rm:=f_ (aP (cz q.N (q.sd q.s))).length (by rw[bw];have:=hV q.N (q.sd q.s);exact Ar.Z2 [.e .x0 .aQ,.e .x1 .x0] (.e .x1 (.n 100000)) rfl hN this)
 refine cQ (vP (d:=d) (gr:=(H++K1).length) (tr:=tr) P sc hs4 e5 t1 x0 (.int (gq q.dbl)) xw (.int (bm 4 q.rt)) (some (.int (bm q.N (zZ q)))) y15 y16 y17 (some (.ref H3.length)) none none none none) λG5 L0 hL0 h5=>?_
 refine zS (yo (q:=q) (d:=d) (gr:=(H++K1).length) (tr:=tr) G5 L0 (by exact Ar.Z2 [.e .x0 .aQ,.q .x1 .x0] (.e .x1 (.n 100)) rfl hN hL0) sc hs4 hsl.2 x0 (.int (gq q.dbl)) xw (.int (bm 4 q.rt)) (some (.int (bm q.N (zZ q)))) y15 y16 y17 (some (.ref H3.length)) (some (.int (t:Int))) none none none) λy21 L h6=>?_
 have l5:=aY (K:=MO.lst (L0.map V.int)::G5) hs4
 have E5:=E4.app (MO.lst (L.map V.int)::G5)
 have l6:=cw H4 G5 (L.map V.int)
 refine zS (yn (d:=d) P E5 L l6 x0 (.int (gq q.dbl)) xw (.int (bm 4 q.rt)) (some (.int (bm q.N (zZ q)))) y15 y16 y17 (some (.ref H3.length)) (some (.int (t:Int))) (some (.ref H4.length)) y21 none none) λz15 K7 h7=>?_
 have E7:=E5.app K7
 obtain⟨K8,h8⟩:=rO (d:=d+2) E7.hp P.jP
 have sk:(1:Int)-(q.s:Int)=((1-q.s:Nat):Int):=by exact Ar.Z2 [.l .x0 .n2,.s .x1 .n1 .x0] (.Q (.s .n1 (.c .x0)) (.c .x1)) rfl s2 (Ar.ts _ _)
 refine⟨H4++MO.lst (L.map V.int)::G5++K7++K8,?_⟩
 unfold NP
 erw[m1,lp1.kj s2,sk,h2,aY (K:=MO.lst (aP (dj q))::G2) m2]
 refine(h3 _).trans ?_
 erw[cf,jn P,mk_zero _ (show q.N≤1000 by exact Ar.Z2 [.e .x0 .aQ,.q .x1 .x0] (.e .x0 .aG) rfl hN hL0)]
 refine(h4 _).trans ?_
 erw[cf,ss4,l4,rm,j1,sj,jn P,mk_zero _ (show q.N≤1000 by exact Ar.Z2 [.e .x0 .aQ,.q .x1 .x0] (.e .x0 .aG) rfl hN hL0)]
 refine(h5 _).trans ?_
 erw[l5]
 refine(h6 _).trans ?_
 erw[l6]
 refine(h7 _).trans ?_
 erw[h8]
 exact l9 (decide_eq_true rfl) _
end
end
section
open PySem
noncomputable def vp:List (Nat×Nat×Bool×Bool):=[(4,5,true,false),(8,3,false,true),(5,5,true,false),(6,3,false,true),(3,5,true,false),(4,5,false,false)]
noncomputable abbrev pf(F R:Nat)(D W:Bool):Prop:=(F,R,D,W)∈vp
noncomputable def Gs:E:=.and (.cmp .lt (.abs (.b .sub (.b .mod (.l 5) (.l 0)) (.b .mod (.l 6) (.l 0)))) (.c (.int 2))) (.cmp .lt (.abs (.b .sub (.b .bX (.l 5) (.l 0)) (.b .bX (.l 6) (.l 0)))) (.c (.int 2)))
noncomputable def J9:List S:=[.set 6 (.b .mod (.b .add (.l 6) (.c (.int 1))) (.l 1))]
noncomputable def Mj:E:=.ite (.and (.l 2) (.cmp .eq (.b .mod (.l 3) (.c (.int 2))) (.c (.int 0)))) (.b .bX (.l 0) (.c (.int 2))) (.b .mod (.b .bX (.l 3) (.c (.int 2))) (.l 1))
noncomputable def Mk:E:=.ite (.and (.l 2) (.cmp .eq (.b .mod (.l 4) (.c (.int 2))) (.c (.int 0)))) (.b .add (.b .sub (.l 1) (.l 0)) (.b .bX (.l 0) (.c (.int 2)))) (.b .mod (.b .bX (.l 4) (.c (.int 2))) (.l 1))
section
variable {H:MH} {d a b e g t k m n z i p u v w x y F N R:Nat} {D W:Bool}
structure GD (F R:Nat) (D W:Bool):Prop where
 bd:Bd F R
 big:4≤F∨4≤R
 r5:W=false→R=5
 wg:W=true→R=3∧6≤F∧D=false
theorem ir(h:pf F R D W):GD F R D W:=by
 unfold pf vp at h
 simp only[List.mem_cons,List.not_mem_nil,or_false,Prod.mk.injEq]at h
 rcases h with⟨rfl,rfl,rfl,rfl⟩|⟨rfl,rfl,rfl,rfl⟩|⟨rfl,rfl,rfl,rfl⟩|⟨rfl,rfl,rfl,rfl⟩|⟨rfl,rfl,rfl,rfl⟩|⟨rfl,rfl,rfl,rfl⟩ <;>
  exact⟨⟨by decide,by decide,by decide,by decide,by decide⟩,by decide,by decide,by decide⟩
theorem j6(x:Int)(h:0<N):∃j,j<N∧binI .mod x (N:Int)=some ((j:Nat):Int):=by
 refine⟨(x.fmod N).toNat,?_,?_⟩
 ·rw[Int.fmod_eq_emod_of_nonneg _ (by exact Ar.Z1 [] (.E .n0 (.c .x0)) rfl)]
  have:=Int.emod_lt_of_pos x (b:=(N:Int)) (by exact Ar.Z1 [.l .n0 .x0] (.L .n0 (.c .x0)) rfl h)
  have:=Int.emod_nonneg x (b:=(N:Int)) (by exact Ar.Z1 [.l .n0 .x0] (.N (.Q (.c .x0) .n0)) rfl h)
  exact Ar.uB [.L .y0 (.c .x0),.E .n0 .y0,.t .x1 .y0] (.l .x1 .x0) rfl (by assumption) this (Ar.tn _)
 ·show(if decide ((0:Int)<N)=true then some (x.fmod N)else none)=_
  rw[if_pos (by simp;exact Ar.Z1 [.l .n0 .x0] (.l .n0 .x0) rfl h),Int.fmod_eq_emod_of_nonneg _ (by exact Ar.Z1 [] (.E .n0 (.c .x0)) rfl)]
  have:=Int.emod_nonneg x (b:=(N:Int)) (by exact Ar.Z1 [.l .n0 .x0] (.N (.Q (.c .x0) .n0)) rfl h)
  exact congrArg some (by exact Ar.h_ [.E .n0 .y0,.t .x0 .y0] (.Q .y0 (.c .x0)) rfl this (Ar.tn _))
theorem zp(x:Int):∃F R D W,pf F R D W∧∀H,aJ (.tup [.tup [.int 4,.int 5,.int 1,.int 0],.tup [.int 8,.int 3,.int 0,.int 1],.tup [.int 5,.int 5,.int 1,.int 0],.tup [.int 6,.int 3,.int 0,.int 1],.tup [.int 3,.int 5,.int 1,.int 0],.tup [.int 4,.int 5,.int 0,.int 0]]) (.int (x.fmod 6)) H=some (.tup [.int (F:Int),.int (R:Int),.int (gq D),.int (gq W)]):=by
 refine ay (j6 x (N:=6) (by decide)) λj hj e=>?_
 have e:x.fmod 6=(j:Int):=Option.some.inj e
 rw[e]
 have:j=0∨j=1∨j=2∨j=3∨j=4∨j=5:=by exact Ar.Z1 [.l .x0 .n6] (.D (.q .x0 .n0) (.D (.q .x0 .n1) (.D (.q .x0 .n2) (.D (.q .x0 .n3) (.D (.q .x0 .n4) (.q .x0 .n5)))))) rfl hj
 rcases this with rfl|rfl|rfl|rfl|rfl|rfl
 ·exact⟨4,5,true,false,by decide,λ_=>rfl⟩
 ·exact⟨8,3,false,true,by decide,λ_=>rfl⟩
 ·exact⟨5,5,true,false,by decide,λ_=>rfl⟩
 ·exact⟨6,3,false,true,by decide,λ_=>rfl⟩
 ·exact⟨3,5,true,false,by decide,λ_=>rfl⟩
 ·exact⟨4,5,false,false,by decide,λ_=>rfl⟩
noncomputable def gR(F a b:Nat):Bool:=Nat.blt (dst (a%F) (b%F)) 2&&Nat.blt (dst (a/F) (b/F)) 2
theorem Ms(x y:Nat):decide (((((x:Nat):Int)-((y:Nat):Int)).natAbs:Int)<2)=Nat.blt (dst x y) 2:=by
 rw[Bool.eq_iff_iff,decide_eq_true_eq,aC];unfold dst;exact Ar.Z5 [.s .x4 .x2 .x1,.s .x3 .x1 .x2,.b .x0 (.s (.c .x1) (.c .x2))] (.B (.L (.c .x0) .n2) (.l (.a .x3 .x4) .n2)) rfl (Ar.ts _ _) (Ar.ts _ _) (Ar.na _)
noncomputable abbrev J_(F N a b:Nat)(x2 x3 x4:V):Loc:=[some (.int (F:Int)),some (.int (N:Int)),some x2,some x3,some x4,some (.int (a:Int)),some (.int (b:Int))]
theorem Br(hF:0<F)(hF25:F≤25)(hN:0<N):∀t g b,b<N→gR F a ((b+t)%N)=false→∃b',b'<N∧gR F a b'=false∧∀(d:Nat) (x2 x3 x4:V) (H:MH) (K:KS),xW d Gs J9 (t+1+g) (J_ F N a b x2 x3 x4) H K=K (.bf,J_ F N a b' x2 x3 x4,H):=by
 intro t
 induction t with
 |zero=>
  intro g b hb h
  simp only[Nat.add_zero,Nat.mod_eq_of_lt hb]at h
  refine⟨b,hb,h,λd x2 x3 x4 H K=>?_⟩
  simp only[show 0+1+g=g+1 by exact Ar.Z1 [] (.q (.a (.a .n0 .n1) .x0) (.a .x0 .n1)) rfl,jw]
  unfold Gs
  erw[xf,wf,fY hF,fh hF hF25,Ms]
  unfold gR at h
  cases h1:Nat.blt (dst (a%F) (b%F)) 2 with
  |false=>(first|rfl|(erw[ff]<;>rfl))
  |true=>rw[h1,Bool.true_and]at h;rw[h];(first|rfl|(erw[ff]<;>rfl))
 |succ t ih=>
  intro g b hb h
  cases hn:gR F a b with
  |false=>
   refine⟨b,hb,hn,λd x2 x3 x4 H K=>?_⟩
   simp only[show t+1+1+g=(t+1+g)+1 by exact Ar.Z2 [] (.q (.a (.a (.a .x0 .n1) .n1) .x1) (.a (.a (.a .x0 .n1) .x1) .n1)) rfl,jw]
   unfold Gs
   erw[xf,wf,fY hF,fh hF hF25,Ms]
   unfold gR at hn
   cases h1:Nat.blt (dst (a%F) (b%F)) 2 with
   |false=>(first|rfl|(erw[ff]<;>rfl))
   |true=>rw[h1,Bool.true_and]at hn;rw[hn];(first|rfl|(erw[ff]<;>rfl))
  |true=>
   refine dD (ih g ((b+1)%N) (Nat.mod_lt _ hN) (by rw[Nat.mod_add_mod,show b+1+t=b+(t+1) by exact Ar.Z2 [] (.q (.a (.a .x0 .n1) .x1) (.a .x0 (.a .x1 .n1))) rfl];exact h)) λb' h1 h2 h3=>?_
   refine⟨b',h1,h2,λd x2 x3 x4 H K=>?_⟩
   rw[show t+1+1+g=(t+1+g)+1 by exact Ar.Z2 [] (.q (.a (.a (.a .x0 .n1) .n1) .x1) (.a (.a (.a .x0 .n1) .x1) .n1)) rfl,jw]
   have e1:binI .mod ((b:Int)+1) (N:Int)=some (((b+1)%N:Nat):Int):=fY hN (b+1)
   unfold gR at hn
   simp only[Bool.and_eq_true]at hn
   simp only[← h3 d x2 x3 x4 H K]
   unfold Gs J9
   erw[xf,wf,fY hF,fh hF hF25,Ms,hn.1,hn.2,e1]
theorem u4(bd:Bd F R)(big:4≤F∨4≤R)(ha:a<F*R):∃c,c<F*R∧gR F a c=false:=by
 have f3:=bd.f3
 have r3:=bd.r3
 have F0:0<F:=by exact Ar.Z1 [.e .n3 .x0] (.l .n0 .x0) rfl f3
 have e0:0%F=0∧0/F=0:=⟨Nat.zero_mod _,Nat.zero_div _⟩
 have hr:a/F<R:=Nat.div_lt_of_lt_mul ha
 have hm:=Nat.mod_lt a F0
 have en:=gE (x:=F*R-1) (F:=F) (p:=F-1) (r:=R-1) F0 (by exact Ar.Z2 [.e .n3 .x0,.s .x1 .x0 .n1] (.l .x1 .x0) rfl f3 (Ar.ts _ _)) (by simp only[Nat.mul_sub,Nat.mul_one];have:F≤F*R:=Nat.le_mul_of_pos_right _ (by exact Ar.Z1 [.e .n3 .x0] (.l .n0 .x0) rfl r3);exact Ar.Z5 [.e .n3 .x0,.e .x0 .x1,.s .x4 .x0 .n1,.s .x3 .x1 .x0,.s .x2 .x1 .n1] (.q .x2 (.a .x3 .x4)) rfl f3 this (Ar.ts _ _) (Ar.ts _ _) (Ar.ts _ _))
 have fr:9≤F*R:=Nat.mul_le_mul f3 r3
 by_cases h:gR F a 0=false
 ·exact⟨0,by exact Ar.Z1 [.e .n9 .x0] (.l .n0 .x0) rfl fr,h⟩
 ·refine⟨F*R-1,by exact Ar.Z2 [.e .n9 .x0,.s .x1 .x0 .n1] (.l .x1 .x0) rfl fr (Ar.ts _ _),?_⟩
  unfold gR at h ⊢
  simp only[e0.1,e0.2,Bool.not_eq_false,Bool.and_eq_true,aC,aC]at h
  simp only[en.1,en.2,← Bool.not_eq_true,Bool.and_eq_true,aC,aC]
  unfold dst at h ⊢
  rintro⟨g1,g2⟩
  have x2:a%F<2:=Nat.lt_of_le_of_lt (Nat.le_add_right _ _) h.1
  have y2:a/F<2:=Nat.lt_of_le_of_lt (Nat.le_add_right _ _) h.2
  clear h en
  refine Or.elim (big) (λb=>?_) λb=>?_
  ·exact absurd g1 (by exact Ar.Z7 [.l .x1 .x0,.l .x2 .n2,.e .n4 .x3,.s .x6 .x5 .x2,.s .x5 .x3 .n1] (.N (.l (.a .x4 .x6) .n2)) rfl hr x2 b (Ar.ts _ _) (Ar.ts _ _))
  ·exact absurd g2 (by exact Ar.Z5 [.l .x0 .n2,.e .n4 .x1,.s .x4 .x3 .x0,.s .x3 .x1 .n1] (.N (.l (.a .x2 .x4) .n2)) rfl y2 b (Ar.ts _ _) (Ar.ts _ _))
theorem u5:gR F a a=true:=by
 unfold gR;simp only[Bool.and_eq_true,aC,aC];unfold dst;exact Ar.Z4 [.s .x2 .x3 .x3,.s .x0 .x1 .x1] (.C (.l (.a .x0 .x0) .n2) (.l (.a .x2 .x2) .n2)) rfl (Ar.ts _ _) (Ar.ts _ _)
theorem AU(x:Int):binI .bX x 2=some (x.fdiv 2):=rfl
theorem oJ(x:Int):binI .mod x 2=some (x.fmod 2):=rfl
theorem yc(hS:pf F R D W)(s2 s3:Int):∃a b,a<F*R∧b<F*R∧a≠b∧∀H:MH,ag PB (d+1) 73 [.int (F:Int),.int ((F*R:Nat):Int),.int (gq W),.int s2,.int s3] H=some (.ref H.length,H++[.lst [.int (a:Int),.int (b:Int)]]):=by
 have hF:=ir hS
 have f3:=hF.bd.f3
 have r3:=hF.bd.r3
 have aQ:=hF.bd.aQ
 have F0:0<F:=by exact Ar.Z1 [.e .n3 .x0] (.l .n0 .x0) rfl f3
 have fr:9≤F*R:=Nat.mul_le_mul f3 r3
 have fn:F≤F*R:=Nat.le_mul_of_pos_right _ (by exact Ar.Z1 [.e .n3 .x0] (.l .n0 .x0) rfl r3)
 refine ay (j6 (s2.fdiv 2) (N:=F*R) (by exact Ar.Z1 [.e .n9 .x0] (.l .n0 .x0) rfl fr)) λa1 ha1 ea=>?_
 refine ay (j6 (s3.fdiv 2) (N:=F*R) (by exact Ar.Z1 [.e .n9 .x0] (.l .n0 .x0) rfl fr)) λb1 hb1 eb=>?_
 have sb:(((F*R:Nat):Int)-(F:Int))+((F/2:Nat):Int)=((F*R-F+F/2:Nat):Int):=by exact Ar.Z5 [.e .x0 .x1,.s .x4 .x1 .x0,.d 2 .x2 .x3 .x0] (.Q (.a (.s (.c .x1) (.c .x0)) (.c .x2)) (.c (.a .x4 .x2))) rfl fn (Ar.ts _ _) (Ar.md _ 2 rfl)
 have key:∀a b,a<F*R→b<F*R→∃b',b'<F*R∧a≠b'∧∀(d:Nat) (x2 x3 x4:V) (H:MH) (K:KS),xW d Gs J9 turns (J_ F (F*R) a b x2 x3 x4) H K=K (.bf,J_ F (F*R) a b' x2 x3 x4,H):=λa b ha hb=>by
  refine ay (u4 hF.bd hF.big ha) λc hc hn=>?_
  have t1:∃t,t<30∧(b+t)%(F*R)=c:=by
   generalize F*R=N at *
   by_cases h:b≤c
   ·exact⟨c-b,by exact Ar.Z4 [.e .x0 .aQ,.l .x1 .x0,.s .x2 .x1 .x3] (.l .x2 (.n 30)) rfl aQ hc (Ar.ts _ _),by rw[show b+(c-b)=c by exact Ar.Z3 [.e .x0 .x1,.s .x2 .x1 .x0] (.q (.a .x0 .x2) .x1) rfl h (Ar.ts _ _),Nat.mod_eq_of_lt hc]⟩
   ·exact⟨c+N-b,by exact Ar.Z4 [.e .x0 .aQ,.N (.e .x1 .x2),.s .x3 (.a .x2 .x0) .x1] (.l .x3 (.n 30)) rfl aQ h (Ar.ts _ _),by rw[show b+(c+N-b)=c+N by exact Ar.Z4 [.l .x0 .x1,.s .x2 (.a .x3 .x1) .x0] (.q (.a .x0 .x2) (.a .x3 .x1)) rfl hb (Ar.ts _ _),Nat.add_mod_right,Nat.mod_eq_of_lt hc]⟩
  obtain⟨t,t1,t2⟩:=t1
  refine dD (Br F0 (by exact Ar.Z2 [.e .x0 .aQ,.e .x1 .x0] (.e .x1 .aQ) rfl aQ fn) (N:=F*R) (by exact Ar.Z1 [.e .n9 .x0] (.l .n0 .x0) rfl fr) t (199-t) b hb (by rw[t2];exact hn)) λb' h1 h2 h3=>?_
  refine⟨b',h1,λe=>?_,?_⟩
  ·rw[← e,u5]at h2;exact pF h2
  ·rw[show turns=t+1+(199-t) by unfold turns;exact Ar.Z2 [.l .x0 (.n 30),.s .x1 (.n 199) .x0] (.q (.n 200) (.a (.a .x0 .n1) .x1)) rfl t1 (Ar.ts _ _)];exact h3
 obtain⟨a,ha,ea⟩:∃a:Nat,a<F*R∧∀(d:Nat) (H:MH) (K:KV),xE d Mj [some (.int (F:Int)),some (.int ((F*R:Nat):Int)),some (.int (gq W)),some (.int s2),some (.int s3),none,none] H K=K (.int (a:Int),H):=by
  unfold Mj
  cases W with
  |false=>
   refine⟨a1,ha1,λd H K=>?_⟩
   erw[AU,ea,oJ,gq,Bool.false_eq_true,if_false]
   try (first|rfl|(erw[ff]<;>rfl))
  |true=>
   cases h:decide (s2.fmod 2=0)with
   |false=>
    refine⟨a1,ha1,λd H K=>?_⟩
    erw[AU,ea,oJ,gq,if_true,h]
    try (first|rfl|(erw[ff]<;>rfl))
   |true=>
    refine⟨F/2,by exact Ar.Z4 [.e .n3 .x0,.e .x0 .x1,.d 2 .x2 .x3 .x0] (.l .x2 .x1) rfl f3 fn (Ar.md _ 2 rfl),λd H K=>?_⟩
    erw[F2,oJ,gq,if_true,h]
    try (first|rfl|(erw[ff]<;>rfl))
 obtain⟨b,hb,eb⟩:∃b:Nat,b<F*R∧∀(d:Nat) (H:MH) (K:KV),xE d Mk [some (.int (F:Int)),some (.int ((F*R:Nat):Int)),some (.int (gq W)),some (.int s2),some (.int s3),some (.int (a:Int)),none] H K=K (.int (b:Int),H):=by
  unfold Mk
  cases W with
  |false=>
   refine⟨b1,hb1,λd H K=>?_⟩
   erw[AU,eb,oJ,gq,Bool.false_eq_true,if_false]
   try (first|rfl|(erw[ff]<;>rfl))
  |true=>
   cases h:decide (s3.fmod 2=0)with
   |false=>
    refine⟨b1,hb1,λd H K=>?_⟩
    erw[AU,eb,oJ,gq,if_true,h]
    try (first|rfl|(erw[ff]<;>rfl))
   |true=>
    refine⟨F*R-F+F/2,by exact Ar.Z5 [.e .n3 .x0,.Q (.a (.s (.c .x1) (.c .x0)) (.c .x2)) (.c (.a .x4 .x2)),.d 2 .x2 .x3 .x0] (.l (.a .x4 .x2) .x1) rfl f3 sb (Ar.md _ 2 rfl),λd H K=>?_⟩
    erw[F2,oJ,gq,if_true,h,sb]
    try (first|rfl|(erw[ff]<;>rfl))
 refine dD (key a b ha hb) λb' h1 h2 h3=>?_
 refine⟨a,b',ha,h1,h2,λH=>?_⟩
 rw[ax (fn:=⟨5,7,[.set 5 Mj,.set 6 Mk,.zR Gs J9,.ret (.lst [.l 5,.l 6])]⟩) rfl rfl]
 erw[xf,wf,ea,eb]
 refine(h3 _ _ _ _ _ _).trans ?_
 erw[]
end
end
section
open PySem
structure CI (F R:Nat) (k c:Nat→Nat):Prop where
 code:Code (F*R) c
 jy:∀t,t<2→k t<F*R
 oB:∀t,t<2→c (k t)=6+8*t
 yd:∀x t,x<F*R→t<2→c x=6+8*t→x=k t
 yR:∀x,x<F*R→c x%8=1→0<x/F∧x/F+1<R
noncomputable abbrev h7(o:Nat→MO)(N:Nat)(c k:Nat→Nat):MH:=[o 0,o 1,o 2,o 3,o 4,.lst (tab N λt=>.int (c t:Int)),.lst [.int (k 0:Int),.int (k 1:Int)]]
section
variable {H:MH} {d a b e g t m n z i p u v w x y F N R s:Nat} {D W:Bool} {c k:Nat→Nat} {o:Nat→MO}
theorem mE:upd c x m x=m:=by unfold upd;rw[if_pos (by rw[ae])]
theorem iJ(h:y≠x):upd c x m y=c y:=by unfold upd;rw[if_neg (by rw[ae];exact h)]
theorem DB(h:CI F R k c)(hx:x<F*R)(h0:c x=0)(m1:1≤m%8)(m5:m%8≤5)(m2:m/8<2)(hp:m%8=1→0<x/F∧x/F+1<R):CI F R k (upd c x m):=by
 refine⟨λy hy=>?_,h.jy,λt ht=>?_,λy t hy ht e=>?_,λy hy e=>?_⟩
 ·by_cases hxy:y=x
  ·rw[hxy,mE];exact .inr ⟨m1,by exact Ar.Z3 [.e .x0 .n5,.d 8 .x2 .x0 .x1] (.e .x0 .n6) rfl m5 (Ar.md _ 8 rfl),m2⟩
  ·rw[iJ hxy];exact h.code y hy
 ·rw[iJ]
  ·exact h.oB t ht
  ·rintro e;have:=h.oB t ht;rw[e,h0]at this;exact Ar.Z1 [.q .n0 (.a .n6 (.m 8 .x0))] .F rfl this
 ·by_cases hxy:y=x
  ·rw[hxy,mE]at e;exact Ar.Z6 [.e .x0 .n5,.q .x1 (.a .n6 (.m 8 .x3)),.d 8 .x2 .x0 .x1] (.q .x4 .x5) rfl m5 e (Ar.md _ 8 rfl)
  ·rw[iJ hxy]at e;exact h.yd y t hy ht e
 ·by_cases hxy:y=x
  ·rw[hxy,mE]at e;rw[hxy];exact hp e
  ·rw[iJ hxy]at e;exact h.yR y hy e
theorem gJ:Cells (h7 o N c k) 5 N c:=rfl
theorem ja(ht:t<2):aJ (.ref 6) (.int (t:Int)) (h7 o N c k)=some (.int (k t:Nat)):=by
 match t,ht with
 |0,_=>rfl
 |1,_=>rfl
theorem rX(hN:N≤25)(hx:x<N):dX (.ref 5) (.int (x:Int)) (.int (m:Int)) (h7 o N c k)=some (h7 o N (upd c x m) k):=zl (gJ) hN hx
theorem oX(bd:Bd F R)(h:CI F R k c)(hs:s<2)(hx:x<F*R)(m1:1≤m%8)(m5:m%8≤5)(m2:m/8<2) :
  ∃c',CI F R k c'∧∀(d:Nat) (o:Nat→MO),ag PB (d+2) 72 [.int (F:Int),.ref 5,.ref 6,.int (s:Int),.int (m:Int),.int (x:Int)] (h7 o (F*R) c k)=some (.bW,h7 o (F*R) c' k):=by
 have aQ:=bd.aQ
 have f3:=bd.f3
 have F0:0<F:=by exact Ar.Z1 [.e .n3 .x0] (.l .n0 .x0) rfl f3
 have dv:F*R/F=R:=Nat.mul_div_cancel_left R F0
 have hl:∀o:Nat→MO,aj (h7 o (F*R) c k) 5=some (tab (F*R) λt=>.int (c t:Int)):=λ_=>rfl
 have rm:aI (F*R)=true:=bF _ (by exact Ar.Z1 [.e .x0 .aQ] (.e .x0 .aG) rfl aQ)
 have at_:∀o:Nat→MO,aJ (.ref 5) (.int (x:Int)) (h7 o (F*R) c k)=some (.int (c x:Int)):=λo=>(gJ (o:=o)).at aQ hx
 have sk:(1:Int)-(s:Int)=((1-s:Nat):Int):=by exact Ar.Z2 [.l .x0 .n2,.s .x1 .n1 .x0] (.Q (.s .n1 (.c .x0)) (.c .x1)) rfl hs (Ar.ts _ _)
 have lo:decide ((0:Int)<((x/F:Nat):Int))=Nat.blt 0 (x/F):=by rw[Bool.eq_iff_iff,decide_eq_true_eq,aC];exact Ar.Z1 [] (.B (.L .n0 (.c .x0)) (.l .n0 .x0)) rfl
 have hi:decide (((x/F:Nat):Int)<(R:Int)-1)=Nat.blt (x/F+1) R:=by rw[Bool.eq_iff_iff,decide_eq_true_eq,aC];exact Ar.Z2 [] (.B (.L (.c .x0) (.s (.c .x1) .n1)) (.l (.a .x0 .n1) .x1)) rfl
 have lh:=λ(d:Nat) (o:Nat→MO)=>dS (d:=d) (H:=h7 o (F*R) c k) (m:=m) bd gJ hx (h.jy (1-s) (by exact Ar.Z2 [.Q (.s .n1 (.c .x0)) (.c .x1)] (.l .x1 .n2) rfl sk)) m1 (by exact Ar.Z3 [.e .x0 .n5,.d 8 .x2 .x0 .x1] (.e .x0 .n6) rfl m5 (Ar.md _ 8 rfl)) m2
 have fF:=fh (a:=x) F0 (show F≤25 by have:=bd.f8;exact Ar.Z1 [.e .x0 .n8] (.e .x0 .aQ) rfl this)
 have m8:binI .mod (m:Int) 8=some ((m%8:Nat):Int):=mod_lit m 8 (by decide)
 obtain⟨bA,hA⟩:∃b,b=(!Nat.beq (c x) 0||(Nat.beq (m%8) 1&&!(Nat.blt 0 (x/F)&&Nat.blt (x/F+1) R))):=⟨_,rfl⟩
 obtain⟨bB,hB⟩:∃b,b=(Nat.beq (m/8) s&&bk F (F*R) m x (k (1-s)) λx=>!Nat.beq (c x) 0):=⟨_,rfl⟩
 have fn:∀(d:Nat) (o:Nat→MO),ag PB (d+2) 72 [.int (F:Int),.ref 5,.ref 6,.int (s:Int),.int (m:Int),.int (x:Int)] (h7 o (F*R) c k)=xI bA (some (.bW,h7 o (F*R) c k)) (xI bB (some (.bW,h7 o (F*R) c k)) (some (.bW,h7 o (F*R) (upd c x m) k))):=λd o=>by
  rw[ax (fn:=LK) rfl rfl,hA,hB]
  erw[xf,LK,hl,len_tab,rm,fh F0 (show F≤25 by have:=bd.f8;exact Ar.Z1 [.e .x0 .n8] (.e .x0 .aQ) rfl this),dv,at_,iV,m8,c1,fF,lo,hi,uM,ee,sk,ja (show 1-s<2 by exact Ar.Z2 [.Q (.s .n1 (.c .x0)) (.c .x1)] (.l .x1 .n2) rfl sk),lh,rX aQ hx,qT,jU,fo,kc,kb]
 cases bA with
 |true=>exact⟨c,h,λd o=>(fn d o).trans (aA _ _)⟩
 |false=>
  cases bB with
  |true=>exact⟨c,h,λd o=>(fn d o).trans ((au _ _).trans (aA _ _))⟩
  |false=>
   have q:=(Bool.or_eq_false_iff.mp hA.symm)
   have q1:=q.1
   rw[Bool.not_eq_false',ae]at q1
   refine⟨upd c x m,DB h hx q1 m1 m5 m2 λe=>?_,λd o=>(fn d o).trans ((au _ _).trans (au _ _))⟩
   have q2:=q.2
   rw[e,Bool.and_eq_false_iff]at q2
   rcases q2 with q2|q2
   ·exact pF q2
   ·simp only[Bool.not_eq_false',Bool.and_eq_true,aC,aC]at q2;exact q2
end
end
section
open PySem
noncomputable def N5:E:=.or (.cmp .eq (.l 0) (.c (.int 8))) (.b .mod (.l 6) (.c (.int 2)))
noncomputable def N4:E:=.and (.b .band (.b .shr (.l 3) (.l 6)) (.c (.int 1))) (.and N5 (.and (.cmp .eq (.sub (.l 2) (.b .bX (.l 6) (.c (.int 2)))) (.l 7)) (.cmp .eq (.sub (.l 1) (.call 74 [.l 0,.l 4,.l 6])) (.b .add (.c (.int 4)) (.b .mul (.b .bX (.l 6) (.c (.int 2))) (.c (.int 8)))))))
noncomputable def Kf:List S:=[.set 7 (.b .add (.b .mul (.b .bX (.l 6) (.c (.int 2))) (.b .sub (.l 4) (.l 0))) (.b .bX (.l 0) (.c (.int 2)))),.ite N4 [.aug 5 .add (.b .shl (.c (.int 1)) (.l 6))] []]
noncomputable def nj(F N i:Nat):Nat:=i/2*(N-F)+F/2
noncomputable def ui(F N:Nat)(c k:Nat→Nat)(dr:Int)(i:Nat):Bool:=decide (bM (dr.fdiv (2 ^ i)) 1≠0)&&((Nat.beq F 8||!Nat.beq (i%2) 0)&&(Nat.beq (k (i/2)) (nj F N i)&&Nat.beq (c (dm F N i)) (4+8*(i/2))))
noncomputable abbrev IP(F N:Nat)(dr:Int)(x5 x6 x7:Option V):Loc:=[some (.int (F:Int)),some (.ref 5),some (.ref 6),some (.int dr),some (.int (N:Int)),x5,x6,x7]
section
variable {H:MH} {d a b e g t m n z i p u v w x y F N R s:Nat} {D W:Bool} {c k:Nat→Nat} {o:Nat→MO}
theorem c8(x:Nat):decide ((x:Int)=8)=Nat.beq x 8:=ee x 8
theorem vh(bd:Bd F R)(dr:Int)(d:Nat)(o:Nat→MO):ag PB (d+2) 75 [.int (F:Int),.ref 5,.ref 6,.int dr] (h7 o (F*R) c k)=some (.int (bm 4 (ui F (F*R) c k dr)),h7 o (F*R) c k):=by
 have aQ:=bd.aQ
 have f3:=bd.f3
 have r3:=bd.r3
 have fn:F*3≤F*R:=Nat.mul_le_mul_left F r3
 have hl:aj (h7 o (F*R) c k) 5=some (tab (F*R) λt=>.int (c t:Int)):=rfl
 have rm:aI (F*R)=true:=bF _ (by exact Ar.Z1 [.e .x0 .aQ] (.e .x0 .aG) rfl aQ)
 have m4:eA [.int 4]=some (.bQ 0 4 1):=mk_zero 4 (by decide)
 have r4:dc 0 4 1=some (aP (List.range 4)):=dW 4
 obtain⟨ρ',H',⟨x6,x7,rfl,rfl⟩,e⟩:=i8 (d:=d+1) (k:=6) (b:=Kf) (λi ρ H1=>∃x6 x7,ρ=IP F (F*R) dr (some (.int (bm i (ui F (F*R) c k dr)))) x6 x7∧H1=h7 o (F*R) c k) 4
  (λi hi ρ H1 h=>by
   obtain⟨x6,x7,rfl,rfl⟩:=h
   have hb:i/2*(F*R-F)≤F*R-F:=by
    have:i/2≤1:=by exact Ar.Z3 [.l .x0 .n4,.d 2 .x1 .x2 .x0] (.e .x1 .n1) rfl hi (Ar.md _ 2 rfl)
    exact Nat.le_trans (Nat.mul_le_mul_right _ this) (by rw[Nat.one_mul];exact Nat.le_refl _)
   have hc:dm F (F*R) i<F*R:=by unfold dm;split<;>first|exact Ar.Z5 [.e .n3 .x0,.e (.r .x0 3) .x1,.e .x2 .x3,.s .x4 .x0 .n1,.s .x3 .x1 .x0] (.l (.a .x2 .x4) .x1) rfl f3 fn hb (Ar.ts _ _) (Ar.ts _ _)|exact Ar.Z4 [.e .n3 .x0,.e (.r .x0 3) .x1,.e .x2 .x3,.s .x3 .x1 .x0] (.l (.a .x2 .n0) .x1) rfl f3 fn hb (Ar.ts _ _)
   have i2:i/2<2:=by exact Ar.Z3 [.l .x0 .n4,.d 2 .x1 .x2 .x0] (.l .x1 .n2) rfl hi (Ar.md _ 2 rfl)
   have kk:=ja (o:=o) (N:=F*R) (c:=c) (k:=k) i2
   have cc:aJ (.ref 5) (.int (dm F (F*R) i:Nat)) (h7 o (F*R) c k)=some (.int (c (dm F (F*R) i):Int)):=(gJ (o:=o)).at aQ hc
   have m48:binI .mul ((i/2:Nat):Int) 8=some (((i/2:Nat):Int)*8):=aW (by exact Ar.Z3 [.l .x1 .n2,.d 2 .x1 .x2 .x0] (.C (.L (.g (.n 4611686018427387904)) (.c .x1)) (.L (.c .x1) (.n 4611686018427387904))) rfl i2 (Ar.md _ 2 rfl))
   have e48:(4:Int)+((i/2:Nat):Int)*8=((4+8*(i/2):Nat):Int):=by exact Ar.Z3 [.d 2 .x0 .x2 .x1] (.Q (.a .n4 (.r (.c .x0) 8)) (.c (.a .n4 (.m 8 .x0)))) rfl (Ar.md _ 2 rfl)
   have ml:binI .mul ((i/2:Nat):Int) (((F*R:Nat):Int)-(F:Int))=some (((i/2:Nat):Int)*(((F*R:Nat):Int)-(F:Int))):=by
    refine aW ?_
    have:i/2=0∨i/2=1:=by exact Ar.Z3 [.l .x0 .n2,.d 2 .x0 .x2 .x1] (.D (.q .x0 .n0) (.q .x0 .n1)) rfl i2 (Ar.md _ 2 rfl)
    rcases this with h|h<;>rw[h]<;>first|exact Ar.Zx 0 0 [] [] [] [] (.C (.L (.g (.n 4611686018427387904)) (.c .n0)) (.L (.c .n0) (.n 4611686018427387904))) rfl rfl|exact Ar.Zx 0 0 [] [] [] [] (.C (.L (.g (.n 4611686018427387904)) (.c .n1)) (.L (.c .n1) (.n 4611686018427387904))) rfl rfl
   have eh:((i/2:Nat):Int)*(((F*R:Nat):Int)-(F:Int))+((F/2:Nat):Int)=(nj F (F*R) i:Nat):=by
    unfold nj
    simp only[Int.natCast_add,Int.natCast_mul (i/2) (F*R-F),Int.natCast_sub (show F≤F*R by exact Ar.Z2 [.e (.r .x0 3) .x1] (.e .x0 .x1) rfl fn)]
   have ra:bm (i+1) (ui F (F*R) c k dr)=bm i (ui F (F*R) c k dr)+((if ui F (F*R) c k dr i then 2 ^ i else 0:Nat):Int):=by unfold bm;simp only[eJ,Int.natCast_add]
   refine⟨_,_,⟨some (.int (i:Int)),some (.int (nj F (F*R) i:Nat)),rfl,rfl⟩,λK _=>?_⟩
   have tree:xB (d+1) Kf (aX (IP F (F*R) dr (some (.int (bm i (ui F (F*R) c k dr)))) x6 x7) 6 (.int (i:Int))) (h7 o (F*R) c k) K=xI (ui F (F*R) c k dr i)
     (K (.bf,IP F (F*R) dr (some (.int (bm i (ui F (F*R) c k dr)+((2 ^ i:Nat):Int)))) (some (.int (i:Int))) (some (.int (nj F (F*R) i:Nat))),h7 o (F*R) c k))
     (K (.bf,IP F (F*R) dr (some (.int (bm i (ui F (F*R) c k dr)))) (some (.int (i:Int))) (some (.int (nj F (F*R) i:Nat))),h7 o (F*R) c k)):=by
    simp only[ui]
    unfold Kf N4 N5
    erw[F2,ml,eh,c8,NQ,kk,ee,iV,jC f3 (show F≤F*R by exact Ar.Z2 [.e (.r .x0 3) .x1] (.e .x0 .x1) rfl fn) hi,cc,m48,e48,uk (show i<64 by exact Ar.Z1 [.l .x0 .n4] (.l .x0 .ko) rfl hi),qT,jU,fo,kc,kb]
   rw[ra,tree]
   cases hr:ui F (F*R) c k dr i with
   |false=>rw[au,if_neg (by decide)];rw[show((0:Nat):Int)=0 from rfl,Int.add_zero]
   |true=>rw[aA,if_pos rfl])
  (IP F (F*R) dr (some (.int 0)) none none) (h7 o (F*R) c k) ⟨none,none,rfl,rfl⟩
 rw[ax (fn:=⟨4,8,[.set 4 (.len (.l 1)),.set 5 (.c (.int 0)),.fr 6 (.range [.c (.int 4)]) Kf,.ret (.l 5)]⟩) rfl rfl]
 erw[hl,len_tab,rm,m4,r4]
 refine(e _).trans ?_
 erw[]
theorem right_of(hS:pf F R D true){dr:Int}(hi:i<4)(h:ui F (F*R) c k dr i=true):∃b g e,bj F R true i=some (k (i/2),b,g,e)∧c g=4+8*(i/2):=by
 unfold ui at h
 simp only[Bool.and_eq_true,Bool.and_eq_true,Bool.and_eq_true,ae,ae]at h
 obtain⟨_,h1,h2,h3⟩:=h
 rw[h2,← h3]
 have i4:i=0∨i=1∨i=2∨i=3:=by exact Ar.Z1 [.l .x0 .n4] (.D (.q .x0 .n0) (.D (.q .x0 .n1) (.D (.q .x0 .n2) (.q .x0 .n3)))) rfl hi
 unfold pf vp at hS
 simp only[List.mem_cons,List.not_mem_nil,or_false,Prod.mk.injEq,Bool.true_eq_false,and_false,false_or]at hS
 rcases hS with⟨rfl,rfl,_⟩|⟨rfl,rfl,_⟩<;>rcases i4 with rfl|rfl|rfl|rfl<;>first|exact⟨_,_,_,rfl,rfl⟩|exact bY h1
end
end
section
open PySem
section
variable {H:MH} {d a b e g t f m n z i p u v w x y F N R s:Nat} {D W:Bool} {c k:Nat→Nat} {o:Nat→MO}
theorem sE(hN:F*5≤25)(hF:3≤F)(hs:s<2)(hf:f<F)(d:Nat)(o:Nat→MO):∃ep:Int,(ep = -1∨∃e p:Nat,ep=(e:Nat)∧e<F*5∧p<F*5∧iL F s p e=true∧c p=1+8*(1-s)∧c e=0∧e/F=2) ∧
  ag PB (d+1) 76 [.int (F:Int),.ref 5,.int (s:Int),.int ((if s=0 then 1 else 3:Nat):Int),.int (f:Int)] (h7 o (F*5) c k)=some (.int ep,h7 o (F*5) c k):=by
 have m8:binI .mul (s:Int) 8=some ((s:Int)*8):=aW (by exact Ar.Z1 [.l .x0 .n2] (.C (.L (.g (.n 4611686018427387904)) (.c .x0)) (.L (.c .x0) (.n 4611686018427387904))) rfl hs)
 have one:∀y:Nat,y<F*5→aJ (.ref 5) (.int (y:Int)) (h7 o (F*5) c k)=some (.int (c y:Int)):=λy hy=>(gJ (o:=o)).at hN hy
 have go:∀(row mJ e e2:Nat) (up:Int),mJ=row*F+f→mJ<F*5→e<F*5→e2<F*5→(mJ:Int)+up=(e:Int)→(mJ:Int)+2*up=(e2:Int)→1≤row→row≤3 →
   up=(if s=0 then(F:Int)else -(F:Int))→iL F s mJ e=true→e/F=2→∃ep:Int,(ep = -1∨∃e p:Nat,ep=(e:Nat)∧e<F*5∧p<F*5∧iL F s p e=true∧c p=1+8*(1-s)∧c e=0∧e/F=2) ∧
   ag PB (d+1) 76 [.int (F:Int),.ref 5,.int (s:Int),.int (row:Int),.int (f:Int)] (h7 o (F*5) c k)=some (.int ep,h7 o (F*5) c k):=λrow mJ e e2 up hfo l1 l2 l3 q1 q2 hrow1 hrow hup hst hef=>by
  have mc:(row:Int)*(F:Int)=((row*F:Nat):Int):=(Int.natCast_mul _ _).symm
  have mb:row*F≤3*F:=Nat.mul_le_mul_right F hrow
  have mr:binI .mul (row:Int) (F:Int)=some ((row*F:Nat):Int):=(aW (by exact Ar.Z1 [.e .x0 .n3] (.C (.L (.g (.n 4611686018427387904)) (.c .x0)) (.L (.c .x0) (.n 4611686018427387904))) rfl hrow)).trans (congrArg some mc)
  have ef:((row*F:Nat):Int)+(f:Int)=(mJ:Int):=by rw[hfo];exact Ar.Z2 [] (.Q (.a (.c .x0) (.c .x1)) (.c (.a .x0 .x1))) rfl
  have mb1:F≤row*F:=Nat.le_mul_of_pos_left F hrow1
  have em:(mJ:Int)-1=((mJ-1:Nat):Int):=by exact Ar.Z5 [.e .n3 .x0,.q .x1 (.a .x2 .x3),.e .x0 .x2,.s .x4 .x1 .n1] (.Q (.s (.c .x1) .n1) (.c .x4)) rfl hF hfo mb1 (Ar.ts _ _)
  have ep:(mJ:Int)+1=((mJ+1:Nat):Int):=by exact Ar.Z1 [] (.Q (.a (.c .x0) .n1) (.c (.a .x0 .n1))) rfl
  have g0:decide ((0:Int)<(f:Int))=Nat.blt 0 f:=by rw[Bool.eq_iff_iff,decide_eq_true_eq,aC];exact Ar.Z1 [] (.B (.L .n0 (.c .x0)) (.l .n0 .x0)) rfl
  have g1:decide ((f:Int)<(F:Int)-1)=Nat.blt (f+1) F:=by rw[Bool.eq_iff_iff,decide_eq_true_eq,aC];exact Ar.Z2 [] (.B (.L (.c .x0) (.s (.c .x1) .n1)) (.l (.a .x0 .n1) .x1)) rfl
  obtain⟨bA,hA⟩:∃b,b=(!decide ((c mJ:Int)=9-(s:Int)*8)||(!Nat.beq (c e) 0||!Nat.beq (c e2) 0)):=⟨_,rfl⟩
  obtain⟨bB,hB⟩:∃b,b=((Nat.blt 0 f&&decide ((c (mJ-1):Int)=1+(s:Int)*8))||(Nat.blt (f+1) F&&decide ((c (mJ+1):Int)=1+(s:Int)*8))):=⟨_,rfl⟩
  have run:ag PB (d+1) 76 [.int (F:Int),.ref 5,.int (s:Int),.int (row:Int),.int (f:Int)] (h7 o (F*5) c k)=xI bA (some (.int (-1),h7 o (F*5) c k)) (xI bB (some (.int (e:Int),h7 o (F*5) c k)) (some (.int (-1),h7 o (F*5) c k))):=by
   rw[ax (fn:=JK) rfl rfl,hA,hB]
   by_cases h0:s=0
   ·rw[if_pos h0]at hup
    subst hup
    erw[xf,JK,mr,ef,c0,show Nat.beq s 0=true by rw[ae];exact h0,one _ l1,m8,q1,one _ l2,iV,oL,q2,one _ l3,g0,em,one (mJ-1) (by exact Ar.Z4 [.l .x0 (.r .x1 5),.Q (.s (.c .x0) .n1) (.c .x2),.Q (.a (.c .x0) (.c .x1)) (.c .x3)] (.l .x2 (.r .x1 5)) rfl l1 em q1),g1,ep,one (mJ+1) (by exact Ar.Z5 [.q .x1 (.a .x2 .x3),.l .x4 (.r .x0 5),.Q (.a (.c .x1) (.c .x0)) (.c .x4)] (.l (.a .x1 .n1) (.r .x0 5)) rfl hfo l2 q1),qT,jU,fo,kc,kb]
   ·rw[if_neg h0]at hup
    subst hup
    erw[xf,JK,mr,ef,c0,show Nat.beq s 0=false by rw[aq];exact h0,one _ l1,m8,q1,one _ l2,iV,oL,q2,one _ l3,g0,em,one (mJ-1) (by exact Ar.Z4 [.l .x0 (.r .x1 5),.Q (.s (.c .x0) .n1) (.c .x2),.Q (.a (.c .x0) (.g (.c .x1))) (.c .x3)] (.l .x2 (.r .x1 5)) rfl l1 em q1),g1,ep,one (mJ+1) (by exact Ar.Z4 [.l .x1 .x0,.q .x2 (.a .x3 .x1),.e .x3 (.m 3 .x0)] (.l (.a .x2 .n1) (.r .x0 5)) rfl hf hfo mb),qT,jU,fo,kc,kb]
  cases bA with
  |true=>exact⟨-1,.inl rfl,run.trans (aA _ _)⟩
  |false=>
   cases bB with
   |false=>exact⟨-1,.inl rfl,run.trans ((au _ _).trans (au _ _))⟩
   |true=>
    have q:=Bool.or_eq_false_iff.mp hA.symm
    have q5:=q.1
    have q6:=(Bool.or_eq_false_iff.mp q.2).1
    simp only[Bool.not_eq_false',decide_eq_true_eq]at q5
    simp only[Bool.not_eq_false',ae]at q6
    exact⟨e,.inr ⟨e,mJ,rfl,l2,l1,hst,by exact Ar.Z3 [.l .x0 .n2,.Q (.c .x1) (.s .n9 (.r (.c .x0) 8)),.s .x2 .n1 .x0] (.q .x1 (.a .n1 (.m 8 .x2))) rfl hs q5 (Ar.ts _ _),q6,hef⟩,run.trans ((au _ _).trans (aA _ _))⟩
 have F0:0<F:=by exact Ar.Z1 [.e .n3 .x0] (.l .n0 .x0) rfl hF
 by_cases h0:s=0
 ·rw[if_pos h0]
  refine go 1 (1*F+f) (2*F+f) (3*F+f) (F:Int) rfl (by exact Ar.Z2 [.l .x0 .x1] (.l (.a (.m 1 .x1) .x0) (.r .x1 5)) rfl hf) (by exact Ar.Z2 [.l .x0 .x1] (.l (.a (.m 2 .x1) .x0) (.r .x1 5)) rfl hf) (by exact Ar.Z2 [.l .x0 .x1] (.l (.a (.m 3 .x1) .x0) (.r .x1 5)) rfl hf) (by exact Ar.Z2 [] (.Q (.a (.c (.a (.m 1 .x0) .x1)) (.c .x0)) (.c (.a (.m 2 .x0) .x1))) rfl) (by exact Ar.Z2 [] (.Q (.a (.c (.a (.m 1 .x0) .x1)) (.m 2 (.c .x0))) (.c (.a (.m 3 .x0) .x1))) rfl) (by exact Ar.Zx 0 0 [] [] [] [] (.e .n1 .n1) rfl rfl) (by exact Ar.Zx 0 0 [] [] [] [] (.e .n1 .n3) rfl rfl) (by rw[if_pos h0]) ?_ ?_
  ·rw[h0];show Nat.beq (2*F+f) (1*F+f+F)=true;rw[ae];exact Ar.Z2 [] (.q (.a (.m 2 .x0) .x1) (.a (.a (.m 1 .x0) .x1) .x0)) rfl
  ·exact(gE (p:=f) (r:=2) F0 hf (by exact Ar.Z2 [] (.q (.a (.m 2 .x0) .x1) (.a (.r .x0 2) .x1)) rfl)).2
 ·rw[if_neg h0]
  have h1:s=1:=by exact Ar.Z1 [.l .x0 .n2,.N (.q .x0 .n0)] (.q .x0 .n1) rfl hs h0
  refine go 3 (3*F+f) (2*F+f) (1*F+f) (-(F:Int)) rfl (by exact Ar.Z2 [.l .x0 .x1] (.l (.a (.m 3 .x1) .x0) (.r .x1 5)) rfl hf) (by exact Ar.Z2 [.l .x0 .x1] (.l (.a (.m 2 .x1) .x0) (.r .x1 5)) rfl hf) (by exact Ar.Z2 [.l .x0 .x1] (.l (.a (.m 1 .x1) .x0) (.r .x1 5)) rfl hf) (by exact Ar.Z2 [] (.Q (.a (.c (.a (.m 3 .x0) .x1)) (.g (.c .x0))) (.c (.a (.m 2 .x0) .x1))) rfl) (by exact Ar.Z2 [] (.Q (.a (.c (.a (.m 3 .x0) .x1)) (.m 2 (.g (.c .x0)))) (.c (.a (.m 1 .x0) .x1))) rfl) (by exact Ar.Zx 0 0 [] [] [] [] (.e .n1 .n3) rfl rfl) (by exact Ar.Zx 0 0 [] [] [] [] (.e .n3 .n3) rfl rfl) (by rw[if_neg h0]) ?_ ?_
  ·rw[h1];show Nat.beq (3*F+f) (2*F+f+F)=true;rw[ae];exact Ar.Z2 [] (.q (.a (.m 3 .x0) .x1) (.a (.a (.m 2 .x0) .x1) .x0)) rfl
  ·exact(gE (p:=f) (r:=2) F0 hf (by exact Ar.Z2 [] (.q (.a (.m 2 .x0) .x1) (.a (.r .x0 2) .x1)) rfl)).2
end
end
section
open PySem
noncomputable def zv:List S:=[.ite (.b .band (.b .shr (.sub (.l 0) (.c (.int 4))) (.l 11)) (.c (.int 1))) [.exp (.call 72 [.l 1,.l 7,.l 8,.l 6,.b .add (.c (.int 4)) (.b .mul (.b .bX (.l 11) (.c (.int 2))) (.c (.int 8))),.call 74 [.l 1,.l 5,.l 11]])] []]
noncomputable def B_:List S:=[.ite (.cmp .eq (.b .mod (.sub (.l 0) (.c (.int 4))) (.c (.int 2))) (.c (.int 0))) [.exp (.call 72 [.l 1,.l 7,.l 8,.l 6,.b .sub (.c (.int 9)) (.b .mul (.l 6) (.c (.int 8))),.b .add (.b .mul (.l 9) (.l 1)) (.l 10)]),.exp (.call 72 [.l 1,.l 7,.l 8,.l 6,.b .add (.c (.int 1)) (.b .mul (.l 6) (.c (.int 8))),.b .add (.b .mul (.l 9) (.l 1)) (.ite (.cmp .lt (.b .add (.l 10) (.c (.int 1))) (.l 1)) (.b .add (.l 10) (.c (.int 1))) (.b .sub (.l 10) (.c (.int 1))))])] []]
noncomputable def zw:List S:=[.set 12 (.b .mod (.b .add (.b .add (.l 12) (.c (.int 1))) (.sub (.l 0) (.l 11))) (.l 5)),.exp (.call 72 [.l 1,.l 7,.l 8,.l 6,.b .add (.b .add (.c (.int 1)) (.b .mod (.sub (.l 0) (.b .add (.l 11) (.c (.int 1)))) (.c (.int 5)))) (.b .mul (.b .mod (.b .bX (.sub (.l 0) (.b .add (.l 11) (.c (.int 1)))) (.c (.int 5))) (.c (.int 2))) (.c (.int 8))),.l 12])]
section
variable {H:MH} {d a b e g t f m n z i p u v w x y F N R s:Nat} {D W:Bool} {c k:Nat→Nat} {o:Nat→MO}
theorem B4(k:Nat)(x:V):(List.replicate k [x]).flatten=tab k λ_=>x:=by
 unfold tab
 induction k with
 |zero=>rfl
 |succ k ih=>simp only[List.replicate_succ,List.flatten_cons,ih,List.range_succ_eq_map,List.map_cons,List.map_map];rfl
theorem E_{n k:Nat}{x:V}(h:aj H n=some [x])(hk:k≤1000):nW .mul (.ref n) (.int (k:Int)) H=some (.ref H.length,H++[.lst (tab k λ_=>x)]):=by
 show(aj H n).bind (λxs=>if(decide (0≤(k:Int))&&decide ((k:Int)<2 ^ 62))&&aI (xs.length*(k:Int).toNat)then some (V.ref H.length,H++[MO.lst (List.replicate (k:Int).toNat xs).flatten])else none)=_
 rw[h,Option.bind_some,if_pos,Int.toNat_natCast,B4]
 simp only[Bool.and_eq_true,Bool.and_eq_true,decide_eq_true_eq,decide_eq_true_eq,Int.toNat_natCast]
 exact⟨⟨by exact Ar.Z1 [] (.E .n0 (.c .x0)) rfl,by exact Ar.Z1 [.e .x0 .aG] (.L (.c .x0) (.n 4611686018427387904)) rfl hk⟩,bF _ (by simp;exact Ar.Z1 [.e .x0 .aG] (.e .x0 .aG) rfl hk)⟩
theorem wh(hS:GD F R D W)(ha:a<F*R)(hb:b<F*R)(hab:a≠b):CI F R (λt=>if t=0 then a else b) (upd (upd (λ_=>0) a 6) b 14):=by
 have va:upd (upd (λ_=>0) a 6) b 14 a=6:=by rw[iJ hab,mE]
 have vb:upd (upd (λ_=>0) a 6) b 14 b=14:=mE
 have vx:∀x,x≠a→x≠b→upd (upd (λ_=>0) a 6) b 14 x=0:=λx h1 h2=>by rw[iJ h2,iJ h1]
 refine⟨λx _=>?_,λt _=>?_,λt ht=>?_,λx t _ ht e=>?_,λx _ e=>?_⟩
 ·by_cases h1:x=a
  ·rw[h1,va];right;decide
  ·by_cases h2:x=b
   ·rw[h2,vb];right;decide
   ·left;exact vx x h1 h2
 ·show(if t=0 then a else b)<_;split<;>assumption
 ·have:t=0∨t=1:=by exact Ar.Z1 [.l .x0 .n2] (.D (.q .x0 .n0) (.q .x0 .n1)) rfl ht
  rcases this with rfl|rfl
  ·exact va
  ·exact vb
 ·have:t=0∨t=1:=by exact Ar.Z1 [.l .x0 .n2] (.D (.q .x0 .n0) (.q .x0 .n1)) rfl ht
  by_cases h1:x=a
  ·rw[h1,va]at e;rw[if_pos (by exact Ar.Z1 [.q .n6 (.a .n6 (.m 8 .x0))] (.q .x0 .n0) rfl e)];exact h1
  ·by_cases h2:x=b
   ·rw[h2,vb]at e;rw[if_neg (by exact Ar.Z1 [.q .nA (.a .n6 (.m 8 .x0))] (.N (.q .x0 .n0)) rfl e)];exact h2
   ·rw[vx x h1 h2]at e;exact Ar.Z3 [.q .n0 (.a .n6 (.m 8 .x0))] (.q .x1 .x2) rfl e
 ·by_cases h1:x=a
  ·rw[h1,va]at e;cases e
  ·by_cases h2:x=b
   ·rw[h2,vb]at e;cases e
   ·rw[vx x h1 h2]at e;cases e
noncomputable abbrev pv(F R N s:Nat)(D W:Bool)(row f:Int)(bc ed ig x14:Option V):Loc:=[some (.ref 3),some (.int (F:Int)),some (.int (R:Int)),some (.int (gq D)),some (.int (gq W)),some (.int (N:Int)),some (.int (s:Int)),some (.ref 5),some (.ref 6),some (.int row),some (.int f),bc,ed,ig,x14]
theorem nF{sc:List Int}(h3:o 3=.lst (sc.map .int)){j:Nat}{x:Int}(hj:sc[j]?=some x)(hj2:j<1000):aJ (.ref 3) (.int (j:Int)) (h7 o N c k)=some (.int x):=by
 have:aj (h7 o N c k) 3=some (sc.map .int):=by
  show(match(some (o 3):Option MO)with|some (.lst l)=>some l|_=>none)=_
  rw[h3]
 rw[bu this (by exact Ar.Z1 [.l .x0 .aG] (.l .x0 .av) rfl hj2),List.getElem?_map,hj];rfl
theorem Cp(bd:Bd F R)(hs:s<2){sc:List Int}(h3:o 3=.lst (sc.map .int)){s4:Int}(e4:sc[4]?=some s4)(row f:Int)(h:CI F R k c):∃c' y11,CI F R k c'∧∀K:KS,cj (d+3) 11 zv (aP (List.range 4)) (pv F R (F*R) s D W row f none none none none) (h7 o (F*R) c k) K=K (.bf,pv F R (F*R) s D W row f y11 none none none,h7 o (F*R) c' k):=by
 have aQ:=bd.aQ
 have f3:=bd.f3
 have r3:=bd.r3
 have fn:F*3≤F*R:=Nat.mul_le_mul_left F r3
 obtain⟨ρ',H',⟨y11,c',hc',rfl,rfl⟩,e⟩:=i8 (d:=d+3) (k:=11) (b:=zv) (λ_ ρ H1=>∃y11 c',CI F R k c'∧ρ=pv F R (F*R) s D W row f y11 none none none∧H1=h7 o (F*R) c' k) 4
  (λi hi ρ H1 h=>by
   refine df (h) λy11 c1 hc1 rf3_ rf4_=>?_;subst rf3_;subst rf4_
   have hb:i/2*(F*R-F)≤F*R-F:=by
    have:i/2≤1:=by exact Ar.Z3 [.l .x0 .n4,.d 2 .x1 .x2 .x0] (.e .x1 .n1) rfl hi (Ar.md _ 2 rfl)
    exact Nat.le_trans (Nat.mul_le_mul_right _ this) (by rw[Nat.one_mul];exact Nat.le_refl _)
   have hc:dm F (F*R) i<F*R:=by unfold dm;split<;>first|exact Ar.Z5 [.e .n3 .x0,.e (.r .x0 3) .x1,.e .x2 .x3,.s .x4 .x0 .n1,.s .x3 .x1 .x0] (.l (.a .x2 .x4) .x1) rfl f3 fn hb (Ar.ts _ _) (Ar.ts _ _)|exact Ar.Z4 [.e .n3 .x0,.e (.r .x0 3) .x1,.e .x2 .x3,.s .x3 .x1 .x0] (.l (.a .x2 .n0) .x1) rfl f3 fn hb (Ar.ts _ _)
   have a4:aJ (.ref 3) (.int 4) (h7 o (F*R) c1 k)=some (.int s4):=nF h3 e4 (by decide)
   have m48:binI .mul ((i/2:Nat):Int) 8=some (((i/2:Nat):Int)*8):=aW (by exact Ar.Z3 [.l .x0 .n4,.d 2 .x1 .x2 .x0] (.C (.L (.g (.n 4611686018427387904)) (.c .x1)) (.L (.c .x1) (.n 4611686018427387904))) rfl hi (Ar.md _ 2 rfl))
   have e48:(4:Int)+((i/2:Nat):Int)*8=((4+8*(i/2):Nat):Int):=by exact Ar.Z3 [.d 2 .x0 .x2 .x1] (.Q (.a .n4 (.r (.c .x0) 8)) (.c (.a .n4 (.m 8 .x0)))) rfl (Ar.md _ 2 rfl)
   refine ay (oX (s:=s) (m:=4+8*(i/2)) bd hc1 hs hc (by exact Ar.Z5 [.d 8 .x4 .x0 (.a .n4 (.m 8 .x1)),.d 2 .x1 .x3 .x2] (.e .n1 .x0) rfl (Ar.md _ 8 rfl) (Ar.md _ 2 rfl)) (by exact Ar.Z5 [.d 8 .x4 .x0 (.a .n4 (.m 8 .x1)),.d 2 .x1 .x3 .x2] (.e .x0 .n5) rfl (Ar.md _ 8 rfl) (Ar.md _ 2 rfl)) (by exact Ar.Z5 [.l .x4 .n4,.d 8 .x3 .x0 (.a .n4 (.m 8 .x2)),.d 2 .x2 .x1 .x4] (.l .x3 .n2) rfl hi (Ar.md _ 8 rfl) (Ar.md _ 2 rfl))) λc2 hc2 hp=>?_
   cases hb:decide (bM (s4.fdiv (2 ^ i)) 1≠0)with
   |false=>
    refine⟨_,_,⟨some (.int (i:Int)),c1,hc1,rfl,rfl⟩,λK _=>?_⟩
    unfold zv
    erw[a4,hb]
   |true=>
    refine⟨_,_,⟨some (.int (i:Int)),c2,hc2,rfl,rfl⟩,λK _=>?_⟩
    unfold zv
    erw[a4,hb,F2,m48,e48,jC f3 (show F≤F*R by exact Ar.Z2 [.e (.r .x0 3) .x1] (.e .x0 .x1) rfl fn) hi,hp])
  (pv F R (F*R) s D W row f none none none none) (h7 o (F*R) c k) ⟨none,c,h,rfl,rfl⟩
 exact⟨c',y11,hc',e⟩
theorem zA(bd:Bd F R)(hr5:R=5)(hs:s<2){sc:List Int}(h3:o 3=.lst (sc.map .int)){s4:Int}(e4:sc[4]?=some s4)(hf:f<F)(h:CI F R k c):∃c',CI F R k c'∧∀K:KS,xB (d+3) B_ (pv F R (F*R) s D W (if s=0 then 1 else 3:Nat) (f:Int) none none none none) (h7 o (F*R) c k) K=K (.bf,pv F R (F*R) s D W (if s=0 then 1 else 3:Nat) (f:Int) none none none none,h7 o (F*R) c' k):=by
 have aQ:=bd.aQ
 have f3:=bd.f3
 subst hr5
 have m8:binI .mul (s:Int) 8=some ((s:Int)*8):=aW (by exact Ar.Z1 [.l .x0 .n2] (.C (.L (.g (.n 4611686018427387904)) (.c .x0)) (.L (.c .x0) (.n 4611686018427387904))) rfl hs)
 have a4:∀c,aJ (.ref 3) (.int 4) (h7 o (F*5) c k)=some (.int s4):=λc=>nF h3 e4 (by decide)
 obtain⟨row,hrow,h1,h2⟩:∃row,(if s=0 then 1 else 3)=row∧row*F+F≤F*5∧row≤3:=by
  split
  ·exact⟨1,rfl,by exact Ar.Z1 [] (.e (.a (.m 1 .x0) .x0) (.r .x0 5)) rfl,by decide⟩
  ·exact⟨3,rfl,by exact Ar.Z1 [] (.e (.a (.m 3 .x0) .x0) (.r .x0 5)) rfl,by decide⟩
 rw[hrow]
 have mc:(row:Int)*(F:Int)=((row*F:Nat):Int):=(Int.natCast_mul _ _).symm
 have mr:binI .mul (row:Int) (F:Int)=some ((row*F:Nat):Int):=(aW (by exact Ar.Z1 [.e .x0 .n3] (.C (.L (.g (.n 4611686018427387904)) (.c .x0)) (.L (.c .x0) (.n 4611686018427387904))) rfl h2)).trans (congrArg some mc)
 obtain⟨g,hg,eg⟩:∃g:Nat,g<F∧((decide ((f:Int)+1<(F:Int))=true∧((row*F:Nat):Int)+((f:Int)+1)=((row*F+g:Nat):Int))∨(decide ((f:Int)+1<(F:Int))=false∧((row*F:Nat):Int)+((f:Int)-1)=((row*F+g:Nat):Int))):=by
  by_cases h:f+1<F
  ·exact⟨f+1,h,.inl ⟨decide_eq_true (by exact Ar.Z2 [.l (.a .x0 .n1) .x1] (.L (.a (.c .x0) .n1) (.c .x1)) rfl h),by exact Ar.Z2 [] (.Q (.a (.c .x0) (.a (.c .x1) .n1)) (.c (.a .x0 (.a .x1 .n1)))) rfl⟩⟩
  ·exact⟨f-1,by exact Ar.Z3 [.l .x0 .x1,.s .x2 .x0 .n1] (.l .x2 .x1) rfl hf (Ar.ts _ _),.inr ⟨decide_eq_false (by exact Ar.Z2 [.N (.l (.a .x0 .n1) .x1)] (.N (.L (.a (.c .x0) .n1) (.c .x1))) rfl h),by exact Ar.Z4 [.e .n3 .x1,.N (.l (.a .x0 .n1) .x1),.s .x3 .x0 .n1] (.Q (.a (.c .x2) (.s (.c .x0) .n1)) (.c (.a .x2 .x3))) rfl f3 h (Ar.ts _ _)⟩⟩
 have k1:(9:Int)-(s:Int)*8=((9-8*s:Nat):Int):=by exact Ar.Z2 [.l .x0 .n2,.s .x1 .n9 (.m 8 .x0)] (.Q (.s .n9 (.r (.c .x0) 8)) (.c .x1)) rfl hs (Ar.ts _ _)
 have k2:(1:Int)+(s:Int)*8=((1+8*s:Nat):Int):=by exact Ar.Z1 [] (.Q (.a .n1 (.r (.c .x0) 8)) (.c (.a .n1 (.m 8 .x0)))) rfl
 refine ay (oX (s:=s) (m:=9-8*s) (x:=row*F+f) bd h hs (by exact Ar.Z3 [.l .x0 .x1,.e (.a .x2 .x1) (.r .x1 5)] (.l (.a .x2 .x0) (.r .x1 5)) rfl hf h1) (by exact Ar.Z4 [.Q (.s .n9 (.r (.c .x2) 8)) (.c .x1),.d 8 .x3 .x0 .x1] (.e .n1 .x0) rfl k1 (Ar.md _ 8 rfl)) (by exact Ar.Z4 [.d 8 .x3 .x0 .x1,.s .x1 .n9 (.m 8 .x2)] (.e .x0 .n5) rfl (Ar.md _ 8 rfl) (Ar.ts _ _)) (by exact Ar.Z4 [.d 8 .x2 .x3 .x1,.s .x1 .n9 (.m 8 .x0)] (.l .x2 .n2) rfl (Ar.md _ 8 rfl) (Ar.ts _ _))) λc1 hc1 p1=>?_
 refine ay (oX (s:=s) (m:=1+8*s) (x:=row*F+g) bd hc1 hs (by exact Ar.Z3 [.e (.a .x0 .x1) (.r .x1 5),.l .x2 .x1] (.l (.a .x0 .x2) (.r .x1 5)) rfl h1 hg) (by exact Ar.Z3 [.d 8 .x2 .x0 (.a .n1 (.m 8 .x1))] (.e .n1 .x0) rfl (Ar.md _ 8 rfl)) (by exact Ar.Z3 [.d 8 .x2 .x0 (.a .n1 (.m 8 .x1))] (.e .x0 .n5) rfl (Ar.md _ 8 rfl)) (by exact Ar.Z3 [.l .x0 .n2,.d 8 .x1 .x2 (.a .n1 (.m 8 .x0))] (.l .x1 .n2) rfl hs (Ar.md _ 8 rfl))) λc2 hc2 p2=>?_
 cases e0:decide (s4.fmod 2=0)with
 |false=>
  refine⟨c,h,λK=>?_⟩
  unfold B_
  erw[a4,oJ,e0]
 |true=>
  refine⟨c2,hc2,λK=>?_⟩
  unfold B_
  rcases eg with⟨g1,g2⟩|⟨g1,g2⟩
  ·erw[a4,oJ,e0,m8,k1,mr,GU,p1,k2,g1,g2,p2]
  ·erw[a4,oJ,e0,m8,k1,mr,GU,p1,k2,g1,g2,p2]
theorem Fu(bd:Bd F R)(hs:s<2){sc:List Int}(h3:o 3=.lst (sc.map .int))(row f:Int)(h:CI F R k c){i:Nat}(h6:6≤i)(hi:i+1<sc.length)(hl:sc.length≤14)(at0:Nat)(bc:Option V) :
  ∃c' a',CI F R k c'∧∀K:KS,xB (d+3) zw (aX (pv F R (F*R) s D W row f bc (some (.int (at0:Int))) none none) 11 (.int (i:Int))) (h7 o (F*R) c k) K=K (.bf,pv F R (F*R) s D W row f (some (.int (i:Int))) (some (.int ((a':Nat):Int))) none none,h7 o (F*R) c' k):=by
 have aQ:=bd.aQ
 have f3:=bd.f3
 have r3:=bd.r3
 have fr:9≤F*R:=Nat.mul_le_mul f3 r3
 obtain⟨s1,e1⟩:∃s,sc[i]?=some s:=⟨_,List.getElem?_eq_getElem (by exact Ar.Z2 [.l (.a .x0 .n1) .x1] (.l .x0 .x1) rfl hi)⟩
 obtain⟨s2,e2⟩:∃s,sc[i+1]?=some s:=⟨_,List.getElem?_eq_getElem (by exact Ar.Z2 [.l (.a .x0 .n1) .x1] (.l (.a .x0 .n1) .x1) rfl hi)⟩
 have b1:∀c,aJ (.ref 3) (.int (i:Int)) (h7 o (F*R) c k)=some (.int s1):=λc=>nF h3 e1 (by exact Ar.Z2 [.l (.a .x0 .n1) .x1,.e .x1 .nA] (.l .x0 .aG) rfl hi hl)
 have b2:∀c,aJ (.ref 3) (.int ((i:Int)+1)) (h7 o (F*R) c k)=some (.int s2):=λc=>by
  rw[show(i:Int)+1=((i+1:Nat):Int) by exact Ar.Z1 [] (.Q (.a (.c .x0) .n1) (.c (.a .x0 .n1))) rfl];exact nF h3 e2 (by exact Ar.Z2 [.l (.a .x0 .n1) .x1,.e .x1 .nA] (.l (.a .x0 .n1) .aG) rfl hi hl)
 refine ay (j6 ((at0:Int)+1+s1) (N:=F*R) (by exact Ar.Z1 [.e .n9 .x0] (.l .n0 .x0) rfl fr)) λx hx ex=>?_
 refine ay (j6 s2 (N:=5) (by decide)) λj hj ej=>?_
 refine ay (j6 (s2.fdiv 5) (N:=2) (by decide)) λl hl2 el=>?_
 have f5:binI .bX s2 5=some (s2.fdiv 5):=rfl
 have ej':binI .mod s2 5=some (j:Int):=ej
 have el':binI .mod (s2.fdiv 5) 2=some (l:Int):=el
 have m8:binI .mul (l:Int) 8=some ((l:Int)*8):=aW (by exact Ar.Z1 [.l .x0 .n2] (.C (.L (.g (.n 4611686018427387904)) (.c .x0)) (.L (.c .x0) (.n 4611686018427387904))) rfl hl2)
 have em:(1:Int)+(j:Int)+(l:Int)*8=((1+j+l*8:Nat):Int):=by exact Ar.Z2 [] (.Q (.a (.a .n1 (.c .x0)) (.r (.c .x1) 8)) (.c (.a (.a .n1 .x0) (.r .x1 8)))) rfl
 refine ay (oX (s:=s) (m:=1+j+l*8) bd h hs hx (by exact Ar.Z4 [.l .x0 .n5,.d 8 .x3 .x1 (.a (.a .n1 .x0) (.r .x2 8))] (.e .n1 .x1) rfl hj (Ar.md _ 8 rfl)) (by exact Ar.Z4 [.l .x0 .n5,.d 8 .x3 .x1 (.a (.a .n1 .x0) (.r .x2 8))] (.e .x1 .n5) rfl hj (Ar.md _ 8 rfl)) (by exact Ar.Z4 [.l .x0 .n5,.l .x1 .n2,.d 8 .x2 .x3 (.a (.a .n1 .x0) (.r .x1 8))] (.l .x2 .n2) rfl hj hl2 (Ar.md _ 8 rfl))) λc2 hc2 hp=>?_
 refine⟨c2,x,hc2,λK=>?_⟩
 unfold zw
 erw[b1,ex,b2,f5,ej',el',m8,em,hp]
theorem Cc(bd:Bd F R)(hs:s<2){sc:List Int}(h3:o 3=.lst (sc.map .int))(hl:sc.length≤14)(row f:Int)(h:CI F R k c)(l:List Nat)(hm:∀i∈l,6≤i∧i+1<sc.length)(at0:Nat)(bc:Option V) :
  ∃c' y11 y12,CI F R k c'∧∀K:KS,cj (d+3) 11 zw (aP l) (pv F R (F*R) s D W row f bc (some (.int (at0:Int))) none none) (h7 o (F*R) c k) K=K (.bf,pv F R (F*R) s D W row f y11 y12 none none,h7 o (F*R) c' k):=by
 obtain⟨ρ',H',⟨y11,a',c',hc',rfl,rfl⟩,e⟩:=lD (d:=d+3) (k:=11) (b:=zw) (σ:=Unit) (λ_ ρ H1=>∃(y11:Option V) (a':Nat) (c':Nat→Nat),CI F R k c'∧ρ=pv F R (F*R) s D W row f y11 (some (.int (a':Int))) none none∧H1=h7 o (F*R) c' k) (λ_ _=>()) (aP l)
  (λv hv _ ρ H1 hp=>by
   refine Jh (hp) λy11 a1 c1 hc1 rf4_ rf5_=>?_;subst rf4_;subst rf5_
   refine ay (eF hv) λi hi rf2_=>?_;subst rf2_
   obtain⟨m1,m2⟩:=hm i hi
   refine cQ (Fu (d:=d) (D:=D) (W:=W) bd hs h3 row f hc1 m1 m2 hl a1 y11) λc2 a2 hc2 e=>?_
   exact⟨_,_,⟨_,a2,c2,hc2,rfl,rfl⟩,λK _=>e K⟩)
  () (pv F R (F*R) s D W row f bc (some (.int (at0:Int))) none none) (h7 o (F*R) c k) ⟨bc,at0,c,h,rfl,rfl⟩
 exact⟨c',y11,_,hc',e⟩
end
end
section
open PySem
noncomputable def Kh:E:=.ite (.l 3) (.call 76 [.l 1,.l 7,.l 6,.l 9,.l 10]) (.neg (.c (.int 1)))
noncomputable def Ki:E:=.ite (.l 4) (.call 75 [.l 1,.l 7,.l 8,.sub (.l 0) (.c (.int 5))]) (.c (.int 0))
noncomputable def stM:E:=.range [.c (.int 6),.min (.b .sub (.len (.l 0)) (.c (.int 1))) (.ite (.l 4) (.c (.int 9)) (.c (.int 14))),.c (.int 2)]
section
variable {H:MH} {d a b e g t f m n z i p u v w x y F N R s:Nat} {D W:Bool} {c k:Nat→Nat} {o:Nat→MO} {sc:List Int}
structure Std (F R:Nat) (D W:Bool) (s:Nat) (c k:Nat→Nat) (ep:Int) (rt:Nat→Bool):Prop where
 IX:pf F R D W
 s2:s<2
 ci:CI F R k c
 ep:ep = -1∨∃e p:Nat,ep=(e:Nat)∧e<F*R∧p<F*R∧iL F s p e=true∧c p=1+8*(1-s)∧c e=0∧e/F≠gQ R s
 rt:∀i,i<4→rt i=true→∃b g e,bj F R W i=some (k (i/2),b,g,e)∧c g=4+8*(i/2)
theorem jZ(b:Bool):decide (gq b≠0)=b:=by cases b<;>rfl
theorem I7(hS:pf F R D W)(hs:s<2)(hf:f<F):∃ep:Int,(ep = -1∨∃e p:Nat,ep=(e:Nat)∧e<F*R∧p<F*R∧iL F s p e=true∧c p=1+8*(1-s)∧c e=0∧e/F≠gQ R s) ∧
  ∀(row:Int),(W=false→row=((if s=0 then 1 else 3:Nat):Int))→∀(bc ed:Option V) (K:KV),xE (d+3) Kh (pv F R (F*R) s D W row (f:Int) bc ed none none) (h7 o (F*R) c k) K=K (.int ep,h7 o (F*R) c k):=by
 have h:=ir hS
 cases D with
 |false=>
  refine⟨-1,.inl rfl,λrow _ bc ed K=>?_⟩
  unfold Kh
  erw[jZ]
 |true=>
  cases W with
  |true=>have:=(h.wg rfl).2.2;exact pF this
  |false=>
   have r5:=h.r5 rfl
   have aQ:=h.bd.aQ
   subst r5
   refine ay (sE (c:=c) (k:=k) aQ h.bd.f3 hs hf (d+2) o) λep h1 h2=>?_
   have h1':ep = -1∨∃e p:Nat,ep=(e:Nat)∧e<F*5∧p<F*5∧iL F s p e=true∧c p=1+8*(1-s)∧c e=0∧e/F≠gQ 5 s:=by
    rcases h1 with h1|⟨e,p,q1,q2,q3,q4,q5,q6,q7⟩
    ·exact .inl h1
    ·refine .inr ⟨e,p,q1,q2,q3,q4,q5,q6,?_⟩
     rw[q7]
     have:s=0∨s=1:=by exact Ar.Z1 [.l .x0 .n2] (.D (.q .x0 .n0) (.q .x0 .n1)) rfl hs
     rcases this with rfl|rfl<;>decide
   refine⟨ep,h1',λrow hr bc ed K=>?_⟩
   rw[hr rfl]
   unfold Kh
   erw[jZ,h2]
theorem I9(hS:pf F R D W)(h3:o 3=.lst (sc.map .int)){s5:Int}(e5:sc[5]?=some s5):∃rt:Nat→Bool,(∀i,i<4→rt i=true→∃b g e,bj F R W i=some (k (i/2),b,g,e)∧c g=4+8*(i/2)) ∧
  ∀(row f:Int) (bc ed ig:Option V) (K:KV),xE (d+3) Ki (pv F R (F*R) s D W row f bc ed ig none) (h7 o (F*R) c k) K=K (.int (bm 4 rt),h7 o (F*R) c k):=by
 have h:=ir hS
 have a5:aJ (.ref 3) (.int 5) (h7 o (F*R) c k)=some (.int s5):=nF h3 e5 (by decide)
 cases W with
 |true=>
  refine⟨ui F (F*R) c k s5,λi hi hr=>right_of hS hi hr,λrow f bc ed ig K=>?_⟩
  unfold Ki
  erw[jZ,a5,vh h.bd]
 |false=>
  refine⟨λ_=>false,λ_ _ h=>Bool.noConfusion h,λrow f bc ed ig K=>?_⟩
  unfold Ki
  erw[jZ]
  rfl
theorem uh(hi:Nat)(h1:9≤hi)(h2:hi≤13):∃l:List Nat,eA [.int 6,.int (hi:Int),.int 2]=some (.bQ 6 hi 2)∧dc 6 (hi:Int) 2=some (aP l)∧∀i∈l,6≤i∧i<hi:=by
 have:hi=9∨hi=10∨hi=11∨hi=12∨hi=13:=by exact Ar.Z1 [.e .n9 .x0,.e .x0 (.n 13)] (.D (.q .x0 .n9) (.D (.q .x0 .oM) (.D (.q .x0 (.n 11)) (.D (.q .x0 (.n 12)) (.q .x0 (.n 13)))))) rfl h1 h2
 rcases this with rfl|rfl|rfl|rfl|rfl
 ·exact⟨[6,8],rfl,rfl,by decide⟩
 ·exact⟨[6,8],rfl,rfl,by decide⟩
 ·exact⟨[6,8,10],rfl,rfl,by decide⟩
 ·exact⟨[6,8,10],rfl,rfl,by decide⟩
 ·exact⟨[6,8,10,12],rfl,rfl,by decide⟩
theorem Fw(h3:o 3=.lst (sc.map .int))(l10:10≤sc.length)(l14:sc.length≤14):∃(hi:Nat) (l:List Nat),dc 6 (hi:Int) 2=some (aP l)∧(∀i∈l,6≤i∧i+1<sc.length) ∧
  ∀(c:Nat→Nat) (row f:Int) (bc ed ig:Option V) (K:KV),xE (d+3) stM (pv F R N s D W row f bc ed ig none) (h7 o N c k) K=K (.bQ 6 (hi:Int) 2,h7 o N c k):=by
 have hl:∀c,aj (h7 o N c k) 3=some (sc.map .int):=λc=>by
  show(match(some (o 3):Option MO)with|some (.lst l)=>some l|_=>none)=_
  rw[h3]
 have rm:aI sc.length=true:=bF _ (by exact Ar.Z1 [.e .x0 .nA] (.e .x0 .aG) rfl l14)
 have e1:(sc.length:Int)-1=((sc.length-1:Nat):Int):=by exact Ar.Z2 [.e .oM .x0,.s .x1 .x0 .n1] (.Q (.s (.c .x0) .n1) (.c .x1)) rfl l10 (Ar.ts _ _)
 cases W with
 |true=>
  refine dD (uh 9 (by decide) (by decide)) λl r1 r2 r3=>?_
  refine⟨9,l,r2,λi hi=>⟨(r3 i hi).1,by have:=(r3 i hi).2;exact Ar.Z3 [.e .oM .x0,.Q (.s (.c .x0) .n1) (.c .x1),.l .x2 .n9] (.l (.a .x2 .n1) .x0) rfl l10 e1 this⟩,λc row f bc ed ig K=>?_⟩
  have em:(if(9:Int)<((sc.length-1:Nat):Int)then(9:Int)else((sc.length-1:Nat):Int))=((9:Nat):Int):=by split<;>first|exact Ar.Zx 0 0 [] [] [] [] (.Q .n9 (.c .n9)) rfl rfl|exact Ar.Z2 [.e .oM .x0,.Q (.s (.c .x0) .n1) (.c .x1),.N (.L .n9 (.c .x1))] (.Q (.c .x1) (.c .n9)) rfl l10 e1 (by assumption)
  have r1':eA [.int 6,.int 9,.int 2]=some (.bQ 6 9 2):=r1
  unfold stM
  erw[hl,List.length_map,rm,e1,jZ,em,r1]
 |false=>
  refine dD (uh (sc.length-1) (by exact Ar.Z2 [.e .oM .x0,.Q (.s (.c .x0) .n1) (.c .x1)] (.e .n9 .x1) rfl l10 e1) (by exact Ar.Z2 [.e .x0 .nA,.Q (.s (.c .x0) .n1) (.c .x1)] (.e .x1 (.n 13)) rfl l14 e1)) λl r1 r2 r3=>?_
  refine⟨sc.length-1,l,r2,λi hi=>⟨(r3 i hi).1,by have:=(r3 i hi).2;exact Ar.Z3 [.Q (.s (.c .x0) .n1) (.c .x1),.l .x2 .x1] (.l (.a .x2 .n1) .x0) rfl e1 this⟩,λc row f bc ed ig K=>?_⟩
  have em:(if(14:Int)<((sc.length-1:Nat):Int)then(14:Int)else((sc.length-1:Nat):Int))=((sc.length-1:Nat):Int):=by split<;>first|exact Ar.Z2 [.e .x0 .nA,.Q (.s (.c .x0) .n1) (.c .x1),.L .nA (.c .x1)] (.Q .nA (.c .x1)) rfl l14 e1 (by assumption)|exact Ar.Z2 [.s .x0 .x1 .n1] (.Q (.c .x0) (.c .x0)) rfl (Ar.ts _ _)
  unfold stM
  erw[hl,List.length_map,rm,e1,jZ,em,r1]
end
end
section
open PySem
noncomputable def o4(o0 o1 o2:MO)(sc:List Int):Nat→MO
 |0=>o0
 |1=>o1
 |2=>o2
 |3=>.lst (sc.map .int)
 |_=>.lst [.int 0]
noncomputable def MY:List S:=[.set 12 (.sub (.l 8) (.c (.int 0))),.fr 11 stM zw,.set 13 Kh,.set 14 Ki,.ret (.tup [.l 1,.l 2,.l 3,.l 4,.l 6,.l 7,.l 8,.l 13,.l 14])]
noncomputable def MX:E:=.ite (.cmp .eq (.l 6) (.c (.int 0))) (.b .sub (.l 2) (.c (.int 4))) (.c (.int 3))
noncomputable def Kj:S:=.ite (.l 4) [.fr 11 (.range [.c (.int 4)]) zv] B_
section
variable {H:MH} {d a b e g t f m n z i p u v w x y F N R s:Nat} {D W:Bool} {c k:Nat→Nat} {o:Nat→MO} {sc:List Int}
theorem Cn(hS:pf F R D W)(hs:s<2)(hf:f<F)(h3:o 3=.lst (sc.map .int))(l10:10≤sc.length)(l14:sc.length≤14){row:Int}(hr:W=false→row=((if s=0 then 1 else 3:Nat):Int))(h:CI F R k c)(bc:Option V) :
  ∃c' ep rt,Std F R D W s c' k ep rt∧xB (d+3) MY (pv F R (F*R) s D W row (f:Int) bc none none none) (h7 o (F*R) c k) ox=some (.tup [.int (F:Int),.int (R:Int),.int (gq D),.int (gq W),.int (s:Int),.ref 5,.ref 6,.int ep,.int (bm 4 rt)],h7 o (F*R) c' k):=by
 have hF:=ir hS
 refine df (Fw (d:=d) (N:=F*R) (F:=F) (R:=R) (s:=s) (D:=D) (W:=W) (k:=k) h3 l10 l14) λhi l r1 r2 r3=>?_
 refine zU (Cc (d:=d) (D:=D) (W:=W) hF.bd hs h3 l14 row (f:Int) h l r2 (k 0) bc) λc' y11 y12 hc' e=>?_
 obtain⟨s5,e5⟩:∃s,sc[5]?=some s:=⟨_,List.getElem?_eq_getElem (by exact Ar.Z1 [.e .oM .x0] (.l .n5 .x0) rfl l10)⟩
 refine ay (I7 (d:=d) (o:=o) (c:=c') (k:=k) hS hs hf) λep q1 q2=>?_
 refine ay (I9 (d:=d) (o:=o) (c:=c') (k:=k) (s:=s) hS h3 e5) λrt t1 t2=>?_
 have k0:aJ (.ref 6) (.int 0) (h7 o (F*R) c k)=some (.int (k 0:Nat)):=ja (t:=0) (by decide)
 refine⟨c',ep,rt,⟨hS,hs,hc',q1,t1⟩,?_⟩
 unfold MY
 erw[k0,r3,r1]
 refine(e _).trans ?_
 erw[q2 row hr,t2]
theorem vW(bd:Bd F R):binI .mul (F:Int) (R:Int)=some ((F*R:Nat):Int):=by
 have aQ:=bd.aQ
 have f8:=bd.f8
 have e:(F:Int)*(R:Int)=((F*R:Nat):Int):=(Int.natCast_mul _ _).symm
 exact(aW (by exact Ar.Z1 [.e .x0 .n8] (.C (.L (.g (.n 4611686018427387904)) (.c .x0)) (.L (.c .x0) (.n 4611686018427387904))) rfl f8)).trans (congrArg some e)
theorem Co(hS:pf F R D W)(hs:s<2)(hf:f<F)(h3:o 3=.lst (sc.map .int))(l10:10≤sc.length){row:Int}(hr:W=false→row=((if s=0 then 1 else 3:Nat):Int))(h:CI F R k c) :
  ∃c' y11,CI F R k c'∧∀K:KS,xS (d+3) Kj (pv F R (F*R) s D W row (f:Int) none none none none) (h7 o (F*R) c k) K=K (.bf,pv F R (F*R) s D W row (f:Int) y11 none none none,h7 o (F*R) c' k):=by
 have hF:=ir hS
 obtain⟨s4,e4⟩:∃s,sc[4]?=some s:=⟨_,List.getElem?_eq_getElem (by exact Ar.Z1 [.e .oM .x0] (.l .n4 .x0) rfl l10)⟩
 have m4:eA [.int 4]=some (.bQ 0 4 1):=mk_zero 4 (by decide)
 have r4:dc 0 4 1=some (aP (List.range 4)):=dW 4
 cases W with
 |true=>
  refine cQ (Cp (d:=d) (D:=D) (W:=true) hF.bd hs h3 e4 row (f:Int) h) λc' y11 hc' e=>?_
  refine⟨c',y11,hc',λK=>?_⟩
  unfold Kj
  erw[jZ,m4,r4]
  exact e _
 |false=>
  refine ay (zA (d:=d) (D:=D) (W:=false) hF.bd (hF.r5 rfl) hs h3 e4 hf h) λc' hc' e=>?_
  refine⟨c',none,hc',λK=>?_⟩
  rw[hr rfl]
  unfold Kj
  erw[jZ]
  exact e _
theorem zB(o0 o1 o2:MO)(l10:10≤sc.length)(l14:sc.length≤14):∃F R D W s c k ep rt,Std F R D W s c k ep rt∧ag PB (d+4) 77 [.ref 3] [o0,o1,o2,.lst (sc.map .int)]=some (.tup [.int (F:Int),.int (R:Int),.int (gq D),.int (gq W),.int (s:Int),.ref 5,.ref 6,.int ep,.int (bm 4 rt)],h7 (o4 o0 o1 o2 sc) (F*R) c k):=by
 obtain⟨s0,e0⟩:∃s,sc[0]?=some s:=⟨_,List.getElem?_eq_getElem (by exact Ar.Z1 [.e .oM .x0] (.l .n0 .x0) rfl l10)⟩
 obtain⟨s1,e1⟩:∃s,sc[1]?=some s:=⟨_,List.getElem?_eq_getElem (by exact Ar.Z1 [.e .oM .x0] (.l .n1 .x0) rfl l10)⟩
 obtain⟨s2,e2⟩:∃s,sc[2]?=some s:=⟨_,List.getElem?_eq_getElem (by exact Ar.Z1 [.e .oM .x0] (.l .n2 .x0) rfl l10)⟩
 obtain⟨s3,e3⟩:∃s,sc[3]?=some s:=⟨_,List.getElem?_eq_getElem (by exact Ar.Z1 [.e .oM .x0] (.l .n3 .x0) rfl l10)⟩
 obtain⟨s5,e5⟩:∃s,sc[5]?=some s:=⟨_,List.getElem?_eq_getElem (by exact Ar.Z1 [.e .oM .x0] (.l .n5 .x0) rfl l10)⟩
 refine FQ (zp s0) λF R D W hS hp=>?_
 have hF:=ir hS
 have aQ:=hF.bd.aQ
 have f3:=hF.bd.f3
 have r3:=hF.bd.r3
 refine ay (j6 s1 (N:=2) (by decide)) λs hs es=>?_
 have es:binI .mod s1 2=some (s:Int):=es
 refine ay (j6 s5 (N:=F) (by exact Ar.Z1 [.e .n3 .x0] (.l .n0 .x0) rfl f3)) λf hf ef=>?_
 refine Cy (yc (d:=d+2) hS s2 s3) λa b ha hb hab hk=>?_
 have m6:binI .mod s0 6=some (s0.fmod 6):=rfl
 have rr:∀(j:Nat) (x:Int),sc[j]?=some x→j<1000→∀K:MH,aJ (.ref 3) (.int (j:Int)) ([o0,o1,o2,.lst (sc.map .int)]++K)=some (.int x):=λj x hj h K=>by
  rw[bu (aY (show aj [o0,o1,o2,.lst (sc.map .int)] 3=some (sc.map .int)from rfl)) (by exact Ar.Z1 [.l .x0 .aG] (.l .x0 .av) rfl h),List.getElem?_map,hj];rfl
 let kk:Nat→Nat:=λt=>if t=0 then a else b
 let h6:MH:=[o0,o1,o2,.lst (sc.map V.int),.lst [.int 0],.lst (tab (F*R) λ_=>.int 0)]
 have A0:aJ (.ref 3) (.int 0) [o0,o1,o2,.lst (sc.map V.int)]=some (.int s0):=rr 0 s0 e0 (by decide) []
 have A1:aJ (.ref 3) (.int 1) [o0,o1,o2,.lst (sc.map V.int)]=some (.int s1):=rr 1 s1 e1 (by decide) []
 have rp:nW .mul (.ref (List.length ([o0,o1,o2,.lst (sc.map V.int)]:MH))) (.int ((F*R:Nat):Int)) [o0,o1,o2,.lst (sc.map V.int),.lst [.int 0]]=some (.ref 5,h6):=E_ (n:=4) rfl (by exact Ar.Z1 [.e .x0 .aQ] (.e .x0 .aG) rfl aQ)
 have A2:aJ (.ref 3) (.int 2) h6=some (.int s2):=rr 2 s2 e2 (by decide) [.lst [.int 0],.lst (tab (F*R) λ_=>.int 0)]
 have A3:aJ (.ref 3) (.int 3) h6=some (.int s3):=rr 3 s3 e3 (by decide) [.lst [.int 0],.lst (tab (F*R) λ_=>.int 0)]
 have hk':ag PB (d+3) 73 [.int (F:Int),.int ((F*R:Nat):Int),.int (gq W),.int s2,.int s3] h6=some (.ref 6,h7 (o4 o0 o1 o2 sc) (F*R) (λ_=>0) kk):=hk h6
 have K0:∀c,aJ (.ref 6) (.int 0) (h7 (o4 o0 o1 o2 sc) (F*R) c kk)=some (.int (a:Int)):=λc=>ja (t:=0) (by decide)
 have K1:∀c,aJ (.ref 6) (.int 1) (h7 (o4 o0 o1 o2 sc) (F*R) c kk)=some (.int (b:Int)):=λc=>ja (t:=1) (by decide)
 have p6:∀c,dX (.ref 5) (.int (a:Int)) (.int 6) (h7 (o4 o0 o1 o2 sc) (F*R) c kk)=some (h7 (o4 o0 o1 o2 sc) (F*R) (upd c a 6) kk):=λc=>rX (m:=6) aQ ha
 have p14:∀c,dX (.ref 5) (.int (b:Int)) (.int 14) (h7 (o4 o0 o1 o2 sc) (F*R) c kk)=some (h7 (o4 o0 o1 o2 sc) (F*R) (upd c b 14) kk):=λc=>rX (m:=14) aQ hb
 have A5:aJ (.ref 3) (.int 5) (h7 (o4 o0 o1 o2 sc) (F*R) (upd (upd (λ_=>0) a 6) b 14) kk)=some (.int s5):=nF (o:=o4 o0 o1 o2 sc) rfl e5 (by decide)
 have ci:CI F R kk (upd (upd (λ_=>0) a 6) b 14):=wh hF ha hb hab
 have rw_:∃row:Int,(W=false→row=((if s=0 then 1 else 3:Nat):Int))∧∀(x9 bU bc ed ig x14:Option V) (K:KV) (H:MH),xE (d+3) MX [some (.ref 3),some (.int (F:Int)),some (.int (R:Int)),some (.int (gq D)),some (.int (gq W)),some (.int ((F*R:Nat):Int)),some (.int (s:Int)),some (.ref 5),some (.ref 6),x9,bU,bc,ed,ig,x14] H K=K (.int row,H):=by
  unfold MX
  by_cases h0:s=0
  ·refine⟨(R:Int)-4,λhw=>?_,λx9 bU bc ed ig x14 K H=>?_⟩
   ·rw[if_pos h0];have:=hF.r5 hw;exact Ar.Z1 [.q .x0 .n5] (.Q (.s (.c .x0) .n4) (.c .n1)) rfl this
   ·erw[c0,show Nat.beq s 0=true by rw[ae];exact h0]
  ·refine⟨3,λhw=>by rw[if_neg h0];rfl,λx9 bU bc ed ig x14 K H=>?_⟩
   erw[c0,show Nat.beq s 0=false by rw[aq];exact h0]
 refine ay (rw_) λrow q1 q2=>?_
 refine cQ (Co (d:=d) (o:=o4 o0 o1 o2 sc) (D:=D) hS hs hf rfl l10 q1 ci) λc1 y11 hc1 w1=>?_
 refine zU (Cn (d:=d) (o:=o4 o0 o1 o2 sc) hS hs hf rfl l10 l14 q1 hc1 y11) λc' ep rt hst w2=>?_
 refine⟨F,R,D,W,s,c',kk,ep,rt,hst,?_⟩
 rw[ax (fn:=⟨1,15,[.kq [1,2,3,4] (.sub (.aV 31) (.b .mod (.sub (.l 0) (.c (.int 0))) (.c (.int 6)))),.set 5 (.b .mul (.l 1) (.l 2)),.set 6 (.b .mod (.sub (.l 0) (.c (.int 1))) (.c (.int 2))),.set 7 (.b .mul (.lst [.c (.int 0)]) (.l 5)),.set 8 (.call 73 [.l 1,.l 5,.l 4,.sub (.l 0) (.c (.int 2)),.sub (.l 0) (.c (.int 3))]),.gW (.l 7) (.sub (.l 8) (.c (.int 0))) (.c (.int 6)),.gW (.l 7) (.sub (.l 8) (.c (.int 1))) (.c (.int 14)),.set 9 MX,.set 10 (.b .mod (.sub (.l 0) (.c (.int 5))) (.l 1)),Kj]++MY⟩) rfl rfl]
 erw[A0,m6,hp,vW hF.bd,A1,es,rp,A2,A3,hk',K0,p6,K1,p14,q2,A5,ef]
 exact(w1 _).trans w2
end
end
section
open PySem
noncomputable def BB:E:=.mk 1 [.l 9,.mk 2 [.b .mul (.lst [.b .mul (.lst [.c (.int 0)]) (.l 8)]) (.c (.int 15)),.b .mul (.lst [.c (.int 0)]) (.l 0),.b .mul (.lst [.c (.int 0)]) (.c (.int 16)),.c (.int 0)]]
noncomputable abbrev zb(n:Nat):MO:=.lst (tab n λ_=>.int 0)
noncomputable def Rj(F N:Nat):MH:=[.lst [.int 0],zb N,.lst [.ref 39],.lst (tab 15 λ_=>.ref 39),.lst [.int 0],zb F,.lst [.int 0],zb 16,.ins 2 [(25,.ref 41),(21,.ref 43),(20,.ref 45),(19,.int 0)]]
noncomputable def MC(side rights ep:V):MO:=.ins 1 [(14,.ref 7),(15,.ref 46),(16,.ref 49),(17,.ref 51),(18,.ref 52),(19,side),(20,rights),(21,ep),(22,.int 0),(3,.int 1),(23,.int 0),(24,.ref 53)]
noncomputable def Dc(side rights ep:V)(N:Nat)(b kf sf:Nat→Int):MH:=[MC side rights ep,.lst [.int 0],.lst (tab N λt=>.int (b t)),.lst [.int 0],.lst (tab 7 λj=>.int (kf j)),.lst (tab 2 λt=>.int (sf t)),.lst []]
noncomputable def b3(l:MH)(F R:Nat)(D W:Bool)(side rights ep:V)(b kf sf:Nat→Int):MH:=l++gH F R D W++Rj F (F*R)++Dc side rights ep (F*R) b kf sf
section
variable {d F R:Nat} {D W:Bool}
theorem EI(d:Nat)(a b c e f g h:MO)(x2 x3 x4 x5 x6 x7 bU bc:Option V):ar (Fd (d+6)) BB [some (.int 4),some (.int 5),x2,x3,x4,x5,x6,x7,some (.int 20),some (.ref 7),bU,bc] ([a,b,c,e,f,g,h]++gH 4 5 true false)=some (.ref 47,b3 [a,b,c,e,f,g,h] 4 5 true false (.int 0) (.int 0) (.int (-1)) (λ_=>0) (λ_=>0) (λ_=>0)):=by kernel_rfl
theorem EJ(d:Nat)(a b c e f g h:MO)(x2 x3 x4 x5 x6 x7 bU bc:Option V):ar (Fd (d+6)) BB [some (.int 8),some (.int 3),x2,x3,x4,x5,x6,x7,some (.int 24),some (.ref 7),bU,bc] ([a,b,c,e,f,g,h]++gH 8 3 false true)=some (.ref 47,b3 [a,b,c,e,f,g,h] 8 3 false true (.int 0) (.int 0) (.int (-1)) (λ_=>0) (λ_=>0) (λ_=>0)):=by kernel_rfl
theorem EK(d:Nat)(a b c e f g h:MO)(x2 x3 x4 x5 x6 x7 bU bc:Option V):ar (Fd (d+6)) BB [some (.int 5),some (.int 5),x2,x3,x4,x5,x6,x7,some (.int 25),some (.ref 7),bU,bc] ([a,b,c,e,f,g,h]++gH 5 5 true false)=some (.ref 47,b3 [a,b,c,e,f,g,h] 5 5 true false (.int 0) (.int 0) (.int (-1)) (λ_=>0) (λ_=>0) (λ_=>0)):=by kernel_rfl
theorem EL(d:Nat)(a b c e f g h:MO)(x2 x3 x4 x5 x6 x7 bU bc:Option V):ar (Fd (d+6)) BB [some (.int 6),some (.int 3),x2,x3,x4,x5,x6,x7,some (.int 18),some (.ref 7),bU,bc] ([a,b,c,e,f,g,h]++gH 6 3 false true)=some (.ref 47,b3 [a,b,c,e,f,g,h] 6 3 false true (.int 0) (.int 0) (.int (-1)) (λ_=>0) (λ_=>0) (λ_=>0)):=by kernel_rfl
theorem EM(d:Nat)(a b c e f g h:MO)(x2 x3 x4 x5 x6 x7 bU bc:Option V):ar (Fd (d+6)) BB [some (.int 3),some (.int 5),x2,x3,x4,x5,x6,x7,some (.int 15),some (.ref 7),bU,bc] ([a,b,c,e,f,g,h]++gH 3 5 true false)=some (.ref 47,b3 [a,b,c,e,f,g,h] 3 5 true false (.int 0) (.int 0) (.int (-1)) (λ_=>0) (λ_=>0) (λ_=>0)):=by kernel_rfl
theorem EN(d:Nat)(a b c e f g h:MO)(x2 x3 x4 x5 x6 x7 bU bc:Option V):ar (Fd (d+6)) BB [some (.int 4),some (.int 5),x2,x3,x4,x5,x6,x7,some (.int 20),some (.ref 7),bU,bc] ([a,b,c,e,f,g,h]++gH 4 5 false false)=some (.ref 47,b3 [a,b,c,e,f,g,h] 4 5 false false (.int 0) (.int 0) (.int (-1)) (λ_=>0) (λ_=>0) (λ_=>0)):=by kernel_rfl
theorem A8(hS:pf F R D W)(d:Nat)(a b c e f g h:MO):ag PB (d+6) 22 [.int (F:Int),.int (R:Int),.bool D,.bool W] [a,b,c,e,f,g,h]=some (.ref 7,[a,b,c,e,f,g,h]++gH F R D W):=by
 unfold pf vp at hS
 simp only[List.mem_cons,List.not_mem_nil,or_false,Prod.mk.injEq]at hS
 rcases hS with⟨rfl,rfl,rfl,rfl⟩|⟨rfl,rfl,rfl,rfl⟩|⟨rfl,rfl,rfl,rfl⟩|⟨rfl,rfl,rfl,rfl⟩|⟨rfl,rfl,rfl,rfl⟩|⟨rfl,rfl,rfl,rfl⟩
 ·exact jR (A9 d a b c e f g h)
 ·exact jR (A_ d a b c e f g h)
 ·exact jR (Ba d a b c e f g h)
 ·exact jR (Bb d a b c e f g h)
 ·exact jR (Bc d a b c e f g h)
 ·exact jR (Be d a b c e f g h)
theorem EH(hS:pf F R D W)(d:Nat)(a b c e f g h:MO)(x2 x3 x4 x5 x6 x7 bU bc:Option V):ar (Fd (d+6)) BB [some (.int (F:Int)),some (.int (R:Int)),x2,x3,x4,x5,x6,x7,some (.int ((F*R:Nat):Int)),some (.ref 7),bU,bc] ([a,b,c,e,f,g,h]++gH F R D W)=some (.ref 47,b3 [a,b,c,e,f,g,h] F R D W (.int 0) (.int 0) (.int (-1)) (λ_=>0) (λ_=>0) (λ_=>0)):=by
 unfold pf vp at hS
 simp only[List.mem_cons,List.not_mem_nil,or_false,Prod.mk.injEq]at hS
 rcases hS with⟨rfl,rfl,rfl,rfl⟩|⟨rfl,rfl,rfl,rfl⟩|⟨rfl,rfl,rfl,rfl⟩|⟨rfl,rfl,rfl,rfl⟩|⟨rfl,rfl,rfl,rfl⟩|⟨rfl,rfl,rfl,rfl⟩
 ·exact EI d a b c e f g h x2 x3 x4 x5 x6 x7 bU bc
 ·exact EJ d a b c e f g h x2 x3 x4 x5 x6 x7 bU bc
 ·exact EK d a b c e f g h x2 x3 x4 x5 x6 x7 bU bc
 ·exact EL d a b c e f g h x2 x3 x4 x5 x6 x7 bU bc
 ·exact EM d a b c e f g h x2 x3 x4 x5 x6 x7 bU bc
 ·exact EN d a b c e f g h x2 x3 x4 x5 x6 x7 bU bc
theorem Hq{q:St}(bd:Bd q.F q.R)(hs:q.s<2)(l:MH)(h7:∃a b c e f g h,l=[a,b,c,e,f,g,h]){b kf sf:Nat→Int}(hb:b=λt=>(q.c t:Int))(hk:kf=λj=>if j=0 then 0 else bm q.N (q.kd j))(hs':sf=λt=>bm q.N (q.sd t)) :
  HP q (b3 l q.F q.R q.dbl q.wg (.int q.s) (.int (bm 4 q.rt)) (.int q.ep) b kf sf):=by
 obtain⟨a,b',c,e,f,g,h,rfl⟩:=h7
 subst hb hk hs'
 refine⟨bd.aQ,bd.f3,bd.r3,hs,rfl,rfl,rfl,rfl,rfl,rfl,rfl,rfl,rfl,rfl,rfl,rfl,rfl,rfl,rfl,rfl,rfl,λd hd=>?_,rfl,rfl,rfl,rfl,rfl,rfl,rfl,rfl,rfl⟩
 match d,hd with
 |0,_=>rfl
 |1,_=>rfl
 |2,_=>rfl
 |3,_=>rfl
 |4,_=>rfl
 |5,_=>rfl
 |6,_=>rfl
 |7,_=>rfl
end
end
section
open PySem
noncomputable def iI(f:Nat→Int)(i:Nat)(w:Int)(x:Nat):Int:=if Nat.beq x i then w else f x
noncomputable def cut(c:Nat→Nat)(j x:Nat):Nat:=if Nat.blt x j then c x else 0
noncomputable def Em(N:Nat)(c:Nat→Nat)(j:Nat):Int:=if j=0 then 0 else bm N (Bo c j)
noncomputable def Fi(N:Nat)(c:Nat→Nat)(t:Nat):Int:=bm N (nG c t)
noncomputable abbrev jL(l:MH)(F R:Nat)(D W:Bool)(side rights ep:V)(c:Nat→Nat):MH:=b3 l F R D W side rights ep (λx=>(c x:Int)) (Em (F*R) c) (Fi (F*R) c)
section
variable {H:MH} {d F R N m t i j n s x:Nat} {D W:Bool} {c k:Nat→Nat} {o:Nat→MO} {side rights ep:V} {b kf sf b' kf' sf':Nat→Int}
theorem mB{f g:Nat→V}(h:∀i,i<n→f i=g i):tab n f=tab n g:=by
 unfold tab
 exact List.map_congr_left λx hx=>h x (List.mem_range.mp hx)
theorem zI(n i:Nat)(w:Int)(f:Nat→Int):(tab n λt=>V.int (f t)).set i (.int w)=tab n λt=>V.int (iI f i w t):=by
 unfold tab
 apply List.ext_getElem?
 intro j
 simp only[List.getElem?_set,List.getElem?_map,List.getElem?_map,List.length_map,List.length_range]
 unfold iI
 by_cases hij:i=j
 ·subst hij
  by_cases hl:i<n
  ·rw[if_pos rfl,if_pos hl,List.getElem?_range hl]
   show _=some (V.int (if Nat.beq i i=true then w else f i))
   rw[Nat.beq_refl,if_pos rfl]
  ·rw[if_pos rfl,if_neg hl,List.getElem?_eq_none (by rw[List.length_range];exact Ar.Z2 [.N (.l .x0 .x1)] (.e .x1 .x0) rfl hl)];rfl
 ·rw[if_neg hij]
  by_cases hl:j<n
  ·rw[List.getElem?_range hl]
   show some (V.int (f j))=some (V.int (if Nat.beq j i=true then w else f j))
   rw[if_neg (by rw[ae];exact Ar.Z2 [.N (.q .x0 .x1)] (.N (.q .x1 .x0)) rfl hij)]
  ·rw[List.getElem?_eq_none (by rw[List.length_range];exact Ar.Z2 [.N (.l .x0 .x1)] (.e .x1 .x0) rfl hl)];rfl
theorem mj{f:Nat→Int}{w:Int}(h:aj H n=some (tab N λt=>.int (f t)))(hN:N≤25)(hi:i<N):dX (.ref n) (.int (i:Int)) (.int w) H=some (H.set n (.lst (tab N λt=>.int (iI f i w t)))):=by
 show(if jh (i:Int)then(aj H n).bind λl=>if Nat.blt (i:Int).toNat l.length then some (H.set n (.lst (l.set (i:Int).toNat (.int w))))else none else none)=_
 rw[if_pos (ji (by exact Ar.Z2 [.e .x0 .aQ,.l .x1 .x0] (.l .x1 .av) rfl hN hi)),h,Option.bind_some,len_tab,Int.toNat_natCast,if_pos (by rw[aC];exact hi),zI]
theorem Ih(hN:F*R≤25)(hi:t<F*R)(m:Int):dX (.ref 49) (.int (t:Int)) (.int m) (b3 (h7 o N c k) F R D W side rights ep b kf sf)=some (b3 (h7 o N c k) F R D W side rights ep (iI b t m) kf sf):=
 mj (f:=b) (H:=b3 (h7 o N c k) F R D W side rights ep b kf sf) rfl hN hi
theorem Ii(hi:i<7)(m:Int):dX (.ref 51) (.int (i:Int)) (.int m) (b3 (h7 o N c k) F R D W side rights ep b kf sf)=some (b3 (h7 o N c k) F R D W side rights ep b (iI kf i m) sf):=
 mj (f:=kf) (H:=b3 (h7 o N c k) F R D W side rights ep b kf sf) rfl (by decide) hi
theorem Ij(hi:i<2)(m:Int):dX (.ref 52) (.int (i:Int)) (.int m) (b3 (h7 o N c k) F R D W side rights ep b kf sf)=some (b3 (h7 o N c k) F R D W side rights ep b kf (iI sf i m)):=
 mj (f:=sf) (H:=b3 (h7 o N c k) F R D W side rights ep b kf sf) rfl (by decide) hi
theorem Ep(hi:i<7):aJ (.ref 51) (.int (i:Int)) (b3 (h7 o N c k) F R D W side rights ep b kf sf)=some (.int (kf i)):=cP (N:=7) (f:=λj=>.int (kf j)) rfl (by decide) hi
theorem Er(hi:i<2):aJ (.ref 52) (.int (i:Int)) (b3 (h7 o N c k) F R D W side rights ep b kf sf)=some (.int (sf i)):=cP (N:=2) (f:=λj=>.int (sf j)) rfl (by decide) hi
theorem Et(hi:i<15):aJ (.ref 41) (.int (i:Int)) (b3 (h7 o N c k) F R D W side rights ep b kf sf)=some (.ref 39):=cP (N:=15) (f:=λ_=>.ref 39) rfl (by decide) hi
theorem Eu(hN:F*R≤25)(hi:i<F*R):aJ (.ref 39) (.int (i:Int)) (b3 (h7 o N c k) F R D W side rights ep b kf sf)=some (.int 0):=cP (N:=F*R) (f:=λ_=>.int 0) rfl hN hi
theorem jM{l:MH}(h1:∀x,x<F*R→b x=b' x)(h2:∀x,x<7→kf x=kf' x)(h3:∀x,x<2→sf x=sf' x):b3 l F R D W side rights ep b kf sf=b3 l F R D W side rights ep b' kf' sf':=by
 unfold b3 Dc
 simp only[mB (n:=F*R) (f:=λt=>.int (b t)) (g:=λt=>.int (b' t)) λx hx=>by rw[h1 x hx],mB (n:=7) (f:=λt=>.int (kf t)) (g:=λt=>.int (kf' t)) λx hx=>by rw[h2 x hx],mB (n:=2) (f:=λt=>.int (sf t)) (g:=λt=>.int (sf' t)) λx hx=>by rw[h3 x hx]]
theorem IH(hN:F*R≤25)(ht:t<F*R)(m6:m%8≤6)(m2:m/8<2):ag PB (d+2) 29 [.ref 47,.int (m:Int),.int (t:Int)] (b3 (h7 o N c k) F R D W side rights ep b kf sf) =
  some (.bW,b3 (h7 o N c k) F R D W side rights ep (iI b t m) (iI kf (m%8) (fM (kf (m%8)) (bm (F*R) λi=>Nat.beq i t))) (iI sf (m/8) (fM (sf (m/8)) (bm (F*R) λi=>Nat.beq i t)))):=by
 have mH:∀b kf sf,bK (.ref 47) 16 (b3 (h7 o N c k) F R D W side rights ep b kf sf)=some (.ref 49):=λ_ _ _=>rfl
 have pg:∀b kf sf,bK (.ref 47) 17 (b3 (h7 o N c k) F R D W side rights ep b kf sf)=some (.ref 51):=λ_ _ _=>rfl
 have q8:∀b kf sf,bK (.ref 47) 18 (b3 (h7 o N c k) F R D W side rights ep b kf sf)=some (.ref 52):=λ_ _ _=>rfl
 have ky:∀b kf sf,bK (.ref 47) 15 (b3 (h7 o N c k) F R D W side rights ep b kf sf)=some (.ref 46):=λ_ _ _=>rfl
 have OL:∀b kf sf,bK (.ref 46) 25 (b3 (h7 o N c k) F R D W side rights ep b kf sf)=some (.ref 41):=λ_ _ _=>rfl
 have KD:∀b kf sf,bK (.ref 47) 23 (b3 (h7 o N c k) F R D W side rights ep b kf sf)=some (.int 0):=λ_ _ _=>rfl
 have s23:∀b kf sf,gV (.ref 47) 23 (.int 0) (b3 (h7 o N c k) F R D W side rights ep b kf sf)=some (b3 (h7 o N c k) F R D W side rights ep b kf sf):=λ_ _ _=>rfl
 have x0:iS 0 0=0:=rfl
 rw[ax (fn:=Li) rfl rfl]
 erw[xf,Li,bh ht hN,mH,Ih hN ht,pg,oF,Ep (show m%8<7 by exact Ar.Z3 [.e .x0 .n6,.d 8 .x2 .x0 .x1] (.l .x0 .n7) rfl m6 (Ar.md _ 8 rfl)),Ii (show m%8<7 by exact Ar.Z3 [.e .x0 .n6,.d 8 .x2 .x0 .x1] (.l .x0 .n7) rfl m6 (Ar.md _ 8 rfl)),q8,um,Er m2,Ij m2,KD,ky,OL,Et (show m<15 by exact Ar.Z3 [.e .x0 .n6,.l .x2 .n2,.d 8 .x2 .x0 .x1] (.l .x1 .NT) rfl m6 m2 (Ar.md _ 8 rfl)),Eu hN ht,x0,s23]
theorem lz(c:Nat→Nat):cut c 0=λ_=>0:=funext λx=>by unfold cut;rw[if_neg (by rw[aC];exact Ar.Z1 [] (.N (.l .x0 .n0)) rfl)]
theorem jD:cut c (t+1) t=c t:=by unfold cut;rw[if_pos (by rw[aC];exact Ar.Z1 [] (.l .x0 (.a .x0 .n1)) rfl)]
theorem jE(h:x≠t):cut c (t+1) x=cut c t x:=by
 unfold cut
 by_cases hx:x<t
 ·rw[if_pos (by rw[aC];exact Ar.Z2 [.l .x0 .x1] (.l .x0 (.a .x1 .n1)) rfl hx),if_pos (by rw[aC];exact hx)]
 ·rw[if_neg (by rw[aC];exact Ar.Z2 [.N (.l .x0 .x1),.N (.q .x0 .x1)] (.N (.l .x0 (.a .x1 .n1))) rfl hx h),if_neg (by rw[aC];exact hx)]
theorem ly:cut c t t=0:=by unfold cut;rw[if_neg (by rw[aC];exact Ar.Z1 [] (.N (.l .x0 .x0)) rfl)]
theorem wt(h:c t=0):cut c (t+1)=cut c t:=funext λx=>by
 by_cases hx:x=t
 ·simp only[hx,jD,ly,h]
 ·exact jE hx
theorem C5{p:Nat→Bool}{q:Nat→Bool}{a:Int}(n:Nat)(h:a=bm n p)(hq:∀x,x<n→(p x||Nat.beq x t)=q x):fM a (bm n λi=>Nat.beq i t)=bm n q:=by
 rw[h,bT];exact aE hq
theorem ye(l:MH)(m1:1≤c t%8):b3 l F R D W side rights ep (iI (λx=>(cut c t x:Int)) t (c t)) (iI (Em (F*R) (cut c t)) (c t%8) (fM (Em (F*R) (cut c t) (c t%8)) (bm (F*R) λi=>Nat.beq i t))) (iI (Fi (F*R) (cut c t)) (c t/8) (fM (Fi (F*R) (cut c t) (c t/8)) (bm (F*R) λi=>Nat.beq i t))) =
  jL l F R D W side rights ep (cut c (t+1)):=by
 have n0:¬ (c t=0):=by intro h;rw[h]at m1;exact Ar.Z1 [.e .n1 .x0,.d 8 .x0 .x0 .n0] .F rfl m1 (Ar.md _ 8 rfl)
 refine jM (λx _=>?_) (λj _=>?_) (λs _=>?_)
 ·unfold iI
  by_cases hx:x=t
  ·rw[if_pos (by rw[ae];exact hx),hx,jD]
  ·rw[if_neg (by rw[ae];exact hx),jE hx]
 ·unfold iI
  by_cases hj:j=c t%8
  ·rw[if_pos (by rw[ae];exact hj),hj]
   have j0:¬ (c t%8=0):=by exact Ar.Z3 [.e .n1 .x0,.d 8 .x2 .x0 .x1] (.N (.q .x0 .n0)) rfl m1 (Ar.md _ 8 rfl)
   unfold Em
   rw[if_neg j0,if_neg j0]
   refine C5 _ rfl λx _=>?_
   unfold Bo
   by_cases hx:x=t
   ·rw[hx,jD,Nat.beq_refl,Nat.beq_refl,Bool.or_true]
   ·rw[jE hx,show Nat.beq x t=false by rw[aq];exact hx,Bool.or_false]
  ·rw[if_neg (by rw[ae];exact hj)]
   unfold Em
   by_cases j0:j=0
   ·rw[if_pos j0,if_pos j0]
   ·rw[if_neg j0,if_neg j0]
    refine aE λx _=>?_
    unfold Bo
    by_cases hx:x=t
    ·rw[hx,jD,ly,show Nat.beq (c t%8) j=false by rw[aq];exact Ar.Z4 [.N (.q .x0 .x1),.d 8 .x3 .x1 .x2] (.N (.q .x1 .x0)) rfl hj (Ar.md _ 8 rfl),show Nat.beq (0%8) j=false by rw[aq];exact Ar.Z2 [.N (.q .x0 .n0),.d 8 .x1 .x1 .n0] (.N (.q .x1 .x0)) rfl j0 (Ar.md _ 8 rfl)]
    ·rw[jE hx]
 ·unfold iI
  by_cases hs:s=c t/8
  ·rw[if_pos (by rw[ae];exact hs),hs]
   unfold Fi
   refine C5 _ rfl λx _=>?_
   unfold nG
   by_cases hx:x=t
   ·rw[hx,jD,Nat.beq_refl,Nat.beq_refl,Bool.or_true,show Nat.beq (c t) 0=false by rw[aq];exact n0];rfl
   ·rw[jE hx,show Nat.beq x t=false by rw[aq];exact hx,Bool.or_false]
  ·rw[if_neg (by rw[ae];exact hs)]
   unfold Fi
   refine aE λx _=>?_
   unfold nG
   by_cases hx:x=t
   ·rw[hx,jD,ly,show Nat.beq (c t/8) s=false by rw[aq];exact Ar.Z4 [.N (.q .x0 .x1),.d 8 .x1 .x3 .x2] (.N (.q .x1 .x0)) rfl hs (Ar.md _ 8 rfl),Bool.and_false];rfl
   ·rw[jE hx]
end
end
section
open PySem
noncomputable def Ml:List S:=[.ite (.sub (.l 5) (.l 11)) [.exp (.call 29 [.l 10,.sub (.l 5) (.l 11),.l 11])] []]
section
variable {H:MH} {d F R N m t i j n s x:Nat} {D W:Bool} {c k:Nat→Nat} {o:Nat→MO} {side rights ep:V} {b kf sf b' kf' sf':Nat→Int}
noncomputable abbrev Mm(F R:Nat)(D W:Bool)(s:Nat)(ep rt:Int)(x9 bU bc:Option V):Loc:=[some (.int (F:Int)),some (.int (R:Int)),some (.int (gq D)),some (.int (gq W)),some (.int (s:Int)),some (.ref 5),some (.int ep),some (.int rt),some (.int ((F*R:Nat):Int)),x9,bU,bc]
theorem DD(b:Bool):decide (gq b=1)=b:=by cases b<;>rfl
theorem kU{p:Nat→Bool}:∀n,(∀x,p x=false)→eJ n p=0
 |0,_=>rfl
 |n+1,h=>by simp only[eJ,kU n h,h n];rfl
theorem Es(hS:pf F R D W)(hc:Code (F*R) c)(s:Nat)(ep rt:Int):ag PB (d+7) 78 [.int (F:Int),.int (R:Int),.int (gq D),.int (gq W),.int (s:Int),.ref 5,.int ep,.int rt] (h7 o (F*R) c k) =
  some (.ref 47,jL (h7 o (F*R) c k) F R D W (.int (s:Int)) (.int rt) (.int ep) (cut c (F*R))):=by
 have hF:=ir hS
 have aQ:=hF.bd.aQ
 obtain⟨ρ',H',⟨bc,rfl,rfl⟩,e⟩:=i8 (d:=d+6) (k:=11) (b:=Ml) (λj ρ H1=>∃bc,ρ=Mm F R D W s ep rt (some (.ref 7)) (some (.ref 47)) bc∧H1=jL (h7 o (F*R) c k) F R D W (.int 0) (.int 0) (.int (-1)) (cut c j)) (F*R)
  (λj hj ρ H1 hp=>by
   obtain⟨bc,rfl,rfl⟩:=hp
   have at_:aJ (.ref 5) (.int (j:Int)) (jL (h7 o (F*R) c k) F R D W (.int 0) (.int 0) (.int (-1)) (cut c j))=some (.int (c j:Int)):=cP (N:=F*R) (f:=λt=>.int (c t:Int)) rfl aQ hj
   rcases hc j hj with h0|⟨m1,m6,m2⟩
   ·refine⟨_,_,⟨some (.int (j:Int)),rfl,rfl⟩,λK _=>?_⟩
    rw[wt h0]
    unfold Ml
    erw[at_,iV,show Nat.beq (c j) 0=true by rw[ae];exact h0,Bool.not_true]
   ·refine⟨_,_,⟨some (.int (j:Int)),rfl,rfl⟩,λK _=>?_⟩
    rw[← ye _ m1]
    unfold Ml
    erw[at_,iV,show Nat.beq (c j) 0=false by rw[aq];exact Ar.Z3 [.e .n1 .x0,.d 8 .x2 .x0 .x1] (.N (.q .x1 .n0)) rfl m1 (Ar.md _ 8 rfl),Bool.not_false,IH aQ hj m6 m2])
  (Mm F R D W s ep rt (some (.ref 7)) (some (.ref 47)) none) (b3 (h7 o (F*R) c k) F R D W (.int 0) (.int 0) (.int (-1)) (λ_=>0) (λ_=>0) (λ_=>0)) ⟨none,rfl,jM (λx _=>by rw[lz];rfl) (λj _=>by
   rw[lz];unfold Em
   split
   ·rfl
   ·rename_i h
    unfold bm
    rw[kU _ λx=>by unfold Bo;rw[aq];show¬ (0%8=j);exact Ar.Z2 [.N (.q .x0 .n0),.d 8 .x1 .x1 .n0] (.N (.q .x1 .x0)) rfl h (Ar.md _ 8 rfl)];rfl) (λt _=>by
   rw[lz];unfold Fi bm
   rw[kU _ λx=>by unfold nG;rfl];rfl)⟩
 have g:=λ(o:Nat→MO)=>A8 hS d (o 0) (o 1) (o 2) (o 3) (o 4) (.lst (tab (F*R) λt=>.int (c t:Int))) (.lst [.int (k 0:Int),.int (k 1:Int)])
 have g':ag PB (d+6) 22 [.int (F:Int),.int (R:Int),.bool D,.bool W] (h7 o (F*R) c k)=some (.ref 7,h7 o (F*R) c k++gH F R D W):=g o
 have mk:ar (Fd (d+6)) BB (Mm F R D W s ep rt (some (.ref 7)) none none) (h7 o (F*R) c k++gH F R D W)=some (.ref 47,b3 (h7 o (F*R) c k) F R D W (.int 0) (.int 0) (.int (-1)) (λ_=>0) (λ_=>0) (λ_=>0)):=
  EH hS d (o 0) (o 1) (o 2) (o 3) (o 4) (.lst (tab (F*R) λt=>.int (c t:Int))) (.lst [.int (k 0:Int),.int (k 1:Int)]) _ _ _ _ _ _ _ _
 unfold BB at mk
 rw[ax (fn:=LO) rfl rfl]
 generalize h7 o (F*R) c k++gH F R D W=HG at g' mk
 have t1:∀v,gV (.ref 47) 19 v (jL (h7 o (F*R) c k) F R D W (.int 0) (.int 0) (.int (-1)) (cut c (F*R)))=some (jL (h7 o (F*R) c k) F R D W v (.int 0) (.int (-1)) (cut c (F*R))):=λ_=>rfl
 have t2:∀u v,gV (.ref 47) 21 v (jL (h7 o (F*R) c k) F R D W u (.int 0) (.int (-1)) (cut c (F*R)))=some (jL (h7 o (F*R) c k) F R D W u (.int 0) v (cut c (F*R))):=λ_ _=>rfl
 have t3:∀u w v,gV (.ref 47) 20 v (jL (h7 o (F*R) c k) F R D W u (.int 0) w (cut c (F*R)))=some (jL (h7 o (F*R) c k) F R D W u v w (cut c (F*R))):=λ_ _ _=>rfl
 erw[LO,vW hF.bd,DD,g',mk,mk_zero _ (show F*R≤1000 by exact Ar.Z1 [.e .x0 .aQ] (.e .x0 .aG) rfl aQ),dW]
 refine(e _).trans ?_
 erw[t1,t2,t3]
end
end
section
open PySem
section
variable {H:MH} {d F R N m t i j n s x:Nat} {D W:Bool} {c k:Nat→Nat} {ep:Int} {rt:Nat→Bool} {o:Nat→MO}
theorem As(hS:pf F R D W)(i a b g e:Nat)(hi:i<4)(h:bj F R W i=some (a,b,g,e)):a<F*R∧b<F*R∧g<F*R∧e<F*R∧a≠g:=by
 have i4:i=0∨i=1∨i=2∨i=3:=by exact Ar.Z1 [.l .x0 .n4] (.D (.q .x0 .n0) (.D (.q .x0 .n1) (.D (.q .x0 .n2) (.q .x0 .n3)))) rfl hi
 have key:∀F R W i,(bj F R W i).all (λp=>Nat.blt p.1 (F*R)&&Nat.blt p.2.1 (F*R)&&Nat.blt p.2.2.1 (F*R)&&Nat.blt p.2.2.2 (F*R)&&!Nat.beq p.1 p.2.2.1)=true→bj F R W i=some (a,b,g,e)→a<F*R∧b<F*R∧g<F*R∧e<F*R∧a≠g:=λF R W i hk h=>by
  rw[h]at hk
  have hk:(Nat.blt a (F*R)&&Nat.blt b (F*R)&&Nat.blt g (F*R)&&Nat.blt e (F*R)&&!Nat.beq a g)=true:=hk
  simp only[Bool.and_eq_true,aC,Bool.not_eq_true',aq]at hk
  exact Ar.Z5 [.C (.C (.C (.C (.l .x0 .x1) (.l .x2 .x1)) (.l .x3 .x1)) (.l .x4 .x1)) (.N (.q .x0 .x3))] (.C (.l .x0 .x1) (.C (.l .x2 .x1) (.C (.l .x3 .x1) (.C (.l .x4 .x1) (.N (.q .x0 .x3)))))) rfl hk
 refine key F R W i ?_ h
 unfold pf vp at hS
 simp only[List.mem_cons,List.not_mem_nil,or_false,Prod.mk.injEq]at hS
 rcases hS with⟨rfl,rfl,rfl,rfl⟩|⟨rfl,rfl,rfl,rfl⟩|⟨rfl,rfl,rfl,rfl⟩|⟨rfl,rfl,rfl,rfl⟩|⟨rfl,rfl,rfl,rfl⟩|⟨rfl,rfl,rfl,rfl⟩<;>rcases i4 with rfl|rfl|rfl|rfl<;>rfl
theorem EY(h:Std F R D W s c k ep rt):Pos ⟨F,R,D,W,c,s,ep,rt,k⟩:=by
 have hF:=ir h.IX
 refine⟨⟨h.ci.code,h.ci.jy,h.ci.oB,h.ci.yd,λi a b c e hi hc=>As h.IX i a b c e hi hc⟩,hF.bd,h.s2,h.ci.yR,?_,h.rt⟩
 rcases h.ep with h1|⟨e,p,q1,q2,q3,q4,q5,q6,q7⟩
 ·exact .inl h1
 ·exact .inr ⟨e,p,⟨q1,q2,q3,q4⟩,q5,q6,q7⟩
theorem lx(h:x<N):cut c N x=c x:=by unfold cut;rw[if_pos (by rw[aC];exact h)]
theorem laid(h:Std F R D W s c k ep rt)(o:Nat→MO):HP ⟨F,R,D,W,c,s,ep,rt,k⟩ (jL (h7 o (F*R) c k) F R D W (.int (s:Int)) (.int (bm 4 rt)) (.int ep) (cut c (F*R))):=by
 have hF:=ir h.IX
 have e:jL (h7 o (F*R) c k) F R D W (.int (s:Int)) (.int (bm 4 rt)) (.int ep) (cut c (F*R))=b3 (h7 o (F*R) c k) F R D W (.int (s:Int)) (.int (bm 4 rt)) (.int ep) (λt=>(c t:Int)) (λj=>if j=0 then 0 else bm (F*R) (Bo c j)) (λt=>bm (F*R) (nG c t)):=
  jM (λx hx=>by rw[lx hx]) (λj _=>by
   unfold Em
   by_cases h0:j=0
   ·rw[if_pos h0,if_pos h0]
   ·rw[if_neg h0,if_neg h0];exact aE λx hx=>by unfold Bo;rw[lx hx]) (λt _=>by unfold Fi;exact aE λx hx=>by unfold nG;rw[lx hx])
 simp only[e]
 exact Hq (q:=⟨F,R,D,W,c,s,ep,rt,k⟩) hF.bd h.s2 _ ⟨_,_,_,_,_,_,_,rfl⟩ rfl rfl rfl
theorem Bs(h:Std F R D W s c k ep rt)(o:Nat→MO):LP ⟨F,R,D,W,c,s,ep,rt,k⟩ (jL (h7 o (F*R) c k) F R D W (.int (s:Int)) (.int (bm 4 rt)) (.int ep) (cut c (F*R))):=
 ⟨(ir h.IX).bd,h.s2,rfl,rfl⟩
end
end
section
open PySem
noncomputable def bN:List Int:=[0,0,0,38,1,0,5,3,10,8]
noncomputable def B8(xs:List Int):List Int:=xs.take 14++bN.drop (xs.take 14).length
section
variable {d:Nat} {xs:List Int}
theorem Fg(xs:List Int):10≤(B8 xs).length∧(B8 xs).length≤14:=by
 have h:(xs.take 14).length≤14:=by rw[List.length_take];omega
 unfold B8
 rw[List.length_append,List.length_drop,show bN.length=10 from rfl]
 exact Ar.Z2 [.e .x0 .nA,.s .x1 .oM .x0] (.C (.e .oM (.a .x0 .x1)) (.e (.a .x0 .x1) .nA)) rfl h (Ar.ts _ _)
theorem MG(hx:xs.length≤63)(r:Loc):ar (Fd d) (.qZ (.l 0) (.c (.int 14))) (some (.ft (xs.map .int))::r) []=some (.ref 0,[.lst ((xs.take 14).map .int)]):=by
 have e:(if jh 14&&aI (xs.map V.int).length then some (V.ref 0,([]:MH)++[MO.lst ((xs.map V.int).take 14)])else none)=some (V.ref 0,[MO.lst ((xs.take 14).map V.int)]):=by
  rw[if_pos (by rw[List.length_map,bF _ (by exact Ar.Z1 [.e .x0 .NV] (.e .x0 .aG) rfl hx)];rfl),List.map_take];rfl
 exact e
theorem MI(l:List Int)(hl:l.length≤14)(x0:Option V)(r:Loc):ar (Fd (d+1)) (.jv (.call 68 []) (.len (.l 1))) (x0::some (.ref 0)::r) [.lst (l.map .int)]=some (.ref 2,[.lst (l.map .int),.lst (bN.map .int),.lst ((bN.drop l.length).map .int)]):=by
 have c68:ag PB (d+1) 68 [] [.lst (l.map .int)]=some (.ref 1,[.lst (l.map .int),.lst (bN.map .int)]):=rfl
 have e1:ar (Fd (d+1)) (.len (.l 1)) (x0::some (.ref 0)::r) [.lst (l.map .int),.lst (bN.map .int)]=some (.int (l.length:Int),[.lst (l.map .int),.lst (bN.map .int)]):=by
  show(if aI (l.map V.int).length then some (V.int ((l.map V.int).length:Int),[MO.lst (l.map V.int),MO.lst (bN.map V.int)])else none)=_
  rw[List.length_map,if_pos (bF _ (by exact Ar.Z1 [.e .x0 .nA] (.e .x0 .aG) rfl hl))]
 show(ar (Fd (d+1)) (.call 68 []) (x0::some (.ref 0)::r) [.lst (l.map .int)]).bind (λr1=>(ar (Fd (d+1)) (.len (.l 1)) (x0::some (.ref 0)::r) r1.2).bind _)=_
 have c:ar (Fd (d+1)) (.call 68 []) (x0::some (.ref 0)::r) [.lst (l.map .int)]=some (.ref 1,[.lst (l.map .int),.lst (bN.map .int)]):=c68
 rw[c,Option.bind_some,e1,Option.bind_some]
 show(if jh (l.length:Int)then(some (bN.map V.int)).bind λl'=>if aI l'.length then some (V.ref 2,[MO.lst (l.map V.int),MO.lst (bN.map V.int)]++[MO.lst (l'.drop (l.length:Int).toNat)])else none else none)=_
 rw[if_pos (ji (by exact Ar.Z1 [.e .x0 .nA] (.l .x0 .av) rfl hl)),Option.bind_some,if_pos (show aI (bN.map V.int).length=true from rfl),Int.toNat_natCast,List.map_drop];rfl
theorem EZ(l:List Int)(hl:l.length≤14):nW .add (.ref 0) (.ref 2) [.lst (l.map .int),.lst (bN.map .int),.lst ((bN.drop l.length).map .int)]=some (.ref 3,[.lst (l.map .int),.lst (bN.map .int),.lst ((bN.drop l.length).map .int),.lst ((l++bN.drop l.length).map .int)]):=by
 show(if aI ((l.map V.int).length+((bN.drop l.length).map V.int).length)then some (V.ref 3,[MO.lst (l.map V.int),MO.lst (bN.map V.int),MO.lst ((bN.drop l.length).map V.int)]++[MO.lst (l.map V.int++(bN.drop l.length).map V.int)])else none)=_
 rw[if_pos (bF _ (by rw[List.length_map,List.length_map,List.length_drop,show bN.length=10 from rfl];exact Ar.Z2 [.e .x0 .nA,.s .x1 .oM .x0] (.e (.a .x0 .x1) .aG) rfl hl (Ar.ts _ _))),List.map_append];rfl
theorem BO(hx:xs.length≤63):∃H',ag PB (d+12) 85 [.ft (xs.map .int)] []=some (.bool true,H'):=by
 have hl:(xs.take 14).length≤14:=by rw[List.length_take];omega
 obtain⟨l10,l14⟩:=Fg xs
 obtain⟨F,R,D,W,s,c,k,ep,rt,hst,e77⟩:=zB (d:=d+7) (sc:=B8 xs) (.lst ((xs.take 14).map .int)) (.lst (bN.map .int)) (.lst ((bN.drop (xs.take 14).length).map .int)) l10 l14
 have e78:=Es (d:=d+4) (k:=k) (o:=o4 (.lst ((xs.take 14).map .int)) (.lst (bN.map .int)) (.lst ((bN.drop (xs.take 14).length).map .int)) (B8 xs)) hst.IX hst.ci.code s ep (bm 4 rt)
 have hp:=laid hst (o4 (.lst ((xs.take 14).map .int)) (.lst (bN.map .int)) (.lst ((bN.drop (xs.take 14).length).map .int)) (B8 xs))
 have lp:=Bs hst (o4 (.lst ((xs.take 14).map .int)) (.lst (bN.map .int)) (.lst ((bN.drop (xs.take 14).length).map .int)) (B8 xs))
 obtain⟨H',m⟩:=Bz (d:=d) (EY hst) hp lp (B8 xs) rfl ⟨by exact Ar.Z1 [.e .oM .x0] (.e .n6 .x0) rfl l10,l14⟩ (.ft (xs.map .int)) (.int (gq W))
 refine⟨H',?_⟩
 have ad:=EZ (xs.take 14) hl
 rw[ax (fn:=LU) rfl rfl]
 erw[LU,MG hx,MI (xs.take 14) hl,ad]
 rw[show(xs.take 14++bN.drop (xs.take 14).length)=B8 xs from rfl]
 erw[e77,e78]
 exact m
end
end
end Mine
theorem PySem.Challenge.cw_nt0458_01_holds : PySem.Challenge.rw_nt0458_01.Holds :=
 Mine.qd λ_ hx=>Mine.BO (d:=8) hx
