import PyProof.Rows.All
import Wide.All
import OpenK.AllK
import Wide.FinOn
import PySem.Challenge.RW_nu0064_01
set_option Elab.async false
set_option compiler.extract_closed false
set_option genSizeOf false
set_option maxRecDepth 100000
set_option linter.unusedVariables false
set_option linter.unusedSimpArgs false
namespace Mine
set_option genInjectivity false in
inductive Tm where
 | v (i:Nat)
 | n (k:Nat)
 | a (x y:Tm)
 | m (k:Nat) (x:Tm)
set_option genInjectivity false in
inductive Cn where
 | le (x y:Tm)
 | lt (x y:Tm)
 | eq (x y:Tm)
 | ne (x y:Tm)
 | nlt (x y:Tm)
 | nle (x y:Tm)
 | nd (p q:Cn)
noncomputable def Tm.d (c:List Nat):Tm→Nat
 | v i=>c.getD i 0
 | n k=>k
 | a x y=>x.d c+y.d c
 | m k x=>k * x.d c
noncomputable def Cn.d (c:List Nat):Cn→Prop
 | le x y=>x.d c≤y.d c
 | lt x y=>x.d c<y.d c
 | eq x y=>x.d c=y.d c
 | ne x y=>x.d c≠y.d c
 | nlt x y=>¬ x.d c<y.d c
 | nle x y=>¬ x.d c≤y.d c
 | nd p q=>p.d c∧q.d c
noncomputable def fP:List Int→List Nat→Int
 | [],_=>0
 | k::ks,l=>match l with
  | []=>0
  | x::xs=>k * x+fP ks xs
noncomputable def qC:List Int→List Int→List Int
 | [],v=>v
 | a::u,l=>match l with
  | []=>a::u
  | b::v=>(a+b)::qC u v
noncomputable def DP (k:Int) (u:List Int):List Int:=u.map (k * ·)
noncomputable def JQ:Nat→List Int
 | 0=>[1]
 | i+1=>0::JQ i
theorem jQ (u:List Int):∀ v xs,fP (qC u v) xs=fP u xs+fP v xs:=by
 induction u with
 | nil=>intro v xs;exact(Int.zero_add _).symm
 | cons a u ih=>
  intro v xs
  cases v with
  | nil=>exact(Int.add_zero _).symm
  | cons b v=>cases xs with
   | nil=>rfl
   | cons x xs=>show(a+b) * x+fP (qC u v) xs=a * x+fP u xs+(b * x+fP v xs);rw[ih,Int.add_mul,Int.add_assoc,Int.add_assoc,Int.add_left_comm (b * x)]
theorem ot (k:Int) (u:List Int):∀ xs,fP (DP k u) xs=k * fP u xs:=by
 induction u with
 | nil=>intro xs;exact(Int.mul_zero _).symm
 | cons a u ih=>intro xs;cases xs with
  | nil=>exact(Int.mul_zero _).symm
  | cons x xs=>show k * a * x+fP (DP k u) xs=k * (a * x+fP u xs);rw[ih,Int.mul_add,Int.mul_assoc]
theorem uf (i:Nat):∀ xs:List Nat,fP (JQ i) xs=(xs.getD i 0:Nat):=by
 induction i with
 | zero=>intro xs;cases xs with
  | nil=>rfl
  | cons x xs=>exact(Int.add_zero _).trans (Int.one_mul _)
 | succ i ih=>intro xs;cases xs with
  | nil=>rfl
  | cons x xs=>show 0 * (x:Int)+fP (JQ i) xs=_;rw[ih,Int.zero_mul,Int.zero_add];rfl
noncomputable def Tm.lin:Tm→List Int
 | v i=>JQ (i+1)
 | n k=>[(k:Int)]
 | a x y=>qC x.lin y.lin
 | m k x=>DP k x.lin
theorem Tm.lin_ok (c:List Nat) (t:Tm):fP t.lin (1::c)=(t.d c:Int):=by
 induction t with
 | v i=>exact uf (i+1) (1::c)
 | n k=>exact(Int.add_zero _).trans (Int.mul_one _)
 | a x y h k=>exact(jQ _ _ _).trans (by rw[h,k];exact(Int.natCast_add _ _).symm)
 | m k x h=>exact(ot _ _ _).trans (by rw[h];exact(Int.natCast_mul _ _).symm)
noncomputable def rp (x y:Tm) (k:Int):List Int:=qC y.lin (qC (DP (-1) x.lin) [k])
theorem vi (c:List Nat) (x y:Tm) (k:Int):fP (rp x y k) (1::c)=y.d c-x.d c+k:=by
 unfold rp
 rw[jQ,jQ,ot,Tm.lin_ok,Tm.lin_ok]
 show(y.d c:Int)+(-1 * (x.d c:Int)+(k * 1+0))=_
 rw[Int.add_zero,Int.mul_one,Int.neg_mul,Int.one_mul,← Int.add_assoc];rfl
theorem AP {c:List Nat} {x y:Tm} (h:x.d c≤y.d c):0≤fP (rp x y 0) (1::c):=by
 rw[vi,Int.add_zero];exact Int.sub_nonneg.mpr (Int.ofNat_le.mpr h)
theorem JR {c:List Nat} {x y:Tm} (h:x.d c<y.d c):0≤fP (rp x y (-1)) (1::c):=by
 rw[vi];show(0:Int)≤y.d c-x.d c-1;rw[Int.sub_sub];exact Int.sub_nonneg.mpr (Int.ofNat_le.mpr h)
noncomputable def Cn.v:Cn→List (List Int)
 | le x y=>[rp x y 0]
 | lt x y=>[rp x y (-1)]
 | eq x y=>[rp x y 0,rp y x 0]
 | ne _ _=>[]
 | nlt x y=>[rp y x 0]
 | nle x y=>[rp y x (-1)]
 | nd p q=>p.v++q.v
noncomputable def Cn.g:Cn→List (List Int)
 | le x y=>[rp y x (-1)]
 | lt x y=>[rp y x 0]
 | eq _ _=>[]
 | ne x y=>[rp x y 0,rp y x 0]
 | nlt x y=>[rp x y (-1)]
 | nle x y=>[rp x y 0]
 | nd _ _=>[]
noncomputable def Cn.ok:Cn→Bool
 | eq _ _=>false
 | nd _ _=>false
 | _=>true
noncomputable abbrev zE (c:List Nat) (l:List (List Int)):Prop:=∀ w∈l,0≤fP w (1::c)
theorem lI {c:List Nat} {w:List Int} (h:0≤fP w (1::c)):zE c [w]:=fun _ m=>List.mem_singleton.mp m▸h
theorem vj {c:List Nat} {a b:List (List Int)} (h:zE c a) (k:zE c b):zE c (a++b):=fun w m=>(List.mem_append.mp m).elim (h w) (k w)
theorem Cn.v_ok (c:List Nat) (p:Cn) (h:p.d c):zE c p.v:=by
 induction p with
 | le x y=>exact lI (AP h)
 | lt x y=>exact lI (JR h)
 | eq x y=>exact vj (a:=[_]) (lI (AP (Nat.le_of_eq h))) (lI (AP (Nat.le_of_eq (Eq.symm h))))
 | ne x y=>exact fun _ m=>absurd m List.not_mem_nil
 | nlt x y=>exact lI (AP (Nat.not_lt.mp h))
 | nle x y=>exact lI (JR (Nat.not_le.mp h))
 | nd p q a b=>exact vj (a h.1) (b h.2)
theorem Cn.g_ok (c:List Nat) (p:Cn) (o:p.ok=true) (h:¬ p.d c):zE c p.g:=by
 cases p with
 | le x y=>exact lI (JR (Nat.not_le.mp h))
 | lt x y=>exact lI (AP (Nat.not_lt.mp h))
 | eq x y=>exact absurd o Bool.false_ne_true
 | ne x y=>
  have h:x.d c=y.d c:=Classical.not_not.mp h
  exact vj (a:=[_]) (lI (AP (Nat.le_of_eq h))) (lI (AP (Nat.le_of_eq h.symm)))
 | nlt x y=>exact lI (JR (Classical.not_not.mp h))
 | nle x y=>exact lI (AP (Classical.not_not.mp h))
 | nd p q=>exact absurd o Bool.false_ne_true
noncomputable def DQ:List (List Int)→List Nat→List Int
 | [],_=>[]
 | w::ws,l=>match l with
  | []=>[]
  | k::ks=>qC (DP k w) (DQ ws ks)
theorem CI {c:List Nat} (ws:List (List Int)):∀ ks,zE c ws→0≤fP (DQ ws ks) (1::c):=by
 induction ws with
 | nil=>exact fun _ _=>Int.le_refl 0
 | cons w ws ih=>
  intro ks h
  cases ks with
  | nil=>exact Int.le_refl 0
  | cons k ks=>
   show 0≤fP (qC (DP k w) (DQ ws ks)) (1::c)
   rw[jQ,ot]
   exact Int.add_nonneg (Int.mul_nonneg (Int.natCast_nonneg k) (h w (.head _))) (ih ks fun x m=>h x (.tail _ m))
noncomputable def Ko (w:List Int):Bool:=w.all fun k=>decide (k≤0)
theorem CJ (w:List Int):∀ xs,Ko w=true→fP w xs≤0:=by
 induction w with
 | nil=>exact fun _ _=>Int.le_refl 0
 | cons k w ih=>
  intro xs h
  have h:=Bool.and_eq_true_iff.mp h
  cases xs with
  | nil=>exact Int.le_refl 0
  | cons x xs=>
   have a:=Int.mul_nonpos_of_nonpos_of_nonneg (of_decide_eq_true h.1) (Int.natCast_nonneg x)
   have b:=ih xs h.2
   exact Int.add_nonpos a b
noncomputable def Kq:List Int→Bool
 | k::ks=>decide (k<0) && Ko ks
 | []=>false
noncomputable def CK (c:List Nat) (g:Cn):List Cn→Prop
 | []=>g.d c
 | h::hs=>h.d c→CK c g hs
theorem zF (c:List Nat) (g:Cn) (P:List (List Int)→Prop) (hg:∀ ws,zE c ws→P ws→g.d c) (hs:List Cn):∀ ws,zE c ws→P (ws++hs.flatMap Cn.v)→CK c g hs:=by
 induction hs with
 | nil=>intro ws h p;rw[List.flatMap_nil,List.append_nil] at p;exact hg ws h p
 | cons q hs ih=>
  intro ws h p
  rw[List.flatMap_cons,← List.append_assoc] at p
  exact fun k=>ih (ws++q.v) (vj h (q.v_ok c k)) p
theorem lin (c:List Nat) (hs:List Cn) (g:Cn) (ls:List Nat) (h:(g.ok && Kq (DQ (g.g++hs.flatMap Cn.v) ls))=true):CK c g hs:=by
 have h:=Bool.and_eq_true_iff.mp h
 refine zF c g (fun ws=>Kq (DQ (g.g++ws) ls)=true) (fun ws p k=>Classical.byContradiction fun n=>?_) hs [] (fun _ m=>absurd m List.not_mem_nil) h.2
 have a:=CI (g.g++ws) ls (vj (g.g_ok c h.1 n) p)
 cases e:DQ (g.g++ws) ls with
 | nil=>rw[e] at k;exact Bool.false_ne_true k
 | cons x w=>
  rw[e] at k a
  have k:=Bool.and_eq_true_iff.mp k
  have b:=CJ w c k.2
  have d:=of_decide_eq_true k.1
  exact Int.lt_irrefl 0 (Int.lt_of_le_of_lt a (Int.add_neg_of_neg_of_nonpos ((Int.mul_one x).symm▸d) b))
noncomputable def x0:Tm:=.v 0
noncomputable def x1:Tm:=.v 1
noncomputable def x2:Tm:=.v 2
noncomputable def x3:Tm:=.v 3
noncomputable def x4:Tm:=.v 4
noncomputable def x5:Tm:=.v 5
noncomputable def x6:Tm:=.v 6
noncomputable def x7:Tm:=.v 7
noncomputable def x8:Tm:=.v 8
noncomputable def x9:Tm:=.v 9
noncomputable def s1 (t:Tm):Tm:=.a t (.n 1)
theorem JY {a k:Int} {n:Nat} (h:0≤a) (l:a<k) (e:k≤n):a.natAbs<n:=Int.ofNat_lt.mp (by rw[Int.natAbs_of_nonneg h];exact Int.lt_of_lt_of_le l e)
section
variable {a b c d e f g i j k l m n p q r s t u v w:Nat}
theorem LM (h0:a+(6 * d)+6≤c) (h1:b≤d):a+(6 * b)+6≤c:=lin [a,b,c,d] [.le (.a (.a x0 (.m 6 x3)) (.n 6)) x2,.le x1 x3] (.le (.a (.a x0 (.m 6 x1)) (.n 6)) x2) [1,1,6] rfl h0 h1
theorem LN (h0:a+(60 * d)+200≤c) (h1:b≤d):a+(60 * b)+200≤c:=lin [a,b,c,d] [.le (.a (.a x0 (.m 60 x3)) (.n 200)) x2,.le x1 x3] (.le (.a (.a x0 (.m 60 x1)) (.n 200)) x2) [1,1,60] rfl h0 h1
theorem LO (h0:a+(6 * c)+6≤b):a<b:=lin [a,b,c] [.le (.a (.a x0 (.m 6 x2)) (.n 6)) x1] (.lt x0 x1) [1,1] rfl h0
theorem LP (h0:a+(60 * c)+200≤b):a+64<b:=lin [a,b,c] [.le (.a (.a x0 (.m 60 x2)) (.n 200)) x1] (.lt (.a x0 (.n 64)) x1) [1,1] rfl h0
theorem LQ (h0:a+(60 * c)+200≤b):a+1<b:=lin [a,b,c] [.le (.a (.a x0 (.m 60 x2)) (.n 200)) x1] (.lt (s1 x0) x1) [1,1] rfl h0
theorem Kr (h0:a+(6 * (b+1))+6≤c):a+1+(6 * b)+6≤c:=lin [a,b,c] [.le (.a (.a x0 (.m 6 (s1 x1))) (.n 6)) x2] (.le (.a (.a (s1 x0) (.m 6 x1)) (.n 6)) x2) [1,1] rfl h0
theorem LR (h0:a+(60 * (b+1))+200≤c):a+3+(60 * b)+200≤c:=lin [a,b,c] [.le (.a (.a x0 (.m 60 (s1 x1))) (.n 200)) x2] (.le (.a (.a (.a x0 (.n 3)) (.m 60 x1)) (.n 200)) x2) [1,1] rfl h0
theorem LS (h0:a+(60 * c)+200≤b):a+65<b:=lin [a,b,c] [.le (.a (.a x0 (.m 60 x2)) (.n 200)) x1] (.lt (.a x0 (.n 65)) x1) [1,1] rfl h0
theorem LT (h0:a+(6 * (b+1))+6≤c):a+(6 * b)+6≤c:=lin [a,b,c] [.le (.a (.a x0 (.m 6 (s1 x1))) (.n 6)) x2] (.le (.a (.a x0 (.m 6 x1)) (.n 6)) x2) [1,1] rfl h0
theorem JZ (h0:a+(60 * (b+1))+200≤c):a+1+(60 * b)+200≤c:=lin [a,b,c] [.le (.a (.a x0 (.m 60 (s1 x1))) (.n 200)) x2] (.le (.a (.a (s1 x0) (.m 60 x1)) (.n 200)) x2) [1,1] rfl h0
theorem J0 {a:Int} (h0:(-((2:Int) ^ 63))≤a) (h1:a<((2:Int) ^ 63)):(-9223372036854775808:Int)≤a∧a<(9223372036854775808:Int):=⟨h0,h1⟩
theorem J1 (h0:a≤((2:Nat) ^ 24)):a≤16777216:=h0
theorem DW (h0:a≤b):a+1≤b+1:=lin [a,b] [.le x0 x1] (.le (s1 x0) (s1 x1)) [1,1] rfl h0
theorem J2 {b:Int} (h0:(0:Int)≤(b+((a:Nat):Int))):(-((a:Nat):Int))≤b:=Int.add_nonneg_iff_neg_le.mp h0
theorem J3:¬ ((1:Int)<(0:Int)):=by decide
theorem zG:¬ (((a:Nat):Int)<(0:Int)):=by lia
theorem J4 (h0:a≤b):(min ((a:Nat):Int) ((b:Nat):Int))=((a:Nat):Int):=Int.min_eq_left (Int.ofNat_le.mpr h0)
theorem J5:(1:Int) > (0:Int):=by decide
theorem J6:((((0:Int)+(((a:Nat):Int) * (1:Int)))).toNat)=0+a:=by lia
theorem J7 (h0:b≤c):min a b≤c:=Nat.le_trans (Nat.min_le_right a b) h0
theorem fq (h0:a<b):a≠b:=lin [a,b] [.lt x0 x1] (.ne x0 x1) [0,1,1] rfl h0
theorem J8 {a:Int} (h0:a≤((b:Nat):Int)):(a).toNat≤b:=Int.toNat_le.mpr h0
theorem J9 (h0:a+(60 * (c+1))+200≤d) (h1:b=1):a+b+(60 * c)+200≤d:=lin [a,b,c,d] [.le (.a (.a x0 (.m 60 (s1 x2))) (.n 200)) x3,.eq x1 (.n 1)] (.le (.a (.a (.a x0 x1) (.m 60 x2)) (.n 200)) x3) [1,1,1] rfl h0 h1
theorem Ja {a:Int} (h0:b<(a).toNat):(0:Int)<(a-((b:Nat):Int)):=Int.sub_pos_of_lt (Int.lt_toNat.mp h0)
theorem Jb {a:Int}:((a-((b:Nat):Int))-(1:Int))=(a-(((b+1):Nat):Int)):=Int.sub_sub _ _ _
theorem Jc {a:Int} (h0:b=(a).toNat):(a-((b:Nat):Int))≤(0:Int):=Int.sub_nonpos_of_le (h0▸Int.self_le_toNat a)
theorem DX (h0:((a:Nat):Int)<((b:Nat):Int)):a<b:=Int.ofNat_lt.mp h0
theorem Jd (h0:a<64):a<1920:=lin [a] [.lt x0 (.n 64)] (.lt x0 (.n 1920)) [1,1] rfl h0
theorem Je (h0:a≤d+c) (h1:d≤b+1):a≤b+(c+1):=lin [a,b,c,d] [.le x0 (.a x3 x2),.le x3 (s1 x1)] (.le x0 (.a x1 (s1 x2))) [1,1,1] rfl h0 h1
theorem Jf (h0:a+64<b):a+1+1<b:=lin [a,b] [.lt (.a x0 (.n 64)) x1] (.lt (.a (s1 x0) (.n 1)) x1) [1,1] rfl h0
theorem DY (h0:a<2):a≤16777216:=lin [a] [.lt x0 (.n 2)] (.le x0 (.n 16777216)) [1,1] rfl h0
theorem Jg (h0:a<2):a<2:=lin [a] [.lt x0 (.n 2)] (.lt x0 (.n 2)) [1,1] rfl h0
theorem Jh (h0:a<2):a≤16777216+1:=lin [a] [.lt x0 (.n 2)] (.le x0 (.a (.n 16777216) (.n 1))) [1,1] rfl h0
theorem Ji (h0:a=c) (h1:c≤b):a≤b:=lin [a,b,c] [.eq x0 x2,.le x2 x1] (.le x0 x1) [1,1,0,1] rfl h0 h1
theorem DZ (h0:b+1≤a):a-(b+1)<a:=Nat.sub_lt (Nat.lt_of_lt_of_le (Nat.succ_pos b) h0) (Nat.succ_pos b)
theorem D0 (h0:b+1≤a):a-(b+1)+1=a-b:=Nat.sub_add_cancel (Nat.sub_pos_of_lt h0)
theorem D2 (h0:b-(a+1)+1=b-a):a≤b:=Nat.le_of_lt (Nat.sub_pos_iff_lt.mp (h0▸Nat.succ_pos _))
theorem Jj (h0:a=0):a≤b:=lin [a,b] [.eq x0 (.n 0)] (.le x0 x1) [1,1] rfl h0
theorem Jk (h0:a > 0):a-1<a:=Nat.sub_one_lt_of_lt h0
theorem Jl (h0:a-1<b):a≤b:=Nat.le_of_pred_lt h0
theorem jR (h0:b<c) (h1:c≤a):a≠b:=lin [a,b,c] [.lt x1 x2,.le x2 x0] (.ne x0 x1) [1,0,1,1] rfl h0 h1
theorem CL (h0:a≤100000):a≤16777216:=lin [a] [.le x0 (.n 100000)] (.le x0 (.n 16777216)) [1,1] rfl h0
theorem CM (h0:a<b):((a:Nat):Int)<((b:Nat):Int):=Int.ofNat_lt.mpr h0
theorem Jm:(-1:Int)<(0:Int):=by decide
theorem Jn:((-1:Int)+(((a:Nat):Int)+(1:Int)))=((a:Nat):Int):=by lia
theorem Jo:((a:Nat):Int)<(((a:Nat):Int)+(1:Int)):=Int.lt_succ ↑a
theorem rv:(0:Int)≤((a:Nat):Int):=Int.natCast_nonneg a
theorem CN:(-((2:Int) ^ 63))≤((a:Nat):Int):=Int.neg_ofNat_le_natCast (2 ^ 63) a
theorem Jp (h0:a<((2:Nat) ^ 62)):((a:Nat):Int)<((2:Int) ^ 63):=Int.lt_of_lt_of_le (Int.ofNat_lt.mpr h0) (by decide +kernel)
theorem Jq (h0:a<b) (h1:b≤100000):((a:Nat):Int)<((2:Int) ^ 63):=Int.lt_of_lt_of_le (Int.ofNat_lt.mpr (Nat.lt_of_lt_of_le h0 h1)) (by decide +kernel)
theorem vl (h0:a≤100000):((a:Nat):Int)<((2:Int) ^ 63):=Int.lt_of_le_of_lt (Int.ofNat_le.mpr h0) (by decide +kernel)
theorem Jr {a b:Int} (h0:(-1000000:Int)≤a) (h1:(-1000000:Int)≤b) (h2:a≤(1000000:Int)) (h3:b≤(1000000:Int)):(((((-9223372036854775808:Int)≤a)∧(a<(9223372036854775808:Int)))∧(((-9223372036854775808:Int)≤b)∧(b<(9223372036854775808:Int))))∧(((-9223372036854775808:Int)≤(max (b-a) (0:Int)))∧((max (b-a) (0:Int))<(9223372036854775808:Int))))∧(((max (b-a) (0:Int))=(0:Int))∨(((-9223372036854775808:Int)≤b)∧(b<(9223372036854775808:Int)))):=⟨⟨⟨⟨Int.le_trans (by decide) h0,Int.lt_of_le_of_lt h2 (by decide)⟩,Int.le_trans (by decide) h1,Int.lt_of_le_of_lt h3 (by decide)⟩,Int.le_trans (by decide) (Int.le_max_right (b-a) 0),Int.max_lt.mpr ⟨Int.lt_of_le_of_lt (Int.sub_le_sub h3 h0) (by decide),by decide⟩⟩,.inr ⟨Int.le_trans (by decide) h1,Int.lt_of_le_of_lt h3 (by decide)⟩⟩
theorem Js:(-1000000:Int)≤(0:Int):=by lia
theorem Jt:(0:Int)≤(1000000:Int):=by decide
theorem Ju:(-1000000:Int)≤((a:Nat):Int):=Int.neg_ofNat_le_natCast 1000000 a
theorem Jv (h0:a≤100000):((a:Nat):Int)≤(1000000:Int):=Int.le_trans (Int.ofNat_le.mpr h0) (by decide)
theorem CO:((((a+1):Nat):Int)-(1:Int))=((a:Nat):Int):=Int.add_sub_cancel a 1
theorem D3:(0:Int)<(((a+1):Nat):Int):=Int.ofNat_succ_pos a
theorem Jw (h0:b+1≤a):a=a-1+1:=(Nat.sub_add_cancel (Nat.le_trans (Nat.le_add_left 1 b) h0)).symm
theorem D4 (h0:a+1≤b+1):a≤b:=lin [a,b] [.le (s1 x0) (s1 x1)] (.le x0 x1) [1,1] rfl h0
theorem zH (h0:b≤1000):min a b≤100000:=Nat.le_trans (Nat.min_le_right a b) (Nat.le_trans h0 (by decide))
theorem Jx:a≤a+1+1:=lin [a] [] (.le x0 (.a (s1 x0) (.n 1))) [1] rfl
theorem Jy:1≤1+a:=lin [a] [] (.le (.n 1) (.a (.n 1) x0)) [1] rfl
theorem zI (h0:1≤b) (h1:a≤c):a+1≤b+c:=lin [a,b,c] [.le (.n 1) x1,.le x0 x2] (.le (s1 x0) (.a x1 x2)) [1,1,1] rfl h0 h1
theorem Jz:a≤a+b:=lin [a,b] [] (.le x0 (.a x0 x1)) [1] rfl
theorem KA (h0:a≤c):a≤b+c:=lin [a,b,c] [.le x0 x2] (.le x0 (.a x1 x2)) [1,1] rfl h0
theorem D5 (h0:a≤b):a≤1+b:=lin [a,b] [.le x0 x1] (.le x0 (.a (.n 1) x1)) [1,1] rfl h0
theorem zJ (h0:a<b+1) (h1:¬ (a<b)):a=b:=Nat.le_antisymm (lin [a,b] [.lt x0 (s1 x1),.nlt x0 x1] (.le x0 x1) [1,1] rfl h0 h1) (lin [a,b] [.lt x0 (s1 x1),.nlt x0 x1] (.le x1 x0) [1,0,1] rfl h0 h1)
theorem D6 (h0:a<b) (h1:a=b):False:=Nat.ne_of_lt h0 h1
theorem KC (h0:a+(b+(e+0))=d) (h1:e=1+c):a+(0+1)+(b+c)=d:=Nat.le_antisymm (lin [a,b,c,d,e] [.eq (.a x0 (.a x1 (.a x4 (.n 0)))) x3,.eq x4 (.a (.n 1) x2)] (.le (.a (.a x0 (.a (.n 0) (.n 1))) (.a x1 x2)) x3) [1,1,0,0,1] rfl h0 h1) (lin [a,b,c,d,e] [.eq (.a x0 (.a x1 (.a x4 (.n 0)))) x3,.eq x4 (.a (.n 1) x2)] (.le x3 (.a (.a x0 (.a (.n 0) (.n 1))) (.a x1 x2))) [1,0,1,1] rfl h0 h1)
theorem KD (h0:0<a):1≤a:=lin [a] [.lt (.n 0) x0] (.le (.n 1) x0) [1,1] rfl h0
theorem CP (h0:b<a):(a-1)-b<a:=Nat.sub_one_sub_lt_of_lt h0
theorem KE (h0:1≤a):a-1<a:=Nat.sub_one_lt_of_lt h0
theorem CQ (h0:a=c) (h1:b=c):a=b:=Nat.le_antisymm (lin [a,b,c] [.eq x0 x2,.eq x1 x2] (.le x0 x1) [1,1,0,0,1] rfl h0 h1) (lin [a,b,c] [.eq x0 x2,.eq x1 x2] (.le x1 x0) [1,0,1,1] rfl h0 h1)
theorem KF (h0:1≤b) (h1:a=b):1≤a:=lin [a,b] [.le (.n 1) x1,.eq x0 x1] (.le (.n 1) x0) [1,1,0,1] rfl h0 h1
theorem CR (h0:a=b):a≤b:=lin [a,b] [.eq x0 x1] (.le x0 x1) [1,1] rfl h0
theorem D9 (h0:a<b-1):a<b:=Nat.lt_of_lt_pred h0
theorem KG (h0:(a-1)-b=0) (h1:b<a-1):False:=Nat.ne_of_gt (Nat.sub_pos_of_lt h1) h0
theorem CS (h0:b<a):(a-1)-((a-1)-b)=b:=Nat.sub_sub_self (Nat.le_sub_one_of_lt h0)
theorem KH (h0:c<(b-1)-a):a<(b-1)-c:=Nat.lt_sub_iff_add_lt.mpr (Nat.lt_sub_iff_add_lt'.mp h0)
theorem KI (h0:(c-1)-a=d) (h1:(c-1)-b=d) (h2:a<(c-1)-e):a=b:=have l:=Nat.lt_of_lt_of_le h2 (Nat.sub_le (c-1) e);have q:=h0.trans h1.symm;(Nat.sub_sub_self (Nat.le_of_lt l)).symm.trans ((congrArg (c-1 - ·) q).trans (Nat.sub_sub_self (Nat.le_of_lt (Nat.sub_pos_iff_lt.mp (q▸Nat.sub_pos_of_lt l)))))
theorem KJ (h0:(c-1)-a=(c-1)-b) (h1:a<c) (h2:b<c):a=b:=(Nat.sub_sub_self (Nat.le_sub_one_of_lt h1)).symm.trans ((congrArg (c-1 - ·) h0).trans (Nat.sub_sub_self (Nat.le_sub_one_of_lt h2)))
theorem KL:36≤38:=lin [] [] (.le (.n 36) (.n 38)) [1] rfl
theorem KM (h0:a+c=d) (h1:b≤c) (h2:d≤1000):a+b≤1000:=lin [a,b,c,d] [.eq (.a x0 x2) x3,.le x1 x2,.le x3 (.n 1000)] (.le (.a x0 x1) (.n 1000)) [1,1,0,1,1] rfl h0 h1 h2
theorem ft (h0:a≤1000):a≤100000:=lin [a] [.le x0 (.n 1000)] (.le x0 (.n 100000)) [1,1] rfl h0
theorem vm (h0:b=c) (h1:c≤1000):min a b≤100000:=Nat.le_trans (Nat.min_le_right a b) (Nat.le_trans (Nat.le_of_eq h0) (Nat.le_trans h1 (by decide)))
theorem KN (h0:(c<d)∧((e<d)∧(a<d))) (h1:d≤b):a≠b:=lin [a,b,c,d,e] [.nd (.lt x2 x3) (.nd (.lt x4 x3) (.lt x0 x3)),.le x3 x1] (.ne x0 x1) [0,1,0,0,1,1] rfl h0 h1
theorem KO (h0:(b<c)∧((d<c)∧(e<c))) (h1:c≤a):a≠b:=lin [a,b,c,d,e] [.nd (.lt x1 x2) (.nd (.lt x3 x2) (.lt x4 x2)),.le x2 x0] (.ne x0 x1) [1,0,1,0,0,1] rfl h0 h1
theorem KP (h0:(c<d)∧((b<d)∧(e<d))) (h1:d≤a):a≠b:=lin [a,b,c,d,e] [.nd (.lt x2 x3) (.nd (.lt x1 x3) (.lt x4 x3)),.le x3 x0] (.ne x0 x1) [1,0,0,1,0,1] rfl h0 h1
theorem KQ (h0:(c<d)∧((e<d)∧(b<d))) (h1:d≤a):a≠b:=lin [a,b,c,d,e] [.nd (.lt x2 x3) (.nd (.lt x4 x3) (.lt x1 x3)),.le x3 x0] (.ne x0 x1) [1,0,0,0,1,1] rfl h0 h1
theorem KR (h0:b<a):((((a:Nat):Int)-(1:Int))-((b:Nat):Int))=((((a-1)-b):Nat):Int):=by rw[Int.ofNat_sub (Nat.le_sub_one_of_lt h0),Int.ofNat_sub (Nat.succ_le_of_lt (Nat.zero_lt_of_lt h0))];rfl
theorem KT (h0:b+(a+1)≤1000):a≤10000:=lin [a,b] [.le (.a x1 (s1 x0)) (.n 1000)] (.le x0 (.n 10000)) [1,1] rfl h0
theorem vn:a+1≠a:=lin [a] [] (.ne (s1 x0) x0) [1] rfl
theorem jS:a≤a+1:=lin [a] [] (.le x0 (s1 x0)) [1] rfl
theorem Da (h0:a+b≤1000):a≤100000:=lin [a,b] [.le (.a x0 x1) (.n 1000)] (.le x0 (.n 100000)) [1,1] rfl h0
theorem CT:a≤a:=lin [a] [] (.le x0 x0) [1] rfl
theorem KU (h0:b+(c+(d+0))=e) (h1:a≤f) (h2:d=1+f) (h3:e≤1000):a≤1000:=lin [a,b,c,d,e,f] [.eq (.a x1 (.a x2 (.a x3 (.n 0)))) x4,.le x0 x5,.eq x3 (.a (.n 1) x5),.le x4 (.n 1000)] (.le x0 (.n 1000)) [1,1,0,1,0,1,1] rfl h0 h1 h2 h3
theorem ip (h0:a<b) (h1:b≤1000):a<((2:Nat) ^ 62):=lin [a,b] [.lt x0 x1,.le x1 (.n 1000)] (.lt x0 (.n (2 ^ 62))) [1,1,1] rfl h0 h1
theorem KV (h0:a+(b+1)≤1000):a+b≤1000:=lin [a,b] [.le (.a x0 (s1 x1)) (.n 1000)] (.le (.a x0 x1) (.n 1000)) [1,1] rfl h0
theorem Db (h0:d+a≤1000) (h1:b<e) (h2:e≤1000):a+(min b c)≤100000:=Nat.le_trans (Nat.add_le_add (Nat.le_trans (Nat.le_add_left a d) h0) (Nat.le_trans (Nat.min_le_left b c) (Nat.le_trans (Nat.le_of_lt h1) h2))) (by decide)
theorem Dc (h0:c+(0+1)+a=d) (h1:c+b=d):a<b:=lin [a,b,c,d] [.eq (.a (.a x2 (.a (.n 0) (.n 1))) x0) x3,.eq (.a x2 x1) x3] (.lt x0 x1) [1,1,0,0,1] rfl h0 h1
theorem Dd (h0:a<0):False:=Nat.not_lt_zero a h0
theorem De {a b c:Int}:a+b=(c+b)-c+a:=by lia
theorem Df {a b c d:Int}:a+((b-c)+d)=(a+b)-c+d:=by lia
theorem tM (h0:b<c) (h1:c<a):a≠b:=lin [a,b,c] [.lt x1 x2,.lt x2 x0] (.ne x0 x1) [1,0,1,1] rfl h0 h1
theorem dy:a<a+1:=lin [a] [] (.lt x0 (s1 x0)) [1] rfl
theorem dc (h0:a<b):a<b+1:=lin [a,b] [.lt x0 x1] (.lt x0 (s1 x1)) [1,1] rfl h0
theorem tN (h0:a<b+1) (h1:¬ (a=b)):a<b:=Nat.lt_of_le_of_ne (Nat.le_of_lt_succ h0) h1
theorem bo (h0:b<a):a≠b:=lin [a,b] [.lt x1 x0] (.ne x0 x1) [1,0,1] rfl h0
theorem Dg {a b:Int}:((a-(0:Int))+b)=a+b:=by lia
theorem Dh {a b c:Int} (h0:a=((1:Int)+c)):a+b=((1:Int)+(c+b)):=by rw[h0,Int.add_assoc]
theorem dz (h0:a<c) (h1:c=b):a<b:=lin [a,b,c] [.lt x0 x2,.eq x2 x1] (.lt x0 x1) [1,1,1] rfl h0 h1
theorem tO (h0:a<c) (h1:a≠b-1) (h2:c=b):a<b-1:=Nat.lt_of_le_of_ne (Nat.le_sub_one_of_lt (h2▸h0)) h1
theorem tP (h0:1≤a∧a≤1000) (h1:0=b) (h2:b=a):False:=by lia
theorem fR (h0:1≤a∧a≤1000):a≤100000:=lin [a] [.nd (.le (.n 1) x0) (.le x0 (.n 1000))] (.le x0 (.n 100000)) [1,0,1] rfl h0
theorem c9 (h0:1≤b∧b≤1000) (h1:a<b):a<((2:Nat) ^ 62):=lin [b,a] [.le x0 (.n 1000),.lt x1 x0] (.lt x1 (.n (2 ^ 62))) [1,1,1] rfl (h0).2 h1
theorem AQ (h0:1≤b∧b≤1000) (h1:a=c) (h2:c<b):a≤100000:=lin [a,b,c] [.nd (.le (.n 1) x1) (.le x1 (.n 1000)),.eq x0 x2,.lt x2 x1] (.le x0 (.n 100000)) [1,0,1,1,0,1] rfl h0 h1 h2
theorem Di (h0:1≤b∧b≤1000) (h1:a<b):a≤100000:=lin [a,b] [.nd (.le (.n 1) x1) (.le x1 (.n 1000)),.lt x0 x1] (.le x0 (.n 100000)) [1,0,1,1] rfl h0 h1
theorem AR (h0:a≤b):a≤b+2:=lin [a,b] [.le x0 x1] (.le x0 (.a x1 (.n 2))) [1,1] rfl h0
theorem bt (h0:a<c) (h1:b=c):a<b:=lin [a,b,c] [.lt x0 x2,.eq x1 x2] (.lt x0 x1) [1,1,0,1] rfl h0 h1
theorem eC (h0:a<c) (h1:c≤b):a≠b:=lin [a,b,c] [.lt x0 x2,.le x2 x1] (.ne x0 x1) [0,1,1,1] rfl h0 h1
theorem g8 (h0:a≤b):a≤b+1:=lin [a,b] [.le x0 x1] (.le x0 (s1 x1)) [1,1] rfl h0
theorem kh (h0:a<b):a≠b+1:=lin [a,b] [.lt x0 x1] (.ne x0 (s1 x1)) [0,1,1] rfl h0
theorem qD (h0:b<a):a+1≠b:=lin [a,b] [.lt x1 x0] (.ne (s1 x0) x1) [1,0,1] rfl h0
theorem AS (h0:a<c) (h1:c=d) (h2:d<b):a<b:=lin [a,b,c,d] [.lt x0 x2,.eq x2 x3,.lt x3 x1] (.lt x0 x1) [1,1,1,0,1] rfl h0 h1 h2
theorem Dj (h0:a<b) (h1:a=b+1):False:=by lia
theorem AU (h0:1≤a∧a≤1000):(((a:Nat):Int)-(1:Int))=(((a-1):Nat):Int):=(Int.ofNat_sub h0.1).symm
theorem AW (h0:1≤a∧a≤1000):a-1≤100000:=Nat.le_trans (Nat.sub_le a 1) (Nat.le_trans h0.2 (by decide))
theorem Dk (h0:a<c) (h1:b=d) (h2:c<d):a<b:=lin [a,b,c,d] [.lt x0 x2,.eq x1 x3,.lt x2 x3] (.lt x0 x1) [1,1,0,1,1] rfl h0 h1 h2
theorem vo (h0:1≤b∧b≤1000) (h1:a<b-1):a<((2:Nat) ^ 62):=Nat.lt_of_lt_of_le (Nat.lt_of_lt_pred h1) (Nat.le_trans h0.2 (by decide))
theorem Dl (h0:1≤b∧b≤1000) (h1:a=b):a≤100000:=lin [a,b] [.nd (.le (.n 1) x1) (.le x1 (.n 1000)),.eq x0 x1] (.le x0 (.n 100000)) [1,0,1,1] rfl h0 h1
theorem Dm (h0:1≤a∧a≤1000):a≤1001+b:=lin [a,b] [.nd (.le (.n 1) x0) (.le x0 (.n 1000))] (.le x0 (.a (.n 1001) x1)) [1,0,1] rfl h0
theorem AX (h0:a<b) (h1:¬ (a<(b-1))):a=b-1:=Nat.le_antisymm (Nat.le_sub_one_of_lt h0) (Nat.not_lt.mp h1)
theorem vp (h0:a+(b-c)≤1001):a≤100000:=lin [a,b,c,(b-c)] [.le (.a x0 x3) (.n 1001)] (.le x0 (.n 100000)) [1,1] rfl h0
theorem Dn (h0:c<a-1) (h1:c<b):a-b<a-c:=Nat.sub_lt_sub_left (Nat.lt_of_lt_pred h0) h1
theorem Dp (h0:a+(b-d)≤1001) (h1:d<b) (h2:d<c):a+1+(b-c)≤1001:=Nat.le_trans (by rw[Nat.add_assoc,Nat.add_comm 1];exact Nat.add_le_add_left (Nat.sub_lt_sub_left h1 h2) a) h0
theorem AY (h0:b<a):a+1+1≠b:=lin [a,b] [.lt x1 x0] (.ne (.a (s1 x0) (.n 1)) x1) [1,0,1] rfl h0
theorem Dq (h0:b<a):a+1+1+1≠b:=lin [a,b] [.lt x1 x0] (.ne (.a (.a (s1 x0) (.n 1)) (.n 1)) x1) [1,0,1] rfl h0
theorem Dr:a≠a+1+1+1:=lin [a] [] (.ne x0 (.a (.a (s1 x0) (.n 1)) (.n 1))) [0,1] rfl
theorem Ds:a+1+1+1≠a+1+1+1+1:=lin [a] [] (.ne (.a (.a (s1 x0) (.n 1)) (.n 1)) (.a (.a (.a (s1 x0) (.n 1)) (.n 1)) (.n 1))) [0,1] rfl
theorem Dt:a≠a+1+1+1+1:=lin [a] [] (.ne x0 (.a (.a (.a (s1 x0) (.n 1)) (.n 1)) (.n 1))) [0,1] rfl
theorem AZ (h0:a<b):a≠b+1+1+1:=lin [a,b] [.lt x0 x1] (.ne x0 (.a (.a (s1 x1) (.n 1)) (.n 1))) [0,1,1] rfl h0
theorem A0 (h0:a<b):a≠b+1+1+1+1:=lin [a,b] [.lt x0 x1] (.ne x0 (.a (.a (.a (s1 x1) (.n 1)) (.n 1)) (.n 1))) [0,1,1] rfl h0
theorem Du:a+1≠a+1+1+1:=lin [a] [] (.ne (s1 x0) (.a (.a (s1 x0) (.n 1)) (.n 1))) [0,1] rfl
theorem Dv:a+1≠a+1+1+1+1:=lin [a] [] (.ne (s1 x0) (.a (.a (.a (s1 x0) (.n 1)) (.n 1)) (.n 1))) [0,1] rfl
theorem Dw:a+1+1≠a:=lin [a] [] (.ne (.a (s1 x0) (.n 1)) x0) [1] rfl
theorem Dx:a+1+1≠a+1+1+1:=lin [a] [] (.ne (.a (s1 x0) (.n 1)) (.a (.a (s1 x0) (.n 1)) (.n 1))) [0,1] rfl
theorem Dy:a+1+1≠a+1+1+1+1:=lin [a] [] (.ne (.a (s1 x0) (.n 1)) (.a (.a (.a (s1 x0) (.n 1)) (.n 1)) (.n 1))) [0,1] rfl
theorem Dz:a+1≠a+1+1:=lin [a] [] (.ne (s1 x0) (.a (s1 x0) (.n 1))) [0,1] rfl
theorem A9 (h0:a<b):a≠b+1+1:=lin [a,b] [.lt x0 x1] (.ne x0 (.a (s1 x1) (.n 1))) [0,1,1] rfl h0
theorem tQ:a≠a+1:=lin [a] [] (.ne x0 (s1 x0)) [0,1] rfl
theorem EA:a≠a+1+1:=lin [a] [] (.ne x0 (.a (s1 x0) (.n 1))) [0,1] rfl
theorem EB:a+1+1+1≠a+1:=lin [a] [] (.ne (.a (.a (s1 x0) (.n 1)) (.n 1)) (s1 x0)) [1] rfl
theorem EC:a+1+1+1≠a+1+1:=lin [a] [] (.ne (.a (.a (s1 x0) (.n 1)) (.n 1)) (.a (s1 x0) (.n 1))) [1] rfl
theorem ED:a+1+1+1+1≠a+1:=lin [a] [] (.ne (.a (.a (.a (s1 x0) (.n 1)) (.n 1)) (.n 1)) (s1 x0)) [1] rfl
theorem EE:a+1+1+1+1≠a+1+1:=lin [a] [] (.ne (.a (.a (.a (s1 x0) (.n 1)) (.n 1)) (.n 1)) (.a (s1 x0) (.n 1))) [1] rfl
theorem jT:35≤40:=lin [] [] (.le (.n 35) (.n 40)) [1] rfl
theorem EF (h0:a+b≤2):a≤2:=lin [a,b] [.le (.a x0 x1) (.n 2)] (.le x0 (.n 2)) [1,1] rfl h0
theorem Aa (h0:a≤2):a≤1000:=lin [a] [.le x0 (.n 2)] (.le x0 (.n 1000)) [1,1] rfl h0
theorem l7 (h0:a≤2):a≤100000:=lin [a] [.le x0 (.n 2)] (.le x0 (.n 100000)) [1,1] rfl h0
theorem Ab (h0:a≤1000):a≤1000:=lin [a] [.le x0 (.n 1000)] (.le x0 (.n 1000)) [1,1] rfl h0
theorem EG (h0:a<c) (h1:c≤2):min a b≤2:=Nat.le_trans (Nat.min_le_left a b) (Nat.le_trans (Nat.le_of_lt h0) h1)
theorem Ac (h0:a=b) (h1:b≤2):a≤100000:=lin [a,b] [.eq x0 x1,.le x1 (.n 2)] (.le x0 (.n 100000)) [1,1,0,1] rfl h0 h1
theorem tR (h0:1≤b∧b≤1000) (h1:a<c) (h2:c=b):a<((2:Nat) ^ 62):=lin [b,a,c] [.le x0 (.n 1000),.lt x1 x2,.eq x2 x0] (.lt x1 (.n (2 ^ 62))) [1,1,1,1] rfl (h0).2 h1 h2
theorem nh:0<((2:Nat) ^ 62):=by decide
theorem Ad (h0:a<b) (h1:b≤1000):a≤99999:=lin [a,b] [.lt x0 x1,.le x1 (.n 1000)] (.le x0 (.n 99999)) [1,1,1] rfl h0 h1
theorem tT (h0:b=a+1):a<b:=lin [a,b] [.eq x1 (s1 x0)] (.lt x0 x1) [1,0,1] rfl h0
theorem vq:0<a+1:=lin [a] [] (.lt (.n 0) (s1 x0)) [1] rfl
theorem vt (h0:a+1<b):a+1≠b:=lin [a,b] [.lt (s1 x0) x1] (.ne (s1 x0) x1) [0,1,1] rfl h0
theorem EH:(((a:Nat):Int)+(1:Int))=(((a+1):Nat):Int):=rfl
theorem EI (h0:a<b):a+1<b+1:=lin [a,b] [.lt x0 x1] (.lt (s1 x0) (s1 x1)) [1,1] rfl h0
theorem EJ (h0:a<b) (h1:b≤1000):a+1<((2:Nat) ^ 62):=lin [a,b] [.lt x0 x1,.le x1 (.n 1000)] (.lt (s1 x0) (.n (2 ^ 62))) [1,1,1] rfl h0 h1
theorem EK (h0:a=b+1) (h1:b<c) (h2:c≤1000):a≤100000:=lin [a,b,c] [.eq x0 (s1 x1),.lt x1 x2,.le x2 (.n 1000)] (.le x0 (.n 100000)) [1,1,0,1,1] rfl h0 h1 h2
theorem ki (h0:a≤b):a≤b:=lin [a,b] [.le x0 x1] (.le x0 x1) [1,1] rfl h0
theorem aj (h0:a+1≤b):a≤b:=lin [a,b] [.le (s1 x0) x1] (.le x0 x1) [1,1] rfl h0
theorem kj:0≤a:=lin [a] [] (.le (.n 0) x0) [1] rfl
theorem bU (h0:a+1≤b):a<b:=lin [a,b] [.le (s1 x0) x1] (.lt x0 x1) [1,1] rfl h0
theorem Ae:¬ ((a<a)∨((a=a)∧(b<b))):=fun h=>h.elim (Nat.lt_irrefl a) fun h=>Nat.lt_irrefl b h.2
theorem Af (h0:(a<b)∨((a=b)∧(c<(d+1)))) (h1:¬ ((a=b)∧(c=d))):(a<b)∨((a=b)∧(c<d)):=h0.imp_right fun h=>⟨h.1,Nat.lt_of_le_of_ne (Nat.le_of_lt_succ h.2) fun e=>h1 ⟨h.1,e⟩⟩
theorem Ag (h0:¬ ((a<b)∨((a=b)∧(c<(d+1))))):¬ ((a<b)∨((a=b)∧(c<d))):=fun h=>h0 (h.imp_right fun h=>⟨h.1,Nat.lt_succ_of_lt h.2⟩)
theorem EL (h0:a≤1000 * b+c):a≤1000 * b+(c+1):=lin [a,b,c] [.le x0 (.a (.m 1000 x1) x2)] (.le x0 (.a (.m 1000 x1) (s1 x2))) [1,1] rfl h0
theorem EM (h0:((b:Nat):Int)=((a:Nat):Int)∧((d:Nat):Int)=((c:Nat):Int)):a=b∧c=d:=⟨Int.ofNat_inj.mp h0.1.symm,Int.ofNat_inj.mp h0.2.symm⟩
theorem EN (h0:a≤1000 * b+c):a+1≤1000 * b+(c+1):=lin [a,b,c] [.le x0 (.a (.m 1000 x1) x2)] (.le (s1 x0) (.a (.m 1000 x1) (s1 x2))) [1,1] rfl h0
theorem EO (h0:a=b∧c=d) (h1:a<b):False:=by lia
theorem EP (h0:(a<b)∨((a=b)∧(c<(d+1)))) (h1:e=b∧f=d) (h2:e<a):False:=have k:b<a:=h1.1▸h2;h0.elim (Nat.lt_asymm k) fun h=>Nat.ne_of_gt k h.1
theorem EQ (h0:((b:Nat):Int)=((a:Nat):Int)∧((d:Nat):Int)=((c:Nat):Int)):(a<b)∨((a=b)∧(c<(d+1))):=.inr ⟨Int.ofNat_inj.mp h0.1.symm,Nat.lt_succ_of_le (Nat.le_of_eq (Int.ofNat_inj.mp h0.2.symm))⟩
theorem vu (h0:a≤10000000):a≤16777216:=lin [a] [.le x0 (.n 10000000)] (.le x0 (.n 16777216)) [1,1] rfl h0
theorem ER (h0:(a<0)∨((a=0)∧(b<0))):False:=h0.elim (Nat.not_lt_zero a) fun h=>Nat.not_lt_zero b h.2
theorem ES (h0:a=b+1):a≤b+1:=lin [a,b] [.eq x0 (s1 x1)] (.le x0 (s1 x1)) [1,1] rfl h0
theorem ET (h0:1≤b∧b≤1000) (h1:1≤c∧c≤1000) (h2:a≤1000 * d+e) (h3:d<b) (h4:e<c):a≤10000000:=lin [a,b,c,d,e] [.nd (.le (.n 1) x1) (.le x1 (.n 1000)),.nd (.le (.n 1) x2) (.le x2 (.n 1000)),.le x0 (.a (.m 1000 x3) x4),.lt x3 x1,.lt x4 x2] (.le x0 (.n 10000000)) [1,0,1000,0,1,1,1000,1] rfl h0 h1 h2 h3 h4
theorem EU (h0:¬ ((a<(b+1))∨((a=(b+1))∧(c<0)))):¬ ((a<b)∨((a=b)∧(c<d))):=fun h=>h0 (.inl (h.elim Nat.lt_succ_of_lt fun h=>Nat.lt_succ_of_le (Nat.le_of_eq h.1)))
theorem EV (h0:1≤c∧c≤1000) (h1:a≤1000 * b+c):a≤1000 * (b+1)+0:=lin [a,b,c] [.nd (.le (.n 1) x2) (.le x2 (.n 1000)),.le x0 (.a (.m 1000 x1) x2)] (.le x0 (.a (.m 1000 (s1 x1)) (.n 0))) [1,0,1,1] rfl h0 h1
theorem EW (h0:(a<(b+1))∨((a=(b+1))∧(c<0))) (h1:c<d) (h2:¬ ((a<b)∨((a=b)∧(c<d)))):False:=h0.elim (fun h=>h2 ((Nat.lt_or_eq_of_le (Nat.le_of_lt_succ h)).imp_right fun e=>⟨e,h1⟩)) fun h=>Nat.not_lt_zero c h.2
theorem EX (h0:a≤1000) (h1:b≤1000):a+b≤2000:=lin [a,b] [.le x0 (.n 1000),.le x1 (.n 1000)] (.le (.a x0 x1) (.n 2000)) [1,1,1] rfl h0 h1
theorem EY (h0:a≤c) (h1:b=c+1):a<b:=lin [a,b,c] [.le x0 x2,.eq x1 (s1 x2)] (.lt x0 x1) [1,1,0,1] rfl h0 h1
theorem vv (h0:a≤b) (h1:b≤1000):a<((2:Nat) ^ 62):=lin [a,b] [.le x0 x1,.le x1 (.n 1000)] (.lt x0 (.n (2 ^ 62))) [1,1,1] rfl h0 h1
theorem tU (h0:a≤b):a<b+1:=lin [a,b] [.le x0 x1] (.lt x0 (s1 x1)) [1,1] rfl h0
theorem EZ (h0:a+(b+c)≤2000):a≤100000:=lin [a,b,c] [.le (.a x0 (.a x1 x2)) (.n 2000)] (.le x0 (.n 100000)) [1,1] rfl h0
theorem E0 (h0:a+(0+0)≤2000):a≤100000:=lin [a] [.le (.a x0 (.a (.n 0) (.n 0))) (.n 2000)] (.le x0 (.n 100000)) [1,1] rfl h0
theorem E1:0+a<0+(a+1):=lin [a] [] (.lt (.a (.n 0) x0) (.a (.n 0) (s1 x0))) [1] rfl
theorem E2 (h0:a+(0+(b+1))≤2000):a+1+b≤2000:=lin [a,b] [.le (.a x0 (.a (.n 0) (s1 x1))) (.n 2000)] (.le (.a (s1 x0) x1) (.n 2000)) [1,1] rfl h0
theorem vy (h0:0=a+1):False:=Nat.noConfusion h0
theorem E3 (h0:b+((a+1)+0)≤2000):a<((2:Nat) ^ 62):=lin [b,a] [.le (.a x0 (.a (s1 x1) (.n 0))) (.n 2000)] (.lt x1 (.n (2 ^ 62))) [1,1] rfl h0
theorem E4:a+0<a+1+0:=lin [a] [] (.lt (.a x0 (.n 0)) (.a (s1 x0) (.n 0))) [1] rfl
theorem E5 (h0:a+((b+1)+0)≤2000):a+1+b≤2000:=lin [a,b] [.le (.a x0 (.a (s1 x1) (.n 0))) (.n 2000)] (.le (.a (s1 x0) x1) (.n 2000)) [1,1] rfl h0
theorem vz (h0:b+((a+1)+(c+1))≤2000):a<((2:Nat) ^ 62):=by lia
theorem Ah (h0:b+((c+1)+(a+1))≤2000):a<((2:Nat) ^ 62):=lin [b,c,a] [.le (.a x0 (.a (s1 x1) (s1 x2))) (.n 2000)] (.lt x2 (.n (2 ^ 62))) [1,1] rfl h0
theorem nj (h0:a+1=b+1):a=b:=Nat.le_antisymm (lin [a,b] [.eq (s1 x0) (s1 x1)] (.le x0 x1) [1,1] rfl h0) (lin [a,b] [.eq (s1 x0) (s1 x1)] (.le x1 x0) [1,0,1] rfl h0)
theorem Ai:a+(b+1)<a+1+(b+1):=lin [a,b] [] (.lt (.a x0 (s1 x1)) (.a (s1 x0) (s1 x1))) [1] rfl
theorem nq (h0:a+1≤b):a+1≤b:=lin [a,b] [.le (s1 x0) x1] (.le (s1 x0) x1) [1,1] rfl h0
theorem Aj (h0:a+((b+1)+(c+1))≤2000):a+1+(b+(c+1))≤2000:=lin [a,b,c] [.le (.a x0 (.a (s1 x1) (s1 x2))) (.n 2000)] (.le (.a (s1 x0) (.a x1 (s1 x2))) (.n 2000)) [1,1] rfl h0
theorem Ak:a+1+b<a+1+(b+1):=lin [a,b] [] (.lt (.a (s1 x0) x1) (.a (s1 x0) (s1 x1))) [1] rfl
theorem Al (h0:a+((b+1)+(c+1))≤2000):a+1+((b+1)+c)≤2000:=lin [a,b,c] [.le (.a x0 (.a (s1 x1) (s1 x2))) (.n 2000)] (.le (.a (s1 x0) (.a (s1 x1) x2)) (.n 2000)) [1,1] rfl h0
theorem E6 (h0:a+1≤b):a<b+1:=lin [a,b] [.le (s1 x0) x1] (.lt x0 (s1 x1)) [1,1] rfl h0
theorem E7:a+b<a+1+(b+1):=lin [a,b] [] (.lt (.a x0 x1) (.a (s1 x0) (s1 x1))) [1] rfl
theorem E8 (h0:a+((b+1)+(c+1))≤2000):a+1+(b+c)≤2000:=lin [a,b,c] [.le (.a x0 (.a (s1 x1) (s1 x2))) (.n 2000)] (.le (.a (s1 x0) (.a x1 x2)) (.n 2000)) [1,1] rfl h0
theorem E9 (h0:a<a):False:=Nat.lt_irrefl a h0
theorem Ea (h0:a≤b):a≤b+c:=lin [a,b,c] [.le x0 x1] (.le x0 (.a x1 x2)) [1,1] rfl h0
theorem Eb (h0:1≤b∧b≤1000) (h1:a=b-1):a<b:=Nat.lt_of_le_of_lt (Nat.le_of_eq h1) (Nat.sub_one_lt_of_lt h0.1)
theorem Ec:a+1+b=a+(b+1):=Nat.le_antisymm (lin [a,b] [] (.le (.a (s1 x0) x1) (.a x0 (s1 x1))) [1] rfl) (lin [a,b] [] (.le (.a x0 (s1 x1)) (.a (s1 x0) x1)) [1] rfl)
theorem Ed (h0:a+(b+(e+0))≤d) (h1:c≤f) (h2:e=1+f):a+(0+1)+(b+c)≤d:=lin [a,b,c,d,e,f] [.le (.a x0 (.a x1 (.a x4 (.n 0)))) x3,.le x2 x5,.eq x4 (.a (.n 1) x5)] (.le (.a (.a x0 (.a (.n 0) (.n 1))) (.a x1 x2)) x3) [1,1,1,0,1] rfl h0 h1 h2
theorem Ee (h0:((a:Nat):Int)=((b:Nat):Int)∧((c:Nat):Int)=((d:Nat):Int)):a=b∧c=d:=⟨Int.ofNat_inj.mp h0.1,Int.ofNat_inj.mp h0.2⟩
theorem wD (h0:a<c) (h1:c<b):a≠b:=lin [a,b,c] [.lt x0 x2,.lt x2 x1] (.ne x0 x1) [0,1,1,1] rfl h0 h1
theorem Ef (h0:a≤b+c):a+1≤b+1+(c+1):=lin [a,b,c] [.le x0 (.a x1 x2)] (.le (s1 x0) (.a (s1 x1) (s1 x2))) [1,1] rfl h0
theorem Eg (h0:a≤b+c):a+1≤b+1+c:=lin [a,b,c] [.le x0 (.a x1 x2)] (.le (s1 x0) (.a (s1 x1) x2)) [1,1] rfl h0
theorem Eh (h0:a≤b+c):a+1≤b+(c+1):=lin [a,b,c] [.le x0 (.a x1 x2)] (.le (s1 x0) (.a x1 (s1 x2))) [1,1] rfl h0
theorem Ei (h0:a+1≤b+c) (h1:d+(b+c)≤e) (h2:e≤1000):a≤10000:=lin [a,b,c,d,e] [.le (s1 x0) (.a x1 x2),.le (.a x3 (.a x1 x2)) x4,.le x4 (.n 1000)] (.le x0 (.n 10000)) [1,1,1,1] rfl h0 h1 h2
theorem Ej (h0:b+c≤d) (h1:a=b) (h2:d≤1000):a≤16777216:=lin [a,b,c,d] [.le (.a x1 x2) x3,.eq x0 x1,.le x3 (.n 1000)] (.le x0 (.n 16777216)) [1,1,1,0,1] rfl h0 h1 h2
theorem Am (h0:a<c) (h1:b=d) (h2:d=c):a<b:=lin [a,b,c,d] [.lt x0 x2,.eq x1 x3,.eq x3 x2] (.lt x0 x1) [1,1,0,1,0,1] rfl h0 h1 h2
theorem wE (h0:a<b) (h1:b≤a):False:=Nat.not_lt.mpr h1 h0
theorem Ek:a≤a+0:=lin [a] [] (.le x0 (.a x0 (.n 0))) [1] rfl
theorem An:min a b≤b:=Nat.min_le_right a b
theorem El (h0:c≤1000) (h1:d≤1000) (h2:e≤1000) (h3:f≤d+e) (h4:b≤g) (h5:g≤f) (h6:a+1≤i+j) (h7:k+(i+j)≤c):a+b≤100000:=lin [a,b,c,d,e,f,g,i,j,k] [.le x2 (.n 1000),.le x3 (.n 1000),.le x4 (.n 1000),.le x5 (.a x3 x4),.le x1 x6,.le x6 x5,.le (s1 x0) (.a x7 x8),.le (.a x9 (.a x7 x8)) x2] (.le (.a x0 x1) (.n 100000)) [1,1,1,1,1,1,1,1,1] rfl h0 h1 h2 h3 h4 h5 h6 h7
theorem Ao (h0:a≤b+c):a≤b+(c+1):=lin [a,b,c] [.le x0 (.a x1 x2)] (.le x0 (.a x1 (s1 x2))) [1,1] rfl h0
theorem tV (h0:a<b):a<b:=lin [a,b] [.lt x0 x1] (.lt x0 x1) [1,1] rfl h0
theorem Em (h0:a<c) (h1:c≤d) (h2:d<b):a<b:=lin [a,b,c,d] [.lt x0 x2,.le x2 x3,.lt x3 x1] (.lt x0 x1) [1,1,1,1] rfl h0 h1 h2
theorem En (h0:b≤2000 * c) (h1:d≤1000) (h2:c+e≤d) (h3:f≤1000) (h4:g≤1000) (h5:i≤f+g) (h6:a≤b+j) (h7:j<i):a≤10000000:=lin [a,b,c,d,e,f,g,i,j] [.le x1 (.m 2000 x2),.le x3 (.n 1000),.le (.a x2 x4) x3,.le x5 (.n 1000),.le x6 (.n 1000),.le x7 (.a x5 x6),.le x0 (.a x1 x8),.lt x8 x7] (.le x0 (.n 10000000)) [1,1,2000,2000,1,1,1,1,1] rfl h0 h1 h2 h3 h4 h5 h6 h7
theorem Eo (h0:b<c) (h1:c<d) (h2:d≤a):a≠b:=lin [a,b,c,d] [.lt x1 x2,.lt x2 x3,.le x3 x0] (.ne x0 x1) [1,0,1,1,1] rfl h0 h1 h2
theorem Ep (h0:a≤b) (h1:b≤c) (h2:c≤d+e) (h3:d≤1000) (h4:e≤1000):a≤100000:=lin [a,b,c,d,e] [.le x0 x1,.le x1 x2,.le x2 (.a x3 x4),.le x3 (.n 1000),.le x4 (.n 1000)] (.le x0 (.n 100000)) [1,1,1,1,1,1] rfl h0 h1 h2 h3 h4
theorem Er (h0:a≤d+1) (h1:d≤b+c):a≤b+(c+1):=lin [a,b,c,d] [.le x0 (s1 x3),.le x3 (.a x1 x2)] (.le x0 (.a x1 (s1 x2))) [1,1,1] rfl h0 h1
theorem Es (h0:b+(c+d)≤a) (h1:e+1≤c+d):a-(b+1)<a-b:=Nat.sub_lt_sub_left (Nat.lt_of_lt_of_le (Nat.lt_add_of_pos_right (Nat.lt_of_lt_of_le (Nat.succ_pos e) h1)) h0) (Nat.lt_succ_self b)
theorem Et (h0:a≤c+d) (h1:c≤2000 * b) (h2:d≤e+f) (h3:e≤1000) (h4:f≤1000):a≤2000 * (b+1):=lin [a,b,c,d,e,f] [.le x0 (.a x2 x3),.le x2 (.m 2000 x1),.le x3 (.a x4 x5),.le x4 (.n 1000),.le x5 (.n 1000)] (.le x0 (.m 2000 (s1 x1))) [1,1,1,1,1,1] rfl h0 h1 h2 h3 h4
theorem Eu (h0:a=b):a=b:=Nat.le_antisymm (lin [a,b] [.eq x0 x1] (.le x0 x1) [1,1] rfl h0) (lin [a,b] [.eq x0 x1] (.le x1 x0) [1,0,1] rfl h0)
theorem Ev (h0:((b:Nat):Int)=((a:Nat):Int)):a=b:=Int.ofNat_inj.mp h0.symm
theorem Ap (h0:((a:Nat):Int)=((b:Nat):Int)):a=b:=Int.ofNat_inj.mp h0
theorem tW (h0:1≤a∧a≤1000):a-1<a:=Nat.sub_one_lt_of_lt h0.1
theorem tX:36≤39:=lin [] [] (.le (.n 36) (.n 39)) [1] rfl
theorem Ew (h0:a≤1000) (h1:b≤1000):a+b≤100000:=lin [a,b] [.le x0 (.n 1000),.le x1 (.n 1000)] (.le (.a x0 x1) (.n 100000)) [1,1,1] rfl h0 h1
theorem jU (h0:a≤100):a≤100000:=lin [a] [.le x0 (.n 100)] (.le x0 (.n 100000)) [1,1] rfl h0
theorem wG (h0:a≤100):a≤1000:=lin [a] [.le x0 (.n 100)] (.le x0 (.n 1000)) [1,1] rfl h0
theorem Ex (h0:a≤100) (h1:b≤100):a+b≤100000:=lin [a,b] [.le x0 (.n 100),.le x1 (.n 100)] (.le (.a x0 x1) (.n 100000)) [1,1,1] rfl h0 h1
theorem Aq (h0:a≤100) (h1:b≤100) (h2:c≤100):a+(b+c)≤100000:=lin [a,b,c] [.le x0 (.n 100),.le x1 (.n 100),.le x2 (.n 100)] (.le (.a x0 (.a x1 x2)) (.n 100000)) [1,1,1,1] rfl h0 h1 h2
theorem Ey (h0:a≤100) (h1:b≤100) (h2:c≤100):a+(b+c)≤1000:=lin [a,b,c] [.le x0 (.n 100),.le x1 (.n 100),.le x2 (.n 100)] (.le (.a x0 (.a x1 x2)) (.n 1000)) [1,1,1,1] rfl h0 h1 h2
theorem Ar (h0:b+1<a):a≠b:=lin [a,b] [.lt (s1 x1) x0] (.ne x0 x1) [1,0,1] rfl h0
theorem As (h0:b+1<a):a≠b+1:=lin [a,b] [.lt (s1 x1) x0] (.ne x0 (s1 x1)) [1,0,1] rfl h0
theorem Au (h0:a<c) (h1:c≤2):min a b≤100:=Nat.le_trans (Nat.min_le_left a b) (Nat.le_trans (Nat.le_of_lt h0) (Nat.le_trans h1 (by decide)))
theorem Ez (h0:a+1<b):a≠b:=lin [a,b] [.lt (s1 x0) x1] (.ne x0 x1) [0,1,1] rfl h0
theorem FB (h0:a<c) (h1:c≤b):a≠b+1:=lin [a,b,c] [.lt x0 x2,.le x2 x1] (.ne x0 (s1 x1)) [0,1,1,1] rfl h0 h1
theorem FC (h0:a=b) (h1:b≤c) (h2:c≤d) (h3:d≤12):a≤12:=lin [a,b,c,d] [.eq x0 x1,.le x1 x2,.le x2 x3,.le x3 (.n 12)] (.le x0 (.n 12)) [1,1,0,1,1,1] rfl h0 h1 h2 h3
theorem FD (h0:a≤b+c) (h1:b≤12) (h2:c≤12):a≤24:=lin [a,b,c] [.le x0 (.a x1 x2),.le x1 (.n 12),.le x2 (.n 12)] (.le x0 (.n 24)) [1,1,1,1] rfl h0 h1 h2
theorem FE (h0:a≤b) (h1:b≤24):a≤40:=lin [a,b] [.le x0 x1,.le x1 (.n 24)] (.le x0 (.n 40)) [1,1,1] rfl h0 h1
theorem wH (h0:(b-1)-a≤0) (h1:a<b):a=b-1:=Nat.le_antisymm (Nat.le_sub_one_of_lt h1) (Nat.sub_eq_zero_iff_le.mp (Nat.le_zero.mp h0))
theorem wJ (h0:a<b) (h1:¬ (a=(b-1))):a<b-1:=Nat.lt_of_le_of_ne (Nat.le_sub_one_of_lt h0) h1
theorem wO (h0:(a-1)-d≤c+1) (h1:d<b):(a-1)-b≤c:=Nat.le_trans (Nat.sub_le_sub_left h1 (a-1)) (Nat.pred_le_pred h0)
theorem FG (h0:b=a):a≤b:=lin [a,b] [.eq x1 x0] (.le x0 x1) [1,0,1] rfl h0
theorem FH (h0:a<c) (h1:b=c):a≠b:=lin [a,b,c] [.lt x0 x2,.eq x1 x2] (.ne x0 x1) [0,1,1,0,1] rfl h0 h1
theorem Av (h0:a≤40):a≤80:=lin [a] [.le x0 (.n 40)] (.le x0 (.n 80)) [1,1] rfl h0
theorem FI (h0:a≤40) (h1:b≤40):a+b≤80:=lin [a,b] [.le x0 (.n 40),.le x1 (.n 40)] (.le (.a x0 x1) (.n 80)) [1,1,1] rfl h0 h1
theorem FJ (h0:c≤1∧g≤1000) (h1:a≤81 * d) (h2:b≤80) (h3:e≤1001 * d) (h4:f≤1):a+b+c≤81 * (d+1)∧e+f+g≤1001 * (d+1):=⟨lin [a,b,c,d,e,f,g] [.nd (.le x2 (.n 1)) (.le x6 (.n 1000)),.le x0 (.m 81 x3),.le x1 (.n 80),.le x4 (.m 1001 x3),.le x5 (.n 1)] (.le (.a (.a x0 x1) x2) (.m 81 (s1 x3))) [1,1,0,1,1] rfl h0 h1 h2 h3 h4,lin [a,b,c,d,e,f,g] [.nd (.le x2 (.n 1)) (.le x6 (.n 1000)),.le x0 (.m 81 x3),.le x1 (.n 80),.le x4 (.m 1001 x3),.le x5 (.n 1)] (.le (.a (.a x4 x5) x6) (.m 1001 (s1 x3))) [1,0,1,0,0,1,1] rfl h0 h1 h2 h3 h4⟩
theorem FK (h0:a≤81 * c) (h1:b≤80) (h2:d≤1001 * c) (h3:e≤1):a+b+0≤81 * (c+1)∧d+e+0≤1001 * (c+1):=⟨lin [a,b,c,d,e] [.le x0 (.m 81 x2),.le x1 (.n 80),.le x3 (.m 1001 x2),.le x4 (.n 1)] (.le (.a (.a x0 x1) (.n 0)) (.m 81 (s1 x2))) [1,1,1] rfl h0 h1 h2 h3,lin [a,b,c,d,e] [.le x0 (.m 81 x2),.le x1 (.n 80),.le x3 (.m 1001 x2),.le x4 (.n 1)] (.le (.a (.a x3 x4) (.n 0)) (.m 1001 (s1 x2))) [1,0,0,1,1] rfl h0 h1 h2 h3⟩
theorem FM (h0:a≤12):a≤100000:=lin [a] [.le x0 (.n 12)] (.le x0 (.n 100000)) [1,1] rfl h0
theorem wP (h0:a≤12):a+1≤100000:=lin [a] [.le x0 (.n 12)] (.le (s1 x0) (.n 100000)) [1,1] rfl h0
theorem Aw (h0:a≤40):a≤1000:=lin [a] [.le x0 (.n 40)] (.le x0 (.n 1000)) [1,1] rfl h0
theorem FN (h0:b≤80∧c≤1) (h1:a≤81 * d) (h2:d<e+1) (h3:e≤12):a+b≤100000:=lin [a,b,c,d,e] [.nd (.le x1 (.n 80)) (.le x2 (.n 1)),.le x0 (.m 81 x3),.lt x3 (s1 x4),.le x4 (.n 12)] (.le (.a x0 x1) (.n 100000)) [1,1,0,1,81,81] rfl h0 h1 h2 h3
theorem FO (h0:c≤80∧b≤1) (h1:a≤1001 * d) (h2:d<e+1) (h3:e≤12):a+b≤100000:=lin [a,b,c,d,e] [.nd (.le x2 (.n 80)) (.le x1 (.n 1)),.le x0 (.m 1001 x3),.lt x3 (s1 x4),.le x4 (.n 12)] (.le (.a x0 x1) (.n 100000)) [1,0,1,1,1001,1001] rfl h0 h1 h2 h3
theorem FP (h0:(((a:Nat):Int)+(1:Int))=(((b+1):Nat):Int)) (h1:b≤12):a≤100000:=Nat.le_trans (Nat.le_of_eq (Nat.succ.inj (Int.ofNat.inj h0))) (Nat.le_trans h1 (by decide))
theorem FQ (h0:a<b) (h1:b≤12):a<((2:Nat) ^ 62):=lin [a,b] [.lt x0 x1,.le x1 (.n 12)] (.lt x0 (.n (2 ^ 62))) [1,1,1] rfl h0 h1
theorem FS (h0:b≤80∧d≤1) (h1:a≤81 * e) (h2:c≤1) (h3:e<f) (h4:f≤12):a+(b+c)≤100000:=lin [a,b,c,d,e,f] [.nd (.le x1 (.n 80)) (.le x3 (.n 1)),.le x0 (.m 81 x4),.le x2 (.n 1),.lt x4 x5,.le x5 (.n 12)] (.le (.a x0 (.a x1 x2)) (.n 100000)) [1,1,0,1,1,81,81] rfl h0 h1 h2 h3 h4
theorem FT (h0:d≤80∧b≤1) (h1:a≤1001 * e) (h2:c≤1000) (h3:e<f+1) (h4:f≤12):a+(b+c)≤100000:=lin [a,b,c,d,e,f] [.nd (.le x3 (.n 80)) (.le x1 (.n 1)),.le x0 (.m 1001 x4),.le x2 (.n 1000),.lt x4 (s1 x5),.le x5 (.n 12)] (.le (.a x0 (.a x1 x2)) (.n 100000)) [1,0,1,1,1,1001,1001] rfl h0 h1 h2 h3 h4
theorem FU (h0:¬ (a<b)):¬ (((a:Nat):Int)<((b:Nat):Int)):=fun h=>h0 (Int.ofNat_lt.mp h)
theorem FV (h0:a≤11):a≤12:=lin [a] [.le x0 (.n 11)] (.le x0 (.n 12)) [1,1] rfl h0
theorem FW (h0:a≤81 * (b+1)) (h1:b≤11):a≤1000:=lin [a,b] [.le x0 (.m 81 (s1 x1)),.le x1 (.n 11)] (.le x0 (.n 1000)) [1,1,81] rfl h0 h1
theorem FX (h0:a≤1) (h1:b≤2):a+b≤100000:=lin [a,b] [.le x0 (.n 1),.le x1 (.n 2)] (.le (.a x0 x1) (.n 100000)) [1,1,1] rfl h0 h1
theorem FY (h0:a≤1) (h1:b≤2) (h2:c≤1001 * (d+1)) (h3:d≤11):a+(b+c)≤100000:=lin [a,b,c,d] [.le x0 (.n 1),.le x1 (.n 2),.le x2 (.m 1001 (s1 x3)),.le x3 (.n 11)] (.le (.a x0 (.a x1 x2)) (.n 100000)) [1,1,1,1,1001] rfl h0 h1 h2 h3
theorem FZ (h0:a≤b):a≤b+1+1:=lin [a,b] [.le x0 x1] (.le x0 (.a (s1 x1) (.n 1))) [1,1] rfl h0
theorem F8 (h0:a<b) (h1:a ≥ b-1):a=b-1:=Nat.le_antisymm (Nat.le_sub_one_of_lt h0) h1
theorem F9 (h0:a≤d+(40 * e)) (h1:b≤1) (h2:c≤40 * f):a+b+c≤d+1+(40 * (e+(f+0))):=lin [a,b,c,d,e,f] [.le x0 (.a x3 (.m 40 x4)),.le x1 (.n 1),.le x2 (.m 40 x5)] (.le (.a (.a x0 x1) x2) (.a (s1 x3) (.m 40 (.a x4 (.a x5 (.n 0)))))) [1,1,1,1] rfl h0 h1 h2
theorem qE (h0:¬ (b<a)):a≤b:=lin [a,b] [.nlt x1 x0] (.le x0 x1) [1,1] rfl h0
theorem Fa (h0:a≤c+(40 * d)) (h1:b≤1):a+b≤c+1+(40 * d):=lin [a,b,c,d] [.le x0 (.a x2 (.m 40 x3)),.le x1 (.n 1)] (.le (.a x0 x1) (.a (s1 x2) (.m 40 x3))) [1,1,1] rfl h0 h1
theorem tY (h0:a<c) (h1:c≤b):a<b:=lin [a,b,c] [.lt x0 x2,.le x2 x1] (.lt x0 x1) [1,1,1] rfl h0 h1
theorem Ax (h0:a≤1∧b≤1) (h1:1≤c):a≤1∧b≤40 * c:=⟨lin [a,b,c] [.nd (.le x0 (.n 1)) (.le x1 (.n 1)),.le (.n 1) x2] (.le x0 (.n 1)) [1,1] rfl h0 h1,lin [a,b,c] [.nd (.le x0 (.n 1)) (.le x1 (.n 1)),.le (.n 1) x2] (.le x1 (.m 40 x2)) [1,0,1,40] rfl h0 h1⟩
theorem wT (h0:a<c) (h1:c<b):a<b:=lin [a,b,c] [.lt x0 x2,.lt x2 x1] (.lt x0 x1) [1,1,1] rfl h0 h1
theorem Fb (h0:e≤12) (h1:a≤1) (h2:b≤2) (h3:c≤f+1+(40 * g)) (h4:f≤d) (h5:d≤e) (h6:d=1+g):0+1≤1∧a+b+c≤40 * d:=⟨lin [a,b,c,d,e,f,g] [.le x4 (.n 12),.le x0 (.n 1),.le x1 (.n 2),.le x2 (.a (s1 x5) (.m 40 x6)),.le x5 x3,.le x3 x4,.eq x3 (.a (.n 1) x6)] (.le (.a (.n 0) (.n 1)) (.n 1)) [1] rfl h0 h1 h2 h3 h4 h5 h6,lin [a,b,c,d,e,f,g] [.le x4 (.n 12),.le x0 (.n 1),.le x1 (.n 2),.le x2 (.a (s1 x5) (.m 40 x6)),.le x5 x3,.le x3 x4,.eq x3 (.a (.n 1) x6)] (.le (.a (.a x0 x1) x2) (.m 40 x3)) [1,1,1,1,1,1,1,0,40] rfl h0 h1 h2 h3 h4 h5 h6⟩
theorem Fc (h0:a≤b) (h1:c=1+b) (h2:c≤d) (h3:d≤12):a≤11:=lin [a,b,c,d] [.le x0 x1,.eq x2 (.a (.n 1) x1),.le x2 x3,.le x3 (.n 12)] (.le x0 (.n 11)) [1,1,0,1,1,1] rfl h0 h1 h2 h3
theorem Fd (h0:a≤40 * b) (h1:b≤c) (h2:d=1+c) (h3:d≤e) (h4:e≤12):a≤1000:=lin [a,b,c,d,e] [.le x0 (.m 40 x1),.le x1 x2,.eq x3 (.a (.n 1) x2),.le x3 x4,.le x4 (.n 12)] (.le x0 (.n 1000)) [1,1,40,0,40,40,40] rfl h0 h1 h2 h3 h4
theorem Ay (h0:b+1≤a):a≠b:=lin [a,b] [.le (s1 x1) x0] (.ne x0 x1) [1,0,1] rfl h0
theorem Az (h0:a<c) (h1:c≤b):a+1≤b:=lin [a,b,c] [.lt x0 x2,.le x2 x1] (.le (s1 x0) x1) [1,1,1] rfl h0 h1
theorem BA (h0:a≤c) (h1:c<b):a<b:=lin [a,b,c] [.le x0 x2,.lt x2 x1] (.lt x0 x1) [1,1,1] rfl h0 h1
theorem BB (h0:a<c) (h1:c≤b):¬ (a=b):=Nat.ne_of_lt (Nat.lt_of_lt_of_le h0 h1)
theorem Fe (h0:a<b+1):a≤b:=lin [a,b] [.lt x0 (s1 x1)] (.le x0 x1) [1,1] rfl h0
theorem Ff (h0:a<c+1) (h1:b=c) (h2:¬ (a=c)):a<b:=h1▸Nat.lt_of_le_of_ne (Nat.le_of_lt_succ h0) h2
theorem Fg (h0:a=b):a≤b-1+1:=Nat.le_trans (Nat.le_of_eq h0) (Nat.le_add_of_sub_le (Nat.le_refl _))
theorem wW (h0:a≤12):a≤1000:=lin [a] [.le x0 (.n 12)] (.le x0 (.n 1000)) [1,1] rfl h0
theorem wY:36≤40:=lin [] [] (.le (.n 36) (.n 40)) [1] rfl
theorem Fh (h0:a<c) (h1:c≤d) (h2:d≤b):a≠b:=lin [a,b,c,d] [.lt x0 x2,.le x2 x3,.le x3 x1] (.ne x0 x1) [0,1,1,1,1] rfl h0 h1 h2
theorem Fi {a:Int} (h0:(a).natAbs<((2:Nat) ^ 31)):(-((2:Int) ^ 64))<a:=Int.lt_of_lt_of_le (Int.neg_lt_neg (Int.lt_of_lt_of_le (Int.ofNat_lt.mpr h0) (by decide +kernel):(a.natAbs:Int)<2 ^ 64)) (Int.neg_le_of_neg_le (Int.natAbs_neg a▸Int.le_natAbs))
theorem Fj {a:Int} (h0:(a).natAbs<((2:Nat) ^ 31)):a<((2:Int) ^ 64):=Int.lt_of_le_of_lt Int.le_natAbs (Int.lt_of_lt_of_le (Int.ofNat_lt.mpr h0) (by decide +kernel))
theorem w5 {a:Int} (h0:(0:Int)<a):a≠(0:Int):=(Int.ne_of_lt h0).symm
theorem Fk {a:Int} (h0:(0:Int)<a) (h1:a<(1000:Int)):(a).natAbs<1073741824:=JY (Int.le_of_lt h0) h1 (by decide)
theorem Fn {a:Int} (h0:(0:Int)≤a) (h1:a<((2:Int) ^ 31)):(a).natAbs<((2:Nat) ^ 31):=JY h0 h1 (by decide +kernel)
theorem w6:(2147483647:Int)≠(0:Int):=by decide
theorem tZ:(0:Int)<(2147483647:Int):=by lia
theorem w7 {a:Int} (h0:(0:Int)≤a) (h1:a<(2147483647:Int)):(a).natAbs<((2:Nat) ^ 31):=JY h0 h1 (by decide +kernel)
theorem BC:(2147483629:Int)≠(0:Int):=by decide
theorem Fo:(32:Int)≠(0:Int):=by decide
theorem Fp:(((32:Int)).natAbs)<1073741824:=by decide
theorem w8 {a:Int} (h0:a<(2147483647:Int)):a<((2:Int) ^ 31):=Int.lt_trans h0 (by decide)
theorem Fq (h0:a<1000):a≤100000:=lin [a] [.lt x0 (.n 1000)] (.le x0 (.n 100000)) [1,1] rfl h0
theorem Fs (h0:0<a):(0:Int)<((a:Nat):Int):=Int.natCast_pos.mpr h0
theorem Ft (h0:a<1000):((a:Nat):Int)<(1000:Int):=Int.ofNat_lt.mpr h0
theorem Fu (h0:a<b) (h1:b<1000):a<((2:Nat) ^ 62):=lin [a,b] [.lt x0 x1,.lt x1 (.n 1000)] (.lt x0 (.n (2 ^ 62))) [1,1,1] rfl h0 h1
theorem Fv (h0:(0:Int)<((a:Nat):Int)):0<a:=Int.natCast_pos.mp h0
theorem Fw:¬ ((0:Int)<(0:Int)):=by decide
theorem Fx (h0:(40:Int)<((a:Nat):Int)):40≤a:=Nat.le_of_lt (Int.ofNat_lt.mp h0)
theorem Fy:40≤40:=lin [] [] (.le (.n 40) (.n 40)) [1] rfl
theorem Fz (h0:¬ ((40:Int)<((a:Nat):Int))):a≤40:=Nat.not_lt.mp fun h=>h0 (Int.ofNat_lt.mpr h)
theorem BD:(0:Int)<(2147483629:Int):=by decide
theorem GA {a:Int} (h0:a<(2147483629:Int)):a<(2147483647:Int):=Int.lt_trans h0 (by decide)
theorem GB:(0:Int)≤(18:Int):=by decide
theorem GC:(18:Int)≤(1000000:Int):=by decide
theorem GD (h0:a≤min b 2):a≤2:=Nat.le_trans h0 (Nat.min_le_right b 2)
theorem w9:(0:Int)<(3:Int):=by decide
theorem wa:(3:Int)<(1000:Int):=by decide
theorem GE (h0:c+(0+1)≤b) (h1:a≤d) (h2:d≤c):a≤b:=lin [a,b,c,d] [.le (.a x2 (.a (.n 0) (.n 1))) x1,.le x0 x3,.le x3 x2] (.le x0 x1) [1,1,1,1] rfl h0 h1 h2
theorem BE (h0:a≤c) (h1:c≤b):a≤b:=lin [a,b,c] [.le x0 x2,.le x2 x1] (.le x0 x1) [1,1,1] rfl h0 h1
theorem GF (h0:a+(0+1)≤b):a≤b:=lin [a,b] [.le (.a x0 (.a (.n 0) (.n 1))) x1] (.le x0 x1) [1,1] rfl h0
theorem BF (h0:¬ (a=0)):(0:Int)<((a:Nat):Int):=Int.natCast_pos.mpr (Nat.pos_of_ne_zero h0)
theorem BG:(0:Int)<(5:Int):=by decide
theorem BH:(5:Int)<(1000:Int):=by decide
theorem GG (h0:c+(0+1)≤b) (h1:a≤c):a≤b+1:=lin [a,b,c] [.le (.a x2 (.a (.n 0) (.n 1))) x1,.le x0 x2] (.le x0 (s1 x1)) [1,1,1] rfl h0 h1
theorem GH (h0:c+(0+1)≤b) (h1:a≤c):a≤b:=lin [a,b,c] [.le (.a x2 (.a (.n 0) (.n 1))) x1,.le x0 x2] (.le x0 x1) [1,1,1] rfl h0 h1
theorem GJ (h0:c+(0+1)≤b) (h1:d+(0+1)≤c) (h2:a≤d):a≤b+1:=lin [a,b,c,d] [.le (.a x2 (.a (.n 0) (.n 1))) x1,.le (.a x3 (.a (.n 0) (.n 1))) x2,.le x0 x3] (.le x0 (s1 x1)) [1,1,1,1] rfl h0 h1 h2
theorem BI (h0:c+(0+1)≤b) (h1:d+(0+1)≤c) (h2:a≤d):a≤b:=lin [a,b,c,d] [.le (.a x2 (.a (.n 0) (.n 1))) x1,.le (.a x3 (.a (.n 0) (.n 1))) x2,.le x0 x3] (.le x0 x1) [1,1,1,1] rfl h0 h1 h2
theorem GK (h0:a≤d) (h1:b≤c):a+b≤c+d:=lin [a,b,c,d] [.le x0 x3,.le x1 x2] (.le (.a x0 x1) (.a x2 x3)) [1,1,1] rfl h0 h1
theorem GL (h0:30≤a):a=a-3+3:=(Nat.sub_add_cancel (Nat.le_trans (by decide) h0)).symm
theorem GM (h0:30≤a+3):30≤a+4:=lin [a] [.le (.n 30) (.a x0 (.n 3))] (.le (.n 30) (.a x0 (.n 4))) [1,1] rfl h0
theorem t5 (h0:a<b) (h1:b≤100):a<((2:Nat) ^ 62):=lin [a,b] [.lt x0 x1,.le x1 (.n 100)] (.lt x0 (.n (2 ^ 62))) [1,1,1] rfl h0 h1
theorem BJ (h0:a≤b) (h1:b<c) (h2:c≤100):a≤100000:=lin [a,b,c] [.le x0 x1,.lt x1 x2,.le x2 (.n 100)] (.le x0 (.n 100000)) [1,1,1,1] rfl h0 h1 h2
theorem GN (h0:a<b+1) (h1:b<a):False:=by lia
theorem GO:1≤5:=lin [] [] (.le (.n 1) (.n 5)) [1] rfl
theorem GP:1≤2:=lin [] [] (.le (.n 1) (.n 2)) [1] rfl
theorem GQ:((((a:Nat):Int)+(1:Int))+((b:Nat):Int))=((((a+1)+b):Nat):Int):=rfl
theorem GR (h0:b<c-a):a+1+b<c+1:=by rw[Nat.add_right_comm];exact Nat.succ_lt_succ (Nat.lt_sub_iff_add_lt'.mp h0)
theorem BK (h0:b<c-a) (h1:c<3):a+1+b<((2:Nat) ^ 62):=by rw[Nat.add_right_comm];exact Nat.lt_of_le_of_lt (Nat.lt_sub_iff_add_lt'.mp h0) (Nat.lt_trans h1 (by decide))
theorem BL:a+1≤a+1+b:=lin [a,b] [] (.le (s1 x0) (.a (s1 x0) x1)) [1] rfl
theorem GS (h0:b<c-a):a+1+b≤c:=by rw[Nat.add_right_comm];exact Nat.lt_sub_iff_add_lt'.mp h0
theorem GT (h0:a≤b) (h1:b<c-d) (h2:c<3):a≤100000:=Nat.le_trans h0 (Nat.le_trans (Nat.le_of_lt h1) (Nat.le_trans (Nat.sub_le c d) (Nat.le_trans (Nat.le_of_lt h2) (by decide))))
theorem GU:36-(2 * ((a+1)+b))≤36-(2 * (a+1)):=Nat.sub_le_sub_left (Nat.mul_le_mul_left 2 (Nat.le_add_right (a+1) b)) 36
theorem GV (h0:a≤b) (h1:b<3):30≤36-(2 * (a+1)):=(by decide:∀ a<3,30≤36-(2 * (a+1))) a (Nat.lt_of_le_of_lt h0 h1)
theorem GW (h0:a≤b) (h1:b<3):36-(2 * a)=36-(2 * (a+1))+2:=(by decide:∀ a<3,36-(2 * a)=36-(2 * (a+1))+2) a (Nat.lt_of_le_of_lt h0 h1)
theorem GX (h0:a≤b) (h1:b<3):(a=0)∨((a=1)∨(a=2)):=(by decide:∀ a<3,a=0∨(a=1∨a=2)) a (Nat.lt_of_le_of_lt h0 h1)
theorem wb (h0:a<3):(a=0)∨((a=1)∨(a=2)):=(by decide:∀ a<3,a=0∨(a=1∨a=2)) a h0
theorem GY (h0:1+c≤b) (h1:a≤d) (h2:d≤c):1+a≤b:=lin [a,b,c,d] [.le (.a (.n 1) x2) x1,.le x0 x3,.le x3 x2] (.le (.a (.n 1) x0) x1) [1,1,1,1] rfl h0 h1 h2
theorem GZ (h0:((a:Nat):Int)<(3:Int)):a<3:=Int.ofNat_lt.mp h0
theorem l8 (h0:b<c) (h1:c≤a):a+1≠b:=lin [a,b,c] [.lt x1 x2,.le x2 x0] (.ne (s1 x0) x1) [1,0,1,1] rfl h0 h1
theorem G0:(-1000000:Int)≤(1:Int):=by decide
theorem G3:(1:Int)≤(1000000:Int):=by decide
theorem G4:(-1000000:Int)≤((1:Int)+((a:Nat):Int)):=Int.neg_ofNat_le_ofNat 1000000 (1+a)
theorem G5 (h0:a<3):((1:Int)+((a:Nat):Int))≤(1000000:Int):=by lia
theorem G6:(((((1:Int)+((a:Nat):Int))-(1:Int))).toNat)=a:=by rw[Int.add_comm,Int.add_sub_cancel];rfl
theorem G7:((1:Int)+((a:Nat):Int))=(((a+1):Nat):Int):=Int.add_comm 1 a
theorem t6 (h0:a<b) (h1:b<3):a+1≤100000:=lin [a,b] [.lt x0 x1,.lt x1 (.n 3)] (.le (s1 x0) (.n 100000)) [1,1,1] rfl h0 h1
theorem G8 (h0:a<b) (h1:b<3):a+1≤100:=lin [a,b] [.lt x0 x1,.lt x1 (.n 3)] (.le (s1 x0) (.n 100)) [1,1,1] rfl h0 h1
theorem G9 (h0:a≤b+1) (h1:b<c) (h2:c<3):a<1000:=lin [a,b,c] [.le x0 (s1 x1),.lt x1 x2,.lt x2 (.n 3)] (.lt x0 (.n 1000)) [1,1,1,1] rfl h0 h1 h2
theorem Ga (h0:b+(0+1)+(0+1)≤c) (h1:d+(0+1)≤e) (h2:c≤d) (h3:e≤a):a≠b:=lin [a,b,c,d,e] [.le (.a (.a x1 (.a (.n 0) (.n 1))) (.a (.n 0) (.n 1))) x2,.le (.a x3 (.a (.n 0) (.n 1))) x4,.le x2 x3,.le x4 x0] (.ne x0 x1) [1,0,1,1,1,1] rfl h0 h1 h2 h3
theorem Gb (h0:b+(0+1)+(0+1)≤c) (h1:d+(0+1)≤e) (h2:c≤d) (h3:e≤a):a≠b+1:=lin [a,b,c,d,e] [.le (.a (.a x1 (.a (.n 0) (.n 1))) (.a (.n 0) (.n 1))) x2,.le (.a x3 (.a (.n 0) (.n 1))) x4,.le x2 x3,.le x4 x0] (.ne x0 (s1 x1)) [1,0,1,1,1,1] rfl h0 h1 h2 h3
theorem Gc (h0:c≤d) (h1:b<c) (h2:d+(0+1)+(0+1)≤e) (h3:e≤f) (h4:f+(0+1)≤g) (h5:g≤a):a≠b:=lin [a,b,c,d,e,f,g] [.le x2 x3,.lt x1 x2,.le (.a (.a x3 (.a (.n 0) (.n 1))) (.a (.n 0) (.n 1))) x4,.le x4 x5,.le (.a x5 (.a (.n 0) (.n 1))) x6,.le x6 x0] (.ne x0 x1) [1,0,1,1,1,1,1,1] rfl h0 h1 h2 h3 h4 h5
theorem Gd (h0:c+(0+1)≤d) (h1:a≤c) (h2:d≤b):a≤b:=lin [a,b,c,d] [.le (.a x2 (.a (.n 0) (.n 1))) x3,.le x0 x2,.le x3 x1] (.le x0 x1) [1,1,1,1] rfl h0 h1 h2
theorem qF (h0:a<3):a+1≤100000:=lin [a] [.lt x0 (.n 3)] (.le (s1 x0) (.n 100000)) [1,1] rfl h0
theorem Ge (h0:b≤a):¬ ((a+1)≤b):=lin [a,b] [.le x1 x0] (.nle (s1 x0) x1) [1,1] rfl h0
theorem Gf (h0:b<a+1):(((a:Nat):Int)+(((b:Nat):Int) * (-1:Int)))=(((a-b):Nat):Int):=by rw[Int.ofNat_sub (Nat.le_of_lt_succ h0),Int.mul_neg,Int.mul_one];rfl
theorem Gg:a-b≤a:=Nat.sub_le a b
theorem Gh (h0:b<a+1):(a+1)-b=a-b+1:=Nat.sub_add_comm (Nat.le_of_lt_succ h0)
theorem Gi:(a+1)-(b+1)=a-b:=Nat.add_sub_add_right a 1 b
theorem Gj:(-1000000:Int)≤(((a:Nat):Int)+(1:Int)):=by lia
theorem Gk (h0:a≤b) (h1:b<3):(((a:Nat):Int)+(1:Int))≤(1000000:Int):=(Int.ofNat_le.mpr (lin [a,b] [.le (.v 0) (.v 1),.lt (.v 1) (.n 3)] (.le (.a (.v 0) (.n 1)) (.n 1000000)) [1,1,1] rfl h0 h1:a+1≤1000000) :)
theorem Gl:(-1000000:Int)≤(((a+1):Nat):Int):=Int.neg_ofNat_le_natCast 1000000 (a+1)
theorem Gm (h0:a<3):(((a+1):Nat):Int)≤(1000000:Int):=by lia
theorem Gn:((((((a+1):Nat):Int)-(((b:Nat):Int)+(1:Int)))).toNat)=a-b:=(Int.toNat_sub (a+1) (b+1)).trans (Nat.add_sub_add_right a 1 b)
theorem Go (h0:a≤b-c) (h1:b<3):a≤100000:=Nat.le_trans h0 (Nat.le_trans (Nat.sub_le b c) (Nat.le_trans (Nat.le_of_lt h1) (by decide)))
theorem Gp (h0:a≤b) (h1:b<3):a<((2:Nat) ^ 62):=by lia
theorem Gq:4≤100000:=lin [] [] (.le (.n 4) (.n 100000)) [1] rfl
theorem Gr:4+1≤100000:=lin [] [] (.le (.a (.n 4) (.n 1)) (.n 100000)) [1] rfl
theorem Gs (h0:c+(0+1)+(0+1)≤d) (h1:a≤c) (h2:d≤b):a≤b+1:=lin [a,b,c,d] [.le (.a (.a x2 (.a (.n 0) (.n 1))) (.a (.n 0) (.n 1))) x3,.le x0 x2,.le x3 x1] (.le x0 (s1 x1)) [1,1,1,1] rfl h0 h1 h2
theorem Gu (h0:a+2≤b):a+1≤b:=lin [a,b] [.le (.a x0 (.n 2)) x1] (.le (s1 x0) x1) [1,1] rfl h0
theorem Gv (h0:a<b):a+1≤b:=lin [a,b] [.lt x0 x1] (.le (s1 x0) x1) [1,1] rfl h0
theorem Gw:(a+1)-(a+1)≤0:=Nat.le_of_eq (Nat.sub_self _)
theorem Gx (h0:c+(0+1)+(0+1)≤d) (h1:e+2≤b) (h2:a≤c) (h3:d≤e):a≤b:=lin [a,b,c,d,e] [.le (.a (.a x2 (.a (.n 0) (.n 1))) (.a (.n 0) (.n 1))) x3,.le (.a x4 (.n 2)) x1,.le x0 x2,.le x3 x4] (.le x0 x1) [1,1,1,1,1] rfl h0 h1 h2 h3
theorem Gy (h0:a<3):((((a:Nat):Int)).natAbs)<((2:Nat) ^ 64):=Nat.lt_trans h0 (by decide)
theorem wc (h0:a≤1) (h1:b≤1):a+b≤100000:=lin [a,b] [.le x0 (.n 1),.le x1 (.n 1)] (.le (.a x0 x1) (.n 100000)) [1,1,1] rfl h0 h1
theorem BM (h0:¬ (a=0)):¬ (((a:Nat):Int)=(0:Int)):=Int.ofNat_ne_zero.mpr h0
theorem Gz (h0:a<b) (h1:a<c):min a b=min a c:=(Nat.min_eq_left (Nat.le_of_lt h0)).trans (Nat.min_eq_left (Nat.le_of_lt h1)).symm
theorem HA (h0:a≤b) (h1:b≤100):a≤100000:=lin [a,b] [.le x0 x1,.le x1 (.n 100)] (.le x0 (.n 100000)) [1,1,1] rfl h0 h1
theorem jV:0<3:=lin [] [] (.lt (.n 0) (.n 3)) [1] rfl
theorem HB:1<3:=lin [] [] (.lt (.n 1) (.n 3)) [1] rfl
theorem HC:2<3:=lin [] [] (.lt (.n 2) (.n 3)) [1] rfl
theorem HD (h0:c+(0+1)≤a) (h1:b<c):a≠b:=lin [a,b,c] [.le (.a x2 (.a (.n 0) (.n 1))) x0,.lt x1 x2] (.ne x0 x1) [1,0,1,1] rfl h0 h1
theorem HE (h0:c+(0+1)≤a) (h1:d+(0+1)≤c) (h2:b<d):a≠b:=lin [a,b,c,d] [.le (.a x2 (.a (.n 0) (.n 1))) x0,.le (.a x3 (.a (.n 0) (.n 1))) x2,.lt x1 x3] (.ne x0 x1) [1,0,1,1,1] rfl h0 h1 h2
theorem HF (h0:a=b) (h1:b<c) (h2:c≤100):a≤100000:=lin [a,b,c] [.eq x0 x1,.lt x1 x2,.le x2 (.n 100)] (.le x0 (.n 100000)) [1,1,0,1,1] rfl h0 h1 h2
theorem HG (h0:a+1≤c) (h1:c+(0+1)≤d) (h2:d+(0+1)≤e) (h3:e+(0+1)≤f) (h4:f≤b):a+1≤b:=lin [a,b,c,d,e,f] [.le (s1 x0) x2,.le (.a x2 (.a (.n 0) (.n 1))) x3,.le (.a x3 (.a (.n 0) (.n 1))) x4,.le (.a x4 (.a (.n 0) (.n 1))) x5,.le x5 x1] (.le (s1 x0) x1) [1,1,1,1,1,1] rfl h0 h1 h2 h3 h4
theorem HI (h0:(((a:Nat):Int)=(0:Int))∧((((b:Nat):Int)=(0:Int))∧(((c:Nat):Int)=(0:Int)))):(a=0)∧((b=0)∧(c=0)):=⟨Int.ofNat_inj.mp h0.1,Int.ofNat_inj.mp h0.2.1,Int.ofNat_inj.mp h0.2.2⟩
theorem BN (h0:((a:Nat):Int)=(0:Int)):a=0:=Int.ofNat_eq_zero.mp h0
theorem HJ (h0:¬ (((a:Nat):Int)=((b:Nat):Int))):a≠b:=fun e=>h0 (congrArg Nat.cast e)
theorem BO (h0:¬ (((a:Nat):Int)=(0:Int))):a≠0:=Int.ofNat_ne_zero.mp h0
theorem HL (h0:a=0):((a:Nat):Int)=(0:Int):=Int.ofNat_eq_zero.mpr h0
theorem BP:3≤100000:=lin [] [] (.le (.n 3) (.n 100000)) [1] rfl
theorem HM:(0:Int)≤(4:Int):=by decide
theorem BQ:6≤36:=lin [] [] (.le (.n 6) (.n 36)) [1] rfl
theorem t7 (h0:a+1≤c) (h1:c=b):a<b:=lin [a,b,c] [.le (s1 x0) x2,.eq x2 x1] (.lt x0 x1) [1,1,1] rfl h0 h1
theorem HN:36≤37:=lin [] [] (.le (.n 36) (.n 37)) [1] rfl
theorem HO (h0:a≤1) (h1:b≤1) (h2:c≤1):a+b+c≤3:=lin [a,b,c] [.le x0 (.n 1),.le x1 (.n 1),.le x2 (.n 1)] (.le (.a (.a x0 x1) x2) (.n 3)) [1,1,1,1] rfl h0 h1 h2
theorem HP (h0:a≤c) (h1:b≤1) (h2:d≤3 * c) (h3:e≤3):a+b≤c+1∧d+e≤3 * (c+1):=⟨lin [a,b,c,d,e] [.le x0 x2,.le x1 (.n 1),.le x3 (.m 3 x2),.le x4 (.n 3)] (.le (.a x0 x1) (s1 x2)) [1,1,1] rfl h0 h1 h2 h3,lin [a,b,c,d,e] [.le x0 x2,.le x1 (.n 1),.le x3 (.m 3 x2),.le x4 (.n 3)] (.le (.a x3 x4) (.m 3 (s1 x2))) [1,0,0,1,1] rfl h0 h1 h2 h3⟩
theorem HQ:(0:Int)≤((1:Int)+((a:Nat):Int)):=Int.zero_le_ofNat (1+a)
theorem HS (h0:((a:Nat):Int)<(3:Int)):((1:Int)+((a:Nat):Int))≤(3:Int):=by rw[Int.add_comm];exact h0
theorem HT:min (1+a) 3≤3:=Nat.min_le_right _ _
theorem HU (h0:a+(0+1)≤b):a≤b+1:=lin [a,b] [.le (.a x0 (.a (.n 0) (.n 1))) x1] (.le x0 (s1 x1)) [1,1] rfl h0
theorem HV:((((1:Int)+((a:Nat):Int))).toNat)=1+a:=rfl
theorem t8 (h0:a=b) (h1:b≤3):a≤100000:=lin [a,b] [.eq x0 x1,.le x1 (.n 3)] (.le x0 (.n 100000)) [1,1,0,1] rfl h0 h1
theorem BR (h0:a=b) (h1:b≤3):a≤100:=lin [a,b] [.eq x0 x1,.le x1 (.n 3)] (.le x0 (.n 100)) [1,1,0,1] rfl h0 h1
theorem HW (h0:b<c) (h1:c≤d) (h2:d≤a):a≠b:=lin [a,b,c,d] [.lt x1 x2,.le x2 x3,.le x3 x0] (.ne x0 x1) [1,0,1,1,1] rfl h0 h1 h2
theorem BS (h0:b=c) (h1:c=a):a=b:=Nat.le_antisymm (lin [a,b,c] [.eq x1 x2,.eq x2 x0] (.le x0 x1) [1,0,1,0,1] rfl h0 h1) (lin [a,b,c] [.eq x1 x2,.eq x2 x0] (.le x1 x0) [1,1,0,1] rfl h0 h1)
theorem wd (h0:a≤3):a≤100000:=lin [a] [.le x0 (.n 3)] (.le x0 (.n 100000)) [1,1] rfl h0
theorem we (h0:a≤3):a≤100:=lin [a] [.le x0 (.n 3)] (.le x0 (.n 100)) [1,1] rfl h0
theorem wf (h0:a<b) (h1:b≤3):a<((2:Nat) ^ 62):=lin [a,b] [.lt x0 x1,.le x1 (.n 3)] (.lt x0 (.n (2 ^ 62))) [1,1,1] rfl h0 h1
theorem HX (h0:a≤c) (h1:b≤1) (h2:c<d) (h3:d≤3):a+b≤100000:=lin [a,b,c,d] [.le x0 x2,.le x1 (.n 1),.lt x2 x3,.le x3 (.n 3)] (.le (.a x0 x1) (.n 100000)) [1,1,1,1,1] rfl h0 h1 h2 h3
theorem HY (h0:a≤3 * c) (h1:b≤3) (h2:c<d) (h3:d≤3):a+b≤100000:=lin [a,b,c,d] [.le x0 (.m 3 x2),.le x1 (.n 3),.lt x2 x3,.le x3 (.n 3)] (.le (.a x0 x1) (.n 100000)) [1,1,1,3,3] rfl h0 h1 h2 h3
theorem HZ (h0:a≤b) (h1:b≤3):a≤100000:=lin [a,b] [.le x0 x1,.le x1 (.n 3)] (.le x0 (.n 100000)) [1,1,1] rfl h0 h1
theorem H9 (h0:a≤c) (h1:c≤d) (h2:d≤b):a≤b:=lin [a,b,c,d] [.le x0 x2,.le x2 x3,.le x3 x1] (.le x0 x1) [1,1,1,1] rfl h0 h1 h2
theorem Ha:4≤36:=lin [] [] (.le (.n 4) (.n 36)) [1] rfl
theorem wg:2≤2:=lin [] [] (.le (.n 2) (.n 2)) [1] rfl
theorem Hb:1≤12:=lin [] [] (.le (.n 1) (.n 12)) [1] rfl
theorem BU (h0:a<b) (h1:b≤1):a=b-1:=Nat.le_antisymm (Nat.le_sub_one_of_lt h0) (Nat.le_trans (Nat.sub_le_sub_right h1 1) (Nat.zero_le a))
theorem Hc:a+1≠0:=lin [a] [] (.ne (s1 x0) (.n 0)) [1] rfl
theorem BV (h0:a<0+1) (h1:b<0+1):a=b:=Nat.le_antisymm (lin [a,b] [.lt x0 (.a (.n 0) (.n 1)),.lt x1 (.a (.n 0) (.n 1))] (.le x0 x1) [1,1] rfl h0 h1) (lin [a,b] [.lt x0 (.a (.n 0) (.n 1)),.lt x1 (.a (.n 0) (.n 1))] (.le x1 x0) [1,0,1] rfl h0 h1)
theorem Hd:1≤8:=lin [] [] (.le (.n 1) (.n 8)) [1] rfl
theorem He (h0:1≤a) (h1:a=0):False:=absurd h1 (Nat.ne_of_gt h0)
theorem qG {a b:Int} (h0:(0:Int)≤a) (h1:(0:Int)≤b):(0:Int)≤a+b:=Int.add_nonneg h0 h1
theorem Hf:a+1≤a+1:=lin [a] [] (.le (s1 x0) (s1 x0)) [1] rfl
theorem Hg (h0:a≤c) (h1:c<b):¬ (a=b):=Nat.ne_of_lt (Nat.lt_of_le_of_lt h0 h1)
theorem wh (h0:b<a):¬ (a=b):=(Nat.ne_of_lt h0).symm
theorem Hh (h0:a<b) (h1:a=c-1) (h2:b<c):False:=Nat.not_lt.mpr (Nat.le_sub_one_of_lt h2) (h1▸h0)
theorem BW:¬ (a<a):=lin [a] [] (.nlt x0 x0) [1] rfl
theorem wi (h0:a≤2):a≤100:=lin [a] [.le x0 (.n 2)] (.le x0 (.n 100)) [1,1] rfl h0
theorem Hi:a+1=1+a:=Nat.le_antisymm (lin [a] [] (.le (s1 x0) (.a (.n 1) x0)) [1] rfl) (lin [a] [] (.le (.a (.n 1) x0) (s1 x0)) [1] rfl)
theorem nu (h0:a=1):0<a:=lin [a] [.eq x0 (.n 1)] (.lt (.n 0) x0) [1,0,1] rfl h0
theorem BX (h0:a=1+b):0<a:=lin [a,b] [.eq x0 (.a (.n 1) x1)] (.lt (.n 0) x0) [1,0,1] rfl h0
theorem Hj {a:Int} (h0:(0:Int)≤a∧a≤(1:Int)):a≤((1:Int)+(1:Int)):=Int.le_trans h0.2 (by decide)
theorem Hk {a b:Int}:(a+((0:Int)+b))=((a+b)+(0:Int)):=by lia
theorem BZ (h0:a=2):1<a:=lin [a] [.eq x0 (.n 2)] (.lt (.n 1) x0) [1,0,1] rfl h0
theorem Hl (h0:a<1):a=0:=Nat.le_antisymm (lin [a] [.lt x0 (.n 1)] (.le x0 (.n 0)) [1,1] rfl h0) (lin [a] [.lt x0 (.n 1)] (.le (.n 0) x0) [1] rfl h0)
theorem Hm {a b:Int}:(a+(((0:Int)+b)+(1:Int)))=((a+b)+(1:Int)):=by lia
theorem Hn {a:Int} (h0:(((0:Int)+a)+(1:Int))=((2:Int)+(1:Int))) (h1:(0:Int)≤a∧a≤(1:Int)):False:=by lia
theorem wj (h0:a<b+1) (h1:a ≥ b):a=b:=Nat.le_antisymm (lin [a,b] [.lt x0 (s1 x1),.le x1 x0] (.le x0 x1) [1,1] rfl h0 h1) (lin [a,b] [.lt x0 (s1 x1),.le x1 x0] (.le x1 x0) [1,0,1] rfl h0 h1)
theorem Hq (h0:a=1):2≤1+(a+b):=lin [a,b] [.eq x0 (.n 1)] (.le (.n 2) (.a (.n 1) (.a x0 x1))) [1,0,1] rfl h0
theorem Hr {a b c:Int} (h0:(0:Int)≤a∧a≤(1:Int)) (h1:(0:Int)≤b∧b≤(1:Int)) (h2:(0:Int)≤c∧c≤(1:Int)):a+b+c≤(3:Int):=Int.add_le_add (Int.add_le_add h0.2 h1.2) h2.2
theorem Hs {a:Int} (h0:2≤b) (h1:2≤c) (h2:a≤(3:Int)):a≤(((b:Nat):Int)+((c:Nat):Int)):=Int.le_trans h2 (Int.le_trans (by decide:(3:Int)≤((2+2:Nat):Int)) (Int.ofNat_le.mpr (Nat.add_le_add h0 h1)))
theorem Hu (h0:c+1≤b) (h1:a<c):a<b:=lin [a,b,c] [.le (s1 x2) x1,.lt x0 x2] (.lt x0 x1) [1,1,1] rfl h0 h1
theorem Hv:a=a:=Nat.le_antisymm (lin [a] [] (.le x0 x0) [1] rfl) (lin [a] [] (.le x0 x0) [1] rfl)
theorem Hw:¬ ((0+1)<1):=lin [] [] (.nlt (.a (.n 0) (.n 1)) (.n 1)) [1] rfl
theorem Hx (h0:a<b):a≤b:=lin [a,b] [.lt x0 x1] (.le x0 x1) [1,1] rfl h0
theorem Hy (h0:a<b) (h1:b=1):a=0:=Nat.le_antisymm (lin [a,b] [.lt x0 x1,.eq x1 (.n 1)] (.le x0 (.n 0)) [1,1,1] rfl h0 h1) (lin [a,b] [.lt x0 x1,.eq x1 (.n 1)] (.le (.n 0) x0) [1] rfl h0 h1)
theorem Hz (h0:2≤a):a=a-2+2:=(Nat.sub_add_cancel h0).symm
theorem B9:2≤4:=lin [] [] (.le (.n 2) (.n 4)) [1] rfl
theorem IA:2≤6:=lin [] [] (.le (.n 2) (.n 6)) [1] rfl
theorem IB (h0:a=1) (h1:b≤1):1+(a+b)≤3:=lin [a,b] [.eq x0 (.n 1),.le x1 (.n 1)] (.le (.a (.n 1) (.a x0 x1)) (.n 3)) [1,1,0,1] rfl h0 h1
theorem IC:min a b≤a:=Nat.min_le_left a b
theorem ID (h0:a≤b * 3) (h1:b≤c) (h2:c≤3):1+a≤12:=Nat.le_trans (Nat.add_le_add_left (Nat.le_trans h0 (Nat.mul_le_mul_right 3 (Nat.le_trans h1 h2))) 1) (by decide)
theorem wk:8≤36:=lin [] [] (.le (.n 8) (.n 36)) [1] rfl
end
open PySem PySem.W PyProof.Rows
set_option maxHeartbeats 0
set_option genInjectivity false in
structure FA where
 args:Arguments
 body:List Stmt
 scope:Scope
noncomputable def IE:FA:=⟨⟨[],[],none,[],[],none,[]⟩,[],{ kind:=.function,names:=[],isGenerator:=false,isCoroutine:=false }⟩
noncomputable def bu:List Stmt→Nat→FA
 | s::_,0=>match s with
  | .FunctionDef _ a b _ _ _ sc _ _ _=>⟨a,b,sc⟩
  | _=>IE
 | _::r,n+1=>bu r n
 | [],_=>IE
noncomputable def f9:List Stmt→Nat→List Stmt
 | s::_,0=>match s with
  | .ClassDef _ _ _ b _ _ _ _ _ _ _=>b
  | _=>[]
 | _::r,n+1=>f9 r n
 | [],_=>[]
noncomputable abbrev en (P:Params) (x:String) (t:Nat) (v:Value):DictEntry:={ hash:=PyData.keyHash P (Str.ofString x),key:=.str (Str.ofString x) t,val:=v }
noncomputable abbrev fu (n q:String) (f:FA) (m c:Value):Obj:={ cls:=.type "function",data:=.func { name:=Str.ofString n,qualname:=Str.ofString q,params:=f.args,body:=.stmts f.body,scope:=f.scope,globals:=3,closure:=[],defaults:=.none,kwdefaults:=.none,pyModule:=m,code:=c } }
noncomputable abbrev vs (s:String) (t:Nat):Value:=.str (Str.ofString s) t
noncomputable abbrev co (n:String) (t1:Nat) (q:String) (t2 t3:Nat) (l a f:Int) (r1:Nat) (y:Int) (r2 r3 r4 r5:Nat) (e l2:Int) (t4:Nat):Obj:={ cls:=.type "code",data:=.fields #[vs n t1,vs q t2,vs "/claim/cut.py" t3,.int l 0,.int a 0,.int 0 0,.int 0 0,.int f 0,.ref r1,.bool true,.int y 0,.ref r2,.none,.ref r3,.ref r4,.ref r5,.int e 0,.int l2 0,vs "/claim/cut.py" t4] }
noncomputable abbrev bd:=PySem.Challenge.pw_nu0064_01.main.body
noncomputable def KK (P:Params):Frag:=[
 (3,{ cls:=Value.type "dict",data:=Data.dict #[en P "__name__" 165 (vs "law_nu0064_01" 622),en P "__doc__" 166 .none,en P "__package__" 167 .none,en P "__loader__" 168 (Value.builtin "__main__.__loader__#opaque"),en P "__spec__" 169 .none,en P "__annotations__" 170 (.ref 6),en P "__builtins__" 171 (.ref 4),en P "__file__" 173 (vs "/claim/cut.py" 172),en P "__cached__" 174 .none,en P "_wall" 193 (.ref 21),en P "KIND" 197 (Value.int 0 196),en P "LABEL" 199 (Value.int 1 198),en P "VALUE" 201 (Value.int 2 200),en P "ATTRIBUTES" 203 (Value.int 3 202),en P "CHILDREN" 205 (Value.int 4 204),en P "text_form" 212 (.ref 28),en P "joined" 221 (.ref 35),en P "FlatForm" 297 (.ref 80),en P "may_match" 307 (.ref 91),en P "unlike_attributes" 313 (.ref 96),en P "own_cost" 321 (.ref 103),en P "Matching" 406 (.ref 148),en P "Side" 480 (.ref 197),en P "merged_value" 490 (.ref 208),en P "by_key" 496 (.ref 213),en P "merged_attributes" 502 (.ref 218),en P "merged_insertions" 512 (.ref 225),en P "Merge" 608 (.ref 277),en P "merged" 621 (.ref 288),en P "_law_pool" 634 (.ref 295),en P "_law_take" 643 (.ref 302),en P "_law_one" 651 (.ref 309),en P "_law_node" 657 (.ref 314),en P "_law_form" 663 (.ref 319),en P "_law_child" 672 (.ref 326),en P "_law_whole" 678 (.ref 331),en P "_law_changes" 689 (.ref 338),en P "_law_attribute" 696 (.ref 345),en P "_law_together" 702 (.ref 350),en P "_law_planted_right" 718 (.ref 357),en P "law" 724 (.ref 362)] 41 }),
 (27,co "text_form" 206 "text_form" 207 208 10 1 3 22 181 23 24 25 26 210 10 211),
 (28,fu "text_form" "text_form" (bu bd 7) (vs "markupmill.forms" 194) (.ref 27)),
 (34,co "joined" 213 "joined" 214 215 12 1 3 29 181 30 31 32 33 219 12 220),
 (35,fu "joined" "joined" (bu bd 8) (vs "markupmill.forms" 194) (.ref 34)),
 (48,co "__init__" 236 "FlatForm.__init__" 237 238 25 2 3 43 181 44 45 46 47 241 25 242),
 (49,fu "__init__" "FlatForm.__init__" (bu (f9 bd 10) 0) (vs "markupmill.flat_forms" 222) (.ref 48)),
 (55,co "gather" 244 "FlatForm.gather" 245 246 34 2 3 50 181 51 52 53 54 257 34 258),
 (56,fu "gather" "FlatForm.gather" (bu (f9 bd 10) 1) (vs "markupmill.flat_forms" 222) (.ref 55)),
 (62,co "measure" 260 "FlatForm.measure" 261 262 48 1 3 57 181 58 59 60 61 266 48 267),
 (63,fu "measure" "FlatForm.measure" (bu (f9 bd 10) 2) (vs "markupmill.flat_forms" 222) (.ref 62)),
 (69,co "top" 269 "FlatForm.top" 270 271 57 1 3 64 181 65 66 67 68 273 57 274),
 (70,fu "top" "FlatForm.top" (bu (f9 bd 10) 3) (vs "markupmill.flat_forms" 222) (.ref 69)),
 (76,co "path" 276 "FlatForm.path" 277 278 60 2 3 71 181 72 73 74 75 282 60 283),
 (77,fu "path" "FlatForm.path" (bu (f9 bd 10) 4) (vs "markupmill.flat_forms" 222) (.ref 76)),
 (79,{ cls:=Value.type "dict",data:=Data.dict #[en P "__module__" 231 (vs "markupmill.flat_forms" 222),en P "__firstlineno__" 235 (Value.int 23 234),en P "__init__" 243 (.ref 49),en P "gather" 259 (.ref 56),en P "measure" 268 (.ref 63),en P "top" 275 (.ref 70),en P "path" 284 (.ref 77),en P "__static_attributes__" 290 (.ref 78),en P "__dict__" 292 (.ref 81),en P "__weakref__" 294 (.ref 82),en P "__doc__" 295 .none] 4 }),
 (80,{ cls:=Value.type "type",data:=Data.cls { name:=Str.ofString "FlatForm",bases:=[Value.type "object"],mro:=[.ref 80,Value.type "object"],ns:=79,qualname:=Str.ofString "FlatForm" },slots:=#[none,none,some (vs "FlatForm" 224),some (vs "FlatForm" 232),some (Value.builtin "object.__new__"),some (Value.bool true)] }),
 (90,co "may_match" 300 "may_match" 301 302 67 2 3 85 181 86 87 88 89 305 67 306),
 (91,fu "may_match" "may_match" (bu bd 12) (vs "markupmill.matching" 298) (.ref 90)),
 (95,{ cls:=Value.type "code",data:=Data.fields #[vs "unlike_attributes" 308,vs "unlike_attributes" 309,vs "/claim/cut.py" 310,Value.int 69 0,Value.int 2 0,Value.int 0 0,Value.int 0 0,Value.int 3 0,.ref 92,Value.bool true,Value.int 181 0,.ref 93,Value.none,Value.none,Value.none,.ref 94,Value.int 311 0,Value.int 69 0,vs "/claim/cut.py" 312] }),
 (96,fu "unlike_attributes" "unlike_attributes" (bu bd 13) (vs "markupmill.matching" 298) (.ref 95)),
 (102,co "own_cost" 314 "own_cost" 315 316 79 2 3 97 181 98 99 100 101 319 79 320),
 (103,fu "own_cost" "own_cost" (bu bd 14) (vs "markupmill.matching" 298) (.ref 102)),
 (116,co "__init__" 334 "Matching.__init__" 335 336 83 3 3 111 181 112 113 114 115 342 83 343),
 (117,fu "__init__" "Matching.__init__" (bu (f9 bd 15) 0) (vs "markupmill.matching" 298) (.ref 116)),
 (123,co "table" 345 "Matching.table" 346 347 92 3 3 118 181 119 120 121 122 361 92 362),
 (124,fu "table" "Matching.table" (bu (f9 bd 15) 1) (vs "markupmill.matching" 298) (.ref 123)),
 (130,co "steps" 364 "Matching.steps" 365 366 109 3 3 125 181 126 127 128 129 377 109 378),
 (131,fu "steps" "Matching.steps" (bu (f9 bd 15) 2) (vs "markupmill.matching" 298) (.ref 130)),
 (137,co "cost" 380 "Matching.cost" 381 382 126 3 3 132 181 133 134 135 136 386 126 387),
 (138,fu "cost" "Matching.cost" (bu (f9 bd 15) 3) (vs "markupmill.matching" 298) (.ref 137)),
 (147,{ cls:=Value.type "dict",data:=Data.dict #[en P "__module__" 329 (vs "markupmill.matching" 298),en P "__firstlineno__" 333 (Value.int 81 332),en P "__init__" 344 (.ref 117),en P "table" 363 (.ref 124),en P "steps" 379 (.ref 131),en P "cost" 388 (.ref 138),en P "whole_cost" 395 (.ref 145),en P "__static_attributes__" 399 (.ref 146),en P "__dict__" 401 (.ref 149),en P "__weakref__" 403 (.ref 150),en P "__doc__" 404 .none] 4 }),
 (148,{ cls:=Value.type "type",data:=Data.cls { name:=Str.ofString "Matching",bases:=[Value.type "object"],mro:=[.ref 148,Value.type "object"],ns:=147,qualname:=Str.ofString "Matching" },slots:=#[none,none,some (vs "Matching" 322),some (vs "Matching" 330),some (Value.builtin "object.__new__"),some (Value.bool true)] }),
 (165,co "__init__" 421 "Side.__init__" 422 423 134 3 3 160 181 161 162 163 164 428 134 429),
 (166,fu "__init__" "Side.__init__" (bu (f9 bd 17) 0) (vs "markupmill.merge" 407) (.ref 165)),
 (172,co "follow" 431 "Side.follow" 432 433 142 3 3 167 181 168 169 170 171 441 142 442),
 (173,fu "follow" "Side.follow" (bu (f9 bd 17) 1) (vs "markupmill.merge" 407) (.ref 172)),
 (179,co "form" 444 "Side.form" 445 446 154 2 3 174 181 175 176 177 178 450 154 451),
 (180,fu "form" "Side.form" (bu (f9 bd 17) 2) (vs "markupmill.merge" 407) (.ref 179)),
 (186,co "is_changed" 453 "Side.is_changed" 454 455 158 2 3 181 181 182 183 184 185 458 158 459),
 (187,fu "is_changed" "Side.is_changed" (bu (f9 bd 17) 3) (vs "markupmill.merge" 407) (.ref 186)),
 (193,co "put_in" 461 "Side.put_in" 462 463 161 3 3 188 181 189 190 191 192 467 161 468),
 (194,fu "put_in" "Side.put_in" (bu (f9 bd 17) 4) (vs "markupmill.merge" 407) (.ref 193)),
 (196,{ cls:=Value.type "dict",data:=Data.dict #[en P "__module__" 416 (vs "markupmill.merge" 407),en P "__firstlineno__" 420 (Value.int 132 419),en P "__init__" 430 (.ref 166),en P "follow" 443 (.ref 173),en P "form" 452 (.ref 180),en P "is_changed" 460 (.ref 187),en P "put_in" 469 (.ref 194),en P "__static_attributes__" 473 (.ref 195),en P "__dict__" 475 (.ref 198),en P "__weakref__" 477 (.ref 199),en P "__doc__" 478 .none] 4 }),
 (197,{ cls:=Value.type "type",data:=Data.cls { name:=Str.ofString "Side",bases:=[Value.type "object"],mro:=[.ref 197,Value.type "object"],ns:=196,qualname:=Str.ofString "Side" },slots:=#[none,none,some (vs "Side" 409),some (vs "Side" 417),some (Value.builtin "object.__new__"),some (Value.bool true)] }),
 (207,co "merged_value" 481 "merged_value" 482 483 163 4 3 202 181 203 204 205 206 488 163 489),
 (208,fu "merged_value" "merged_value" (bu bd 18) (vs "markupmill.merge" 407) (.ref 207)),
 (212,{ cls:=Value.type "code",data:=Data.fields #[vs "by_key" 491,vs "by_key" 492,vs "/claim/cut.py" 493,Value.int 169 0,Value.int 1 0,Value.int 0 0,Value.int 0 0,Value.int 3 0,.ref 209,Value.bool true,Value.int 181 0,.ref 210,Value.none,Value.none,Value.none,.ref 211,Value.int 494 0,Value.int 169 0,vs "/claim/cut.py" 495] }),
 (213,fu "by_key" "by_key" (bu bd 19) (vs "markupmill.merge" 407) (.ref 212)),
 (217,{ cls:=Value.type "code",data:=Data.fields #[vs "merged_attributes" 497,vs "merged_attributes" 498,vs "/claim/cut.py" 499,Value.int 171 0,Value.int 4 0,Value.int 0 0,Value.int 0 0,Value.int 3 0,.ref 214,Value.bool true,Value.int 181 0,.ref 215,Value.none,Value.none,Value.none,.ref 216,Value.int 500 0,Value.int 171 0,vs "/claim/cut.py" 501] }),
 (218,fu "merged_attributes" "merged_attributes" (bu bd 20) (vs "markupmill.merge" 407) (.ref 217)),
 (224,co "merged_insertions" 503 "merged_insertions" 504 505 183 4 3 219 181 220 221 222 223 510 183 511),
 (225,fu "merged_insertions" "merged_insertions" (bu bd 21) (vs "markupmill.merge" 407) (.ref 224)),
 (238,co "__init__" 525 "Merge.__init__" 526 527 191 4 3 233 181 234 235 236 237 532 191 533),
 (239,fu "__init__" "Merge.__init__" (bu (f9 bd 22) 0) (vs "markupmill.merge" 407) (.ref 238)),
 (245,co "run" 535 "Merge.run" 536 537 197 1 3 240 181 241 242 243 244 540 197 541),
 (246,fu "run" "Merge.run" (bu (f9 bd 22) 1) (vs "markupmill.merge" 407) (.ref 245)),
 (252,co "outcome" 543 "Merge.outcome" 544 545 202 2 3 247 181 248 249 250 251 550 202 551),
 (253,fu "outcome" "Merge.outcome" (bu (f9 bd 22) 2) (vs "markupmill.merge" 407) (.ref 252)),
 (259,co "kept_or_gone" 553 "Merge.kept_or_gone" 554 555 212 5 3 254 181 255 256 257 258 561 212 562),
 (260,fu "kept_or_gone" "Merge.kept_or_gone" (bu (f9 bd 22) 3) (vs "markupmill.merge" 407) (.ref 259)),
 (266,co "both_kept" 564 "Merge.both_kept" 565 566 217 4 3 261 181 262 263 264 265 579 217 580),
 (267,fu "both_kept" "Merge.both_kept" (bu (f9 bd 22) 4) (vs "markupmill.merge" 407) (.ref 266)),
 (273,co "children" 582 "Merge.children" 583 584 224 3 3 268 181 269 270 271 272 594 224 595),
 (274,fu "children" "Merge.children" (bu (f9 bd 22) 5) (vs "markupmill.merge" 407) (.ref 273)),
 (276,{ cls:=Value.type "dict",data:=Data.dict #[en P "__module__" 520 (vs "markupmill.merge" 407),en P "__firstlineno__" 524 (Value.int 189 523),en P "__init__" 534 (.ref 239),en P "run" 542 (.ref 246),en P "outcome" 552 (.ref 253),en P "kept_or_gone" 563 (.ref 260),en P "both_kept" 581 (.ref 267),en P "children" 596 (.ref 274),en P "__static_attributes__" 601 (.ref 275),en P "__dict__" 603 (.ref 278),en P "__weakref__" 605 (.ref 279),en P "__doc__" 606 .none] 4 }),
 (277,{ cls:=Value.type "type",data:=Data.cls { name:=Str.ofString "Merge",bases:=[Value.type "object"],mro:=[.ref 277,Value.type "object"],ns:=276,qualname:=Str.ofString "Merge" },slots:=#[none,none,some (vs "Merge" 513),some (vs "Merge" 521),some (Value.builtin "object.__new__"),some (Value.bool true)] }),
 (287,co "merged" 609 "merged" 610 611 234 3 3 282 181 283 284 285 286 619 234 620),
 (288,fu "merged" "merged" (bu bd 23) (vs "markupmill.merge" 407) (.ref 287)),
 (294,co "_law_pool" 624 "_law_pool" 625 626 244 1 3 289 181 290 291 292 293 632 244 633),
 (295,fu "_law_pool" "_law_pool" (bu bd 25) (vs "law_nu0064_01" 622) (.ref 294)),
 (301,co "_law_take" 635 "_law_take" 636 637 257 2 3 296 181 297 298 299 300 641 257 642),
 (302,fu "_law_take" "_law_take" (bu bd 26) (vs "law_nu0064_01" 622) (.ref 301)),
 (308,co "_law_one" 644 "_law_one" 645 646 264 2 3 303 181 304 305 306 307 649 264 650),
 (309,fu "_law_one" "_law_one" (bu bd 27) (vs "law_nu0064_01" 622) (.ref 308)),
 (313,{ cls:=Value.type "code",data:=Data.fields #[vs "_law_node" 652,vs "_law_node" 653,vs "/claim/cut.py" 654,Value.int 266 0,Value.int 2 0,Value.int 0 0,Value.int 0 0,Value.int 3 0,.ref 310,Value.bool true,Value.int 181 0,.ref 311,Value.none,Value.none,Value.none,.ref 312,Value.int 655 0,Value.int 266 0,vs "/claim/cut.py" 656] }),
 (314,fu "_law_node" "_law_node" (bu bd 28) (vs "law_nu0064_01" 622) (.ref 313)),
 (318,{ cls:=Value.type "code",data:=Data.fields #[vs "_law_form" 658,vs "_law_form" 659,vs "/claim/cut.py" 660,Value.int 275 0,Value.int 2 0,Value.int 0 0,Value.int 0 0,Value.int 3 0,.ref 315,Value.bool true,Value.int 181 0,.ref 316,Value.none,Value.none,Value.none,.ref 317,Value.int 661 0,Value.int 275 0,vs "/claim/cut.py" 662] }),
 (319,fu "_law_form" "_law_form" (bu bd 29) (vs "law_nu0064_01" 622) (.ref 318)),
 (325,co "_law_child" 664 "_law_child" 665 666 286 2 3 320 181 321 322 323 324 670 286 671),
 (326,fu "_law_child" "_law_child" (bu bd 30) (vs "law_nu0064_01" 622) (.ref 325)),
 (330,{ cls:=Value.type "code",data:=Data.fields #[vs "_law_whole" 673,vs "_law_whole" 674,vs "/claim/cut.py" 675,Value.int 291 0,Value.int 2 0,Value.int 0 0,Value.int 0 0,Value.int 3 0,.ref 327,Value.bool true,Value.int 181 0,.ref 328,Value.none,Value.none,Value.none,.ref 329,Value.int 676 0,Value.int 291 0,vs "/claim/cut.py" 677] }),
 (331,fu "_law_whole" "_law_whole" (bu bd 31) (vs "law_nu0064_01" 622) (.ref 330)),
 (337,co "_law_changes" 679 "_law_changes" 680 681 294 2 3 332 181 333 334 335 336 687 294 688),
 (338,fu "_law_changes" "_law_changes" (bu bd 32) (vs "law_nu0064_01" 622) (.ref 337)),
 (344,co "_law_attribute" 690 "_law_attribute" 691 692 300 1 3 339 181 340 341 342 343 694 300 695),
 (345,fu "_law_attribute" "_law_attribute" (bu bd 33) (vs "law_nu0064_01" 622) (.ref 344)),
 (349,{ cls:=Value.type "code",data:=Data.fields #[vs "_law_together" 697,vs "_law_together" 698,vs "/claim/cut.py" 699,Value.int 302 0,Value.int 4 0,Value.int 0 0,Value.int 0 0,Value.int 3 0,.ref 346,Value.bool true,Value.int 181 0,.ref 347,Value.none,Value.none,Value.none,.ref 348,Value.int 700 0,Value.int 302 0,vs "/claim/cut.py" 701] }),
 (350,fu "_law_together" "_law_together" (bu bd 34) (vs "law_nu0064_01" 622) (.ref 349)),
 (356,co "_law_planted_right" 703 "_law_planted_right" 704 705 318 1 3 351 181 352 353 354 355 716 318 717),
 (357,fu "_law_planted_right" "_law_planted_right" (bu bd 35) (vs "law_nu0064_01" 622) (.ref 356))]
noncomputable def LU:List Addr:=[3,27,28,34,35,48,49,55,56,62,63,69,70,76,77,79,80,90,91,95,96,102,103,116,117,123,124,130,131,137,138,147,148,165,166,172,173,179,180,186,187,193,194,196,197,207,208,212,213,217,218,224,225,238,239,245,246,252,253,259,260,266,267,273,274,276,277,287,288,294,295,301,302,308,309,313,314,318,319,325,326,330,331,337,338,344,345,349,350,356,357]
noncomputable def HH:Hook:=kHook KK LU (fun _=>rfl)
noncomputable def t9:List Nat:=[0,2,3,4,5,6,7,8,10,12,13,14,15,17,18,19,20,21,22,23,25,26,27,28,29,30,31,32,33,34,35,36]
noncomputable def vw:Program:=view PySem.Challenge.pw_nu0064_01 t9
theorem IG {a b:Bool} (h:a=true) (k:b=true):(a && b)=true:=by rw[h,k];rfl
open PySem.Challenge in
theorem IH:looksOpen pw_nu0064_01=true:=by
 unfold looksOpen
 with_reducible repeat' refine IG ?_ ?_
 all_goals decide +kernel
open PySem.Challenge in
theorem II:(OpenLaw.row rw_nu0064_01).partSaid=true:=by
 unfold OpenRow.partSaid
 with_reducible repeat' refine IG ?_ ?_
 ·exact IH
 all_goals decide +kernel
open PySem.Challenge in
theorem KW:OpenLaw.wellSaid rw_nu0064_01=true:=by
 unfold OpenLaw.wellSaid
 with_reducible repeat' refine IG ?_ ?_
 ·unfold OpenRow.wellSaid
  exact IG (IG II (by decide +kernel)) (by decide +kernel)
 all_goals decide +kernel
noncomputable def ry (tb:String→Option Builtin) (p:Program) (w:World) (m:Nat) (a:Option Value):Nat→SharedT→Thread→Option SharedT
 | 0,_,_=>none
 | n+1,s,t=>bif through t then some s else bif stepOk m a t then (stepT (denote tb) p w s t).rec none fun r=>ry tb p w m a n r.1 r.2 else none
theorem zK {tb:String→Option Builtin} {p:Program} {w:World} {m:Nat} {a:Option Value} (n:Nat):∀ (s r:SharedT) (t:Thread),ry tb p w m a n s t=some r→topRun tb p w m a n s.abs t=some r.abs:=by
 induction n with
 | zero=>intro s r t h;cases h
 | succ n ih=>
  intro s r t h
  unfold topRun
  unfold ry at h
  cases e1:through t with
  | true=>rw[e1] at h;cases h;rfl
  | false=>
   rw[e1] at h
   cases e2:stepOk m a t with
   | false=>rw[e2] at h;cases h
   | true=>
    rw[e2] at h
    cases e3:stepT (denote tb) p w s t with
    | none=>rw[e3] at h;cases h
    | some x=>rw[e3] at h;dsimp only;rw[stepT_spec e3];exact ih _ _ _ h
noncomputable def CU (tb:String→Option Builtin) (p:Program) (w:World) (n:Nat) (s:Shared):{ k:Shared→Option Shared // (s.heap.isNs mainGlobals && s.gens.size == 0)=true→topFrom tb p w n s=(topRun tb p w s.heap.objs.size (s.heap.nsMap mainGlobals "__annotations__") n s (topStub p)).bind k }:=by
 apply Subtype.mk
 intro c
 unfold topFrom
 rw[c]
theorem LV {tb:String→Option Builtin} {p:Program} {w:World} {n:Nat} {s0 s:Shared} (h:((CU tb p w n s0).1 s).isSome=true):(CU tb p w n s0).1 s=some s:=by
 unfold CU at h ⊢
 dsimp only at h ⊢
 split at h
 ·rfl
 ·cases h
theorem KY {A B C D E G:Type} {tb:String→Option Builtin} {p:Program} {w:World} {n m:Nat} {x:Option Value} {s:SharedT} {s0:Shared} {P:Shared→A×B×C×D×E} {g:Shared→G} {a:A} {b:B} {c:C} {d:D} {e:E} {y:G}
  (hs:s.abs=s0) (hc:(s0.heap.isNs mainGlobals && s0.gens.size == 0)=true) (hm:s0.heap.objs.size=m) (ha:s0.heap.nsMap mainGlobals "__annotations__" = x)
  (h:(ry tb p w m x n s (topStub p)).map (fun r=>(((CU tb p w n s0).1 r.abs).isSome,(P r.abs).1,(P r.abs).2.1,(P r.abs).2.2.1,(P r.abs).2.2.2.1))=some (true,a,b,c,d))
  (h':(ry tb p w m x n s (topStub p)).map (fun r=>((P r.abs).2.2.2.2,g r.abs))=some (e,y)):(topFrom tb p w n s0).map (fun s=>(P s,g s))=some ((a,b,c,d,e),y):=by
 subst hs;subst hm;subst ha
 rw[(CU tb p w n s.abs).2 hc]
 cases q:ry tb p w s.abs.heap.objs.size (s.abs.heap.nsMap mainGlobals "__annotations__") n s (topStub p) with
 | none=>rw[q] at h;cases h
 | some r=>
  rw[q] at h h'
  have h:=Prod.mk.inj (Option.some.inj h)
  have h':=Option.some.inj h'
  have K:=LV h.1
  generalize (CU tb p w n s.abs).1=k at K ⊢
  rw[zK n s r _ q]
  show(k r.abs).map _=_
  rw[K]
  exact congrArg (fun z:(A×B×C×D)×E×G=>some ((z.1.1,z.1.2.1,z.1.2.2.1,z.1.2.2.2,z.2.1),z.2.2)) (Prod.ext h.2 h':(((P r.abs).1,(P r.abs).2.1,(P r.abs).2.2.1,(P r.abs).2.2.2.1),((P r.abs).2.2.2.2,g r.abs))=((a,b,c,d),(e,y)))
theorem IJ {β:Type} {tb:String→Option Builtin} {p:Program} {w:World} {n:Nat} {s0:Shared} {F:Shared→β} {g:β} (e:fencedOpening tb p w n=some s0) (h:(topFrom tb p w n s0).map F=some g):(openEnds tb p w n).map F=some g:=by
 unfold openEnds
 rw[e]
 exact h
noncomputable def LW (P:Params):BT:=.node (boot_o_0 P) (.node (boot_o_1 P) (.node (boot_o_3 P) (.node (boot_o_7 P) .nil .nil) .nil) (.node (boot_o_5 P) (.node (boot_o_9 P) .nil .nil) .nil)) (.node (boot_o_2 P) (.node (boot_o_4 P) (.node (boot_o_8 P) .nil .nil) .nil) (.node (boot_o_6 P) (.node (boot_o_10 P) .nil .nil) .nil))
noncomputable def sT (w:World) (os:OsState):SharedT:=⟨LW w.params,11,(boot_heap w.params).life,Array.mk [],boot_drawn,boot_toks,os⟩
theorem CV (w:World) (os:OsState):(sT w os).abs=⟨boot_heap w.params,Array.mk [],boot_drawn,boot_toks,os⟩:=by kernel_rfl
noncomputable abbrev LX (w:World) (os:OsState):Shared:=⟨boot_heap w.params,Array.mk [],boot_drawn,boot_toks,os⟩
open PySem.Challenge in
noncomputable abbrev SP (s:Shared):=openSeen vw [] (importedModules pw_nu0064_01.main.body) (fun s=>xlAt vw [] s && recOk (RowW.records rw_nu0064_01.row.toRowW) s) true s
open PySem.Challenge in
noncomputable abbrev rT (w:World) (os:OsState):Option SharedT:=ry treeTable pw_nu0064_01 w 11 (some (.ref 6)) 4682 (sT w os) (topStub pw_nu0064_01)
open PySem.Challenge in
theorem LY (w:World) (os:OsState):(rT w os).map (fun r=>(((CU treeTable pw_nu0064_01 w 4682 (LX w os)).1 r.abs).isSome,(SP r.abs).1,(SP r.abs).2.1,(SP r.abs).2.2.1,(SP r.abs).2.2.2.1))=some (true,expectedOf vw,bltViewBooted,true,true):=by kernel_rfl
open PySem.Challenge in
theorem LZ (w:World) (os:OsState):(rT w os).map (fun r=>((SP r.abs).2.2.2.2,Hook.obs HH r.abs))=some ((pinGoodD (drecsOf vw),plainGoodE vw (looseW vw []),plainGoodD vw [],wideGood vw,clsGoodW vw []),Hook.val HH w):=by kernel_rfl
open PySem.Challenge in
theorem dL:LeftO pw_nu0064_01 vw [] (fun s=>xlAt vw [] s && recOk (RowW.records rw_nu0064_01.row.toRowW) s) (Hook.obs HH) (Hook.val HH) 4682:=fun w=>by
 obtain⟨⟨hh,gs,dd,kk,os⟩,e,e'⟩:=Option.map_eq_some_iff.mp (boot_open (p:=pw_nu0064_01) (N:=4682) rfl rfl (fun _=>rfl) w)
 obtain⟨rfl,e'⟩:=Prod.mk.inj e'
 obtain⟨rfl,e'⟩:=Prod.mk.inj e'
 obtain⟨rfl,rfl⟩:=Prod.mk.inj e'
 exact IJ e (KY (P:=SP) (CV w os) (by kernel_rfl) rfl (by kernel_rfl) (LY w os) (LZ w os))
set_option maxHeartbeats 200000
def au:Lean.Syntax:=Lean.Unhygienic.run `(Lean.Parser.Tactic.tacticSeq| intros;first | with_unfolding_all rfl | exact Nat.le_of_ble_eq_true rfl | decide | with_unfolding_all exact⟨_,rfl⟩ | omega)
def auN:Lean.Syntax:=Lean.Unhygienic.run `(Lean.Parser.Tactic.tacticSeq| with_unfolding_all repeat constructor)
def auW:Lean.Syntax:=Lean.Unhygienic.run `(Lean.Parser.Tactic.tacticSeq| intro env he;rcases env with⟨⟩;cases he;with_unfolding_all rfl)
def auK:Lean.Syntax:=Lean.Unhygienic.run `(Lean.Parser.Tactic.tacticSeq| decide +kernel)
inductive AV where
 | none
 | bool (b:Bool)
 | int (i:Int)
 | str (s:Str)
 | tup (l:List AV)
 | lst (l:List AV)
 | ref (n:Nat)
 | rng (a b c:Int)
inductive aC where
 | list (l:List AV)
 | dI (l:List (Int×AV))
 | dT (l:List (List Int×AV))
 | dS (ep:Nat) (l:List (List Str×AV))
 | inst (c:Addr) (l:List (String×AV))
 | frz (xs:List Int) (ob:Obj)
noncomputable def aZ {κ:Type} [DecidableEq κ]:List (κ×AV)→κ→Option AV
 | [],_=>none
 | (k',v)::r,k=>if k'=k then some v else aZ r k
noncomputable abbrev Hp:=List aC
noncomputable abbrev aX:=List (String×Option AV)
noncomputable abbrev ab:=List (Addr×Addr)
theorem bj {α:Type} {l:List α} {i:Nat} {x:α} (h:l[i]?=some x):i<l.length:=(List.getElem?_eq_some_iff.mp h).1
theorem gE {α:Type} {l:List α} {i:Nat} (h:i<l.length):l[i]?=some l[i]:=List.getElem?_eq_getElem h
set_option genInjectivity false in
structure Cx where
 prog:Program
 w:World
 K:Frag
 h₀:Heap
 mg:Str→Option Value
 mb:Str→Option Value
 pv:Program
 loose:List Str
 mean:ExcName→Option Value
 X:K.In h₀
 T:Top pv loose mean mg mb h₀
noncomputable abbrev Cx.M (C:Cx):Model:=model C.prog C.w
noncomputable def nO (o:Obj):Prop:=(o.cls=.type "tuple"∧∃ vs k,o.data=.seq vs k)∨(o.cls=.type "range"∧∃ vs,o.data=.fields vs)
inductive VR (h:Heap) (ρ:ab):Value→AV→Prop
 | none:VR h ρ .none .none
 | bool (b):VR h ρ (.bool b) (.bool b)
 | int (i t):VR h ρ (.int i t) (.int i)
 | str (s t):VR h ρ (.str s t) (.str s)
 | tupI {a vs l}:IsTup h a (List.toArray vs)→vs.length=l.length→(∀ (i:Nat) v d,vs[i]?=some v→l[i]?=some d→VR h ρ v d)→VR h ρ (.ref a) (.tup l)
 | ref {n p}:ρ[n]?=some p→VR h ρ (.ref p.1) (.ref n)
 | rng {r a b c t u v}:IsRange h r a b c t u v→VR h ρ (.ref r) (.rng a b c)
inductive bg (h:Heap) (ρ:ab):List Value→List AV→Prop
 | nil:bg h ρ [] []
 | cons {v vs d ds}:VR h ρ v d→bg h ρ vs ds→bg h ρ (v::vs) (d::ds)
noncomputable def gM (h:Heap) (ρ:ab) (v:Option Value) (d:Option AV):Prop:=v.isSome=d.isSome∧∀ x y,v=some x→d=some y→VR h ρ x y
inductive ow (h:Heap) (ρ:ab):List DictEntry→List (String×AV)→Prop
 | nil:ow h ρ [] []
 | cons {x:String} {t:Tok} {hsh:Int} {v:Value} {d:AV} {es:List DictEntry} {l:List (String×AV)}:VR h ρ v d→ow h ρ es l→ow h ρ (⟨hsh,.str (Str.ofString x) t,v⟩::es) ((x,d)::l)
inductive i4 {κ:Type} (h:Heap) (ρ:ab):List (κ×Addr×Value)→List (κ×AV)→Prop
 | nil:i4 h ρ [] []
 | cons {k a v d xs ls}:VR h ρ v d→i4 h ρ xs ls→i4 h ρ ((k,a,v)::xs) ((k,d)::ls)
noncomputable def OR (C:Cx) (h:Heap) (ρ:ab) (p:Addr×Addr):aC→Prop
 | .list l=>p.1=p.2∧∃ vs n,h.get? p.2=some { cls:=.type "list",data:=.seq vs n }∧bg h ρ vs.toList l
 | .dI l=>p.1=p.2∧∃ kvs,h.DictOf (intKind C.prog C.w) p.2 kvs∧kvs.length≤l.length∧∀ k,gM h ρ (valueAt kvs k) (aZ l k)
 | .dT l=>p.1=p.2∧∃ xs,h.DictOfH (tupleKind (intKind C.prog C.w)) p.2 xs∧i4 h ρ xs l
 | .dS ep l=>p.1=p.2∧∃ xs,h.DictOfH (tupleKind (strKind C.prog C.w)) p.2 xs∧i4 h ρ xs l∧∀ o es e,h.get? p.2=some o→o.data=.dict es e→e=ep
 | .inst c l=>h.get? p.1=some (instObj c p.2)∧∃ es n,h.get? p.2=some (W.dictOf es n)∧ow h ρ es l
 | .frz xs ob=>(∃ vs,C.h₀.IsList p.1 (List.toArray vs)∧h.IsList p.1 (List.toArray vs)∧IntsAre vs xs)∧h.get? p.2=some ob∧∃ es n,ob.data=.dict es n
noncomputable def eK (ρ:ab) (b:Addr):Prop:=∃ p∈ρ,p.2=b
noncomputable def nP (W:Addr→Prop) (h h':Heap):Prop:=∀ b o,h.get? b=some o→¬ W b→h'.get? b=some o
theorem nP.refl (W:Addr→Prop) (h:Heap):nP W h h:=fun _ _ e _=>e
theorem nP.trans {W W':Addr→Prop} {h1 h2 h3:Heap} (a:nP W h1 h2) (b:nP W' h2 h3) (c:∀ x o,h1.get? x=some o→W' x→W x):nP W h1 h3:=
 fun x o e n=>b x o (a x o e n) fun y=>n (c x o e y)
structure HR (C:Cx) (ρ:ab) (hp:Hp) (h:Heap):Prop where
 keep:∀ b o,C.h₀.get? b=some o→h.get? b=some o
 len:ρ.length=hp.length
 obj:∀ (n:Nat) p o,ρ[n]?=some p→hp[n]?=some o→OR C h ρ p o
 apart:∀ (n m:Nat) p q,ρ[n]?=some p→ρ[m]?=some q→p.2=q.2→n=m
 new:∀ p∈ρ,C.h₀.get? p.2=none
 big:∀ p∈ρ,sysModules<p.2
noncomputable def getL (l:aX) (x:String):Option AV:=(l.lookup x).join
noncomputable def oy:aX→String→AV→aX
 | [],x,v=>[(x,some v)]
 | (y,o)::r,x,v=>if y=x then (y,some v)::r else (y,o)::oy r x v
structure FR (C:Cx) (env:Env) (ρ:ab) (loc:aX) (h:Heap):Prop where
 kind:env.scope.kind=.function
 glob:env.globals=mainGlobals
 bi:env.builtins=builtinsNs
 ns:∃ m,h.Ns env.locals m∧∀ (x:String) d,getL loc x=some d→env.kindOf (Str.ofString x)=some .local→∃ v,m (Str.ofString x)=some v∧VR h ρ v d
 cell:∀ x:Str,env.kindOf x=some .cell→∃ c ov,env.cells.lookup x=some c∧h.IsCell c ov
 cellv:∀ (x:String) d,getL loc x=some d→env.kindOf (Str.ofString x)=some .cell→∃ c v,env.cells.lookup (Str.ofString x)=some c∧h.IsCell c (some v)∧VR h ρ v d
 apL:∀ p∈ρ,p.2≠env.locals
 newL:C.h₀.get? env.locals=none
 newC:∀ (x:Str) c,env.cells.lookup x=some c→C.h₀.get? c=none
 injC:∀ (x y:Str) c,env.cells.lookup x=some c→env.cells.lookup y=some c→x=y
structure c8 (d:Nat) (A:Around):Prop where
 handled:A.handled=none
 depth:A.depth+6 * d+6≤recursionLimit
 units:A.units+60 * d+200≤cLine
 frames:A.frames≠none
theorem c8.le {d e:Nat} {A:Around} (r:c8 d A) (h:e≤d):c8 e A:=
 ⟨r.handled,by have:=r.depth;exact LM this h,by have:=r.units;exact LN this h,r.frames⟩
theorem c8.dep {d:Nat} {A:Around} (r:c8 d A):A.depth<recursionLimit:=by have:=r.depth;exact LO this
theorem c8.un {d:Nat} {A:Around} (r:c8 d A):A.units+64<cLine:=by have:=r.units;exact LP this
theorem c8.in1_un {d:Nat} {A:Around} (r:c8 d A):A.in1.units<cLine:=by have:=r.units;show A.units+1<cLine;exact LQ this
theorem c8.deep {d:Nat} {A:Around} (rm:c8 (d+1) A) (env:Env):c8 d (A.deeper env):=by
 refine⟨rm.handled,?_,?_,fun q=>rm.frames (Option.map_eq_none_iff.mp q)⟩
 ·have:=rm.depth;show A.depth+1+6 * d+6≤recursionLimit;exact Kr this
 ·have:=rm.units;show A.units+3+60 * d+200≤cLine;exact LR this
theorem c8.un1 {d:Nat} {A:Around} (r:c8 d A):A.units+65<cLine:=by have:=r.units;exact LS this
theorem c8.in1 {d:Nat} {A:Around} (r:c8 (d+1) A):c8 d A.in1:=⟨r.handled,by have:=r.depth;show A.depth+6 * d+6≤recursionLimit;exact LT this,by have:=r.units;show A.units+1+60 * d+200≤cLine;exact JZ this,r.frames⟩
theorem cq {R:Obj→Prop} {h h':Heap} {a:Addr} (k:∀ o,h.get? a=some o→h'.get? a=some o) (x:∃ o,h.get? a=some o∧R o):∃ o,h'.get? a=some o∧R o:=x.imp fun o y=>y.imp_left (k o)
theorem l9 {α β:Type} {R:Obj→α→β→Prop} {h h':Heap} {a:Addr} (k:∀ o,h.get? a=some o→h'.get? a=some o) (x:∃ o u v,h.get? a=some o∧R o u v):∃ o u v,h'.get? a=some o∧R o u v:=x.imp fun o y=>y.imp fun _=>Exists.imp fun _=>And.imp_left (k o)
theorem vf {α β:Type} {R:Obj→α→β→Prop} {h:Heap} {a:Addr} {G:Prop} (x:∃ o u v,h.get? a=some o∧R o u v) (k:∀ o u v,h.get? a=some o→R o u v→G):G:=x.elim fun o y=>y.elim fun u z=>z.elim fun v r=>k o u v r.1 r.2
theorem aF {α:Type} {o:Option α} {a:α} {p:Prop} (x:o=some a) (y:o=none):p:=absurd (x.symm.trans y) (Option.some_ne_none a)
theorem nn {p:Prop} (h:¬ ¬ p):p:=Classical.byContradiction h
section
variable {h h':Heap} {ρ ρ':ab}
theorem bg.length {vs:List Value} {ds:List AV} (x:bg h ρ vs ds):vs.length=ds.length:=by
 induction x with
 | nil=>rfl
 | cons _ _ ih=>exact congrArg Nat.succ ih
theorem bg.at {vs:List Value} {ds:List AV} (x:bg h ρ vs ds):∀ (i:Nat) v d,vs[i]?=some v→ds[i]?=some d→VR h ρ v d:=by
 induction x with
 | nil=>intro i v d a;exact absurd (show some v=Option.none from a.symm) (Option.some_ne_none v)
 | cons r _ ih=>
  intro i v d a b
  cases i with
  | zero=>cases a;cases b;exact r
  | succ i=>exact ih i v d a b
theorem bg.mk' {vs:List Value}:∀ {ds:List AV},vs.length=ds.length→(∀ (i:Nat) v d,vs[i]?=some v→ds[i]?=some d→VR h ρ v d)→bg h ρ vs ds:=by
 induction vs with
 | nil=>intro ds l _;cases List.length_eq_zero_iff.mp l.symm;exact .nil
 | cons v vs ih=>
  intro ds l k
  cases ds with
  | nil=>exact Nat.noConfusion l
  | cons d ds=>exact .cons (k 0 v d rfl rfl) (ih (Nat.succ.inj l) fun i=>k (i+1))
theorem VR.tup {a:Addr} {vs:List Value} {l:List AV} (x:IsTup h a vs.toArray) (y:bg h ρ vs l):VR h ρ (.ref a) (.tup l):=.tupI x y.length y.at
noncomputable def VR.I (h:Heap) (ρ:ab) (v:Value):AV→Prop
 | .none=>v=.none
 | .bool b=>v=.bool b
 | .int i=>∃ t,v=.int i t
 | .str s=>∃ t,v=.str s t
 | .tup l=>∃ a vs,v=.ref a∧IsTup h a (List.toArray vs)∧bg h ρ vs l
 | .lst _=>False
 | .ref n=>∃ p,ρ[n]?=some p∧v=.ref p.1
 | .rng a b c=>∃ r t u w,v=.ref r∧IsRange h r a b c t u w
theorem VR.inv {v:Value} {d:AV} (x:VR h ρ v d):VR.I h ρ v d:=by
 cases x with
 | none=>rfl
 | bool=>rfl
 | int=>exact⟨_,rfl⟩
 | str=>exact⟨_,rfl⟩
 | tupI a b c=>exact⟨_,_,rfl,a,bg.mk' b c⟩
 | ref a=>exact⟨_,a,rfl⟩
 | rng a=>exact⟨_,_,_,_,rfl,a⟩
theorem VR.keep {W:Addr→Prop} (e:nP W h h') (p:ρ <+: ρ') (n:∀ b o,h.get? b=some o→nO o→¬ W b) {v:Value} {d:AV} (x:VR h ρ v d):VR h' ρ' v d:=by
 induction x with
 | none=>exact .none
 | bool=>exact .bool _
 | int=>exact .int _ _
 | str=>exact .str _ _
 | tupI a b _ ih=>exact .tupI (cq (R:=fun o=>o.cls=_∧∃ n,o.data=_) (fun _ q=>q) (a.imp fun o y=>⟨e _ _ y.1 (n _ _ y.1 (.inl ⟨y.2.1,_,y.2.2⟩)),y.2⟩)) b ih
 | ref a=>exact .ref (p.elim fun _ q=>q▸(List.getElem?_append_left (bj a)).trans a)
 | rng a=>exact .rng (e _ _ a (n _ _ a (.inr ⟨rfl,_,rfl⟩)))
theorem bg.map {h h':Heap} {ρ ρ':ab} (k:∀ v d,VR h ρ v d→VR h' ρ' v d) {v:List Value} {d:List AV} (x:bg h ρ v d):bg h' ρ' v d:=by
 induction x with
 | nil=>exact .nil
 | cons a _ ih=>exact .cons (k _ _ a) ih
theorem bg.keep {W:Addr→Prop} (e:nP W h h') (p:ρ <+: ρ') (n:∀ b o,h.get? b=some o→nO o→¬ W b) {v:List Value} {d:List AV} (x:bg h ρ v d):bg h' ρ' v d:=x.map fun _ _=>VR.keep e p n
theorem tc {α β:Type} {a:Option α} {b:Option β} {y:β} (l:a.isSome=b.isSome) (e:b=some y):∃ x,a=some x:=Option.isSome_iff_exists.mp (l.trans (e▸rfl))
theorem bg.get {vs:List Value} {ds:List AV} (x:bg h ρ vs ds) {i:Nat} {d:AV} (e:ds[i]?=some d):∃ v,vs[i]?=some v∧VR h ρ v d:=
 have lt:i<vs.length:=x.length▸(bj e)
 ⟨_,gE lt,x.at i _ _ (gE lt) e⟩
theorem bg.append {vs ws:List Value} {ds es:List AV} (x:bg h ρ vs ds) (b:bg h ρ ws es):bg h ρ (vs++ws) (ds++es):=by
 induction x with
 | nil=>exact b
 | cons a _ ih=>exact .cons a ih
theorem bg.take {vs:List Value} {ds:List AV} (n:Nat) (x:bg h ρ vs ds):bg h ρ (vs.take n) (ds.take n):=by
 induction x generalizing n with
 | nil=>cases n <;> exact .nil
 | cons a _ ih=>
  cases n with
  | zero=>exact .nil
  | succ n=>exact .cons a (ih n)
theorem bg.drop {vs:List Value} {ds:List AV} (n:Nat) (x:bg h ρ vs ds):bg h ρ (vs.drop n) (ds.drop n):=by
 induction x generalizing n with
 | nil=>cases n <;> exact .nil
 | cons a b ih=>
  cases n with
  | zero=>exact .cons a b
  | succ n=>exact ih n
theorem bg.reverse {vs:List Value} {ds:List AV} (x:bg h ρ vs ds):bg h ρ vs.reverse ds.reverse:=by
 induction x with
 | nil=>exact .nil
 | cons a _ ih=>rw[List.reverse_cons,List.reverse_cons];exact ih.append (.cons a .nil)
theorem bg.set {vs:List Value} {ds:List AV} {v:Value} {d:AV} (n:Nat) (x:bg h ρ vs ds) (c:VR h ρ v d):bg h ρ (vs.set n v) (ds.set n d):=by
 induction x generalizing n with
 | nil=>exact .nil
 | cons a b ih=>
  cases n with
  | zero=>exact .cons c b
  | succ n=>exact .cons a (ih n)
theorem bg.dropLast {vs:List Value} {ds:List AV} (a:bg h ρ vs ds):bg h ρ vs.dropLast ds.dropLast:=by
 rw[List.dropLast_eq_take,List.dropLast_eq_take,a.length];exact a.take _
theorem bg.replicate {v:Value} {d:AV} (a:VR h ρ v d) (n:Nat):bg h ρ (List.replicate n v) (List.replicate n d):=by
 induction n with
 | zero=>exact .nil
 | succ n ih=>exact .cons a ih
theorem bg.flatReplicate {vs:List Value} {ds:List AV} (a:bg h ρ vs ds) (n:Nat):bg h ρ (List.replicate n vs).flatten (List.replicate n ds).flatten:=by
 induction n with
 | zero=>exact .nil
 | succ n ih=>exact a.append ih
end
theorem gM.keep {h h':Heap} {ρ ρ':ab} {W:Addr→Prop} (e:nP W h h') (p:ρ <+: ρ') (n:∀ b o,h.get? b=some o→nO o→¬ W b) {v d} (x:gM h ρ v d):gM h' ρ' v d:=x.imp_right fun y _ _ a b=>(y _ _ a b).keep e p n
theorem i4.keep {κ:Type} {h h':Heap} {ρ ρ':ab} {W:Addr→Prop} (e:nP W h h') (p:ρ <+: ρ') (n:∀ b o,h.get? b=some o→nO o→¬ W b) {v:List (κ×Addr×Value)} {d} (x:i4 h ρ v d):i4 h' ρ' v d:=by
 induction x with
 | nil=>exact .nil
 | cons a _ ih=>exact .cons (a.keep e p n) ih
theorem ow.keep {h h':Heap} {ρ ρ':ab} {W:Addr→Prop} (e:nP W h h') (p:ρ <+: ρ') (n:∀ b o,h.get? b=some o→nO o→¬ W b) {v:List DictEntry} {d} (x:ow h ρ v d):ow h' ρ' v d:=by
 induction x with
 | nil=>exact .nil
 | cons a _ ih=>exact .cons (a.keep e p n) ih
theorem dZ {prog:Program} {w:World} {κ:Type} [DecidableEq κ] {knd:KeyKind prog w κ} {h h':Heap} {d:Addr} {xs:List (List κ×Addr×Value)} {W:Addr→Prop} (e:nP W h h')
  (n:∀ b o,h.get? b=some o→nO o→¬ W b) (hd:∀ o,h.get? d=some o→h'.get? d=some o) (x:h.DictOfH (tupleKind knd) d xs):h'.DictOfH (tupleKind knd) d xs:=
 x.imp fun o=>Exists.imp fun _=>Exists.imp fun _ y=>⟨hd _ y.1,y.2.1,y.2.2.1,y.2.2.2.1,fun z hz=>(y.2.2.2.2.1 z hz).imp fun o'=>Exists.imp fun _=>Exists.imp fun _ a=>⟨e _ _ a.1 (n _ _ a.1 (.inl ⟨a.2.1,_,_,a.2.2.1⟩)),a.2⟩,y.2.2.2.2.2⟩
theorem OR.keep {C:Cx} {h h':Heap} {ρ ρ':ab} {W:Addr→Prop} (e:nP W h h') (p:ρ <+: ρ') (n:∀ b o,h.get? b=some o→nO o→¬ W b)
  {q:Addr×Addr} (hq:∀ o,h.get? q.2=some o→h'.get? q.2=some o) (hi:∀ o,h.get? q.1=some o→h'.get? q.1=some o) {o:aC} (x:OR C h ρ q o):OR C h' ρ' q o:=by
 cases o with
 | list l=>exact x.imp_right (Exists.imp fun _=>Exists.imp fun _=>And.imp (hq _) (·.keep e p n))
 | dI l=>exact x.imp_right (Exists.imp fun _=>And.imp (l9 hq) (And.imp_right fun c k=>(c k).keep e p n))
 | dT l=>exact x.imp_right (Exists.imp fun _=>And.imp (dZ e n hq) (·.keep e p n))
 | dS ep l=>
  refine x.imp_right (Exists.imp fun _ y=>⟨dZ e n hq y.1,y.2.1.keep e p n,fun o' es' e' x' y'=>?_⟩)
  obtain⟨o,_,_,z,_⟩:=y.1
  have w:=hq _ z
  rw[x'] at w
  exact y.2.2 _ _ _ (w▸z) y'
 | inst C l=>exact x.imp (hi _) (Exists.imp fun _=>Exists.imp fun _=>And.imp (hq _) (·.keep e p n))
 | frz xs ob=>exact x.imp (Exists.imp fun _=>And.imp_right (And.imp_left (cq hi))) (And.imp_left (hq _))
noncomputable def lJ (o:Obj):Prop:=(∃ vs n,o={ cls:=.type "list",data:=.seq vs n })∨∃ es n,o.data=.dict es n
theorem lJ.cell {o:Obj} {v:Option Value} (x:lJ o) (e:o.data=.cell v):False:=by
 rcases x with⟨_,_,rfl⟩ | ⟨_,_,y⟩
 ·cases e
 ·cases y.symm.trans e
theorem lJ.imm {o:Obj} (x:lJ o) (e:nO o):False:=by
 rcases x with⟨_,_,rfl⟩ | ⟨_,_,y⟩
 ·rcases e with⟨z,_⟩ | ⟨_,_,z⟩
  ·exact absurd (Value.type.inj z) (by decide)
  ·cases z
 ·rcases e with⟨_,_,_,z⟩ | ⟨_,_,z⟩ <;> cases y.symm.trans z
theorem OR.mut {C:Cx} {h:Heap} {ρ:ab} {q:Addr×Addr} {o:aC} (x:OR C h ρ q o):∃ ob,h.get? q.2=some ob∧lJ ob:=by
 cases o with
 | list l=>exact x.2.elim fun _ y=>y.elim fun _ z=>⟨_,z.1,.inl ⟨_,_,rfl⟩⟩
 | dI l=>exact x.2.elim fun _ y=>vf y.1 fun o es ep z r=>⟨o,z,.inr ⟨es,ep,r.2.1⟩⟩
 | dT l=>exact x.2.elim fun _ y=>vf y.1 fun o es ep z r=>⟨o,z,.inr ⟨es,ep,r.2.1⟩⟩
 | dS ep l=>exact x.2.elim fun _ y=>vf y.1 fun o es ep z r=>⟨o,z,.inr ⟨es,ep,r.2.1⟩⟩
 | inst C l=>exact x.2.elim fun _ y=>y.elim fun _ z=>⟨_,z.1,.inr ⟨_,_,rfl⟩⟩
 | frz xs ob=>exact⟨ob,x.2.1,.inr x.2.2⟩
theorem OR.one {C:Cx} {h:Heap} {ρ:ab} {p:Addr×Addr} {o:aC} (x:OR C h ρ p o):p.1=p.2∨(∃ c d,h.get? p.1=some (instObj c d))∨∃ o,C.h₀.get? p.1=some o:=by
 cases o with
 | list l=>exact .inl x.1
 | dI l=>exact .inl x.1
 | dT l=>exact .inl x.1
 | dS ep l=>exact .inl x.1
 | inst c l=>exact .inr (.inl ⟨_,_,x.1⟩)
 | frz xs ob=>exact .inr (.inr (x.1.elim fun _ y=>y.1.imp fun _ z=>z.1))
theorem jw {o:Obj} {es n v} {p:Prop} (a:o.data=.dict es n) (b:o.data=.cell v):p:=by cases a.symm.trans b
noncomputable def lK (o:Obj):Prop:=(∃ es n,o.data=.dict es n)∨∃ v,o.data=.cell v
theorem lK.imm {o:Obj} (x:lK o) (c:nO o):False:=by
 rcases x with⟨_,_,y⟩ | ⟨_,y⟩ <;> rcases c with⟨_,_,_,z⟩ | ⟨_,_,z⟩ <;> cases y.symm.trans z
noncomputable def eu (o:Obj):Prop:=(nO o→False)∧∀ c d,o≠instObj c d
theorem lK.side {o:Obj} (x:lK o):eu o:=⟨x.imm,fun c d e=>by rcases x with⟨_,_,y⟩ | ⟨_,y⟩ <;> (rw[e] at y;cases y)⟩
theorem kn {o:Obj} {vs:Array Value} (hd:o.data=.fields vs) (hcl:o.cls≠.type "range"):eu o:=
 ⟨fun c=>c.elim (fun z=>z.2.elim fun _ z=>z.elim fun _ z=>by cases hd.symm.trans z) fun z=>hcl z.1,fun c d e=>by rw[e] at hd;cases hd⟩
theorem kq {o:Obj} {vs:Array Value} (hd:o.data=.fields vs) (x:lJ o):False:=by
 rcases x with⟨_,_,rfl⟩ | ⟨_,_,y⟩
 ·cases hd
 ·cases y.symm.trans hd
theorem gy {o:Obj} {vs:Array Value} (hd:o.data=.fields vs) (x:lK o):False:=by
 rcases x with⟨_,_,y⟩ | ⟨_,y⟩ <;> cases y.symm.trans hd
theorem HR.mut {C:Cx} {ρ:ab} {hp:Hp} {h:Heap} (H:HR C ρ hp h) {b:Addr} (m:eK ρ b):∃ ob,h.get? b=some ob∧lJ ob:=by
 obtain⟨p,hm,rfl⟩:=m
 obtain⟨n,hn⟩:=List.mem_iff_getElem?.mp hm
 exact(H.obj n p _ hn (gE (H.len▸(bj hn)))).mut
theorem HR.isMut {C:Cx} {ρ:ab} {hp:Hp} {h:Heap} (H:HR C ρ hp h) {b:Addr} {o:Obj} (e:h.get? b=some o) (m:eK ρ b):lJ o:=by
 obtain⟨ob,x,y⟩:=H.mut m
 exact Option.some.inj (x.symm.trans e)▸y
theorem HR.noTup {C:Cx} {ρ:ab} {hp:Hp} {h:Heap} (H:HR C ρ hp h) (b:Addr) (o:Obj) (e:h.get? b=some o) (c:nO o):¬ eK ρ b:=fun m=>(H.isMut e m).imm c
theorem HR.noCell {C:Cx} {ρ:ab} {hp:Hp} {h:Heap} (H:HR C ρ hp h) {b:Addr} {v:Option Value} (e:h.IsCell b v):¬ eK ρ b:=fun m=>e.elim fun _ q=>(H.isMut q.1 m).cell q.2
theorem HR.noOld {C:Cx} {ρ:ab} {hp:Hp} {h:Heap} (H:HR C ρ hp h) (b:Addr) (o:Obj) (e:C.h₀.get? b=some o):¬ eK ρ b:=fun ⟨p,m,q⟩=>aF e (q▸H.new p m)
theorem HR.noNew {C:Cx} {ρ:ab} {hp:Hp} {h:Heap} (H:HR C ρ hp h) {b:Addr} (n:h.get? b=none):¬ eK ρ b:=fun m=>(H.mut m).elim fun _ x=>aF x.1 n
structure bD (ρ:ab) (h:Heap) (ρ':ab) (h':Heap):Prop where
 pre:ρ <+: ρ'
 ext:nP (eK ρ) h h'
 fresh:∀ b,eK ρ' b→eK ρ b∨h.get? b=none
 live:∀ b o,h.get? b=some o→∃ o',h'.get? b=some o'
theorem bD.refl (ρ:ab) (h:Heap):bD ρ h ρ h:=⟨List.prefix_rfl,nP.refl _ _,fun _ x=>.inl x,fun _ o e=>⟨o,e⟩⟩
theorem cJ {h h':Heap} (l:∀ b o,h.get? b=some o→∃ o',h'.get? b=some o') {b:Addr} (n:h'.get? b=none):h.get? b=none:=by
 cases e:h.get? b with
 | none=>rfl
 | some o=>exact(l b o e).elim fun _ x=>aF x n
theorem bD.trans {ρ ρ1 ρ2:ab} {h h1 h2:Heap} (a:bD ρ h ρ1 h1) (b:bD ρ1 h1 ρ2 h2):bD ρ h ρ2 h2:=
 ⟨a.pre.trans b.pre,fun x o e n=>b.ext x o (a.ext x o e n) fun m=>(a.fresh x m).elim n (aF e),fun x m=>(b.fresh x m).elim (a.fresh x) fun q=>.inr (cJ a.live q),fun x o e=>(a.live x o e).elim fun o'=>b.live x o'⟩
theorem bD.grow (ρ:ab) {h h':Heap} (e:∀ b o,h.get? b=some o→h'.get? b=some o):bD ρ h ρ h':=⟨List.prefix_rfl,fun b o x _=>e b o x,fun _ x=>.inl x,fun b o x=>⟨o,e b o x⟩⟩
theorem HR.vr {C:Cx} {ρ ρ':ab} {hp:Hp} {h h':Heap} (H:HR C ρ hp h) (e:bD ρ h ρ' h') {v:Value} {d:AV} (x:VR h ρ v d):VR h' ρ' v d:=x.keep e.ext e.pre H.noTup
theorem HR.vrs {C:Cx} {ρ ρ':ab} {hp:Hp} {h h':Heap} (H:HR C ρ hp h) (e:bD ρ h ρ' h') {v:List Value} {d:List AV} (x:bg h ρ v d):bg h' ρ' v d:=x.keep e.ext e.pre H.noTup
theorem HR.grow {C:Cx} {ρ:ab} {hp:Hp} {h h':Heap} (H:HR C ρ hp h) (e:∀ b o,h.get? b=some o→h'.get? b=some o):HR C ρ hp h':=
 have E:nP (fun _=>False) h h':=fun b o x _=>e b o x
 ⟨fun b o x=>e _ _ (H.keep b o x),H.len,fun n p o a b=>(H.obj n p o a b).keep E (List.prefix_rfl) (fun _ _ _ _ x=>x) (fun o x=>e _ _ x) (fun o x=>e _ _ x),H.apart,H.new,H.big⟩
theorem HR.but {C:Cx} {ρ:ab} {hp:Hp} {h h':Heap} (H:HR C ρ hp h) {a:Addr} {oa:Obj} (ha:h.get? a=some oa) (hn:¬ eK ρ a) (hd:eu oa) (ho:C.h₀.get? a=none)
  (e:∀ b o,b≠a→h.get? b=some o→h'.get? b=some o):HR C ρ hp h':=by
 have E:nP (fun b=>b=a) h h':=fun b o x y=>e b o y x
 refine⟨fun b o x=>e _ _ (fun q=>aF x (q▸ho)) (H.keep b o x),H.len,fun n p o x y=>(H.obj n p o x y).keep E (List.prefix_rfl) (fun b o z c y=>hd.1 (Option.some.inj (z.symm.trans (y▸ha))▸c)) (fun o' z=>e _ _ (fun q=>hn ⟨p,List.mem_of_getElem? x,q⟩) z) (fun o' z=>e _ _ (fun q=>?_) z),H.apart,H.new,H.big⟩
 rcases(H.obj n p o x y).one with s | ⟨c,d,s⟩ | ⟨o,s⟩
 ·exact hn ⟨p,List.mem_of_getElem? x,s▸q⟩
 ·rw[q] at s;exact hd.2 c d (Option.some.inj (ha.symm.trans s))
 ·exact aF s (q▸ho)
theorem HR.vr_but {C:Cx} {ρ:ab} {hp:Hp} {h h':Heap} (H:HR C ρ hp h) {a:Addr} {oa:Obj} (ha:h.get? a=some oa) (hd:eu oa)
  (e:∀ b o,b≠a→h.get? b=some o→h'.get? b=some o) {v:Value} {d:AV} (x:VR h ρ v d):VR h' ρ v d:=
 x.keep (W:=fun b=>b=a) (fun b o x y=>e b o y x) List.prefix_rfl fun b o z c y=>hd.1 (Option.some.inj (z.symm.trans (y▸ha))▸c)
theorem FR.keep {C:Cx} {env:Env} {ρ ρ':ab} {loc:aX} {h h':Heap} (F:FR C env ρ loc h) (kL:∀ o,h.get? env.locals=some o→h'.get? env.locals=some o) (kC:∀ {c ov},h.IsCell c ov→h'.IsCell c ov) (tv:∀ {v x},VR h ρ v x→VR h' ρ' v x) (ap:∀ p∈ρ',p.2≠env.locals):FR C env ρ' loc h':=
 ⟨F.kind,F.glob,F.bi,F.ns.imp fun m y=>⟨l9 kL y.1,fun x d a b=>(y.2 x d a b).imp fun v z=>⟨z.1,tv z.2⟩⟩,fun x k=>(F.cell x k).imp fun c=>Exists.imp fun ov=>And.imp_right kC,
  fun x d a b=>(F.cellv x d a b).imp fun c=>Exists.imp fun v=>And.imp_right (And.imp kC tv),ap,F.newL,F.newC,F.injC⟩
theorem FR.step {C:Cx} {env:Env} {ρ ρ':ab} {loc:aX} {hp:Hp} {h h':Heap} (F:FR C env ρ loc h) (H:HR C ρ hp h) (e:bD ρ h ρ' h'):FR C env ρ' loc h':=
 have hL:¬ eK ρ env.locals:=fun m=>m.elim fun p x=>F.apL p x.1 x.2
 F.keep (fun o z=>e.ext _ _ z hL) (fun z=>cq (fun o q=>e.ext _ _ q (H.noCell z)) z) (H.vr e) fun p hp' q=>(e.fresh _ ⟨p,hp',q⟩).elim hL fun z=>F.ns.elim fun m y=>vf y.1 fun _ _ _ w _=>aF w z
noncomputable abbrev WE:=aX→Hp→(AV→Hp→Prop)→Prop
noncomputable abbrev WL:=aX→Hp→(List AV→Hp→Prop)→Prop
noncomputable abbrev WB:=aX→Hp→(Bool→Hp→Prop)→Prop
inductive Fl where
 | next | brk | cont
 | ret (v:AV)
noncomputable abbrev WS:=aX→Hp→(Fl→aX→Hp→Prop)→Prop
noncomputable def g9 (C:Cx) (ρ:ab) (s:Shared) (P:AV→Hp→Prop) (Q:Value→Shared→Prop):Prop:=
 ∀ v d ρ' hp' h' tk,P d hp'→bD ρ s.heap ρ' h'→HR C ρ' hp' h'→VR h' ρ' v d→Q v { s with heap:=h',toks:=tk }
noncomputable def td (C:Cx) (ρ:ab) (s:Shared) (P:List AV→Hp→Prop) (Q:List Value→Shared→Prop):Prop:=
 ∀ v d ρ' hp' h' tk,P d hp'→bD ρ s.heap ρ' h'→HR C ρ' hp' h'→bg h' ρ' v d→Q v { s with heap:=h',toks:=tk }
noncomputable def qH (C:Cx) (ρ:ab) (s:Shared) (P:Bool→Hp→Prop) (Q:Bool→Shared→Prop):Prop:=
 ∀ b ρ' hp' h' tk,P b hp'→bD ρ s.heap ρ' h'→HR C ρ' hp' h'→Q b { s with heap:=h',toks:=tk }
noncomputable def SE (C:Cx) (d:Nat) (sc:Scope) (e:Expr) (W:WE):Prop:=
 ∀ (A:Around) (env:Env) (ρ:ab) (loc:aX) (hp:Hp) (s:Shared) (Q:Value→Shared→Prop) (E:Value→Shared→Prop) (P:AV→Hp→Prop),
  env.scope=sc→c8 d A→HR C ρ hp s.heap→FR C env ρ loc s.heap→W loc hp P→g9 C ρ s P Q→wpAny C.M A (eval e env) Q E s
noncomputable def SL (C:Cx) (d:Nat) (sc:Scope) (es:List Expr) (W:WL):Prop:=
 ∀ (A:Around) (env:Env) (ρ:ab) (loc:aX) (hp:Hp) (s:Shared) (Q:List Value→Shared→Prop) (E:Value→Shared→Prop) (P:List AV→Hp→Prop) (pos:Pos),
  env.scope=sc→c8 d A→HR C ρ hp s.heap→FR C env ρ loc s.heap→W loc hp P→td C ρ s P Q→wpAny C.M A (spliced (backTo pos (starEach es env))) Q E s
noncomputable def SB (C:Cx) (d:Nat) (sc:Scope) (e:Expr) (W:WB):Prop:=
 ∀ (A:Around) (env:Env) (ρ:ab) (loc:aX) (hp:Hp) (s:Shared) (Q:Bool→Shared→Prop) (E:Value→Shared→Prop) (P:Bool→Hp→Prop),
  env.scope=sc→c8 d A→HR C ρ hp s.heap→FR C env ρ loc s.heap→W loc hp P→qH C ρ s P Q→wpAny C.M A (isTrue e env (eval e env)) Q E s
inductive IK (h:Heap) (ρ:ab):Flow→Fl→Prop
 | next:IK h ρ .next .next
 | brk:IK h ρ .brk .brk
 | cont:IK h ρ .cont .cont
 | ret {v d}:VR h ρ v d→IK h ρ (.ret v) (.ret d)
structure b9 (C:Cx) (env:Env) (ρ:ab) (h:Heap) (ρ':ab) (h':Heap):Prop where
 pre:ρ <+: ρ'
 ext:nP (fun b=>eK ρ b∨b=env.locals∨∃ x,env.kindOf x=some .cell∧env.cells.lookup x=some b) h h'
 fresh:∀ b,eK ρ' b→eK ρ b∨h.get? b=none
 live:∀ b o,h.get? b=some o→∃ o',h'.get? b=some o'
noncomputable def qI (C:Cx) (env:Env) (ρ:ab) (s:Shared) (P:Fl→aX→Hp→Prop) (Q:Flow→Shared→Prop):Prop:=
 ∀ f d ρ' loc' hp' h' tk,P d loc' hp'→b9 C env ρ s.heap ρ' h'→HR C ρ' hp' h'→FR C env ρ' loc' h'→IK h' ρ' f d→Q f { s with heap:=h',toks:=tk }
noncomputable def SX (C:Cx) (d:Nat) (sc:Scope) (st:Stmt) (W:WS):Prop:=
 ∀ (A:Around) (env:Env) (ρ:ab) (loc:aX) (hp:Hp) (s:Shared) (Q:Flow→Shared→Prop) (E:Value→Shared→Prop) (P:Fl→aX→Hp→Prop),
  env.scope=sc→c8 d A→HR C ρ hp s.heap→FR C env ρ loc s.heap→W loc hp P→qI C env ρ s P Q→wpAny C.M A (exec st env) Q E s
noncomputable def SS (C:Cx) (d:Nat) (sc:Scope) (st:List Stmt) (W:WS):Prop:=
 ∀ (A:Around) (env:Env) (ρ:ab) (loc:aX) (hp:Hp) (s:Shared) (Q:Flow→Shared→Prop) (E:Value→Shared→Prop) (P:Fl→aX→Hp→Prop),
  env.scope=sc→c8 d A→HR C ρ hp s.heap→FR C env ρ loc s.heap→W loc hp P→qI C env ρ s P Q→wpAny C.M A (execs st env) Q E s
theorem b9.of {C:Cx} {env:Env} {ρ ρ':ab} {h h':Heap} (a:bD ρ h ρ' h'):b9 C env ρ h ρ' h':=⟨a.pre,fun b o e n=>a.ext b o e fun m=>n (.inl m),a.fresh,a.live⟩
theorem b9.refl {C:Cx} {env:Env} (ρ:ab) (h:Heap):b9 C env ρ h ρ h:=.of (.refl ρ h)
theorem b9.trans {C:Cx} {env:Env} {ρ ρ1 ρ2:ab} {h h1 h2:Heap} (a:b9 C env ρ h ρ1 h1) (b:b9 C env ρ1 h1 ρ2 h2):b9 C env ρ h ρ2 h2:=
 ⟨a.pre.trans b.pre,fun x o e n=>b.ext x o (a.ext x o e n) fun m=>m.elim (fun m=>(a.fresh x m).elim (fun q=>n (.inl q)) (aF e)) fun m=>n (.inr m),fun x m=>(b.fresh x m).elim (a.fresh x) fun q=>.inr (cJ a.live q),fun x o e=>(a.live x o e).elim fun o'=>b.live x o'⟩
theorem g9.after {C:Cx} {ρ ρ1:ab} {s:Shared} {h1:Heap} {tk:Tok} {P:AV→Hp→Prop} {Q:Value→Shared→Prop} (p:g9 C ρ s P Q) (st:bD ρ s.heap ρ1 h1):g9 C ρ1 { s with heap:=h1,toks:=tk } P Q:=
 fun v d ρ' hp' h' tk' x y z w=>p v d ρ' hp' h' tk' x (st.trans y) z w
theorem td.after {C:Cx} {ρ ρ1:ab} {s:Shared} {h1:Heap} {tk:Tok} {P:List AV→Hp→Prop} {Q:List Value→Shared→Prop} (p:td C ρ s P Q) (st:bD ρ s.heap ρ1 h1):td C ρ1 { s with heap:=h1,toks:=tk } P Q:=
 fun v d ρ' hp' h' tk' x y z w=>p v d ρ' hp' h' tk' x (st.trans y) z w
theorem qH.after {C:Cx} {ρ ρ1:ab} {s:Shared} {h1:Heap} {tk:Tok} {P:Bool→Hp→Prop} {Q:Bool→Shared→Prop} (p:qH C ρ s P Q) (st:bD ρ s.heap ρ1 h1):qH C ρ1 { s with heap:=h1,toks:=tk } P Q:=
 fun v ρ' hp' h' tk' x y z=>p v ρ' hp' h' tk' x (st.trans y) z
theorem qI.after {C:Cx} {env:Env} {ρ ρ1:ab} {s:Shared} {h1:Heap} {tk:Tok} {P:Fl→aX→Hp→Prop} {Q:Flow→Shared→Prop} (p:qI C env ρ s P Q) (st:b9 C env ρ s.heap ρ1 h1):qI C env ρ1 { s with heap:=h1,toks:=tk } P Q:=
 fun f d ρ' loc' hp' h' tk' x y z w v=>p f d ρ' loc' hp' h' tk' x (st.trans y) z w v
theorem VR.pre {h:Heap} {ρ ρ':ab} (p:ρ <+: ρ') {v:Value} {d:AV} (x:VR h ρ v d):VR h ρ' v d:=x.keep (W:=fun _=>False) (fun _ _ e _=>e) p (fun _ _ _ _ x=>x)
theorem wl (h:Heap):h.get? h.objs.size=none:=by
 cases e:h.get? h.objs.size with
 | none=>rfl
 | some o=>exact absurd (Heap.lt_size e) (Nat.lt_irrefl _)
theorem HR.lt {C:Cx} {ρ:ab} {hp:Hp} {h:Heap} (H:HR C ρ hp h):sysModules<h.objs.size:=by
 obtain⟨o,es,ep,ho,_⟩:=C.T.g
 have:=Heap.lt_size (H.keep _ _ ho)
 exact Nat.lt_trans (by decide) this
theorem HR.notSys {C:Cx} {ρ:ab} {hp:Hp} {h:Heap} (H:HR C ρ hp h) {n:Nat} {p:Addr×Addr} (e:ρ[n]?=some p):(p.2 == sysModules)=false:=
 beq_eq_false_iff_ne.mpr (Nat.ne_of_gt (H.big p (List.mem_of_getElem? e)))
theorem zL {ρ:ab} (r:ab) {n:Nat} {p:Addr×Addr} (e:ρ[n]?=some p):(ρ++r)[n]?=some p:=(List.getElem?_append_left (bj e)).trans e
theorem oz {α:Type} {l:List α} {x y:α} {n:Nat} (e:(l++[x])[n]?=some y):l[n]?=some y∨(n=l.length∧y=x):=by
 rcases Nat.lt_or_ge n l.length with c | c
 ·exact .inl ((List.getElem?_append_left c).symm.trans e)
 ·have z:=(List.getElem?_append_right c).symm.trans e
  have w:=(bj z)
  have u:n-l.length=0:=Nat.le_zero.mp (Nat.le_of_lt_succ w)
  rw[u] at z
  exact .inr ⟨Nat.le_antisymm (Nat.le_of_sub_eq_zero u) c,(Option.some.inj z).symm⟩
theorem HR.join {C:Cx} {ρ:ab} {hp:Hp} {h:Heap} (H:HR C ρ hp h) {p:Addr×Addr} {o:aC} (hn:¬ eK ρ p.2) (ho:C.h₀.get? p.2=none) (big:sysModules<p.2) (O:OR C h (ρ++[p]) p o):HR C (ρ++[p]) (hp++[o]) h:=by
 have hne:∀ (n:Nat) (q:Addr×Addr),ρ[n]?=some q→q.2≠p.2:=fun n q e z=>hn ⟨q,List.mem_of_getElem? e,z⟩
 have mem:∀ q∈ρ++[p],q∈ρ∨q=p:=fun q m=>(List.mem_append.mp m).imp_right List.mem_singleton.mp
 refine⟨H.keep,by rw[List.length_append,List.length_append,H.len];rfl,fun n q ob x y=>?_,fun n m q r x y z=>?_,fun q hq=>(mem q hq).elim (H.new q) fun e=>e▸ho,fun q hq=>(mem q hq).elim (H.big q) fun e=>e▸big⟩
 ·rcases oz x with x | ⟨l,rfl⟩
  ·rcases oz y with y | ⟨l,_⟩
   ·exact(H.obj n q ob x y).keep (W:=fun _=>False) (fun b o x _=>x) (List.prefix_append _ _) (fun _ _ _ _ z=>z) (fun o z=>z) (fun o z=>z)
   ·exact absurd (bj x) (by rw[l,H.len];exact Nat.lt_irrefl _)
  ·rw[l,H.len,List.getElem?_concat_length] at y;exact Option.some.inj y▸O
 ·rcases oz x with x' | ⟨e1,e2⟩ <;> rcases oz y with y' | ⟨e3,e4⟩
  ·exact H.apart n m q r x' y' z
  ·exact absurd (e4▸z) (hne n q x')
  ·exact absurd (e2▸z.symm) (hne m r y')
  ·rw[e1,e3]
theorem HR.none_of {C:Cx} {ρ:ab} {hp:Hp} {h:Heap} (H:HR C ρ hp h) {b:Addr} (e:h.get? b=none):C.h₀.get? b=none:=by
 cases q:C.h₀.get? b with
 | none=>rfl
 | some o=>exact aF (H.keep b o q) e
theorem HR.new1 {C:Cx} {ρ:ab} {hp:Hp} {h h':Heap} (H:HR C ρ hp h) (k:∀ b o,h.get? b=some o→h'.get? b=some o) {p:Addr×Addr} {o:aC} (fr:h.get? p.2=none) (big:sysModules<p.2) (O:OR C h' (ρ++[p]) p o) :
  HR C (ρ++[p]) (hp++[o]) h'∧bD ρ h (ρ++[p]) h':=
 ⟨(H.grow k).join (H.noNew fr) (H.none_of fr) big O,List.prefix_append _ _,fun b o x _=>k b o x,fun b m=>m.elim fun q w=>(List.mem_append.mp w.1).imp (fun a=>⟨q,a,w.2⟩) fun e=>by rw[← w.2,List.mem_singleton.mp e];exact fr,fun b o x=>⟨o,k b o x⟩⟩
theorem HR.set1 {C:Cx} {ρ:ab} {hp:Hp} {h h':Heap} (H:HR C ρ hp h) {n:Nat} {p:Addr×Addr} {o:aC} (hn:ρ[n]?=some p) (k:∀ b o,b≠p.2→h.get? b=some o→h'.get? b=some o) (O:OR C h' ρ p o) :
  HR C ρ (hp.set n o) h'∧bD ρ h ρ h':=by
 have mp:=List.mem_of_getElem? hn
 have hm:eK ρ p.2:=⟨p,mp,rfl⟩
 have E:nP (fun b=>b=p.2) h h':=fun b o x y=>k b o y x
 refine⟨⟨fun b o x=>k _ _ (fun q=>aF x (q▸H.new p mp)) (H.keep b o x),by rw[List.length_set,H.len],fun m q ob x y=>?_,H.apart,H.new,H.big⟩,
  ⟨List.prefix_rfl,fun b o x y=>k _ _ (fun q=>y (q▸hm)) x,fun b m=>.inl m,fun b o x=>?_⟩⟩
 ·by_cases e:m=n
  ·subst e
   rw[List.getElem?_set_self (by rw[← H.len];exact(bj hn))] at y
   exact Option.some.inj (hn.symm.trans x)▸Option.some.inj y▸O
  ·rw[List.getElem?_set_ne (Ne.symm e)] at y
   have OO:=H.obj m q ob x y
   have ne:q.2≠p.2:=fun z=>e (H.apart m n q p x hn z)
   refine OO.keep E (List.prefix_rfl) (fun b o z c w=>H.noTup b o z c (w▸hm)) (fun o z=>k _ _ ne z) (fun o z=>k _ _ (fun w=>?_) z)
   rcases OO.one with u | ⟨c,d,u⟩ | ⟨o,u⟩
   ·exact ne (u.symm.trans w)
   ·rw[w] at u
    rcases H.isMut u hm with⟨_,_,b⟩ | ⟨_,_,b⟩
    ·exact absurd (congrArg Obj.dict b) (by simp)
    ·cases b
   ·exact aF u (w▸H.new p mp)
 ·by_cases e:b=p.2
  ·rw[e];exact O.mut.imp fun _=>And.left
  ·exact⟨o,k _ _ e x⟩
theorem HR.at {C:Cx} {ρ:ab} {hp:Hp} {h:Heap} (H:HR C ρ hp h) {n:Nat} {o:aC} {v:Value} (e:hp[n]?=some o) (x:VR h ρ v (.ref n)):∃ p,ρ[n]?=some p∧v=.ref p.1∧OR C h ρ p o:=x.inv.imp fun _ q=>⟨q.1,q.2,H.obj _ _ _ q.1 e⟩
theorem VR.tup' {h:Heap} {ρ:ab} {v:Value} {l:List AV} (x:VR h ρ v (.tup l)):∃ a vs,v=.ref a∧IsTup h a vs.toArray∧bg h ρ vs l:=x.inv
inductive yy (ρ:ab) (h:Heap) (l:List AV):Value→Prop
 | mk (a vs dd sl n):h.get? a=some { cls:=.type "tuple",dict:=dd,data:=.seq (List.toArray vs) n,slots:=sl }→bg h ρ vs l→yy ρ h l (.ref a)
theorem VR.tupAt {h:Heap} {ρ:ab} {v:Value} {l:List AV} (x:VR h ρ v (.tup l)):yy ρ h l v:=by
 obtain⟨a,vs,rfl,⟨⟨_,dd,_,sl⟩,ho,rfl,n,rfl⟩,hs⟩:=x.inv
 exact⟨a,vs,dd,sl,n,ho,hs⟩
theorem yy.is {ρ:ab} {h:Heap} {l:List AV} {a:Addr} {vs:List Value} {dd sl n} (ho:h.get? a=some { cls:=.type "tuple",dict:=dd,data:=.seq (List.toArray vs) n,slots:=sl }):IsTup h a vs.toArray:=⟨_,ho,rfl,n,rfl⟩
inductive Ks (ρ:ab) (h:Heap) (n:Nat) (l:List AV):Value→Prop
 | mk (a vs k):ρ[n]?=some (a,a)→h.get? a=some { cls:=.type "list",data:=.seq (List.toArray vs) k }→bg h ρ vs l→Ks ρ h n l (.ref a)
theorem HR.listAt {C:Cx} {ρ:ab} {hp:Hp} {h:Heap} (H:HR C ρ hp h) {n:Nat} {l:List AV} {v:Value} (e:hp[n]?=some (.list l)) (x:VR h ρ v (.ref n)):Ks ρ h n l v:=by
 obtain⟨⟨a,b⟩,hp',rfl,(rfl:a=b),vs,k,ho,hs⟩:=H.at e x
 exact⟨a,vs.toList,k,hp',ho,hs⟩
section
variable {C:Cx} {d:Nat} {sc:Scope}
theorem bx {h:Heap} {a:Addr} {vs:List Value} {k:Nat} (e:h.get? a=some { cls:=.type "list",data:=.seq vs.toArray k }):h.IsList a vs.toArray:=⟨_,e,rfl,k,rfl⟩
theorem i8 {s:Shared} {ρ:ab} {hp:Hp} {vs:List Value} {ds:List AV} (H:HR C ρ hp s.heap) (R:bg s.heap ρ vs ds) :
  (HR C (ρ++[(s.heap.objs.size,s.heap.objs.size)]) (hp++[.list ds]) (s.heap.push { cls:=.type "list",data:=.seq vs.toArray })∧bD ρ s.heap (ρ++[(s.heap.objs.size,s.heap.objs.size)]) (s.heap.push { cls:=.type "list",data:=.seq vs.toArray }))∧
   VR (s.heap.push { cls:=.type "list",data:=.seq vs.toArray }) (ρ++[(s.heap.objs.size,s.heap.objs.size)]) (.ref s.heap.objs.size) (.ref hp.length):=
 ⟨H.new1 (fun b o e=>Heap.get?_push_of_some _ e) (p:=(s.heap.objs.size,s.heap.objs.size)) (o:=.list ds) (wl _) H.lt
  ⟨rfl,vs.toArray,0,Heap.get?_push_size _ rfl,bg.keep (W:=fun _=>False) (fun b o e _=>Heap.get?_push_of_some _ e) (List.prefix_append _ _) (fun _ _ _ _ z=>z) R⟩,
  VR.ref (p:=(s.heap.objs.size,s.heap.objs.size)) (by rw[← H.len];exact List.getElem?_concat_length)⟩
theorem ku {s:Shared} {ρ:ab} {hp:Hp} {vs:List Value} {ds:List AV} (H:HR C ρ hp s.heap) (R:bg s.heap ρ vs ds) :
  (bD ρ s.heap ρ (s.heap.push { cls:=.type "tuple",data:=.seq vs.toArray })∧HR C ρ hp (s.heap.push { cls:=.type "tuple",data:=.seq vs.toArray }))∧VR (s.heap.push { cls:=.type "tuple",data:=.seq vs.toArray }) ρ (.ref s.heap.objs.size) (.tup ds):=
 have k:∀ b o,s.heap.get? b=some o→(s.heap.push { cls:=.type "tuple",data:=.seq vs.toArray }).get? b=some o:=fun b o e=>Heap.get?_push_of_some _ e
 ⟨⟨bD.grow ρ k,H.grow k⟩,VR.tup (IsTup.new _ _) (bg.keep (W:=fun _=>False) (fun b o e _=>k b o e) (List.prefix_rfl) (fun _ _ _ _ z=>z) R)⟩
theorem ug {M:Model} {A:Around} {E:Value→Shared→Prop} {s:Shared} {ρ:ab} {hp:Hp} {vs:List Value} {ds:List AV} {Q:Value→Shared→Prop} {P:AV→Hp→Prop} (H:HR C ρ hp s.heap) (R:bg s.heap ρ vs ds) (hsz:ds.length≤sizeLine)
  (hP:P (.ref hp.length) (hp++[.list ds])) (post:g9 C ρ s P Q):wpAny M A (newList vs) Q E s:=
 wpAny_newObj_type (T:="list") (data:=.seq vs.toArray) (post _ _ _ _ _ _ hP (i8 H R).1.2 (i8 H R).1.1 (i8 H R).2) (by show vs.toArray.size≤sizeLine;rw[List.size_toArray,R.length];exact hsz)
theorem rz {M:Model} {A:Around} {E:Value→Shared→Prop} {s:Shared} {ρ:ab} {hp:Hp} {vs:List Value} {ds:List AV} {Q:Value→Shared→Prop} {P:AV→Hp→Prop} (H:HR C ρ hp s.heap) (R:bg s.heap ρ vs ds) (hsz:ds.length≤sizeLine)
  (hP:P (.tup ds) hp) (post:g9 C ρ s P Q):wpAny M A (newTuple vs) Q E s:=
 wpAny_newObj_type (T:="tuple") (data:=.seq vs.toArray) (post _ _ _ _ _ _ hP (ku H R).1.1 (ku H R).1.2 (ku H R).2) (by show vs.toArray.size≤sizeLine;rw[List.size_toArray,R.length];exact hsz)
noncomputable def wK (x:AV) (_loc:aX) (hp:Hp) (P:AV→Hp→Prop):Prop:=P x hp
noncomputable def wV (x:String) (loc:aX) (hp:Hp) (P:AV→Hp→Prop):Prop:=match getL loc x with
 | some y=>P y hp
 | none=>False
theorem zM {x:String} {loc:aX} {hp:Hp} {P:AV→Hp→Prop} (h:wV x loc hp P):∃ y,getL loc x=some y∧P y hp:=by
 unfold wV at h
 cases e:getL loc x with
 | none=>rw[e] at h;exact h.elim
 | some y=>rw[e] at h;exact⟨y,rfl,h⟩
theorem CW {i:Int} {k:Nat} {pos:Pos}:SE C d sc (.Constant (.int i) k pos) (wK (.int i)):=fun A env ρ loc hp s Q E P _ r H F hw post=>
 wpAny_Constant_int (post _ _ ρ hp s.heap _ hw (.refl _ _) H (.int _ _))
theorem CX {x:Str} {k:Nat} {pos:Pos}:SE C d sc (.Constant (.str x) k pos) (wK (.str x)):=fun A env ρ loc hp s Q E P _ r H F hw post=>
 Calls.Constant_str (post _ _ ρ hp s.heap _ hw (.refl _ _) H (.str _ _))
theorem zN {k:Nat} {pos:Pos}:SE C d sc (.Constant .none k pos) (wK .none):=fun A env ρ loc hp s Q E P _ r H F hw post=>
 wpAny_pure (post _ _ ρ hp s.heap s.toks hw (.refl _ _) H .none)
theorem jW {b:Bool} {k:Nat} {pos:Pos}:SE C d sc (.Constant (.bool b) k pos) (wK (.bool b)):=fun A env ρ loc hp s Q E P _ r H F hw post=>
 wpAny_pure (post _ _ ρ hp s.heap s.toks hw (.refl _ _) H (.bool _))
theorem eY {a b:String} (h:Str.ofString a=Str.ofString b):a=b:=by
 rw[Str.ofString_eq_toList,Str.ofString_eq_toList] at h
 injection h with h
 have h:=congrArg Array.toList h
 simp only at h
 apply String.toList_inj.mp
 exact List.map_inj_right (fun x y e=>Char.ext (UInt32.toNat_inj.mp e)) |>.mp h
theorem wm {x:String} {pos:Pos} (hk:sc.names.lookup (Str.ofString x)=some .local∨sc.names.lookup (Str.ofString x)=some .cell) (hd:(Str.ofString x == ("__debug__" : Str))=false):SE C d sc (.Name (Str.ofString x) pos) (wV x):=by
 intro A env ρ loc hp s Q E P hsc r H F hw0 post
 refine(zM hw0).elim fun y w=>wpAny_Name (nn fun ng=>?_) hd
 subst hsc
 rcases hk with hk | hk
 ·obtain⟨m,hm,hv⟩:=F.ns
  exact(hv x y w.1 hk).elim fun v z=>ng (wpAny_loadName_local F.kind hk hm z.1 (post _ _ ρ hp s.heap _ w.2 (.refl _ _) H z.2))
 ·obtain⟨c,v,h1,h2,h3⟩:=F.cellv x y w.1 hk
  exact ng (wpAny_loadName_cell F.kind hk h1 h2 (post _ _ ρ hp s.heap _ w.2 (.refl _ _) H h3))
theorem zO {x:String} {pos:Pos} (hk:autoParam (sc.names.lookup (Str.ofString x)=some .local) au) (hd:autoParam ((Str.ofString x == ("__debug__" : Str))=false) au):SE C d sc (.Name (Str.ofString x) pos) (wV x):=wm (.inl hk) hd
theorem zP {x:String} {pos:Pos} (hk:autoParam (sc.names.lookup (Str.ofString x)=some .cell) au) (hd:autoParam ((Str.ofString x == ("__debug__" : Str))=false) au):SE C d sc (.Name (Str.ofString x) pos) (wV x):=wm (.inr hk) hd
theorem CY {x:String} {pos:Pos} {i:Int} {t:Tok} (hx:sc.names.lookup (Str.ofString x)=some .globalImplicit) (hn:nsIn C.K mainGlobals (Str.ofString x)=some (some (.int i t))) (hd:(Str.ofString x == ("__debug__" : Str))=false) :
  SE C d sc (.Name (Str.ofString x) pos) (wK (.int i)):=by
 intro A env ρ loc hp s Q E P hsc r H F hw post
 subst hsc
 exact Calls.Name_function_global F.kind hx (Calls.loadGlobal_global (by rw[F.glob];exact C.T.g.keeps H.keep) (mg_of C.X C.T.g hn) (post _ _ ρ hp s.heap _ hw (.refl _ _) H (.int _ _))) hd
noncomputable def wN (_loc:aX) (hp:Hp) (P:List AV→Hp→Prop):Prop:=P [] hp
noncomputable def wC (x:WE) (r:WL) (loc:aX) (hp:Hp) (P:List AV→Hp→Prop):Prop:=x loc hp fun a hp1=>r loc hp1 fun l hp2=>P (a::l) hp2
theorem CZ:SL C d sc [] wN:=fun A env ρ loc hp s Q E P pos _ r H F hw post=>Calls.spliced_nil (post _ _ ρ hp s.heap s.toks hw (.refl _ _) H .nil)
noncomputable def sC (e:Expr):Bool:=!(Nat.beq e.ctorIdx 22)
theorem du {e:Expr} {es:List Expr} {env:Env} (h:sC e=true):starEach (e::es) env=(false,eval e env)::starEach es env:=by
 cases e <;> first | rfl | exact absurd (show false=true from h) (by decide)
theorem zQ {e:Expr} {es:List Expr} {W:WE} {R:WL} (he:SE C d sc e W) (hr:SL C d sc es R) (hs:autoParam (sC e=true) au):SL C d sc (e::es) (wC W R):=by
 intro A env ρ loc hp s Q E P pos hsc r H F hw post
 rw[du hs]
 show wpAny C.M A (spliced ((false,eval e env)::backTo pos (starEach es env))) Q E s
 refine Calls.spliced_cons ?_
 refine he A env ρ loc hp s _ E _ hsc r H F hw fun v a ρ1 hp1 h1 tk1 hw1 st1 H1 V1=>?_
 refine hr A env ρ1 loc hp1 { s with heap:=h1,toks:=tk1 } _ E _ pos hsc r H1 (F.step H st1) hw1 fun vs l ρ2 hp2 h2 tk2 hw2 st2 H2 V2=>?_
 exact post _ _ _ _ _ _ hw2 (st1.trans st2) H2 (.cons (H1.vr st2 V1) V2)
noncomputable def wU (l:WL) (loc:aX) (hp:Hp) (P:AV→Hp→Prop):Prop:=l loc hp fun xs hp1=>xs.length≤sizeLine∧P (.tup xs) hp1
noncomputable def wL (l:WL) (loc:aX) (hp:Hp) (P:AV→Hp→Prop):Prop:=l loc hp fun xs hp1=>xs.length≤sizeLine∧P (.ref hp1.length) (hp1++[.list xs])
theorem wn {es:List Expr} {k:Nat} {pos:Pos} {W:WL} (h:SL C d sc es W):SE C d sc (.Tuple es k pos) (wU W):=by
 intro A env ρ loc hp s Q E P hsc r H F hw post
 refine Tuple_ (h A env ρ loc hp s _ E _ pos hsc r H F hw fun vs l ρ1 hp1 h1 tk1 hw1 st1 H1 V1=>?_)
 exact rz (s:={ s with heap:=h1,toks:=tk1 }) H1 V1 hw1.1 hw1.2 (post.after st1)
theorem zR {es:List Expr} {pos:Pos} {W:WL} (h:SL C d sc es W):SE C d sc (.List es pos) (wL W):=by
 intro A env ρ loc hp s Q E P hsc r H F hw post
 refine List_ (h A env ρ loc hp s _ E _ pos hsc r H F hw fun vs l ρ1 hp1 h1 tk1 hw1 st1 H1 V1=>?_)
 exact ug (s:={ s with heap:=h1,toks:=tk1 }) H1 V1 hw1.1 hw1.2 (post.after st1)
end
section
variable {C:Cx} {d:Nat} {sc:Scope}
noncomputable abbrev nQ:=AV→AV→Hp→(AV→Hp→Prop)→Prop
noncomputable def gz (C:Cx) (t:Value→Value→Sem Value) (f:nQ):Prop:=
 ∀ (A:Around) (ρ:ab) (hp:Hp) (s:Shared) (Q:Value→Shared→Prop) (E:Value→Shared→Prop) (P:AV→Hp→Prop) (a b:AV) (va vb:Value),
  c8 0 A→HR C ρ hp s.heap→VR s.heap ρ va a→VR s.heap ρ vb b→f a b hp P→g9 C ρ s P Q→wpAny C.M A (t va vb) Q E s
noncomputable def wX (f:nQ) (l r:WE) (loc:aX) (hp:Hp) (P:AV→Hp→Prop):Prop:=l loc hp fun a hp1=>r loc hp1 fun b hp2=>f a b hp2 P
theorem aH {op:Operator} {f:nQ} {l r:Expr} {pos:Pos} {L R:WE} (ho:gz C (binaryOp op) f) (hl:SE C d sc l L) (hr:SE C d sc r R):SE C d sc (.BinOp l op r pos) (wX f L R):=by
 intro A env ρ loc hp s Q E P hsc rm H F hw post
 refine wpAny_BinOp ?_
 refine hl A env ρ loc hp s _ E _ hsc rm H F hw fun v a ρ1 hp1 h1 tk1 hw1 st1 H1 V1=>?_
 refine hr A env ρ1 loc hp1 { s with heap:=h1,toks:=tk1 } _ E _ hsc rm H1 (F.step H st1) hw1 fun v' a' ρ2 hp2 h2 tk2 hw2 st2 H2 V2=>?_
 exact ho A ρ2 hp2 { s with heap:=h2,toks:=tk2 } Q E P a a' v v' (rm.le (Nat.zero_le _)) H2 (H1.vr st2 V1) V2 hw2 (post.after (st1.trans st2))
inductive pC (c:Int→Int→Prop) (f:Int→Int→AV) (hp:Hp) (P:AV→Hp→Prop):AV→AV→Prop
 | mk {i j:Int}:c i j→P (f i j) hp→pC c f hp P (.int i) (.int j)
inductive Ba (c:Int→Int→Prop) (f:Int→Int→AV) (hp:Hp) (P:AV→Hp→Prop):Value→Value→Prop
 | mk {i j:Int} {t u:Tok}:c i j→P (f i j) hp→Ba c f hp P (.int i t) (.int j u)
theorem pC.val {c:Int→Int→Prop} {f:Int→Int→AV} {hp:Hp} {P:AV→Hp→Prop} {a b:AV} (x:pC c f hp P a b) {h:Heap} {ρ:ab} {va vb:Value} (Va:VR h ρ va a) (Vb:VR h ρ vb b):Ba c f hp P va vb:=by
 cases x with
 | mk c p=>
  obtain⟨t,rfl⟩:=Va.inv
  obtain⟨u,rfl⟩:=Vb.inv
  exact⟨c,p⟩
inductive Add (hp:Hp) (P:AV→Hp→Prop):AV→AV→Prop
 | int {a b:Int}:P (.int (a+b)) hp→Add hp P (.int a) (.int b)
 | str {a b:Str}:a.length+b.length≤sizeLine→P (.str (a++b)) hp→Add hp P (.str a) (.str b)
 | tup {a b:List AV}:a.length+b.length≤sizeLine→P (.tup (a++b)) hp→Add hp P (.tup a) (.tup b)
 | lists {n m:Nat} {a b:List AV}:hp[n]?=some (.list a)→hp[m]?=some (.list b)→a.length+b.length≤sizeLine→P (.ref hp.length) (hp++[.list (a++b)])→Add hp P (.ref n) (.ref m)
noncomputable def ak:nQ:=fun a b hp P=>Add hp P a b
theorem IM {vs:List Value} {l:List AV} {h:Heap} {ρ:ab} (x:bg h ρ vs l) (e:vs=[]):l=[]:=List.length_eq_zero_iff.mp (x.length▸e▸rfl)
theorem KZ {vs:List Value} (e:¬ vs=[]):¬ vs.toArray.isEmpty=true:=by cases vs with
 | nil=>exact absurd rfl e
 | cons=>exact Bool.false_ne_true
theorem te (a b:List Value):a.toArray++b.toArray=(a++b).toArray:=by simp
theorem wo {A:Around} {s:Shared} {Q:Value→Shared→Prop} {E:Value→Shared→Prop} {a1 a2:Addr} {vs1 vs2:List Value} {dd dd2 sl sl2} {n1 n2:Nat} (ho1:s.heap.get? a1=some { cls:=.type "tuple",dict:=dd,data:=.seq vs1.toArray n1,slots:=sl })
  (ho2:s.heap.get? a2=some { cls:=.type "tuple",dict:=dd2,data:=.seq vs2.toArray n2,slots:=sl2 }) (hz:vs1.toArray.size+vs2.toArray.size≤sizeLine) (h0:vs1=[]→Q (.ref a2) s) (h1:vs2=[]→Q (.ref a1) s)
  (h2:Q (.ref s.heap.objs.size) { s with heap:=s.heap.push { cls:=.type "tuple",data:=.seq (vs1++vs2).toArray } }):wpAny C.M A (binaryOp .Add (.ref a1) (.ref a2)) Q E s:=by
 by_cases hv:vs1=[]
 ·exact concat_meets ⟨_,ho1,rfl⟩ ⟨_,ho2,rfl⟩ noFill_tuple_add seq_tuple_add PySem.F.slot_tuple_add PySem.F.entry_tuple_add (PySem.F.args_tuple_add_2 _ _)
   (tuple_addW0 a1 a2 vs1.toArray vs2.toArray n1 n2 dd dd2 sl sl2 (hv▸rfl)) ⟨ho1,ho2,h0 hv⟩
 ·by_cases hv2:vs2=[]
  ·exact concat_meets ⟨_,ho1,rfl⟩ ⟨_,ho2,rfl⟩ noFill_tuple_add seq_tuple_add PySem.F.slot_tuple_add PySem.F.entry_tuple_add (PySem.F.args_tuple_add_2 _ _)
    (tuple_addW1 a1 a2 vs1.toArray vs2.toArray n1 n2 dd dd2 sl sl2 (KZ hv) (hv2▸rfl)) ⟨ho1,ho2,h1 hv2⟩
  ·exact concat_meets ⟨_,ho1,rfl⟩ ⟨_,ho2,rfl⟩ noFill_tuple_add seq_tuple_add PySem.F.slot_tuple_add PySem.F.entry_tuple_add (PySem.F.args_tuple_add_2 _ _)
    (tuple_addW2 a1 a2 vs1.toArray vs2.toArray n1 n2 dd dd2 sl sl2 (KZ hv) (KZ hv2) hz) ⟨ho1,ho2,by rw[te];exact h2⟩
theorem ac:gz C (binaryOp .Add) ak:=by
 intro A ρ hp s Q E P a b va vb rm H Va Vb hw post
 cases hw with
 | int hw=>
  obtain⟨t,rfl⟩:=Va.inv
  obtain⟨u,rfl⟩:=Vb.inv
  exact wpAny_add_int (post _ _ ρ hp s.heap _ hw (.refl _ _) H (.int _ _))
 | str hz hw=>
  obtain⟨t,rfl⟩:=Va.inv
  obtain⟨u,rfl⟩:=Vb.inv
  exact add_str (fun t' tk=>post _ _ ρ hp s.heap _ hw (.refl _ _) H (.str _ _)) hz
 | tup hz hw=>
  cases Va.tupAt with
  | mk a1 vs1 dd sl n1 ho1 hs1=>
   cases Vb.tupAt with
   | mk a2 vs2 dd2 sl2 n2 ho2 hs2=>
    refine wo ho1 ho2 (by rw[List.size_toArray,List.size_toArray,hs1.length,hs2.length];exact hz) (fun hv=>?_) (fun hv=>?_) ?_
    ·rw[IM hs1 hv] at hw
     exact post _ _ ρ hp s.heap s.toks hw (.refl _ _) H (.tup (yy.is (ρ:=ρ) (l:=[]) ho2) hs2)
    ·rw[IM hs2 hv,List.append_nil] at hw
     exact post _ _ ρ hp s.heap s.toks hw (.refl _ _) H (.tup (yy.is (ρ:=ρ) (l:=[]) ho1) hs1)
    ·exact post _ _ _ _ _ _ hw (ku H (hs1.append hs2)).1.1 (ku H (hs1.append hs2)).1.2 (ku H (hs1.append hs2)).2
 | lists e1 e2 hz hw=>
  cases H.listAt e1 Va with
  | mk a vs k _ ho hs=>
   cases H.listAt e2 Vb with
   | mk a' vs' k' _ ho' hs'=>
    refine concat_meets ⟨_,ho,rfl⟩ ⟨_,ho',rfl⟩ noFill_list_add seq_list_add PySem.F.slot_list_add PySem.F.entry_list_add (PySem.F.args_list_add_2 _ _)
     (list_addW a a' vs.toArray vs'.toArray k k' none none #[] #[] (by rw[List.size_toArray,List.size_toArray,hs.length,hs'.length];exact hz)) ⟨ho,ho',?_⟩
    rw[te]
    exact post _ _ _ _ _ _ hw (i8 H (hs.append hs')).1.2 (i8 H (hs.append hs')).1.1 (i8 H (hs.append hs')).2
noncomputable def cI:nQ:=fun a b hp P=>pC (fun _ _=>True) (fun a b=>.int (a-b)) hp P a b
theorem bq:gz C (binaryOp .Sub) cI:=by
 intro A ρ hp s Q E P a b va vb rm H Va Vb hw post
 cases hw.val Va Vb with
 | mk hc hw=>exact PyProof.Rows.sub_int (post _ _ ρ hp s.heap _ hw (.refl _ _) H (.int _ _))
noncomputable def kx:nQ:=fun a b hp P=>pC (fun _ b=>b≠0) (fun a b=>.int (a.fmod b)) hp P a b
theorem ir:gz C (binaryOp .Mod) kx:=by
 intro A ρ hp s Q E P a b va vb rm H Va Vb hw post
 cases hw.val Va Vb with
 | mk hc hw=>exact mod_int' hc (post _ _ ρ hp s.heap _ hw (.refl _ _) H (.int _ _))
noncomputable def iu:nQ:=fun a b hp P=>pC (fun _ b=>b≠0∧b.natAbs<1073741824) (fun a b=>.int (a.fdiv b)) hp P a b
theorem ky:gz C (binaryOp .FloorDiv) iu:=by
 intro A ρ hp s Q E P a b va vb rm H Va Vb hw post
 cases hw.val Va Vb with
 | mk hc hw=>exact floordiv_int hc.1 (post _ _ ρ hp s.heap _ hw (.refl _ _) H (.int _ _)) (.inl (PyProof.noPylong_small hc.2))
noncomputable def Bb:nQ:=fun a b hp P=>pC (fun a n=>0≤n∧n≤1000000∧a.natAbs<2 ^ 64) (fun a n=>.int (a ^ n.toNat)) hp P a b
theorem C0:gz C (binaryOp .Pow) Bb:=by
 intro A ρ hp s Q E P a b va vb rm H Va Vb hw post
 cases hw.val Va Vb with
 | mk hc hw=>exact pow_int_small hc.1 hc.2.1 hc.2.2 (post _ _ ρ hp s.heap _ hw (.refl _ _) H (.int _ _))
inductive zS (hp:Hp) (P:AV→Hp→Prop):AV→AV→Prop
 | int {a b:Int}:IntMulOk a b→P (.int (a * b)) hp→zS hp P (.int a) (.int b)
 | rep {n:Nat} {k:Int} {l:List AV}:hp[n]?=some (.list l)→-(2 ^ 63)≤k→k<2 ^ 63→l.length * k.toNat≤2 ^ 24→P (.ref hp.length) (hp++[.list (List.replicate k.toNat l).flatten])→zS hp P (.ref n) (.int k)
noncomputable def i9:nQ:=fun a b hp P=>zS hp P a b
theorem sD (l:List (Array Value)) (acc:Array Value):l.foldl (fun x1 x2=>x1++x2) acc=acc++(l.map (·.toList)).flatten.toArray:=by
 induction l generalizing acc with
 | nil=>simp
 | cons x l ih=>rw[List.foldl_cons,ih];apply Array.ext';simp
theorem wp (vs:List Value) (n:Nat):List.foldl (fun x1 x2=>x1++x2) #[] (List.replicate (if vs.toArray.isEmpty=true then 0 else n) vs.toArray)=((List.replicate n vs).flatten).toArray:=by
 rw[sD]
 cases vs with
 | nil=>simp
 | cons=>simp
theorem C1 {k:Int} (h:-(2 ^ 63)≤k) (h2:k<2 ^ 63):¬ (!Builtin.List.listFitsIndex k)=true:=by simp[Builtin.List.listFitsIndex];exact J0 h h2
theorem K3 {n k:Nat} (h:n * k≤2 ^ 24):¬ Builtin.List.listTooLong (n * k)=true:=by simp[Builtin.List.listTooLong,sizeLine];exact J1 h
theorem iw:gz C (binaryOp .Mult) i9:=by
 intro A ρ hp s Q E P a b va vb rm H Va Vb hw post
 cases hw with
 | int hc hw=>
  obtain⟨t,rfl⟩:=Va.inv
  obtain⟨u,rfl⟩:=Vb.inv
  exact PyProof.Rows.mul_int (post _ _ ρ hp s.heap _ hw (.refl _ _) H (.int _ _)) hc
 | @rep n k l e1 hlo hhi hz hw=>
  obtain⟨u,rfl⟩:=Vb.inv
  cases H.listAt e1 Va with
  | mk a vs j _ hl hs=>
   have hsz:vs.toArray.size * k.toNat≤2 ^ 24:=by rw[List.size_toArray,hs.length];exact hz
   refine wpAny_binaryOp_repeat_ref (T:="list") (U:="int") (by decide) ⟨_,hl,rfl⟩ (fun s'=>typeIs_int s' k u) noFill_list_mul PySem.F.fills_int_mul PySem.F.slot_int_rmul repeat_list PySem.F.slot_int_index.lookup
    (call_meets PySem.F.slot_int_rmul (typeIs_int s k u) PySem.F.entry_int_rmul (PySem.F.args_int_rmul_2 _ _) (int___rmul___int_list k u a vs.toArray j)
     ⟨hl,rfl,⟨_,hl,rfl⟩,call_meets PySem.F.slot_list_mul ⟨_,hl,rfl⟩ PySem.F.entry_list_mul (PySem.F.args_list_mul_2 _ _)
      (AutoListH.list___mul___list_int_3 a vs.toArray j k u (C1 hlo hhi) (Nat.not_lt.mpr (Nat.le_trans hsz (by decide))) (K3 hsz))
      ⟨hl,?_⟩⟩)
   rw[wp]
   exact post _ _ _ _ _ _ hw (i8 H (hs.flatReplicate _)).1.2 (i8 H (hs.flatReplicate _)).1.1 (i8 H (hs.flatReplicate _)).2
noncomputable def ld (x:WE) (loc:aX) (hp:Hp) (P:AV→Hp→Prop):Prop:=x loc hp fun a hp1=>match a with
 | .int i=>P (.int (-i)) hp1
 | _=>False
theorem gN {e:Expr} {pos:Pos} {W:WE} (h:SE C d sc e W):SE C d sc (.UnaryOp .USub e pos) (ld W):=by
 intro A env ρ loc hp s Q E P hsc rm H F hw post
 rw[arm_eval_UnaryOp]
 refine wpAny_bind (h A env ρ loc hp s _ E _ hsc rm H F hw fun v a ρ1 hp1 h1 tk1 hw1 st1 H1 V1=>wpAny_bind (wpAny_standAt (wpAny_holding ?_)))
 cases a with
 | int i=>obtain⟨t,rfl⟩:=V1.inv;exact PyProof.Rows.neg_int (post _ _ ρ1 hp1 h1 _ hw1 st1 H1 (.int _ _))
 | _=>exact hw1.elim
noncomputable def L3 (f:nQ) (l r:WE):WE:=wX f l r
theorem jx {op:CmpOp} {f:nQ} {l r:Expr} {pos:Pos} {L R:WE} (ho:gz C (compareOp op) f) (hl:SE C d sc l L) (hr:SE C d sc r R) (hm:autoParam (behindInMarks op r=false) au):SE C d sc (.Compare l [op] [r] pos) (wX f L R):=by
 intro A env ρ loc hp s Q E P hsc rm H F hw post
 refine wpAny_Compare1 ?_ hm
 refine hl A env ρ loc hp s _ E _ hsc rm H F hw fun v a ρ1 hp1 h1 tk1 hw1 st1 H1 V1=>?_
 refine hr A env ρ1 loc hp1 { s with heap:=h1,toks:=tk1 } _ E _ hsc rm H1 (F.step H st1) hw1 fun v' a' ρ2 hp2 h2 tk2 hw2 st2 H2 V2=>?_
 exact ho A ρ2 hp2 { s with heap:=h2,toks:=tk2 } Q E P a a' v v' (rm.le (Nat.zero_le _)) H2 (H1.vr st2 V1) V2 hw2 (post.after (st1.trans st2))
noncomputable def Bc (P:Bool→Hp→Prop) (a:AV) (hp:Hp):Prop:=match a with
 | .bool b=>P b hp
 | _=>False
theorem C2 {P:Bool→Hp→Prop} {a:AV} {hp:Hp} (x:Bc P a hp):∃ b,a=.bool b∧P b hp:=by
 cases a with
 | bool b=>exact⟨b,rfl,x⟩
 | _=>exact x.elim
theorem tB {A:Around} {E:Value→Shared→Prop} {s:Shared} {ρ:ab} {v:Value} {a:AV} {hp:Hp} {P:Bool→Hp→Prop} {Q:Bool→Shared→Prop} (V:VR s.heap ρ v a) (x:Bc P a hp) (k:∀ b,P b hp→Q b s):wpAny C.M A (truthy v) Q E s:=by
 obtain⟨b,rfl,y⟩:=C2 x
 cases V.inv
 exact wpAny_truthy_bool (k b y)
noncomputable def wB (f:WE) (loc:aX) (hp:Hp) (P:Bool→Hp→Prop):Prop:=f loc hp (Bc P)
theorem aG {op:CmpOp} {f:nQ} {l r:Expr} {pos:Pos} {L R:WE} (ho:gz C (compareOp op) f) (hl:SE C d sc l L) (hr:SE C d sc r R) (hm:autoParam (behindInMarks op r=false) au):SB C d sc (.Compare l [op] [r] pos) (wB (wX f L R)):=by
 intro A env ρ loc hp s Q E P hsc rm H F hw post
 refine wpAny_isTrue_Compare1 ?_ hm
 refine hl A env ρ loc hp s _ E _ hsc rm H F hw fun v a ρ1 hp1 h1 tk1 hw1 st1 H1 V1=>?_
 refine hr A env ρ1 loc hp1 { s with heap:=h1,toks:=tk1 } _ E _ hsc rm H1 (F.step H st1) hw1 fun v' a' ρ2 hp2 h2 tk2 hw2 st2 H2 V2=>?_
 refine ho A ρ2 hp2 { s with heap:=h2,toks:=tk2 } _ E (Bc P) a a' v v' (rm.le (Nat.zero_le _)) H2 (H1.vr st2 V1) V2 hw2 fun v3 a3 ρ3 hp3 h3 tk3 hw3 st3 H3 V3=>?_
 exact tB (s:={ s with heap:=h3,toks:=tk3 }) V3 hw3 fun b y=>post _ _ _ _ _ y ((st1.trans st2).trans st3) H3
theorem lg {e:Expr} {W:WE} (h:SE C d sc e W) (he:autoParam (∀ env,isTrue e env (eval e env)=(do let v ← eval e env;standAt e.pos;holding [v] (truthy v))) au):SB C d sc e (wB W):=by
 intro A env ρ loc hp s Q E P hsc rm H F hw post
 rw[he]
 exact wpAny_bind (h A env ρ loc hp s _ E _ hsc rm H F hw fun v a ρ1 hp1 h1 tk1 hw1 st1 H1 V1=>wpAny_bind (wpAny_standAt (wpAny_holding (tB (s:={ s with heap:=h1,toks:=tk1 }) V1 hw1 fun b y=>post _ _ _ _ _ y st1 H1))))
noncomputable def zT (x:WB) (loc:aX) (hp:Hp) (P:Bool→Hp→Prop):Prop:=x loc hp fun b hp1=>P (!b) hp1
theorem wq {e:Expr} {pos:Pos} {W:WB} (h:SB C d sc e W):SB C d sc (.UnaryOp .Not e pos) (zT W):=by
 intro A env ρ loc hp s Q E P hsc rm H F hw post
 exact isTrue_not (h A env ρ loc hp s _ E _ hsc rm H F hw fun b ρ1 hp1 h1 tk1 hw1 st1 H1=>post _ _ _ _ _ hw1 st1 H1)
noncomputable def cX (_loc:aX) (hp:Hp) (P:Bool→Hp→Prop):Prop:=P true hp
noncomputable def fe (_loc:aX) (hp:Hp) (P:Bool→Hp→Prop):Prop:=P false hp
noncomputable def dC (x y:WB) (loc:aX) (hp:Hp) (P:Bool→Hp→Prop):Prop:=x loc hp fun b hp1=>if b=true then y loc hp1 P else P false hp1
noncomputable def pw (x y:WB) (loc:aX) (hp:Hp) (P:Bool→Hp→Prop):Prop:=x loc hp fun b hp1=>if b=true then P true hp1 else y loc hp1 P
theorem ba {pos:Pos}:SB C d sc (.BoolOp .And [] pos) cX:=fun A env ρ loc hp s Q E P hsc rm H F hw post=>isTrue_and_nil (post _ ρ hp s.heap s.toks hw (.refl _ _) H)
theorem dM {pos:Pos}:SB C d sc (.BoolOp .Or [] pos) fe:=fun A env ρ loc hp s Q E P hsc rm H F hw post=>isTrue_or_nil (post _ ρ hp s.heap s.toks hw (.refl _ _) H)
theorem bR {x:Expr} {r:List Expr} {pos:Pos} {X R:WB} (hx:SB C d sc x X) (hr:SB C d sc (.BoolOp .And r pos) R):SB C d sc (.BoolOp .And (x::r) pos) (dC X R):=by
 intro A env ρ loc hp s Q E P hsc rm H F hw post
 refine isTrue_and (hx A env ρ loc hp s _ E _ hsc rm H F hw fun b ρ1 hp1 h1 tk1 hw1 st1 H1=>?_)
 cases b with
 | true=>exact hr A env ρ1 loc hp1 { s with heap:=h1,toks:=tk1 } _ E _ hsc rm H1 (F.step H st1) hw1 (post.after st1)
 | false=>exact post _ _ _ _ _ hw1 st1 H1
theorem eU {x:Expr} {r:List Expr} {pos:Pos} {X R:WB} (hx:SB C d sc x X) (hr:SB C d sc (.BoolOp .Or r pos) R):SB C d sc (.BoolOp .Or (x::r) pos) (pw X R):=by
 intro A env ρ loc hp s Q E P hsc rm H F hw post
 refine isTrue_or (hx A env ρ loc hp s _ E _ hsc rm H F hw fun b ρ1 hp1 h1 tk1 hw1 st1 H1=>?_)
 cases b with
 | true=>exact post _ _ _ _ _ hw1 st1 H1
 | false=>exact hr A env ρ1 loc hp1 { s with heap:=h1,toks:=tk1 } _ E _ hsc rm H1 (F.step H st1) hw1 (post.after st1)
noncomputable def jX (c:WB) (x y:WE) (loc:aX) (hp:Hp) (P:AV→Hp→Prop):Prop:=c loc hp fun b hp1=>if b=true then x loc hp1 P else y loc hp1 P
theorem ez {t x y:Expr} {pos:Pos} {T:WB} {X Y:WE} (ht:SB C d sc t T) (hx:SE C d sc x X) (hy:SE C d sc y Y):SE C d sc (.IfExp t x y pos) (jX T X Y):=by
 intro A env ρ loc hp s Q E P hsc rm H F hw post
 refine IfExp_ (ht A env ρ loc hp s _ E _ hsc rm H F hw fun b ρ1 hp1 h1 tk1 hw1 st1 H1=>?_)
 cases b with
 | true=>exact hx A env ρ1 loc hp1 { s with heap:=h1,toks:=tk1 } _ E _ hsc rm H1 (F.step H st1) hw1 (post.after st1)
 | false=>exact hy A env ρ1 loc hp1 { s with heap:=h1,toks:=tk1 } _ E _ hsc rm H1 (F.step H st1) hw1 (post.after st1)
noncomputable def wr (x y:WE) (loc:aX) (hp:Hp) (P:AV→Hp→Prop):Prop:=x loc hp fun a hp1=>match a with
 | .bool true=>y loc hp1 P
 | .bool false=>P (.bool false) hp1
 | _=>False
theorem zU {x y:Expr} {pos:Pos} {X Y:WE} (hx:SE C d sc x X) (hy:SE C d sc y Y):SE C d sc (.BoolOp .And [x,y] pos) (wr X Y):=by
 intro A env ρ loc hp s Q E P hsc rm H F hw post
 show wpAny C.M A (do
  let v ← eval x env
  standAt pos
  let t ← holding [v] (truthy v)
  match BoolOp.And,t with
  | .And,false | .Or,true=>pure v
  | _,_=>eval y env) Q E s
 refine wpAny_bind (hx A env ρ loc hp s _ E _ hsc rm H F hw fun v a ρ1 hp1 h1 tk1 hw1 st1 H1 V1=>wpAny_bind (wpAny_standAt (wpAny_bind (wpAny_holding ?_))))
 cases a with
 | bool b=>
  cases V1.inv
  refine wpAny_truthy_bool ?_
  cases b with
  | true=>exact hy A env ρ1 loc hp1 { s with heap:=h1,toks:=tk1 } _ E _ hsc rm H1 (F.step H st1) hw1 (post.after st1)
  | false=>exact wpAny_pure (post _ _ _ _ _ _ hw1 st1 H1 (.bool _))
 | _=>exact hw1.elim
noncomputable def sE:nQ:=fun a b hp P=>pC (fun _ _=>True) (fun a b=>.bool (decide (a<b))) hp P a b
theorem tf:gz C (compareOp .Lt) sE:=by
 intro A ρ hp s Q E P a b va vb rm H Va Vb hw post
 cases hw.val Va Vb with
 | mk hc hw=>exact wpAny_lt_int (post _ _ ρ hp s.heap s.toks hw (.refl _ _) H (.bool _))
noncomputable def ix:nQ:=fun a b hp P=>pC (fun _ _=>True) (fun a b=>.bool (decide (b<a))) hp P a b
theorem ia:gz C (compareOp .Gt) ix:=by
 intro A ρ hp s Q E P a b va vb rm H Va Vb hw post
 cases hw.val Va Vb with
 | mk hc hw=>exact PyProof.Rows.gt_int (post _ _ ρ hp s.heap s.toks hw (.refl _ _) H (.bool _))
noncomputable def AV.isNone:AV→Bool
 | .none=>true
 | _=>false
noncomputable def jy:nQ:=fun a b hp P=>b=.none∧P (.bool a.isNone) hp
noncomputable def dv:nQ:=fun a b hp P=>b=.none∧P (.bool (!a.isNone)) hp
theorem VR.isNone {h:Heap} {ρ:ab} {v:Value} {a:AV} (x:VR h ρ v a):(v == .none)=a.isNone:=by cases x <;> rfl
theorem hC:gz C (compareOp .Is) jy:=by
 intro A ρ hp s Q E P a b va vb rm H Va Vb hw post
 have e:vb=.none:=(hw.1▸Vb).inv
 rw[e]
 exact is_none_gen (by rw[Va.isNone];exact post _ _ ρ hp s.heap s.toks hw.2 (.refl _ _) H (.bool _))
theorem eD:gz C (compareOp .IsNot) dv:=by
 intro A ρ hp s Q E P a b va vb rm H Va Vb hw post
 have e:vb=.none:=(hw.1▸Vb).inv
 rw[e]
 exact isnot_none_gen (by rw[Va.isNone];exact post _ _ ρ hp s.heap s.toks hw.2 (.refl _ _) H (.bool _))
end
section
variable {C:Cx} {d:Nat} {sc:Scope}
noncomputable def AV.sk:List AV→Option (List Str)
 | []=>Option.some []
 | .str s::r=>(AV.sk r).map (s::·)
 | _::_=>Option.none
noncomputable def AV.ik:List AV→Option (List Int)
 | []=>Option.some []
 | .int s::r=>(AV.ik r).map (s::·)
 | _::_=>Option.none
theorem wu {prog:Program} {w:World} {h:Heap} {ρ:ab} {vs:List Value} {l:List AV} (x:bg h ρ vs l):∀ {k:List Str},AV.sk l=some k→ItemsAre (PySem.strKind prog w) k vs:=by
 induction x with
 | nil=>intro k e;cases e;exact .nil
 | @cons v vs d ds a b ih=>
  intro k e
  cases d with
  | str s=>
   obtain⟨t,rfl⟩:=a.inv
   obtain⟨k',e',rfl⟩:=Option.map_eq_some_iff.mp e
   exact .cons (decide_eq_true rfl) (ih e')
  | _=>exact aF e rfl
theorem wv {prog:Program} {w:World} {h:Heap} {ρ:ab} {vs:List Value} {l:List AV} (x:bg h ρ vs l):∀ {k:List Int},AV.ik l=some k→ItemsAre (PySem.intKind prog w) k vs:=by
 induction x with
 | nil=>intro k e;cases e;exact .nil
 | @cons v vs d ds a b ih=>
  intro k e
  cases d with
  | int s=>
   obtain⟨t,rfl⟩:=a.inv
   obtain⟨k',e',rfl⟩:=Option.map_eq_some_iff.mp e
   exact .cons (decide_eq_true rfl) (ih e')
  | _=>exact aF e rfl
theorem pD {prog:Program} {w:World} {h:Heap} {ρ:ab} {v:Value} {l:List AV} {k:List Str} (x:VR h ρ v (.tup l)) (e:AV.sk l=some k):∃ a,v=.ref a∧IsTupleKey (PySem.strKind prog w) h k a:=by
 cases x.tupAt with
 | mk a vs dd sl n ho hs=>exact⟨_,rfl,_,_,_,ho,rfl,rfl,wu hs e⟩
theorem sF {prog:Program} {w:World} {h:Heap} {ρ:ab} {v:Value} {l:List AV} {k:List Int} (x:VR h ρ v (.tup l)) (e:AV.ik l=some k):∃ a,v=.ref a∧IsTupleKey (PySem.intKind prog w) h k a:=by
 cases x.tupAt with
 | mk a vs dd sl n ho hs=>exact⟨_,rfl,_,_,_,ho,rfl,rfl,wv hs e⟩
noncomputable def IO (n:Nat):Option aC→AV
 | some (.list l)=>.lst l
 | _=>.ref n
mutual
noncomputable def AV.flat (hp:Hp):AV→AV
 | .ref n=>IO n hp[n]?
 | .tup l=>.tup (AV.flats hp l)
 | .none=>.none
 | .bool b=>.bool b
 | .int i=>.int i
 | .str s=>.str s
 | .lst l=>.lst l
 | .rng a b c=>.rng a b c
noncomputable def AV.flats (hp:Hp):List AV→List AV
 | []=>[]
 | x::r=>AV.flat hp x::AV.flats hp r
end
mutual
noncomputable def AV.py:AV→PyData
 | .none=>.none
 | .bool b=>.bool b
 | .int i=>.int i
 | .str s=>.str s
 | .tup l=>.tuple (AV.pys l)
 | .lst l=>.list (AV.pys l)
 | .ref _=>.none
 | .rng _ _ _=>.none
noncomputable def AV.pys:List AV→List PyData
 | []=>[]
 | x::r=>AV.py x::AV.pys r
end
noncomputable def Kt (f:List AV→Bool):AV→Bool
 | .none=>true
 | .int _=>true
 | .str s=>PyData.strOk s
 | .tup l=>f l
 | .lst l=>f l
 | .bool _=>false
 | .ref _=>false
 | .rng _ _ _=>false
noncomputable def AV.ok:Nat→AV→Bool
 | 0=>Kt fun _=>false
 | n+1=>Kt fun l=>l.all (AV.ok n)
theorem oN (n:Nat):AV.none.ok n=true:=by cases n <;> rfl
theorem oI (n:Nat) (i:Int):(AV.int i).ok n=true:=by cases n <;> rfl
theorem oS (n:Nat) (s:Str):(AV.str s).ok n=PyData.strOk s:=by cases n <;> rfl
theorem oT (n:Nat) (l:List AV):(AV.tup l).ok (n+1)=l.all (AV.ok n):=rfl
theorem oL (n:Nat) (l:List AV):(AV.lst l).ok (n+1)=l.all (AV.ok n):=rfl
theorem fv (l:List AV):(AV.tup l).ok 0=false:=rfl
theorem fw (l:List AV):(AV.lst l).ok 0=false:=rfl
theorem oB (n:Nat) (b:Bool):(AV.bool b).ok n=false:=by cases n <;> rfl
theorem oR (n m:Nat):(AV.ref m).ok n=false:=by cases n <;> rfl
theorem oG (n:Nat) (a b c:Int):(AV.rng a b c).ok n=false:=by cases n <;> rfl
theorem ff {p:Prop} {b:Bool} (h:b=true) (e:b=false):p:=absurd (h.symm.trans e) Bool.noConfusion
theorem sG {m:Nat→AV→Prop} (none:∀ n,m n .none) (int:∀ n i,m n (.int i)) (str:∀ n s,PyData.strOk s=true→m n (.str s)) (tup:∀ n l,(∀ d∈l,d.ok n=true)→(∀ d∈l,m n d)→m (n+1) (.tup l)) (lst:∀ n l,(∀ d∈l,d.ok n=true)→(∀ d∈l,m n d)→m (n+1) (.lst l)) :
  ∀ n (d:AV),d.ok n=true→m n d:=by
 intro n
 induction n with
 | zero=>
  intro d h
  cases d with
  | none=>exact none _
  | int i=>exact int _ i
  | str s=>exact str _ s h
  | _=>exact ff h rfl
 | succ n ih=>
  intro d h
  cases d with
  | none=>exact none _
  | int i=>exact int _ i
  | str s=>exact str _ s h
  | tup l=>exact tup n l (List.all_eq_true.mp h) fun d q=>ih d (List.all_eq_true.mp h d q)
  | lst l=>exact lst n l (List.all_eq_true.mp h) fun d q=>ih d (List.all_eq_true.mp h d q)
  | _=>exact ff h rfl
theorem lR (n:Nat) (ds:List AV) (k:∀ d∈ds,d.py.canLay0=true∧d.py.depth≤n):PyData.canLayAll0 (AV.pys ds)=true∧PyData.depthAll (AV.pys ds)≤n:=by
 induction ds with
 | nil=>exact⟨rfl,Nat.zero_le _⟩
 | cons d ds hi=>
  have h1:=k d (.head _)
  have h2:=hi fun e he=>k e (.tail _ he)
  exact⟨Bool.and_eq_true_iff.mpr ⟨h1.1,h2.1⟩,Nat.max_le.mpr ⟨h1.2,h2.2⟩⟩
theorem C3:∀ (n:Nat) (d:AV),d.ok n=true→d.py.canLay0=true∧d.py.depth≤n:=
 sG (m:=fun n d=>d.py.canLay0=true∧d.py.depth≤n) (fun n=>⟨rfl,Nat.zero_le _⟩) (fun n i=>⟨rfl,Nat.zero_le _⟩) (fun n s h=>⟨h,Nat.zero_le _⟩)
  (fun n l _ k=>⟨(lR n l k).1,DW (lR n l k).2⟩) (fun n l _ k=>⟨(lR n l k).1,DW (lR n l k).2⟩)
theorem tg {n k:Nat} (ds:List AV):(∀ d∈ds,∀ e:AV,e.ok k=true→(PyData.eqv d.py e.py=true↔d=e))→∀ es:List AV,(∀ d∈es,d.ok k=true)→(PyData.eqvAll (AV.pys ds) (AV.pys es)=true↔ds=es):=by
 induction ds with
 | nil=>intro _ es _;cases es with
  | nil=>exact⟨fun _=>rfl,fun _=>rfl⟩
  | cons=>exact⟨fun h=>ff h rfl,fun h=>absurd h.symm (List.cons_ne_nil _ _)⟩
 | cons d ds hi=>
  intro k es q
  cases es with
  | nil=>exact⟨fun h=>ff h rfl,fun h=>absurd h (List.cons_ne_nil _ _)⟩
  | cons e es=>
   have a:=k d (.head _) e (q e (.head _))
   have b:=hi (fun x hx=>k x (.tail _ hx)) es fun x hx=>q x (.tail _ hx)
   refine Iff.trans (Bool.and_eq_true_iff (x:=PyData.eqv d.py e.py) (y:=PyData.eqvAll (AV.pys ds) (AV.pys es))) ?_
   rw[a,b,List.cons.injEq]
theorem C4:∀ (n:Nat) (d:AV),d.ok n=true→∀ (k:Nat) (e:AV),e.ok k=true→(PyData.eqv d.py e.py=true↔d=e):=
 sG (m:=fun n d=>∀ (k:Nat) (e:AV),e.ok k=true→(PyData.eqv d.py e.py=true↔d=e))
  (fun n k e h=>by cases e <;> first | exact⟨fun _=>rfl,fun _=>rfl⟩ | exact⟨fun h=>ff h rfl,fun h=>AV.noConfusion h⟩ | exact ff h (oR _ _) | exact ff h (oG _ _ _ _))
  (fun n i k e h=>by cases e <;> first | exact⟨fun h=>ff h rfl,fun h=>AV.noConfusion h⟩ | exact ff h (oB _ _) | exact⟨fun h=>congrArg _ (of_decide_eq_true h),fun h=>by cases h;exact decide_eq_true rfl⟩ | exact⟨fun h=>congrArg _ (eq_of_beq h),fun h=>by cases h;exact beq_self_eq_true _⟩)
  (fun n s _ k e h=>by cases e <;> first | exact⟨fun h=>ff h rfl,fun h=>AV.noConfusion h⟩ | exact⟨fun h=>congrArg _ (of_decide_eq_true h),fun h=>by cases h;exact decide_eq_true rfl⟩ | exact⟨fun h=>congrArg _ (eq_of_beq h),fun h=>by cases h;exact beq_self_eq_true _⟩)
  (fun n l _ ih k e h=>by
   cases e with
   | tup es=>cases k with
    | zero=>exact ff h rfl
    | succ k=>rw[AV.tup.injEq];exact tg (n:=n) l (fun d q=>ih d q k) es (List.all_eq_true.mp h)
   | _=>exact⟨fun h=>ff h rfl,fun h=>AV.noConfusion h⟩)
  (fun n l _ ih k e h=>by
   cases e with
   | lst es=>cases k with
    | zero=>exact ff h rfl
    | succ k=>rw[AV.lst.injEq];exact tg (n:=n) l (fun d q=>ih d q k) es (List.all_eq_true.mp h)
   | _=>exact⟨fun h=>ff h rfl,fun h=>AV.noConfusion h⟩)
section
variable {ρ:ab} {hp:Hp} {h:Heap}
theorem qJ {vs:List Value} {l:List AV} (x:bg h ρ vs l):∀ {f:AV→AV},(∀ d∈l,∀ v,VR h ρ v d→∃ as,Reads h v (f d).py as)→∃ as,ReadsAll h vs (AV.pys (l.map f)) as:=by
 intro f
 induction x with
 | nil=>exact fun _=>⟨_,ReadsAll.nil⟩
 | cons a _ ih=>
  intro k
  exact(k _ (.head _) _ a).elim fun _ p=>(ih fun x hx=>k x (.tail _ hx)).elim fun _ q=>⟨_,ReadsAll.cons p q⟩
theorem nv {v:Value} {l:List AV} (x:VR h ρ v (.tup l)) {f:AV→AV} (k:∀ d∈l,∀ v,VR h ρ v d→∃ as,Reads h v (f d).py as):∃ as,Reads h v (AV.tup (l.map f)).py as:=by
 cases x.tupAt with
 | mk a vs dd sl n ho hs=>exact(qJ hs k).elim fun as q=>⟨as,Reads.tuple ho rfl rfl q⟩
theorem iy:∀ (n:Nat) (a:AV),a.ok n=true→∀ v,VR h ρ v a→∃ as,Reads h v a.py as:=
 sG (m:=fun n a=>∀ v,VR h ρ v a→∃ as,Reads h v a.py as)
  (fun n v V=>⟨_,V.inv▸Reads.none⟩) (fun n i v V=>V.inv.elim fun t e=>⟨_,e▸Reads.int i t⟩) (fun n s _ v V=>V.inv.elim fun t e=>⟨_,e▸Reads.str s t⟩)
  (fun n l _ ih v V=>by have:=nv V (f:=fun d=>d) ih;rwa [List.map_id'] at this) (fun n l _ ih v V=>V.inv.elim)
theorem uh (l:List AV):AV.flats hp l=l.map (AV.flat hp):=by
 induction l with
 | nil=>rfl
 | cons a l ih=>exact congrArg (AV.flat hp a::·) ih
theorem tj (m:Nat):(∃ l,hp[m]?=some (.list l)∧(AV.ref m).flat hp=.lst l)∨(AV.ref m).flat hp=.ref m:=by
 show(∃ l,hp[m]?=some (.list l)∧IO m hp[m]?=.lst l)∨IO m hp[m]?=.ref m
 cases hp[m]? with
 | none=>exact .inr rfl
 | some o=>cases o with
  | list l=>exact .inl ⟨l,rfl,rfl⟩
  | _=>exact .inr rfl
theorem nw (H:HR C ρ hp h) {m:Nat} {l:List AV} (e:hp[m]?=some (.list l)) {n:Nat} (k:(AV.lst l).ok n=true) {v:Value} (V:VR h ρ v (.ref m)):∃ as,Reads h v (AV.lst l).py as:=by
 cases n with
 | zero=>exact ff k rfl
 | succ n=>
  cases H.listAt e V with
  | mk a vs j _ ho hs=>
   have:=qJ (f:=fun d=>d) hs fun d q=>iy n d (List.all_eq_true.mp k d q)
   rw[List.map_id'] at this
   exact this.elim fun as q=>⟨_,Reads.list ho rfl rfl q⟩
theorem gO (H:HR C ρ hp h) (n:Nat):∀ (a:AV),(a.flat hp).ok n=true→∀ v,VR h ρ v a→∃ as,Reads h v (a.flat hp).py as:=by
 induction n with
 | zero=>
  intro a k v V
  cases a with
  | tup l=>exact ff k rfl
  | ref m=>rcases tj (hp:=hp) m with⟨l,e,q⟩ | q <;> rw[q] at k ⊢ <;> first | exact nw H e k V | exact ff k (oR _ _)
  | _=>exact iy 0 _ k v V
 | succ n ih=>
  intro a k v V
  cases a with
  | tup l=>
   have e:(AV.tup l).flat hp=.tup (l.map (AV.flat hp)):=congrArg AV.tup (uh l)
   rw[e] at k ⊢
   exact nv V fun d q=>ih d (List.all_eq_true.mp k _ (List.mem_map_of_mem q))
  | ref m=>rcases tj (hp:=hp) m with⟨l,e,q⟩ | q <;> rw[q] at k ⊢ <;> first | exact nw H e k V | exact ff k (oR _ _)
  | _=>exact iy (n+1) _ k v V
end
open Classical in
noncomputable def bv:nQ:=fun a b hp P=>(a.flat hp).ok 40=true∧(b.flat hp).ok 40=true∧P (.bool (decide (a.flat hp=b.flat hp))) hp
open Classical in
noncomputable def ca:nQ:=fun a b hp P=>(a.flat hp).ok 40=true∧(b.flat hp).ok 40=true∧P (.bool (!decide (a.flat hp=b.flat hp))) hp
open Classical in
theorem tm {a b:AV} (ha:a.ok 40=true) (hb:b.ok 40=true):PyData.eqv a.py b.py=decide (a=b):=by
 have q:=C4 40 a ha 40 b hb
 by_cases e:a=b
 ·rw[decide_eq_true e];exact q.mpr e
 ·rw[decide_eq_false e];exact Bool.eq_false_iff.mpr fun x=>e (q.mp x)
theorem iO {a:AV} (ha:a.ok 40=true):SeqAt.shaped a.py=true:=by
 have l:=C3 40 a ha
 unfold SeqAt.shaped;rw[l.1,Bool.true_and];exact decide_eq_true (Nat.le_trans l.2 (by decide))
theorem bz:gz C (compareOp .Eq) bv:=by
 intro A ρ hp s Q E P a b va vb rm H Va Vb hw post
 obtain⟨ka,kb,hw⟩:=hw
 obtain⟨as,ra⟩:=gO H 40 a ka va Va
 obtain⟨bs,rb⟩:=gO H 40 b kb vb Vb
 refine SeqAt.compareEq_shaped ra rb (iO ka) (iO kb) rm.un ?_
 rw[tm ka kb]
 exact post _ _ ρ hp s.heap s.toks hw (.refl _ _) H (.bool _)
theorem cP:gz C (compareOp .NotEq) ca:=by
 intro A ρ hp s Q E P a b va vb rm H Va Vb hw post
 obtain⟨ka,kb,hw⟩:=hw
 obtain⟨as,ra⟩:=gO H 40 a ka va Va
 obtain⟨bs,rb⟩:=gO H 40 b kb vb Vb
 refine SeqAt.compareNe_shaped ra rb (iO ka) (iO kb) rm.un ?_
 rw[tm ka kb]
 exact post _ _ ρ hp s.heap s.toks hw (.refl _ _) H (.bool _)
noncomputable def qK (l:List AV) (k:Int):Option AV:=match seqIndex? k l.length with
 | some j=>l[j]?
 | none=>none
noncomputable def ww (k:Int):Prop:=-(2 ^ 63)≤k∧k<2 ^ 63
inductive ui (hp:Hp) (P:AV→Hp→Prop):AV→AV→Prop
 | tup {l k x}:qK l k=some x→ww k→P x hp→ui hp P (.tup l) (.int k)
 | list {n l k x}:hp[n]?=some (.list l)→qK l k=some x→ww k→P x hp→ui hp P (.ref n) (.int k)
 | frz {n xs ob k x}:hp[n]?=some (.frz xs ob)→0≤k→xs[k.toNat]?=some x→ww k→P (.int x) hp→ui hp P (.ref n) (.int k)
 | dI {n l k x}:hp[n]?=some (.dI l)→aZ l k=some x→P x hp→ui hp P (.ref n) (.int k)
 | dS {n ep l ks k x}:hp[n]?=some (.dS ep l)→AV.sk ks=some k→aZ l k=some x→P x hp→ui hp P (.ref n) (.tup ks)
noncomputable def ai:nQ:=fun a b hp P=>ui hp P a b
theorem i4.lookR {κ:Type} [DecidableEq κ] {h:Heap} {ρ:ab} {k:κ} {xs:List (κ×Addr×Value)} {ls:List (κ×AV)} (x:i4 h ρ xs ls):gM h ρ ((atKey xs k).map (·.2)) (aZ ls k):=by
 induction x with
 | nil=>exact⟨rfl,fun _ _ a=>aF a rfl⟩
 | @cons k' a v d xs ls x r ih=>
  by_cases e:k'=k
  ·have e1:atKey ((k',a,v)::xs) k=some (a,v):=by simp[atKey,e]
   rw[e1,show aZ ((k',d)::ls) k=some d from if_pos e]
   exact⟨rfl,fun _ _ a b=>by cases a;cases b;exact x⟩
  ·have e1:atKey ((k',a,v)::xs) k=atKey xs k:=by simp[atKey,e]
   rw[e1,show aZ ((k',d)::ls) k=aZ ls k from if_neg e]
   exact ih
theorem gM.some {h:Heap} {ρ:ab} {v:Option Value} {d:AV} (x:gM h ρ v (some d)):∃ y,v=Option.some y∧VR h ρ y d:=(tc x.1 rfl).imp fun _ e=>⟨e,x.2 _ _ e rfl⟩
theorem wx {vs:List Value} {xs:List Int} (h:IntsAre vs xs):∀ {i:Nat} {x:Int},xs[i]?=some x→∃ t,vs[i]?=some (.int x t):=by
 induction h with
 | nil=>intro i x e;exact aF e rfl
 | cons n t r ih=>
  intro i x e
  cases i with
  | zero=>cases e;exact⟨t,rfl⟩
  | succ i=>exact ih e
theorem tn {vs:List Value} {l:List AV} {h:Heap} {ρ:ab} (hs:bg h ρ vs l) {k:Int} {x:AV} (e:qK l k=some x):∃ j v,seqIndex? k vs.length=some j∧vs[j]?=some v∧VR h ρ v x:=by
 unfold qK at e
 cases q:seqIndex? k l.length with
 | none=>rw[q] at e;exact aF e rfl
 | some j=>rw[q] at e;exact(hs.get e).elim fun v y=>⟨j,v,by rw[hs.length];exact q,y⟩
theorem wy {k:Int} {n j:Nat} (h:seqIndex? k n=some j):(k<0∧0≤k+(n:Int)∧j=(k+(n:Int)).toNat)∨(0≤k∧j=k.toNat):=by
 unfold seqIndex? at h
 by_cases k0:k<0
 ·simp only[k0,if_true,Option.ite_none_right_eq_some,Bool.and_eq_true,decide_eq_true_eq] at h
  exact .inl ⟨k0,h.1.1,(Option.some.inj h.2).symm⟩
 ·simp only[k0,if_false,Option.ite_none_right_eq_some,Bool.and_eq_true,decide_eq_true_eq] at h
  exact .inr ⟨Int.not_lt.mp k0,(Option.some.inj h.2).symm⟩
theorem uj {A:Around} {s:Shared} {Q:Value→Shared→Prop} {E:Value→Shared→Prop} {a:Addr} {vs:List Value} {k:Int} {u:Tok} {j:Nat} {v:Value} (hl:s.heap.IsList a vs.toArray) (f:ww k) (hi:seqIndex? k vs.length=some j) (hv:vs[j]?=some v) (q:Q v s):wpAny C.M A (getItem (.ref a) (.int k u)) Q E s:=by
 rcases wy hi with⟨a,b,rfl⟩ | ⟨a,rfl⟩
 ·exact wpAny_getItem_list_neg hl a (by rw[List.size_toArray];exact J2 b) f.1 (x:=v) (by simpa using hv) q
 ·exact wpAny_getItem_list hl a f.2 (x:=v) (by simpa using hv) q
noncomputable def GI (M:Model) (A:Around) (E:Value→Shared→Prop) (s:Shared) (va vb:Value) (Q:Value→Shared→Prop):Prop:=wpAny M A (getItem va vb) Q E s∧∃ T id,s.TypeIs va T∧typeLookup (.type T) "__getitem__" = pure (some (.builtin id))
theorem uk {A:Around} {ρ:ab} {hp:Hp} {s:Shared} {Q:Value→Shared→Prop} {E:Value→Shared→Prop} {P:AV→Hp→Prop} {a b:AV} {va vb:Value}
  (rm:c8 0 A) (H:HR C ρ hp s.heap) (Va:VR s.heap ρ va a) (Vb:VR s.heap ρ vb b) (hw:ai a b hp P) (post:g9 C ρ s P Q) :
  GI C.M A E s va vb Q:=by
 have po:∀ {v d tk},P d hp→VR s.heap ρ v d→Q v { s with heap:=s.heap,toks:=tk }:=fun x y=>post _ _ ρ hp s.heap _ x (.refl _ _) H y
 refine nn fun ng=>?_
 cases hw with
 | tup e f hw=>
  obtain⟨u,rfl⟩:=Vb.inv
  cases Va.tupAt with
  | mk a vs dd sl n ho hs=>
   obtain⟨j,v,hj,hv,V⟩:=tn hs e
   refine ng ⟨getItem_tuple (items:=vs.toArray) (yy.is (ρ:=ρ) (l:=[]) ho) f.1 f.2 (j:=j) (x:=v) hj (by simpa using hv) (po hw V),"tuple",_,⟨_,ho,rfl⟩,slot_tuple_getitem.lookup⟩
 | list e1 e f hw=>
  obtain⟨u,rfl⟩:=Vb.inv
  cases H.listAt e1 Va with
  | mk a vs n _ ho hs=>
   obtain⟨j,v,hj,hv,V⟩:=tn hs e
   refine ng ⟨uj (bx ho) f hj hv (po hw V),"list",_,⟨_,ho,rfl⟩,slot_list_getitem.lookup⟩
 | frz e1 k0 e f hw=>
  obtain⟨u,rfl⟩:=Vb.inv
  obtain⟨q,hq,rfl,⟨vs,_,hl,hi⟩,_⟩:=H.at e1 Va
  obtain⟨t,ht⟩:=wx hi e
  obtain⟨o,z1,z2,_⟩:=id hl
  exact ng ⟨wpAny_getItem_list hl k0 f.2 (x:=.int _ t) (by simpa using ht) (po hw (.int _ _)),"list",_,⟨o,z1,z2⟩,slot_list_getitem.lookup⟩
 | @dI n l k x e1 e hw=>
  obtain⟨u,rfl⟩:=Vb.inv
  obtain⟨⟨a,b⟩,hq,rfl,(rfl:a=b),f,hm,hle,hf⟩:=H.at e1 Va
  have:=hf k
  rw[e] at this
  obtain⟨v,ev,V⟩:=this.some
  refine ng ⟨wpAny_getItem_of (knd:=PySem.intKind C.prog C.w) (k:=k) (decide_eq_true rfl) hm.mapOf ev (po hw V),"dict",_,hm.mapOf.typeIs,slot_dict_getitem.lookup⟩
 | @dS n ep l ks k x e1 ek e hw=>
  obtain⟨⟨a,b⟩,hq,rfl,(rfl:a=b),xs,hm,hx,_⟩:=H.at e1 Va
  obtain⟨b,rfl,hk⟩:=pD (prog:=C.prog) (w:=C.w) Vb ek
  have:=hx.lookR (k:=k)
  rw[e] at this
  obtain⟨v,ev,V⟩:=this.some
  obtain⟨y,ey,rfl⟩:=Option.map_eq_some_iff.mp ev
  refine ng ⟨wpAny_getItem_heap (knd:=tupleKind (PySem.strKind C.prog C.w)) (k:=k) rm.in1_un hk hm ey (po hw V),"dict",_,hm.typeIs,slot_dict_getitem.lookup⟩
noncomputable def wI (l r:WE):WE:=wX ai l r
theorem zV {value slice:Expr} {pos:Pos} {L R:WE} (hl:SE C d sc value L) (hr:SE C d sc slice R)
  (hs:autoParam (∀ o i,∃ ops,subscripted slice false o i=operate ops (getItem o i)) au):SE C d sc (.Subscript value slice pos) (wI L R):=by
 intro A env ρ loc hp s Q E P hsc rm H F hw post
 refine Subscript_ ?_
 refine hl A env ρ loc hp s _ E _ hsc rm H F hw fun v a ρ1 hp1 h1 tk1 hw1 st1 H1 V1=>?_
 refine hr A env ρ1 loc hp1 { s with heap:=h1,toks:=tk1 } _ E _ hsc rm H1 (F.step H st1) hw1 fun v' a' ρ2 hp2 h2 tk2 hw2 st2 H2 V2=>?_
 have g:=uk (s:={ s with heap:=h2,toks:=tk2 }) (Q:=Q) (E:=E) (rm.le (Nat.zero_le _)) H2 (H1.vr st2 V1) V2 hw2 (post.after (st1.trans st2))
 exact(hs v v').elim fun ops e=>g.2.elim fun T y=>y.elim fun id z=>tail_any z.1 z.2 g.1 e
end
section
variable {C:Cx} {d:Nat} {sc:Scope}
inductive In (f:Bool→Bool) (hp:Hp) (P:AV→Hp→Prop):AV→AV→Prop
 | mk {n ep l ks k}:hp[n]?=some (.dS ep l)→AV.sk ks=some k→P (.bool (f (aZ l k).isSome)) hp→In f hp P (.tup ks) (.ref n)
noncomputable def K4:nQ:=fun a b hp P=>In id hp P a b
noncomputable def jY:nQ:=fun a b hp P=>In not hp P a b
inductive Bd (C:Cx) (h:Heap) (k:List Str) (c:Bool):Value→Value→Prop
 | mk (b a xs):(tupleKind (PySem.strKind C.prog C.w)).is h k b→(a == sysModules)=false→h.DictOfH (tupleKind (PySem.strKind C.prog C.w)) a xs→((atKey xs k).isSome=c)→Bd C h k c (.ref b) (.ref a)
theorem HR.keyAt {ρ:ab} {hp:Hp} {h:Heap} (H:HR C ρ hp h) {n ep l ks k} {va vb:Value} (e:hp[n]?=some (.dS ep l)) (ek:AV.sk ks=some k) (Va:VR h ρ va (.tup ks)) (Vb:VR h ρ vb (.ref n)):Bd C h k (aZ l k).isSome va vb:=by
 obtain⟨⟨a,b⟩,hq,rfl,(rfl:a=b),xs,hm,hx,_⟩:=H.at e Vb
 obtain⟨b,rfl,hk⟩:=pD (prog:=C.prog) (w:=C.w) Va ek
 exact⟨b,a,xs,hk,H.notSys hq,hm,by rw[← (hx.lookR (k:=k)).1,Option.isSome_map]⟩
theorem Ku:gz C (compareOp .In) K4:=by
 intro A ρ hp s Q E P a b va vb rm H Va Vb hw post
 cases hw with
 | mk e ek hw=>
  cases H.keyAt e ek Va Vb with
  | mk b a xs hk ns hm hi=>exact wpAny_in_heap (knd:=tupleKind (PySem.strKind C.prog C.w)) rm.in1_un hk ns hm (by rw[hi];exact post _ _ ρ hp s.heap _ hw (.refl _ _) H (.bool _))
theorem qL:gz C (compareOp .NotIn) jY:=by
 intro A ρ hp s Q E P a b va vb rm H Va Vb hw post
 cases hw with
 | mk e ek hw=>
  cases H.keyAt e ek Va Vb with
  | mk b a xs hk ns hm hi=>exact wpAny_notIn_heap (knd:=tupleKind (PySem.strKind C.prog C.w)) rm.in1_un hk ns hm (by rw[hi];exact post _ _ ρ hp s.heap _ hw (.refl _ _) H (.bool _))
theorem ul (items:Array Value):slicePick items none none (some (-1))=items.toList.reverse.toArray:=krv_pick items
theorem um (b n:Nat) (hb:b≤n):Builtin.Slice.sliceAdjust none (some (b:Int)) 1 (n:Int)=(0,(b:Int)):=by
 unfold Builtin.Slice.sliceAdjust
 have h1:¬ ((1:Int)<0):=by exact J3
 have h2:¬ ((b:Int)<0):=by exact zG
 simp only[h1,h2,if_false]
 congr 1
 exact J4 hb
theorem lL {A:Around} {E:Value→Shared→Prop} {s:Shared} {prog:Program} {w:World} {sl:Addr} {b n:Nat} {u:Tok} {Q:Int×Int×Nat→Shared→Prop} (hs:s.heap.IsSliceOf sl .none (.int b u) .none) (hb:b≤n) (h:Q (0,1,b) s) :
  wpAny (model prog w) A (Builtin.Slice.sliceApplied (.ref sl) (pure (n:Int))) Q E s:=by
 obtain⟨os,hos,hcs,hds⟩:=id hs
 unfold Builtin.Slice.sliceApplied Builtin.Slice.sliceFields
 refine wpAny_bind (wpAny_bind (wpAny_field hos hds (x:=.none) rfl (wpAny_bind (wpAny_field hos hds (x:=.int b u) rfl (wpAny_bind (wpAny_field hos hds (x:=.none) rfl (wpAny_pure ?_)))))))
 refine wpAny_bind (slicePart_none ?_)
 show wpAny _ _ (if ((1:Int) == 0)=true then _ else _) _ _ s
 rw[if_neg (by decide)]
 refine wpAny_bind (slicePart_none (wpAny_bind (slicePart_int (wpAny_bind (wpAny_pure ?_)))))
 show wpAny _ _ (match Builtin.Slice.sliceAdjust none (some (b:Int)) 1 (n:Int) with | (lo,hi)=>pure (lo,(1:Int),Builtin.Slice.slicePlaces lo hi 1)) _ _ s
 rw[um b n hb]
 show wpAny _ _ (pure ((0:Int),(1:Int),Builtin.Slice.slicePlaces 0 (b:Int) 1)) _ _ s
 have:Builtin.Slice.slicePlaces 0 (b:Int) 1=b:=by
  unfold Builtin.Slice.slicePlaces
  have h1:(1:Int) > 0:=by exact J5
  simp only[h1,if_true,Int.ediv_one]
  split
  ·rw[Int.sub_zero,Int.sub_add_cancel];rfl
  ·rename_i q;exact(Nat.eq_zero_of_not_pos fun k=>q (Int.natCast_pos.mpr k)).symm
 rw[this]
 exact wpAny_pure h
theorem zW (xs:Array Value) (b:Nat):((List.range b).filterMap fun (k:Nat)=>xs[((0:Int)+(k:Int) * 1).toNat]?).toArray=(xs.toList.take b).toArray:=by
 have e:(fun (k:Nat)=>xs[((0:Int)+(k:Int) * 1).toNat]?)=fun k=>xs[0+k]?:=by
  funext k
  have:((0:Int)+(k:Int) * 1).toNat=0+k:=by exact J6
  rw[this]
 rw[e]
 have:=pick_run xs 0 b
 rw[List.filterMap_map] at this
 have e2:((fun x=>xs[x]?)∘fun x=>0+x)=fun k=>xs[0+k]?:=rfl
 rw[e2] at this
 rw[this,List.drop_zero]
theorem jz {A:Around} {E:Value→Shared→Prop} {s:Shared} {prog:Program} {w:World} {t sl:Addr} {items:Array Value} {b:Nat} {u:Tok} {Q:Value→Shared→Prop} (ht:IsTup s.heap t items) (hs:s.heap.IsSliceOf sl .none (.int b u) .none) (hb:b<items.size)
  (h:Q (.ref s.heap.objs.size) { s with heap:=s.heap.push { cls:=.type "tuple",data:=.seq (items.toList.take b).toArray } })
  (hsz:items.size≤sizeLine):wpAny (model prog w) A (getItem (.ref t) (.ref sl)) Q E s:=by
 have hdrop:sizeOk (.seq (items.toList.take b).toArray):=by
  show(items.toList.take b).toArray.size≤sizeLine
  rw[List.size_toArray,List.length_take,Array.length_toList]
  exact J7 hsz
 obtain⟨os,hos,hcs,hds⟩:=id hs
 have hTs:s.TypeIs (.ref sl) "slice":=⟨os,hos,hcs⟩
 unfold getItem
 try with_reducible refine wpAny_holding ?_
 first | refine wpAny_bind (wpAny_pure ?_) | skip
 refine wpAny_bind (wpAny_sequenceKey ht.typeIs (by decide) ?_)
 refine wpAny_bind (wpAny_callSpecial?_slot (name:=Str.ofString "__getitem__") ht.typeIs slot_tuple_getitem
  (wpAny_call_entry slot_tuple_getitem ht.typeIs entry_tuple_getitem ?_ (args_tuple_getitem _ _)))
 show wpAny _ _ (Builtin.Tuple.tupleItemsOf (.ref t) >>= _) _ _ s
 refine wpAny_bind (tupleItemsOf_ ht ?_)
 refine wpAny_bind (wpAny_typeOf hTs ?_)
 rw[if_pos (by decide)]
 refine wpAny_bind (lL hs (Nat.le_of_lt hb) ?_)
 have hno:¬ (((0:Int) == 0 && (1:Int) == 1 && b == items.size)=true):=by
  have:(b == items.size)=false:=by rw[beq_eq_false_iff_ne];exact fq hb
  rw[this];simp
 show wpAny _ _ (if ((0:Int) == 0 && (1:Int) == 1 && b == items.size)=true then _ else _) _ _ s
 rw[if_neg hno,zW items b]
 first
  | exact wpAny_bind (m:=Builtin.Tuple.tupleExact _) (wpAny_newObj_type (wpAny_pure ⟨_,rfl,wpAny_pure h⟩) hdrop)
  | exact wpAny_bind (m:=Builtin.Tuple.tupleExact _) (wpAny_newObj_type (wpAny_bind (wpAny_pure (wpAny_pure ⟨_,rfl,wpAny_pure h⟩))) hdrop)
  | exact wpAny_bind (wpAny_bind (m:=Builtin.Tuple.tupleExact _) (wpAny_newObj_type (wpAny_pure (wpAny_pure ⟨_,rfl,wpAny_pure h⟩)) hdrop))
  | exact wpAny_bind (wpAny_bind (m:=Builtin.Tuple.tupleExact _) (wpAny_newObj_type (wpAny_pure ⟨_,rfl,wpAny_pure h⟩) hdrop))
inductive Kv (hp:Hp) (P:AV→Hp→Prop):AV→Prop
 | mk {n l}:hp[n]?=some (.list l)→l.length≤sizeLine→P (.ref hp.length) (hp++[.list l.reverse])→Kv hp P (.ref n)
noncomputable def IP (P:AV→Hp→Prop) (a:AV) (hp:Hp):Prop:=Kv hp P a
noncomputable def wz (x:WE) (loc:aX) (hp:Hp) (P:AV→Hp→Prop):Prop:=x loc hp (IP P)
theorem K5 {P:AV→Hp→Prop} {n:Nat} {l:List AV} {hp:Hp} (e:hp[n]?=some (.list l)) (hz:l.length≤sizeLine) (hP:P (.ref hp.length) (hp++[.list l.reverse])):IP P (.ref n) hp:=⟨e,hz,hP⟩
theorem qM {A:Around} {E:Value→Shared→Prop} {Q:Value→Shared→Prop} {P:AV→Hp→Prop} {ρ:ab} {hp:Hp} {s:Shared} {a:Addr} {vs:List Value} {k:Nat} {l':List AV} {vs':List Value} {o:Obj} {ops} {value sl:Expr} (H:HR C ρ hp s.heap) (ho:s.heap.get? a=some { cls:=.type "list",data:=.seq vs.toArray k }) (hw:P (.ref hp.length) (hp++[.list l'])) (post:g9 C ρ s P Q) (V:bg s.heap ρ vs' l')
  (go:∀ Q':Value→Shared→Prop,(s.heap.push o).IsList a vs.toArray→Q' (.ref (s.heap.push o).objs.size) { s with heap:=(s.heap.push o).push { cls:=.type "list",data:=.seq vs'.toArray },toks:=s.toks }→wpAny C.M A (getItem (.ref a) (.ref s.heap.objs.size)) Q' E { s with heap:=s.heap.push o })
  (e:subscripted sl false (.ref a) (.ref s.heap.objs.size)=operate ops (getItem (.ref a) (.ref s.heap.objs.size))):wpAny C.M A (subscriptTail value sl (.ref a) (.ref s.heap.objs.size)) Q E { s with heap:=s.heap.push o }:=by
 have hl:=(bx ho).push o
 have kk:∀ b o',s.heap.get? b=some o'→(s.heap.push o).get? b=some o':=fun b o e=>Heap.get?_push_of_some _ e
 have z:=i8 (s:={ s with heap:=s.heap.push o }) (H.grow kk) (H.vrs (bD.grow ρ kk) V)
 exact tail_any (T:="list") (Heap.IsList.typeIs (s:={ s with heap:=s.heap.push o }) hl) slot_list_getitem.lookup (go Q hl (post _ _ _ _ _ _ hw ((bD.grow ρ kk).trans z.1.2) z.1.1 z.2)) e
theorem sH {value:Expr} {k:Nat} {p1 p2 p3 pos:Pos} {W:WE} (h:SE C d sc value W):SE C d sc (.Subscript value (.Slice none none (some (.UnaryOp .USub (.Constant (.int 1) k p1) p2)) p3) pos) (wz W):=by
 intro A env ρ loc hp s Q E P hsc rm H F hw post
 refine Subscript_ ?_
 refine h A env ρ loc hp s _ E _ hsc rm H F hw fun v a ρ1 hp1 h1 tk1 hw1 st1 H1 V1=>?_
 refine wpAny_Slice (by
  rw[evalPart_none,evalPart_some]
  refine wpAny_pure (wpAny_pure ?_)
  rw[arm_eval_UnaryOp]
  refine wpAny_bind (wpAny_Constant_int (wpAny_bind (wpAny_standAt (wpAny_holding (PyProof.Rows.neg_int ?_)))))
  cases hw1 with
  | mk e hz hw1=>
   cases H1.listAt e V1 with
   | mk a vs j _ ho hs=>
    refine qM (s:={ s with heap:=h1,toks:=tk1+1+1 }) (o:={ cls:=.type "slice",data:=.fields #[.none,.none,.int (-1) (tk1+1)] }) (vs':=vs.reverse) H1 ho hw1 (post.after st1) hs.reverse (fun Q' hl q=>?_) rfl
    refine wpAny_getItem_list_slice (lo:=none) (hi:=none) (st:=some (-1)) hl (Heap.IsSliceOf.new ..) .none .none (.int _ _) (by decide) ?_ (by rw[List.size_toArray,hs.length];exact hz)
    rw[ul,List.toList_toArray]
    exact q)
noncomputable def JS (x y:WE) (loc:aX) (hp:Hp) (P:AV→Hp→Prop):Prop:=x loc hp fun a hp1=>y loc hp1 fun b hp2=>match b with
 | .int k=>0≤k∧match a with
  | .ref n=>match hp2[n]? with
   | some (.list l)=>l.length≤sizeLine∧k≤l.length∧P (.ref hp2.length) (hp2++[.list (l.take k.toNat)])
   | _=>False
  | .tup l=>l.length≤sizeLine∧k<l.length∧P (.tup (l.take k.toNat)) hp2
  | _=>False
 | _=>False
inductive To (hp:Hp) (P:AV→Hp→Prop):AV→AV→Prop
 | list {n l k}:0≤k→hp[n]?=some (.list l)→l.length≤sizeLine→k≤(l.length:Int)→P (.ref hp.length) (hp++[.list (l.take k.toNat)])→To hp P (.ref n) (.int k)
 | tup {l k}:0≤k→l.length≤sizeLine→k<(l.length:Int)→P (.tup (l.take k.toNat)) hp→To hp P (.tup l) (.int k)
theorem IQ {a b:AV} {hp:Hp} {P:AV→Hp→Prop} (h:match b with
 | .int k=>0≤k∧match a with
  | .ref n=>match hp[n]? with
   | some (.list l)=>l.length≤sizeLine∧k≤l.length∧P (.ref hp.length) (hp++[.list (l.take k.toNat)])
   | _=>False
  | .tup l=>l.length≤sizeLine∧k<l.length∧P (.tup (l.take k.toNat)) hp
  | _=>False
 | _=>False):To hp P a b:=by
 cases b with
 | int k=>
  cases a with
  | ref n=>
   cases e:hp[n]? with
   | none=>dsimp only at h;rw[e] at h;exact h.2.elim
   | some o=>cases o with
    | list l=>dsimp only at h;rw[e] at h;exact .list h.1 e h.2.1 h.2.2.1 h.2.2.2
    | _=>dsimp only at h;rw[e] at h;exact h.2.elim
  | tup l=>exact .tup h.1 h.2.1 h.2.2.1 h.2.2.2
  | _=>exact h.2.elim
 | _=>exact h.elim
theorem Be {value e:Expr} {p3 pos:Pos} {W W':WE} (h:SE C d sc value W) (h':SE C d sc e W'):SE C d sc (.Subscript value (.Slice none (some e) none p3) pos) (JS W W'):=by
 intro A env ρ loc hp s Q E P hsc rm H F hw post
 refine Subscript_ ?_
 refine h A env ρ loc hp s _ E _ hsc rm H F hw fun v a ρ1 hp1 h1 tk1 hw1 st1 H1 V1=>?_
 refine wpAny_Slice (by
  rw[evalPart_none,evalPart_some]
  refine wpAny_pure ?_
  refine h' A env ρ1 loc hp1 { s with heap:=h1,toks:=tk1 } _ E _ hsc rm H1 (F.step H st1) hw1 fun v' b ρ2 hp2 h2 tk2 hw2 st2 H2 V2=>?_
  refine wpAny_pure ?_
  have V1':=H1.vr st2 V1
  have st:=st1.trans st2
  cases IQ hw2 with
  | @list n l k k0 e hz hkl hw=>
   obtain⟨u,rfl⟩:=V2.inv
   cases H2.listAt e V1' with
   | mk a vs j _ ho hs=>
    refine qM (s:={ s with heap:=h2,toks:=tk2 }) (o:={ cls:=.type "slice",data:=.fields #[.none,.int k u,.none] }) (vs':=vs.take k.toNat) H2 ho hw (post.after st) (hs.take _) (fun Q' hl q=>?_) rfl
    refine wpAny_getItem_list_slice (lo:=none) (hi:=some k) (st:=none) hl (Heap.IsSliceOf.new ..) .none (.int _ _) .none (by decide) ?_ (by rw[List.size_toArray,hs.length];exact hz)
    have e2:=slicePick_upto vs.toArray k.toNat (by rw[List.size_toArray,hs.length];exact J8 hkl)
    rw[Int.toNat_of_nonneg k0] at e2
    rw[e2,List.toList_toArray]
    exact q
  | @tup l k k0 hz hkl hw=>
   obtain⟨u,rfl⟩:=V2.inv
   cases V1'.tupAt with
   | mk t vs dd sl n ho hs=>
    have kk:∀ b o,h2.get? b=some o→(h2.push { cls:=.type "slice",data:=.fields #[.none,.int k u,.none] }).get? b=some o:=fun b o e=>Heap.get?_push_of_some _ e
    have ht:=yy.is (ρ:=ρ) (l:=[]) (kk _ _ ho)
    have hsl:(h2.push { cls:=.type "slice",data:=.fields #[.none,.int k u,.none] }).IsSliceOf h2.objs.size .none (.int (k.toNat:Int) u) .none:=by rw[Int.toNat_of_nonneg k0];exact Heap.IsSliceOf.new ..
    have z:=ku (s:={ s with heap:=h2.push { cls:=.type "slice",data:=.fields #[.none,.int k u,.none] },toks:=tk2 }) (H2.grow kk) ((H2.vrs (bD.grow ρ2 kk) hs).take k.toNat)
    exact tail_any (T:="tuple") (s:={ s with heap:=h2.push { cls:=.type "slice",data:=.fields #[.none,.int k u,.none] },toks:=tk2 }) ht.typeIs slot_tuple_getitem.lookup (jz ht hsl (by rw[List.size_toArray,hs.length];exact(Int.toNat_lt k0).mpr ‹_›) (post _ _ _ _ _ _ hw (st.trans ((bD.grow ρ2 kk).trans z.1.1)) z.1.2 z.2) (by rw[List.size_toArray,hs.length];exact hz)) rfl)
end
open PySem.Calls
theorem jZ (a b:String):(Str.ofString a == Str.ofString b)=decide (a=b):=by
 by_cases h:a=b
 ·subst h;simp
 ·rw[decide_eq_false h];exact beq_eq_false_iff_ne.mpr fun e=>h (eY e)
theorem ow.noRef {h:Heap} {ρ:ab} {es:List DictEntry} {l} (x:ow h ρ es l):es.any (·.refKey)=false:=by
 induction x with
 | nil=>rfl
 | cons _ _ ih=>exact ih
theorem ow.get {h:Heap} {ρ:ab} {x:String} {es:List DictEntry} {l} (a:ow h ρ es l):∃ r,W.getL (Str.ofString x) es=some r∧gM h ρ r (aZ l x):=by
 induction a with
 | nil=>exact⟨none,rfl,rfl,fun _ _ a=>aF a rfl⟩
 | @cons y t hs v d es l a b ih=>
  obtain⟨r,e,o⟩:=ih
  unfold W.getL at e ⊢
  rw[List.find?_cons]
  by_cases q:y=x
  ·rw[show aZ ((y,d)::l) x=some d from if_pos q]
   subst q
   refine⟨some v,?_,rfl,fun _ _ a b=>by cases a;cases b;exact ‹VR h ρ v d›⟩
   dsimp only
   rw[show(Value.str (Str.ofString y) t).isStr (Str.ofString y)=true from beq_self_eq_true _] <;> rfl
  ·rw[show aZ ((y,d)::l) x=aZ l x from if_neg q]
   have:(Str.ofString y == Str.ofString x)=false:=by rw[jZ,decide_eq_false q]
   dsimp only
   rw[show(Value.str (Str.ofString y) t).isStr (Str.ofString x)=false from this]
   exact⟨r,e,o⟩
noncomputable def lh:List (String×AV)→String→AV→List (String×AV)
 | [],x,d=>[(x,d)]
 | (y,e)::r,x,d=>if y=x then (y,d)::r else (y,e)::lh r x d
theorem ow.put {h:Heap} {ρ:ab} {x:String} {hsh:Int} {t:Tok} {v:Value} {d:AV} (V:VR h ρ v d) {es:List DictEntry} {l} (a:ow h ρ es l):ow h ρ (putL (Str.ofString x) hsh (.str (Str.ofString x) t) v es) (lh l x d):=by
 induction a with
 | nil=>exact .cons V .nil
 | @cons y t hs v d es l a b ih=>
  show ow h ρ (if (Value.str (Str.ofString y) t).isStr (Str.ofString x)=true then _ else _) (if y=x then _ else _)
  by_cases q:y=x
  ·subst q
   rw[if_pos (show(Value.str (Str.ofString y) t).isStr (Str.ofString y)=true from beq_self_eq_true _),if_pos rfl]
   exact .cons V b
  ·have:(Str.ofString y == Str.ofString x)=false:=by rw[jZ,decide_eq_false q]
   rw[if_neg (show ¬ ((Value.str (Str.ofString y) t).isStr (Str.ofString x)=true) from fun z=>Bool.false_ne_true (this.symm.trans z)),if_neg q]
   exact .cons a ih
theorem ow.length {h:Heap} {ρ:ab} {es:List DictEntry} {l} (a:ow h ρ es l):es.length=l.length:=by
 induction a with
 | nil=>rfl
 | cons _ _ ih=>exact congrArg Nat.succ ih
theorem VR.handed {h:Heap} {ρ:ab} {v:Value} {d:AV} (x:VR h ρ v d):handedIn v=true:=by cases x <;> rfl
section
variable {C:Cx} {d:Nat} {sc:Scope}
inductive Kw (ρ:ab) (h:Heap) (n:Nat) (c:Addr) (l:List (String×AV)):Value→Prop
 | mk (a dx es k):ρ[n]?=some (a,dx)→h.get? a=some (instObj c dx)→h.get? dx=some (W.dictOf es k)→ow h ρ es l→Kw ρ h n c l (.ref a)
theorem HR.instAt {ρ:ab} {hp:Hp} {h:Heap} (H:HR C ρ hp h) {n:Nat} {c:Addr} {l:List (String×AV)} {v:Value} (e:hp[n]?=some (.inst c l)) (x:VR h ρ v (.ref n)):Kw ρ h n c l v:=by
 obtain⟨⟨a,dx⟩,hp',rfl,e1,es,k,ho,hs⟩:=H.at e x
 exact⟨a,dx,es,k,hp',e1,ho,hs⟩
noncomputable def bc (C:Cx) (c:Addr) (x:String):Prop:=plainGet C.K c (Str.ofString x)=true∧hasDictIn C.K c=true∧∃ at',findIn C.K (.ref c) (Str.ofString x)=some at'∧noGet C.K at'=true
inductive IR (cs:List Addr) (x:String) (P:AV→Hp→Prop) (hp:Hp):AV→Prop
 | mk {n c l y}:hp[n]?=some (.inst c l)→c∈cs→aZ l x=some y→P y hp→IR cs x P hp (.ref n)
noncomputable def xA (cs:List Addr) (x:String) (P:AV→Hp→Prop) (a:AV) (hp:Hp):Prop:=IR cs x P hp a
noncomputable def wA (cs:List Addr) (x:String) (W:WE) (loc:aX) (hp:Hp) (P:AV→Hp→Prop):Prop:=W loc hp (xA cs x P)
theorem at_ {cs:List Addr} {x:String} {P:AV→Hp→Prop} {n:Nat} {c:Addr} {l:List (String×AV)} {y:AV} {hp:Hp} (e:hp[n]?=some (.inst c l)) (hP:P y hp) (hc:autoParam (cs.elem c=true) au) (hy:autoParam (aZ l x=some y) au):xA cs x P (.ref n) hp:=⟨e,List.elem_iff.mp hc,hy,hP⟩
theorem nx {A:Around} {x:String} {cs:List Addr} {ρ:ab} {hp:Hp} {s:Shared} {Q:Value→Shared→Prop} {E:Value→Shared→Prop} {P:AV→Hp→Prop} {v:Value} {a:AV}
  (hc:∀ c∈cs,bc C c x) (H:HR C ρ hp s.heap) (V:VR s.heap ρ v a) (hw:xA cs x P a hp) (post:g9 C ρ s P Q):wpAny C.M A (getAttr v (Str.ofString x) true) Q E s:=by
 refine nn fun ng=>?_
 cases hw with
 | mk e hm hy hP=>
  cases H.instAt e V with
  | mk a dx es k hr ha hd hs=>
   obtain⟨g1,g2,at',g3,g4⟩:=hc _ hm
   obtain⟨r,h1,h2⟩:=hs.get (x:=x)
   rw[hy] at h2
   obtain⟨u,rfl,u2⟩:=h2.some
   exact ng (get_value (C.X.keeps H.keep) ⟨ha,rfl,rfl,hd⟩ (plainGet_of g1).1 (findObj_own g2 g3 g4 (by rw[lookIn_dict];exact h1)) (VR.handed u2) (post _ _ ρ hp s.heap _ hP (.refl _ _) H u2))
theorem aA {y x:String} {p pos:Pos} {cs:List Addr} {W:WE} (h:SE C d sc (.Name (Str.ofString y) p) W) (hc:∀ c∈cs,bc C c x):SE C d sc (.Attribute (.Name (Str.ofString y) p) (Str.ofString x) pos) (wA cs x W):=by
 intro A env ρ loc hp s Q E P hsc rm H F hw post
 exact Attribute_any_ (h A env ρ loc hp s _ E _ hsc rm H F hw fun v a ρ1 hp1 h1 tk1 hw1 st1 H1 V1=>nx (s:={ s with heap:=h1,toks:=tk1 }) hc H1 V1 hw1 (post.after st1))
theorem aU {o:Expr} {y x:String} {p pos:Pos} {cs:List Addr} {W:WE} (h:SE C d sc (.Attribute o (Str.ofString y) p) W) (hc:∀ c∈cs,bc C c x):SE C d sc (.Attribute (.Attribute o (Str.ofString y) p) (Str.ofString x) pos) (wA cs x W):=by
 intro A env ρ loc hp s Q E P hsc rm H F hw post
 exact Attribute_any_ (h A env ρ loc hp s _ E _ hsc rm H F hw fun v a ρ1 hp1 h1 tk1 hw1 st1 H1 V1=>nx (s:={ s with heap:=h1,toks:=tk1 }) hc H1 V1 hw1 (post.after st1))
noncomputable def aw (C:Cx) (c:Addr) (x:String):Prop:=findIn C.K (.ref c) "__setattr__" = some (some (.builtin "object.__setattr__"))∧plainOver C.K c=true∧takerIn C.K c (Str.ofString x)=some none∧hasDictIn C.K c=true
theorem xB (x:Str) (q:Int) (t v:Value) (l:List DictEntry):(putL x q t v l).length≤l.length+1:=by
 induction l with
 | nil=>exact Nat.le_refl _
 | cons z r ih=>
  unfold putL
  by_cases c:z.key.isStr x=true
  ·rw[if_pos c];exact Nat.le_succ _
  ·rw[if_neg c];exact Nat.succ_le_succ ih
theorem xC {es:List DictEntry} {k:Nat} (y:nO (W.dictOf es k)):False:=lK.imm (.inl ⟨_,_,rfl⟩) y
theorem uo {A:Around} {x:String} {s:Shared} {Q:Unit→Shared→Prop} {E:Value→Shared→Prop} {v:Value} {c a dx:Addr} {es:List DictEntry} {k:Nat} (hc:aw C c x) (X:C.K.In s.heap) (ha:s.heap.get? a=some (instObj c dx)) (hd:s.heap.get? dx=some (W.dictOf es k))
  (nr:es.any (·.refKey)=false) (hz:es.length≤900)
  (post:∀ h' q t k',(∀ b o,b≠dx→s.heap.get? b=some o→h'.get? b=some o)→h'.get? dx=some (W.dictOf (putL (Str.ofString x) q (.str (Str.ofString x) t) v es) k')→∀ tk,Q () { s with heap:=h',toks:=tk }) :
  wpAny C.M A (setAttr (.ref a) (Str.ofString x) v) Q E s:=by
 have I:InstAt s.heap a (instObj c dx) c (some (W.dictOf es k)):=⟨ha,rfl,rfl,hd⟩
 refine set_plain X I hc.1 (osa_open (s:={ s with toks:=s.toks+1 }) X I hc.2.1 hc.2.2.1 fun b=>nn fun ng=>?_)
 obtain⟨cd,hcd,hcd'⟩:=any_some hc.2.2.2
 refine ng (wpAny_bind (wpAny_pure (wpAny_bind (wpAny_bind (wpAny_loadPart (s:={ s with toks:=s.toks+1 }) ha (wpAny_bind (Looks.here (s:={ s with toks:=s.toks+1 }) (looks_clsIn X hcd) ?_)))))))
 rw[hcd']
 refine wpAny_pure (a:=some dx) (wpAny_bind (wpAny_pure (wpAny_bind ?_)))
 unfold nsSet
 refine wpAny_bind (wpAny_bind (wpAny_askSetting (wpAny_pure (wpAny_bind (wpAny_mkText (wpAny_bind (wpAny_loadPart (s:={ s with toks:=s.toks+1+1 }) hd ?_)))))))
 have c1:(!es.toArray.any (·.key.isStr (Str.ofString x)) && es.toArray.any (·.refKey))=false:=by
  rw[← Array.any_toList,← Array.any_toList,List.toList_toArray,nr,Bool.and_false]
 dsimp only
 rw[aRefKeyMayBeTheName_at,c1]
 refine wpAny_updatePart (s:={ s with toks:=s.toks+1+1 }) hd ?_
 have hf:(Obj.putName (Str.ofString x) (PyData.keyHash C.w.params (Str.ofString x)) (.str (Str.ofString x) (s.toks+1)) v (W.dictOf es k)).isFreed=false:=by rw[putName_dict];rfl
 have hd':=Heap.get?_update_self (Obj.putName (Str.ofString x) (PyData.keyHash C.w.params (Str.ofString x)) (.str (Str.ofString x) (s.toks+1)) v) hd hf
 exact wpAny_bind (wpAny_lookBehind hd' (by
  rw[putName_dict]
  exact pastItsLine_dict (Nat.le_trans (xB ..) (Nat.le_trans (Nat.succ_le_succ hz) (by decide)))) (wpAny_pure (post _ _ _ _ (fun b o hb e=>(Heap.get?_update_other _ _ (Ne.symm hb)).trans e) (hd'.trans (by rw[putName_dict])) _)))
theorem uq {A:Around} {x:String} {ρ:ab} {hp:Hp} {s:Shared} {Q:Unit→Shared→Prop} {E:Value→Shared→Prop} {n:Nat} {o v:Value} {c:Addr} {l:List (String×AV)} {y:AV}
  (hc:aw C c x) (H:HR C ρ hp s.heap) (V:VR s.heap ρ o (.ref n)) (e:hp[n]?=some (.inst c l)) (Vv:VR s.heap ρ v y) (hz:l.length≤900)
  (post:∀ h' tk,HR C ρ (hp.set n (.inst c (lh l x y))) h'→bD ρ s.heap ρ h'→Q () { s with heap:=h',toks:=tk }) :
  wpAny C.M A (setAttr o (Str.ofString x) v) Q E s:=by
 cases H.instAt e V with
 | mk a dx es k hr ha hd hs=>
  refine uo hc (C.X.keeps H.keep) ha hd hs.noRef (hs.length▸hz) fun h' q t k' kk hd' tk=>?_
  have hne:a≠dx:=fun z=>by rw[z,hd] at ha;cases ha
  have Z:=H.set1 (n:=n) (p:=(a,dx)) (o:=.inst c (lh l x y)) hr kk ⟨kk _ _ hne ha,_,_,hd',(ow.put Vv hs).keep (W:=fun b=>b=dx) (fun b o x y=>kk b o y x) List.prefix_rfl fun b o x y z=>xC (Option.some.inj (x.symm.trans (z▸hd))▸y)⟩
  exact post _ _ Z.1 Z.2
end
noncomputable abbrev WF:=List AV→Hp→(AV→Hp→Prop)→Prop
section
variable {C:Cx} {d:Nat} {sc:Scope}
noncomputable def IS (C:Cx) (ρ:ab) (s:Shared) (P:AV→Hp→Prop) (R:Result→Shared→Prop):Prop:=
 ∀ v a ρ' hp' h' tk,P a hp'→bD ρ s.heap ρ' h'→HR C ρ' hp' h'→VR h' ρ' v a→R (.ok (.ret v)) { s with heap:=h',toks:=tk }
noncomputable def aI (C:Cx) (d:Nat) (f:Value) (F:WF):Prop:=
 ∀ (A:Around) (ρ:ab) (hp:Hp) (s:Shared) (as:List AV) (vs:List Value) (R:Result→Shared→Prop) (P:AV→Hp→Prop),
  c8 d A→HR C ρ hp s.heap→bg s.heap ρ vs as→F as hp P→IS C ρ s P R→codeAny C.M A (.call f ⟨vs,[]⟩) R s
noncomputable def br (C:Cx) (d:Nat) (f:Value) (F:WF):Prop:=
 ∀ (A:Around) (ρ:ab) (hp:Hp) (s:Shared) (as:List AV) (vs:List Value) (Q:Value→Shared→Prop) (E:Value→Shared→Prop) (P:AV→Hp→Prop),
  c8 d A→HR C ρ hp s.heap→bg s.heap ρ vs as→F as hp P→g9 C ρ s P Q→wpAny C.M A (call f vs) Q E s
theorem aI.call {f:Value} {F:WF} (h:aI C d f F):br C d f F:=fun A ρ hp s as vs Q E P r H V hw post=>
 wpAny_call (h A ρ hp s as vs _ P r H V hw fun v a ρ' hp' h' tk x y z w=>post v a ρ' hp' h' tk x y z w)
theorem aI.mono {f:Value} {F G:WF} (h:aI C d f F) (g:∀ as hp P,G as hp P→F as hp P):aI C d f G:=fun A ρ hp s as vs R P r H V hw post=>h A ρ hp s as vs R P r H V (g _ _ _ hw) post
theorem aI.le {e:Nat} {f:Value} {F:WF} (h:aI C d f F) (l:d≤e):aI C e f F:=fun A ρ hp s as vs R P r H V hw post=>h A ρ hp s as vs R P (r.le l) H V hw post
theorem br.le {e:Nat} {f:Value} {F:WF} (h:br C d f F) (l:d≤e):br C e f F:=fun A ρ hp s as vs R E P r H V hw post=>h A ρ hp s as vs R E P (r.le l) H V hw post
noncomputable def fS (C:Cx) (x:String) (f:Value):Prop:=nsIn C.K mainGlobals (Str.ofString x)=some (some f)∨(nsIn C.K mainGlobals (Str.ofString x)=some none∧bootBuiltins (Str.ofString x)=some f∧Str.ofString x≠"__name__")
noncomputable def li (C:Cx) (f:Value):Prop:=(∃ id,f=.builtin id)∨(∃ T,f=.type T)∨keepIn C.K f=true
noncomputable def bb (es:List Expr):Bool:=es.all sC
theorem tq {A:Around} {env:Env} {x:String} {p:Pos} {f:Value} {s:Shared} {Q:Value→Shared→Prop} {E:Value→Shared→Prop} (hn:fS C x f) (hk:env.scope.kind=.function) (hx:env.kindOf (Str.ofString x)=some .globalImplicit)
  (hg:env.globals=mainGlobals) (hb:env.builtins=builtinsNs) (keep:∀ b o,C.h₀.get? b=some o→s.heap.get? b=some o) (hd:(Str.ofString x == ("__debug__" : Str))=false) (q:Q f s):wpAny C.M A (eval (.Name (Str.ofString x) p) env) Q E s:=by
 rcases hn with hn | ⟨h1,h2,h3⟩
 ·exact Name_function_global hk hx (loadGlobal_global (by rw[hg];exact C.T.g.keeps keep) (mg_of C.X C.T.g hn) q) hd
 ·exact Name_function_global hk hx (loadGlobal_builtin (by rw[hg];exact C.T.g.keeps keep) (mg_none_of C.X C.T.g h1) (by rw[hb];exact C.T.b.keeps keep) ((C.T.builtins _ h3).trans h2) q) hd
theorem zX {f:Value} (hc:li C f) (h:Heap) (X:C.K.In h):∃ k,(k=Keeper.frame∨k=Keeper.machine∨k=Keeper.boundFrame)∧Looks C.M h (keeperOf f) k:=by
 rcases hc with⟨id,rfl⟩ | ⟨T,rfl⟩ | hc
 ·exact⟨.machine,.inr (.inl rfl),Looks.of_pure rfl⟩
 ·exact⟨.machine,.inr (.inl rfl),Looks.of_pure rfl⟩
 ·exact keeps_K hc h X
theorem qN {pos:Pos} {env:Env} {es:List Expr} (h:bb es=true):(backTo pos (starEach es env)).any (·.1)=false:=by
 induction es with
 | nil=>rfl
 | cons e es ih=>
  have h:=Bool.and_eq_true_iff.mp h
  rw[du h.1]
  exact ih h.2
theorem zY {α:Type} {M:Model} {A:Around} {E:Value→Shared→Prop} {s:Shared} {a:α} {Q:α→Shared→Prop} (Γ:Ctx) (hΓ:Γ.In A) (h:wpAny M A (pure a) Q E s):Q a s:=by
 have:=h Γ default hΓ
 exact this
theorem sI {M:Model} {A:Around} {E:Value→Shared→Prop} {s:Shared} {pos:Pos} {env:Env} {f:Value} {es:List Expr} {Q:Args→Shared→Prop} (hs:bb es=true)
  (h:wpAny M A (spliced (backTo pos (starEach es env))) (fun vs s'=>Q ⟨vs,[]⟩ s') E s):wpAny M A (evalArgs f true (backTo pos (starEach es env)) []) Q E s:=by
 cases es with
 | nil=>exact fun Γ p hΓ=>evalArgs_nil3 (zY (a:=([]:List Value)) Γ hΓ h) Γ p hΓ
 | cons e es=>
  rw[du (Bool.and_eq_true_iff.mp hs).1] at h ⊢
  exact evalArgs_plain h
theorem gP {A:Around} {env:Env} {pos:Pos} {f:Value} {first:List Value} {es:List Expr} {s:Shared} {Q:Value→Shared→Prop} {E:Value→Shared→Prop} (hc:li C f) (hs:bb es=true)
  (h:wpAny C.M A (spliced (backTo pos (starEach es env))) (fun vs s₁=>C.K.In s₁.heap∧wpAny C.M A (call f (first++vs)) Q E s₁) E s):wpAny C.M A (callWith pos f first (backTo pos (starEach es env)) []) Q E s:=
 callWith_of (P:=fun h=>C.K.In h) (by rw[qN hs];rfl) (zX hc) (sI hs h)
noncomputable def wF (F:WF) (l:WL) (loc:aX) (hp:Hp) (P:AV→Hp→Prop):Prop:=l loc hp fun as hp1=>F as hp1 P
theorem zZ {x:String} {p pos:Pos} {f:Value} {es:List Expr} {F:WF} {W:WL} {e:Nat} (hn:fS C x f) (hx:sc.names.lookup (Str.ofString x)=some .globalImplicit) (hd:(Str.ofString x == ("__debug__" : Str))=false)
  (hc:li C f) (hs:bb es=true) (hl:SL C d sc es W) (hF:br C e f F) (le:e≤d):SE C d sc (.Call (.Name (Str.ofString x) p) es [] pos) (wF F W):=by
 intro A env ρ loc hp s Q E P hsc rm H F' hw post
 refine Call_Name rfl (tq hn F'.kind (by rw[Env.kindOf,hsc];exact hx) F'.glob F'.bi H.keep hd (gP hc hs ?_))
 refine hl A env ρ loc hp s _ E _ pos hsc rm H F' hw fun vs as ρ1 hp1 h1 tk1 hw1 st1 H1 V1=>⟨C.X.keeps H1.keep,?_⟩
 exact hF A ρ1 hp1 { s with heap:=h1,toks:=tk1 } as vs Q E P (rm.le le) H1 V1 hw1 (post.after st1)
noncomputable def cC (C:Cx) (c:Addr) (x:String) (f:Addr):Prop:=plainGet C.K c (Str.ofString x)=true∧findIn C.K (.ref c) (Str.ofString x)=some (some (.ref f))∧isFn C.K (.ref f)=true∧keepIn C.K (.ref f)=true
inductive IT (c:Addr) (x:String) (F:WF) (l:WL) (loc:aX) (P:AV→Hp→Prop) (hp:Hp):AV→Prop
 | mk {n al}:hp[n]?=some (.inst c al)→aZ al x=none→(l loc hp fun as hp2=>F (.ref n::as) hp2 P)→IT c x F l loc P hp (.ref n)
noncomputable def xD (c:Addr) (x:String) (F:WF) (l:WL) (loc:aX) (P:AV→Hp→Prop) (a:AV) (hp:Hp):Prop:=IT c x F l loc P hp a
noncomputable def wM (c:Addr) (x:String) (F:WF) (o:WE) (l:WL) (loc:aX) (hp:Hp) (P:AV→Hp→Prop):Prop:=o loc hp (xD c x F l loc P)
theorem jv {c:Addr} {x:String} {F:WF} {l:WL} {loc:aX} {P:AV→Hp→Prop} {n:Nat} {al:List (String×AV)} {hp:Hp} (e:hp[n]?=some (.inst c al)) (hP:l loc hp fun as hp2=>F (.ref n::as) hp2 P) (hy:autoParam (aZ al x=none) au):xD c x F l loc P (.ref n) hp:=⟨e,hy,hP⟩
theorem xE {pos:Pos} {env:Env} {es:List Expr} (hs:bb es=true) (hn:decide (es.length<30)=true):methodCallForm (es.length+([]:List Keyword).length) (backTo pos (starEach es env)) (backToKw pos (keywordEach [] env))=true:=by
 have h1:=qN (pos:=pos) (env:=env) hs
 have h2:(backTo pos (starEach es env)).all (fun x=>!x.1)=true:=by
  rw[List.all_eq_true];intro y hy
  rw[List.any_eq_false] at h1
  simpa using h1 y hy
 unfold methodCallForm
 rw[h2]
 exact hn
theorem gM.none {h:Heap} {ρ:ab} {v:Option Value} (x:gM h ρ v none):v=none:=by
 cases v with
 | none=>rfl
 | some v=>exact absurd x.1 (by simp)
theorem z4 {o:Expr} {x:String} {apos pos:Pos} {es:List Expr} {c f:Addr} {F:WF} {O:WE} {W:WL} {e:Nat} (ho:SE C d sc o O) (hm:cC C c x f) (hs:bb es=true) (hl:SL C d sc es W) (hF:br C e (.ref f) F) (le:e≤d)
  (hb:∀ env,attributeBase o (Str.ofString x) env (eval o env)=eval o env) (hn:decide (es.length<30)=true) (hp:(apos.endLine == pos.line)=true):SE C d sc (.Call (.Attribute o (Str.ofString x) apos) es [] pos) (wM c x F O W):=by
 intro A env ρ loc hpp s Q E P hsc rm H F' hw post
 rw[arm_eval_Call,hb]
 refine wpAny_bind (ho A env ρ loc hpp s _ E _ hsc rm H F' hw fun v a ρ1 hp1 h1 tk1 hw1 st1 H1 V1=>wpAny_bind (wpAny_standAt ?_))
 have hpos:methodCallPos true o env apos pos=pure pos:=by unfold methodCallPos;simp[hp]
 cases hw1 with
 | mk e' ha hw1=>
  cases H1.instAt e' V1 with
  | mk a dx des k hr hi hd hat=>
   refine nn fun ng=>?_
   obtain⟨m1,m2,m3,m4⟩:=hm
   have X:C.K.In h1:=C.X.keeps H1.keep
   obtain⟨r,q1,q2⟩:=hat.get (x:=x)
   rw[ha] at q2
   rw[q2.none] at q1
   refine ng ?_
   unfold methodCall
   rw[xE hs hn]
   refine wpAny_bind (wpAny_holding (method_fn (s:={ s with heap:=h1,toks:=tk1 }) X (od:=some (PySem.W.dictOf des k)) (ox:=instObj c dx) ⟨hi,rfl,rfl,hd⟩ (plainGet_of m1).1 (plainGet_of m1).2 m2 (beq_iff_eq.mp m3) (by show(lookIn _ (PySem.W.dictOf des k)).map _=_;rw[lookIn_dict,q1];rfl) ?_))
   refine wpAny_bind (wpAny_of_eq hpos (gP (.inr (.inr m4)) hs ?_))
   refine hl A env ρ1 loc hp1 { s with heap:=h1,toks:=tk1 } _ E _ pos hsc rm H1 (F'.step H st1) hw1 fun vs as ρ2 hp2 h2 tk2 hw2 st2 H2 V2=>⟨C.X.keeps H2.keep,?_⟩
   exact hF A ρ2 hp2 { s with heap:=h2,toks:=tk2 } _ _ Q E P (rm.le le) H2 (.cons (H1.vr st2 V1) V2) hw2 (post.after (st1.trans st2))
noncomputable def lj (C:Cx) (c f:Addr):Prop:=makesIn C.K c=true∧findIn C.K (.ref c) "__init__" = some (some (.ref f))∧typeIn C.K (.ref f)=some (.type "function")
theorem c8.make {A:Around} (rm:c8 (d+1) A) (c:Addr) (vs:List Value):c8 d (A.under (.builtin "type.__call__" ⟨.ref c::vs,[]⟩)):=by
 refine⟨rm.handled,?_,?_,?_⟩
 ·have:=rm.depth;rw[depth_under_make];exact Kr this
 ·have:=rm.units
  have hu:Code.cUnits (.builtin "type.__call__" ⟨.ref c::vs,[]⟩)=1:=rfl
  simp only[Around.under];exact J9 this hu
 ·simp only[Around.under]
  have:(Code.builtin "type.__call__" ⟨.ref c::vs,[]⟩).envs=[]:=rfl
  rw[this];exact rm.frames
theorem pE {c f:Addr} {F:WF} (hm:lj C c f) (h:aI C d (.ref f) F):aI C (d+1) (.ref c) (fun as hp P=>F (.ref hp.length::as) (hp++[.inst c []]) fun a hp'=>a=.none∧P (.ref hp.length) hp'):=by
 intro A ρ hp s as vs R P rm H V hw post
 obtain⟨m1,m2,m3⟩:=hm
 have X:C.K.In s.heap:=C.X.keeps H.keep
 obtain⟨hh,g,dr,t,os⟩:=s
 refine make_core (makes_of X m1) (looks_findIn X m2) (fun self=>bind_fn X self m3) (.inl rfl) ?_
 have kk:∀ b o,hh.get? b=some o→((hh.push emptyDict).push (instObj c hh.objs.size)).get? b=some o:=fun b o e=>Heap.get?_push_of_some _ (Heap.get?_push_of_some _ e)
 have hdx:((hh.push emptyDict).push (instObj c hh.objs.size)).get? hh.objs.size=some emptyDict:=Heap.get?_push_of_some _ (Heap.get?_push_size _ rfl)
 have hx:((hh.push emptyDict).push (instObj c hh.objs.size)).get? (hh.objs.size+1)=some (instObj c hh.objs.size):=by
  have:=Heap.get?_push_size (hh.push emptyDict) (o:=instObj c hh.objs.size) rfl
  rwa [Heap.size_push] at this
 have Z:=H.new1 kk (p:=(hh.objs.size+1,hh.objs.size)) (o:=.inst c []) (wl _) H.lt ⟨hx,[],0,hdx,.nil⟩
 have rm':=rm.make c vs
 refine h _ _ _ ⟨(hh.push emptyDict).push (instObj c hh.objs.size),g,dr,t,os⟩ (.ref hp.length::as) (.ref (hh.objs.size+1)::vs) _ _ rm' Z.1 ?_ hw ?_
 ·exact .cons (VR.ref (p:=(hh.objs.size+1,hh.objs.size)) (by rw[← H.len];exact List.getElem?_concat_length)) (H.vrs Z.2 V)
 ·intro v a ρ' hp' h' tk hP st H' V'
  refine⟨(hP.1▸V').inv,post _ _ ρ' hp' h' tk hP.2 (Z.2.trans st) H' (VR.ref (p:=(hh.objs.size+1,hh.objs.size)) (st.pre.elim fun q hq=>hq▸zL q (by rw[← H.len];exact List.getElem?_concat_length)))⟩
end
section
variable {C:Cx} {d:Nat} {sc:Scope}
theorem qO {kindOf:Str→Option NameKind} {n:Str} {binds:List (Str×Value)}:∀ {m:Str→Option Value},n ∉ binds.map (·.1)→bindL kindOf binds m n=m n:=by
 induction binds with
 | nil=>exact fun _=>rfl
 | cons p r ih=>
  intro m h
  have h:=not_or.mp (mt List.mem_cons.mpr h)
  unfold bindL
  rw[ih h.2]
  split
  ·exact if_neg (fun e=>h.1 e)
  ·rfl
theorem qP {kindOf:Str→Option NameKind} {n:Str} {binds:List (Str×Value)}:∀ {m:Str→Option Value},n ∉ binds.map (·.1)→bindC kindOf binds m n=m n:=by
 induction binds with
 | nil=>exact fun _=>rfl
 | cons p r ih=>
  intro m h
  have h:=not_or.mp (mt List.mem_cons.mpr h)
  unfold bindC
  rw[ih h.2]
  split
  ·rfl
  ·exact if_neg (fun e=>h.1 e)
theorem qQ {ps:List String}:∀ {vs:List Value},ps.length=vs.length→((ps.map Str.ofString).zip vs).map (·.1)=ps.map Str.ofString:=by
 induction ps with
 | nil=>exact fun _=>rfl
 | cons p ps ih=>
  intro vs h
  cases vs with
  | nil=>exact Nat.noConfusion h
  | cons v vs=>exact congrArg (Str.ofString p::·) (ih (Nat.succ.inj h))
theorem kD {x:String} {ps:List String} (h:x ∉ ps):Str.ofString x ∉ ps.map Str.ofString:=fun m=>by
 obtain⟨y,hy,e⟩:=List.mem_map.mp m
 exact h (eY e▸hy)
theorem cR (x:String) (o:Option AV) (l:aX):getL ((x,o)::l) x=o:=by simp[getL,List.lookup_cons]
theorem bn {x y:String} (h:x≠y) (o:Option AV) (l:aX):getL ((y,o)::l) x=getL l x:=by
 have:(x == y)=false:=beq_eq_false_iff_ne.mpr h
 simp[getL,List.lookup_cons,this]
theorem tu {f:List (Str×Value)→(Str→Option Value)→Str→Option Value} {h:Heap} {ρ:ab} {x:String} {a:AV} (f0:∀ v r m,(Str.ofString x) ∉ r.map (·.1)→f ((Str.ofString x,v)::r) m (Str.ofString x)=some v)
  (f1:∀ k v r m,∃ m',f ((k,v)::r) m (Str.ofString x)=f r m' (Str.ofString x)) {vs:List Value} {as:List AV} (V:bg h ρ vs as):∀ {ps:List String} {m:Str→Option Value},ps.Nodup→ps.length=vs.length→
  getL (ps.zip (as.map some)) x=some a→∃ v,f ((ps.map Str.ofString).zip vs) m (Str.ofString x)=some v∧VR h ρ v a:=by
 induction V with
 | nil=>intro ps m _ _ e;rw[List.map_nil,List.zip_nil_right] at e;exact aF e rfl
 | @cons v vs b as V r ih=>
  intro ps m hn hl e
  cases ps with
  | nil=>exact Nat.noConfusion hl
  | cons p ps=>
   have hn1:=List.nodup_cons.mp hn
   have dL:=Nat.succ.inj hl
   by_cases q:x=p
   ·subst q
    have e:=(cR x (some b) (ps.zip (as.map some))).symm.trans e
    exact⟨v,f0 _ _ _ ((qQ dL).symm▸kD hn1.1),Option.some.inj e▸V⟩
   ·have e:=(bn q (some b) (ps.zip (as.map some))).symm.trans e
    obtain⟨m',w⟩:=f1 (Str.ofString p) v ((ps.map Str.ofString).zip vs) m
    exact(ih (m:=m') hn1.2 dL e).imp fun u z=>⟨w.trans z.1,z.2⟩
theorem xF {h:Heap} {ρ:ab} {kindOf:Str→Option NameKind} {x:String} {a:AV} (hk:kindOf (Str.ofString x)=some .local) {vs:List Value} {as:List AV} (V:bg h ρ vs as) {ps:List String} {m:Str→Option Value}:ps.Nodup→ps.length=vs.length→
  getL (ps.zip (as.map some)) x=some a→∃ v,bindL kindOf ((ps.map Str.ofString).zip vs) m (Str.ofString x)=some v∧VR h ρ v a:=
 tu (f:=bindL kindOf) (fun v r m n=>by unfold bindL;rw[hk,if_pos rfl,qO n];exact if_pos rfl) (fun k v r m=>⟨_,rfl⟩) V
theorem xG {h:Heap} {ρ:ab} {kindOf:Str→Option NameKind} {x:String} {a:AV} (hk:kindOf (Str.ofString x)=some .cell) {vs:List Value} {as:List AV} (V:bg h ρ vs as) {ps:List String} {m:Str→Option Value}:ps.Nodup→ps.length=vs.length→
  getL (ps.zip (as.map some)) x=some a→∃ v,bindC kindOf ((ps.map Str.ofString).zip vs) m (Str.ofString x)=some v∧VR h ρ v a:=
 tu (f:=bindC kindOf) (fun v r m n=>by unfold bindC;rw[hk,if_neg (by decide),qP n];exact if_pos rfl) (fun k v r m=>⟨_,rfl⟩) V
noncomputable def tw (P:AV→Hp→Prop) (fl:Fl) (_loc:aX) (hp:Hp):Prop:=match fl with
 | .next=>P .none hp
 | .ret a=>P a hp
 | _=>False
noncomputable def ny (x:String) (v:AV):Option aX→Option aX
 | some l=>some ((x,some v)::l)
 | none=>none
noncomputable def ib:List String→List AV→Option aX
 | [],as=>match as with
  | []=>some []
  | _::_=>none
 | x::xs,as=>match as with
  | v::vs=>ny x v (ib xs vs)
  | []=>none
theorem lr {ps:List String}:∀ {as:List AV} {l:aX},ib ps as=some l→as.length=ps.length∧l=ps.zip (as.map some):=by
 induction ps with
 | nil=>
  intro as l h
  cases as with
  | nil=>cases h;exact⟨rfl,rfl⟩
  | cons=>exact aF h rfl
 | cons x xs ih=>
  intro as l h
  cases as with
  | nil=>exact aF h rfl
  | cons v vs=>
   have h:ny x v (ib xs vs)=some l:=h
   cases e:ib xs vs with
   | none=>rw[e] at h;exact aF h rfl
   | some l'=>rw[e] at h;cases h;exact⟨congrArg Nat.succ (ih e).1,congrArg ((x,some v)::·) (ih e).2⟩
noncomputable def e8 (ps:List String) (W:WS) (as:List AV) (hp:Hp) (P:AV→Hp→Prop):Prop:=match ib ps as with
 | some loc=>W loc hp (tw P)
 | none=>False
theorem C5 {ps:List String} {W:WS} {as:List AV} {hp:Hp} {P:AV→Hp→Prop} (h:e8 ps W as hp P):as.length=ps.length∧W (ps.zip (as.map some)) hp (tw P):=by
 unfold e8 at h
 cases e:ib ps as with
 | none=>rw[e] at h;exact h.elim
 | some l=>rw[e] at h;exact⟨(lr e).1,(lr e).2▸h⟩
theorem iP {h:Heap} {b:Addr} (hb:h.objs.size≤b):h.get? b=none:=by
 cases e:h.get? b with
 | none=>rfl
 | some o=>exact absurd (Heap.lt_size e) (Nat.not_lt.mpr hb)
theorem bD.out {env:Env} {ρ ρ':ab} {h h1 h':Heap} (kk:∀ b o,h.get? b=some o→h1.get? b=some o) (nL:h.get? env.locals=none) (nC:∀ y c,env.cells.lookup y=some c→h.get? c=none) (st:b9 C env ρ h1 ρ' h'):bD ρ h ρ' h':=
 ⟨st.pre,fun b o e n=>st.ext b o (kk b o e) fun m=>m.elim n fun m=>m.elim (fun z=>aF e (z▸nL)) fun ⟨y,w⟩=>aF e (nC y b w.2),
  fun b m=>(st.fresh b m).imp_right (cJ (fun b o e=>⟨o,kk b o e⟩)),fun b o e=>st.live b o (kk b o e)⟩
theorem bA {f:Addr} {ps:List String} {name qual:Str} {params:Arguments} {body:List Stmt} {scope:Scope} {dV kV doc pm cdv ct oc:Value} {an od:Option Addr} {osl:Array (Option Value)} {W:WS}
  (hl:C.K.lookup f=some ⟨oc,od,.func (fnOf name qual params body scope dV kV doc pm an cdv ct),osl⟩) (hcd:codeIn C.K cdv qual=true)
  (hbind:∀ vals:List Value,vals.length=ps.length→bindArgs (fnOf name qual params body scope dV kV doc pm an cdv ct) ⟨vals,[]⟩=pure ((ps.map Str.ofString).zip vals))
  (hnd:ps.Nodup) (hkind:(ps.all fun x=>scope.names.lookup (Str.ofString x) == some .local || scope.names.lookup (Str.ofString x) == some .cell)=true)
  (hb:SS C d scope body W) (hk:scope.kind=.function) (hco:scope.isCoroutine=false) (hgen:scope.isGenerator=false):aI C (d+1) (.ref f) (e8 ps W):=by
 intro A ρ hp s as vs R P rm H V hw0 post
 obtain⟨hlen,hw⟩:=C5 hw0
 have hvl:vs.length=ps.length:=V.length.trans hlen
 have X:C.K.In s.heap:=C.X.keeps H.keep
 have hkd:∀ x∈(ps.map Str.ofString).zip vs,scope.names.lookup x.1=some .local∨(scope.names.lookup x.1=some .cell∧((cellsFrom (s.heap.objs.size+1) scope.names []).lookup x.1).isSome=true):=by
  intro x hx
  have:x.1∈ps.map Str.ofString:=by rw[← qQ (vs:=vs) hvl.symm];exact List.mem_map_of_mem hx
  obtain⟨y,hy,e⟩:=List.mem_map.mp this
  have q:=List.all_eq_true.mp hkind y hy
  rw[← e]
  rcases Bool.or_eq_true_iff.mp q with q | q
  ·exact .inl (by simpa using q)
  ·have q':scope.names.lookup (Str.ofString y)=some .cell:=by simpa using q
   exact .inr ⟨q',cellsFrom_some _ _ _ (.inl q')⟩
 refine codeAny_call_cells (fd:=fnOf name qual params body scope dV kV doc pm an cdv ct) rm.dep (X _ _ hl) rfl (C.T.nolimit.keeps H.keep) (codeRec_of X hcd) rfl (hbind vs hvl) rfl hkd (fun s₁ x=>?_) hco hgen hk
 obtain⟨h1,tk,rfl⟩:=x.toInCall.same
 have kk:=x.toInCall.keep
 have H1:=H.grow kk
 have V1:=H.vrs (bD.grow ρ kk) V
 have nL:s.heap.get? (callEnvC (fnOf name qual params body scope dV kV doc pm an cdv ct) s.heap.objs.size f).locals=none:=iP (Nat.le_refl _)
 have nC:∀ (y:Str) c,(callEnvC (fnOf name qual params body scope dV kV doc pm an cdv ct) s.heap.objs.size f).cells.lookup y=some c→s.heap.get? c=none:=fun y c e=>
  iP (Nat.le_of_lt (x.above y c (mem_of_lookup e)))
 have F1:FR C (callEnvC (fnOf name qual params body scope dV kV doc pm an cdv ct) s.heap.objs.size f) ρ (ps.zip (as.map some)) h1:=
  ⟨hk,rfl,rfl,⟨_,x.toInCall.ns,fun y a e k=>xF k V1 hnd hvl.symm e⟩,fun y k=>(Option.isSome_iff_exists.mp (cellsFrom_some (x:=y) scope.names (s.heap.objs.size+1) [] (.inl k))).imp fun c hc=>⟨_,hc,x.cell y c hc⟩,
   fun y a e k=>(Option.isSome_iff_exists.mp (cellsFrom_some (x:=Str.ofString y) scope.names (s.heap.objs.size+1) [] (.inl k))).elim fun c hc=>(xG (m:=fun _=>none) k V1 hnd hvl.symm e).elim fun v z=>⟨c,v,hc,z.1▸x.cell (Str.ofString y) c hc,z.2⟩,
   fun p hp' q=>H.noNew nL ⟨p,hp',q⟩,H.none_of nL,fun y c e=>H.none_of (nC y c e),fun y z c e1 e2=>name_of_addr x.apart (mem_of_lookup e1) (mem_of_lookup e2)⟩
 refine hb _ _ ρ _ hp { s with heap:=h1,toks:=tk } _ _ _ rfl (rm.deep _) H1 F1 hw fun fl fd ρ' loc' hp' h' tk' hw' st' H' F' FL=>?_
 have st:=bD.out kk nL nC st'
 cases FL with
 | next=>exact post _ _ _ _ _ _ hw' st H' .none
 | ret FL=>exact post _ _ _ _ _ _ hw' st H' FL
 | brk=>exact hw'.elim
 | cont=>exact hw'.elim
end
section
variable {C:Cx} {d:Nat} {sc:Scope}
theorem iQ (l:aX) (x y:String) (v:AV):getL (oy l x v) y=if y=x then some v else getL l y:=by
 induction l with
 | nil=>
  by_cases h:y=x
  ·subst h;rw[if_pos rfl];exact cR y (some v) []
  ·rw[if_neg h];exact bn h (some v) []
 | cons p r ih=>
  unfold oy
  by_cases hz:p.1=x
  ·rw[if_pos hz]
   by_cases h:y=x
   ·rw[if_pos h,h,← hz];exact cR p.1 (some v) r
   ·rw[if_neg h,bn (hz▸h),show getL (p::r) y=getL r y from bn (hz▸h) p.2 r]
  ·rw[if_neg hz]
   by_cases h:y=p.1
   ·rw[h,cR,if_neg hz];exact(cR p.1 p.2 r).symm
   ·rw[bn h,ih];exact congrArg (fun z=>if y=x then some v else z) (bn h p.2 r).symm
theorem FR.congr {env:Env} {ρ:ab} {loc loc':aX} {h:Heap} (F:FR C env ρ loc h) (e:∀ x,getL loc' x=getL loc x):FR C env ρ loc' h:=by
 exact⟨F.kind,F.glob,F.bi,F.ns.imp fun m=>And.imp_right fun hv x d a b=>hv x d (e x▸a) b,F.cell,fun x d a b=>F.cellv x d (e x▸a) b,F.apL,F.newL,F.newC,F.injC⟩
noncomputable def xH (env:Env) (x:String):Prop:=env.kindOf (Str.ofString x)=some .local∨env.kindOf (Str.ofString x)=some .cell
theorem j3 {A:Around} {env:Env} {ρ:ab} {loc:aX} {hp:Hp} {s:Shared} {Q:Unit→Shared→Prop} {E:Value→Shared→Prop} {x:String} {v:Value} {a:AV} (H:HR C ρ hp s.heap) (F:FR C env ρ loc s.heap) (V:VR s.heap ρ v a) (hk:xH env x)
  (post:∀ h' tk,HR C ρ hp h'→FR C env ρ (oy loc x a) h'→b9 C env ρ s.heap ρ h'→(∀ v' a',VR s.heap ρ v' a'→VR h' ρ v' a')→(env.kindOf (Str.ofString x)=some .local→∀ b o,b≠env.locals→s.heap.get? b=some o→h'.get? b=some o)→Q () { s with heap:=h',toks:=tk }):wpAny C.M A (storeName env (Str.ofString x) v) Q E s:=by
 refine nn fun ng=>?_
 obtain⟨m,hm,hv⟩:=F.ns
 obtain⟨oL,es,ep,hL,hLd,hLk⟩:=id hm
 rcases hk with hk | hk
 ·refine ng (wpAny_storeName_local hk hm (fun h' hn hs=>?_) (by rw[F.kind];rfl))
  have e:∀ b o,b≠env.locals→s.heap.get? b=some o→h'.get? b=some o:=fun b o hb q=>(hs.2 b hb).trans q
  have dd:eu oL:=lK.side (.inl ⟨_,_,hLd⟩)
  have tv:∀ v' a',VR s.heap ρ v' a'→VR h' ρ v' a':=fun v' a' q=>H.vr_but hL dd e q
  have ck:∀ {c ov},s.heap.IsCell c ov→h'.IsCell c ov:=fun {c ov} q=>cq (fun o w=>e c o (fun z=>q.elim fun o y=>jw (Option.some.inj (hL.symm.trans (z▸y.1))▸hLd) y.2) w) q
  refine post h' _ (H.but hL (fun ⟨p,x,y⟩=>F.apL p x y) dd F.newL e) ⟨F.kind,F.glob,F.bi,⟨_,hn,fun y b hy k=>?_⟩,fun y k=>(F.cell y k).imp fun c=>Exists.imp fun ov=>And.imp_right ck,fun y b hy k=>?_,F.apL,F.newL,F.newC,F.injC⟩
   ⟨List.prefix_rfl,fun b o q n=>e b o (fun z=>n (.inr (.inl z))) q,fun b q=>.inl q,fun b o q=>?_⟩ tv (fun _=>e)
  ·rw[iQ] at hy
   by_cases q:y=x
   ·rw[if_pos q] at hy;rw[q];exact⟨v,if_pos rfl,Option.some.inj hy▸tv _ _ V⟩
   ·rw[if_neg q] at hy
    exact(hv y b hy k).imp fun u w=>⟨(if_neg fun z=>q (eY z)).trans w.1,tv _ _ w.2⟩
  ·have q:y≠x:=fun z=>by rw[z,hk] at k;cases k
   rw[iQ,if_neg q] at hy
   exact(F.cellv y b hy k).imp fun c=>Exists.imp fun u=>And.imp_right (And.imp ck (tv _ _))
  ·by_cases z:b=env.locals
   ·rw[z];exact vf hn fun o' _ _ w _=>⟨o',w⟩
   ·exact⟨o,e b o z q⟩
 ·obtain⟨c,ov,c1,c2⟩:=F.cell _ hk
  refine ng (wpAny_storeName_cell F.kind hk c1 c2 fun h' hc' hs=>nn fun ng=>?_)
  obtain⟨oc,hoc,hcd⟩:=id c2
  have e:∀ b o,b≠c→s.heap.get? b=some o→h'.get? b=some o:=fun b o hb q=>(hs.2 b hb).trans q
  have dd:eu oc:=lK.side (.inr ⟨_,hcd⟩)
  have tv:∀ v' a',VR s.heap ρ v' a'→VR h' ρ v' a':=fun v' a' q=>H.vr_but hoc dd e q
  have ck:∀ {c'},c'≠c→∀ {ov},s.heap.IsCell c' ov→h'.IsCell c' ov:=fun {c'} z {ov} q=>cq (fun o w=>e c' o z w) q
  have Lne:env.locals≠c:=fun q=>jw hLd (Option.some.inj (hoc.symm.trans (q▸hL))▸hcd)
  refine ng (post h' s.toks (H.but hoc (H.noCell c2) dd (F.newC _ c c1) e) ⟨F.kind,F.glob,F.bi,⟨m,⟨oL,es,ep,e _ _ Lne hL,hLd,hLk⟩,fun y b hy k=>?_⟩,fun y k=>?_,fun y b hy k=>?_,F.apL,F.newL,F.newC,F.injC⟩
   ⟨List.prefix_rfl,fun b o q n=>e b o (fun z=>n (.inr (.inr ⟨Str.ofString x,hk,z▸c1⟩))) q,fun b q=>.inl q,fun b o q=>?_⟩ tv (fun z=>by rw[hk] at z;cases z))
  ·have q:y≠x:=fun z=>by rw[z,hk] at k;cases k
   rw[iQ,if_neg q] at hy
   exact(hv y b hy k).imp fun u=>And.imp_right (tv _ _)
  ·obtain⟨c',ov',d1,d2⟩:=F.cell y k
   by_cases z:c'=c
   ·exact⟨c',_,d1,z▸hc'⟩
   ·exact⟨c',ov',d1,ck z d2⟩
  ·rw[iQ] at hy
   by_cases q:y=x
   ·rw[if_pos q] at hy;rw[q];exact⟨c,v,c1,hc',Option.some.inj hy▸tv _ _ V⟩
   ·rw[if_neg q] at hy
    exact(F.cellv y b hy k).imp fun c'=>Exists.imp fun u w=>⟨w.1,ck (fun z=>q (eY (F.injC _ _ c' w.1 (by rw[z];exact c1)))) w.2.1,tv _ _ w.2.2⟩
  ·by_cases z:b=c
   ·rw[z];exact hc'.imp fun _=>And.left
   ·exact⟨o,e b o z q⟩
noncomputable def wZ (loc:aX) (hp:Hp) (P:Fl→aX→Hp→Prop):Prop:=P .next loc hp
noncomputable def tl (r:WS) (loc:aX) (hp:Hp) (P:Fl→aX→Hp→Prop):Prop:=r loc hp P
noncomputable def cont (r:WS) (P:Fl→aX→Hp→Prop) (fl:Fl) (loc:aX) (hp:Hp):Prop:=match fl with
 | .next=>tl r loc hp P
 | fl=>P fl loc hp
noncomputable def wS (x r:WS) (loc:aX) (hp:Hp) (P:Fl→aX→Hp→Prop):Prop:=x loc hp (cont r P)
theorem ic {r:WS} {loc:aX} {hp:Hp} {P:Fl→aX→Hp→Prop} (h:r loc hp P):tl r loc hp P:=h
theorem C6:SS C d sc [] wZ:=fun A env ρ loc hp s Q E P hsc rm H F hw post=>wpAny_execs_nil (post .next .next ρ loc hp s.heap s.toks hw (.refl _ _) H F .next)
theorem aP {st:Stmt} {r:List Stmt} {X R:WS} (hx:SX C d sc st X) (hr:SS C d sc r R):SS C d sc (st::r) (wS X R):=by
 intro A env ρ loc hp s Q E P hsc rm H F hw post
 refine wpAny_execs_cons (hx A env ρ loc hp s _ E _ hsc rm H F hw fun fl fd ρ1 loc1 hp1 h1 tk1 hw1 st1 H1 F1 R1=>?_)
 cases R1 with
 | next=>exact hr A env ρ1 loc1 hp1 { s with heap:=h1,toks:=tk1 } Q E P hsc rm H1 F1 hw1 (post.after st1)
 | ret R1=>exact post _ _ _ _ _ _ _ hw1 st1 H1 F1 (.ret R1)
 | brk=>exact post _ _ _ _ _ _ _ hw1 st1 H1 F1 .brk
 | cont=>exact post _ _ _ _ _ _ _ hw1 st1 H1 F1 .cont
noncomputable def wR (x:WE) (loc:aX) (hp:Hp) (P:Fl→aX→Hp→Prop):Prop:=x loc hp fun a hp1=>P (.ret a) loc hp1
theorem C7 {e:Expr} {pos:Pos} {W:WE} (h:SE C d sc e W):SX C d sc (.Return (some e) pos) (wR W):=by
 intro A env ρ loc hp s Q E P hsc rm H F hw post
 exact wpAny_Return_some (h A env ρ loc hp s _ E _ hsc rm H F hw fun v a ρ1 hp1 h1 tk1 hw1 st1 H1 V1=>post (.ret v) (.ret a) _ loc _ _ _ hw1 (.of st1) H1 (F.step H st1) (.ret V1))
noncomputable def iR (x:WE) (loc:aX) (hp:Hp) (P:Fl→aX→Hp→Prop):Prop:=x loc hp fun a hp1=>a=.none∧P .next loc hp1
theorem IU {e:Expr} {pos:Pos} {W:WE} (h:SE C d sc e W) (hs:autoParam (∀ env,swapsWith e none pos.line env=pure false) au):SX C d sc (.Expr e pos) (iR W):=by
 intro A env ρ loc hp s Q E P hsc rm H F hw post
 refine wpAny_Expr (h A env ρ loc hp s _ E _ hsc rm H F hw fun v a ρ1 hp1 h1 tk1 hw1 st1 H1 V1=>?_) (by unfold interactive;rw[F.kind];rfl) (hs env)
 have e:v=.none:=(hw1.1▸V1).inv
 rw[e]
 exact post .next .next _ loc _ _ _ hw1.2 (.of st1) H1 (F.step H st1) .next
noncomputable def e9 (c:WB) (x y:WS) (loc:aX) (hp:Hp) (P:Fl→aX→Hp→Prop):Prop:=c loc hp fun b hp1=>if b=true then x loc hp1 P else y loc hp1 P
theorem IV {t:Expr} {x y:List Stmt} {pos:Pos} {T:WB} {X Y:WS} (ht:SB C d sc t T) (hx:SS C d sc x X) (hy:SS C d sc y Y):SX C d sc (.If t x y pos) (e9 T X Y):=by
 intro A env ρ loc hp s Q E P hsc rm H F hw post
 refine wpAny_If (ht A env ρ loc hp s _ E _ hsc rm H F hw fun b ρ1 hp1 h1 tk1 hw1 st1 H1=>?_)
 cases b with
 | true=>exact hx A env ρ1 loc hp1 { s with heap:=h1,toks:=tk1 } _ E _ hsc rm H1 (F.step H st1) hw1 (post.after (.of st1))
 | false=>exact hy A env ρ1 loc hp1 { s with heap:=h1,toks:=tk1 } _ E _ hsc rm H1 (F.step H st1) hw1 (post.after (.of st1))
noncomputable def wQ (x:String) (e:WE) (loc:aX) (hp:Hp) (P:Fl→aX→Hp→Prop):Prop:=e loc hp fun a hp1=>P .next (oy loc x a) hp1
noncomputable def oA (sc:Scope) (x:String):Bool:=sc.names.lookup (Str.ofString x) == some .local || sc.names.lookup (Str.ofString x) == some .cell
theorem hG {env:Env} {x:String} (h:env.scope=sc) (e:oA sc x=true):xH env x:=by
 subst h
 rcases Bool.or_eq_true_iff.mp e with q | q
 ·exact .inl (by simpa[Env.kindOf] using q)
 ·exact .inr (by simpa[Env.kindOf] using q)
theorem C8 {x:String} {e:Expr} {p pos:Pos} {W:WE} (h:SE C d sc e W) (hx:autoParam (oA sc x=true) au) (hs:autoParam (∀ env,swapsWith e (some (.Name (Str.ofString x) p)) pos.line env=pure false) au):SX C d sc (.Assign [.Name (Str.ofString x) p] e pos) (wQ x W):=by
 intro A env ρ loc hp s Q E P hsc rm H F hw post
 refine wpAny_Assign_Name (h A env ρ loc hp s _ E _ hsc rm H F hw fun v a ρ1 hp1 h1 tk1 hw1 st1 H1 V1=>?_) (hs env)
 refine j3 (s:={ s with heap:=h1,toks:=tk1 }) H1 (F.step H st1) V1 (hG hsc hx) fun h2 tk2 H2 F2 st2 _ _=>?_
 exact post .next .next _ _ _ _ _ hw1 ((b9.of st1).trans st2) H2 F2 .next
inductive IW (cs:List Addr) (x:String) (loc:aX) (P:Fl→aX→Hp→Prop) (a:AV) (hp:Hp):AV→Prop
 | mk {n c l}:hp[n]?=some (.inst c l)→c∈cs→l.length≤900→P .next loc (hp.set n (.inst c (lh l x a)))→IW cs x loc P a hp (.ref n)
noncomputable def ty (cs:List Addr) (x:String) (loc:aX) (P:Fl→aX→Hp→Prop) (a b:AV) (hp:Hp):Prop:=IW cs x loc P a hp b
noncomputable def bS (cs:List Addr) (x:String) (o:WE) (e:WE) (loc:aX) (hp:Hp) (P:Fl→aX→Hp→Prop):Prop:=e loc hp fun a hp1=>o loc hp1 (ty cs x loc P a)
theorem Kx {cs:List Addr} {x:String} {loc:aX} {P:Fl→aX→Hp→Prop} {n:Nat} {c:Addr} {l:List (String×AV)} {a:AV} {hp:Hp} (e:hp[n]?=some (.inst c l)) (hP:P .next loc (hp.set n (.inst c (lh l x a)))) (hc:autoParam (cs.elem c=true) au) (hz:autoParam (Nat.ble l.length 900=true) au):ty cs x loc P a (.ref n) hp:=⟨e,List.elem_iff.mp hc,Nat.le_of_ble_eq_true hz,hP⟩
theorem az {o e:Expr} {x:String} {p pos:Pos} {cs:List Addr} {O W:WE} (ho:SE C d sc o O) (he:SE C d sc e W) (hc:∀ c∈cs,aw C c x) (hs:∀ env,swapsWith e (some (.Attribute o (Str.ofString x) p)) pos.line env=pure false) :
  SX C d sc (.Assign [.Attribute o (Str.ofString x) p] e pos) (bS cs x O W):=by
 intro A env ρ loc hp s Q E P hsc rm H F hw post
 refine plainObj_wpAny_Assign_Attribute (he A env ρ loc hp s _ E _ hsc rm H F hw fun v a ρ1 hp1 h1 tk1 hw1 st1 H1 V1=>?_) (hs env)
 refine ho A env ρ1 loc hp1 { s with heap:=h1,toks:=tk1 } _ E _ hsc rm H1 (F.step H st1) hw1 fun ov b ρ2 hp2 h2 tk2 hw2 st2 H2 V2=>?_
 cases hw2 with
 | mk q hm hz hw2=>
  exact uq (s:={ s with heap:=h2,toks:=tk2 }) (hc _ hm) H2 V2 q (H1.vr st2 V1) hz fun h3 tk3 H3 st3=>post .next .next _ _ _ _ _ hw2 (.of ((st1.trans st2).trans st3)) H3 ((F.step H (st1.trans st2)).step H2 st3) .next
end
noncomputable def dg (h:Heap) (d:Addr) (es:Array DictEntry) (ep:Nat):Prop:=∃ o,h.get? d=some o∧o.ExactDict∧o.data=.dict es ep
section
variable {prog:Program} {w:World} {A:Around} {E:Value→Shared→Prop} {s:Shared} {d it:Addr} {es:Array DictEntry} {i ep:Nat}
theorem dg.typeIs (x:dg s.heap d es ep):s.TypeIs (.ref d) "dict":=x.imp fun _ y=>⟨y.1,y.2.1.1⟩
theorem oC {Q:Value→Shared→Prop} (hd:(d == sysModules)=false) (hm:dg s.heap d es ep)
  (hQ:Q (.ref s.heap.objs.size) { s with heap:=s.heap.push { cls:=.type "dict_keyiterator",data:=.fields #[.ref d,.int 0 0,.int es.size 0,.int ep 0] } }):wpAny (model prog w) A (pyIter (.ref d)) Q E s:=by
 refine nn fun nG=>?_
 obtain⟨o,ho,hc,hdat⟩:=id hm
 refine nG ?_;clear nG
 have hT:=hm.typeIs
 refine wpAny_pyIter_slot hT PySem.F.slot_dict_iter (wpAny_call_entry PySem.F.slot_dict_iter hT PySem.F.entry_dict_iter ?_ (PySem.F.args_dict_iter_1 _))
 unfold Builtin.«dict.__iter__»
 refine wpAny_bind ?_
 unfold Builtin.Dict.dictSlotNone
 refine wpAny_bind (wpAny_notOrdered_dict hT ?_)
 show wpAny _ _ (pure (Value.ref d)) _ _ s
 refine wpAny_pure ?_
 show wpAny _ _ (Builtin.Dict.showsAll d >>= _) _ _ s
 unfold Builtin.Dict.showsAll
 rw[if_neg (by rw[hd];exact Bool.false_ne_true)]
 refine wpAny_bind (wpAny_pure (wpAny_bind (wpAny_dictEntries ho hdat (wpAny_bind (wpAny_dictEpoch ho hdat ?_)))))
 refine wpAny_bind (wpAny_newObj_type (wpAny_pure ⟨_,rfl,"dict_keyiterator",_,⟨_,Heap.get?_push_size _ rfl,rfl⟩,PySem.F.slot_dict_keyiterator_next.lookup,?_⟩))
 simpa[rawInt] using hQ
theorem oD {Q:Option Value→Shared→Prop} {e:DictEntry} (hit:s.heap.IsKeyIter it d i es.size ep) (hm:dg s.heap d es ep) (hx:es[i]?=some e)
  (hQ:∀ h',h'.IsKeyIter it d (i+1) es.size ep→Heap.SameBut it s.heap h'→Q (some e.key) { s with heap:=h' }):wpAny (model prog w) A (pyNext (.ref it)) Q E s:=by
 refine nn fun nG=>?_
 obtain⟨o,ho,hc,hd⟩:=id hit
 obtain⟨od,hod,hcd,hdd⟩:=id hm
 refine nG ?_;clear nG
 unfold pyNext
 refine wpAny_bind (wpAny_attempt (wpAny_callSpecial?_slot (name:=Str.ofString "__next__") hit.typeIs PySem.F.slot_dict_keyiterator_next
  (wpAny_call_entry PySem.F.slot_dict_keyiterator_next hit.typeIs PySem.F.entry_dict_keyiterator_next ?_ (PySem.F.args_dict_keyiterator_next_1 _))))
 refine wpAny_bind (wpAny_pure (wpAny_bind (wpAny_bind ?_)))
 first | refine wpAny_bind (wpAny_typeNameOfWhole_keyiter hit.typeIs (wpAny_pure ?_)) | refine wpAny_bind (wpAny_typeNameOf_keyiter hit.typeIs (wpAny_pure ?_))
 refine wpAny_bind (wpAny_fieldsOf ho hd ?_)
 have hown:Builtin.Dict_items.ownsTuple "dict_keyiterator" = false:=by decide
 rw[hown]
 show wpAny _ _ (if (Value.ref d == Value.none)=true then _ else _) _ _ s
 rw[if_neg (show ¬ ((Value.ref d == Value.none)=true) from Bool.false_ne_true)]
 refine wpAny_bind (wpAny_pure (wpAny_bind (wpAny_dictEntries hod hdd ?_)))
 rw[if_neg (by simp)]
 refine wpAny_bind (wpAny_pure (wpAny_bind (wpAny_dictEpoch hod hdd ?_)))
 rw[if_neg (by simp)]
 refine wpAny_pure ?_
 dsimp only
 rw[show(if (i:Int)<0 then none else es[(i:Int).toNat]?)=some e from(if_neg zG).trans hx]
 dsimp only
 refine wpAny_bind ?_
 first | refine wpAny_bind (wpAny_typeNameOfWhole_keyiter hit.typeIs (wpAny_pure ?_)) | refine wpAny_bind (wpAny_typeNameOf_keyiter hit.typeIs (wpAny_pure ?_))
 refine wpAny_bind (wpAny_isOneOf_keyiter hit.typeIs ?_)
 show wpAny _ _ (setField (.ref it) 1 (rawInt ((i:Int)+1)) >>= _) _ _ s
 refine wpAny_bind (wpAny_setField ho hd (by simp) ?_)
 have hit':(s.heap.update it (Obj.mapFields (·.setIfInBounds 1 (rawInt ((i:Int)+1))))).IsKeyIter it d (i+1) es.size ep:=
  ⟨_,Heap.get?_update_self _ ho (Obj.isFreed_of_fields (Obj.data_mapFields hd _)),(Obj.cls_mapFields ..).trans hc,by rw[Obj.data_mapFields hd];simp[rawInt]⟩
 refine wpAny_bind (wpAny_holding ?_)
 refine wpAny_bind (wpAny_isOneOf_keyiter (s:={ s with heap:=s.heap.update it (Obj.mapFields (·.setIfInBounds 1 (rawInt ((i:Int)+1)))) }) hit'.typeIs ?_)
 show wpAny _ _ (pure e.key) _ _ _
 exact wpAny_pure (wpAny_pure ⟨_,rfl,wpAny_pure (hQ _ hit' (Heap.SameBut.update ..))⟩)
theorem qR {Q:Option Value→Shared→Prop} (hh:A.handled=none) (hit:s.heap.IsKeyIter it d i es.size ep) (hm:dg s.heap d es ep) (hx:es.size≤i)
  (hQ:∀ h',Heap.ExtBut it s.heap h'→Q none { s with heap:=h' }):wpAny (model prog w) A (pyNext (.ref it)) Q E s:=by
 refine nn fun nG=>?_
 obtain⟨o,ho,hc,hd⟩:=id hit
 obtain⟨od,hod,hcd,hdd⟩:=id hm
 refine nG ?_;clear nG
 unfold pyNext
 refine wpAny_bind (wpAny_attempt (wpAny_callSpecial?_slot (name:=Str.ofString "__next__") hit.typeIs PySem.F.slot_dict_keyiterator_next
  (wpAny_call_entry PySem.F.slot_dict_keyiterator_next hit.typeIs PySem.F.entry_dict_keyiterator_next ?_ (PySem.F.args_dict_keyiterator_next_1 _))))
 refine wpAny_bind (wpAny_pure (wpAny_bind (wpAny_bind ?_)))
 first | refine wpAny_bind (wpAny_typeNameOfWhole_keyiter hit.typeIs (wpAny_pure ?_)) | refine wpAny_bind (wpAny_typeNameOf_keyiter hit.typeIs (wpAny_pure ?_))
 refine wpAny_bind (wpAny_fieldsOf ho hd ?_)
 have hown:Builtin.Dict_items.ownsTuple "dict_keyiterator" = false:=by decide
 rw[hown]
 show wpAny _ _ (if (Value.ref d == Value.none)=true then _ else _) _ _ s
 rw[if_neg (show ¬ ((Value.ref d == Value.none)=true) from Bool.false_ne_true)]
 refine wpAny_bind (wpAny_pure (wpAny_bind (wpAny_dictEntries hod hdd ?_)))
 rw[if_neg (by simp)]
 refine wpAny_bind (wpAny_pure (wpAny_bind (wpAny_dictEpoch hod hdd ?_)))
 rw[if_neg (by simp)]
 refine wpAny_pure ?_
 dsimp only
 rw[show(if (i:Int)<0 then none else es[(i:Int).toNat]?)=none from(if_neg zG).trans (Array.getElem?_eq_none hx)]
 dsimp only
 refine wpAny_bind ?_
 first | refine wpAny_bind (wpAny_typeNameOfWhole_keyiter hit.typeIs (wpAny_pure ?_)) | refine wpAny_bind (wpAny_typeNameOf_keyiter hit.typeIs (wpAny_pure ?_))
 show wpAny _ _ (setField (.ref it) 0 .none >>= _) _ _ s
 refine wpAny_bind (wpAny_setField ho hd (by simp) ?_)
 show wpAny _ _ (newExc (.type "StopIteration") [] >>= _) _ _ _
 refine wpAny_bind ?_
 unfold newExc newTuple
 refine wpAny_bind (wpAny_newObj_type ?_ (by first | exact Nat.zero_le _ | exact trivial | exact Nat.le_of_ble_eq_true rfl | size_fits))
 refine wpAny_bind (m:=firstArgMember _ _) (wpAny_of_eq (a:=Value.none) (by first | rfl | (simp only[firstArgMember];rfl)) ?_)
 refine wpAny_newObj_type ?_ (by first | exact Nat.zero_le _ | exact trivial | exact Nat.le_of_ble_eq_true rfl | size_fits)
 unfold raiseNew
 dsimp only
 refine wpAny_bind (wpAny_handled ?_)
 rw[show A.in1.handled=none from hh]
 refine wpAny_bind (wpAny_pure (wpAny_throw ?_))
 refine wpAny_bind (wpAny_isInstance (T:="StopIteration") (b:=true) ⟨_,Heap.get?_push_size _ rfl,rfl⟩ isSubtype_stop ?_)
 exact wpAny_pure (hQ _ (((Heap.SameBut.update ..).extBut.push _).push _))
end
section
variable {C:Cx} {d:Nat} {sc:Scope}
noncomputable def aL:AV→Hp→Option (List AV)
 | .tup l,_=>some l
 | .rng a b c,_=>if Builtin.Range.small a b c=true then some ((List.range (Builtin.Range.rangeSize a b c).toNat).map fun (k:Nat)=>.int (a+k * c)) else none
 | .ref n,hp=>match hp[n]? with
  | some (.list l)=>some l
  | some (.dS _ l)=>some (l.map fun p=>.tup (p.1.map .str))
  | _=>none
 | _,_=>none
noncomputable def gm (h:Heap) (I:Addr) (v:Value) (i:Nat):AV→aC→Prop
 | .tup _,_=>∃ t,v=.ref t∧IsTupIter h I t i
 | .rng a b c,_=>IsRangeIter h I (a+i * c) (Builtin.Range.rangeSize a b c-i) c
 | .ref _,.list _=>∃ l,v=.ref l∧h.IsListIter I l i
 | .ref _,.dS ep l=>∃ t,v=.ref t∧h.IsKeyIter I t i l.length ep
 | _,_=>False
noncomputable def ag:AV→Hp→aC
 | .ref n,hp=>hp.getD n (.list [])
 | _,_=>.list []
theorem gm.there {h:Heap} {I:Addr} {v:Value} {i:Nat} {a:AV} {o:aC} (x:gm h I v i a o):∃ ob,h.get? I=some ob∧∃ vs,ob.data=.fields vs∧ob.cls≠.type "range":=by
 cases a with
 | tup l=>exact x.elim fun _ y=>y.2.imp fun ob z=>⟨z.1,_,z.2.2,by rw[z.2.1];decide⟩
 | rng a b c=>exact⟨_,x,_,rfl,fun q=>by injection q with q;revert q;decide⟩
 | ref n=>
  cases o with
  | list l=>exact x.elim fun _ y=>y.2.imp fun ob z=>⟨z.1,_,z.2.2,by rw[z.2.1];decide⟩
  | dS ep l=>exact x.elim fun _ y=>y.2.imp fun ob z=>⟨z.1,_,z.2.2,by rw[z.2.1];decide⟩
  | _=>exact x.elim
 | _=>exact x.elim
theorem gm.keep {h h':Heap} {I:Addr} {v:Value} {i:Nat} (k:∀ o,h.get? I=some o→h'.get? I=some o) {a:AV} {o:aC} (x:gm h I v i a o):gm h' I v i a o:=by
 cases a with
 | tup l=>exact x.imp fun _=>And.imp_right (cq k)
 | rng a b c=>exact k _ x
 | ref n=>
  cases o with
  | list l=>exact x.imp fun _=>And.imp_right (cq k)
  | dS ep l=>exact x.imp fun _=>And.imp_right (cq k)
  | _=>exact x.elim
 | _=>exact x.elim
inductive IX (hp:Hp):AV→List AV→aC→Prop
 | tup {l}:IX hp (.tup l) l (.list [])
 | rng {a b c}:Builtin.Range.small a b c=true→IX hp (.rng a b c) ((List.range (Builtin.Range.rangeSize a b c).toNat).map fun (k:Nat)=>.int (a+k * c)) (.list [])
 | list {n l}:hp[n]?=some (.list l)→IX hp (.ref n) l (.list l)
 | dS {n ep l}:hp[n]?=some (.dS ep l)→IX hp (.ref n) (l.map fun p=>.tup (p.1.map .str)) (.dS ep l)
theorem uA {a:AV} {hp:Hp} {items:List AV} (h:aL a hp=some items):IX hp a items (ag a hp):=by
 cases a with
 | tup l=>exact Option.some.inj h▸.tup
 | rng a b c=>
  obtain⟨hs,e⟩:=Option.ite_none_right_eq_some.mp h
  exact Option.some.inj e▸.rng hs
 | ref n=>
  have h:(match hp[n]? with
   | some (.list l)=>some l
   | some (.dS _ l)=>some (l.map fun p=>.tup (p.1.map .str))
   | _=>none)=some items:=h
  cases e:hp[n]? with
  | none=>rw[e] at h;exact aF h rfl
  | some o=>
   have q:ag (.ref n) hp=o:=by show(hp[n]?).getD _=o;rw[e];rfl
   rw[q]
   rw[e] at h
   cases o with
   | list l=>exact Option.some.inj h▸.list e
   | dS ep l=>exact Option.some.inj h▸.dS e
   | _=>exact aF h rfl
 | _=>exact aF h rfl
theorem i4.keys {prog:Program} {w:World} {h:Heap} {ρ:ab} {xs:List (List Str×Addr×Value)} {ls:List (List Str×AV)} (e:i4 h ρ xs ls):xs.map (·.1)=ls.map (·.1):=by
 induction e with
 | nil=>rfl
 | cons _ _ ih=>simp[ih]
theorem i4.length {κ:Type} {h:Heap} {ρ:ab} {xs:List (κ×Addr×Value)} {ls:List (κ×AV)} (e:i4 h ρ xs ls):xs.length=ls.length:=by
 induction e with
 | nil=>rfl
 | cons _ _ ih=>simp[ih]
theorem sJ {prog:Program} {w:World} {h:Heap} {ρ:ab} {k:List Str} {vs:List Value} (x:ItemsAre (PySem.strKind prog w) k vs):bg h ρ vs (k.map .str):=by
 induction x with
 | nil=>exact .nil
 | cons a _ ih=>exact .cons ((Value.isStrOf_shape a).elim fun t e=>e▸.str _ _) ih
theorem i4.at {κ:Type} {h:Heap} {ρ:ab} {xs:List (κ×Addr×Value)} {ls:List (κ×AV)} (e:i4 h ρ xs ls):∀ (i:Nat) p,ls[i]?=some p→∃ y,xs[i]?=some y∧y.1=p.1∧VR h ρ y.2.2 p.2:=by
 induction e with
 | nil=>intro i p hi;exact aF hi rfl
 | cons V _ ih=>
  intro i p hi
  cases i with
  | zero=>exact⟨_,rfl,Option.some.inj hi▸rfl,Option.some.inj hi▸V⟩
  | succ i=>exact ih i p hi
inductive Ky (ρ:ab) (h:Heap) (n ep:Nat) (l:List (List Str×AV)):Value→Prop
 | mk (a es):ρ[n]?=some (a,a)→dg h a es ep→es.size=l.length→(∀ (i:Nat) (p:List Str×AV),l[i]?=some p→∃ en:DictEntry,es[i]?=some en∧VR h ρ en.key (.tup (p.1.map .str))∧VR h ρ en.val p.2)→Ky ρ h n ep l (.ref a)
theorem HR.dictEs {ρ:ab} {hp:Hp} {h:Heap} (H:HR C ρ hp h) {n ep:Nat} {l:List (List Str×AV)} {v:Value} (e:hp[n]?=some (.dS ep l)) (x:VR h ρ v (.ref n)):Ky ρ h n ep l v:=by
 refine nn fun nG=>?_
 obtain⟨⟨a,b⟩,hp',rfl,(rfl:a=b),xs,⟨o,es,ep',ho,hc,hd,hl,his,hn⟩,hx,hep⟩:=H.at e x
 refine nG ?_;clear nG
 have e2:=hep _ _ _ ho hd
 subst e2
 refine⟨a,es,hp',⟨o,ho,hc,hd⟩,by rw[size_of_entries hl,hx.length],fun i p hi=>nn fun ng=>?_⟩
 obtain⟨y,hy,e3,V⟩:=hx.at i p hi
 refine nn fun nG=>?_
 obtain⟨o',items,k,a1,a2,a3,a4⟩:=his y (List.mem_of_getElem? hy)
 refine nG ?_;clear nG
 exact ng ⟨entryOfKey (tupleKind (PySem.strKind C.prog C.w)) y,by rw[entry_at hl i,hy];rfl,e3▸.tup ⟨o',a1,a2,k,a3⟩ (sJ a4),V⟩
theorem xI {A:Around} {ρ:ab} {hp:Hp} {s:Shared} {Q:Value→Shared→Prop} {E:Value→Shared→Prop} {v:Value} {a:AV} {items:List AV} (H:HR C ρ hp s.heap) (V:VR s.heap ρ v a) (hi:aL a hp=some items)
  (post:∀ h',(∀ b o,s.heap.get? b=some o→h'.get? b=some o)→gm h' s.heap.objs.size v 0 a (ag a hp)→Q (.ref s.heap.objs.size) { s with heap:=h' }):wpAny C.M A (pyIter v) Q E s:=by
 have po:=fun o=>post (s.heap.push o) (fun b o e=>Heap.get?_push_of_some _ e)
 generalize he:ag a hp=o at po
 have it:=uA hi
 rw[he] at it
 clear post he hi
 cases it with
 | tup=>
  cases V.tupAt with
  | mk t vs dd sl n ho hs=>exact iter_tuple (items:=vs.toArray) (yy.is (ρ:=ρ) (l:=[]) ho) (po _ ⟨t,rfl,_,Heap.get?_push_size _ rfl,rfl,rfl⟩)
 | @rng a b c hs=>
  refine nn fun nG=>?_
  obtain⟨r,t,u,w,rfl,hr⟩:=V.inv
  refine nG ?_;clear nG
  refine wpAny_pyIter_range hr hs (po _ ?_)
  show IsRangeIter _ _ _ _ _
  have:=Heap.get?_push_size s.heap (o:={ cls:=.type "range_iterator",data:=.fields #[rawInt a,rawInt (Builtin.Range.rangeSize a b c),rawInt c] }) rfl
  simpa using this
 | list e=>
  cases H.listAt e V with
  | mk x vs k _ ho hs=>exact wpAny_pyIter_list (bx ho) (po _ ⟨x,rfl,_,Heap.get?_push_size _ rfl,rfl,rfl⟩)
 | dS e=>
  cases H.dictEs e V with
  | mk x es hx hD hz _=>exact oC (H.notSys hx) hD (po _ ⟨x,rfl,_,Heap.get?_push_size _ rfl,rfl,by rw[hz];rfl⟩)
theorem xJ {A:Around} {ρ:ab} {hp:Hp} {s:Shared} {Q:Option Value→Shared→Prop} {E:Value→Shared→Prop} {v:Value} {a:AV} {o:aC} {items:List AV} {I:Addr} {i:Nat} (hh:A.handled=none) (H:HR C ρ hp s.heap) (V:VR s.heap ρ v a) (hi:aL a hp=some items) (ho:ag a hp=o)
  (It:gm s.heap I v i a o) (hle:i≤items.length)
  (hitem:∀ x,items[i]?=some x→∀ u h' tk,(∀ b o,b≠I→s.heap.get? b=some o→h'.get? b=some o)→gm h' I v (i+1) a o→VR h' ρ u x→Q (some u) { s with heap:=h',toks:=tk })
  (hend:i=items.length→∀ h',(∀ b o,b≠I→s.heap.get? b=some o→h'.get? b=some o)→Q none { s with heap:=h' }):wpAny C.M A (pyNext (.ref I)) Q E s:=by
 have nI:∀ b ob,s.heap.get? b=some ob→nO ob→¬ b=I:=fun b ob e c q=>It.there.elim fun oi y=>y.2.elim fun vs z=>by
  have w:oi=ob:=Option.some.inj (y.1.symm.trans (q▸e))
  rcases w▸c with⟨_,_,_,c⟩ | ⟨c,_⟩
  ·cases z.1.symm.trans c
  ·exact z.2 c
 have tv:∀ {h':Heap},(∀ b o,b≠I→s.heap.get? b=some o→h'.get? b=some o)→∀ {u x},VR s.heap ρ u x→VR h' ρ u x:=fun k u x z=>z.keep (W:=fun b=>b=I) (fun b o p q=>k b o q p) List.prefix_rfl nI
 have it:=uA hi
 rw[ho] at it
 have fin:=fun h' (e:Heap.ExtBut I s.heap h') q=>hend q h' e
 have item:=fun x (hx:items[i]?=some x) u h' tk (sb:Heap.SameBut I s.heap h') Vu a=>have k:∀ b o,b≠I→s.heap.get? b=some o→h'.get? b=some o:=fun b o hb x=>(sb.2 b hb).trans x
  hitem x hx u h' tk k a (tv k Vu)
 clear hitem hend ho hi nI tv
 cases it with
 | tup=>
  cases V.tupAt with
  | mk t vs dd sl n ho hs=>
   refine nn fun ng=>?_
   obtain⟨t',e,It⟩:=It
   cases e
   have ht:=yy.is (ρ:=ρ) (l:=[]) ho
   rcases Nat.lt_or_eq_of_le hle with q | q
   ·refine nn fun nG=>?_
    obtain⟨u,hu,Vu⟩:=hs.get (gE q)
    refine nG ?_;clear nG
    exact ng (next_tuple_item It ht (x:=u) (by simpa using hu) fun h' It' sb=>item _ (gE q) u h' _ sb Vu ⟨t,rfl,It'⟩)
   ·exact ng (next_tuple_end hh It ht (by rw[List.getElem?_toArray];exact List.getElem?_eq_none (by rw[hs.length,q];exact Nat.le_refl _)) fun h' e=>fin h' e q)
 | @rng a b c hs=>
  refine nn fun nG=>?_
  obtain⟨r,t,u,w,rfl,hr⟩:=V.inv
  refine nG ?_;clear nG
  have It':IsRangeIter s.heap I (a+i * c) (Builtin.Range.rangeSize a b c-i) c:=It
  have z:((List.range (Builtin.Range.rangeSize a b c).toNat).map fun (k:Nat)=>AV.int (a+k * c)).length=(Builtin.Range.rangeSize a b c).toNat:=by rw[List.length_map,List.length_range]
  rw[z] at hle
  rcases Nat.lt_or_eq_of_le hle with q | q
  ·refine wpAny_pyNext_range_item It' (by exact Ja q) fun h' It2 sb=>item (.int (a+i * c)) (by simp[q]) _ h' _ sb (.int _ _) ?_
   show IsRangeIter _ _ _ _ _
   have e1:a+(i:Int) * c+c=a+((i+1:Nat):Int) * c:=by rw[Int.natCast_add,Int.add_mul];simp[Int.add_assoc]
   have e2:Builtin.Range.rangeSize a b c-(i:Int)-1=Builtin.Range.rangeSize a b c-((i+1:Nat):Int):=by exact Jb
   rw[e1,e2] at It2
   exact It2
  ·exact wpAny_pyNext_range_end hh It' (by exact Jc q) fun h' e=>fin h' e (z.symm▸q)
 | list e=>
  cases H.listAt e V with
  | mk x vs k _ hob hs=>
   refine nn fun ng=>?_
   obtain⟨t',e',It'⟩:=It
   cases e'
   rcases Nat.lt_or_eq_of_le hle with q | q
   ·refine nn fun nG=>?_
    obtain⟨u,hu,Vu⟩:=hs.get (gE q)
    refine nG ?_;clear nG
    exact ng (wpAny_pyNext_list_item It' (bx hob) (x:=u) (by simpa using hu) fun h' It2 sb=>item _ (gE q) u h' _ sb Vu ⟨x,rfl,It2⟩)
   ·exact ng (wpAny_pyNext_list_end hh It' (bx hob) (by rw[List.getElem?_toArray];exact List.getElem?_eq_none (by rw[hs.length,q];exact Nat.le_refl _)) fun h' e=>fin h' e q)
 | dS e=>
  cases H.dictEs e V with
  | mk x es hx hD hz hk=>
   refine nn fun ng=>?_
   obtain⟨t',e',It'⟩:=It
   cases e'
   rw[← hz] at It'
   rw[List.length_map] at hle
   rcases Nat.lt_or_eq_of_le hle with q | q
   ·refine nn fun nG=>?_
    obtain⟨en,h1,h2,h3⟩:=hk i _ (gE q)
    refine nG ?_;clear nG
    exact ng (oD It' hD h1 fun h' It2 sb=>item _ (by rw[List.getElem?_map,gE q];rfl) _ h' _ sb h2 ⟨x,rfl,hz▸It2⟩)
   ·exact ng (qR hh It' hD (by rw[hz,q];exact Nat.le_refl _) fun h' e=>fin h' e (by rw[List.length_map];exact q))
end
section
variable {C:Cx} {d:Nat} {sc:Scope}
theorem HR.setList {ρ:ab} {hp:Hp} {h:Heap} (H:HR C ρ hp h) {n:Nat} {a:Addr} {vs:Array Value} {k:Nat} {ds:List AV} (hr:ρ[n]?=some (a,a)) (ho:h.get? a=some { cls:=.type "list",data:=.seq vs k }) (f:Array Value→Array Value)
  (R:bg h ρ (f vs).toList ds):HR C ρ (hp.set n (.list ds)) (h.update a (Obj.mapSeq f))∧bD ρ h ρ (h.update a (Obj.mapSeq f)):=by
 have kk:∀ b o,b≠a→h.get? b=some o→(h.update a (Obj.mapSeq f)).get? b=some o:=fun b o hb e=>(Heap.get?_update_other _ _ (Ne.symm hb)).trans e
 exact H.set1 (p:=(a,a)) (o:=.list ds) hr kk ⟨rfl,f vs,if (f vs).size == vs.size then k else k+1,Heap.get?_update_self (Obj.mapSeq f) ho rfl,R.keep (W:=fun b=>b=a) (fun b o x y=>kk b o y x) List.prefix_rfl fun b o x y z=>lJ.imm (.inl ⟨_,_,(Option.some.inj (ho.symm.trans (z▸x))).symm⟩) y⟩
theorem i4.put {κ:Type} [DecidableEq κ] {h:Heap} {ρ:ab} {k:κ} {v:Value} {x:AV} (V:VR h ρ v x) {xs:List (κ×Addr×Value)} {ls:List (κ×AV)} (e:i4 h ρ xs ls):i4 h ρ (xs.map (putAt k v)) (ls.map fun p=>if p.1=k then (p.1,x) else p):=by
 induction e with
 | nil=>exact .nil
 | @cons k' a v' d' xs ls y r ih=>
  by_cases e:k'=k
  ·simp only[List.map_cons,putAt,e,if_true]
   exact .cons V ih
  ·simp only[List.map_cons,putAt,e,if_false]
   exact .cons y ih
theorem i4.append {κ:Type} {h:Heap} {ρ:ab} {xs ys:List (κ×Addr×Value)} {ls ms:List (κ×AV)} (e:i4 h ρ xs ls) (b:i4 h ρ ys ms):i4 h ρ (xs++ys) (ls++ms):=by
 induction e with
 | nil=>exact b
 | cons a _ ih=>exact .cons a ih
noncomputable def fC {κ:Type} [DecidableEq κ] (l:List (κ×AV)) (k:κ) (x:AV):List (κ×AV):=if (aZ l k).isSome=true then l.map (fun p=>if p.1=k then (p.1,x) else p) else l++[(k,x)]
theorem i4.stored {κ:Type} [DecidableEq κ] {h:Heap} {ρ:ab} {k:κ} {b:Addr} {v:Value} {x:AV} (V:VR h ρ v x) {xs:List (κ×Addr×Value)} {ls:List (κ×AV)} (e:i4 h ρ xs ls):i4 h ρ (storedH xs k b v) (fC ls k x):=by
 have:=(e.lookR (k:=k)).1
 rw[Option.isSome_map] at this
 unfold storedH fC
 rw[this]
 by_cases c:(aZ ls k).isSome=true
 ·rw[if_pos c,if_pos c];exact e.put V
 ·rw[if_neg c,if_neg c];exact e.append (.cons V .nil)
theorem i4.len {κ:Type} {h:Heap} {ρ:ab} {xs:List (κ×Addr×Value)} {ls:List (κ×AV)} (e:i4 h ρ xs ls):xs.length=ls.length:=e.length
theorem nR {κ:Type} [DecidableEq κ] (k:κ) (v:Value) (kvs:List (κ×Value)) (h:kvs.any (fun kv=>kv.1=k)=true):valueAt (kvs.map fun kv=>if kv.1=k then (kv.1,v) else kv) k=some v:=by
 unfold valueAt
 induction kvs with
 | nil=>exact ff h rfl
 | cons p r ih=>
  rw[List.map_cons,List.find?_cons]
  by_cases e:p.1=k
  ·simp[e]
  ·simp only[e,if_false,decide_false];exact ih (by simpa[e] using h)
theorem qS {κ:Type} [DecidableEq κ] {k k':κ} (q:¬ k=k') (v:Value) (kvs:List (κ×Value)):valueAt (kvs.map fun kv=>if kv.1=k then (kv.1,v) else kv) k'=valueAt kvs k':=by
 unfold valueAt
 induction kvs with
 | nil=>rfl
 | cons p r ih=>
  rw[List.map_cons,List.find?_cons,List.find?_cons]
  by_cases e:p.1=k
  ·simp only[e,if_true,q,decide_false];exact ih
  ·simp only[e,if_false]
   cases decide (p.1=k') with
   | true=>rfl
   | false=>exact ih
theorem ur {κ:Type} [DecidableEq κ] (kvs:List (κ×Value)) (k k':κ) (v:Value):valueAt (stored kvs k v) k'=if k'=k then some v else valueAt kvs k':=by
 unfold stored
 by_cases h:kvs.any (fun kv=>kv.1=k)=true
 ·rw[if_pos h]
  by_cases q:k'=k
  ·rw[if_pos q,q];exact nR k v kvs h
  ·rw[if_neg q];exact qS (Ne.symm q) v kvs
 ·rw[if_neg h]
  unfold valueAt
  rw[List.find?_append]
  by_cases q:k'=k
  ·rw[if_pos q,q,List.find?_eq_none.mpr fun x hx e=>h (List.any_eq_true.mpr ⟨x,hx,e⟩)]
   simp
  ·rw[if_neg q]
   cases List.find? (fun kv=>decide (kv.1=k')) kvs with
   | none=>simp[Ne.symm q]
   | some _=>rfl
noncomputable abbrev L4:=AV→AV→AV→Hp→(Hp→Prop)→Prop
inductive z5 (x:AV) (hp:Hp) (P:Hp→Prop):AV→AV→Prop
 | list {n k l}:hp[n]?=some (.list l)→0≤k→k<(l.length:Int)→k<2 ^ 63→P (hp.set n (.list (l.set k.toNat x)))→z5 x hp P (.ref n) (.int k)
 | dI {n k l}:hp[n]?=some (.dI l)→l.length≤sizeLine→P (hp.set n (.dI ((k,x)::l)))→z5 x hp P (.ref n) (.int k)
 | dT {n ks k l}:hp[n]?=some (.dT l)→AV.ik ks=some k→l.length≤sizeLine→P (hp.set n (.dT (fC l k x)))→z5 x hp P (.ref n) (.tup ks)
noncomputable def qT:L4:=fun a b x hp P=>z5 x hp P a b
theorem lu {A:Around} {s:Shared} {E:Value→Shared→Prop} {Q:Unit→Shared→Prop} {a:Addr} {vs:Array Value} {n:Nat} {k:Int} {t:Tok} {v:Value} (ho:s.heap.get? a=some { cls:=.type "list",data:=.seq vs n }) (h0:0≤k) (hn:k<vs.size) (hfit:k<2 ^ 63)
  (hQ:Q () { s with heap:=s.heap.update a (Obj.mapSeq (·.setIfInBounds k.toNat v)) }):wpAny C.M A (setItem (.ref a) (.int k t) v) Q E s:=by
 have hl:s.heap.IsList a vs:=⟨_,ho,rfl,n,rfl⟩
 unfold setItem
 try with_reducible refine wpAny_holding ?_
 refine wpAny_bind (wpAny_sequenceKey hl.typeIs (by decide) ?_)
 refine wpAny_bind (wpAny_callSpecial?_slot (name:=Str.ofString "__setitem__") hl.typeIs slot_list_setitem
  (wpAny_call_entry slot_list_setitem hl.typeIs entry_list_setitem ?_ (args_list_setitem _ _ _)))
 show wpAny _ _ (Builtin.List.listSubscript? (.int k t) >>= _) _ _ s
 refine wpAny_bind (wpAny_listSubscript_int (fitsIndex_of h0 hfit) ?_)
 clear hfit
 obtain⟨j,rfl⟩:=Int.eq_ofNat_of_zero_le h0
 have hj:j<vs.size:=by exact DX hn
 show wpAny _ _ ((seqItemAt a j >>= fun r=>pure (r.map (j,·))) >>= _) _ _ s
 refine wpAny_bind (wpAny_bind (wpAny_seqItemAt ho rfl (wpAny_pure ?_)))
 rw[Array.getElem?_eq_getElem hj]
 show wpAny _ _ (setSeqItemAt a j v >>= _) _ _ s
 refine wpAny_bind (wpAny_setSeqItemAt ho rfl ?_)
 first
  | exact wpAny_bind (wpAny_pure (wpAny_pure ⟨.none,rfl,wpAny_pure hQ⟩))
  | exact wpAny_pure ⟨.none,rfl,wpAny_pure hQ⟩
theorem HR.setD {ρ:ab} {hp:Hp} {h h':Heap} (H:HR C ρ hp h) {n:Nat} {a:Addr} {od:Obj} {es:Array DictEntry} {ep:Nat} {o:aC} (hr:ρ[n]?=some (a,a)) (hod:h.get? a=some od) (hdd:od.data=.dict es ep) (sb:Heap.SameBut a h h')
  (O:(∀ {v d},VR h ρ v d→VR h' ρ v d)→OR C h' ρ (a,a) o):HR C ρ (hp.set n o) h'∧bD ρ h ρ h':=
 have kk:∀ b o,b≠a→h.get? b=some o→h'.get? b=some o:=fun b o hb z=>(sb.2 b hb).trans z
 H.set1 (p:=(a,a)) hr kk (O fun V=>V.keep (W:=fun b=>b=a) (fun b o x y=>kk b o y x) List.prefix_rfl fun b o x y z=>lK.imm (.inl ⟨_,_,hdd⟩) (Option.some.inj (x.symm.trans (z▸hod))▸y))
theorem gM.map {h h':Heap} {ρ ρ':ab} {v d} (k:∀ {v d},VR h ρ v d→VR h' ρ' v d) (x:gM h ρ v d):gM h' ρ' v d:=x.imp_right fun y _ _ a b=>k (y _ _ a b)
theorem i4.map {κ:Type} {h h':Heap} {ρ ρ':ab} {v:List (κ×Addr×Value)} {d} (k:∀ {v d},VR h ρ v d→VR h' ρ' v d) (x:i4 h ρ v d):i4 h' ρ' v d:=by
 induction x with
 | nil=>exact .nil
 | cons a _ ih=>exact .cons (k a) ih
theorem gM.one {h:Heap} {ρ:ab} {v:Value} {d:AV} (V:VR h ρ v d):gM h ρ (Option.some v) (Option.some d):=⟨rfl,fun _ _ a b=>Option.some.inj a▸Option.some.inj b▸V⟩
theorem C9 {h:Heap} {ρ:ab} {f:List (Int×Value)} {l:List (Int×AV)} {k:Int} {v:Value} {x:AV} (hf:∀ k,gM h ρ (valueAt f k) (aZ l k)) (V:VR h ρ v x) (k':Int):gM h ρ (valueAt (stored f k v) k') (aZ ((k,x)::l) k'):=by
 rw[ur]
 by_cases q:k'=k
 ·rw[if_pos q,show aZ ((k,x)::l) k'=some x from if_pos q.symm];exact .one V
 ·rw[if_neg q,show aZ ((k,x)::l) k'=aZ l k' from if_neg (Ne.symm q)];exact hf k'
theorem ut {A:Around} {ρ:ab} {hp:Hp} {s:Shared} {Q:Unit→Shared→Prop} {E:Value→Shared→Prop} {P:Hp→Prop} {a b x:AV} {va vb vx:Value}
  (rm:c8 0 A) (H:HR C ρ hp s.heap) (Va:VR s.heap ρ va a) (Vb:VR s.heap ρ vb b) (Vx:VR s.heap ρ vx x) (hw:qT a b x hp P)
  (post:∀ hp' h' tk,P hp'→HR C ρ hp' h'∧bD ρ s.heap ρ h'→Q () { s with heap:=h',toks:=tk }):wpAny C.M A (setItem va vb vx) Q E s:=by
 refine nn fun ng=>?_
 cases hw with
 | list e h0 h1 h2 hP=>
  obtain⟨u,rfl⟩:=Vb.inv
  cases H.listAt e Va with
  | mk a vs j hr ho hs=>exact ng (lu ho h0 (by rw[List.size_toArray,hs.length];exact h1) h2 (post _ _ _ hP (H.setList hr ho (·.setIfInBounds _ vx) (by simpa using hs.set _ Vx))))
 | dI e hz hP=>
  refine nn fun nG=>?_
  obtain⟨u,rfl⟩:=Vb.inv
  obtain⟨⟨a,a'⟩,hr,rfl,(rfl:a=a'),f,hm,hle,hf⟩:=H.at e Va
  obtain⟨od,es,ep,hod,_,hdd,_⟩:=id hm
  refine nG ?_;clear nG
  exact ng (wpAny_setItem_pairs (knd:=PySem.intKind C.prog C.w) (decide_eq_true rfl) hm (hsz:=Nat.le_trans hle hz) fun h' hm' hs'=>post _ _ _ hP (H.setD hr hod hdd hs' fun tv=>⟨rfl,_,hm',Nat.le_trans (stored_length_le _ _ _) (Nat.succ_le_succ hle),C9 (fun k=>(hf k).map tv) (tv Vx)⟩))
 | dT e ek hz hP=>
  refine nn fun nG=>?_
  obtain⟨⟨a,a'⟩,hr,rfl,(rfl:a=a'),xs,hm,hx⟩:=H.at e Va
  obtain⟨b,rfl,hk⟩:=sF (prog:=C.prog) (w:=C.w) Vb ek
  obtain⟨od,es,ep,hod,_,hdd,_⟩:=id hm
  refine nG ?_;clear nG
  exact ng (wpAny_setItem_heap (knd:=tupleKind (PySem.intKind C.prog C.w)) (tupleKind_room_in1 rm.in1_un) hk hm (fun h' hm' hs'=>post _ _ _ hP (H.setD hr hod hdd hs' fun tv=>⟨rfl,_,hm',(hx.stored Vx).map tv⟩)) (by rw[hx.len];exact hz))
noncomputable def dD (o i:WE) (e:WE) (loc:aX) (hp:Hp) (P:Fl→aX→Hp→Prop):Prop:=e loc hp fun x hp1=>o loc hp1 fun a hp2=>i loc hp2 fun b hp3=>qT a b x hp3 fun hp4=>P .next loc hp4
theorem cb {o i e:Expr} {p pos:Pos} {O I W:WE} (ho:SE C d sc o O) (hi:SE C d sc i I) (he:SE C d sc e W) (hs:autoParam (∀ env,swapsWith e (some (.Subscript o i p)) pos.line env=pure false) au) :
  SX C d sc (.Assign [.Subscript o i p] e pos) (dD O I W):=by
 intro A env ρ loc hp s Q E P hsc rm H F hw post
 refine wpAny_Assign_Subscript (he A env ρ loc hp s _ E _ hsc rm H F hw fun v x ρ1 hp1 h1 tk1 hw1 st1 H1 V1=>?_) (hs env)
 refine ho A env ρ1 loc hp1 { s with heap:=h1,toks:=tk1 } _ E _ hsc rm H1 (F.step H st1) hw1 fun ov b ρ2 hp2 h2 tk2 hw2 st2 H2 V2=>?_
 refine hi A env ρ2 loc hp2 { s with heap:=h2,toks:=tk2 } _ E _ hsc rm H2 ((F.step H st1).step H1 st2) hw2 fun iv c ρ3 hp3 h3 tk3 hw3 st3 H3 V3=>?_
 have st:bD ρ s.heap ρ3 h3:=(st1.trans st2).trans st3
 refine ut (s:={ s with heap:=h3,toks:=tk3 }) (rm.le (Nat.zero_le _)) H3 (H2.vr st3 V2) V3 (H1.vr (st2.trans st3) V1) hw3 fun hp4 h4 tk4 hP Z=>?_
 exact post .next .next _ _ _ _ _ hP (.of (st.trans Z.2)) Z.1 ((F.step H st).step H3 Z.2) .next
inductive gd:List Expr→List String→Prop
 | nil:gd [] []
 | cons {x:String} {p:Pos} {r:List Expr} {xs:List String}:gd r xs→gd (.Name (Str.ofString x) p::r) (x::xs)
noncomputable def qU:aX→List String→List AV→aX
 | loc,x::xs,v::vs=>qU (oy loc x v) xs vs
 | loc,_,_=>loc
theorem uB {A:Around} {env:Env} {E:Value→Shared→Prop} {ρ:ab} {hp:Hp} (xs:List String):∀ (ts:List (Value→Sem Unit)),(ts.length=xs.length)→(∀ (i:Nat) t x,ts[i]?=some t→xs[i]?=some x→xH env x∧∀ v (Q:Unit→Shared→Prop) s,wpAny C.M A (storeName env (Str.ofString x) v) Q E s→wpAny C.M A (t v) Q E s)→
  ∀ (vs:List Value) (l:List AV) (loc:aX) (s:Shared) (Q:Unit→Shared→Prop),vs.length=xs.length→HR C ρ hp s.heap→FR C env ρ loc s.heap→bg s.heap ρ vs l→
  (∀ h' tk,HR C ρ hp h'→FR C env ρ (qU loc xs l) h'→b9 C env ρ s.heap ρ h'→(∀ v' a',VR s.heap ρ v' a'→VR h' ρ v' a')→((∀ x∈xs,env.kindOf (Str.ofString x)=some .local)→∀ b o,b≠env.locals→s.heap.get? b=some o→h'.get? b=some o)→Q () { s with heap:=h',toks:=tk })→wpAny C.M A (assignInOrder ts vs) Q E s:=by
 induction xs with
 | nil=>
  intro ts h ht vs l loc s Q hl H F V post
  cases List.length_eq_zero_iff.mp h
  cases List.length_eq_zero_iff.mp hl
  cases V
  exact assignInOrder_nil (post s.heap s.toks H F (.refl _ _) (fun _ _ x=>x) fun _ _ _ _ x=>x)
 | cons x xs ih=>
  intro ts h ht vs l loc s Q hl H F V post
  cases ts with
  | nil=>exact Nat.noConfusion h
  | cons t ts=>
   cases V with
   | nil=>exact Nat.noConfusion hl
   | cons V Vs=>
    have g:=ht 0 t x rfl rfl
    exact assignInOrder_cons (g.2 _ _ _ (j3 H F V g.1 fun h1 tk1 H1 F1 st1 tv1 kp1=>ih ts (Nat.succ.inj h) (fun i=>ht (i+1)) _ _ _ { s with heap:=h1,toks:=tk1 } Q (Nat.succ.inj hl) H1 F1 (Vs.map tv1) fun h' tk' H' F' st' tv' kp'=>
     post h' tk' H' F' (st1.trans st') (fun v a x=>tv' _ _ (tv1 _ _ x)) fun hl b o hb e=>kp' (fun x hx=>hl x (.tail _ hx)) b o hb (kp1 (hl _ (.head _)) b o hb e)))
inductive hH (sc:Scope):Expr→Prop
 | n {x:Str} {p:Pos}:sc.names.lookup x=some .local→hH sc (.Name x p)
 | t {es xs k p}:gd es xs→(xs.all fun x=>sc.names.lookup (Str.ofString x) == some .local)=true→hH sc (.Tuple es k p)
noncomputable abbrev WT:=AV→aX→(aX→Prop)→Prop
noncomputable def pF:List String→List AV→aX→(aX→Prop)→Prop
 | [],l,loc,P=>match l with
  | []=>P loc
  | _::_=>False
 | x::xs,l,loc,P=>match l with
  | v::vs=>pF xs vs (oy loc x v) P
  | []=>False
theorem oE {xs:List String}:∀ {l:List AV} {loc:aX} {P:aX→Prop},pF xs l loc P→l.length=xs.length∧P (qU loc xs l):=by
 induction xs with
 | nil=>
  intro l loc P h
  cases l with
  | nil=>exact⟨rfl,h⟩
  | cons=>exact h.elim
 | cons x xs ih=>
  intro l loc P h
  cases l with
  | nil=>exact h.elim
  | cons v vs=>exact⟨congrArg Nat.succ (ih h).1,(ih h).2⟩
noncomputable def hM (x:String) (a:AV) (loc:aX) (P:aX→Prop):Prop:=P (oy loc x a)
noncomputable def px (xs:List String) (a:AV) (loc:aX) (P:aX→Prop):Prop:=match a with
 | .tup l=>pF xs l loc P
 | _=>False
theorem Ca {xs:List String} {a:AV} {loc:aX} {P:aX→Prop} (h:px xs a loc P):∃ l,a=.tup l∧l.length=xs.length∧P (qU loc xs l):=by
 cases a with
 | tup l=>exact⟨l,rfl,oE h⟩
 | _=>exact h.elim
noncomputable def qV (C:Cx) (sc:Scope) (target:Expr) (T:WT):Prop:=
 ∀ (A:Around) (env:Env) (ρ:ab) (loc:aX) (hp:Hp) (s:Shared) (Q:Unit→Shared→Prop) (E:Value→Shared→Prop) (P:aX→Prop) (v:Value) (a:AV),
  env.scope=sc→A.handled=none→HR C ρ hp s.heap→FR C env ρ loc s.heap→VR s.heap ρ v a→T a loc P→
  (∀ loc' h' tk,P loc'→HR C ρ hp h'→FR C env ρ loc' h'→b9 C env ρ s.heap ρ h'→(∀ v' a',VR s.heap ρ v' a'→VR h' ρ v' a')→(hH sc target→∀ b o,b≠env.locals→s.heap.get? b=some o→h'.get? b=some o)→Q () { s with heap:=h',toks:=tk })→wpAny C.M A (assign target env v) Q E s
theorem ao {x:String} {p:Pos} (hx:autoParam (oA sc x=true) au):qV C sc (.Name (Str.ofString x) p) (hM x):=by
 intro A env ρ loc hp s Q E P v a hsc hh H F V hT post
 exact wpAny_assign_Name (j3 H F V (hG hsc hx) fun h' tk H' F' st tv kp=>post _ _ _ hT H' F' st tv fun hl=>kp (by rw[Env.kindOf,hsc];cases hl with | n h=>exact h))
theorem gd.each {env:Env} {es:List Expr} {xs:List String} (n:gd es xs):(∀ x∈assignEach es env,x.1=false)∧(assignEach es env).length=xs.length∧
  ∀ (i:Nat) t x,((assignEach es env).map (·.2))[i]?=some t→xs[i]?=some x→∃ p,t=assign (.Name (Str.ofString x) p) env:=by
 induction n with
 | nil=>exact⟨fun _ h=>absurd h (List.not_mem_nil),rfl,fun i t x _ e=>aF e rfl⟩
 | @cons y p r xs n ih=>
  refine⟨fun x h=>?_,congrArg Nat.succ ih.2.1,fun i t x h1 h2=>?_⟩
  ·rcases List.mem_cons.mp (show x∈(false,assign (.Name (Str.ofString y) p) env)::assignEach r env from h) with h | h
   ·rw[h]
   ·exact ih.1 x h
  ·cases i with
   | zero=>exact⟨p,Option.some.inj h2▸(Option.some.inj h1).symm⟩
   | succ i=>exact ih.2.2 i t x h1 h2
theorem gd.det {es:List Expr} {xs:List String} (n:gd es xs):∀ {ys:List String},gd es ys→xs.map Str.ofString=ys.map Str.ofString:=by
 induction n with
 | nil=>intro ys m;cases m;rfl
 | @cons x p r xs n ih=>
  intro ys m
  generalize e:Expr.Name (Str.ofString x) p::r=l at m
  cases m with
  | nil=>cases e
  | @cons y q r' ys m=>
   injection e with e1 e2
   injection e1 with e1
   subst e2
   rw[List.map_cons,List.map_cons,ih m,e1]
theorem gd.loc {es:List Expr} {xs:List String} {k:Nat} {p:Pos} (n:gd es xs) (h:hH sc (.Tuple es k p)):∀ x∈xs,sc.names.lookup (Str.ofString x)=some .local:=fun x hx=>by
 cases h with
 | t m h=>
  obtain⟨y,hy,e⟩:=List.mem_map.mp (n.det m▸List.mem_map_of_mem hx)
  rw[← e];exact eq_of_beq (List.all_eq_true.mp h y hy)
theorem cQ {es:List Expr} {xs:List String} {k:Nat} {p:Pos} (hn:autoParam (gd es xs) auN) (hx:autoParam (xs.all (oA sc)=true) au):qV C sc (.Tuple es k p) (px xs):=by
 intro A env ρ loc hp s Q E P v a hsc hh H F V hT post
 refine nn fun ng=>?_
 obtain⟨l,rfl,hl,hP⟩:=Ca hT
 refine nn fun nG=>?_
 obtain⟨t,vs,rfl,ht,Vs⟩:=V.tup'
 obtain⟨n1,n2,n3⟩:=hn.each (env:=env)
 refine nG ?_;clear nG
 refine ng (assign_Tuple_tuple hh ht (by rw[List.size_toArray,n2,Vs.length,hl]) (List.findIdx?_eq_none_iff.mpr n1) fun h1 ext=>?_)
 have kk:∀ b o,s.heap.get? b=some o→h1.get? b=some o:=fun b o e=>ext b o (Nat.ne_of_lt (Heap.lt_size e)) e
 have st1:=bD.grow ρ kk
 rw[List.toList_toArray]
 exact uB (hp:=hp) xs _ (by rw[List.length_map];exact n2) (fun i t x a b=>⟨hG hsc (List.all_eq_true.mp hx x (List.mem_of_getElem? b)),fun v Q s h=>(n3 i t x a b).elim fun p e=>e▸wpAny_assign_Name h⟩) vs l loc { s with heap:=h1 } Q (Vs.length.trans hl) (H.grow kk) (F.step H st1) (H.vrs st1 Vs) fun h' tk' H' F' st' tv' kp'=>
  post _ _ _ hP H' F' ((b9.of st1).trans st') (fun v a x=>tv' _ _ (H.vr st1 x)) fun hl b o hb e=>kp' (fun x hx2=>by rw[Env.kindOf,hsc];exact hn.loc hl x hx2) b o hb (kk b o e)
noncomputable def ie (T:WT) (e:WE) (loc:aX) (hp:Hp) (P:Fl→aX→Hp→Prop):Prop:=e loc hp fun a hp1=>T a loc fun loc1=>P .next loc1 hp1
theorem fT {es:List Expr} {e:Expr} {k:Nat} {p pos:Pos} {T:WT} {W:WE} (h:SE C d sc e W) (ht:qV C sc (.Tuple es k p) T) (hs:autoParam (∀ env,swapsWithSole [.Tuple es k p] e pos.line env=pure false) au)
  (hw':autoParam (∀ env,env.scope=sc→swappedStores [.Tuple es k p] e env=pure none) auW):SX C d sc (.Assign [.Tuple es k p] e pos) (ie T W):=by
 intro A env ρ loc hp s Q E P hsc rm H F hw post
 refine Assign_Tuple (h A env ρ loc hp s _ E _ hsc rm H F hw fun v a ρ1 hp1 h1 tk1 hw1 st1 H1 V1=>?_) (hs env) (hw' env hsc)
 refine ht A env ρ1 loc hp1 { s with heap:=h1,toks:=tk1 } _ E _ v a hsc rm.handled H1 (F.step H st1) V1 hw1 fun loc2 h2 tk2 hP H2 F2 st2 _ _=>?_
 exact post .next .next _ _ _ _ _ hP ((b9.of st1).trans st2) H2 F2 .next
noncomputable def DR {α:Type}:List α→List α→List α
 | [],acc=>acc
 | x::r,acc=>DR r (x::acc)
theorem xK {α:Type} (l:List α):∀ acc,DR l acc=l.reverse++acc:=by
 induction l with
 | nil=>exact fun _=>rfl
 | cons x r ih=>exact fun acc=>(ih (x::acc)).trans (by simp)
noncomputable def Cb:AV→AV
 | .tup l=>.tup (DR l [])
 | a=>a
theorem z6 {xs:List String} {a:AV} {loc:aX} {P:aX→Prop} (h:px (DR xs []) (Cb a) loc P):∃ l,a=.tup l∧l.length=xs.length∧P (qU loc xs.reverse l.reverse):=by
 cases a with
 | tup l=>
  have z:=oE h
  rw[xK,xK,List.append_nil,List.append_nil,List.length_reverse,List.length_reverse] at z
  exact⟨l,rfl,z⟩
 | _=>exact h.elim
noncomputable def cv (xs:List String) (e:WE) (loc:aX) (hp:Hp) (P:Fl→aX→Hp→Prop):Prop:=e loc hp fun a hp1=>px (DR xs []) (Cb a) loc fun loc1=>P .next loc1 hp1
theorem bV {es:List Expr} {xs:List String} {e:Expr} {k:Nat} {p pos:Pos} {W:WE} (h:SE C d sc e W) (hs:autoParam (∀ env,swapsWithSole [.Tuple es k p] e pos.line env=pure false) au)
  (hw':autoParam (∀ env,env.scope=sc→swappedStores [.Tuple es k p] e env=pure (some (xs.map Str.ofString))) auW) (hx:autoParam (xs.all (oA sc)=true) au):SX C d sc (.Assign [.Tuple es k p] e pos) (cv xs W):=by
 intro A env ρ loc hp s Q E P hsc rm H F hw post
 refine Assign_Tuple_swapped (h A env ρ loc hp s _ E _ hsc rm H F hw fun v a ρ1 hp1 h1 tk1 hw1 st1 H1 V1=>?_) (hs env) (hw' env hsc)
 refine nn fun ng=>?_
 obtain⟨l,rfl,hl,hP⟩:=z6 hw1
 refine nn fun nG=>?_
 obtain⟨t,vs,rfl,ht,Vs⟩:=V1.tup'
 refine nG ?_;clear nG
 refine ng ?_
 rw[show(xs.map Str.ofString).length=vs.toArray.size by rw[List.length_map,List.size_toArray,Vs.length,hl]]
 refine unpackItems_tuple rm.handled ht fun h2 ext=>?_
 have kk:∀ b o,h1.get? b=some o→h2.get? b=some o:=fun b o e=>ext b o (Nat.ne_of_lt (Heap.lt_size e)) e
 have st2:=bD.grow ρ1 kk
 rw[List.toList_toArray]
 refine uB (hp:=hp1) xs.reverse _ (by rw[List.length_map,List.length_reverse,List.length_map,List.length_reverse]) (fun i t x a b=>⟨hG hsc (List.all_eq_true.mp hx x (List.mem_reverse.mp (List.mem_of_getElem? b))),fun v Q s h=>?_⟩) vs.reverse l.reverse loc { s with heap:=h2,toks:=tk1 } _ (by rw[List.length_reverse,List.length_reverse,Vs.length,hl]) (H1.grow kk) ((F.step H st1).step H1 st2) (H1.vrs st2 Vs.reverse) fun h' tk' H' F' st' tv' _=>post .next .next _ _ _ _ _ hP ((b9.of (st1.trans st2)).trans st') H' F' .next
 rw[← List.map_reverse,List.getElem?_map,List.getElem?_map,b] at a
 exact Option.some.inj a▸bindName_ h
noncomputable def qW (T:WT) (B:WS) (chk:Hp→Prop):List AV→aX→Hp→(Fl→aX→Hp→Prop)→Prop
 | [],loc,hp,P=>P .next loc hp
 | x::r,loc,hp,P=>T x loc fun loc1=>B loc1 hp fun fl loc2 hp2=>match fl with
  | .next=>chk hp2∧qW T B chk r loc2 hp2 P
  | .cont=>chk hp2∧qW T B chk r loc2 hp2 P
  | .brk=>P .next loc2 hp2
  | .ret v=>P (.ret v) loc2 hp2
noncomputable def fQ (T:WT) (I:WE) (B:WS) (loc:aX) (hp:Hp) (P:Fl→aX→Hp→Prop):Prop:=I loc hp fun a hp1=>∃ items,aL a hp1=some items∧qW T B (fun hp2=>aL a hp2=some items∧ag a hp2=ag a hp1) items loc hp1 P
theorem b9.keeps {env:Env} {ρ ρ':ab} {hp:Hp} {loc:aX} {h h':Heap} (H:HR C ρ hp h) (F:FR C env ρ loc h) (e:b9 C env ρ h ρ' h') {b:Addr} {o:Obj} (hb:h.get? b=some o) (no:lJ o→False) (nd:lK o→False):h'.get? b=some o:=
 e.ext b o hb fun m=>m.elim (fun m=>no (H.isMut hb m)) fun m=>m.elim (fun z=>F.ns.elim fun m y=>vf y.1 fun ol es ep hl r=>nd (Option.some.inj (hl.symm.trans (z▸hb))▸.inl ⟨es,ep,r.1⟩))
  fun ⟨y,w⟩=>(F.cell y w.1).elim fun c' z=>z.elim fun ov z=>z.2.elim fun oc q=>nd (Option.some.inj (q.1.symm.trans (Option.some.inj (z.1.symm.trans w.2)▸hb))▸.inr ⟨ov,q.2⟩)
theorem b9.vr {env:Env} {ρ ρ':ab} {hp:Hp} {loc:aX} {h h':Heap} (H:HR C ρ hp h) (F:FR C env ρ loc h) (e:b9 C env ρ h ρ' h') {v:Value} {a:AV} (x:VR h ρ v a):VR h' ρ' v a:=
 x.keep (W:=fun b=>∃ o,h.get? b=some o∧¬ nO o) (fun b o hb n=>e.keeps H F hb (fun m=>n ⟨o,hb,m.imm⟩) fun m=>n ⟨o,hb,m.imm⟩) e.pre fun b o hb c n=>n.elim fun o' z=>z.2 (Option.some.inj (hb.symm.trans z.1)▸c)
theorem b9.it {env:Env} {ρ ρ':ab} {hp:Hp} {loc:aX} {h h':Heap} (H:HR C ρ hp h) (F:FR C env ρ loc h) (e:b9 C env ρ h ρ' h') {I:Addr} {v:Value} {i:Nat} {a:AV} {o:aC} (x:gm h I v i a o):gm h' I v i a o:=
 x.keep fun ob hob=>x.there.elim fun o' y=>y.2.elim fun vs z=>have d:=Option.some.inj (y.1.symm.trans hob)▸z.1;e.keeps H F hob (kq d) (gy d)
theorem qX {A:Around} {E:Value→Shared→Prop} {s:Shared} {Q:Unit→Shared→Prop} {es:List Expr} {k:Nat} {p:Pos} {w':Value} {I:Addr} {n dd vs sl} (h:s.heap.get? I=some ⟨.type n,dd,.fields vs,sl⟩)
  (hn:["enumerate","zip","dict_itemiterator","dict_reverseitemiterator","odict_iterator","itertools.zip_longest","itertools.pairwise"].contains n=false) (q:Q () s):wpAny C.M A (letOwnedTupleGo (.Tuple es k p) (.ref I) w') Q E s:=by
 cases w' with
 | ref a=>
  refine wpAny_bind (wpAny_load h ?_)
  show wpAny _ _ (if (["enumerate","zip","dict_itemiterator","dict_reverseitemiterator","odict_iterator","itertools.zip_longest","itertools.pairwise"].contains n && _)=true then _ else _) _ _ _
  rw[hn]
  exact wpAny_pure q
 | _=>exact wpAny_pure q
theorem gm.kind {h:Heap} {v:Value} {a:AV} {o:aC} {I:Addr} {i:Nat} (x:gm h I v i a o):∃ n dd vs sl,h.get? I=some ⟨.type n,dd,.fields vs,sl⟩∧["enumerate","zip","dict_itemiterator","dict_reverseitemiterator","odict_iterator","itertools.zip_longest","itertools.pairwise"].contains n=false:=by
 have g:∀ n,["enumerate","zip","dict_itemiterator","dict_reverseitemiterator","odict_iterator","itertools.zip_longest","itertools.pairwise"].contains n=false→∀ vs,(∃ o,h.get? I=some o∧o.cls=.type n∧o.data=.fields vs)→∃ n dd vs sl,h.get? I=some ⟨.type n,dd,.fields vs,sl⟩∧["enumerate","zip","dict_itemiterator","dict_reverseitemiterator","odict_iterator","itertools.zip_longest","itertools.pairwise"].contains n=false:=fun n hn vs z=>by
  refine nn fun nG=>?_
  obtain⟨⟨_,dd,_,sl⟩,a,rfl,rfl⟩:=z
  refine nG ?_;clear nG
  exact⟨n,dd,vs,sl,a,hn⟩
 cases a with
 | tup l=>exact x.elim fun t y=>g "tuple_iterator" (by decide) _ y.2
 | rng a b c=>exact⟨_,_,_,_,x,by decide⟩
 | ref n=>
  cases o with
  | list l=>exact x.elim fun t y=>g "list_iterator" (by decide) _ y.2
  | dS ep l=>exact x.elim fun t y=>g "dict_keyiterator" (by decide) _ y.2
  | _=>exact x.elim
 | _=>exact x.elim
theorem qY {A:Around} {E:Value→Shared→Prop} {s:Shared} {Q:Unit→Shared→Prop} {target:Expr} {v w':Value} {a:AV} {o:aC} {I:Addr} {i:Nat} (x:gm s.heap I v i a o) (q:Q () s):wpAny C.M A (letOwnedTupleGo target (.ref I) w') Q E s:=by
 refine nn fun nG=>?_
 obtain⟨n,dd,vs,sl,h,hn⟩:=x.kind
 refine nG ?_;clear nG
 cases target with
 | Tuple es k p=>exact qX h hn q
 | List es p=>exact qX (es:=[]) (k:=0) (p:=p) h hn q
 | _=>exact wpAny_pure q
theorem lS {env:Env} {ρ ρ':ab} {hp':Hp} {loc':aX} {h h' h3:Heap} {I:Addr} {v:Value} {i:Nat} {a:AV} {o:aC} (st:b9 C env ρ h ρ' h') (H':HR C ρ' hp' h') (F':FR C env ρ' loc' h') (It:gm h' I v i a o) (no:C.h₀.get? I=none) (nI:h.get? I=none)
  (k:∀ b o,b≠I→h'.get? b=some o→h3.get? b=some o):HR C ρ' hp' h3∧FR C env ρ' loc' h3∧(∀ {v x},VR h' ρ' v x→VR h3 ρ' v x)∧b9 C env ρ h ρ' h3:=by
 refine nn fun nG=>?_
 obtain⟨ob,hob,vs,hd,hc⟩:=It.there
 refine nG ?_;clear nG
 have sd:=kn hd hc
 have tv:∀ {v x},VR h' ρ' v x→VR h3 ρ' v x:=H'.vr_but hob sd k
 have ne:∀ b o,h.get? b=some o→b≠I:=fun b o e z=>aF e (z▸nI)
 exact⟨H'.but hob (fun m=>kq hd (H'.isMut hob m)) sd no k,
  F'.keep (fun o z=>k _ o (fun q=>F'.ns.elim fun m y=>vf y.1 fun ol es ep hl r=>gy hd (Option.some.inj (hl.symm.trans (q▸hob))▸.inl ⟨es,ep,r.1⟩)) z) (fun {c ov} z=>cq (fun o w=>k _ o (fun q=>z.elim fun oc y=>gy hd (Option.some.inj (y.1.symm.trans (q▸hob))▸.inr ⟨ov,y.2⟩)) w) z) tv F'.apL,
  tv,st.pre,fun b o e n=>k b o (ne b o e) (st.ext b o e n),st.fresh,fun b o e=>(st.live b o e).imp fun o' q=>k b o' (ne b o e) q⟩
inductive Cc (C:Cx) (env:Env) (ρ:ab) (s:Shared) (v:Value) (a:AV) (o:aC) (items:List AV) (I:Addr) (K:List AV→aX→Hp→Prop):Nat→Shared→Prop
 | mk (i ρ' loc' hp' h' tk):i≤items.length→b9 C env ρ s.heap ρ' h'→HR C ρ' hp' h'→FR C env ρ' loc' h'→VR h' ρ' v a→gm h' I v i a o→aL a hp'=some items∧ag a hp'=o→K (items.drop i) loc' hp'→Cc C env ρ s v a o items I K (items.length-i) { s with heap:=h',toks:=tk }
theorem uC {items:List AV} {i:Nat} {x:AV} (hx:items[i]?=some x):i<items.length∧items.drop i=x::items.drop (i+1):=by
 have hlt:i<items.length:=(bj hx)
 exact⟨hlt,by rw[List.drop_eq_getElem_cons hlt,Option.some.inj ((gE hlt).symm.trans hx)]⟩
theorem cD {target iter:Expr} {body:List Stmt} {pos:Pos} {T:WT} {W:WE} {B:WS} (ht:qV C sc target T) (hi:SE C d sc iter W) (hb:SS C d sc body B) (hf:autoParam (∀ env x,foldedSetIterable iter env x=pure x) au) :
  SX C d sc (.For target iter body [] pos) (fQ T W B):=by
 intro A env ρ loc hp s Q E P hsc rm H F hw post
 refine wpAny_For (hi A env ρ loc hp s _ E _ hsc rm H F hw fun v a ρ1 hp1 h1 tk1 hw1 st1 H1 V1=>hw1.elim fun items hw1=>?_) (hf env)
 refine xI (s:={ s with heap:=h1,toks:=tk1 }) H1 V1 hw1.1 fun h2 k2 It2=>?_
 refine codeAny_forLoop_any (Cc C env ρ s v a (ag a hp1) items h1.objs.size fun l loc hp=>qW T B (fun hp2=>aL a hp2=some items∧ag a hp2=ag a hp1) l loc hp P) ?_ (items.length-0)
  ⟨0,ρ1,loc,hp1,h2,tk1,Nat.zero_le _,.of (st1.trans (bD.grow ρ1 k2)),H1.grow k2,(F.step H st1).step H1 (bD.grow ρ1 k2),H1.vr (bD.grow ρ1 k2) V1,It2,⟨hw1.1,rfl⟩,hw1.2⟩
 intro n s' inv
 cases inv with
 | mk i ρ' loc' hp' h' tk hle st H' F' V' It' hs hL'=>
  have no:=H1.none_of (wl h1)
  have nI:=cJ st1.live (wl h1)
  refine xJ (s:={ s with heap:=h',toks:=tk }) rm.handled H' V' hs.1 hs.2 It' hle (fun x hx u h3 tk3 k3 It3 V3=>?_) fun hend h3 k3=>?_
  ·have Z:=lS st H' F' It' no nI k3
   have dr:=uC hx
   rw[dr.2] at hL'
   refine qY (s:={ s with heap:=h3,toks:=tk3 }) It3 ?_
   refine ht A env ρ' loc' hp' { s with heap:=h3,toks:=tk3 } _ _ _ u x hsc rm.handled Z.1 Z.2.1 V3 hL' fun loc4 h4 tk4 hB H4 F4 st4 tv4 _=>?_
   refine hb A env ρ' loc4 hp' { s with heap:=h4,toks:=tk4 } _ _ _ hsc rm H4 F4 hB fun f fd ρ5 loc5 hp5 h5 tk5 hw5 st5 H5 F5 R5=>?_
   have stt:=(Z.2.2.2.trans st4).trans st5
   have next:=fun (w:(aL a hp5=some items∧ag a hp5=ag a hp1)∧qW T B (fun hp2=>aL a hp2=some items∧ag a hp2=ag a hp1) (items.drop (i+1)) loc5 hp5 P)=>Exists.intro (p:=fun m=>m<items.length-i∧Cc C env ρ s v a (ag a hp1) items h1.objs.size (fun l loc hp=>qW T B (fun hp2=>aL a hp2=some items∧ag a hp2=ag a hp1) l loc hp P) m { s with heap:=h5,toks:=tk5 }) (items.length-(i+1))
    ⟨Nat.sub_lt_sub_left dr.1 (Nat.lt_succ_self i),.mk (i+1) ρ5 loc5 hp5 h5 tk5 dr.1 stt H5 F5 (st5.vr H4 F4 (tv4 _ _ (Z.2.2.1 V'))) (st5.it H4 F4 (st4.it (hp:=hp') Z.1 Z.2.1 It3)) w.1 w.2⟩
   cases R5 with
   | next=>exact next hw5
   | cont=>exact next hw5
   | brk=>exact post .next .next _ _ _ _ _ hw5 stt H5 F5 .next
   | ret V=>exact post (.ret _) (.ret _) _ _ _ _ _ hw5 stt H5 F5 (.ret V)
  ·have Z:=lS st H' F' It' no nI k3
   rw[hend,List.drop_length] at hL'
   exact wpAny_execs_nil (post .next .next _ _ _ _ _ hL' Z.2.2.2 Z.1 Z.2.1 .next)
noncomputable def kE (t:WB) (B:WS) (loc:aX) (hp:Hp) (P:Fl→aX→Hp→Prop):Prop:=∃ (I:Nat→aX→Hp→Prop) (n:Nat),I n loc hp∧∀ n loc hp,I n loc hp→t loc hp fun b hp1=>if b=true then B loc hp1 fun fl loc2 hp2=>match fl with
  | .next=>∃ m,m<n∧I m loc2 hp2
  | .cont=>∃ m,m<n∧I m loc2 hp2
  | .brk=>P .next loc2 hp2
  | .ret v=>P (.ret v) loc2 hp2
 else P .next loc hp1
inductive Kz (C:Cx) (env:Env) (ρ:ab) (s:Shared) (I:Nat→aX→Hp→Prop) (n:Nat):Shared→Prop
 | mk (ρ' loc' hp' h' tk):b9 C env ρ s.heap ρ' h'→HR C ρ' hp' h'→FR C env ρ' loc' h'→I n loc' hp'→Kz C env ρ s I n { s with heap:=h',toks:=tk }
theorem j4 {t:Expr} {body:List Stmt} {pos:Pos} {W:WB} {B:WS} (ht:SB C d sc t W) (hb:SS C d sc body B):SX C d sc (.While t body [] pos) (kE W B):=by
 intro A env ρ loc hp s Q E P hsc rm H F hw post
 refine nn fun ng=>?_
 obtain⟨I,n,hI,step⟩:=hw
 refine ng (wpAny_While (codeAny_whileLoop (Kz C env ρ s I) ?_ n ⟨ρ,loc,hp,s.heap,s.toks,.refl _ _,H,F,hI⟩))
 intro n s' inv
 cases inv with
 | mk ρ' loc' hp' h' tk st H' F' hI'=>
  refine ht A env ρ' loc' hp' { s with heap:=h',toks:=tk } _ _ _ hsc rm H' F' (step n loc' hp' hI') fun b ρ1 hp1 h1 tk1 hw1 st1 H1=>?_
  have F1:=F'.step H' st1
  have stt:=st.trans (.of st1)
  cases b with
  | false=>exact wpAny_execs_nil (post .next .next _ _ _ _ _ hw1 stt H1 F1 .next)
  | true=>
   refine hb A env ρ1 loc' hp1 { s with heap:=h1,toks:=tk1 } _ _ _ hsc rm H1 F1 hw1 fun f fd ρ5 loc5 hp5 h5 tk5 hw5 st5 H5 F5 R5=>?_
   have st:=stt.trans st5
   cases R5 with
   | next=>exact hw5.imp fun m=>And.imp_right fun hI=>.mk _ _ _ _ _ st H5 F5 hI
   | cont=>exact hw5.imp fun m=>And.imp_right fun hI=>.mk _ _ _ _ _ st H5 F5 hI
   | brk=>exact post .next .next _ _ _ _ _ hw5 st H5 F5 .next
   | ret V=>exact post (.ret _) (.ret _) _ _ _ _ _ hw5 st H5 F5 (.ret V)
end
section
variable {C:Cx} {d:Nat} {sc:Scope}
inductive LA (h:Heap) (ρ:ab) (a:AV):List Value→Prop
 | mk {v}:VR h ρ v a→LA h ρ a [v]
inductive LB (h:Heap) (ρ:ab) (a b:AV):List Value→Prop
 | mk {v w}:VR h ρ v a→VR h ρ w b→LB h ρ a b [v,w]
inductive Bf (h:Heap) (ρ:ab) (a b c:AV):List Value→Prop
 | mk {v w x}:VR h ρ v a→VR h ρ w b→VR h ρ x c→Bf h ρ a b c [v,w,x]
theorem bg.un {h:Heap} {ρ:ab} {vs:List Value} {d:AV} {ds:List AV} (x:bg h ρ vs (d::ds)):∃ v ws,vs=v::ws∧VR h ρ v d∧bg h ρ ws ds:=by
 cases x with
 | cons a b=>exact⟨_,_,rfl,a,b⟩
theorem bg.nil0 {h:Heap} {ρ:ab} {vs:List Value} (x:bg h ρ vs []):vs=[]:=List.length_eq_zero_iff.mp x.length
theorem bg.one {h:Heap} {ρ:ab} {vs:List Value} {a:AV} (x:bg h ρ vs [a]):LA h ρ a vs:=by
 obtain⟨v,ws,rfl,V,x⟩:=x.un
 rw[x.nil0]
 exact⟨V⟩
theorem bg.two {h:Heap} {ρ:ab} {vs:List Value} {a b:AV} (x:bg h ρ vs [a,b]):LB h ρ a b vs:=by
 obtain⟨v,ws,rfl,V,x⟩:=x.un
 cases x.one with
 | mk W=>exact⟨V,W⟩
theorem bg.three {h:Heap} {ρ:ab} {vs:List Value} {a b c:AV} (x:bg h ρ vs [a,b,c]):Bf h ρ a b c vs:=by
 obtain⟨v,ws,rfl,V,x⟩:=x.un
 cases x.two with
 | mk W X=>exact⟨V,W,X⟩
inductive JT (hp:Hp) (P:AV→Hp→Prop):List AV→Prop
 | tup {l:List AV}:(l.length:Int)<2 ^ 63→P (.int l.length) hp→JT hp P [.tup l]
 | list {n l}:hp[n]?=some (.list l)→(l.length:Int)<2 ^ 63→P (.int l.length) hp→JT hp P [.ref n]
 | frz {n xs ob}:hp[n]?=some (.frz xs ob)→(xs.length:Int)<2 ^ 63→P (.int xs.length) hp→JT hp P [.ref n]
noncomputable def cr:WF:=fun as hp P=>JT hp P as
theorem xL:br C 0 (.builtin "len") cr:=by
 intro A ρ hp s as vs Q E P rm H V hw post
 refine nn fun ng=>?_
 cases hw with
 | tup hf hP=>
  cases V.one with
  | mk Va=>cases Va.tupAt with
   | mk t ws dd sl n ho hs=>
    have hl:ws.toArray.size=_:=List.size_toArray.trans hs.length
    exact ng (len_tuple (yy.is (ρ:=ρ) (l:=[]) ho) (by rw[hl];exact hf) (by rw[hl];exact post _ _ ρ hp s.heap _ hP (.refl _ _) H (.int _ _)))
 | list e hf hP=>
  cases V.one with
  | mk Va=>cases H.listAt e Va with
   | mk x ws k _ ho hs=>
    have hl:ws.toArray.size=_:=List.size_toArray.trans hs.length
    exact ng (Calls.call_len_list (bx ho) (by rw[hl];exact hf) (by rw[hl];exact post _ _ ρ hp s.heap _ hP (.refl _ _) H (.int _ _)))
 | frz e hf hP=>
  cases V.one with
  | mk Va=>
   obtain⟨q,hq,rfl,⟨ws,_,ho,hi⟩,_⟩:=H.at e Va
   have hl:ws.toArray.size=_:=List.size_toArray.trans hi.length
   exact ng (Calls.call_len_list ho (by rw[hl];exact hf) (by rw[hl];exact post _ _ ρ hp s.heap _ hP (.refl _ _) H (.int _ _)))
inductive IY (hp:Hp) (P:AV→Hp→Prop):List AV→Prop
 | one {n}:P (.rng 0 n 1) hp→IY hp P [.int n]
 | two {a b}:P (.rng a b 1) hp→IY hp P [.int a,.int b]
 | three {a b c}:c≠0→c.natAbs<1073741824→P (.rng a b c) hp→IY hp P [.int a,.int b,.int c]
noncomputable def bh:WF:=fun as hp P=>IY hp P as
theorem jA {ρ:ab} {hp:Hp} {s:Shared} {Q:Value→Shared→Prop} {P:AV→Hp→Prop} {a b c:Int} {t u v tk:Tok} (H:HR C ρ hp s.heap) (hP:P (.rng a b c) hp) (post:g9 C ρ s P Q) :
  Q (.ref s.heap.objs.size) { s with heap:=s.heap.push { cls:=.type "range",data:=.fields #[.int a t,.int b u,.int c v] },toks:=tk }:=by
 have kk:∀ x o,s.heap.get? x=some o→(s.heap.push { cls:=.type "range",data:=.fields #[.int a t,.int b u,.int c v] }).get? x=some o:=fun _ _ e=>Heap.get?_push_of_some _ e
 exact post _ _ ρ hp _ _ hP (bD.grow ρ kk) (H.grow kk) (.rng (IsRange.new ..))
theorem sK:br C 0 (.type "range") bh:=by
 intro A ρ hp s as vs Q E P rm H V hw post
 refine nn fun ng=>?_
 cases hw with
 | one hw=>
  cases V.one with
  | mk Va=>obtain⟨t,rfl⟩:=Va.inv;exact ng (call_range_1 (jA H hw post))
 | two hw=>
  cases V.two with
  | mk Va Vb=>obtain⟨t,rfl⟩:=Va.inv;obtain⟨u,rfl⟩:=Vb.inv;exact ng (call_range_2 (jA H hw post))
 | three h1 h2 hw=>
  cases V.three with
  | mk Va Vb Vc=>obtain⟨t,rfl⟩:=Va.inv;obtain⟨u,rfl⟩:=Vb.inv;obtain⟨w,rfl⟩:=Vc.inv;exact ng (call_range_3 h1 (jA H hw post) (.inl (PyProof.noPylong_small h2)))
inductive Cd (hp:Hp) (P:AV→Hp→Prop):List AV→Prop
 | bool {b}:P (.int (if b=true then 1 else 0)) hp→Cd hp P [.bool b]
 | int {i}:P (.int i) hp→Cd hp P [.int i]
noncomputable def sL:WF:=fun as hp P=>Cd hp P as
theorem xM:br C 0 (.type "int") sL:=by
 intro A ρ hp s as vs Q E P rm H V hw post
 cases hw with
 | bool hw=>
  cases V.one with
  | mk Va=>cases Va.inv;exact call_int_bool (post _ _ ρ hp s.heap _ hw (.refl _ _) H (.int _ _))
 | int hw=>
  cases V.one with
  | mk Va=>obtain⟨t,rfl⟩:=Va.inv;exact call_int_int (post _ _ ρ hp s.heap s.toks hw (.refl _ _) H (.int _ _))
inductive IZ (hp:Hp) (P:AV→Hp→Prop):List AV→Prop
 | mk {i:Int}:i.natAbs<2 ^ 64→P (.str (Str.ofString (toString i))) hp→IZ hp P [.int i]
noncomputable def nU:WF:=fun as hp P=>IZ hp P as
theorem Ce {n:Nat} (h:n<2 ^ 64):n.log2<64:=by
 by_cases h0:n=0
 ·rw[h0];decide
 ·exact(Nat.log2_lt h0).mpr h
theorem xN:br C 0 (.type "str") nU:=by
 intro A ρ hp s as vs Q E P rm H V hw post
 cases hw with
 | mk h1 hw=>
  cases V.one with
  | mk Va=>
   obtain⟨t,rfl⟩:=Va.inv
   exact PySem.P.str_of_int (by have:=Ce h1;exact Jd this) (post _ _ ρ hp s.heap _ hw (.refl _ _) H (.str _ _))
inductive I0 (hp:Hp) (P:AV→Hp→Prop):List AV→Prop
 | mk {a b:Int}:P (.int (if b<a then b else a)) hp→I0 hp P [.int a,.int b]
noncomputable def xO:WF:=fun as hp P=>I0 hp P as
theorem xP:br C 0 (.builtin "min") xO:=by
 intro A ρ hp s as vs Q E P rm H V hw post
 cases hw with
 | @mk a b hw=>
  cases V.two with
  | mk Va Vb=>
   obtain⟨t,rfl⟩:=Va.inv
   obtain⟨u,rfl⟩:=Vb.inv
   refine min_two_ints rm.handled fun h' tk kk=>?_
   by_cases q:b<a
   ·rw[if_pos q] at hw ⊢
    exact post _ _ ρ hp h' tk hw (bD.grow ρ kk) (H.grow kk) (.int _ _)
   ·rw[if_neg q] at hw ⊢
    exact post _ _ ρ hp h' tk hw (bD.grow ρ kk) (H.grow kk) (.int _ _)
inductive I1 (hp:Hp) (P:AV→Hp→Prop):List AV→Prop
 | mk {n l}:hp[n]?=some (.list l)→l.length≤sizeLine→P (.tup l) hp→I1 hp P [.ref n]
noncomputable def eL:WF:=fun as hp P=>I1 hp P as
theorem sM:br C 0 (.type "tuple") eL:=by
 intro A ρ hp s as vs Q E P rm H V hw post
 cases hw with
 | mk e hz hw=>
  cases V.one with
  | mk Va=>cases H.listAt e Va with
   | mk x ws k _ ho hs=>
    refine call_tuple_list (bx ho) (fun h' kk=>?_) (by rw[List.size_toArray,hs.length];exact hz)
    have Z:=ku (s:={ s with heap:=h' }) (H.grow kk) (H.vrs (bD.grow ρ kk) hs)
    exact post _ _ ρ hp _ s.toks hw ((bD.grow ρ kk).trans Z.1.1) Z.1.2 Z.2
noncomputable def nV:aC→String
 | .list _=>"list"
 | .inst _ _=>""
 | .frz _ _=>""
 | _=>"dict"
noncomputable def fD (T:String) (F:WF) (O:WE) (L:WL) (loc:aX) (hp:Hp) (P:AV→Hp→Prop):Prop:=O loc hp fun a hp1=>(∃ n o,a=.ref n∧hp1[n]?=some o∧nV o=T)∧L loc hp1 fun as hp2=>F (a::as) hp2 P
theorem OR.plain {h:Heap} {ρ:ab} {p:Addr×Addr} {T:String} (hT:T = "list"∨T = "dict") {o:aC} (x:OR C h ρ p o) (e:nV o=T):∃ ob,h.get? p.1=some ob∧ob.cls=.type T∧ob.dict=none:=by
 have no:∀ {p:Prop},("" : String)=T→p:=fun e=>hT.elim (fun h=>absurd (e.trans h) (by decide)) fun h=>absurd (e.trans h) (by decide)
 cases o with
 | list l=>exact x.2.elim fun _ y=>y.elim fun _ z=>⟨_,x.1▸z.1,e▸rfl,rfl⟩
 | dI l=>exact x.2.elim fun _ y=>vf y.1 fun o _ _ z r=>⟨o,x.1▸z,e▸r.1.1,r.1.2.1⟩
 | dT l=>exact x.2.elim fun _ y=>vf y.1 fun o _ _ z r=>⟨o,x.1▸z,e▸r.1.1,r.1.2.1⟩
 | dS ep l=>exact x.2.elim fun _ y=>vf y.1 fun o _ _ z r=>⟨o,x.1▸z,e▸r.1.1,r.1.2.1⟩
 | inst _ _=>exact no e
 | frz _ _=>exact no e
theorem j5 {o:Expr} {x:String} {T id:String} {apos pos:Pos} {es:List Expr} {F:WF} {O:WE} {W:WL} {e:Nat} (ho:SE C d sc o O) (hT:T = "list"∨T = "dict") (pa:PlainAttrs T) (slot:Slot T (Str.ofString x) id) (hty:typeOf (.builtin id)=pure (.type "method_descriptor"))
  (hs:bb es=true) (hl:SL C d sc es W) (hF:br C e (.builtin id) F) (le:e≤d) (hb:∀ env,attributeBase o (Str.ofString x) env (eval o env)=eval o env) (hn:decide (es.length<30)=true) (hp:(apos.endLine == pos.line)=true) :
  SE C d sc (.Call (.Attribute o (Str.ofString x) apos) es [] pos) (fD T F O W):=by
 intro A env ρ loc hpp s Q E P hsc rm H F' hw post
 refine wpAny_Call_method (hb env) (xE hs hn) hp pa slot hty (ho A env ρ loc hpp s _ E _ hsc rm H F' hw fun v a ρ1 hp1 h₁ tk1 hw1 st1 H1 V1=>nn fun ng=>?_)
 obtain⟨⟨n,ob,rfl,hob,hty'⟩,hw1⟩:=hw1
 obtain⟨p,hr,rfl,O⟩:=H1.at hob V1
 obtain⟨oo,h1,h2,h3⟩:=O.plain hT hty'
 refine ng ⟨⟨oo,h1,h2⟩,fun a e=>⟨oo,Value.ref.inj e▸h1,h3⟩,gP (.inl ⟨id,rfl⟩) hs ?_⟩
 refine hl A env ρ1 loc hp1 { s with heap:=h₁,toks:=tk1 } _ E _ pos hsc rm H1 (F'.step H st1) hw1 fun vs as ρ2 hp2 h₂ tk2 hw2 st2 H2 V2=>⟨C.X.keeps H2.keep,?_⟩
 exact hF A ρ2 hp2 { s with heap:=h₂,toks:=tk2 } _ _ Q E P (rm.le le) H2 (.cons (H1.vr st2 V1) V2) hw2 (post.after (st1.trans st2))
inductive LC (hp:Hp) (P:AV→Hp→Prop):List AV→Prop
 | mk {n x l}:hp[n]?=some (.list l)→l.length≤sizeLine→P .none (hp.set n (.list (l++[x])))→LC hp P [.ref n,x]
noncomputable def aV:WF:=fun as hp P=>LC hp P as
theorem qZ:br C 0 (.builtin "list.append") aV:=by
 intro A ρ hp s as vs Q E P rm H V hw post
 cases hw with
 | mk e hz hw=>
  cases V.two with
  | mk Va Vx=>cases H.listAt e Va with
   | mk a ws k hr ho hs=>
    have Z:=H.setList hr ho (·.push _) (by simpa using hs.append (.cons Vx .nil))
    exact call_meets PySem.F.slot_list_append ⟨_,ho,rfl⟩ PySem.F.entry_list_append (PySem.F.args_list_append_2 _ _) (AutoListH.list_append_list_val_0 a ws.toArray k _ (by rw[List.size_toArray,hs.length];exact hz)) ⟨ho,post _ _ ρ _ _ _ hw Z.2 Z.1 .none⟩
inductive LD (hp:Hp) (P:AV→Hp→Prop):List AV→Prop
 | mk {n l x}:hp[n]?=some (.list (l++[x]))→l.length<sizeLine→P x (hp.set n (.list l))→LD hp P [.ref n]
noncomputable def xQ:WF:=fun as hp P=>LD hp P as
theorem xR (ws:List Value) (n:Nat) (h:ws.length=n+1):(ws.toArray.eraseIdxIfInBounds (ws.toArray.size-1)).toList=ws.dropLast:=by
 have hlt:ws.toArray.size-1<ws.toArray.size:=by simp[h]
 rw[Array.eraseIdxIfInBounds,dif_pos hlt,Array.toList_eraseIdx,List.size_toArray,List.toList_toArray,List.eraseIdx_length_sub_one]
theorem xS:br C 0 (.builtin "list.pop") xQ:=by
 intro A ρ hp s as vs Q E P rm H V hw post
 cases hw with
 | @mk n l x e hz hP=>
  cases V.one with
  | mk Va=>cases H.listAt e Va with
   | mk a ws k hr ho hs=>
    have hl:ws.length=l.length+1:=hs.length.trans (by simp)
    obtain⟨y,hy,Vy⟩:=hs.get (i:=l.length) (d:=x) (by simp)
    have Z:=H.setList hr ho (fun xs=>xs.eraseIdxIfInBounds (ws.toArray.size-1)) (ds:=l) (by
     rw[xR ws _ hl]
     have:=hs.dropLast
     rwa [List.dropLast_concat] at this)
    exact call_meets PySem.F.slot_list_pop ⟨_,ho,rfl⟩ PySem.F.entry_list_pop (PySem.F.args_list_pop_1 _) (MeetsSeq.list_pop_last a ws.toArray k y (by rw[List.size_toArray,List.getElem?_toArray,hl];exact hy) (by rw[List.size_toArray,hl];exact hz)) ⟨ho,post _ _ ρ _ _ s.toks hP Z.2 Z.1 (H.vr Z.2 Vy)⟩
inductive DS (d:AV) (hp:Hp) (P:AV→Hp→Prop):AV→AV→Prop
 | dI {n i l}:hp[n]?=some (.dI l)→P ((aZ l i).getD d) hp→DS d hp P (.ref n) (.int i)
 | dT {n ks k l}:hp[n]?=some (.dT l)→AV.ik ks=some k→P ((aZ l k).getD d) hp→DS d hp P (.ref n) (.tup ks)
 | dS {n ks k ep l}:hp[n]?=some (.dS ep l)→AV.sk ks=some k→P ((aZ l k).getD d) hp→DS d hp P (.ref n) (.tup ks)
inductive z8 (hp:Hp) (P:AV→Hp→Prop):List AV→Prop
 | two {a k}:DS .none hp P a k→z8 hp P [a,k]
 | three {a k d}:DS d hp P a k→z8 hp P [a,k,d]
noncomputable def jB:WF:=fun as hp P=>z8 hp P as
theorem gM.getD {h:Heap} {ρ:ab} {vd:Value} {dd:AV} (x:VR h ρ vd dd) {v d} (y:gM h ρ v d):VR h ρ (v.getD vd) (d.getD dd):=by
 cases d with
 | none=>rw[y.none];exact x
 | some d=>obtain⟨u,rfl,z⟩:=y.some;exact z
inductive uD (C:Cx) (h:Heap) (ρ:ab) (vd:Value) (P:Value→Prop):Value→Value→Prop
 | dI {a i u kvs}:(a == sysModules)=false→h.DictOf (PySem.intKind C.prog C.w) a kvs→P ((valueAt kvs i).getD vd)→uD C h ρ vd P (.ref a) (.int i u)
 | dT {a b k xs}:(a == sysModules)=false→(tupleKind (PySem.intKind C.prog C.w)).is h k b→h.DictOfH (tupleKind (PySem.intKind C.prog C.w)) a xs→P (((atKey xs k).map (·.2)).getD vd)→uD C h ρ vd P (.ref a) (.ref b)
 | dS {a b k xs}:(a == sysModules)=false→(tupleKind (PySem.strKind C.prog C.w)).is h k b→h.DictOfH (tupleKind (PySem.strKind C.prog C.w)) a xs→P (((atKey xs k).map (·.2)).getD vd)→uD C h ρ vd P (.ref a) (.ref b)
theorem HR.getAt {ρ:ab} {hp:Hp} {h:Heap} (H:HR C ρ hp h) {d a k:AV} {va vk vd:Value} {P:AV→Hp→Prop} (x:DS d hp P a k) (Va:VR h ρ va a) (Vk:VR h ρ vk k) (Vd:VR h ρ vd d):uD C h ρ vd (fun v=>∃ y,P y hp∧VR h ρ v y) va vk:=by
 cases x with
 | dI e hP=>
  obtain⟨u,rfl⟩:=Vk.inv
  obtain⟨⟨a,a'⟩,hr,rfl,(rfl:a=a'),kvs,hm,hle,hf⟩:=H.at e Va
  exact .dI (H.notSys hr) hm ⟨_,hP,(hf _).getD Vd⟩
 | dT e ek hP=>
  obtain⟨⟨a,a'⟩,hr,rfl,(rfl:a=a'),xs,hm,hx⟩:=H.at e Va
  obtain⟨b,rfl,hk⟩:=sF (prog:=C.prog) (w:=C.w) Vk ek
  exact .dT (H.notSys hr) hk hm ⟨_,hP,hx.lookR.getD Vd⟩
 | dS e ek hP=>
  obtain⟨⟨a,a'⟩,hr,rfl,(rfl:a=a'),xs,hm,hx,_⟩:=H.at e Va
  obtain⟨b,rfl,hk⟩:=pD (prog:=C.prog) (w:=C.w) Vk ek
  exact .dS (H.notSys hr) hk hm ⟨_,hP,hx.lookR.getD Vd⟩
theorem xT:br C 0 (.builtin "dict.get") jB:=by
 intro A ρ hp s as vs Q E P rm H V hw post
 have po:∀ {v tk},(∃ y,P y hp∧VR s.heap ρ v y)→Q v { s with heap:=s.heap,toks:=tk }:=fun z=>z.elim fun y w=>post _ _ ρ hp s.heap _ w.1 (.refl _ _) H w.2
 have ru:A.in1.units<cLine:=rm.in1_un
 cases hw with
 | two hw=>
  cases V.two with
  | mk Va Vk=>cases H.getAt hw Va Vk .none with
   | @dI _ i _ _ ns hm q=>exact call_meetsIn PySem.F.slot_dict_get hm.typeIs PySem.F.entry_dict_get (PySem.F.args_dict_get_2 _ _) (meets_dict_get (PySem.intKind C.prog C.w) (k:=i) _ (decide_eq_true rfl) ns) ⟨_,hm.mapOf,po q⟩
   | dT ns hk hm q=>exact call_meetsIn PySem.F.slot_dict_get hm.typeIs PySem.F.entry_dict_get (PySem.F.args_dict_get_2 _ _) (meetsH_dict_get (tupleKind (PySem.intKind C.prog C.w)) _ _ ns) ⟨tupleKind_room_in1 ru,_,_,hk,hm,po q⟩
   | dS ns hk hm q=>exact call_meetsIn PySem.F.slot_dict_get hm.typeIs PySem.F.entry_dict_get (PySem.F.args_dict_get_2 _ _) (meetsH_dict_get (tupleKind (PySem.strKind C.prog C.w)) _ _ ns) ⟨tupleKind_room_in1 ru,_,_,hk,hm,po q⟩
 | three hw=>
  cases V.three with
  | mk Va Vk Vd=>cases H.getAt hw Va Vk Vd with
   | @dI _ i u _ ns hm q=>exact call_meetsIn PySem.F.slot_dict_get hm.typeIs PySem.F.entry_dict_get (PySem.F.args_dict_get_3 _ _ _) (meets_dict_get_default (PySem.intKind C.prog C.w) (k:=i) _ (show(PySem.intKind C.prog C.w).is i (.int i u)=true from decide_eq_true rfl) ns _) ⟨_,hm.mapOf,po q⟩
   | dT ns hk hm q=>exact call_meetsIn PySem.F.slot_dict_get hm.typeIs PySem.F.entry_dict_get (PySem.F.args_dict_get_3 _ _ _) (meetsH_dict_get_default (tupleKind (PySem.intKind C.prog C.w)) _ _ ns _) ⟨tupleKind_room_in1 ru,_,_,hk,hm,po q⟩
   | dS ns hk hm q=>exact call_meetsIn PySem.F.slot_dict_get hm.typeIs PySem.F.entry_dict_get (PySem.F.args_dict_get_3 _ _ _) (meetsH_dict_get_default (tupleKind (PySem.strKind C.prog C.w)) _ _ ns _) ⟨tupleKind_room_in1 ru,_,_,hk,hm,po q⟩
end
theorem lv {prog:Program} {w:World} {A:Around} {E:Value→Shared→Prop} {s:Shared} {a:Addr} {xs:Array Value} {k:Nat} {Q:Option Value→Shared→Prop}
  (hx:s.heap.get? a=some { cls:=.type "list",data:=.seq xs k }) (hA:A.handled=none)
  (h:∀ h' tk,(∀ b o,s.heap.get? b=some o→h'.get? b=some o)→Q none { s with heap:=h',toks:=tk }):wpAny (model prog w) A (getAttr? (.ref a) "keys") Q E s:=by
 have hmiss:typeLookup (.type "list") (Str.ofString "keys")=pure none:=am_miss_of_fast (by decide +kernel)
 obtain⟨hp,g,d,tk,os⟩:=s
 have hT:∀ tk',(⟨hp,g,d,tk',os⟩:Shared).TypeIs (.ref a) "list":=fun _=>⟨_,hx,rfl⟩
 have f1:=sub_AttributeError
 have f3:=F.slot_list_getattribute.lookup
 have f4:=F.slot_list_getattribute.bind (.ref a)
 have f5:=am_list_getattr_none
 unfold getAttr? getAttrBy? getAttrBy
 repeat (any_goals (first | assumption | exact hT _ | ((with_reducible show wpAny _ _ (call (Value.builtin "list.__getattribute__") _ _) _ _ _);refine call_meets F.slot_list_getattribute (hT _) am_entry_list_getattribute (F.args_list_getattribute_2 _ _) (meets_getattribute_miss_list a xs k #[] _ _ hmiss (by decide) (by decide +kernel)) ⟨hx,hA,fun h' tk' e hx'=>?_⟩) | wp_step))
 obtain⟨t',u',he⟩:=hx'.there
 show wpAny _ _ (getattributeRaised _ _ _ _ _ _ _) _ _ _
 unfold getattributeRaised
 have hT2:∀ tk'',(⟨h',g,d,tk'',os⟩:Shared).TypeIs (.ref e) "AttributeError":=fun _=>⟨_,he,rfl⟩
 repeat (any_goals (first | assumption | exact hT2 _ | wp_step))
 all_goals exact h _ _ hx'.keeps
section
variable {C:Cx} {d:Nat} {sc:Scope}
noncomputable def gQ:AV→Option (List Str×AV)
 | .tup [.tup ks,v]=>(AV.sk ks).map fun k=>(k,v)
 | _=>none
noncomputable def fU (l:List (List Str×AV)):List (List Str×AV):=l.foldl (fun acc p=>fC acc p.1 p.2) []
theorem sN {l:List (List Str×AV)} {i:Nat} {p:List Str×AV} (h:l[i]?=some p):fU (l.take (i+1))=fC (fU (l.take i)) p.1 p.2:=by
 have hlt:=(List.getElem?_eq_some_iff.mp h)
 obtain⟨hi,rfl⟩:=hlt
 rw[List.take_add_one,h,fU,List.foldl_append]
 simp[fU]
theorem xU {κ:Type} [DecidableEq κ] (l:List (κ×AV)) (k:κ) (x:AV):(fC l k x).length≤l.length+1:=by
 unfold fC;split <;> simp
theorem uu (l:List (List Str×AV)):(fU l).length≤l.length:=by
 have:∀ (l acc:List (List Str×AV)),(l.foldl (fun acc p=>fC acc p.1 p.2) acc).length≤acc.length+l.length:=by
  intro l
  induction l with
  | nil=>intro acc;simp
  | cons p r ih=>intro acc;have h1:=ih (fC acc p.1 p.2);have h2:=xU acc p.1 p.2;simp only[List.foldl_cons,List.length_cons];exact Je h1 h2
 simpa[fU] using this l []
theorem fV:entryFor table "dict.update.loop" = some Builtin.«dict.update.loop»:=entryFor_of_tree (by kernel_rfl)
theorem cY:plainId "dict.update.loop" = true:=by decide +kernel
theorem uv {y:AV} {p:List Str×AV} (h:gQ y=some p):∃ ks x,y=.tup [.tup ks,x]∧AV.sk ks=some p.1∧p.2=x:=by
 cases y with
 | tup l=>
  cases l with
  | nil=>exact aF h rfl
  | cons a l=>
   cases a with
   | tup ks=>
    cases l with
    | nil=>exact aF h rfl
    | cons x l=>
     cases l with
     | nil=>
      obtain⟨k,hk,rfl⟩:=Option.map_eq_some_iff.mp h
      exact⟨ks,x,rfl,hk,rfl⟩
     | cons=>exact aF h rfl
   | _=>exact aF h (by cases l with | nil=>rfl | cons _ l=>cases l <;> rfl)
 | _=>exact aF h rfl
theorem z9 {l:List AV} {ps:List (List Str×AV)} (hps:l.map gQ=ps.map some) {i:Nat} {y:AV} (h:l[i]?=some y):∃ p,ps[i]?=some p∧gQ y=some p:=by
 have:(l.map gQ)[i]?=some (gQ y):=by rw[List.getElem?_map,h];rfl
 rw[hps,List.getElem?_map] at this
 exact(Option.map_eq_some_iff.mp this).imp fun p z=>⟨z.1,z.2.symm⟩
theorem j6 {h:Heap} {I a:Addr} {i:Nat} (it:h.IsListIter I a i) (b:Addr) (o:Obj) (x:h.get? b=some o) (y:nO o):¬ b=I:=fun z=>
 it.elim fun o' w=>(kn w.2.2 (by rw[w.2.1];decide)).1 (Option.some.inj (x.symm.trans (z▸w.1))▸y)
theorem q6 {h:Heap} {D:Addr} (e:h.get? D=some { cls:=.type "dict",data:=.dict #[] }):h.DictOfH (tupleKind (PySem.strKind C.prog C.w)) D []:=
 ⟨_,#[],0,e,⟨rfl,rfl,rfl⟩,rfl,rfl,(fun _ h=>absurd h List.not_mem_nil),List.nodup_nil⟩
theorem uw {A:Around} {R:Result→Shared→Prop} {h:Heap} {ρ:ab} {a D I:Addr} {vs:List Value} {k:Nat} {l:List AV} {ps:List (List Str×AV)} {res:Value} (hh:A.handled=none) (hu:A.in1.units<cLine) (ho:h.get? a=some { cls:=.type "list",data:=.seq vs.toArray k }) (hs:bg h ρ vs l)
  (hps:l.map gQ=ps.map some) (hz:l.length≤sizeLine) (nD:h.get? D=none) (nI:h.get? I=none) (hID:I≠D):∀ (j i:Nat) (s':Shared) (xs:List (List Str×Addr×Value)),i+j=l.length→(∀ b o,h.get? b=some o→s'.heap.get? b=some o)→
   s'.heap.DictOfH (tupleKind (PySem.strKind C.prog C.w)) D xs→i4 s'.heap ρ xs (fU (ps.take i))→s'.heap.IsListIter I a i→
   (∀ h' tk xs,(∀ b o,h.get? b=some o→h'.get? b=some o)→h'.DictOfH (tupleKind (PySem.strKind C.prog C.w)) D xs→i4 h' ρ xs (fU ps)→R (.ok (.ret res)) { s' with heap:=h',toks:=tk })→
   codeAny C.M A (.builtin "dict.update.loop" ⟨[.ref D,.ref I,rawInt i,res],[]⟩) R s':=by
 have hpl:ps.length=l.length:=by simpa using(congrArg List.length hps).symm
 intro j
 induction j with
 | zero=>
  intro i s' xs hij kk hD hE hI post
  refine codeAny_builtin fV ?_
  rw[Around.under_plainId cY _]
  show wpAny _ A.in1 (pyNext (.ref I) >>= _) _ _ s'
  have hij:i=l.length:=hij
  refine wpAny_bind (wpAny_pyNext_list_end hh hI (bx (kk _ _ ho)) (by rw[List.getElem?_toArray];exact List.getElem?_eq_none (by rw[hs.length,hij];exact Nat.le_refl _)) fun h' e=>?_)
  show wpAny _ _ (pure () >>= fun _=>ret res) _ _ _
  have E':nP (fun b=>b=I) s'.heap h':=fun b o x y=>e b o y x
  rw[hij,← hpl,List.take_length] at hE
  exact wpAny_bind (wpAny_pure (wpAny_pure (post h' s'.toks xs (fun b o q=>e b o (fun z=>aF q (z▸nI)) (kk b o q)) (dZ E' (j6 hI) (fun o q=>e D o hID.symm q) hD) (hE.keep E' List.prefix_rfl (j6 hI)))))
 | succ j ih=>
  intro i s' xs hij kk hD hE hI post
  have hlt:i<l.length:=Nat.lt_of_lt_of_le (Nat.lt_add_of_pos_right (Nat.succ_pos j)) (Nat.le_of_eq hij)
  refine codeAny_builtin fV ?_
  rw[Around.under_plainId cY _]
  show wpAny _ A.in1 (pyNext (.ref I) >>= _) _ _ s'
  refine nn fun ng=>?_
  obtain⟨v,hv,V⟩:=hs.get (gE hlt)
  obtain⟨p,hpi,hp⟩:=z9 hps (gE hlt)
  obtain⟨ks,x,e1,hk,hx⟩:=uv hp
  rw[e1] at V
  refine ng (wpAny_bind (wpAny_pyNext_list_item hI (bx (kk _ _ ho)) (x:=v) (by simpa using hv) fun h' hI' sb=>nn fun ng=>?_))
  have e:∀ b o,b≠I→s'.heap.get? b=some o→h'.get? b=some o:=fun b o hb q=>(sb.2 b hb).trans q
  have k2:∀ b o,h.get? b=some o→h'.get? b=some o:=fun b o q=>e b o (fun z=>aF q (z▸nI)) (kk b o q)
  have E':nP (fun b=>b=I) s'.heap h':=fun b o x y=>e b o y x
  have hD':=dZ E' (j6 hI) (fun o q=>e D o hID.symm q) hD
  have hE':=hE.keep E' List.prefix_rfl (j6 hI)
  have V':VR h' ρ v (.tup [.tup ks,x]):=V.keep (W:=fun _=>False) (fun b o z _=>k2 b o z) List.prefix_rfl (fun _ _ _ _ z=>z)
  cases V'.tupAt with
  | mk t us dd sl n ht Us=>cases Us.two with
   | mk U1 U2=>
    obtain⟨b,rfl,hkey⟩:=pD (prog:=C.prog) (w:=C.w) U1 hk
    have hlen:xs.length≤sizeLine:=by
     rw[hE.len]
     exact Nat.le_trans (uu _) (Nat.le_trans (by rw[List.length_take,hpl];exact Nat.min_le_right _ _) hz)
    refine ng (wpAny_bind (wpAny_holding (wpAny_bind (wpAny_tryCatch ?_))))
    unfold Builtin.Dict.pairItems
    refine wpAny_bind (wpAny_typeOf (T:="tuple") ⟨_,ht,rfl⟩ ?_)
    rw[if_pos (by decide)]
    refine wpAny_bind (wpAny_seqItems ht rfl (wpAny_pure ?_))
    show wpAny _ _ (holding [Value.ref b,_] (dictSet D (.ref b) _)) _ _ _
    refine wpAny_holding (wpAny_dictSet_heap (s:={ s' with heap:=h' }) (knd:=tupleKind (PySem.strKind C.prog C.w)) hu hkey hD' (fun h'' hD'' sb''=>nn fun ng=>?_) hlen)
    obtain⟨od,des,dep,hod,hcd,hdd,_⟩:=id hD'
    have e2:∀ b o,b≠D→h'.get? b=some o→h''.get? b=some o:=fun b o hb q=>(sb''.2 b hb).trans q
    refine ng (wpAny_pure ⟨plainId_quiet cY _,?_⟩)
    show codeAny _ _ (.builtin "dict.update.loop" ⟨[.ref D,.ref I,rawInt ((i:Int)+1),res],[]⟩) _ _
    rw[show rawInt ((i:Int)+1)=rawInt ((i+1:Nat):Int) by rw[Int.natCast_add];rfl]
    refine ih (i+1) _ _ (by rw[Nat.add_right_comm];exact hij) (fun b o q=>e2 b o (fun z=>aF q (z▸nD)) (k2 b o q)) hD'' ?_ (hI'.at fun o q=>e2 I o hID q) fun h3 tk3 xs3 a1 a2 a3=>post h3 tk3 xs3 a1 a2 a3
    rw[sN hpi]
    exact(hE'.stored (hx▸U2)).keep (W:=fun b=>b=D) (fun b o x y=>e2 b o y x) List.prefix_rfl fun b o x y z=>lK.imm (.inl ⟨_,_,hdd⟩) (Option.some.inj (x.symm.trans (z▸hod))▸y)
inductive Bg (hp:Hp) (P:AV→Hp→Prop):List AV→Prop
 | mk {n l} (ps:List (List Str×AV)):hp[n]?=some (.list l)→l.length≤sizeLine→l.map gQ=ps.map some→(∀ ep,P (.ref hp.length) (hp++[.dS ep (fU ps)]))→Bg hp P [.ref n]
noncomputable def lw:WF:=fun as hp P=>Bg hp P as
theorem ux:br C 0 (.type "dict") lw:=by
 intro A ρ hp s as vs Q E P rm H V hw post
 cases hw with
 | @mk n l ps e hz hps hP=>
  cases V.one with
  | mk Va=>cases H.listAt e Va with
   | mk a ws k hr ho hs=>
    refine callType_codes (Q₁:=fun obj s₁=>obj=.ref s.heap.objs.size∧s₁={ s with heap:=s.heap.push { cls:=.type "dict",data:=.dict #[] } }) F.kt_called_dict (F.kt_typeCall_dict_1 _) F.entry_dict_init (kt_code_dict_new _ ⟨rfl,rfl⟩) ?_
    rintro obj s₁ ⟨rfl,rfl⟩
    have kk:∀ b o,s.heap.get? b=some o→(s.heap.push { cls:=.type "dict",data:=.dict #[] }).get? b=some o:=fun b o e=>Heap.get?_push_of_some _ e
    have hN:(s.heap.push { cls:=.type "dict",data:=.dict #[] }).get? s.heap.objs.size=some { cls:=.type "dict",data:=.dict #[] }:=Heap.get?_push_size _ rfl
    have hT:=(q6 (C:=C) hN).typeIs (s:={ s with heap:=s.heap.push { cls:=.type "dict",data:=.dict #[] } })
    refine⟨hT,F.args_dict_init_2 _ _,?_⟩
    unfold Builtin.«dict.__init__»
    refine wpAny_bind ?_
    unfold Builtin.Dict.selfAndRest
    refine wpAny_bind (wpAny_notOrdered_dict hT ?_)
    show wpAny _ _ (pure (s.heap.objs.size,[Value.ref a])) _ _ _
    refine wpAny_pure ?_
    show wpAny _ _ (Builtin.Dict.updateFrom "dict.__init__" s.heap.objs.size (.ref a) [] .none) _ _ _
    unfold Builtin.Dict.updateFrom
    refine wpAny_bind (wpAny_typeOf (T:="list") ⟨_,kk _ _ ho,rfl⟩ ?_)
    rw[if_pos (by decide)]
    refine wpAny_bind (lv (kk _ _ ho) rm.handled fun h2 tk2 k2=>?_)
    rw[if_pos (show(none:Option Value).isNone=true from rfl)]
    refine wpAny_bind (wpAny_rule (wpAny_bind (wpAny_pyIter_list (bx (k2 _ _ (kk _ _ ho))) (wpAny_pure ⟨plainId_quiet cY _,?_⟩))))
    have hsD:s.heap.objs.size<h2.objs.size:=Heap.lt_size (k2 _ _ hN)
    refine uw (h:=s.heap) (A:=A.in1) (res:=.none) rm.handled (by have:=rm.un;show A.units+1+1<cLine;exact Jf this) ho hs hps hz (wl _) (iP (Nat.le_of_lt hsD)) (Nat.ne_of_gt hsD) l.length 0 { s with heap:=h2.push { cls:=.type "list_iterator",data:=.fields #[.ref a,.int 0 0] },toks:=tk2 } [] (Nat.zero_add _)
     (fun b o q=>Heap.get?_push_of_some _ (k2 _ _ (kk b o q))) (q6 (Heap.get?_push_of_some _ (k2 _ _ hN))) .nil ⟨_,Heap.get?_push_size _ rfl,rfl,rfl⟩ fun h' tk xs a1 a2 a3=>nn fun ng=>?_
    obtain⟨o',es',ep',b1,b2,b3,b4⟩:=id a2
    have Z:=H.new1 (o:=.dS ep' (fU ps)) a1 (p:=(s.heap.objs.size,s.heap.objs.size)) (wl _) H.lt ⟨rfl,xs,a2,a3.keep (W:=fun _=>False) (fun b o e _=>e) (List.prefix_append _ _) (fun _ _ _ _ z=>z),fun o es e q1 q2=>by
     dsimp only at q1;rw[b1] at q1;cases q1;rw[b3] at q2;cases q2;rfl⟩
    exact ng ⟨rfl,post _ _ _ _ _ _ (hP ep') Z.2 Z.1 (VR.ref (p:=(s.heap.objs.size,s.heap.objs.size)) (by rw[← H.len];exact List.getElem?_concat_length))⟩
end
section
variable {prog:Program} {w:World} {A:Around} {E:Value→Shared→Prop} {s:Shared}
theorem q7 {a:Addr} {vs:List Value} {n:Nat} {P:PySem.Fin→Shared→Prop} (ho:s.heap.get? a=some (seqObj "list" vs.toArray n)) (hl:vs.length<2)
  (h:∀ h' c,(∀ b o,b≠a→s.heap.get? b=some o→h'.get? b=some o)→h'.get? a=some (seqObj "list" vs.toArray c)→P (.done (.ret .none)) { s with heap:=h' }):wpAny (model prog w) A (Builtin.«list.sort» ⟨[.ref a],[]⟩) P E s:=by
 have ha:a<s.heap.objs.size:=Heap.lt_size ho
 have o1:=get?_update_seq ho fun _=>(#[]:Array Value)
 have k1:∀ b o,b≠a→s.heap.get? b=some o→(s.heap.update a (Obj.mapSeq fun _=>(#[]:Array Value))).get? b=some o:=fun b o hb e=>(Heap.get?_update_other _ _ (Ne.symm hb)).trans e
 have o3:(((s.heap.update a (Obj.mapSeq fun _=>(#[]:Array Value))).push (seqObj "tuple" vs.toArray 0)).push (seqObj "list" #[] 0)).get? a=_:=Heap.get?_push_of_some _ (Heap.get?_push_of_some _ o1)
 rw[list_sort_plain]
 refine wpAny_bind (listItems_at ho rfl ?_)
 refine wpAny_bind (listUpdate_at ho rfl ?_ (by rw[List.size_toArray,sizeLine_eq];exact DY hl) (Nat.zero_le _))
 refine wpAny_bind (seqEpoch_at o1 rfl ?_)
 refine wpAny_bind (wpAny_newTuple ?_ (by show vs.length≤_;rw[sizeLine_eq];exact DY hl))
 refine wpAny_bind (wpAny_newList ?_ (Nat.zero_le _))
 refine wpAny_holding ?_
 show wpAny (model prog w) A _ P E { s with heap:=((s.heap.update a (Obj.mapSeq fun _=>(#[]:Array Value))).push (seqObj "tuple" vs.toArray 0)).push (seqObj "list" #[] 0) }
 dsimp only
 have hn2:vs.toArray.size<2:=by rw[List.size_toArray];exact Jg hl
 rw[if_pos hn2,if_pos hn2]
 refine wpAny_bind (wpAny_pure ?_)
 rw[StateT.run_pure]
 refine wpAny_bind (wpAny_pure ?_)
 dsimp only
 refine wpAny_bind (seqEpoch_at o3 rfl ?_)
 have hm:(arrOf (SortSt.mk' general' (vs.toArray.zip vs.toArray) #[] 7 none)).map (·.2)=vs.toArray:=by
  show(vs.toArray.zip vs.toArray).map (·.2)=vs.toArray
  apply Array.ext'
  rw[Array.toList_map,Array.toList_zip,List.toList_toArray,List.map_snd_zip (Nat.le_refl _)]
 rw[hm]
 refine wpAny_bind (listUpdate_at o3 rfl ?_ (Nat.zero_le _) (by rw[List.size_toArray,sizeLine_eq];exact Jh hl))
 simp only[bne_self_eq_false,Bool.false_eq_true,if_false]
 have o4:=get?_update_seq o3 fun _=>vs.toArray
 exact wpAny_pure (h _ _ (fun b o hb e=>(Heap.get?_update_other _ _ (Ne.symm hb)).trans (Heap.get?_push_of_some _ (Heap.get?_push_of_some _ (k1 b o hb e)))) o4)
theorem xV {a:Addr} {u v:Value} {κ:SortKind} {n:Nat} {P:PySem.Fin→Shared→Prop} {c:Bool} (ho:s.heap.get? a=some (seqObj "list" #[u,v] n))
  (hk:∀ (h':Heap) (Q:SortKind→Shared→Prop),(∀ b o,b≠a→s.heap.get? b=some o→h'.get? b=some o)→Q κ { s with heap:=h' }→wpAny (model prog w) A (keyKind' #[u,v]) Q E { s with heap:=h' })
  (hlt:∀ (h':Heap) (Q:Bool→Shared→Prop),(∀ b o,b≠a→s.heap.get? b=some o→h'.get? b=some o)→Q c { s with heap:=h' }→wpAny (model prog w) A (keyLt' κ v u) Q (fun _ _=>False) { s with heap:=h' })
  (h:∀ h' k,(∀ b o,b≠a→s.heap.get? b=some o→h'.get? b=some o)→h'.get? a=some (seqObj "list" (if c=true then #[v,u] else #[u,v]) k)→P (.done (.ret .none)) { s with heap:=h' }):wpAny (model prog w) A (Builtin.«list.sort» ⟨[.ref a],[]⟩) P E s:=by
 have ha:a<s.heap.objs.size:=Heap.lt_size ho
 have o1:=get?_update_seq ho fun _=>(#[]:Array Value)
 have k1:∀ b o,b≠a→s.heap.get? b=some o→(s.heap.update a (Obj.mapSeq fun _=>(#[]:Array Value))).get? b=some o:=fun b o hb e=>(Heap.get?_update_other _ _ (Ne.symm hb)).trans e
 have o3:(((s.heap.update a (Obj.mapSeq fun _=>(#[]:Array Value))).push (seqObj "tuple" #[u,v] 0)).push (seqObj "list" #[] 0)).get? a=_:=Heap.get?_push_of_some _ (Heap.get?_push_of_some _ o1)
 have k3:∀ b o,b≠a→s.heap.get? b=some o→(((s.heap.update a (Obj.mapSeq fun _=>(#[]:Array Value))).push (seqObj "tuple" #[u,v] 0)).push (seqObj "list" #[] 0)).get? b=some o:=fun b o hb e=>Heap.get?_push_of_some _ (Heap.get?_push_of_some _ (k1 b o hb e))
 rw[list_sort_plain]
 refine wpAny_bind (listItems_at ho rfl ?_)
 refine wpAny_bind (listUpdate_at ho rfl ?_ (by rw[sizeLine_eq];show 2≤_;decide) (Nat.zero_le _))
 refine wpAny_bind (seqEpoch_at o1 rfl ?_)
 refine wpAny_bind (wpAny_newTuple ?_ (by rw[sizeLine_eq];show 2≤_;decide))
 refine wpAny_bind (wpAny_newList ?_ (Nat.zero_le _))
 refine wpAny_holding ?_
 show wpAny (model prog w) A _ P E { s with heap:=((s.heap.update a (Obj.mapSeq fun _=>(#[]:Array Value))).push (seqObj "tuple" #[u,v] 0)).push (seqObj "list" #[] 0) }
 dsimp only
 have hn2:¬ (#[u,v]:Array Value).size<2:=by simp
 rw[if_neg hn2,if_neg hn2]
 refine wpAny_bind (hk _ _ k3 ?_)
 refine wpAny_bind (wpAny_mono (kat_run (ks:=[u,v]) (vs:=[u,v]) (κ:=κ) (Q:=fun st' s'=>s'={ s with heap:=((s.heap.update a (Obj.mapSeq fun _=>(#[]:Array Value))).push (seqObj "tuple" #[u,v] 0)).push (seqObj "list" #[] 0) }∧failedOf st'=none∧(arrOf st').map (·.2)=if c=true then #[v,u] else #[u,v])
  (G:=fun p s'=>s'={ s with heap:=((s.heap.update a (Obj.mapSeq fun _=>(#[]:Array Value))).push (seqObj "tuple" #[u,v] 0)).push (seqObj "list" #[] 0) }∧p=if c=true then #[1,0] else #[0,1])
  rfl (by simp) (by simp) (fun p st' s' a1 a2 a3 a4=>⟨a4.1,a3,?_⟩) ?_) ?_ fun _ _ e=>e)
 ·rw[kat_snds (ks:=[u,v]) (vs:=[u,v]) rfl a2,a4.2]
  cases c <;> rfl
 ·show wpAny _ _ _ _ _ _
  refine hlt _ _ k3 ?_
  cases c with
  | true=>exact⟨rfl,by rw[if_pos rfl];simp only[List.length_cons,List.length_nil,Nat.zero_add];decide +kernel⟩
  | false=>exact⟨rfl,rfl⟩
 rintro⟨⟨⟩,st'⟩ s' ⟨rfl,hf,hm⟩
 dsimp only at hf hm ⊢
 refine wpAny_bind (seqEpoch_at o3 rfl ?_)
 rw[hm]
 refine wpAny_bind (listUpdate_at o3 rfl ?_ (Nat.zero_le _) (by rw[sizeLine_eq];cases c <;> (show 2≤_;decide)))
 rw[hf]
 simp only[bne_self_eq_false,Bool.false_eq_true,if_false]
 have o4:=get?_update_seq o3 fun _=>(if c=true then #[v,u] else #[u,v]:Array Value)
 exact wpAny_pure (h _ _ (fun b o hb e=>(Heap.get?_update_other _ _ (Ne.symm hb)).trans (k3 b o hb e)) o4)
inductive LE (h:Heap) (e x:Str):Value→Prop
 | mk (a dd sl n t u):h.get? a=some { cls:=.type "tuple",dict:=dd,data:=.seq #[.str e t,.str x u] n,slots:=sl }→LE h e x (.ref a)
theorem VR.key {h:Heap} {ρ:ab} {e x:Str} {v:Value} (V:VR h ρ v (.tup [.str e,.str x])):LE h e x v:=by
 cases V.tupAt with
 | mk a vs dd sl n ho hs=>cases hs.two with
  | mk U1 U2=>obtain⟨t,rfl⟩:=U1.inv;obtain⟨u,rfl⟩:=U2.inv;exact⟨a,dd,sl,n,t,u,ho⟩
theorem za {A:Around} {E:Value→Shared→Prop} {s:Shared} {h:Heap} {ρ:ab} {e x y:Str} {u v:Value} {Q:Bool→Shared→Prop} (U:VR s.heap ρ u (.tup [.str e,.str x])) (V:VR s.heap ρ v (.tup [.str e,.str y])) (q:Q (decide (y.cps.toList<x.cps.toList)) s) :
  wpAny (model prog w) A (keyLt' (tuples' true) v u) Q E s:=by
 cases U.key with
 | mk a dd sl n t1 t2 ha=>cases V.key with
  | mk b dd' sl' n' t3 t4 hb=>
   refine kat_lt hb rfl ha rfl (kat_cons (wpAny_eqBool_str ?_))
   rw[decide_eq_true rfl]
   refine kat_yes (kat_cons (wpAny_eqBool_str (kat_go (fun ee=>kat_yes (kat_nil ?_)) (fun ee=>kat_no (kat_one _ _ (PyProof.Rows.lt_str q))))))
   rw[of_decide_eq_true ee,decide_eq_false (List.lt_irrefl _)] at q
   exact q
theorem xW {A:Around} {E:Value→Shared→Prop} {s:Shared} {ρ:ab} {e x y:Str} {u v:Value} {Q:SortKind→Shared→Prop} (U:VR s.heap ρ u (.tup [.str e,.str x])) (V:VR s.heap ρ v (.tup [.str e,.str y])) (q:Q (tuples' true) s) :
  wpAny (model prog w) A (keyKind' #[u,v]) Q E s:=by
 cases U.key with
 | mk a dd sl n t1 t2 ha=>cases V.key with
  | mk b dd' sl' n' t3 t4 hb=>
   refine kat_kind (vs:=[.ref a,.ref b]) (fs:=[.str e t1,.str e t3]) (T:=.type "str") (.cons ha rfl rfl rfl (.cons hb rfl rfl rfl .nil)) (Nat.succ_pos _) (fun v hv=>?_) (by decide) q
   rcases List.mem_cons.mp hv with hv | hv
   ·exact hv▸Looks.of_pure rfl
   ·exact List.mem_singleton.mp hv▸Looks.of_pure rfl
end
section
variable {C:Cx} {d:Nat} {sc:Scope}
theorem dg.at {h h':Heap} {a:Addr} {es:Array DictEntry} {ep:Nat} (x:dg h a es ep) (k:∀ o,h.get? a=some o→h'.get? a=some o):dg h' a es ep:=cq k x
theorem sO {prog:Program} {w:World} {A:Around} (hh:A.handled=none) (I:Addr) {a:Addr} (hne:a≠I) {es:Array DictEntry} {ep:Nat} :
  Walks prog w A I [I,a] [I] es.size (fun i v=>∃ e,es[i]?=some e∧v=e.key) (fun i h=>h.IsKeyIter I a i es.size ep∧dg h a es ep) where
 sub:=fun b hb=>List.mem_singleton.mp hb▸.head _
 frame:=fun _ _ _ st hk=>⟨cq (hk I (.head _)) st.1,st.2.at (hk a (.tail _ (.head _)))⟩
 item:=fun i s Q E hi st hQ=>oD st.1 st.2 (Array.getElem?_eq_getElem hi) fun h' it sb=>
  hQ _ h' s.toks ⟨_,Array.getElem?_eq_getElem hi,rfl⟩ ⟨it,st.2.at fun o e=>(sb.2 a hne).trans e⟩ fun b o hb e=>(sb.2 b (fun q=>hb (q▸.head _))).trans e
 done:=fun s Q E st hQ=>qR hh st.1 st.2 (Nat.le_refl _) fun h' e=>hQ h' s.toks fun b o hb q=>e b o (fun q=>hb (q▸.head _)) q
 self:=fun _ _ _ _ st hQ=>wpAny_pyIter_keyiter st.1 hQ
theorem q8 {prog:Program} {w:World} {a:Addr} (lo:(a == sysModules)=false) {es:Array DictEntry} {ep:Nat}:KdlSrc prog w "dict" a a es.size (fun i v=>∃ e,es[i]?=some e∧v=e.key) (fun h=>dg h a es ep) where
 type:=fun _ hm=>hm.typeIs
 there:=fun _ hm=>hm.elim fun _ y=>⟨Heap.lt_size y.1,Heap.lt_size y.1⟩
 keep:=fun _ _ hm hk=>hm.at fun o e=>hk a (.inl rfl) o e
 notList:=by decide
 notTuple:=by decide
 hint:=fun _ _ _ _ hm hq=>kdl_hint_dict hm.typeIs hq
 iter:=fun _ s hh hm=>⟨_,_,(fun _ _ hq=>oC lo hm hq),sO hh _ (hm.elim fun _ y=>Nat.ne_of_lt (Heap.lt_size y.1)),⟨⟨_,Heap.get?_push_size _ rfl,rfl,rfl⟩,hm.at fun o e=>Heap.get?_push_of_some _ e⟩⟩
noncomputable def cf (l:List (List Str×AV)):List AV:=l.map fun p=>.tup (p.1.map .str)
inductive I2 (h:Heap) (ρ:ab) (ep:Nat) (l:List (List Str×AV)):Value→Prop
 | mk (a es):(a == sysModules)=false→dg h a es ep→es.size=l.length→(∀ acc:Array Value,ItemsOf (fun i v=>∃ e:DictEntry,es[i]?=some e∧v=e.key) acc es.size→bg h ρ acc.toList (cf l))→I2 h ρ ep l (.ref a)
theorem HR.keysItems {ρ:ab} {hp:Hp} {h:Heap} (H:HR C ρ hp h) {n ep:Nat} {l:List (List Str×AV)} {v:Value} (e:hp[n]?=some (.dS ep l)) (x:VR h ρ v (.ref n)):I2 h ρ ep l v:=by
 cases H.dictEs e x with
 | mk a es hr hD hz hk=>
  refine⟨a,es,H.notSys hr,hD,hz,fun acc hi=>.mk' (by rw[Array.length_toList,hi.1,hz];exact(List.length_map ..).symm) fun i v d h1 h2=>?_⟩
  rw[Array.getElem?_toList] at h1
  unfold cf at h2
  rw[List.getElem?_map] at h2
  exact(hi.2 i v h1).elim fun e' q=>(Option.map_eq_some_iff.mp h2).elim fun p w=>(hk i p w.1).elim fun en r=>by
   rw[q.2,← w.2,Option.some.inj (q.1.symm.trans r.1)];exact r.2.1
inductive Bh (hp:Hp) (P:AV→Hp→Prop):List AV→Prop
 | mk {n ep l}:hp[n]?=some (.dS ep l)→l.length≤sizeLine→P (.ref hp.length) (hp++[.list (cf l)])→Bh hp P [.ref n]
noncomputable def lD:WF:=fun as hp P=>Bh hp P as
theorem HR.newL {ρ:ab} {hp:Hp} {h h':Heap} {D:Addr} {l:List AV} {vs:Array Value} {c:Nat} (H:HR C ρ hp h) (kk:∀ b o,h.get? b=some o→h'.get? b=some o) (n:h.get? D=none) (lo:sysModules<D) (ho:h'.get? D=some (seqObj "list" vs c)) (V:bg h' ρ vs.toList l):(HR C (ρ++[(D,D)]) (hp++[.list l]) h'∧bD ρ h (ρ++[(D,D)]) h')∧VR h' (ρ++[(D,D)]) (.ref D) (.ref hp.length):=
 ⟨H.new1 kk (p:=(D,D)) n lo ⟨rfl,vs,c,ho,V.keep (W:=fun _=>False) (fun b o e _=>e) (List.prefix_append _ _) (fun _ _ _ _ z=>z)⟩,VR.ref (p:=(D,D)) (by rw[← H.len];exact List.getElem?_concat_length)⟩
theorem uy:br C 0 (.type "list") lD:=by
 intro A ρ hp s as vs Q E P rm H V hw post
 cases hw with
 | mk e hz hw=>
  cases V.one with
  | mk Va=>cases H.keysItems e Va with
   | mk a es lo hD hze hk=>
    refine kdl_call (q8 lo) rm.handled hD (by rw[hze];exact hz) fun h' tk acc' c' kk hS hi=>?_
    have Z:=H.newL kk (wl _) H.lt hS (H.vrs (bD.grow ρ kk) (hk acc' hi))
    exact post _ _ _ _ _ _ hw Z.1.2 Z.1.1 Z.2
theorem pG {prog:Program} {w:World} {A:Around} {E:Value→Shared→Prop} {s:Shared} {a:Addr} {es:Array DictEntry} {ep:Nat} {Q:List Value→Shared→Prop} (hh:A.handled=none) (lo:(a == sysModules)=false) (hD:dg s.heap a es ep) (hz:es.size≤sizeLine)
  (h:∀ h' tk (acc:Array Value),(∀ b o,s.heap.get? b=some o→h'.get? b=some o)→ItemsOf (fun i v=>∃ e:DictEntry,es[i]?=some e∧v=e.key) acc es.size→Q acc.toList { s with heap:=h',toks:=tk }):wpAny (model prog w) A (collect (.ref a)) Q E s:=by
 have hlt:a<s.heap.objs.size:=hD.elim fun _ y=>Heap.lt_size y.1
 unfold collect
 refine wpAny_bind (wpAny_runValue (codeAny_builtin entry_proto_collect' ?_))
 show wpAny _ _ (do again (.builtin "list.__iadd__" ⟨[← newList [],.ref a],[]⟩)) _ _ s
 refine wpAny_bind (wpAny_newList (wpAny_pure ⟨Code.quiet_builtin _ (by decide +kernel),codeAny_builtin entry_list_iadd' ?_⟩))
 rw[Around.under_plainId (by decide +kernel:plainId "list.__iadd__" = true) _]
 show wpAny _ _ (Builtin.List.listExtendWith (.ref s.heap.objs.size) (.ref a) (.ref s.heap.objs.size)) _ _ { s with heap:=s.heap.push (seqObj "list" #[] 0) }
 have fin:∀ (h':Heap) tk (acc':Array Value) c',(∀ b o,b≠s.heap.objs.size→(s.heap.push (seqObj "list" #[] 0)).get? b=some o→h'.get? b=some o)→h'.get? s.heap.objs.size=some { cls:=.type "list",dict:=none,data:=.seq acc' c',slots:=#[] }→
   ItemsOf (fun i v=>∃ e:DictEntry,es[i]?=some e∧v=e.key) acc' es.size→wpAny (model prog w) A (do
   let o ← load s.heap.objs.size
   match o.data with
   | .seq xs _=>pure xs.toList
   | _=>unsupported "internal:collect") Q E { s with heap:=h',toks:=tk }:=fun h' tk acc' c' kk hS hi=>wpAny_bind (wpAny_load hS (wpAny_pure (h h' tk acc' (fun b o e=>kk b o (Nat.ne_of_lt (Heap.lt_size e)) (Heap.get?_push_of_some _ e)) hi)))
 refine wpAny_mono (kdl_extend (s:={ s with heap:=s.heap.push (seqObj "list" #[] 0) }) (R:=fun r s'=>r=.ok (.ret (.ref s.heap.objs.size))∧wpAny (model prog w) A (do
   let o ← load s.heap.objs.size
   match o.data with
   | .seq xs _=>pure xs.toList
   | _=>unsupported "internal:collect") Q E s') (q8 lo) hh (hD.at fun o e=>Heap.get?_push_of_some _ e) s.heap.objs.size (Nat.ne_of_gt hlt) (Nat.ne_of_gt hlt) (.ref s.heap.objs.size) 0 (Heap.get?_push_size _ rfl) (fun h' tk acc' c' kk hS hi=>⟨rfl,fin h' tk acc' c' kk hS hi⟩) hz) (fun fl s' hf=>?_) (fun e s' he=>by cases he.1)
 cases fl with
 | done f=>cases hf.1;exact hf.2
 | again c'=>exact⟨hf.1,codeAny_mono hf.2 fun r s' hr=>by rw[hr.1];exact hr.2⟩
theorem q9 {prog:Program} {w:World} {A:Around} {E:Value→Shared→Prop} {s:Shared} {x:Value} {Q:Value→Shared→Prop}
  (h:wpAny (model prog w) A.in1 (collect x) (fun vs s₁=>vs.length≤sizeLine∧wpAny (model prog w) A.in1.in1 (Builtin.«list.sort» ⟨[.ref s₁.heap.objs.size],[]⟩) (fun fin s'=>fin=.done (.ret .none)∧Q (.ref s₁.heap.objs.size) s') (fun _ _=>False) { s₁ with heap:=s₁.heap.push (seqObj "list" vs.toArray 0) }) (fun _ _=>False) s) :
  wpAny (model prog w) A (call (.builtin "sorted") [x]) Q E s:=by
 refine Calls.call_function_entry kind_sorted plain_sorted entry_sorted (args_sorted1 _) ?_
 unfold Builtin.«sorted»
 refine wpAny_bind (m:=checkCount "sorted" 1 1 _) (wpAny_pure ?_)
 refine wpAny_bind (wpAny_mono h (fun vs s₁ h1=>?_) fun _ _ x=>x.elim)
 refine wpAny_bind (wpAny_newList ?_ h1.1)
 have hoL:(s₁.heap.push (seqObj "list" vs.toArray 0)).get? s₁.heap.objs.size=some (seqObj "list" vs.toArray 0):=Heap.get?_push_size _ rfl
 refine wpAny_bind (wpAny_holding (wpAny_call_entry slot_list_sort ⟨_,hoL,rfl⟩ entry_list_sort ?body (args_list_sort _)))
 case body=>
  refine wpAny_mono h1.2 (fun fin s' hf=>?_) fun _ _ x=>x.elim
  obtain⟨rfl,hq⟩:=hf
  exact⟨_,rfl,wpAny_pure ⟨_,rfl,hq⟩⟩
noncomputable def aY:List Str→List Str
 | [x,y]=>if y.cps.toList<x.cps.toList then [y,x] else [x,y]
 | l=>l
noncomputable def bG (e x:Str):AV:=.tup [.str e,.str x]
inductive uE (hp:Hp) (P:AV→Hp→Prop):List AV→Prop
 | mk {n} (l e xs):(hp[n]?=some (.list l)∨∃ ep m,hp[n]?=some (.dS ep m)∧l=cf m)→l=List.map (bG e) xs→xs.length≤2→P (.ref hp.length) (hp++[.list (List.map (bG e) (aY xs))])→uE hp P [.ref n]
noncomputable def lT:WF:=fun as hp P=>uE hp P as
theorem uz {prog:Program} {w:World} {A:Around} {E:Value→Shared→Prop} {s:Shared} {ρ:ab} {a:Addr} {vs:List Value} {e:Str} {xs:List Str} {P:PySem.Fin→Shared→Prop} (ho:s.heap.get? a=some (seqObj "list" vs.toArray 0)) (V:bg s.heap ρ vs (xs.map (bG e))) (h2:xs.length≤2)
  (h:∀ h' c ws,(∀ b o,b≠a→s.heap.get? b=some o→h'.get? b=some o)→h'.get? a=some (seqObj "list" (List.toArray ws) c)→bg h' ρ ws ((aY xs).map (bG e))→P (.done (.ret .none)) { s with heap:=h' }):wpAny (model prog w) A (Builtin.«list.sort» ⟨[.ref a],[]⟩) P E s:=by
 have tv:∀ {h':Heap},(∀ b o,b≠a→s.heap.get? b=some o→h'.get? b=some o)→∀ {u x},VR s.heap ρ u x→VR h' ρ u x:=fun k u x z=>z.keep (W:=fun b=>b=a) (fun b o p q=>k b o q p) List.prefix_rfl fun b o x y z=>lJ.imm (.inl ⟨_,_,(Option.some.inj (ho.symm.trans (z▸x))).symm⟩) y
 cases xs with
 | nil=>rw[V.nil0] at ho;exact q7 ho (by decide) fun h' c k o'=>h h' c [] k o' .nil
 | cons x xs=>
  cases xs with
  | nil=>cases V.one with
   | @mk u U=>exact q7 ho (Nat.lt_succ_self 1) fun h' c k o'=>h h' c [u] k o' (.cons (tv k U) .nil)
  | cons y xs=>
   cases xs with
   | nil=>cases V.two with
    | @mk u v U W=>
     refine xV (κ:=tuples' true) (c:=decide (y.cps.toList<x.cps.toList)) ho (fun h' Q k q=>xW (tv k U) (tv k W) q) (fun h' Q k q=>za (h:=h') (tv k U) (tv k W) q) fun h' c k o'=>?_
     have z:aY [x,y]=if y.cps.toList<x.cps.toList then [y,x] else [x,y]:=rfl
     rw[z] at h
     by_cases hc:y.cps.toList<x.cps.toList
     ·rw[decide_eq_true hc,if_pos rfl] at o'
      rw[if_pos hc] at h
      exact h h' c [v,u] k o' (.cons (tv k W) (.cons (tv k U) .nil))
     ·rw[decide_eq_false hc,if_neg Bool.false_ne_true] at o'
      rw[if_neg hc] at h
      exact h h' c [u,v] k o' (.cons (tv k U) (.cons (tv k W) .nil))
   | cons=>exact absurd h2 (by simp)
theorem qa:br C 0 (.builtin "sorted") lT:=by
 intro A ρ hp s as vs Q E P rm H V hw post
 cases hw with
 | @mk n l e xs hl el h2 hP=>
  cases V.one with
  | @mk v Va=>
   have fin:∀ (h1:Heap) tk (ws:List Value),(∀ b o,s.heap.get? b=some o→h1.get? b=some o)→bg h1 ρ ws l→ws.length≤sizeLine∧wpAny C.M A.in1.in1 (Builtin.«list.sort» ⟨[.ref h1.objs.size],[]⟩) (fun fin s'=>fin=.done (.ret .none)∧Q (.ref h1.objs.size) s') (fun _ _=>False) { s with heap:=h1.push (seqObj "list" ws.toArray 0),toks:=tk }:=by
    intro h1 tk ws kk W
    rw[el] at W
    refine⟨Nat.le_trans (Nat.le_of_eq (W.length.trans (List.length_map ..))) (Nat.le_trans h2 (by decide)),?_⟩
    refine uz (s:={ s with heap:=h1.push (seqObj "list" ws.toArray 0),toks:=tk }) (Heap.get?_push_size _ rfl) (W.keep (W:=fun _=>False) (fun b o e _=>Heap.get?_push_of_some _ e) List.prefix_rfl (fun _ _ _ _ z=>z)) h2 fun h' c us k o' V'=>⟨rfl,?_⟩
    have Z:=H.newL (fun b o q=>k b o (Nat.ne_of_lt (Heap.lt_size (kk b o q))) (Heap.get?_push_of_some _ (kk b o q))) (cJ (fun b o e=>⟨o,kk b o e⟩) (wl h1)) (H.grow kk).lt o' V'
    exact post _ _ _ _ _ _ hP Z.1.2 Z.1.1 Z.2
   have lz:l.length≤2:=by rw[el,List.length_map];exact h2
   refine q9 (nn fun ng=>?_)
   rcases hl with hl | ⟨ep,m,hl,hm⟩
   ·cases H.listAt hl Va with
    | mk x ws k hr ho hs=>
     have kk:∀ b o,s.heap.get? b=some o→((s.heap.push (seqObj "list" #[] 0)).update s.heap.objs.size (Obj.mapSeq (·++ws.toArray))).get? b=some o:=fun b o q=>
      (Heap.get?_update_other _ _ (Nat.ne_of_gt (Heap.lt_size q))).trans (Heap.get?_push_of_some _ q)
     exact ng (collect_list (bx ho) (fin _ s.toks ws kk (H.vrs (bD.grow ρ kk) hs)) (by rw[hs.length];exact Nat.le_trans lz (by decide)))
   ·cases H.keysItems hl Va with
    | mk a es lo hD hz hk=>
     have hml:m.length≤2:=by rw[hm] at lz;exact(List.length_map ..)▸lz
     exact ng (pG (A:=A.in1) rm.handled lo hD (by rw[hz];exact Nat.le_trans hml (by decide)) fun h' tk acc kk hi=>fin h' tk acc.toList kk (hm▸H.vrs (bD.grow ρ kk) (hk acc hi)))
noncomputable def qb (loc:aX) (hp:Hp) (P:AV→Hp→Prop):Prop:=∃ o,(o=.dI []∨o=.dT [])∧P (.ref hp.length) (hp++[o])
theorem pH {pos:Pos}:SE C d sc (.Dict [] [] pos) qb:=by
 intro A env ρ loc hp s Q E P hsc rm H F hw post
 rw[eval_Dict_empty]
 refine wpAny_bind (wpAny_standAt (hw.elim fun o hw=>?_))
 refine wpAny_newObj_type (T:="dict") (data:=.dict #[]) ?_
 have kk:∀ b o,s.heap.get? b=some o→(s.heap.push { cls:=.type "dict",data:=.dict #[] }).get? b=some o:=fun b o e=>Heap.get?_push_of_some _ e
 have O:OR C (s.heap.push { cls:=.type "dict",data:=.dict #[] }) (ρ++[(s.heap.objs.size,s.heap.objs.size)]) (s.heap.objs.size,s.heap.objs.size) o:=by
  rcases hw.1 with e | e <;> rw[e]
  ·exact⟨rfl,[],Heap.DictOf.new _,Nat.le_refl _,fun k=>⟨rfl,fun _ _ a=>aF a rfl⟩⟩
  ·exact⟨rfl,[],⟨_,#[],0,Heap.get?_push_size _ rfl,⟨rfl,rfl,rfl⟩,rfl,rfl,(fun _ h=>absurd h List.not_mem_nil),List.nodup_nil⟩,.nil⟩
 have Z:=H.new1 kk (wl _) H.lt O
 exact post _ _ _ _ _ _ hw.2 Z.2 Z.1 (VR.ref (p:=(s.heap.objs.size,s.heap.objs.size)) (by rw[← H.len];exact List.getElem?_concat_length))
end
section
variable {prog:Program} {w:World} {K:Type} [DecidableEq K] {knd:HeapKind prog w K} {A:Around} {E:Value→Shared→Prop} {s:Shared}
theorem lM {D a:Addr} {xs:List (K×Addr×Value)} {k:K} {dflt:Value} {Q:Value→Shared→Prop} (hu:knd.room A) (hkey:knd.is s.heap k a) (hm:s.heap.DictOfH knd D xs) (hsz:xs.length≤sizeLine)
  (hthere:∀ p,atKey xs k=some p→Q p.2 { s with toks:=s.toks+knd.draws k })
  (hnew:atKey xs k=none→∀ h',h'.DictOfH knd D (storedH xs k a dflt)→Heap.SameBut D s.heap h'→Q dflt { s with heap:=h',toks:=s.toks+knd.draws k }):wpAny (model prog w) A (dictSetDefault D (.ref a) dflt) Q E s:=by
 refine nn fun nG=>?_
 obtain⟨o,es,ep,ho,hc,hd,he,his,hn⟩:=id hm
 refine nG ?_;clear nG
 unfold dictSetDefault
 try with_reducible refine wpAny_holding ?_
 refine wpAny_bind (knd.pyHash hu hkey ?_)
 refine wpAny_bind (wpAny_dictFind_heap (s:={ s with toks:=s.toks+knd.draws k }) hu hkey ho hd he his hn ?_ ?_)
 ·intro hno
  have hnone:=atKey_none_of_get hno
  have hnot:k ∉ xs.map (·.1):=not_mem_keys_of_get hno
  refine wpAny_bind (wpAny_rule (wpAny_bind (wpAny_updateDictKeys (hz:=by have e:=size_of_entries he;exact Ji e hsz) (s:={ s with toks:=s.toks+knd.draws k }) ho hd (wpAny_pure (hnew hnone _ ⟨_,_,ep+1,Heap.get?_update_self _ ho (Obj.isFreed_of_dict (Obj.data_mapDictKeys hd _)),
   hc.mapDictKeys _,Obj.data_mapDictKeys hd _,?_,?_,?_⟩ (Heap.SameBut.update ..))))))
  ·rw[storedH_new hnone]
   simp[he,entryOfKey]
  ·rw[storedH_new hnone]
   intro x hx
   rcases List.mem_append.mp hx with hx | hx
   ·exact knd.keeps (his x hx) ho hd (Heap.SameBut.update ..)
   ·simp only[List.mem_singleton] at hx
    subst hx
    exact knd.keeps hkey ho hd (Heap.SameBut.update ..)
  ·rw[storedH_new hnone,List.map_append,List.nodup_append]
   refine⟨hn,by simp,?_⟩
   intro x hx y hy
   simp only[List.map_cons,List.map_nil,List.mem_singleton] at hy
   subst hy
   exact fun e=>hnot (e▸hx)
 ·intro j p hj
  refine wpAny_bind (wpAny_dictEntries (s:={ s with toks:=s.toks+knd.draws k }) ho hd ?_)
  rw[entry_at he j,hj]
  exact wpAny_bind (wpAny_rule (wpAny_pure (hthere p (atKey_of_get hn hj))))
end
section
variable {C:Cx} {d:Nat} {sc:Scope}
inductive qc (hp:Hp) (P:AV→Hp→Prop):List AV→Prop
 | old {n ks k l x v}:hp[n]?=some (.dT l)→AV.ik ks=some k→l.length≤sizeLine→aZ l k=some v→P v hp→qc hp P [.ref n,.tup ks,x]
 | new {n ks k l x}:hp[n]?=some (.dT l)→AV.ik ks=some k→l.length≤sizeLine→aZ l k=none→P x (hp.set n (.dT (l++[(k,x)])))→qc hp P [.ref n,.tup ks,x]
noncomputable def fW:WF:=fun as hp P=>qc hp P as
theorem qd {A:Around} {E:Value→Shared→Prop} {s:Shared} {ρ:ab} {hp:Hp} {n:Nat} {l:List (List Int×AV)} {ks:List AV} {k:List Int} {va vk vx:Value} {x:AV} {Q:Value→Shared→Prop} (rm:c8 0 A) (H:HR C ρ hp s.heap) (e:hp[n]?=some (.dT l)) (ek:AV.ik ks=some k) (hz:l.length≤sizeLine)
  (Va:VR s.heap ρ va (.ref n)) (Vk:VR s.heap ρ vk (.tup ks)) (Vx:VR s.heap ρ vx x) (old:∀ v u tk,aZ l k=some v→VR s.heap ρ u v→Q u { s with toks:=tk })
  (new:aZ l k=none→∀ h' tk,HR C ρ (hp.set n (.dT (l++[(k,x)]))) h'∧bD ρ s.heap ρ h'→Q vx { s with heap:=h',toks:=tk }):wpAny C.M A (call (.builtin "dict.setdefault") [va,vk,vx]) Q E s:=by
 refine nn fun nG=>?_
 obtain⟨⟨a,a'⟩,hr,rfl,(rfl:a=a'),xs,hm,hx⟩:=H.at e Va
 obtain⟨b,rfl,hk⟩:=sF (prog:=C.prog) (w:=C.w) Vk ek
 refine nG ?_;clear nG
 refine wpAny_call_entry PySem.F.slot_dict_setdefault hm.typeIs PySem.F.entry_dict_setdefault ?_ (PySem.F.args_dict_setdefault_3 _ _ _)
 unfold Builtin.«dict.setdefault»
 refine wpAny_bind ?_
 unfold Builtin.Dict.keyAndDefault
 refine wpAny_bind (wpAny_notOrdered_dict hm.typeIs ?_)
 show wpAny _ _ (pure (a,Value.ref b,some vx)) _ _ s
 refine wpAny_pure ?_
 show wpAny _ _ (if (a == sysModules)=true then _ else (dictSetDefault a (.ref b) vx >>= _)) _ _ s
 rw[if_neg (by rw[show(a == sysModules)=false from H.notSys hr];exact Bool.false_ne_true)]
 have hlook:=hx.lookR (k:=k)
 refine wpAny_bind (lM (knd:=tupleKind (PySem.intKind C.prog C.w)) (k:=k) rm.in1_un hk hm (by rw[hx.len];exact hz) (fun p hp'=>?_) fun hnone h' hm' sb=>nn fun ng=>?_)
 ·rw[hp'] at hlook
  exact(tc hlook.1.symm rfl).elim fun v q=>wpAny_pure ⟨_,rfl,old v _ _ q (hlook.2 _ _ rfl q)⟩
 ·rw[hnone] at hlook
  have q:aZ l k=none:=by
   cases q:aZ l k with
   | none=>rfl
   | some v=>rw[q] at hlook;exact absurd hlook.1 (by simp)
  have ep':fC l k x=l++[(k,x)]:=by unfold fC;rw[q];rfl
  refine nn fun nG=>?_
  obtain⟨od,es,ep,hod,_,hdd,_⟩:=id hm
  refine nG ?_;clear nG
  exact ng (wpAny_pure ⟨_,rfl,new q _ _ (H.setD hr hod hdd sb fun tv=>⟨rfl,_,hm',ep'▸(hx.stored (b:=b) Vx).map tv⟩)⟩)
theorem lN:br C 0 (.builtin "dict.setdefault") fW:=by
 intro A ρ hp s as vs Q E P rm H V hw post
 cases hw with
 | old e ek hz q hw=>
  cases V.three with
  | mk Va Vk Vx=>exact qd rm H e ek hz Va Vk Vx (fun v u tk q' V=>post _ _ ρ hp s.heap _ (Option.some.inj (q.symm.trans q')▸hw) (.refl _ _) H V) fun q'=>aF q q'
 | new e ek hz q hw=>
  cases V.three with
  | mk Va Vk Vx=>exact qd rm H e ek hz Va Vk Vx (fun v u tk q' V=>aF q' q) fun _ h' tk Z=>post _ _ ρ _ h' _ hw Z.2 Z.1 (H.vr Z.2 Vx)
end
section
variable {C:Cx} {d:Nat} {sc:Scope}
theorem HR.off {ρ:ab} {hp:Hp} {h h':Heap} (H:HR C ρ hp h) {a:Addr} {oa:Obj} (ha:h.get? a=some oa) (hn:¬ eK ρ a) (hi:¬ nO oa) (hpl:oa.data≠.plain) (ho:C.h₀.get? a=none)
  (e:∀ b o,b≠a→h.get? b=some o→h'.get? b=some o):HR C ρ hp h':=
 H.but ha hn ⟨hi,fun c d q=>hpl (q▸rfl)⟩ ho e
theorem pI {ρ:ab} {h h':Heap} {a:Addr} {oa:Obj} (ha:h.get? a=some oa) (hi:¬ nO oa) (e:∀ b o,b≠a→h.get? b=some o→h'.get? b=some o) {v:Value} {x:AV} (V:VR h ρ v x):VR h' ρ v x:=
 V.keep (W:=fun b=>b=a) (fun b o x y=>e b o y x) List.prefix_rfl fun b o x c y=>hi (Option.some.inj (x.symm.trans (y▸ha))▸c)
theorem zb {ρ:ab} {h h':Heap} {a:Addr} {oa:Obj} (ha:h.get? a=some oa) (hi:¬ nO oa) (e:∀ b o,b≠a→h.get? b=some o→h'.get? b=some o) {v:List Value} {x:List AV} (V:bg h ρ v x):bg h' ρ v x:=
 V.keep (W:=fun b=>b=a) (fun b o x y=>e b o y x) List.prefix_rfl fun b o x c y=>hi (Option.some.inj (x.symm.trans (y▸ha))▸c)
theorem FR.off {env:Env} {ρ:ab} {loc:aX} {h h':Heap} (F:FR C env ρ loc h) {a:Addr} {oa:Obj} (ha:h.get? a=some oa) (hi:¬ nO oa) (hL:a≠env.locals) (hc:∀ v,oa.data≠.cell v)
  (e:∀ b o,b≠a→h.get? b=some o→h'.get? b=some o):FR C env ρ loc h':=
 F.keep (fun o=>e _ o (Ne.symm hL)) (fun {c ov} z=>cq (fun o w=>e c o (fun q=>z.elim fun oc y=>hc ov (Option.some.inj (y.1.symm.trans (q▸ha))▸y.2)) w) z) (pI ha hi e) F.apL
noncomputable def gq (scope sc:Scope):Scope:=
 { scope with names:=scope.names.map fun (n,k)=>if (k == .free && sc.kind == .function && sc.names.lookup n == some .cell) then (n,.cell) else (n,k) }
theorem lx {scope:Scope} {env:Env} (h:env.scope=sc):relabel scope env=gq scope sc:=by subst h;rfl
noncomputable def qf (env:Env) (names:List (Str×NameKind)):List (Str×Addr):=names.foldl (fun cs x=>if (x.2 == .free)=true then (x.1,(env.cells.lookup x.1).getD 0)::cs else cs) []
theorem sP {env:Env} {body:Str×NameKind→List (Str×Addr)→Sem (ForInStep (List (Str×Addr)))} (hb:∀ x cs,body x cs=if (x.2 == .free)=true then (cellOf env x.1 >>= fun c=>pure (ForInStep.yield ((x.1,c)::cs))) else pure (ForInStep.yield cs)) :
  ∀ (l:List (Str×NameKind)) (acc:List (Str×Addr)),(∀ x∈l,x.2=.free→(env.cells.lookup x.1).isSome=true)→
   forIn l acc body=pure (l.foldl (fun cs x=>if (x.2 == .free)=true then (x.1,(env.cells.lookup x.1).getD 0)::cs else cs) acc):=by
 intro l
 induction l with
 | nil=>exact fun acc _=>rfl
 | cons x r ih=>
  intro acc hl
  rw[List.forIn_cons,List.foldl_cons,hb]
  have ih':=ih (if (x.2 == .free)=true then (x.1,(env.cells.lookup x.1).getD 0)::acc else acc) fun y hy=>hl y (.tail _ hy)
  by_cases hk:(x.2 == .free)=true
  ·rw[if_pos hk] at ih' ⊢
   rw[if_pos hk]
   obtain⟨c,hc⟩:=Option.isSome_iff_exists.mp (hl x (.head _) (eq_of_beq hk))
   have e:cellOf env x.1=pure c:=by unfold cellOf;rw[hc]
   rw[hc] at ih' ⊢
   rw[e]
   exact ih'
  ·rw[if_neg hk] at ih' ⊢
   rw[if_neg hk]
   exact ih'
theorem nW {scope:Scope} {env:Env} (h:∀ x∈scope.names,x.2=.free→(env.cells.lookup x.1).isSome=true):closureFor scope env=pure (qf env scope.names):=by
 unfold closureFor
 refine Eq.trans (congrArg (· >>= fun r=>pure r) (sP (env:=env) (fun x cs=>?_) scope.names [] h)) rfl
 obtain⟨n,k⟩:=x
 cases k <;> rfl
theorem qg {env:Env} {x:Str}:∀ (l:List (Str×NameKind)) (acc:List (Str×Addr)),(∀ c,acc.lookup x=some c→env.cells.lookup x=some c)→(∀ y∈l,y.2=.free→(env.cells.lookup y.1).isSome=true)→
  (∀ c,(l.foldl (fun cs y=>if (y.2 == .free)=true then (y.1,(env.cells.lookup y.1).getD 0)::cs else cs) acc).lookup x=some c→env.cells.lookup x=some c)∧
  ((acc.lookup x).isSome=true∨(x,NameKind.free)∈l→((l.foldl (fun cs y=>if (y.2 == .free)=true then (y.1,(env.cells.lookup y.1).getD 0)::cs else cs) acc).lookup x).isSome=true):=by
 intro l
 induction l with
 | nil=>exact fun acc h _=>⟨h,fun q=>q.elim id fun q=>absurd q List.not_mem_nil⟩
 | cons y r ih=>
  intro acc h hl
  rw[List.foldl_cons]
  by_cases hk:(y.2 == .free)=true
  ·rw[if_pos hk]
   have hs:=hl y (.head _) (eq_of_beq hk)
   have:=ih ((y.1,(env.cells.lookup y.1).getD 0)::acc) (fun c hc=>by
    by_cases e:x=y.1
    ·subst e
     simp only[List.lookup_cons,beq_self_eq_true] at hc
     cases hc
     obtain⟨c,q⟩:=Option.isSome_iff_exists.mp hs
     rw[q];rfl
    ·have:(x == y.1)=false:=beq_eq_false_iff_ne.mpr e
     simp only[List.lookup_cons,this] at hc
     exact h c hc) fun z hz=>hl z (.tail _ hz)
   refine⟨this.1,fun q=>this.2 ?_⟩
   by_cases e:x=y.1
   ·subst e;left;simp
   ·have ne:(x == y.1)=false:=beq_eq_false_iff_ne.mpr e
    simp only[List.lookup_cons,ne]
    rcases q with q | q
    ·exact .inl q
    ·rcases List.mem_cons.mp q with q | q
     ·exact absurd (congrArg Prod.fst q) e
     ·exact .inr q
  ·rw[if_neg hk]
   have:=ih acc h fun z hz=>hl z (.tail _ hz)
   refine⟨this.1,fun q=>this.2 ?_⟩
   rcases q with q | q
   ·exact .inl q
   ·rcases List.mem_cons.mp q with q | q
    ·exact absurd (by rw[← q];rfl) hk
    ·exact .inr q
noncomputable def iS (scope sc:Scope):Bool:=scope.names.all fun x=>(x.2 != .cell) && (x.2 != .free || sc.names.lookup x.1 == some .cell) && (x.2 != .local || scope.names.lookup x.1 == some .local)
noncomputable def hO (scope sc:Scope) (loc:aX):aX:=loc.filter fun p=>(gq scope sc).names.lookup (Str.ofString p.1) == some .cell && sc.names.lookup (Str.ofString p.1) == some .cell
theorem oF {scope sc:Scope} {x:String} {v:AV} {loc:aX} (h:getL (hO scope sc loc) x=some v):getL loc x=some v∧(gq scope sc).names.lookup (Str.ofString x)=some .cell∧sc.names.lookup (Str.ofString x)=some .cell:=by
 unfold hO at h
 induction loc with
 | nil=>exact aF h rfl
 | cons p r ih=>
  rw[List.filter_cons] at h
  by_cases hc:((gq scope sc).names.lookup (Str.ofString p.1) == some .cell && sc.names.lookup (Str.ofString p.1) == some .cell)=true
  ·rw[if_pos hc] at h
   by_cases e:x=p.1
   ·have hc:=Bool.and_eq_true_iff.mp hc
    rw[e,cR] at h
    rw[e]
    exact⟨(cR p.1 p.2 r).trans h,eq_of_beq hc.1,eq_of_beq hc.2⟩
   ·rw[bn e] at h
    exact⟨(bn e p.2 r).trans (ih h).1,(ih h).2⟩
  ·rw[if_neg hc] at h
   have e:x≠p.1:=fun e=>hc (Bool.and_eq_true_iff.mpr (e▸⟨beq_iff_eq.mpr (ih h).2.1,beq_iff_eq.mpr (ih h).2.2⟩))
   exact⟨(bn e p.2 r).trans (ih h).1,(ih h).2⟩
theorem vA {sc:Scope} {x:Str} {names:List (Str×NameKind)}:(∀ y∈names,y.2≠.cell)→(names.map fun (n,k)=>if (k == NameKind.free && sc.kind == .function && sc.names.lookup n == some .cell) then (n,NameKind.cell) else (n,k)).lookup x=some .cell→(x,NameKind.free)∈names∧sc.names.lookup x=some .cell:=by
 induction names with
 | nil=>exact fun _ h=>aF h rfl
 | cons p r ih=>
  intro hc h
  have ih:=fun e=>(ih (fun y hy=>hc y (.tail _ hy)) e).imp_left (List.Mem.tail p)
  have h:List.lookup x ((if (p.2 == NameKind.free && sc.kind == .function && sc.names.lookup p.1 == some .cell)=true then (p.1,NameKind.cell) else (p.1,p.2))::(r.map fun (n,k)=>if (k == NameKind.free && sc.kind == .function && sc.names.lookup n == some .cell) then (n,NameKind.cell) else (n,k)))=some .cell:=h
  by_cases hk:(p.2 == NameKind.free && sc.kind == .function && sc.names.lookup p.1 == some .cell)=true
  ·rw[if_pos hk] at h
   by_cases e:x=p.1
   ·have hk:=Bool.and_eq_true_iff.mp hk
    have hk1:=Bool.and_eq_true_iff.mp hk.1
    rw[e]
    exact⟨eq_of_beq hk1.1▸.head _,eq_of_beq hk.2⟩
   ·rw[List.lookup_cons,beq_eq_false_iff_ne.mpr e] at h;exact ih h
  ·rw[if_neg hk] at h
   by_cases e:x=p.1
   ·rw[e,List.lookup_cons,beq_self_eq_true] at h
    exact absurd (Option.some.inj h) (hc p (.head _))
   ·rw[List.lookup_cons,beq_eq_false_iff_ne.mpr e] at h;exact ih h
theorem FR.block {env:Env} {ρ:ab} {hp:Hp} {loc:aX} {h h':Heap} {scope:Scope} {L:Addr} (F:FR C env ρ loc h) (H:HR C ρ hp h) (hsc:env.scope=sc) (hk:scope.kind=.function) (ok:iS scope sc=true)
  (kk:∀ b o,h.get? b=some o→h'.get? b=some o) (hL:h'.Ns L fun _=>none) (fL:h.get? L=none):FR C (compEnvC scope (qf env scope.names) L env) ρ (hO scope sc loc) h':=by
 have ok':∀ x∈scope.names,x.2≠.cell∧(x.2=.free→sc.names.lookup x.1=some .cell):=fun x hx=>by
  have:=List.all_eq_true.mp ok x hx
  simp only[Bool.and_eq_true,Bool.or_eq_true,bne_iff_ne,beq_iff_eq] at this
  exact⟨this.1.1,fun e=>this.1.2.resolve_left fun q=>q e⟩
 have hs:∀ x∈scope.names,x.2=.free→(env.cells.lookup x.1).isSome=true:=fun x hx e=>by
  exact(F.cell x.1 (by rw[Env.kindOf,hsc];exact(ok' x hx).2 e)).elim fun c z=>z.elim fun ov w=>w.1▸rfl
 have lk:=fun x=>qg (env:=env) (x:=x) scope.names [] (fun c hc=>aF hc rfl) hs
 have kindR:∀ x,(compEnvC scope (qf env scope.names) L env).kindOf x=(gq scope sc).names.lookup x:=fun x=>by
  show(relabel scope env).names.lookup x=_
  rw[lx hsc]
 have cells:∀ x,(gq scope sc).names.lookup x=some .cell→∃ c,(qf env scope.names).lookup x=some c∧env.cells.lookup x=some c∧env.kindOf x=some .cell:=fun x hx=>
  have m:=vA (fun y hy=>(ok' y hy).1) hx
  (Option.isSome_iff_exists.mp ((lk x).2 (.inr m.1))).imp fun c hc=>⟨hc,(lk x).1 c hc,by rw[Env.kindOf,hsc];exact m.2⟩
 have ck:∀ {c ov},h.IsCell c ov→h'.IsCell c ov:=fun z=>cq (fun o=>kk _ o) z
 refine⟨hk,F.glob,F.bi,⟨_,hL,fun x d a b=>?_⟩,fun x k=>?_,fun x d a b=>?_,fun p hp' q=>H.noNew fL ⟨p,hp',q⟩,H.none_of fL,fun x c hc=>F.newC x c ((lk x).1 c hc),fun x y c h1 h2=>F.injC x y c ((lk x).1 c h1) ((lk y).1 c h2)⟩
 ·rw[kindR,(oF a).2.1] at b;cases b
 ·rw[kindR] at k
  exact(cells x k).elim fun c z=>(F.cell x z.2.2).elim fun c' w=>w.elim fun ov w=>⟨c,ov,z.1,Option.some.inj (w.1.symm.trans z.2.1)▸ck w.2⟩
 ·rw[kindR] at b
  exact(cells _ b).elim fun c z=>(F.cellv x d (oF a).1 z.2.2).elim fun c' w=>w.elim fun ov w=>⟨c,ov,z.1,Option.some.inj (w.1.symm.trans z.2.1)▸ck w.2.1,H.vr (bD.grow ρ kk) w.2.2⟩
theorem zc {A:Around} {E:Value→Shared→Prop} {s:Shared} {Q:Value→Shared→Prop} {v:Value} {a:AV} {o:aC} {I:Addr} {i:Nat} (x:gm s.heap I v i a o) (q:Q (.ref I) s):wpAny C.M A (pyIter (.ref I)) Q E s:=by
 cases a with
 | tup l=>exact x.elim fun t h=>wpAny_pyIter_tupleiter h.2 q
 | rng a b c=>exact wpAny_pyIter_rangeiter x q
 | ref n=>
  cases o with
  | list l=>exact x.elim fun t h=>wpAny_pyIter_listiter h.2 q
  | dS ep l=>exact x.elim fun t h=>wpAny_pyIter_keyiter h.2 q
  | _=>exact x.elim
 | _=>exact x.elim
end
section
variable {C:Cx} {d:Nat} {sc:Scope}
theorem qh {prog:Program} {w:World} {A:Around} {R:Result→Shared→Prop} {s:Shared} {elt target iter:Expr} {ifs:List Expr} {scope:Scope} {pos:Pos} {it acc:Value} {env:Env} (I:Nat→Shared→Prop)
  (turn:∀ n s,I n s→wpAny (model prog w) A (pyNext it) (fun r s₁=>match r with
   | none=>R (.ok .next) s₁
   | some v=>wpAny (model prog w) A (letOwnedTupleGo target it v) (fun _ s1'=>wpAny (model prog w) A (assign target env v) (fun _ s2=>
     wpAny (model prog w) A (forIn ifs true fun c r=>if r=true then do let ok ← isTrue c env (eval c env);pure (ForInStep.yield ok) else pure (ForInStep.yield r)) (fun ok s3=>
      if ok=true then wpAny (model prog w) A (eval elt env) (fun x s4=>
       wpAny (model prog w) A (call (.builtin "list.append") [acc,x]) (fun _ s5=>∃ m,m<n∧I m s5) (notedBy (model prog w) A env fun e s'=>R (.error e) s') s4) (notedBy (model prog w) A env fun e s'=>R (.error e) s') s3
      else ∃ m,m<n∧I m s3) (notedBy (model prog w) A env fun e s'=>R (.error e) s') s2) (notedBy (model prog w) A env fun e s'=>R (.error e) s') s1') (notedBy (model prog w) A env fun e s'=>R (.error e) s') s₁) (notedBy (model prog w) A env fun e s'=>R (.error e) s') s)
  (n:Nat) (h:I n s):codeAny (model prog w) A (.compLoop (.ListComp elt [⟨target,iter,ifs,0⟩] scope pos) 0 it acc env) R s:=by
 refine codeAny_loop rfl I (fun n s hI=>?_) n h
 show wpAny _ A ((compTurn (.ListComp elt [⟨target,iter,ifs,0⟩] scope pos) 0 it acc env).onRaise (fun x=>do noteFrame x env;theTreesLotGoes x)) _ _ s
 refine wpAny_noted ?_
 rw[compTurn_list]
 refine wpAny_bind (wpAny_standAt (wpAny_bind (wpAny_mono (turn n s hI) (fun r s₁ h1=>?_) fun _ _ h'=>h')))
 cases r with
 | none=>exact wpAny_pure h1
 | some v=>
  refine wpAny_bind (wpAny_mono h1 (fun _ s1' h1'=>?_) fun _ _ h'=>h')
  refine wpAny_bind (wpAny_mono h1' (fun _ s2 h2=>wpAny_bind (wpAny_mono h2 (fun ok s3 h3=>?_) fun _ _ h'=>h')) fun _ _ h'=>h')
  cases ok with
  | false=>exact wpAny_pure ⟨rfl,h3⟩
  | true=>
   simp only[if_true] at h3 ⊢
   exact wpAny_bind (wpAny_bind (wpAny_mono h3 (fun x s4 h4=>wpAny_bind (wpAny_mono h4 (fun _ s5 h5=>wpAny_pure (wpAny_pure ⟨rfl,h5⟩)) fun _ _ h'=>h')) fun _ _ h'=>h'))
noncomputable def TS (C:Cx) (d:Nat) (sc:Scope) (ifs:List Expr) (W:WB):Prop:=
 ∀ (A:Around) (env:Env) (ρ:ab) (loc:aX) (hp:Hp) (s:Shared) (Q:Bool→Shared→Prop) (E:Value→Shared→Prop) (P:Bool→Hp→Prop),
  env.scope=sc→c8 d A→HR C ρ hp s.heap→FR C env ρ loc s.heap→W loc hp P→qH C ρ s P Q→wpAny C.M A (forIn ifs true fun c r=>if r=true then do let ok ← isTrue c env (eval c env);pure (ForInStep.yield ok) else pure (ForInStep.yield r)) Q E s
theorem kF:TS C d sc [] cX:=fun A env ρ loc hp s Q E P hsc rm H F hw post=>wpAny_tests_nil (post _ ρ hp s.heap s.toks hw (.refl _ _) H)
theorem ly {c:Expr} {W:WB} (h:SB C d sc c W):TS C d sc [c] W:=by
 intro A env ρ loc hp s Q E P hsc rm H F hw post
 rw[List.forIn_cons]
 simp only[if_true,bind_assoc,pure_bind,List.forIn_nil]
 refine wpAny_bind (h A env ρ loc hp s _ E P hsc rm H F hw fun b ρ' hp' h' tk a1 a2 a3=>wpAny_pure (post b ρ' hp' h' tk a1 a2 a3))
noncomputable def eV (T:WT) (t:WB) (e:WE) (chk:Hp→Prop):List AV→aX→Hp→List AV→(List AV→Hp→Prop)→Prop
 | [],loc,hp,acc,P=>P acc hp
 | x::r,loc,hp,acc,P=>T x loc fun loc1=>t loc1 hp fun b hp1=>if b=true then e loc1 hp1 fun y hp2=>acc.length≤sizeLine∧chk hp2∧eV T t e chk r loc1 hp2 (acc++[y]) P else chk hp1∧eV T t e chk r loc1 hp1 acc P
noncomputable def pad (xs:List String):aX:=xs.map fun x=>(x,none)
theorem qi {l:aX} {xs:List String} {x:String} {v:AV} (h:getL (l++pad xs) x=some v):getL l x=some v:=by
 induction l with
 | nil=>
  induction xs with
  | nil=>exact h
  | cons y r ih=>
   by_cases e:x=y
   ·exact aF h (e▸cR x none (pad r))
   ·exact ih ((bn e none (pad r)).symm.trans h)
 | cons p r ih=>
  by_cases e:x=p.1
  ·rw[e] at h ⊢;exact(cR p.1 p.2 r).trans ((cR p.1 p.2 (r++pad xs)).symm.trans h)
  ·exact(bn e p.2 r).trans (ih ((bn e p.2 (r++pad xs)).symm.trans h))
theorem FR.pad {C:Cx} {env:Env} {ρ:ab} {loc:aX} {h:Heap} (F:FR C env ρ loc h) (xs:List String):FR C env ρ (loc++pad xs) h:=⟨F.kind,F.glob,F.bi,F.ns.imp fun m=>And.imp_right fun b x d q k=>b x d (qi q) k,F.cell,fun x d q k=>F.cellv x d (qi q) k,F.apL,F.newL,F.newC,F.injC⟩
noncomputable def fX (ks:List String) (scope sc:Scope) (T:WT) (I:WE) (t:WB) (e:WE) (loc:aX) (hp:Hp) (P:AV→Hp→Prop):Prop:=I loc hp fun a hp1=>∃ items,aL a hp1=some items∧
 eV T t e (fun hp2=>aL a hp2=some items∧ag a hp2=ag a hp1) items (hO scope sc loc++pad ks) hp1 [] fun l hp2=>P (.ref hp2.length) (hp2++[.list l])
theorem fx {vs:Array Value} {k:Nat}:¬ nO { cls:=.type "list",data:=.seq vs k }:=fun y=>lJ.imm (.inl ⟨_,_,rfl⟩) y
inductive Bi (C:Cx) (env:Env) (ρ:ab) (s:Shared) (v:Value) (a:AV) (o:aC) (items:List AV) (I D:Addr) (K:List AV→aX→Hp→List AV→Prop):Nat→Shared→Prop
 | mk (i ρ' loc' hp' h' tk acc accv k):i≤items.length→bD ρ s.heap ρ' h'→HR C ρ' hp' h'→FR C env ρ' loc' h'→VR h' ρ' v a→gm h' I v i a o→aL a hp'=some items∧ag a hp'=o→h'.get? D=some { cls:=.type "list",data:=.seq (List.toArray accv) k }→¬ eK ρ' D→bg h' ρ' accv acc→
   K (items.drop i) loc' hp' acc→Bi C env ρ s v a o items I D K (items.length-i) { s with heap:=h',toks:=tk }
theorem bD.but {ρ ρ':ab} {h h' h2:Heap} {b:Addr} (st:bD ρ h ρ' h') (n:h.get? b=none) (k:∀ x o,x≠b→h'.get? x=some o→h2.get? x=some o):bD ρ h ρ' h2:=
 have ne:∀ x o,h.get? x=some o→x≠b:=fun x o e z=>aF e (z▸n)
 ⟨st.pre,fun x o q m=>k x o (ne x o q) (st.ext x o q m),st.fresh,fun x o q=>(st.live x o q).imp fun o' w=>k x o' (ne x o q) w⟩
theorem vB {A:Around} {env:Env} {ρ:ab} {s:Shared} {elt target iter:Expr} {ifs:List Expr} {scope:Scope} {pos:Pos} {T:WT} {t:WB} {e:WE} {v:Value} {a:AV} {o:aC} {items:List AV} {P:List AV→Hp→Prop} {R:Result→Shared→Prop} {I D:Addr}
  (ht:qV C sc target T) (htl:hH sc target) (hts:TS C d sc ifs t) (he:SE C d sc elt e) (hsc:env.scope=sc) (rm:c8 d A) (DI:D≠I) (IL:I≠env.locals) (DL:D≠env.locals) (nI:s.heap.get? I=none) (nD:s.heap.get? D=none) (nL:s.heap.get? env.locals=none) (n0:∀ b,s.heap.get? b=none→C.h₀.get? b=none) (big:sysModules<D)
  (fin:∀ ρ' hp' h' tk l m,P l hp'→bD ρ s.heap (ρ'++[(D,D)]) h'→HR C (ρ'++[(D,D)]) (hp'++[.list l]) h'→h'.Ns env.locals m→¬ eK (ρ'++[(D,D)]) env.locals→VR h' (ρ'++[(D,D)]) (.ref D) (.ref hp'.length)→R (.ok .next) { s with heap:=h',toks:=tk })
  (n:Nat) (s':Shared) (inv:Bi C env ρ s v a o items I D (fun l loc hp acc=>eV T t e (fun hp2=>aL a hp2=some items∧ag a hp2=o) l loc hp acc P) n s') :
  codeAny C.M A (.compLoop (.ListComp elt [⟨target,iter,ifs,0⟩] scope pos) 0 (.ref I) (.ref D) env) R s':=by
 refine qh _ (fun n s' inv=>?_) n inv
 cases inv with
 | mk i ρ' loc' hp' h' tk' acc accv k hle st H' F' V' It' hs hDo hDm Vacc hL'=>
  refine xJ (s:={ s with heap:=h',toks:=tk' }) rm.handled H' V' hs.1 hs.2 It' hle (fun x hx u h5 tk5 k5 It5 V5=>?_) (fun hend h5 k5=>?_)
  ·have Z:=lS (.of st) H' F' It' (n0 _ nI) nI k5
   have st5:=st.but nI k5
   have dr:=uC hx
   rw[dr.2] at hL'
   refine qY (s:={ s with heap:=h5,toks:=tk5 }) It5 ?_
   refine ht A _ ρ' loc' hp' { s with heap:=h5,toks:=tk5 } _ _ _ u x hsc rm.handled Z.1 Z.2.1 V5 hL' fun loc6 h6 tk6 hB H6 F6 st6 tv6 kp6=>?_
   have kp6:=kp6 htl
   refine hts A _ ρ' loc6 hp' { s with heap:=h6,toks:=tk6 } _ _ _ hsc rm H6 F6 hB fun b ρ7 hp7 h7 tk7 hw7 st7 H7=>?_
   have F7:=F6.step H6 st7
   have D7:=st7.ext _ _ (kp6 _ _ DL (k5 _ _ DI hDo)) hDm
   have m7:¬ eK ρ7 D:=fun m=>(st7.fresh _ m).elim hDm (aF (kp6 _ _ DL (k5 _ _ DI hDo)))
   have It7:=(b9.of st7).it H6 F6 (It5.keep fun o q=>kp6 _ o IL q)
   have V7:=H6.vr st7 (tv6 _ _ (Z.2.2.1 V'))
   have A7:=H6.vrs st7 ((Vacc.map fun _ _=>Z.2.2.1).map tv6)
   have s7:=(st5.but nL kp6).trans st7
   cases b with
   | false=>exact⟨items.length-(i+1),Nat.sub_lt_sub_left dr.1 (Nat.lt_succ_self i),.mk (i+1) ρ7 loc6 hp7 h7 tk7 acc accv k dr.1 s7 H7 F7 V7 It7 hw7.1 D7 m7 A7 hw7.2⟩
   | true=>
    refine he A _ ρ7 loc6 hp7 { s with heap:=h7,toks:=tk7 } _ _ _ hsc rm H7 F7 hw7 fun y ya ρ8 hp8 h8 tk8 hw8 st8 H8 V8=>?_
    have D8:=st8.ext _ _ D7 m7
    have m8:¬ eK ρ8 D:=fun m=>(st8.fresh _ m).elim m7 (aF D7)
    have A8:=H7.vrs st8 A7
    refine call_meets PySem.F.slot_list_append ⟨_,D8,rfl⟩ PySem.F.entry_list_append (PySem.F.args_list_append_2 _ _) (AutoListH.list_append_list_val_0 _ accv.toArray k y (by rw[List.size_toArray,A8.length];exact hw8.1)) ⟨D8,?_⟩
    have k9:∀ b o,b≠D→h8.get? b=some o→(h8.update D (Obj.mapSeq fun x_1=>x_1.push y)).get? b=some o:=fun b o hb q=>(Heap.get?_update_other _ _ (Ne.symm hb)).trans q
    refine⟨items.length-(i+1),Nat.sub_lt_sub_left dr.1 (Nat.lt_succ_self i),.mk (i+1) ρ8 loc6 hp8 _ tk8 (acc++[ya]) (accv++[y]) (if (accv.toArray.push y).size == accv.toArray.size then k else k+1) dr.1 ((s7.trans st8).but nD k9) (H8.off D8 m8 fx (fun z=>by cases z) (n0 _ nD) k9)
     ((F7.step H7 st8).off D8 fx DL (fun v z=>by cases z) k9) (pI D8 fx k9 (H7.vr st8 V7)) (((b9.of st8).it H7 F7 It7).keep fun o q=>k9 _ o DI.symm q) hw8.2.1 ?_ m8 ((zb D8 fx k9 A8).append (.cons (pI D8 fx k9 V8) .nil)) hw8.2.2⟩
    rw[← List.push_toArray]
    exact Heap.get?_update_self (Obj.mapSeq fun x_1=>x_1.push y) D8 rfl
  ·rw[hend,List.drop_length] at hL'
   have Z:=lS (.of st) H' F' It' (n0 _ nI) nI k5
   have J:=Z.1.join (p:=(D,D)) (o:=.list acc) hDm (n0 _ nD) big ⟨rfl,accv.toArray,k,k5 _ _ DI hDo,(Vacc.map fun _ _=>Z.2.2.1).keep (W:=fun _=>False) (fun b o e _=>e) (List.prefix_append _ _) (fun _ _ _ _ z=>z)⟩
   have s5:=st.but nI k5
   have mem:∀ b,eK (ρ'++[(D,D)]) b→eK ρ' b∨D=b:=fun b m=>m.elim fun q w=>(List.mem_append.mp w.1).imp (fun z=>⟨q,z,w.2⟩) fun z=>by rw[← w.2,List.mem_singleton.mp z]
   exact Z.2.1.ns.elim fun m w=>fin ρ' hp' h5 tk' acc m hL' ⟨s5.pre.trans (List.prefix_append _ _),s5.ext,fun b mm=>(mem b mm).elim (s5.fresh b) fun z=>.inr (z▸nD),s5.live⟩ J w.1 (fun mm=>(mem _ mm).elim (fun m=>m.elim fun q z=>Z.2.1.apL q z.1 z.2) DL)
    (VR.ref (p:=(D,D)) (by rw[← H'.len];exact List.getElem?_concat_length))
theorem oH {ks:List String} {A:Around} {env:Env} {ρ:ab} {loc:aX} {hp:Hp} {s:Shared} {E:Value→Shared→Prop} {elt target iter:Expr} {ifs:List Expr} {scope:Scope} {pos:Pos} {T:WT} {t:WB} {e:WE} {v:Value} {a:AV} {items:List AV} {P:List AV→Hp→Prop} {RR:Value→Addr→Result→Shared→Prop}
  (ht:qV C (gq scope sc) target T) (htl:hH (gq scope sc) target) (hts:TS C d (gq scope sc) ifs t) (he:SE C d (gq scope sc) elt e) (hk:scope.kind=.function) (ok:iS scope sc=true)
  (hsc:env.scope=sc) (rm:c8 d A) (H:HR C ρ hp s.heap) (F:FR C env ρ loc s.heap) (V:VR s.heap ρ v a) (hit:aL a hp=some items)
  (hw:eV T t e (fun hp2=>aL a hp2=some items∧ag a hp2=ag a hp) items (hO scope sc loc++pad ks) hp [] P)
  (fin:∀ D L ρ' hp' h' tk l m,P l hp'→bD ρ s.heap (ρ'++[(D,D)]) h'→HR C (ρ'++[(D,D)]) (hp'++[.list l]) h'→h'.Ns L m→s.heap.get? L=none→¬ eK (ρ'++[(D,D)]) L→VR h' (ρ'++[(D,D)]) (.ref D) (.ref hp'.length)→RR (.ref D) L (.ok .next) { s with heap:=h',toks:=tk }) :
  wpAny C.M A (pyIter v) (fun it s2=>wpAny C.M A (newList []) (fun acc s3=>wpAny C.M A (newFunctionEnv scope env.globals (qf env scope.names) [] env.qual none .none (some env)) (fun cenv s4=>
   codeAny C.M A (.compStart (.ListComp elt [⟨target,iter,ifs,0⟩] scope pos) 0 it acc { cenv with scope:=relabel scope env }) (RR acc cenv.locals) s4) E s3) E s2) E s:=by
 have okc:∀ x∈scope.names,x.2≠.cell:=fun x hx=>by
  have:=List.all_eq_true.mp ok x hx
  simp only[Bool.and_eq_true,Bool.or_eq_true,bne_iff_ne,beq_iff_eq] at this
  exact this.1.1
 refine xI H V hit fun h2 k2 It2=>?_
 have hIs:s.heap.objs.size<h2.objs.size:=It2.there.elim fun ob q=>Heap.lt_size q.1
 refine wpAny_newObj_type (T:="list") (data:=.seq ([]:List Value).toArray) (wpAny_newFunctionEnv okc (fun y hy=>absurd hy List.not_mem_nil) (fun h4 hns hsb=>?_) hk)
 dsimp only at hns hsb ⊢
 have szD:(h2.push { cls:=.type "list",data:=.seq ([]:List Value).toArray }).objs.size=h2.objs.size+1:=Heap.size_push ..
 rw[szD] at hns hsb ⊢
 have k4:∀ b o,b≠h2.objs.size+1→(h2.push { cls:=.type "list",data:=.seq ([]:List Value).toArray }).get? b=some o→h4.get? b=some o:=fun b o hb q=>hsb.extBut b o hb (Heap.get?_push_of_some _ q)
 have kk:∀ b o,s.heap.get? b=some o→h4.get? b=some o:=fun b o q=>k4 b o (Nat.ne_of_lt (Nat.lt_succ_of_lt (Heap.lt_size (k2 b o q)))) (Heap.get?_push_of_some _ (k2 b o q))
 have nL:s.heap.get? (h2.objs.size+1)=none:=iP (Nat.le_succ_of_le (Nat.le_of_lt hIs))
 have It4:gm h4 s.heap.objs.size v 0 a (ag a hp):=It2.keep fun o q=>k4 _ o (Nat.ne_of_lt (Nat.lt_succ_of_lt hIs)) (Heap.get?_push_of_some _ q)
 have loop:∀ tk,codeAny C.M A (.compLoop (.ListComp elt [⟨target,iter,ifs,0⟩] scope pos) 0 (.ref s.heap.objs.size) (.ref h2.objs.size) (compEnvC scope (qf env scope.names) (h2.objs.size+1) env)) (RR (.ref h2.objs.size) (h2.objs.size+1)) { s with heap:=h4,toks:=tk }:=fun tk=>
  vB (s:=s) (env:=compEnvC scope (qf env scope.names) (h2.objs.size+1) env) ht htl hts he (lx hsc) rm (Nat.ne_of_gt hIs) (Nat.ne_of_lt (Nat.lt_succ_of_lt hIs)) (Nat.ne_of_lt (Nat.lt_succ_self _)) (wl _) (iP (Nat.le_of_lt hIs)) nL (fun b=>H.none_of) (Nat.lt_trans H.lt hIs)
   (fun ρ' hp' h' tk l m a1 a2 a3 a4 a5 a6=>fin _ _ ρ' hp' h' tk l m a1 a2 a3 a4 nL a5 a6) (items.length-0) _
   (.mk 0 ρ _ hp h4 tk [] [] 0 (Nat.zero_le _) (bD.grow ρ kk) (H.grow kk) ((F.block (h':=h4) (scope:=scope) (L:=h2.objs.size+1) H hsc hk ok kk (by simpa using hns) nL).pad ks) (H.vr (bD.grow ρ kk) V) It4 ⟨hit,rfl⟩ (k4 _ _ (Nat.ne_of_lt (Nat.lt_succ_self _)) (Heap.get?_push_size _ rfl)) (H.noNew (iP (Nat.le_of_lt hIs))) .nil hw)
 exact codeAny_compStart_list (loop _) (zc It4 (loop _))
theorem xX {ρ:ab} {hp:Hp} {h h':Heap} {L:Addr} {m:Str→Option Value} (H:HR C ρ hp h) (hm:h.Ns L m) (hn:¬ eK ρ L) (ho:C.h₀.get? L=none) (sb:Heap.SameBut L h h'):HR C ρ hp h'∧(∀ v a,VR h ρ v a→VR h' ρ v a)∧(∀ env loc,L≠env.locals→FR C env ρ loc h→FR C env ρ loc h'):=by
 refine vf hm fun oL es ep hL r=>?_
 have e:∀ b o,b≠L→h.get? b=some o→h'.get? b=some o:=fun b o hb q=>(sb.2 b hb).trans q
 have imm:¬ nO oL:=fun y=>lK.imm (.inl ⟨_,_,r.1⟩) y
 exact⟨H.off hL hn imm (fun z=>by cases r.1.symm.trans z) ho e,fun v a V=>pI hL imm e V,fun env loc hne F=>F.off hL imm hne (fun v z=>jw r.1 z) e⟩
theorem ig {scope:Scope} (ok:iS scope sc=true):∀ x∈scope.names,x.2=.local→scope.names.lookup x.1=some .local:=fun x hx e=>by
 have:=List.all_eq_true.mp ok x hx
 simp only[Bool.and_eq_true,Bool.or_eq_true,bne_iff_ne,beq_iff_eq] at this
 exact this.2.resolve_left fun q=>q e
theorem j7 {scope:Scope} {env:Env} {ρ:ab} {loc:aX} {h:Heap} (ok:iS scope sc=true) (hsc:env.scope=sc) (F:FR C env ρ loc h):closureFor scope env=pure (qf env scope.names):=
 nW fun x hx e=>by
  have:=List.all_eq_true.mp ok x hx
  simp only[Bool.and_eq_true,Bool.or_eq_true,bne_iff_ne,beq_iff_eq] at this
  exact(F.cell x.1 (by rw[Env.kindOf,hsc];exact this.1.2.resolve_left fun q=>q e)).elim fun c z=>z.elim fun ov w=>w.1▸rfl
theorem fY (ks:List String) {elt target iter:Expr} {ifs:List Expr} {scope:Scope} {pos:Pos} {I:WE} {T:WT} {t:WB} {e:WE} (hi:SE C d sc iter I) (ht:qV C (gq scope sc) target T) (hts:TS C d (gq scope sc) ifs t) (he:SE C d (gq scope sc) elt e)
  (htl:autoParam (hH (gq scope sc) target) auN) (hk:autoParam (scope.kind=.function) au) (ok:autoParam (iS scope sc=true) au) (hf:autoParam (∀ env x,foldedSetIterable iter env x=pure x) au):SE C d sc (.ListComp elt [⟨target,iter,ifs,0⟩] scope pos) (fX ks scope sc T I t e):=by
 intro A env ρ loc hp s Q E P hsc rm H F hw post
 rw[eval_ListComp]
 refine wpAny_comprehension_free (use:=none) rfl (hf env) (j7 ok hsc F) hk (ig ok) ?_
 refine hi A env ρ loc hp s _ E _ hsc rm H F hw fun v a ρ1 hp1 h1 tk1 hw1 st1 H1 V1=>?_
 refine hw1.elim fun items hw1=>oH (s:={ s with heap:=h1,toks:=tk1 }) (RR:=fun acc L r s'=>compPost C.M A E none Q acc L r s') ht htl hts he hk ok hsc rm H1 (F.step H st1) V1 hw1.1 hw1.2 fun D L ρ' hp' h' tk l m hP st' H' hm nL mL V'=>?_
 refine⟨m,hm,fun h'' sb=>?_⟩
 have Z:=xX H' hm mL (H1.none_of nL) sb
 exact post _ _ _ _ h'' tk hP ((st1.trans st').but (cJ st1.live nL) fun b o n q=>(sb.2 b n).trans q) Z.1 (Z.2.1 _ _ V')
theorem jC (ks:List String) {elt target iter:Expr} {ifs:List Expr} {scope:Scope} {pos p spos:Pos} {x:String} {I:WE} {T:WT} {t:WB} {e:WE} (hi:SE C d sc iter I) (ht:qV C (gq scope sc) target T) (hts:TS C d (gq scope sc) ifs t) (he:SE C d (gq scope sc) elt e)
  (htl:autoParam (hH (gq scope sc) target) auN) (hk:autoParam (scope.kind=.function) au) (ok:autoParam (iS scope sc=true) au) (hf:autoParam (∀ env x,foldedSetIterable iter env x=pure x) au) (hx:autoParam (oA sc x=true) au)
  (hsw:autoParam (∀ env,env.scope=sc→swapsWith (.ListComp elt [⟨target,iter,ifs,0⟩] scope pos) (some (.Name (Str.ofString x) p)) spos.line env=pure true) auW) :
  SX C d sc (.Assign [.Name (Str.ofString x) p] (.ListComp elt [⟨target,iter,ifs,0⟩] scope pos) spos) (wQ x (fX ks scope sc T I t e)):=by
 intro A env ρ loc hp s Q E P hsc rm H F hw post
 rw[exec_Assign_Name_used _ _ _ _ (hsw env hsc)]
 refine wpAny_bind (wpAny_standAt (wpAny_bind ?_))
 show wpAny _ A (do let _ ← comprehension (.ListComp elt [⟨target,iter,ifs,0⟩] scope pos) scope env _ (newList []) false (eval iter env) (some (assign (.Name (Str.ofString x) p) env))) _ _ s
 refine wpAny_bind (wpAny_mono (wpAny_comprehension_free (use:=some (assign (.Name (Str.ofString x) p) env)) (Q:=fun _ s'=>Q .next s') rfl (hf env) (j7 ok hsc F) hk (ig ok) ?_) (fun _ s' hq=>wpAny_pure (wpAny_pure hq)) fun _ _ e=>e)
 refine hi A env ρ loc hp s _ E _ hsc rm H F hw fun v a ρ1 hp1 h1 tk1 hw1 st1 H1 V1=>?_
 refine hw1.elim fun items hw1=>oH (s:={ s with heap:=h1,toks:=tk1 }) (RR:=fun acc L r s'=>compPost C.M A E (some (assign (.Name (Str.ofString x) p) env)) (fun _ s'=>Q .next s') acc L r s') ht htl hts he hk ok hsc rm H1 (F.step H st1) V1 hw1.1 hw1.2 fun D L ρ' hp' h' tk l m hP st' H' hm nL mL V'=>?_
 have nL0:s.heap.get? L=none:=cJ st1.live nL
 have stt:=st1.trans st'
 have Lne:L≠env.locals:=fun z=>F.ns.elim fun m y=>vf y.1 fun o _ _ q _=>aF q (z▸nL0)
 have cne:∀ y,env.kindOf y=some .cell→∀ c,env.cells.lookup y=some c→c≠L:=fun y hy c hc z=>(F.cell y hy).elim fun c' w=>w.elim fun ov w=>w.2.elim fun o q=>aF q.1 (by rw[Option.some.inj (w.1.symm.trans hc),z];exact nL0)
 show wpAny _ A (assign (.Name (Str.ofString x) p) env (.ref D)) _ _ _
 refine wpAny_assign_Name (j3 (s:={ s with heap:=h',toks:=tk }) H' (F.step H stt) V' (hG hsc hx) fun h2 tk2 H2 F2 st2 tv2 _=>?_)
 have hm2:h2.Ns L m:=l9 (fun o q=>st2.ext L o q fun z=>z.elim mL fun z=>z.elim Lne fun ⟨y,w⟩=>cne y w.1 _ w.2 rfl) hm
 refine⟨m,hm2,fun h3 sb=>?_⟩
 have Z:=xX H2 hm2 mL (H1.none_of nL) sb
 have st3:=(b9.of stt).trans st2
 have ne:∀ b o,s.heap.get? b=some o→b≠L:=fun b o q z=>aF q (z▸nL0)
 exact post .next .next _ _ _ h3 tk2 hP ⟨st3.pre,fun b o q n=>(sb.2 b (ne b o q)).trans (st3.ext b o q n),st3.fresh,fun b o q=>(st3.live b o q).imp fun o' w=>(sb.2 b (ne b o q)).trans w⟩ Z.1 (Z.2.2 _ _ Lne F2) .next
end
noncomputable def HK (C:Cx):Prop:=C.K=KK C.w.params
section
variable {C:Cx} {d:Nat} {sc:Scope}
theorem j8 (h:HK C) {x:String} {i:Int} (e:∃ t,nsIn (KK C.w.params) mainGlobals (Str.ofString x)=some (some (.int i t))) (hx:sc.names.lookup (Str.ofString x)=some .globalImplicit) (hd:(Str.ofString x == ("__debug__" : Str))=false) {pos:Pos} :
  SE C d sc (.Name (Str.ofString x) pos) (wK (.int i)):=by
 obtain⟨t,e⟩:=e
 exact CY hx (by rw[h];exact e) hd
theorem zd (h:HK C) (hx:autoParam (sc.names.lookup (Str.ofString "KIND")=some .globalImplicit) au) {pos:Pos}:SE C d sc (.Name (Str.ofString "KIND") pos) (wK (.int 0)):=j8 h ⟨_,rfl⟩ hx (by decide)
theorem xY (h:HK C) (hx:autoParam (sc.names.lookup (Str.ofString "LABEL")=some .globalImplicit) au) {pos:Pos}:SE C d sc (.Name (Str.ofString "LABEL") pos) (wK (.int 1)):=j8 h ⟨_,rfl⟩ hx (by decide)
theorem xZ (h:HK C) (hx:autoParam (sc.names.lookup (Str.ofString "VALUE")=some .globalImplicit) au) {pos:Pos}:SE C d sc (.Name (Str.ofString "VALUE") pos) (wK (.int 2)):=j8 h ⟨_,rfl⟩ hx (by decide)
theorem cT (h:HK C) (hx:autoParam (sc.names.lookup (Str.ofString "ATTRIBUTES")=some .globalImplicit) au) {pos:Pos}:SE C d sc (.Name (Str.ofString "ATTRIBUTES") pos) (wK (.int 3)):=j8 h ⟨_,rfl⟩ hx (by decide)
theorem dN (h:HK C) (hx:autoParam (sc.names.lookup (Str.ofString "CHILDREN")=some .globalImplicit) au) {pos:Pos}:SE C d sc (.Name (Str.ofString "CHILDREN") pos) (wK (.int 4)):=j8 h ⟨_,rfl⟩ hx (by decide)
theorem d7 (h:HK C) {x:String} {f:Value} (e:nsIn (KK C.w.params) mainGlobals (Str.ofString x)=some none) (b:bootBuiltins (Str.ofString x)=some f) (n:(Str.ofString x == ("__name__" : Str))=false):fS C x f:=
 .inr ⟨by rw[h];exact e,b,beq_eq_false_iff_ne.mp n⟩
theorem I3 (h:HK C) {x:String} {f:Value} (e:nsIn (KK C.w.params) mainGlobals (Str.ofString x)=some (some f)):fS C x f:=.inl (by rw[h];exact e)
theorem I4 (h:HK C):fS C "len" (.builtin "len"):=d7 h rfl (by kernel_rfl) (by decide)
theorem ze (h:HK C):fS C "range" (.type "range"):=d7 h rfl (by kernel_rfl) (by decide)
theorem I5 (h:HK C):fS C "int" (.type "int"):=d7 h rfl (by kernel_rfl) (by decide)
theorem I6 (h:HK C):fS C "str" (.type "str"):=d7 h rfl (by kernel_rfl) (by decide)
theorem I7 (h:HK C):fS C "min" (.builtin "min"):=d7 h rfl (by kernel_rfl) (by decide)
theorem zf (h:HK C):fS C "tuple" (.type "tuple"):=d7 h rfl (by kernel_rfl) (by decide)
theorem Cf (h:HK C):fS C "list" (.type "list"):=d7 h rfl (by kernel_rfl) (by decide)
theorem Cg (h:HK C):fS C "dict" (.type "dict"):=d7 h rfl (by kernel_rfl) (by decide)
theorem xa (h:HK C):fS C "sorted" (.builtin "sorted"):=d7 h rfl (by kernel_rfl) (by decide)
theorem ii {x:String} {p pos:Pos} {f:Value} {es:List Expr} {F:WF} {W:WL} {e:Nat} (hn:fS C x f) (hc:li C f) (hF:br C e f F) (le:e≤d) (hx:sc.names.lookup (Str.ofString x)=some .globalImplicit) (hd:(Str.ofString x == ("__debug__" : Str))=false)
  (hs:bb es=true) (hl:SL C d sc es W):SE C d sc (.Call (.Name (Str.ofString x) p) es [] pos) (wF F W):=zZ hn hx hd hc hs hl hF le
theorem bJ (h:HK C) {p pos:Pos} {es:List Expr} {W:WL} (hl:SL C d sc es W) (hx:autoParam (sc.names.lookup (Str.ofString "len")=some .globalImplicit) au) (hs:autoParam (bb es=true) au):SE C d sc (.Call (.Name (Str.ofString "len") p) es [] pos) (wF cr W):=ii (I4 h) (.inl ⟨_,rfl⟩) xL (Nat.zero_le _) hx (by decide) hs hl
theorem bL (h:HK C) {p pos:Pos} {es:List Expr} {W:WL} (hl:SL C d sc es W) (hx:autoParam (sc.names.lookup (Str.ofString "range")=some .globalImplicit) au) (hs:autoParam (bb es=true) au):SE C d sc (.Call (.Name (Str.ofString "range") p) es [] pos) (wF bh W):=ii (ze h) (.inr (.inl ⟨_,rfl⟩)) sK (Nat.zero_le _) hx (by decide) hs hl
theorem pJ (h:HK C) {p pos:Pos} {es:List Expr} {W:WL} (hl:SL C d sc es W) (hx:autoParam (sc.names.lookup (Str.ofString "int")=some .globalImplicit) au) (hs:autoParam (bb es=true) au):SE C d sc (.Call (.Name (Str.ofString "int") p) es [] pos) (wF sL W):=ii (I5 h) (.inr (.inl ⟨_,rfl⟩)) xM (Nat.zero_le _) hx (by decide) hs hl
theorem gR (h:HK C) {p pos:Pos} {es:List Expr} {W:WL} (hl:SL C d sc es W) (hx:autoParam (sc.names.lookup (Str.ofString "str")=some .globalImplicit) au) (hs:autoParam (bb es=true) au):SE C d sc (.Call (.Name (Str.ofString "str") p) es [] pos) (wF nU W):=ii (I6 h) (.inr (.inl ⟨_,rfl⟩)) xN (Nat.zero_le _) hx (by decide) hs hl
theorem xb (h:HK C) {p pos:Pos} {es:List Expr} {W:WL} (hl:SL C d sc es W) (hx:autoParam (sc.names.lookup (Str.ofString "min")=some .globalImplicit) au) (hs:autoParam (bb es=true) au):SE C d sc (.Call (.Name (Str.ofString "min") p) es [] pos) (wF xO W):=ii (I7 h) (.inl ⟨_,rfl⟩) xP (Nat.zero_le _) hx (by decide) hs hl
theorem dP (h:HK C) {p pos:Pos} {es:List Expr} {W:WL} (hl:SL C d sc es W) (hx:autoParam (sc.names.lookup (Str.ofString "tuple")=some .globalImplicit) au) (hs:autoParam (bb es=true) au):SE C d sc (.Call (.Name (Str.ofString "tuple") p) es [] pos) (wF eL W):=ii (zf h) (.inr (.inl ⟨_,rfl⟩)) sM (Nat.zero_le _) hx (by decide) hs hl
theorem j9 (h:HK C) {p pos:Pos} {es:List Expr} {W:WL} (hl:SL C d sc es W) (hx:autoParam (sc.names.lookup (Str.ofString "list")=some .globalImplicit) au) (hs:autoParam (bb es=true) au):SE C d sc (.Call (.Name (Str.ofString "list") p) es [] pos) (wF lD W):=ii (Cf h) (.inr (.inl ⟨_,rfl⟩)) uy (Nat.zero_le _) hx (by decide) hs hl
theorem ja (h:HK C) {p pos:Pos} {es:List Expr} {W:WL} (hl:SL C d sc es W) (hx:autoParam (sc.names.lookup (Str.ofString "dict")=some .globalImplicit) au) (hs:autoParam (bb es=true) au):SE C d sc (.Call (.Name (Str.ofString "dict") p) es [] pos) (wF lw W):=ii (Cg h) (.inr (.inl ⟨_,rfl⟩)) ux (Nat.zero_le _) hx (by decide) hs hl
theorem oJ (h:HK C) {p pos:Pos} {es:List Expr} {W:WL} (hl:SL C d sc es W) (hx:autoParam (sc.names.lookup (Str.ofString "sorted")=some .globalImplicit) au) (hs:autoParam (bb es=true) au):SE C d sc (.Call (.Name (Str.ofString "sorted") p) es [] pos) (wF lT W):=ii (xa h) (.inl ⟨_,rfl⟩) qa (Nat.zero_le _) hx (by decide) hs hl
theorem vC {o:Expr} {apos pos:Pos} {es:List Expr} {O:WE} {W:WL} (ho:SE C d sc o O) (hl:SL C d sc es W) (hs:autoParam (bb es=true) au) (hb:autoParam (∀ env,attributeBase o (Str.ofString "append") env (eval o env)=eval o env) au) (hn:autoParam (decide (es.length<30)=true) au) (hp:autoParam ((apos.endLine == pos.line)=true) au) :
  SE C d sc (.Call (.Attribute o (Str.ofString "append") apos) es [] pos) (fD "list" aV O W):=j5 ho (.inl rfl) PySem.F.plainAttrs_list PySem.F.slot_list_append PySem.F.type_list_append hs hl qZ (Nat.zero_le _) hb hn hp
theorem xc {o:Expr} {apos pos:Pos} {es:List Expr} {O:WE} {W:WL} (ho:SE C d sc o O) (hl:SL C d sc es W) (hs:autoParam (bb es=true) au) (hb:autoParam (∀ env,attributeBase o (Str.ofString "pop") env (eval o env)=eval o env) au) (hn:autoParam (decide (es.length<30)=true) au) (hp:autoParam ((apos.endLine == pos.line)=true) au) :
  SE C d sc (.Call (.Attribute o (Str.ofString "pop") apos) es [] pos) (fD "list" xQ O W):=j5 ho (.inl rfl) PySem.F.plainAttrs_list PySem.F.slot_list_pop PySem.F.type_list_pop hs hl xS (Nat.zero_le _) hb hn hp
theorem gS {o:Expr} {apos pos:Pos} {es:List Expr} {O:WE} {W:WL} (ho:SE C d sc o O) (hl:SL C d sc es W) (hs:autoParam (bb es=true) au) (hb:autoParam (∀ env,attributeBase o (Str.ofString "get") env (eval o env)=eval o env) au) (hn:autoParam (decide (es.length<30)=true) au) (hp:autoParam ((apos.endLine == pos.line)=true) au) :
  SE C d sc (.Call (.Attribute o (Str.ofString "get") apos) es [] pos) (fD "dict" jB O W):=j5 ho (.inr rfl) PySem.F.plainAttrs_dict PySem.F.slot_dict_get PySem.F.type_dict_get hs hl xT (Nat.zero_le _) hb hn hp
theorem nX {o:Expr} {apos pos:Pos} {es:List Expr} {O:WE} {W:WL} (ho:SE C d sc o O) (hl:SL C d sc es W) (hs:autoParam (bb es=true) au) (hb:autoParam (∀ env,attributeBase o (Str.ofString "setdefault") env (eval o env)=eval o env) au) (hn:autoParam (decide (es.length<30)=true) au) (hp:autoParam ((apos.endLine == pos.line)=true) au) :
  SE C d sc (.Call (.Attribute o (Str.ofString "setdefault") apos) es [] pos) (fD "dict" fW O W):=j5 ho (.inr rfl) PySem.F.plainAttrs_dict PySem.F.slot_dict_setdefault PySem.F.type_dict_setdefault hs hl lN (Nat.zero_le _) hb hn hp
theorem dh (h:HK C) {cs:List Addr} {x:String} (e:(cs.all fun c=>plainGet (KK C.w.params) c (Str.ofString x) && hasDictIn (KK C.w.params) c)=true) (f:∀ c∈cs,findIn (KK C.w.params) (.ref c) (Str.ofString x)=some none):∀ c∈cs,bc C c x:=fun c hc=>by
 have e:=List.all_eq_true.mp e c hc
 simp only[Bool.and_eq_true] at e
 unfold bc
 rw[h]
 exact⟨e.1,e.2,none,f c hc,rfl⟩
theorem bO (h:HK C):∀ c∈[80],bc C c "forms":=dh h rfl (fun c hc=>by rw[List.mem_singleton.mp hc];rfl)
theorem b7 (h:HK C):∀ c∈[80],bc C c "children":=dh h rfl (fun c hc=>by rw[List.mem_singleton.mp hc];rfl)
theorem dQ (h:HK C):∀ c∈[80],bc C c "sizes":=dh h rfl (fun c hc=>by rw[List.mem_singleton.mp hc];rfl)
theorem fZ (h:HK C):∀ c∈[80],bc C c "parents":=dh h rfl (fun c hc=>by rw[List.mem_singleton.mp hc];rfl)
theorem jD (h:HK C):∀ c∈[80],bc C c "places":=dh h rfl (fun c hc=>by rw[List.mem_singleton.mp hc];rfl)
theorem f7 (h:HK C):∀ c∈[148,277],bc C c "one":=dh h rfl (fun c hc=>by rcases List.mem_cons.mp hc with rfl | hc;rfl;rw[List.mem_singleton.mp hc];rfl)
theorem cU (h:HK C):∀ c∈[148,277],bc C c "other":=dh h rfl (fun c hc=>by rcases List.mem_cons.mp hc with rfl | hc;rfl;rw[List.mem_singleton.mp hc];rfl)
theorem iT (h:HK C):∀ c∈[148],bc C c "costs":=dh h rfl (fun c hc=>by rw[List.mem_singleton.mp hc];rfl)
theorem cK (h:HK C):∀ c∈[197],bc C c "matching":=dh h rfl (fun c hc=>by rw[List.mem_singleton.mp hc];rfl)
theorem gT (h:HK C):∀ c∈[197],bc C c "partners":=dh h rfl (fun c hc=>by rw[List.mem_singleton.mp hc];rfl)
theorem jb (h:HK C):∀ c∈[197],bc C c "inserted":=dh h rfl (fun c hc=>by rw[List.mem_singleton.mp hc];rfl)
theorem hR (h:HK C):∀ c∈[277],bc C c "base":=dh h rfl (fun c hc=>by rw[List.mem_singleton.mp hc];rfl)
theorem mA (h:HK C):∀ c∈[277],bc C c "rows":=dh h rfl (fun c hc=>by rw[List.mem_singleton.mp hc];rfl)
theorem cE (h:HK C) {cs:List Addr} {x:String} (f:∀ c∈cs,findIn (KK C.w.params) (.ref c) "__setattr__" = some (some (.builtin "object.__setattr__"))∧plainOver (KK C.w.params) c=true∧takerIn (KK C.w.params) c (Str.ofString x)=some none∧hasDictIn (KK C.w.params) c=true):∀ c∈cs,aw C c x:=fun c hc=>by
 unfold aw
 rw[h]
 exact f c hc
theorem qj (h:HK C):∀ c∈[80],aw C c "forms":=cE h (fun c hc=>by rw[List.mem_singleton.mp hc];exact⟨rfl,rfl,rfl,rfl⟩)
theorem mB (h:HK C):∀ c∈[80],aw C c "children":=cE h (fun c hc=>by rw[List.mem_singleton.mp hc];exact⟨rfl,rfl,rfl,rfl⟩)
theorem qk (h:HK C):∀ c∈[80],aw C c "sizes":=cE h (fun c hc=>by rw[List.mem_singleton.mp hc];exact⟨rfl,rfl,rfl,rfl⟩)
theorem nY (h:HK C):∀ c∈[80],aw C c "parents":=cE h (fun c hc=>by rw[List.mem_singleton.mp hc];exact⟨rfl,rfl,rfl,rfl⟩)
theorem pK (h:HK C):∀ c∈[80],aw C c "places":=cE h (fun c hc=>by rw[List.mem_singleton.mp hc];exact⟨rfl,rfl,rfl,rfl⟩)
theorem oK (h:HK C):∀ c∈[148,277],aw C c "one":=cE h (fun c hc=>by rcases List.mem_cons.mp hc with rfl | hc;exact⟨rfl,rfl,rfl,rfl⟩;rw[List.mem_singleton.mp hc];exact⟨rfl,rfl,rfl,rfl⟩)
theorem lE (h:HK C):∀ c∈[148,277],aw C c "other":=cE h (fun c hc=>by rcases List.mem_cons.mp hc with rfl | hc;exact⟨rfl,rfl,rfl,rfl⟩;rw[List.mem_singleton.mp hc];exact⟨rfl,rfl,rfl,rfl⟩)
theorem qm (h:HK C):∀ c∈[148],aw C c "costs":=cE h (fun c hc=>by rw[List.mem_singleton.mp hc];exact⟨rfl,rfl,rfl,rfl⟩)
theorem mD (h:HK C):∀ c∈[197],aw C c "matching":=cE h (fun c hc=>by rw[List.mem_singleton.mp hc];exact⟨rfl,rfl,rfl,rfl⟩)
theorem mE (h:HK C):∀ c∈[197],aw C c "partners":=cE h (fun c hc=>by rw[List.mem_singleton.mp hc];exact⟨rfl,rfl,rfl,rfl⟩)
theorem mG (h:HK C):∀ c∈[197],aw C c "inserted":=cE h (fun c hc=>by rw[List.mem_singleton.mp hc];exact⟨rfl,rfl,rfl,rfl⟩)
theorem sQ (h:HK C):∀ c∈[277],aw C c "base":=cE h (fun c hc=>by rw[List.mem_singleton.mp hc];exact⟨rfl,rfl,rfl,rfl⟩)
theorem sR (h:HK C):∀ c∈[277],aw C c "rows":=cE h (fun c hc=>by rw[List.mem_singleton.mp hc];exact⟨rfl,rfl,rfl,rfl⟩)
theorem bw (h:HK C) {c f:Addr} {x:String} (e:plainGet (KK C.w.params) c (Str.ofString x)=true∧findIn (KK C.w.params) (.ref c) (Str.ofString x)=some (some (.ref f))∧isFn (KK C.w.params) (.ref f)=true∧keepIn (KK C.w.params) (.ref f)=true):cC C c x f:=by
 unfold cC;rw[h];exact e
theorem xd (h:HK C):cC C 80 "gather" 56:=bw h ⟨rfl,rfl,rfl,rfl⟩
theorem vD (h:HK C):cC C 80 "measure" 63:=bw h ⟨rfl,rfl,rfl,rfl⟩
theorem qo (h:HK C):cC C 80 "top" 70:=bw h ⟨rfl,rfl,rfl,rfl⟩
theorem xe (h:HK C):cC C 80 "path" 77:=bw h ⟨rfl,rfl,rfl,rfl⟩
theorem uF (h:HK C):cC C 148 "table" 124:=bw h ⟨rfl,rfl,rfl,rfl⟩
theorem zg (h:HK C):cC C 148 "steps" 131:=bw h ⟨rfl,rfl,rfl,rfl⟩
theorem xf (h:HK C):cC C 148 "cost" 138:=bw h ⟨rfl,rfl,rfl,rfl⟩
theorem xg (h:HK C):cC C 197 "follow" 173:=bw h ⟨rfl,rfl,rfl,rfl⟩
theorem pL (h:HK C):cC C 197 "form" 180:=bw h ⟨rfl,rfl,rfl,rfl⟩
theorem pM (h:HK C):cC C 197 "is_changed" 187:=bw h ⟨rfl,rfl,rfl,rfl⟩
theorem qp (h:HK C):cC C 197 "put_in" 194:=bw h ⟨rfl,rfl,rfl,rfl⟩
theorem I8 (h:HK C):cC C 277 "run" 246:=bw h ⟨rfl,rfl,rfl,rfl⟩
theorem vE (h:HK C):cC C 277 "outcome" 253:=bw h ⟨rfl,rfl,rfl,rfl⟩
theorem hU (h:HK C):cC C 277 "kept_or_gone" 260:=bw h ⟨rfl,rfl,rfl,rfl⟩
theorem qr (h:HK C):cC C 277 "both_kept" 267:=bw h ⟨rfl,rfl,rfl,rfl⟩
theorem sU (h:HK C):cC C 277 "children" 274:=bw h ⟨rfl,rfl,rfl,rfl⟩
theorem iU (h:HK C) {c f:Addr} (e:makesIn (KK C.w.params) c=true∧findIn (KK C.w.params) (.ref c) "__init__" = some (some (.ref f))∧typeIn (KK C.w.params) (.ref f)=some (.type "function")):lj C c f:=by
 unfold lj;rw[h];exact e
theorem qt (h:HK C):lj C 80 49:=iU h ⟨rfl,rfl,rfl⟩
theorem qu (h:HK C):lj C 148 117:=iU h ⟨rfl,rfl,rfl⟩
theorem zh (h:HK C):lj C 197 166:=iU h ⟨rfl,rfl,rfl⟩
theorem xh (h:HK C):lj C 277 239:=iU h ⟨rfl,rfl,rfl⟩
theorem oM (h:HK C) {f:Value} (e:keepIn (KK C.w.params) f=true):li C f:=.inr (.inr (by rw[h];exact e))
theorem aK (x:String) {a:Addr} {F:WF} {e:Nat} {p pos:Pos} {es:List Expr} {W:WL} (h:HK C) (f:aI C e (.ref a) F)
 (hl:SL C d sc es W) (g:autoParam (nsIn (KK C.w.params) mainGlobals (Str.ofString x)=some (some (.ref a))) au) (k:autoParam (keepIn (KK C.w.params) (.ref a)=true) au) (le:autoParam (e≤d) au) (hx:autoParam (sc.names.lookup (Str.ofString x)=some .globalImplicit) au) (hd:autoParam ((Str.ofString x == ("__debug__" : Str))=false) au) (hs:autoParam (bb es=true) au):SE C d sc (.Call (.Name (Str.ofString x) p) es [] pos) (wF F W):=
 ii (I3 h g) (oM h k) f.call le hx hd hs hl
theorem aa {c f:Addr} (x:String) {F:WF} {e:Nat} {o:Expr} {apos pos:Pos} {es:List Expr} {O:WE} {W:WL} (hm:cC C c x f) (g:aI C e (.ref f) F) (ho:SE C d sc o O) (hl:SL C d sc es W)
 (le:autoParam (e≤d) au) (hs:autoParam (bb es=true) au) (hb:autoParam (∀ env,attributeBase o (Str.ofString x) env (eval o env)=eval o env) au) (hn:autoParam (decide (es.length<30)=true) au) (hp:autoParam ((apos.endLine == pos.line)=true) au):SE C d sc (.Call (.Attribute o (Str.ofString x) apos) es [] pos) (wM c x F O W):=
 z4 ho hm hs hl g.call le hb hn hp
theorem sV {n:Nat} {vals:List Value} (h:vals.length=n+1):∃ v r,vals=v::r∧r.length=n:=by
 cases vals with
 | nil=>exact Nat.noConfusion h
 | cons v r=>exact⟨v,r,rfl,Nat.succ.inj h⟩
theorem jc {name qual:Str} {params:Arguments} {body:List Stmt} {scope:Scope} {dV kV doc pm cdv ct:Value} {an:Option Addr} {a:String} (h:∀ v,bindArgs (fnOf name qual params body scope dV kV doc pm an cdv ct) ⟨[v],[]⟩=pure [(Str.ofString a,v)]) :
  ∀ vals:List Value,vals.length=[a].length→bindArgs (fnOf name qual params body scope dV kV doc pm an cdv ct) ⟨vals,[]⟩=pure (([a].map Str.ofString).zip vals):=fun vals hv=>by
 refine nn fun nG=>?_
 obtain⟨v,w0,rfl,h0⟩:=sV hv
 refine nG ?_;clear nG
 cases List.length_eq_zero_iff.mp h0
 exact h v
theorem eW {name qual:Str} {params:Arguments} {body:List Stmt} {scope:Scope} {dV kV doc pm cdv ct:Value} {an:Option Addr} {a b:String} (h:∀ v u,bindArgs (fnOf name qual params body scope dV kV doc pm an cdv ct) ⟨[v,u],[]⟩=pure [(Str.ofString a,v),(Str.ofString b,u)]) :
  ∀ vals:List Value,vals.length=[a,b].length→bindArgs (fnOf name qual params body scope dV kV doc pm an cdv ct) ⟨vals,[]⟩=pure (([a,b].map Str.ofString).zip vals):=fun vals hv=>by
 refine nn fun nG=>?_
 obtain⟨v,w0,rfl,h0⟩:=sV hv
 obtain⟨u,w1,rfl,h1⟩:=sV h0
 refine nG ?_;clear nG
 cases List.length_eq_zero_iff.mp h1
 exact h v u
theorem jd {name qual:Str} {params:Arguments} {body:List Stmt} {scope:Scope} {dV kV doc pm cdv ct:Value} {an:Option Addr} {a b c:String} (h:∀ v u t,bindArgs (fnOf name qual params body scope dV kV doc pm an cdv ct) ⟨[v,u,t],[]⟩=pure [(Str.ofString a,v),(Str.ofString b,u),(Str.ofString c,t)]) :
  ∀ vals:List Value,vals.length=[a,b,c].length→bindArgs (fnOf name qual params body scope dV kV doc pm an cdv ct) ⟨vals,[]⟩=pure (([a,b,c].map Str.ofString).zip vals):=fun vals hv=>by
 refine nn fun nG=>?_
 obtain⟨v,w0,rfl,h0⟩:=sV hv
 obtain⟨u,w1,rfl,h1⟩:=sV h0
 obtain⟨t,w2,rfl,h2⟩:=sV h1
 refine nG ?_;clear nG
 cases List.length_eq_zero_iff.mp h2
 exact h v u t
theorem oO {name qual:Str} {params:Arguments} {body:List Stmt} {scope:Scope} {dV kV doc pm cdv ct:Value} {an:Option Addr} {a b c e:String} (h:∀ v u t r,bindArgs (fnOf name qual params body scope dV kV doc pm an cdv ct) ⟨[v,u,t,r],[]⟩=pure [(Str.ofString a,v),(Str.ofString b,u),(Str.ofString c,t),(Str.ofString e,r)]) :
  ∀ vals:List Value,vals.length=[a,b,c,e].length→bindArgs (fnOf name qual params body scope dV kV doc pm an cdv ct) ⟨vals,[]⟩=pure (([a,b,c,e].map Str.ofString).zip vals):=fun vals hv=>by
 refine nn fun nG=>?_
 obtain⟨v,w0,rfl,h0⟩:=sV hv
 obtain⟨u,w1,rfl,h1⟩:=sV h0
 obtain⟨t,w2,rfl,h2⟩:=sV h1
 obtain⟨r,w3,rfl,h3⟩:=sV h2
 refine nG ?_;clear nG
 cases List.length_eq_zero_iff.mp h3
 exact h v u t r
theorem I9 {name qual:Str} {params:Arguments} {body:List Stmt} {scope:Scope} {dV kV doc pm cdv ct:Value} {an:Option Addr} {a b c e f:String} (h:∀ v u t r q,bindArgs (fnOf name qual params body scope dV kV doc pm an cdv ct) ⟨[v,u,t,r,q],[]⟩=pure [(Str.ofString a,v),(Str.ofString b,u),(Str.ofString c,t),(Str.ofString e,r),(Str.ofString f,q)]) :
  ∀ vals:List Value,vals.length=[a,b,c,e,f].length→bindArgs (fnOf name qual params body scope dV kV doc pm an cdv ct) ⟨vals,[]⟩=pure (([a,b,c,e,f].map Str.ofString).zip vals):=fun vals hv=>by
 refine nn fun nG=>?_
 obtain⟨v,w0,rfl,h0⟩:=sV hv
 obtain⟨u,w1,rfl,h1⟩:=sV h0
 obtain⟨t,w2,rfl,h2⟩:=sV h1
 obtain⟨r,w3,rfl,h3⟩:=sV h2
 obtain⟨q,w4,rfl,h4⟩:=sV h3
 refine nG ?_;clear nG
 cases List.length_eq_zero_iff.mp h4
 exact h v u t r q
theorem ad {body:List Stmt} {W:WS} (xs:List String) (h:SS C d sc body W):SS C d sc body (fun loc hp P=>W (loc++pad xs) hp P):=fun A env ρ loc hp s Q E P e r H F w p=>
 h A env ρ (loc++pad xs) hp s Q E P e r H (F.pad xs) w p
end
set_option maxHeartbeats 4000000
noncomputable abbrev lo (s:String):Str×NameKind:=(Str.ofString s,.local)
noncomputable abbrev ce (s:String):Str×NameKind:=(Str.ofString s,.cell)
noncomputable abbrev gi (s:String):Str×NameKind:=(Str.ofString s,.globalImplicit)
noncomputable abbrev fr (s:String):Str×NameKind:=(Str.ofString s,.free)
noncomputable abbrev fa (s:String):Str×Const:=(Str.ofString "fast",.str (Str.ofString s))
noncomputable abbrev nN (l:List (Str×NameKind)) (m:List (Str×Const)):Scope:={ kind:=.function,names:=l,isGenerator:=false,isCoroutine:=false,more:=m }
end Mine
open PySem PySem.W PyProof.Rows PySem.Calls Mine
local macro_rules | `(tactic| walk_at "d")=>do
 let f (s:String):=(s.splitOn " ").toArray.map fun x=>Lean.mkIdent x.toName
 let a:=f "zO zP CZ CW C6 CX zN"
 let b:=f "zQ aP zV vC"
 let c:=f "zd xY xZ"
 let e:=f "wn zR C8 C7 IU"
 `(tactic| with_reducible repeat first $[| exact $a]* $[| refine $b ?_ ?_]* $[| exact $c ‹_›]* $[| refine $e ?_]* | refine IV ?_ ?_ ?_)
namespace Mine
noncomputable def lG:WS:=
 wS (wR (wU (wC (wK (AV.str (Str.ofString "text"))) (wC (wK (AV.str (Str.ofString ""))) (wC (wV "text") (wC (wU wN) (wC (wU wN) wN))))))) wZ
theorem qv {C:Cx} (h:HK C):aI C 1 (.ref 28) (e8 ["text"] fun loc hp P=>lG (loc++pad []) hp P):=by
 refine bA (by rw[h];rfl) (by rw[h];rfl) (ps:=["text"]) (jc fun _=>rfl) (by decide) (by rfl) (ad [] ?_) rfl rfl rfl
 unfold lG
 refine aP ?_ ?_
 walk_at "d"
noncomputable def mH (dR:WF):WS:=
 wS (wQ "found" (wL wN)) (wS (fQ (hM "child") (wV "children") (wS (e9 (wB (wX ca (wI (wV "child") (wK (AV.int 0))) (wK (AV.str (Str.ofString "text"))))) (wS (iR (fD "list" aV (wV "found") (wC (wV "child") wN))) wZ) (wS (e9 (dC (wB (wX ca (wV "found") (wL wN))) (dC (wB (wX bv (wI (wI (wV "found") (ld (wK (AV.int 1)))) (wK (AV.int 0))) (wK (AV.str (Str.ofString "text"))))) cX)) (wS (dD (wV "found") (ld (wK (AV.int 1))) (wF dR (wC (wX ak (wI (wI (wV "found") (ld (wK (AV.int 1)))) (wK (AV.int 2))) (wI (wV "child") (wK (AV.int 2)))) wN))) wZ) (wS (e9 (wB (wX ca (wI (wV "child") (wK (AV.int 2))) (wK (AV.str (Str.ofString ""))))) (wS (iR (fD "list" aV (wV "found") (wC (wV "child") wN))) wZ) wZ) wZ)) wZ)) wZ)) (wS (wR (wV "found")) wZ))
theorem xi {C:Cx} (h:HK C) {dR:WF} (g_text_form:aI C 1 (.ref 28) dR):aI C 2 (.ref 35) (e8 ["children"] fun loc hp P=>mH dR (loc++pad ["found","child"]) hp P):=by
 refine bA (by rw[h];rfl) (by rw[h];rfl) (ps:=["children"]) (jc fun _=>rfl) (by decide) (by rfl) (ad ["found","child"] ?_) rfl rfl rfl
 unfold mH
 refine aP ?_ ?_
 walk_at "d"
 refine cD ?_ ?_ ?_
 exact ao
 walk_at "d"
 refine aG cP ?_ ?_
 walk_at "d"
 refine bR ?_ ?_
 refine aG cP ?_ ?_
 walk_at "d"
 refine bR ?_ ?_
 refine aG bz ?_ ?_
 walk_at "d"
 refine gN ?_
 walk_at "d"
 exact ba
 walk_at "d"
 refine cb ?_ ?_ ?_
 walk_at "d"
 refine gN ?_
 walk_at "d"
 refine aK "text_form" h g_text_form ?_
 walk_at "d"
 refine aH ac ?_ ?_
 walk_at "d"
 refine gN ?_
 walk_at "d"
 refine aG cP ?_ ?_
 walk_at "d"
noncomputable def kG (gA:WF) (ed:WF):WS:=
 wS (bS [80] "forms" (wV "self") (wL wN)) (wS (bS [80] "children" (wV "self") (wL wN)) (wS (bS [80] "sizes" (wV "self") (wL wN)) (wS (bS [80] "parents" (wV "self") (wL wN)) (wS (bS [80] "places" (wV "self") (wL wN)) (wS (iR (wM 80 "gather" gA (wV "self") (wC (wV "form") wN))) (wS (iR (wM 80 "measure" ed (wV "self") wN)) wZ))))))
theorem vF {C:Cx} (h:HK C) {gA:WF} (g_gather:aI C 1 (.ref 56) gA) {ed:WF} (g_measure:aI C 1 (.ref 63) ed):aI C 2 (.ref 49) (e8 ["self","form"] fun loc hp P=>kG gA ed (loc++pad []) hp P):=by
 refine bA (by rw[h];rfl) (by rw[h];rfl) (ps:=["self","form"]) (eW fun _ _=>rfl) (by decide) (by rfl) (ad [] ?_) rfl rfl rfl
 unfold kG
 refine aP ?_ ?_
 refine az ?_ ?_ (qj h) (by intro _;with_unfolding_all rfl)
 walk_at "d"
 refine az ?_ ?_ (mB h) (by intro _;with_unfolding_all rfl)
 walk_at "d"
 refine az ?_ ?_ (qk h) (by intro _;with_unfolding_all rfl)
 walk_at "d"
 refine az ?_ ?_ (nY h) (by intro _;with_unfolding_all rfl)
 walk_at "d"
 refine az ?_ ?_ (pK h) (by intro _;with_unfolding_all rfl)
 walk_at "d"
 refine aa "gather" (xd h) g_gather ?_ ?_
 walk_at "d"
 refine aa "measure" (vD h) g_measure ?_ ?_
 walk_at "d"
noncomputable def mI:WS:=
 wS (cv ["rows","left"] (wU (wC (wL wN) (wC (wL (wC (wU (wC (wV "form") (wC (wK AV.none) (wC (wK (AV.int 0)) wN)))) wN)) wN)))) (wS (kE (wB (wX ca (wV "left") (wL wN))) (wS (wQ "row" (fD "list" xQ (wV "left") wN)) (wS (wQ "number" (wF cr (wC (wV "rows") wN))) (wS (iR (fD "list" aV (wV "rows") (wC (wV "row") wN))) (wS (fQ (hM "place") (wF bh (wC (wF cr (wC (wI (wI (wV "row") (wK (AV.int 0))) (wK (AV.int 4))) wN)) wN)) (wS (iR (fD "list" aV (wV "left") (wC (wU (wC (wI (wI (wI (wV "row") (wK (AV.int 0))) (wK (AV.int 4))) (wV "place")) (wC (wV "number") (wC (wV "place") wN)))) wN))) wZ)) wZ))))) (wS (wQ "many" (wF cr (wC (wV "rows") wN))) (wS (fQ (px ["inner","parent","place"]) (wz (wV "rows")) (wS (iR (fD "list" aV (wA [80] "forms" (wV "self")) (wC (wV "inner") wN))) (wS (iR (fD "list" aV (wA [80] "parents" (wV "self")) (wC (jX (wB (wX jy (wV "parent") (wK AV.none))) (wK AV.none) (wX cI (wX cI (wV "many") (wK (AV.int 1))) (wV "parent"))) wN))) (wS (iR (fD "list" aV (wA [80] "places" (wV "self")) (wC (wV "place") wN))) wZ)))) wZ)))
theorem xj {C:Cx} (h:HK C):aI C 1 (.ref 56) (e8 ["self","form"] fun loc hp P=>mI (loc++pad ["rows","left","row","number","place","many","inner","parent"]) hp P):=by
 refine bA (by rw[h];rfl) (by rw[h];rfl) (ps:=["self","form"]) (eW fun _ _=>rfl) (by decide) (by rfl) (ad ["rows","left","row","number","place","many","inner","parent"] ?_) rfl rfl rfl
 unfold mI
 refine aP ?_ ?_
 refine bV (xs:=["rows","left"]) ?_
 walk_at "d"
 refine j4 ?_ ?_
 refine aG cP ?_ ?_
 walk_at "d"
 refine xc ?_ ?_
 walk_at "d"
 refine bJ h ?_
 walk_at "d"
 refine cD ?_ ?_ ?_
 exact ao
 refine bL h ?_
 walk_at "d"
 refine bJ h ?_
 walk_at "d"
 try exact dN h
 walk_at "d"
 try exact dN h
 walk_at "d"
 refine bJ h ?_
 walk_at "d"
 refine cD ?_ ?_ ?_
 exact cQ
 refine sH ?_
 walk_at "d"
 refine aA ?_ (bO h)
 walk_at "d"
 refine aA ?_ (fZ h)
 walk_at "d"
 refine ez ?_ ?_ ?_
 refine aG hC ?_ ?_
 walk_at "d"
 refine aH bq ?_ ?_
 refine aH bq ?_ ?_
 walk_at "d"
 refine aA ?_ (jD h)
 walk_at "d"
noncomputable def kH:WS:=
 wS (fQ (hM "number") (wF bh (wC (wF cr (wC (wA [80] "forms" (wV "self")) wN)) wN)) (wS (iR (fD "list" aV (wA [80] "children" (wV "self")) (wC (wX i9 (wL (wC (wK AV.none) wN)) (wF cr (wC (wI (wI (wA [80] "forms" (wV "self")) (wV "number")) (wK (AV.int 4))) wN))) wN))) (wS (iR (fD "list" aV (wA [80] "sizes" (wV "self")) (wC (wK (AV.int 1)) wN))) wZ))) (wS (fQ (hM "number") (wF bh (wC (wX cI (wF cr (wC (wA [80] "forms" (wV "self")) wN)) (wK (AV.int 1))) wN)) (wS (wQ "parent" (wI (wA [80] "parents" (wV "self")) (wV "number"))) (wS (dD (wI (wA [80] "children" (wV "self")) (wV "parent")) (wI (wA [80] "places" (wV "self")) (wV "number")) (wV "number")) (wS (dD (wA [80] "sizes" (wV "self")) (wV "parent") (wX ak (wI (wA [80] "sizes" (wV "self")) (wV "parent")) (wI (wA [80] "sizes" (wV "self")) (wV "number")))) wZ)))) wZ)
theorem vG {C:Cx} (h:HK C):aI C 1 (.ref 63) (e8 ["self"] fun loc hp P=>kH (loc++pad ["number","parent"]) hp P):=by
 refine bA (by rw[h];rfl) (by rw[h];rfl) (ps:=["self"]) (jc fun _=>rfl) (by decide) (by rfl) (ad ["number","parent"] ?_) rfl rfl rfl
 unfold kH
 refine aP ?_ ?_
 refine cD ?_ ?_ ?_
 exact ao
 refine bL h ?_
 walk_at "d"
 refine bJ h ?_
 walk_at "d"
 refine aA ?_ (bO h)
 walk_at "d"
 refine aA ?_ (b7 h)
 walk_at "d"
 refine aH iw ?_ ?_
 walk_at "d"
 refine bJ h ?_
 walk_at "d"
 refine aA ?_ (bO h)
 walk_at "d"
 try exact dN h
 walk_at "d"
 refine aA ?_ (dQ h)
 walk_at "d"
 refine cD ?_ ?_ ?_
 exact ao
 refine bL h ?_
 walk_at "d"
 refine aH bq ?_ ?_
 refine bJ h ?_
 walk_at "d"
 refine aA ?_ (bO h)
 walk_at "d"
 refine aA ?_ (fZ h)
 walk_at "d"
 refine cb ?_ ?_ ?_
 walk_at "d"
 refine aA ?_ (b7 h)
 walk_at "d"
 refine aA ?_ (jD h)
 walk_at "d"
 refine cb ?_ ?_ ?_
 refine aA ?_ (dQ h)
 walk_at "d"
 refine aH ac ?_ ?_
 walk_at "d"
 refine aA ?_ (dQ h)
 walk_at "d"
 refine aA ?_ (dQ h)
 walk_at "d"
noncomputable def xk:WS:=
 wS (wR (wX cI (wF cr (wC (wA [80] "forms" (wV "self")) wN)) (wK (AV.int 1)))) wZ
theorem Ia {C:Cx} (h:HK C):aI C 1 (.ref 70) (e8 ["self"] fun loc hp P=>xk (loc++pad []) hp P):=by
 refine bA (by rw[h];rfl) (by rw[h];rfl) (ps:=["self"]) (jc fun _=>rfl) (by decide) (by rfl) (ad [] ?_) rfl rfl rfl
 unfold xk
 refine aP ?_ ?_
 walk_at "d"
 refine aH bq ?_ ?_
 refine bJ h ?_
 walk_at "d"
 refine aA ?_ (bO h)
 walk_at "d"
noncomputable def sW:WS:=
 wS (wQ "found" (wL wN)) (wS (kE (wB (wX dv (wI (wA [80] "parents" (wV "self")) (wV "number")) (wK AV.none))) (wS (iR (fD "list" aV (wV "found") (wC (wI (wA [80] "places" (wV "self")) (wV "number")) wN))) (wS (wQ "number" (wI (wA [80] "parents" (wV "self")) (wV "number"))) wZ))) (wS (wR (wF eL (wC (wz (wV "found")) wN))) wZ))
theorem Ci {C:Cx} (h:HK C):aI C 1 (.ref 77) (e8 ["self","number"] fun loc hp P=>sW (loc++pad ["found"]) hp P):=by
 refine bA (by rw[h];rfl) (by rw[h];rfl) (ps:=["self","number"]) (eW fun _ _=>rfl) (by decide) (by rfl) (ad ["found"] ?_) rfl rfl rfl
 unfold sW
 refine aP ?_ ?_
 walk_at "d"
 refine j4 ?_ ?_
 refine aG eD ?_ ?_
 walk_at "d"
 refine aA ?_ (fZ h)
 walk_at "d"
 refine aA ?_ (jD h)
 walk_at "d"
 refine aA ?_ (fZ h)
 walk_at "d"
 refine dP h ?_
 walk_at "d"
 refine sH ?_
 walk_at "d"
noncomputable def hV:WS:=
 wS (wR (wr (wX bv (wI (wV "one") (wK (AV.int 0))) (wI (wV "other") (wK (AV.int 0)))) (wX bv (wI (wV "one") (wK (AV.int 1))) (wI (wV "other") (wK (AV.int 1)))))) wZ
theorem qw {C:Cx} (h:HK C):aI C 1 (.ref 91) (e8 ["one","other"] fun loc hp P=>hV (loc++pad []) hp P):=by
 refine bA (by rw[h];rfl) (by rw[h];rfl) (ps:=["one","other"]) (eW fun _ _=>rfl) (by decide) (by rfl) (ad [] ?_) rfl rfl rfl
 unfold hV
 refine aP ?_ ?_
 walk_at "d"
 refine zU ?_ ?_
 refine jx bz ?_ ?_
 walk_at "d"
 refine jx bz ?_ ?_
 walk_at "d"
noncomputable def cx:WS:=
 wS (wQ "first" (wF lw (wC (fX ["key","name","value","k"] (nN [lo ".0",lo "key",lo "name",lo "value"] []) (nN [lo "one",lo "other",lo "key",ce "first",lo "second",lo "found",gi "dict",gi "ATTRIBUTES",gi "sorted",gi "list"] [fa "one",fa "other",fa "key",fa "name",fa "value",fa "first",fa "second",fa "found"]) (px ["key","name","value"]) (wI (wV "one") (wK (AV.int 3))) cX (wU (wC (wV "key") (wC (wU (wC (wV "name") (wC (wV "value") wN))) wN)))) wN))) (wS (wQ "second" (wF lw (wC (fX ["key","name","value","k"] (nN [lo ".0",lo "key",lo "name",lo "value"] []) (nN [lo "one",lo "other",lo "key",ce "first",lo "second",lo "found",gi "dict",gi "ATTRIBUTES",gi "sorted",gi "list"] [fa "one",fa "other",fa "key",fa "name",fa "value",fa "first",fa "second",fa "found"]) (px ["key","name","value"]) (wI (wV "other") (wK (AV.int 3))) cX (wU (wC (wV "key") (wC (wU (wC (wV "name") (wC (wV "value") wN))) wN)))) wN))) (wS (wQ "found" (wL wN)) (wS (fQ (hM "key") (wF lT (wC (wX ak (wF lD (wC (wV "first") wN)) (fX ["key","name","value","k"] (nN [lo ".0",lo "key",fr "first"] []) (nN [lo "one",lo "other",lo "key",ce "first",lo "second",lo "found",gi "dict",gi "ATTRIBUTES",gi "sorted",gi "list"] [fa "one",fa "other",fa "key",fa "name",fa "value",fa "first",fa "second",fa "found"]) (hM "key") (wV "second") (wB (wX jY (wV "key") (wV "first"))) (wV "key"))) wN)) (wS (e9 (wB (wX jY (wV "key") (wV "second"))) (wS (iR (fD "list" aV (wV "found") (wC (wU (wC (wV "key") (wC (wK AV.none) (wC (wK AV.none) wN)))) wN))) wZ) (wS (e9 (wB (wX ca (fD "dict" jB (wV "first") (wC (wV "key") wN)) (wI (wV "second") (wV "key")))) (wS (iR (fD "list" aV (wV "found") (wC (wU (wC (wV "key") (wC (wI (wI (wV "second") (wV "key")) (wK (AV.int 0))) (wC (wI (wI (wV "second") (wV "key")) (wK (AV.int 1))) wN)))) wN))) wZ) wZ) wZ)) wZ)) (wS (wR (wV "found")) wZ))))
theorem i5 {C:Cx} (h:HK C):aI C 1 (.ref 96) (e8 ["one","other"] fun loc hp P=>cx (loc++pad ["key","first","second","found"]) hp P):=by
 refine bA (by rw[h];rfl) (by rw[h];rfl) (ps:=["one","other"]) (eW fun _ _=>rfl) (by decide) (by rfl) (ad ["key","first","second","found"] ?_) rfl rfl rfl
 unfold cx
 refine aP ?_ ?_
 walk_at "d"
 refine ja h ?_
 walk_at "d"
 refine fY ["key","name","value","k"] ?_ ?_ ?_ ?_
 walk_at "d"
 try exact cT h
 exact cQ
 exact kF
 walk_at "d"
 refine ja h ?_
 walk_at "d"
 refine fY ["key","name","value","k"] ?_ ?_ ?_ ?_
 walk_at "d"
 try exact cT h
 exact cQ
 exact kF
 walk_at "d"
 refine cD ?_ ?_ ?_
 exact ao
 refine oJ h ?_
 walk_at "d"
 refine aH ac ?_ ?_
 refine j9 h ?_
 walk_at "d"
 refine fY ["key","name","value","k"] ?_ ?_ ?_ ?_
 walk_at "d"
 exact ao
 refine ly ?_
 refine aG qL ?_ ?_
 walk_at "d"
 refine aG qL ?_ ?_
 walk_at "d"
 refine aG cP ?_ ?_
 refine gS ?_ ?_
 walk_at "d"
noncomputable def jE (f_unlike_attributes:WF):WS:=
 wS (wR (wX ak (wF sL (wC (wX ca (wI (wV "one") (wK (AV.int 2))) (wI (wV "other") (wK (AV.int 2)))) wN)) (wF cr (wC (wF f_unlike_attributes (wC (wV "one") (wC (wV "other") wN))) wN)))) wZ
theorem sX {C:Cx} (h:HK C) {f_unlike_attributes:WF} (g_unlike_attributes:aI C 1 (.ref 96) f_unlike_attributes):aI C 2 (.ref 103) (e8 ["one","other"] fun loc hp P=>jE f_unlike_attributes (loc++pad []) hp P):=by
 refine bA (by rw[h];rfl) (by rw[h];rfl) (ps:=["one","other"]) (eW fun _ _=>rfl) (by decide) (by rfl) (ad [] ?_) rfl rfl rfl
 unfold jE
 refine aP ?_ ?_
 walk_at "d"
 refine aH ac ?_ ?_
 refine pJ h ?_
 walk_at "d"
 refine jx cP ?_ ?_
 walk_at "d"
 refine bJ h ?_
 walk_at "d"
 refine aK "unlike_attributes" h g_unlike_attributes ?_
 walk_at "d"
noncomputable def mJ (dW:WF) (dj:WF) (dG:WF):WS:=
 wS (bS [148,277] "one" (wV "self") (wV "one")) (wS (bS [148,277] "other" (wV "self") (wV "other")) (wS (bS [148] "costs" (wV "self") qb) (wS (fQ (hM "i") (wF bh (wC (wF cr (wC (wA [80] "forms" (wV "one")) wN)) wN)) (wS (fQ (hM "j") (wF bh (wC (wF cr (wC (wA [80] "forms" (wV "other")) wN)) wN)) (wS (e9 (wB (wF dW (wC (wI (wA [80] "forms" (wV "one")) (wV "i")) (wC (wI (wA [80] "forms" (wV "other")) (wV "j")) wN)))) (wS (dD (wA [148] "costs" (wV "self")) (wU (wC (wV "i") (wC (wV "j") wN))) (wX ak (wF dj (wC (wI (wA [80] "forms" (wV "one")) (wV "i")) (wC (wI (wA [80] "forms" (wV "other")) (wV "j")) wN))) (wI (wI (wM 148 "table" dG (wV "self") (wC (wV "i") (wC (wV "j") wN))) (ld (wK (AV.int 1)))) (ld (wK (AV.int 1)))))) wZ) wZ) wZ)) wZ)) wZ)))
theorem xm {C:Cx} (h:HK C) {dW:WF} (g_may_match:aI C 1 (.ref 91) dW) {dj:WF} (g_own_cost:aI C 2 (.ref 103) dj) {dG:WF} (g_table:aI C 1 (.ref 124) dG):aI C 3 (.ref 117) (e8 ["self","one","other"] fun loc hp P=>mJ dW dj dG (loc++pad ["i","j"]) hp P):=by
 refine bA (by rw[h];rfl) (by rw[h];rfl) (ps:=["self","one","other"]) (jd fun _ _ _=>rfl) (by decide) (by rfl) (ad ["i","j"] ?_) rfl rfl rfl
 unfold mJ
 refine aP ?_ ?_
 refine az ?_ ?_ (oK h) (by intro _;with_unfolding_all rfl)
 walk_at "d"
 refine az ?_ ?_ (lE h) (by intro _;with_unfolding_all rfl)
 walk_at "d"
 refine az ?_ ?_ (qm h) (by intro _;with_unfolding_all rfl)
 walk_at "d"
 exact pH
 walk_at "d"
 refine cD ?_ ?_ ?_
 exact ao
 refine bL h ?_
 walk_at "d"
 refine bJ h ?_
 walk_at "d"
 refine aA ?_ (bO h)
 walk_at "d"
 refine cD ?_ ?_ ?_
 exact ao
 refine bL h ?_
 walk_at "d"
 refine bJ h ?_
 walk_at "d"
 refine aA ?_ (bO h)
 walk_at "d"
 refine lg ?_
 refine aK "may_match" h g_may_match ?_
 walk_at "d"
 refine aA ?_ (bO h)
 walk_at "d"
 refine aA ?_ (bO h)
 walk_at "d"
 refine cb ?_ ?_ ?_
 refine aA ?_ (iT h)
 walk_at "d"
 refine aH ac ?_ ?_
 refine aK "own_cost" h g_own_cost ?_
 walk_at "d"
 refine aA ?_ (bO h)
 walk_at "d"
 refine aA ?_ (bO h)
 walk_at "d"
 refine aa "table" (uF h) g_table ?_ ?_
 walk_at "d"
 refine gN ?_
 walk_at "d"
 refine gN ?_
 walk_at "d"
noncomputable def pN:WS:=
 wS (cv ["ours","theirs"] (wU (wC (wI (wA [80] "children" (wA [148,277] "one" (wV "self"))) (wV "i")) (wC (wI (wA [80] "children" (wA [148,277] "other" (wV "self"))) (wV "j")) wN)))) (wS (wQ "rows" (wL (wC (wL (wC (wK (AV.int 0)) wN)) wN))) (wS (fQ (hM "y") (wV "theirs") (wS (iR (fD "list" aV (wI (wV "rows") (wK (AV.int 0))) (wC (wX ak (wI (wI (wV "rows") (wK (AV.int 0))) (ld (wK (AV.int 1)))) (wI (wA [80] "sizes" (wA [148,277] "other" (wV "self"))) (wV "y"))) wN))) wZ)) (wS (fQ (hM "p") (wF bh (wC (wF cr (wC (wV "ours") wN)) wN)) (wS (wQ "size" (wI (wA [80] "sizes" (wA [148,277] "one" (wV "self"))) (wI (wV "ours") (wV "p")))) (wS (wQ "row" (wL (wC (wX ak (wI (wI (wV "rows") (wV "p")) (wK (AV.int 0))) (wV "size")) wN))) (wS (fQ (hM "q") (wF bh (wC (wF cr (wC (wV "theirs") wN)) wN)) (wS (wQ "least" (wF xO (wC (wF sL (wC (wX ak (wI (wI (wV "rows") (wV "p")) (wX ak (wV "q") (wK (AV.int 1)))) (wV "size")) wN)) (wC (wF sL (wC (wX ak (wI (wV "row") (wV "q")) (wI (wA [80] "sizes" (wA [148,277] "other" (wV "self"))) (wI (wV "theirs") (wV "q")))) wN)) wN)))) (wS (wQ "kept" (fD "dict" jB (wA [148] "costs" (wV "self")) (wC (wU (wC (wI (wV "ours") (wV "p")) (wC (wI (wV "theirs") (wV "q")) wN))) wN))) (wS (e9 (dC (wB (wX dv (wV "kept") (wK AV.none))) (dC (wB (wX sE (wX ak (wI (wI (wV "rows") (wV "p")) (wV "q")) (wV "kept")) (wV "least"))) cX)) (wS (wQ "least" (wX ak (wI (wI (wV "rows") (wV "p")) (wV "q")) (wV "kept"))) wZ) wZ) (wS (iR (fD "list" aV (wV "row") (wC (wV "least") wN))) wZ))))) (wS (iR (fD "list" aV (wV "rows") (wC (wV "row") wN))) wZ))))) (wS (wR (wV "rows")) wZ))))
theorem zl {C:Cx} (h:HK C):aI C 1 (.ref 124) (e8 ["self","i","j"] fun loc hp P=>pN (loc++pad ["ours","theirs","rows","y","p","size","row","q","least","kept"]) hp P):=by
 refine bA (by rw[h];rfl) (by rw[h];rfl) (ps:=["self","i","j"]) (jd fun _ _ _=>rfl) (by decide) (by rfl) (ad ["ours","theirs","rows","y","p","size","row","q","least","kept"] ?_) rfl rfl rfl
 unfold pN
 refine aP ?_ ?_
 refine bV (xs:=["ours","theirs"]) ?_
 walk_at "d"
 refine aU ?_ (b7 h)
 refine aA ?_ (f7 h)
 walk_at "d"
 refine aU ?_ (b7 h)
 refine aA ?_ (cU h)
 walk_at "d"
 refine cD ?_ ?_ ?_
 exact ao
 walk_at "d"
 refine aH ac ?_ ?_
 walk_at "d"
 refine gN ?_
 walk_at "d"
 refine aU ?_ (dQ h)
 refine aA ?_ (cU h)
 walk_at "d"
 refine cD ?_ ?_ ?_
 exact ao
 refine bL h ?_
 walk_at "d"
 refine bJ h ?_
 walk_at "d"
 refine aU ?_ (dQ h)
 refine aA ?_ (f7 h)
 walk_at "d"
 refine aH ac ?_ ?_
 walk_at "d"
 refine cD ?_ ?_ ?_
 exact ao
 refine bL h ?_
 walk_at "d"
 refine bJ h ?_
 walk_at "d"
 refine xb h ?_
 walk_at "d"
 refine pJ h ?_
 walk_at "d"
 refine aH ac ?_ ?_
 walk_at "d"
 refine aH ac ?_ ?_
 walk_at "d"
 refine pJ h ?_
 walk_at "d"
 refine aH ac ?_ ?_
 walk_at "d"
 refine aU ?_ (dQ h)
 refine aA ?_ (cU h)
 walk_at "d"
 refine gS ?_ ?_
 refine aA ?_ (iT h)
 walk_at "d"
 refine bR ?_ ?_
 refine aG eD ?_ ?_
 walk_at "d"
 refine bR ?_ ?_
 refine aG tf ?_ ?_
 refine aH ac ?_ ?_
 walk_at "d"
 exact ba
 walk_at "d"
 refine aH ac ?_ ?_
 walk_at "d"
noncomputable def pO (dG:WF):WS:=
 wS (cv ["ours","theirs"] (wU (wC (wI (wA [80] "children" (wA [148,277] "one" (wV "self"))) (wV "i")) (wC (wI (wA [80] "children" (wA [148,277] "other" (wV "self"))) (wV "j")) wN)))) (wS (cv ["rows","found"] (wU (wC (wM 148 "table" dG (wV "self") (wC (wV "i") (wC (wV "j") wN))) (wC (wL wN) wN)))) (wS (cv ["p","q"] (wU (wC (wF cr (wC (wV "ours") wN)) (wC (wF cr (wC (wV "theirs") wN)) wN)))) (wS (kE (pw (wB (wX ix (wV "p") (wK (AV.int 0)))) (pw (wB (wX ix (wV "q") (wK (AV.int 0)))) fe)) (wS (wQ "kept" (jX (dC (wB (wX ix (wV "p") (wK (AV.int 0)))) (dC (wB (wX ix (wV "q") (wK (AV.int 0)))) cX)) (fD "dict" jB (wA [148] "costs" (wV "self")) (wC (wU (wC (wI (wV "ours") (wX cI (wV "p") (wK (AV.int 1)))) (wC (wI (wV "theirs") (wX cI (wV "q") (wK (AV.int 1)))) wN))) wN)) (wK AV.none))) (wS (e9 (dC (wB (wX dv (wV "kept") (wK AV.none))) (dC (wB (wX bv (wI (wI (wV "rows") (wV "p")) (wV "q")) (wX ak (wI (wI (wV "rows") (wX cI (wV "p") (wK (AV.int 1)))) (wX cI (wV "q") (wK (AV.int 1)))) (wV "kept")))) cX)) (wS (iR (fD "list" aV (wV "found") (wC (wU (wC (wK (AV.str (Str.ofString "keep"))) (wC (wX cI (wV "p") (wK (AV.int 1))) (wC (wX cI (wV "q") (wK (AV.int 1))) wN)))) wN))) (wS (cv ["p","q"] (wU (wC (wX cI (wV "p") (wK (AV.int 1))) (wC (wX cI (wV "q") (wK (AV.int 1))) wN)))) wZ)) (wS (e9 (dC (wB (wX ix (wV "p") (wK (AV.int 0)))) (dC (wB (wX bv (wI (wI (wV "rows") (wV "p")) (wV "q")) (wX ak (wI (wI (wV "rows") (wX cI (wV "p") (wK (AV.int 1)))) (wV "q")) (wI (wA [80] "sizes" (wA [148,277] "one" (wV "self"))) (wI (wV "ours") (wX cI (wV "p") (wK (AV.int 1)))))))) cX)) (wS (iR (fD "list" aV (wV "found") (wC (wU (wC (wK (AV.str (Str.ofString "out"))) (wC (wX cI (wV "p") (wK (AV.int 1))) wN))) wN))) (wS (wQ "p" (wX cI (wV "p") (wK (AV.int 1)))) wZ)) (wS (iR (fD "list" aV (wV "found") (wC (wU (wC (wK (AV.str (Str.ofString "in"))) (wC (wV "p") (wC (wX cI (wV "q") (wK (AV.int 1))) wN)))) wN))) (wS (wQ "q" (wX cI (wV "q") (wK (AV.int 1)))) wZ))) wZ)) wZ))) (wS (wR (wz (wV "found"))) wZ))))
theorem zm {C:Cx} (h:HK C) {dG:WF} (g_table:aI C 1 (.ref 124) dG):aI C 2 (.ref 131) (e8 ["self","i","j"] fun loc hp P=>pO dG (loc++pad ["ours","theirs","rows","found","p","q","kept"]) hp P):=by
 refine bA (by rw[h];rfl) (by rw[h];rfl) (ps:=["self","i","j"]) (jd fun _ _ _=>rfl) (by decide) (by rfl) (ad ["ours","theirs","rows","found","p","q","kept"] ?_) rfl rfl rfl
 unfold pO
 refine aP ?_ ?_
 refine bV (xs:=["ours","theirs"]) ?_
 walk_at "d"
 refine aU ?_ (b7 h)
 refine aA ?_ (f7 h)
 walk_at "d"
 refine aU ?_ (b7 h)
 refine aA ?_ (cU h)
 walk_at "d"
 refine bV (xs:=["rows","found"]) ?_
 walk_at "d"
 refine aa "table" (uF h) g_table ?_ ?_
 walk_at "d"
 refine bV (xs:=["p","q"]) ?_
 walk_at "d"
 refine bJ h ?_
 walk_at "d"
 refine bJ h ?_
 walk_at "d"
 refine j4 ?_ ?_
 refine eU ?_ ?_
 refine aG ia ?_ ?_
 walk_at "d"
 refine eU ?_ ?_
 refine aG ia ?_ ?_
 walk_at "d"
 exact dM
 walk_at "d"
 refine ez ?_ ?_ ?_
 refine bR ?_ ?_
 refine aG ia ?_ ?_
 walk_at "d"
 refine bR ?_ ?_
 refine aG ia ?_ ?_
 walk_at "d"
 exact ba
 refine gS ?_ ?_
 refine aA ?_ (iT h)
 walk_at "d"
 refine aH bq ?_ ?_
 walk_at "d"
 refine aH bq ?_ ?_
 walk_at "d"
 refine bR ?_ ?_
 refine aG eD ?_ ?_
 walk_at "d"
 refine bR ?_ ?_
 refine aG bz ?_ ?_
 walk_at "d"
 refine aH ac ?_ ?_
 walk_at "d"
 refine aH bq ?_ ?_
 walk_at "d"
 refine aH bq ?_ ?_
 walk_at "d"
 exact ba
 walk_at "d"
 refine aH bq ?_ ?_
 walk_at "d"
 refine aH bq ?_ ?_
 walk_at "d"
 refine bV (xs:=["p","q"]) ?_
 walk_at "d"
 refine aH bq ?_ ?_
 walk_at "d"
 refine aH bq ?_ ?_
 walk_at "d"
 refine bR ?_ ?_
 refine aG ia ?_ ?_
 walk_at "d"
 refine bR ?_ ?_
 refine aG bz ?_ ?_
 walk_at "d"
 refine aH ac ?_ ?_
 walk_at "d"
 refine aH bq ?_ ?_
 walk_at "d"
 refine aU ?_ (dQ h)
 refine aA ?_ (f7 h)
 walk_at "d"
 refine aH bq ?_ ?_
 walk_at "d"
 exact ba
 walk_at "d"
 refine aH bq ?_ ?_
 walk_at "d"
 refine aH bq ?_ ?_
 walk_at "d"
 refine aH bq ?_ ?_
 walk_at "d"
 refine aH bq ?_ ?_
 walk_at "d"
 refine sH ?_
 walk_at "d"
noncomputable def sY:WS:=
 wS (wR (fD "dict" jB (wA [148] "costs" (wV "self")) (wC (wU (wC (wV "i") (wC (wV "j") wN))) wN))) wZ
theorem Cj {C:Cx} (h:HK C):aI C 1 (.ref 138) (e8 ["self","i","j"] fun loc hp P=>sY (loc++pad []) hp P):=by
 refine bA (by rw[h];rfl) (by rw[h];rfl) (ps:=["self","i","j"]) (jd fun _ _ _=>rfl) (by decide) (by rfl) (ad [] ?_) rfl rfl rfl
 unfold sY
 refine aP ?_ ?_
 walk_at "d"
 refine gS ?_ ?_
 refine aA ?_ (iT h)
 walk_at "d"
noncomputable def mK (f_c_Matching:WF) (fI:WF) (eP:WF) (gG:WF):WS:=
 wS (bS [197] "matching" (wV "self") (wF f_c_Matching (wC (wV "base") (wC (wV "changed") wN)))) (wS (bS [197] "partners" (wV "self") qb) (wS (bS [197] "inserted" (wV "self") qb) (wS (wQ "top" (wM 80 "top" fI (wV "changed") wN)) (wS (e9 (wB (wX dv (wM 148 "cost" eP (wA [197] "matching" (wV "self")) (wC (wM 80 "top" fI (wV "base") wN) (wC (wV "top") wN))) (wK AV.none))) (wS (iR (wM 197 "follow" gG (wV "self") (wC (wM 80 "top" fI (wV "base") wN) (wC (wV "top") wN)))) wZ) wZ) wZ))))
theorem xn {C:Cx} (h:HK C) {f_c_Matching:WF} (g_c_Matching:aI C 4 (.ref 148) f_c_Matching) {fI:WF} (g_top:aI C 1 (.ref 70) fI) {eP:WF} (g_cost:aI C 1 (.ref 138) eP) {gG:WF} (g_follow:aI C 3 (.ref 173) gG):aI C 5 (.ref 166) (e8 ["self","base","changed"] fun loc hp P=>mK f_c_Matching fI eP gG (loc++pad ["top"]) hp P):=by
 refine bA (by rw[h];rfl) (by rw[h];rfl) (ps:=["self","base","changed"]) (jd fun _ _ _=>rfl) (by decide) (by rfl) (ad ["top"] ?_) rfl rfl rfl
 unfold mK
 refine aP ?_ ?_
 refine az ?_ ?_ (mD h) (by intro _;with_unfolding_all rfl)
 walk_at "d"
 refine aK "Matching" h g_c_Matching ?_
 walk_at "d"
 refine az ?_ ?_ (mE h) (by intro _;with_unfolding_all rfl)
 walk_at "d"
 exact pH
 walk_at "d"
 refine az ?_ ?_ (mG h) (by intro _;with_unfolding_all rfl)
 walk_at "d"
 exact pH
 walk_at "d"
 refine aa "top" (qo h) g_top ?_ ?_
 walk_at "d"
 refine aG eD ?_ ?_
 refine aa "cost" (xf h) g_cost ?_ ?_
 refine aA ?_ (cK h)
 walk_at "d"
 refine aa "top" (qo h) g_top ?_ ?_
 walk_at "d"
 refine aa "follow" (xg h) g_follow ?_ ?_
 walk_at "d"
 refine aa "top" (qo h) g_top ?_ ?_
 walk_at "d"
noncomputable def mM (iX:WF):WS:=
 wS (wQ "left" (wL (wC (wU (wC (wV "i") (wC (wV "j") wN))) wN))) (wS (kE (wB (wX ca (wV "left") (wL wN))) (wS (ie (px ["i","j"]) (fD "list" xQ (wV "left") wN)) (wS (dD (wA [197] "partners" (wV "self")) (wV "i") (wV "j")) (wS (cv ["ours","theirs"] (wU (wC (wI (wA [80] "children" (wA [148,277] "one" (wA [197] "matching" (wV "self")))) (wV "i")) (wC (wI (wA [80] "children" (wA [148,277] "other" (wA [197] "matching" (wV "self")))) (wV "j")) wN)))) (wS (fQ (hM "step") (wM 148 "steps" iX (wA [197] "matching" (wV "self")) (wC (wV "i") (wC (wV "j") wN))) (wS (e9 (wB (wX bv (wI (wV "step") (wK (AV.int 0))) (wK (AV.str (Str.ofString "keep"))))) (wS (iR (fD "list" aV (wV "left") (wC (wU (wC (wI (wV "ours") (wI (wV "step") (wK (AV.int 1)))) (wC (wI (wV "theirs") (wI (wV "step") (wK (AV.int 2)))) wN))) wN))) wZ) (wS (e9 (wB (wX bv (wI (wV "step") (wK (AV.int 0))) (wK (AV.str (Str.ofString "in"))))) (wS (iR (fD "list" aV (fD "dict" fW (wA [197] "inserted" (wV "self")) (wC (wU (wC (wV "i") (wC (wI (wV "step") (wK (AV.int 1))) wN))) (wC (wL wN) wN))) (wC (wI (wA [80] "forms" (wA [148,277] "other" (wA [197] "matching" (wV "self")))) (wI (wV "theirs") (wI (wV "step") (wK (AV.int 2))))) wN))) wZ) wZ) wZ)) wZ)) wZ))))) wZ)
theorem xo {C:Cx} (h:HK C) {iX:WF} (g_steps:aI C 2 (.ref 131) iX):aI C 3 (.ref 173) (e8 ["self","i","j"] fun loc hp P=>mM iX (loc++pad ["left","ours","theirs","step"]) hp P):=by
 refine bA (by rw[h];rfl) (by rw[h];rfl) (ps:=["self","i","j"]) (jd fun _ _ _=>rfl) (by decide) (by rfl) (ad ["left","ours","theirs","step"] ?_) rfl rfl rfl
 unfold mM
 refine aP ?_ ?_
 walk_at "d"
 refine j4 ?_ ?_
 refine aG cP ?_ ?_
 walk_at "d"
 refine fT ?_ ?_
 refine xc ?_ ?_
 walk_at "d"
 exact cQ
 walk_at "d"
 refine cb ?_ ?_ ?_
 refine aA ?_ (gT h)
 walk_at "d"
 refine bV (xs:=["ours","theirs"]) ?_
 walk_at "d"
 refine aU ?_ (b7 h)
 refine aU ?_ (f7 h)
 refine aA ?_ (cK h)
 walk_at "d"
 refine aU ?_ (b7 h)
 refine aU ?_ (cU h)
 refine aA ?_ (cK h)
 walk_at "d"
 refine cD ?_ ?_ ?_
 exact ao
 refine aa "steps" (zg h) g_steps ?_ ?_
 refine aA ?_ (cK h)
 walk_at "d"
 refine aG bz ?_ ?_
 walk_at "d"
 refine aG bz ?_ ?_
 walk_at "d"
 refine nX ?_ ?_
 refine aA ?_ (jb h)
 walk_at "d"
 refine aU ?_ (bO h)
 refine aU ?_ (cU h)
 refine aA ?_ (cK h)
 walk_at "d"
noncomputable def sZ:WS:=
 wS (wQ "j" (fD "dict" jB (wA [197] "partners" (wV "self")) (wC (wV "i") wN))) (wS (wR (jX (wB (wX jy (wV "j") (wK AV.none))) (wK AV.none) (wI (wA [80] "forms" (wA [148,277] "other" (wA [197] "matching" (wV "self")))) (wV "j")))) wZ)
theorem Ck {C:Cx} (h:HK C):aI C 1 (.ref 180) (e8 ["self","i"] fun loc hp P=>sZ (loc++pad ["j"]) hp P):=by
 refine bA (by rw[h];rfl) (by rw[h];rfl) (ps:=["self","i"]) (eW fun _ _=>rfl) (by decide) (by rfl) (ad ["j"] ?_) rfl rfl rfl
 unfold sZ
 refine aP ?_ ?_
 walk_at "d"
 refine gS ?_ ?_
 refine aA ?_ (gT h)
 walk_at "d"
 refine ez ?_ ?_ ?_
 refine aG hC ?_ ?_
 walk_at "d"
 refine aU ?_ (bO h)
 refine aU ?_ (cU h)
 refine aA ?_ (cK h)
 walk_at "d"
noncomputable def gU (eP:WF):WS:=
 wS (wR (wX ix (wM 148 "cost" eP (wA [197] "matching" (wV "self")) (wC (wV "i") (wC (wI (wA [197] "partners" (wV "self")) (wV "i")) wN))) (wK (AV.int 0)))) wZ
theorem pP {C:Cx} (h:HK C) {eP:WF} (g_cost:aI C 1 (.ref 138) eP):aI C 2 (.ref 187) (e8 ["self","i"] fun loc hp P=>gU eP (loc++pad []) hp P):=by
 refine bA (by rw[h];rfl) (by rw[h];rfl) (ps:=["self","i"]) (eW fun _ _=>rfl) (by decide) (by rfl) (ad [] ?_) rfl rfl rfl
 unfold gU
 refine aP ?_ ?_
 walk_at "d"
 refine jx ia ?_ ?_
 refine aa "cost" (xf h) g_cost ?_ ?_
 refine aA ?_ (cK h)
 walk_at "d"
 refine aA ?_ (gT h)
 walk_at "d"
noncomputable def mN:WS:=
 wS (wR (fD "dict" jB (wA [197] "inserted" (wV "self")) (wC (wU (wC (wV "i") (wC (wV "place") wN))) (wC (wL wN) wN)))) wZ
theorem xp {C:Cx} (h:HK C):aI C 1 (.ref 194) (e8 ["self","i","place"] fun loc hp P=>mN (loc++pad []) hp P):=by
 refine bA (by rw[h];rfl) (by rw[h];rfl) (ps:=["self","i","place"]) (jd fun _ _ _=>rfl) (by decide) (by rfl) (ad [] ?_) rfl rfl rfl
 unfold mN
 refine aP ?_ ?_
 walk_at "d"
 refine gS ?_ ?_
 refine aA ?_ (jb h)
 walk_at "d"
noncomputable def fE:WS:=
 wS (e9 (pw (wB (wX bv (wI (wV "one") (wK (AV.int 2))) (wI (wV "other") (wK (AV.int 2))))) (pw (wB (wX bv (wI (wV "other") (wK (AV.int 2))) (wI (wV "base") (wK (AV.int 2))))) fe)) (wS (wR (wU (wC (wI (wV "one") (wK (AV.int 2))) (wC (wL wN) wN)))) wZ) wZ) (wS (e9 (wB (wX bv (wI (wV "one") (wK (AV.int 2))) (wI (wV "base") (wK (AV.int 2))))) (wS (wR (wU (wC (wI (wV "other") (wK (AV.int 2))) (wC (wL wN) wN)))) wZ) wZ) (wS (wR (wU (wC (wI (wV "one") (wK (AV.int 2))) (wC (wL (wC (wU (wC (wK (AV.str (Str.ofString "value"))) (wC (wV "path") (wC (wI (wV "one") (wK (AV.int 2))) (wC (wI (wV "other") (wK (AV.int 2))) wN))))) wN)) wN)))) wZ))
theorem mO {C:Cx} (h:HK C):aI C 1 (.ref 208) (e8 ["base","one","other","path"] fun loc hp P=>fE (loc++pad []) hp P):=by
 refine bA (by rw[h];rfl) (by rw[h];rfl) (ps:=["base","one","other","path"]) (oO fun _ _ _ _=>rfl) (by decide) (by rfl) (ad [] ?_) rfl rfl rfl
 unfold fE
 refine aP ?_ ?_
 walk_at "d"
 refine eU ?_ ?_
 refine aG bz ?_ ?_
 walk_at "d"
 refine eU ?_ ?_
 refine aG bz ?_ ?_
 walk_at "d"
 exact dM
 walk_at "d"
 refine aG bz ?_ ?_
 walk_at "d"
noncomputable def mP:WS:=
 wS (wR (wF lw (wC (fX ["key","name","value","k"] (nN [lo ".0",lo "key",lo "name",lo "value"] []) (nN [lo "form",gi "dict",gi "ATTRIBUTES"] [fa "form",fa "key",fa "name",fa "value"]) (px ["key","name","value"]) (wI (wV "form") (wK (AV.int 3))) cX (wU (wC (wV "key") (wC (wU (wC (wV "name") (wC (wV "value") wN))) wN)))) wN))) wZ
theorem xq {C:Cx} (h:HK C):aI C 1 (.ref 213) (e8 ["form"] fun loc hp P=>mP (loc++pad []) hp P):=by
 refine bA (by rw[h];rfl) (by rw[h];rfl) (ps:=["form"]) (jc fun _=>rfl) (by decide) (by rfl) (ad [] ?_) rfl rfl rfl
 unfold mP
 refine aP ?_ ?_
 walk_at "d"
 refine ja h ?_
 walk_at "d"
 refine fY ["key","name","value","k"] ?_ ?_ ?_ ?_
 walk_at "d"
 try exact cT h
 exact cQ
 exact kF
 walk_at "d"
noncomputable def cy (eG:WF):WS:=
 wS (cv ["ahead","first","second"] (wU (wC (wF eG (wC (wV "base") wN)) (wC (wF eG (wC (wV "one") wN)) (wC (wF eG (wC (wV "other") wN)) wN))))) (wS (cv ["found","clashes"] (wU (wC (wL wN) (wC (wL wN) wN)))) (wS (wQ "keys" (wF lw (wC (fX ["key","name","value","k"] (nN [lo ".0",lo "key"] []) (nN [lo "base",lo "one",lo "other",lo "path",lo "ahead",lo "first",lo "second",lo "found",lo "clashes",lo "key",lo "keys",lo "was",lo "ours",lo "theirs",lo "told",gi "by_key",gi "dict",gi "list",gi "sorted",gi "tuple"] [fa "base",fa "one",fa "other",fa "path",fa "ahead",fa "first",fa "second",fa "found",fa "clashes",fa "key",fa "keys",fa "was",fa "ours",fa "theirs",fa "told"]) (hM "key") (wX ak (wX ak (wF lD (wC (wV "ahead") wN)) (wF lD (wC (wV "first") wN))) (wF lD (wC (wV "second") wN))) cX (wU (wC (wV "key") (wC (wK (AV.bool true)) wN)))) wN))) (wS (fQ (hM "key") (wF lT (wC (wV "keys") wN)) (wS (cv ["was","ours","theirs"] (wU (wC (fD "dict" jB (wV "ahead") (wC (wV "key") wN)) (wC (fD "dict" jB (wV "first") (wC (wV "key") wN)) (wC (fD "dict" jB (wV "second") (wC (wV "key") wN)) wN))))) (wS (wQ "told" (jX (wB (wX bv (wV "ours") (wV "was"))) (wV "theirs") (wV "ours"))) (wS (e9 (dC (wB (wX ca (wV "ours") (wV "was"))) (dC (wB (wX ca (wV "theirs") (wV "was"))) (dC (wB (wX ca (wV "ours") (wV "theirs"))) cX))) (wS (iR (fD "list" aV (wV "clashes") (wC (wU (wC (wK (AV.str (Str.ofString "attribute"))) (wC (wV "path") (wC (wV "key") (wC (wV "ours") (wC (wV "theirs") wN)))))) wN))) wZ) wZ) (wS (e9 (wB (wX dv (wV "told") (wK AV.none))) (wS (iR (fD "list" aV (wV "found") (wC (wU (wC (wV "key") (wC (wI (wV "told") (wK (AV.int 0))) (wC (wI (wV "told") (wK (AV.int 1))) wN)))) wN))) wZ) wZ) wZ))))) (wS (wR (wU (wC (wF eL (wC (wV "found") wN)) (wC (wV "clashes") wN)))) wZ))))
theorem i6 {C:Cx} (h:HK C) {eG:WF} (g_by_key:aI C 1 (.ref 213) eG):aI C 2 (.ref 218) (e8 ["base","one","other","path"] fun loc hp P=>cy eG (loc++pad ["ahead","first","second","found","clashes","key","keys","was","ours","theirs","told"]) hp P):=by
 refine bA (by rw[h];rfl) (by rw[h];rfl) (ps:=["base","one","other","path"]) (oO fun _ _ _ _=>rfl) (by decide) (by rfl) (ad ["ahead","first","second","found","clashes","key","keys","was","ours","theirs","told"] ?_) rfl rfl rfl
 unfold cy
 refine aP ?_ ?_
 refine bV (xs:=["ahead","first","second"]) ?_
 walk_at "d"
 refine aK "by_key" h g_by_key ?_
 walk_at "d"
 refine aK "by_key" h g_by_key ?_
 walk_at "d"
 refine aK "by_key" h g_by_key ?_
 walk_at "d"
 refine bV (xs:=["found","clashes"]) ?_
 walk_at "d"
 refine ja h ?_
 walk_at "d"
 refine fY ["key","name","value","k"] ?_ ?_ ?_ ?_
 refine aH ac ?_ ?_
 refine aH ac ?_ ?_
 refine j9 h ?_
 walk_at "d"
 refine j9 h ?_
 walk_at "d"
 refine j9 h ?_
 walk_at "d"
 exact ao
 exact kF
 walk_at "d"
 exact jW
 walk_at "d"
 refine cD ?_ ?_ ?_
 exact ao
 refine oJ h ?_
 walk_at "d"
 refine bV (xs:=["was","ours","theirs"]) ?_
 walk_at "d"
 refine gS ?_ ?_
 walk_at "d"
 refine gS ?_ ?_
 walk_at "d"
 refine gS ?_ ?_
 walk_at "d"
 refine ez ?_ ?_ ?_
 refine aG bz ?_ ?_
 walk_at "d"
 refine bR ?_ ?_
 refine aG cP ?_ ?_
 walk_at "d"
 refine bR ?_ ?_
 refine aG cP ?_ ?_
 walk_at "d"
 refine bR ?_ ?_
 refine aG cP ?_ ?_
 walk_at "d"
 exact ba
 walk_at "d"
 refine aG eD ?_ ?_
 walk_at "d"
 refine dP h ?_
 walk_at "d"
noncomputable def cz:WS:=
 wS (e9 (pw (wB (wX bv (wV "theirs") (wL wN))) (pw (wB (wX bv (wV "ours") (wV "theirs"))) fe)) (wS (wR (wU (wC (wV "ours") (wC (wL wN) wN)))) wZ) wZ) (wS (e9 (wB (wX bv (wV "ours") (wL wN))) (wS (wR (wU (wC (wV "theirs") (wC (wL wN) wN)))) wZ) wZ) (wS (wR (wU (wC (wX ak (wV "ours") (wV "theirs")) (wC (wL (wC (wU (wC (wK (AV.str (Str.ofString "inserted"))) (wC (wV "path") (wC (wV "place") wN)))) wN)) wN)))) wZ))
theorem i7 {C:Cx} (h:HK C):aI C 1 (.ref 225) (e8 ["ours","theirs","path","place"] fun loc hp P=>cz (loc++pad []) hp P):=by
 refine bA (by rw[h];rfl) (by rw[h];rfl) (ps:=["ours","theirs","path","place"]) (oO fun _ _ _ _=>rfl) (by decide) (by rfl) (ad [] ?_) rfl rfl rfl
 unfold cz
 refine aP ?_ ?_
 walk_at "d"
 refine eU ?_ ?_
 refine aG bz ?_ ?_
 walk_at "d"
 refine eU ?_ ?_
 refine aG bz ?_ ?_
 walk_at "d"
 exact dM
 walk_at "d"
 refine aG bz ?_ ?_
 walk_at "d"
 refine aH ac ?_ ?_
 walk_at "d"
noncomputable def kI:WS:=
 wS (bS [277] "base" (wV "self") (wV "base")) (wS (bS [148,277] "one" (wV "self") (wV "one")) (wS (bS [148,277] "other" (wV "self") (wV "other")) (wS (bS [277] "rows" (wV "self") (wL wN)) wZ)))
theorem vH {C:Cx} (h:HK C):aI C 1 (.ref 239) (e8 ["self","base","one","other"] fun loc hp P=>kI (loc++pad []) hp P):=by
 refine bA (by rw[h];rfl) (by rw[h];rfl) (ps:=["self","base","one","other"]) (oO fun _ _ _ _=>rfl) (by decide) (by rfl) (ad [] ?_) rfl rfl rfl
 unfold kI
 refine aP ?_ ?_
 refine az ?_ ?_ (sQ h) (by intro _;with_unfolding_all rfl)
 walk_at "d"
 refine az ?_ ?_ (oK h) (by intro _;with_unfolding_all rfl)
 walk_at "d"
 refine az ?_ ?_ (lE h) (by intro _;with_unfolding_all rfl)
 walk_at "d"
 refine az ?_ ?_ (sR h) (by intro _;with_unfolding_all rfl)
 walk_at "d"
noncomputable def xr (eh:WF):WS:=
 wS (fQ (hM "i") (wF bh (wC (wF cr (wC (wA [80] "forms" (wA [277] "base" (wV "self"))) wN)) wN)) (wS (iR (fD "list" aV (wA [277] "rows" (wV "self")) (wC (wM 277 "outcome" eh (wV "self") (wC (wV "i") wN)) wN))) wZ)) (wS (wR (wI (wA [277] "rows" (wV "self")) (ld (wK (AV.int 1))))) wZ)
theorem Ib {C:Cx} (h:HK C) {eh:WF} (g_outcome:aI C 4 (.ref 253) eh):aI C 5 (.ref 246) (e8 ["self"] fun loc hp P=>xr eh (loc++pad ["i"]) hp P):=by
 refine bA (by rw[h];rfl) (by rw[h];rfl) (ps:=["self"]) (jc fun _=>rfl) (by decide) (by rfl) (ad ["i"] ?_) rfl rfl rfl
 unfold xr
 refine aP ?_ ?_
 refine cD ?_ ?_ ?_
 exact ao
 refine bL h ?_
 walk_at "d"
 refine bJ h ?_
 walk_at "d"
 refine aU ?_ (bO h)
 refine aA ?_ (hR h)
 walk_at "d"
 refine aA ?_ (mA h)
 walk_at "d"
 refine aa "outcome" (vE h) g_outcome ?_ ?_
 walk_at "d"
 refine aA ?_ (mA h)
 walk_at "d"
 refine gN ?_
 walk_at "d"
noncomputable def kJ (d9:WF) (f_kept_or_gone:WF) (f_both_kept:WF):WS:=
 wS (cv ["ours","theirs"] (wU (wC (wM 197 "form" d9 (wA [148,277] "one" (wV "self")) (wC (wV "i") wN)) (wC (wM 197 "form" d9 (wA [148,277] "other" (wV "self")) (wC (wV "i") wN)) wN)))) (wS (e9 (dC (wB (wX jy (wV "ours") (wK AV.none))) (dC (wB (wX jy (wV "theirs") (wK AV.none))) cX)) (wS (wR (wU (wC (wL wN) (wC (wL wN) wN)))) wZ) wZ) (wS (e9 (wB (wX jy (wV "ours") (wK AV.none))) (wS (wR (wM 277 "kept_or_gone" f_kept_or_gone (wV "self") (wC (wV "i") (wC (wA [148,277] "other" (wV "self")) (wC (wV "theirs") (wC (wK (AV.int 1)) wN)))))) wZ) wZ) (wS (e9 (wB (wX jy (wV "theirs") (wK AV.none))) (wS (wR (wM 277 "kept_or_gone" f_kept_or_gone (wV "self") (wC (wV "i") (wC (wA [148,277] "one" (wV "self")) (wC (wV "ours") (wC (wK (AV.int 2)) wN)))))) wZ) wZ) (wS (wR (wM 277 "both_kept" f_both_kept (wV "self") (wC (wV "i") (wC (wV "ours") (wC (wV "theirs") wN))))) wZ))))
theorem vI {C:Cx} (h:HK C) {d9:WF} (g_form:aI C 1 (.ref 180) d9) {f_kept_or_gone:WF} (g_kept_or_gone:aI C 3 (.ref 260) f_kept_or_gone) {f_both_kept:WF} (g_both_kept:aI C 3 (.ref 267) f_both_kept):aI C 4 (.ref 253) (e8 ["self","i"] fun loc hp P=>kJ d9 f_kept_or_gone f_both_kept (loc++pad ["ours","theirs"]) hp P):=by
 refine bA (by rw[h];rfl) (by rw[h];rfl) (ps:=["self","i"]) (eW fun _ _=>rfl) (by decide) (by rfl) (ad ["ours","theirs"] ?_) rfl rfl rfl
 unfold kJ
 refine aP ?_ ?_
 refine bV (xs:=["ours","theirs"]) ?_
 walk_at "d"
 refine aa "form" (pL h) g_form ?_ ?_
 refine aA ?_ (f7 h)
 walk_at "d"
 refine aa "form" (pL h) g_form ?_ ?_
 refine aA ?_ (cU h)
 walk_at "d"
 refine bR ?_ ?_
 refine aG hC ?_ ?_
 walk_at "d"
 refine bR ?_ ?_
 refine aG hC ?_ ?_
 walk_at "d"
 exact ba
 walk_at "d"
 refine aG hC ?_ ?_
 walk_at "d"
 refine aa "kept_or_gone" (hU h) g_kept_or_gone ?_ ?_
 walk_at "d"
 refine aA ?_ (cU h)
 walk_at "d"
 refine aG hC ?_ ?_
 walk_at "d"
 refine aa "kept_or_gone" (hU h) g_kept_or_gone ?_ ?_
 walk_at "d"
 refine aA ?_ (f7 h)
 walk_at "d"
 refine aa "both_kept" (qr h) g_both_kept ?_ ?_
 walk_at "d"
noncomputable def fF (cu:WF) (eN:WF):WS:=
 wS (e9 (zT (wB (wM 197 "is_changed" cu (wV "side") (wC (wV "i") wN)))) (wS (wR (wU (wC (wL wN) (wC (wL wN) wN)))) wZ) wZ) (wS (wR (wU (wC (wL (wC (wV "form") wN)) (wC (wL (wC (wU (wC (wK (AV.str (Str.ofString "deleted"))) (wC (wM 80 "path" eN (wA [277] "base" (wV "self")) (wC (wV "i") wN)) (wC (wV "who") wN)))) wN)) wN)))) wZ)
theorem mQ {C:Cx} (h:HK C) {cu:WF} (g_is_changed:aI C 2 (.ref 187) cu) {eN:WF} (g_path:aI C 1 (.ref 77) eN):aI C 3 (.ref 260) (e8 ["self","i","side","form","who"] fun loc hp P=>fF cu eN (loc++pad []) hp P):=by
 refine bA (by rw[h];rfl) (by rw[h];rfl) (ps:=["self","i","side","form","who"]) (I9 fun _ _ _ _ _=>rfl) (by decide) (by rfl) (ad [] ?_) rfl rfl rfl
 unfold fF
 refine aP ?_ ?_
 walk_at "d"
 refine wq ?_
 refine lg ?_
 refine aa "is_changed" (pM h) g_is_changed ?_ ?_
 walk_at "d"
 refine aa "path" (xe h) g_path ?_ ?_
 refine aA ?_ (hR h)
 walk_at "d"
noncomputable def hY (eN:WF) (cG:WF) (bI:WF) (dp:WF) (fz:WF):WS:=
 wS (cv ["base","path"] (wU (wC (wI (wA [80] "forms" (wA [277] "base" (wV "self"))) (wV "i")) (wC (wM 80 "path" eN (wA [277] "base" (wV "self")) (wC (wV "i") wN)) wN)))) (wS (ie (px ["value","clashes"]) (wF cG (wC (wV "base") (wC (wV "ours") (wC (wV "theirs") (wC (wV "path") wN)))))) (wS (ie (px ["attributes","more"]) (wF bI (wC (wV "base") (wC (wV "ours") (wC (wV "theirs") (wC (wV "path") wN)))))) (wS (ie (px ["children","rest"]) (wM 277 "children" dp (wV "self") (wC (wV "i") (wC (wV "path") wN)))) (wS (wR (wU (wC (wL (wC (wU (wC (wI (wV "base") (wK (AV.int 0))) (wC (wI (wV "base") (wK (AV.int 1))) (wC (wV "value") (wC (wV "attributes") (wC (wF eL (wC (wF fz (wC (wV "children") wN)) wN)) wN)))))) wN)) (wC (wX ak (wX ak (wV "clashes") (wV "more")) (wV "rest")) wN)))) wZ))))
theorem qx {C:Cx} (h:HK C) {eN:WF} (g_path:aI C 1 (.ref 77) eN) {cG:WF} (g_merged_value:aI C 1 (.ref 208) cG) {bI:WF} (g_merged_attributes:aI C 2 (.ref 218) bI) {dp:WF} (g_children:aI C 2 (.ref 274) dp) {fz:WF} (g_joined:aI C 2 (.ref 35) fz):aI C 3 (.ref 267) (e8 ["self","i","ours","theirs"] fun loc hp P=>hY eN cG bI dp fz (loc++pad ["base","path","value","clashes","attributes","more","children","rest"]) hp P):=by
 refine bA (by rw[h];rfl) (by rw[h];rfl) (ps:=["self","i","ours","theirs"]) (oO fun _ _ _ _=>rfl) (by decide) (by rfl) (ad ["base","path","value","clashes","attributes","more","children","rest"] ?_) rfl rfl rfl
 unfold hY
 refine aP ?_ ?_
 refine bV (xs:=["base","path"]) ?_
 walk_at "d"
 refine aU ?_ (bO h)
 refine aA ?_ (hR h)
 walk_at "d"
 refine aa "path" (xe h) g_path ?_ ?_
 refine aA ?_ (hR h)
 walk_at "d"
 refine fT ?_ ?_
 refine aK "merged_value" h g_merged_value ?_
 walk_at "d"
 exact cQ
 walk_at "d"
 refine fT ?_ ?_
 refine aK "merged_attributes" h g_merged_attributes ?_
 walk_at "d"
 exact cQ
 walk_at "d"
 refine fT ?_ ?_
 refine aa "children" (sU h) g_children ?_ ?_
 walk_at "d"
 exact cQ
 walk_at "d"
 refine dP h ?_
 walk_at "d"
 refine aK "joined" h g_joined ?_
 walk_at "d"
 refine aH ac ?_ ?_
 refine aH ac ?_ ?_
 walk_at "d"
noncomputable def jF (bH:WF) (fJ:WF):WS:=
 wS (cv ["found","clashes"] (wU (wC (wL wN) (wC (wL wN) wN)))) (wS (wQ "numbers" (wI (wA [80] "children" (wA [277] "base" (wV "self"))) (wV "i"))) (wS (fQ (hM "place") (wF bh (wC (wX ak (wF cr (wC (wV "numbers") wN)) (wK (AV.int 1))) wN)) (wS (ie (px ["forms","more"]) (wF bH (wC (wM 197 "put_in" fJ (wA [148,277] "one" (wV "self")) (wC (wV "i") (wC (wV "place") wN))) (wC (wM 197 "put_in" fJ (wA [148,277] "other" (wV "self")) (wC (wV "i") (wC (wV "place") wN))) (wC (wV "path") (wC (wV "place") wN)))))) (wS (cv ["found","clashes"] (wU (wC (wX ak (wV "found") (wV "forms")) (wC (wX ak (wV "clashes") (wV "more")) wN)))) (wS (e9 (wB (wX sE (wV "place") (wF cr (wC (wV "numbers") wN)))) (wS (ie (px ["forms","more"]) (wI (wA [277] "rows" (wV "self")) (wI (wV "numbers") (wV "place")))) (wS (cv ["found","clashes"] (wU (wC (wX ak (wV "found") (wV "forms")) (wC (wX ak (wV "clashes") (wV "more")) wN)))) wZ)) wZ) wZ)))) (wS (wR (wU (wC (wV "found") (wC (wV "clashes") wN)))) wZ)))
theorem s8 {C:Cx} (h:HK C) {bH:WF} (g_merged_insertions:aI C 1 (.ref 225) bH) {fJ:WF} (g_put_in:aI C 1 (.ref 194) fJ):aI C 2 (.ref 274) (e8 ["self","i","path"] fun loc hp P=>jF bH fJ (loc++pad ["found","clashes","numbers","place","forms","more"]) hp P):=by
 refine bA (by rw[h];rfl) (by rw[h];rfl) (ps:=["self","i","path"]) (jd fun _ _ _=>rfl) (by decide) (by rfl) (ad ["found","clashes","numbers","place","forms","more"] ?_) rfl rfl rfl
 unfold jF
 refine aP ?_ ?_
 refine bV (xs:=["found","clashes"]) ?_
 walk_at "d"
 refine aU ?_ (b7 h)
 refine aA ?_ (hR h)
 walk_at "d"
 refine cD ?_ ?_ ?_
 exact ao
 refine bL h ?_
 walk_at "d"
 refine aH ac ?_ ?_
 refine bJ h ?_
 walk_at "d"
 refine fT ?_ ?_
 refine aK "merged_insertions" h g_merged_insertions ?_
 walk_at "d"
 refine aa "put_in" (qp h) g_put_in ?_ ?_
 refine aA ?_ (f7 h)
 walk_at "d"
 refine aa "put_in" (qp h) g_put_in ?_ ?_
 refine aA ?_ (cU h)
 walk_at "d"
 exact cQ
 walk_at "d"
 refine bV (xs:=["found","clashes"]) ?_
 walk_at "d"
 refine aH ac ?_ ?_
 walk_at "d"
 refine aH ac ?_ ?_
 walk_at "d"
 refine aG tf ?_ ?_
 walk_at "d"
 refine bJ h ?_
 walk_at "d"
 refine fT ?_ ?_
 walk_at "d"
 refine aA ?_ (mA h)
 walk_at "d"
 exact cQ
 walk_at "d"
 refine bV (xs:=["found","clashes"]) ?_
 walk_at "d"
 refine aH ac ?_ ?_
 walk_at "d"
 refine aH ac ?_ ?_
 walk_at "d"
noncomputable def mR (f_c_FlatForm:WF) (f_c_Side:WF) (f_c_Merge:WF) (d9:WF) (fI:WF) (o6:WF):WS:=
 wS (wQ "flat" (wF f_c_FlatForm (wC (wV "base") wN))) (wS (wQ "sides" (wL (wC (wF f_c_Side (wC (wV "flat") (wC (wF f_c_FlatForm (wC (wV "one") wN)) wN))) (wC (wF f_c_Side (wC (wV "flat") (wC (wF f_c_FlatForm (wC (wV "other") wN)) wN))) wN)))) (wS (e9 (dC (wB (wX dv (wM 197 "form" d9 (wI (wV "sides") (wK (AV.int 0))) (wC (wM 80 "top" fI (wV "flat") wN) wN)) (wK AV.none))) (dC (wB (wX dv (wM 197 "form" d9 (wI (wV "sides") (wK (AV.int 1))) (wC (wM 80 "top" fI (wV "flat") wN) wN)) (wK AV.none))) cX)) (wS (ie (px ["forms","clashes"]) (wM 277 "run" o6 (wF f_c_Merge (wC (wV "flat") (wC (wI (wV "sides") (wK (AV.int 0))) (wC (wI (wV "sides") (wK (AV.int 1))) wN)))) wN)) (wS (wR (wU (wC (wI (wV "forms") (wK (AV.int 0))) (wC (wV "clashes") wN)))) wZ)) wZ) (wS (e9 (pw (wB (wX bv (wV "other") (wV "base"))) (pw (wB (wX bv (wV "one") (wV "other"))) fe)) (wS (wR (wU (wC (wV "one") (wC (wL wN) wN)))) wZ) wZ) (wS (wR (jX (wB (wX bv (wV "one") (wV "base"))) (wU (wC (wV "other") (wC (wL wN) wN))) (wU (wC (wV "one") (wC (wL (wC (wU (wC (wK (AV.str (Str.ofString "replaced"))) (wC (wU wN) wN))) wN)) wN))))) wZ))))
theorem xt {C:Cx} (h:HK C) {f_c_FlatForm:WF} (g_c_FlatForm:aI C 3 (.ref 80) f_c_FlatForm) {f_c_Side:WF} (g_c_Side:aI C 6 (.ref 197) f_c_Side) {f_c_Merge:WF} (g_c_Merge:aI C 2 (.ref 277) f_c_Merge) {d9:WF} (g_form:aI C 1 (.ref 180) d9) {fI:WF} (g_top:aI C 1 (.ref 70) fI) {o6:WF} (g_run:aI C 5 (.ref 246) o6):aI C 7 (.ref 288) (e8 ["base","one","other"] fun loc hp P=>mR f_c_FlatForm f_c_Side f_c_Merge d9 fI o6 (loc++pad ["flat","sides","forms","clashes"]) hp P):=by
 refine bA (by rw[h];rfl) (by rw[h];rfl) (ps:=["base","one","other"]) (jd fun _ _ _=>rfl) (by decide) (by rfl) (ad ["flat","sides","forms","clashes"] ?_) rfl rfl rfl
 unfold mR
 refine aP ?_ ?_
 walk_at "d"
 refine aK "FlatForm" h g_c_FlatForm ?_
 walk_at "d"
 refine aK "Side" h g_c_Side ?_
 walk_at "d"
 refine aK "FlatForm" h g_c_FlatForm ?_
 walk_at "d"
 refine aK "Side" h g_c_Side ?_
 walk_at "d"
 refine aK "FlatForm" h g_c_FlatForm ?_
 walk_at "d"
 refine bR ?_ ?_
 refine aG eD ?_ ?_
 refine aa "form" (pL h) g_form ?_ ?_
 walk_at "d"
 refine aa "top" (qo h) g_top ?_ ?_
 walk_at "d"
 refine bR ?_ ?_
 refine aG eD ?_ ?_
 refine aa "form" (pL h) g_form ?_ ?_
 walk_at "d"
 refine aa "top" (qo h) g_top ?_ ?_
 walk_at "d"
 exact ba
 walk_at "d"
 refine fT ?_ ?_
 refine aa "run" (I8 h) g_run ?_ ?_
 refine aK "Merge" h g_c_Merge ?_
 walk_at "d"
 exact cQ
 walk_at "d"
 refine eU ?_ ?_
 refine aG bz ?_ ?_
 walk_at "d"
 refine eU ?_ ?_
 refine aG bz ?_ ?_
 walk_at "d"
 exact dM
 walk_at "d"
 refine ez ?_ ?_ ?_
 refine aG bz ?_ ?_
 walk_at "d"
noncomputable def jG:WS:=
 wS (wQ "cell" (wK (AV.int 0))) (wS (e9 (wB (wX ix (wF cr (wC (wV "script") wN)) (wK (AV.int 0)))) (wS (wQ "cell" (wI (wV "script") (wK (AV.int 0)))) wZ) wZ) (wS (wQ "big" (wV "cell")) (wS (e9 (wB (wX sE (wV "big") (wK (AV.int 0)))) (wS (wQ "big" (wX cI (wX cI (wK (AV.int 0)) (wV "big")) (wK (AV.int 1)))) wZ) wZ) (wS (wQ "mixed" (wX kx (wV "big") (wK (AV.int 2147483629)))) (wS (fQ (hM "k") (wF bh (wC (wF xO (wC (wF cr (wC (wV "script") wN)) (wC (wK (AV.int 40)) wN))) wN)) (wS (wQ "mixed" (wX kx (wX ak (wX ak (wX ak (wX i9 (wV "mixed") (wK (AV.int 48271))) (wX kx (wI (wV "script") (wV "k")) (wK (AV.int 2147483647)))) (wX i9 (wK (AV.int 31)) (wV "k"))) (wK (AV.int 17))) (wK (AV.int 2147483647)))) wZ)) (wS (e9 (wB (wX sE (wV "big") (wX Bb (wK (AV.int 10)) (wK (AV.int 18))))) (wS (wQ "big" (wK (AV.int 0))) wZ) wZ) (wS (wR (wL (wC (wV "big") (wC (wV "mixed") wN)))) wZ)))))))
theorem s9 {C:Cx} (h:HK C):aI C 1 (.ref 295) (e8 ["script"] fun loc hp P=>jG (loc++pad ["cell","big","mixed","k"]) hp P):=by
 refine bA (by rw[h];rfl) (by rw[h];rfl) (ps:=["script"]) (jc fun _=>rfl) (by decide) (by rfl) (ad ["cell","big","mixed","k"] ?_) rfl rfl rfl
 unfold jG
 refine aP ?_ ?_
 walk_at "d"
 refine aG ia ?_ ?_
 refine bJ h ?_
 walk_at "d"
 refine aG tf ?_ ?_
 walk_at "d"
 refine aH bq ?_ ?_
 refine aH bq ?_ ?_
 walk_at "d"
 refine aH ir ?_ ?_
 walk_at "d"
 refine cD ?_ ?_ ?_
 exact ao
 refine bL h ?_
 walk_at "d"
 refine xb h ?_
 walk_at "d"
 refine bJ h ?_
 walk_at "d"
 refine aH ir ?_ ?_
 refine aH ac ?_ ?_
 refine aH ac ?_ ?_
 refine aH ac ?_ ?_
 refine aH iw ?_ ?_
 walk_at "d"
 refine aH ir ?_ ?_
 walk_at "d"
 refine aH iw ?_ ?_
 walk_at "d"
 refine aG tf ?_ ?_
 walk_at "d"
 refine aH C0 ?_ ?_
 walk_at "d"
noncomputable def jH:WS:=
 wS (e9 (wB (wX ix (wI (wV "source") (wK (AV.int 0))) (wK (AV.int 0)))) (wS (wQ "drawn" (wX kx (wI (wV "source") (wK (AV.int 0))) (wV "top"))) (wS (dD (wV "source") (wK (AV.int 0)) (wX iu (wI (wV "source") (wK (AV.int 0))) (wV "top"))) (wS (wR (wV "drawn")) wZ))) wZ) (wS (dD (wV "source") (wK (AV.int 1)) (wX kx (wX ak (wX i9 (wI (wV "source") (wK (AV.int 1))) (wK (AV.int 39373))) (wK (AV.int 7))) (wK (AV.int 2147483647)))) (wS (wR (wX kx (wX iu (wX kx (wX i9 (wI (wV "source") (wK (AV.int 1))) (wI (wV "source") (wK (AV.int 1)))) (wK (AV.int 2147483629))) (wK (AV.int 32))) (wV "top"))) wZ))
theorem se {C:Cx} (h:HK C):aI C 1 (.ref 302) (e8 ["source","top"] fun loc hp P=>jH (loc++pad ["drawn"]) hp P):=by
 refine bA (by rw[h];rfl) (by rw[h];rfl) (ps:=["source","top"]) (eW fun _ _=>rfl) (by decide) (by rfl) (ad ["drawn"] ?_) rfl rfl rfl
 unfold jH
 refine aP ?_ ?_
 walk_at "d"
 refine aG ia ?_ ?_
 walk_at "d"
 refine aH ir ?_ ?_
 walk_at "d"
 refine cb ?_ ?_ ?_
 walk_at "d"
 refine aH ky ?_ ?_
 walk_at "d"
 refine cb ?_ ?_ ?_
 walk_at "d"
 refine aH ir ?_ ?_
 refine aH ac ?_ ?_
 refine aH iw ?_ ?_
 walk_at "d"
 refine aH ir ?_ ?_
 refine aH ky ?_ ?_
 refine aH ir ?_ ?_
 refine aH iw ?_ ?_
 walk_at "d"
noncomputable def kN (f_law_take:WF):WS:=
 wS (wR (wI (wV "things") (wF f_law_take (wC (wV "source") (wC (wF cr (wC (wV "things") wN)) wN))))) wZ
theorem vJ {C:Cx} (h:HK C) {f_law_take:WF} (g_law_take:aI C 1 (.ref 302) f_law_take):aI C 2 (.ref 309) (e8 ["source","things"] fun loc hp P=>kN f_law_take (loc++pad []) hp P):=by
 refine bA (by rw[h];rfl) (by rw[h];rfl) (ps:=["source","things"]) (eW fun _ _=>rfl) (by decide) (by rfl) (ad [] ?_) rfl rfl rfl
 unfold kN
 refine aP ?_ ?_
 walk_at "d"
 refine aK "_law_take" h g_law_take ?_
 walk_at "d"
 refine bJ h ?_
 walk_at "d"
noncomputable def jI (f_law_take:WF) (f_law_one:WF):WS:=
 wS (wQ "way" (jX (wB (wX ix (wV "at") (wK (AV.int 0)))) (wF f_law_take (wC (wV "source") (wC (wK (AV.int 5)) wN))) (wK (AV.int 4)))) (wS (e9 (wB (wX bv (wV "way") (wK (AV.int 0)))) (wS (wR (wL (wC (wK (AV.str (Str.ofString "comment"))) (wC (wK (AV.str (Str.ofString ""))) (wC (wF f_law_one (wC (wV "source") (wC (wL (wC (wK (AV.str (Str.ofString ""))) (wC (wK (AV.str (Str.ofString "x"))) (wC (wK (AV.str (Str.ofString "y"))) wN)))) wN))) (wC (wU wN) wN)))))) wZ) wZ) (wS (e9 (wB (wX bv (wV "way") (wK (AV.int 1)))) (wS (wR (wL (wC (wK (AV.str (Str.ofString "instruction"))) (wC (wF f_law_one (wC (wV "source") (wC (wL (wC (wK (AV.str (Str.ofString "p"))) (wC (wK (AV.str (Str.ofString "q"))) wN))) wN))) (wC (wF f_law_one (wC (wV "source") (wC (wL (wC (wK (AV.str (Str.ofString ""))) (wC (wK (AV.str (Str.ofString "x"))) wN))) wN))) (wC (wU wN) wN)))))) wZ) wZ) (wS (wQ "name" (jX (wB (wX ix (wV "at") (wK (AV.int 0)))) (wF f_law_one (wC (wV "source") (wC (wL (wC (wK (AV.str (Str.ofString "a"))) (wC (wK (AV.str (Str.ofString "b"))) wN))) wN))) (wK (AV.str (Str.ofString "r"))))) (wS (wQ "rows" (fX ["key","name","value","k"] (nN [lo ".0",lo "key",gi "_law_take",gi "_law_one",fr "source"] []) (nN [ce "source",lo "at",lo "way",lo "name",lo "rows",gi "_law_take",gi "_law_one",gi "tuple"] [fa "source",fa "at",fa "way",fa "name",fa "key",fa "rows"]) (hM "key") (wL (wC (wK (AV.str (Str.ofString "k"))) (wC (wK (AV.str (Str.ofString "m"))) wN))) (wB (wX bv (wF f_law_take (wC (wV "source") (wC (wK (AV.int 3)) wN))) (wK (AV.int 0)))) (wU (wC (wU (wC (wK (AV.str (Str.ofString ""))) (wC (wV "key") wN))) (wC (wV "key") (wC (wF f_law_one (wC (wV "source") (wC (wL (wC (wK (AV.str (Str.ofString "0"))) (wC (wK (AV.str (Str.ofString "1"))) wN))) wN))) wN)))))) (wS (wR (wL (wC (wK (AV.str (Str.ofString "element"))) (wC (wU (wC (wV "name") (wC (wK (AV.str (Str.ofString ""))) (wC (wV "name") wN)))) (wC (wK (AV.str (Str.ofString ""))) (wC (wF eL (wC (wV "rows") wN)) wN)))))) wZ)))))
theorem sf {C:Cx} (h:HK C) {f_law_take:WF} (g_law_take:aI C 1 (.ref 302) f_law_take) {f_law_one:WF} (g_law_one:aI C 2 (.ref 309) f_law_one):aI C 3 (.ref 314) (e8 ["source","at"] fun loc hp P=>jI f_law_take f_law_one (loc++pad ["way","name","rows"]) hp P):=by
 refine bA (by rw[h];rfl) (by rw[h];rfl) (ps:=["source","at"]) (eW fun _ _=>rfl) (by decide) (by rfl) (ad ["way","name","rows"] ?_) rfl rfl rfl
 unfold jI
 refine aP ?_ ?_
 walk_at "d"
 refine ez ?_ ?_ ?_
 refine aG ia ?_ ?_
 walk_at "d"
 refine aK "_law_take" h g_law_take ?_
 walk_at "d"
 try exact dN h
 walk_at "d"
 refine aG bz ?_ ?_
 walk_at "d"
 refine aK "_law_one" h g_law_one ?_
 walk_at "d"
 refine aG bz ?_ ?_
 walk_at "d"
 refine aK "_law_one" h g_law_one ?_
 walk_at "d"
 refine aK "_law_one" h g_law_one ?_
 walk_at "d"
 refine ez ?_ ?_ ?_
 refine aG ia ?_ ?_
 walk_at "d"
 refine aK "_law_one" h g_law_one ?_
 walk_at "d"
 refine jC ["key","name","value","k"] ?_ ?_ ?_ ?_
 walk_at "d"
 exact ao
 refine ly ?_
 refine aG bz ?_ ?_
 refine aK "_law_take" h g_law_take ?_
 walk_at "d"
 try exact cT h
 walk_at "d"
 refine aK "_law_one" h g_law_one ?_
 walk_at "d"
 refine dP h ?_
 walk_at "d"
noncomputable def jJ (f_law_node:WF) (f_law_take:WF) (f_law_one:WF):WS:=
 wS (ie (px ["nodes","parents"]) (wU (wC (wL (wC (wF f_law_node (wC (wV "source") (wC (wK (AV.int 0)) wN))) wN)) (wC (wL (wC (wK (AV.int 0)) wN)) wN)))) (wS (fQ (hM "at") (wF bh (wC (wK (AV.int 1)) (wC (wX ak (wK (AV.int 1)) (wF f_law_take (wC (wV "source") (wC (wV "most") wN)))) wN))) (wS (wQ "elements" (fX ["key","name","value","k"] (nN [lo ".0",lo "k",fr "nodes"] []) (nN [lo "source",lo "most",ce "nodes",ce "parents",ce "at",lo "elements",ce "forms",lo "inner",gi "_law_node",gi "range",gi "_law_take",gi "_law_one",gi "len",gi "tuple"] [fa "source",fa "most",fa "nodes",fa "parents",fa "at",fa "k",fa "elements",fa "forms",fa "inner"]) (hM "k") (wF bh (wC (wV "at") wN)) (wB (wX bv (wI (wI (wV "nodes") (wV "k")) (wK (AV.int 0))) (wK (AV.str (Str.ofString "element"))))) (wV "k"))) (wS (iR (fD "list" aV (wV "parents") (wC (wF f_law_one (wC (wV "source") (wC (wV "elements") wN))) wN))) (wS (iR (fD "list" aV (wV "nodes") (wC (wF f_law_node (wC (wV "source") (wC (wV "at") wN))) wN))) wZ)))) (wS (wQ "forms" (wX i9 (wL (wC (wU wN) wN)) (wF cr (wC (wV "nodes") wN)))) (wS (fQ (hM "at") (wF bh (wC (wX cI (wF cr (wC (wV "nodes") wN)) (wK (AV.int 1))) (wC (ld (wK (AV.int 1))) (wC (ld (wK (AV.int 1))) wN)))) (wS (wQ "inner" (wF eL (wC (fX ["key","name","value","k"] (nN [lo ".0",lo "k",fr "at",fr "forms",fr "parents"] []) (nN [lo "source",lo "most",ce "nodes",ce "parents",ce "at",lo "elements",ce "forms",lo "inner",gi "_law_node",gi "range",gi "_law_take",gi "_law_one",gi "len",gi "tuple"] [fa "source",fa "most",fa "nodes",fa "parents",fa "at",fa "k",fa "elements",fa "forms",fa "inner"]) (hM "k") (wF bh (wC (wX ak (wV "at") (wK (AV.int 1))) (wC (wF cr (wC (wV "nodes") wN)) wN))) (wB (wX bv (wI (wV "parents") (wV "k")) (wV "at"))) (wI (wV "forms") (wV "k"))) wN))) (wS (dD (wV "forms") (wV "at") (wX ak (wF eL (wC (wI (wV "nodes") (wV "at")) wN)) (wU (wC (wV "inner") wN)))) wZ))) (wS (wR (wI (wV "forms") (wK (AV.int 0)))) wZ))))
theorem sg {C:Cx} (h:HK C) {f_law_node:WF} (g_law_node:aI C 3 (.ref 314) f_law_node) {f_law_take:WF} (g_law_take:aI C 1 (.ref 302) f_law_take) {f_law_one:WF} (g_law_one:aI C 2 (.ref 309) f_law_one):aI C 4 (.ref 319) (e8 ["source","most"] fun loc hp P=>jJ f_law_node f_law_take f_law_one (loc++pad ["nodes","parents","at","elements","forms","inner"]) hp P):=by
 refine bA (by rw[h];rfl) (by rw[h];rfl) (ps:=["source","most"]) (eW fun _ _=>rfl) (by decide) (by rfl) (ad ["nodes","parents","at","elements","forms","inner"] ?_) rfl rfl rfl
 unfold jJ
 refine aP ?_ ?_
 refine fT ?_ ?_
 walk_at "d"
 refine aK "_law_node" h g_law_node ?_
 walk_at "d"
 exact cQ
 walk_at "d"
 refine cD ?_ ?_ ?_
 exact ao
 refine bL h ?_
 walk_at "d"
 refine aH ac ?_ ?_
 walk_at "d"
 refine aK "_law_take" h g_law_take ?_
 walk_at "d"
 refine jC ["key","name","value","k"] ?_ ?_ ?_ ?_
 refine bL h ?_
 walk_at "d"
 exact ao
 refine ly ?_
 refine aG bz ?_ ?_
 walk_at "d"
 refine aK "_law_one" h g_law_one ?_
 walk_at "d"
 refine aK "_law_node" h g_law_node ?_
 walk_at "d"
 refine aH iw ?_ ?_
 walk_at "d"
 refine bJ h ?_
 walk_at "d"
 refine cD ?_ ?_ ?_
 exact ao
 refine bL h ?_
 walk_at "d"
 refine aH bq ?_ ?_
 refine bJ h ?_
 walk_at "d"
 refine gN ?_
 walk_at "d"
 refine gN ?_
 walk_at "d"
 refine dP h ?_
 walk_at "d"
 refine fY ["key","name","value","k"] ?_ ?_ ?_ ?_
 refine bL h ?_
 walk_at "d"
 refine aH ac ?_ ?_
 walk_at "d"
 refine bJ h ?_
 walk_at "d"
 exact ao
 refine ly ?_
 refine aG bz ?_ ?_
 walk_at "d"
 refine cb ?_ ?_ ?_
 walk_at "d"
 refine aH ac ?_ ?_
 refine dP h ?_
 walk_at "d"
noncomputable def hZ:WS:=
 wS (wQ "inner" (wU (wC (wU (wC (wK (AV.str (Str.ofString "text"))) (wC (wK (AV.str (Str.ofString ""))) (wC (wX ak (wK (AV.str (Str.ofString "t"))) (wF nU (wC (wI (wV "told") (wK (AV.int 1))) wN))) (wC (wU wN) (wC (wU wN) wN)))))) wN))) (wS (e9 (wB (wX ca (wI (wV "told") (wK (AV.int 2))) (wK (AV.int 0)))) (wS (wQ "inner" (wX ak (wV "inner") (wU (wC (wU (wC (wK (AV.str (Str.ofString "comment"))) (wC (wK (AV.str (Str.ofString ""))) (wC (wX ak (wK (AV.str (Str.ofString "c"))) (wF nU (wC (wI (wV "told") (wK (AV.int 2))) wN))) (wC (wU wN) (wC (wU wN) wN)))))) wN)))) wZ) wZ) (wS (wR (wU (wC (wK (AV.str (Str.ofString "element"))) (wC (wU (wC (wV "name") (wC (wK (AV.str (Str.ofString ""))) (wC (wV "name") wN)))) (wC (wK (AV.str (Str.ofString ""))) (wC (wU (wC (wU (wC (wU (wC (wK (AV.str (Str.ofString ""))) (wC (wK (AV.str (Str.ofString "v"))) wN))) (wC (wK (AV.str (Str.ofString "v"))) (wC (wF nU (wC (wI (wV "told") (wK (AV.int 0))) wN)) wN)))) wN)) (wC (wV "inner") wN))))))) wZ))
theorem qy {C:Cx} (h:HK C):aI C 1 (.ref 326) (e8 ["name","told"] fun loc hp P=>hZ (loc++pad ["inner"]) hp P):=by
 refine bA (by rw[h];rfl) (by rw[h];rfl) (ps:=["name","told"]) (eW fun _ _=>rfl) (by decide) (by rfl) (ad ["inner"] ?_) rfl rfl rfl
 unfold hZ
 refine aP ?_ ?_
 walk_at "d"
 refine aH ac ?_ ?_
 walk_at "d"
 refine gR h ?_
 walk_at "d"
 refine aG cP ?_ ?_
 walk_at "d"
 refine aH ac ?_ ?_
 walk_at "d"
 refine aH ac ?_ ?_
 walk_at "d"
 refine gR h ?_
 walk_at "d"
 refine gR h ?_
 walk_at "d"
noncomputable def iA (f_law_child:WF):WS:=
 wS (wQ "inner" (wF eL (wC (fX ["key","name","value","k"] (nN [lo ".0",lo "k",gi "_law_child",fr "names",fr "rows"] []) (nN [ce "names",ce "rows",lo "inner",gi "tuple",gi "range",gi "len"] [fa "names",fa "rows",fa "k",fa "inner"]) (hM "k") (wF bh (wC (wF cr (wC (wV "names") wN)) wN)) (wB (wX dv (wI (wV "rows") (wV "k")) (wK AV.none))) (wF f_law_child (wC (wI (wV "names") (wV "k")) (wC (wI (wV "rows") (wV "k")) wN)))) wN))) (wS (wR (wU (wC (wK (AV.str (Str.ofString "element"))) (wC (wU (wC (wK (AV.str (Str.ofString "r"))) (wC (wK (AV.str (Str.ofString ""))) (wC (wK (AV.str (Str.ofString "r"))) wN)))) (wC (wK (AV.str (Str.ofString ""))) (wC (wU wN) (wC (wV "inner") wN))))))) wZ)
theorem qz {C:Cx} (h:HK C) {f_law_child:WF} (g_law_child:aI C 1 (.ref 326) f_law_child):aI C 2 (.ref 331) (e8 ["names","rows"] fun loc hp P=>iA f_law_child (loc++pad ["inner"]) hp P):=by
 refine bA (by rw[h];rfl) (by rw[h];rfl) (ps:=["names","rows"]) (eW fun _ _=>rfl) (by decide) (by rfl) (ad ["inner"] ?_) rfl rfl rfl
 unfold iA
 refine aP ?_ ?_
 walk_at "d"
 refine dP h ?_
 walk_at "d"
 refine fY ["key","name","value","k"] ?_ ?_ ?_ ?_
 refine bL h ?_
 walk_at "d"
 refine bJ h ?_
 walk_at "d"
 exact ao
 refine ly ?_
 refine aG eD ?_ ?_
 walk_at "d"
 refine aK "_law_child" h g_law_child ?_
 walk_at "d"
noncomputable def fg (f_law_one:WF) (f_law_take:WF):WS:=
 wS (wQ "rows" (wL wN)) (wS (fQ (hM "k") (wF bh (wC (wV "many") wN)) (wS (wQ "row" (wU (wC (wF f_law_one (wC (wV "source") (wC (wL (wC (wK (AV.int 0)) (wC (wK (AV.int 0)) (wC (wK (AV.int 1)) (wC (wK (AV.int 2)) wN))))) wN))) (wC (wF f_law_one (wC (wV "source") (wC (wL (wC (wK (AV.int 0)) (wC (wK (AV.int 0)) (wC (wK (AV.int 1)) (wC (wK (AV.int 2)) wN))))) wN))) (wC (wF f_law_one (wC (wV "source") (wC (wL (wC (wK (AV.int 0)) (wC (wK (AV.int 0)) (wC (wK (AV.int 1)) (wC (wK (AV.int 2)) wN))))) wN))) wN))))) (wS (iR (fD "list" aV (wV "rows") (wC (jX (wB (wX bv (wF f_law_take (wC (wV "source") (wC (wK (AV.int 5)) wN))) (wK (AV.int 0)))) (wK AV.none) (wV "row")) wN))) wZ))) (wS (wR (wV "rows")) wZ))
theorem nZ {C:Cx} (h:HK C) {f_law_one:WF} (g_law_one:aI C 2 (.ref 309) f_law_one) {f_law_take:WF} (g_law_take:aI C 1 (.ref 302) f_law_take):aI C 3 (.ref 338) (e8 ["source","many"] fun loc hp P=>fg f_law_one f_law_take (loc++pad ["rows","k","row"]) hp P):=by
 refine bA (by rw[h];rfl) (by rw[h];rfl) (ps:=["source","many"]) (eW fun _ _=>rfl) (by decide) (by rfl) (ad ["rows","k","row"] ?_) rfl rfl rfl
 unfold fg
 refine aP ?_ ?_
 walk_at "d"
 refine cD ?_ ?_ ?_
 exact ao
 refine bL h ?_
 walk_at "d"
 refine aK "_law_one" h g_law_one ?_
 walk_at "d"
 refine aK "_law_one" h g_law_one ?_
 walk_at "d"
 refine aK "_law_one" h g_law_one ?_
 walk_at "d"
 refine ez ?_ ?_ ?_
 refine aG bz ?_ ?_
 refine aK "_law_take" h g_law_take ?_
 walk_at "d"
noncomputable def eM:WS:=
 wS (wR (wU (wC (wK (AV.str (Str.ofString "v"))) (wC (wF nU (wC (wV "told") wN)) wN)))) wZ
theorem lO {C:Cx} (h:HK C):aI C 1 (.ref 345) (e8 ["told"] fun loc hp P=>eM (loc++pad []) hp P):=by
 refine bA (by rw[h];rfl) (by rw[h];rfl) (ps:=["told"]) (jc fun _=>rfl) (by decide) (by rfl) (ad [] ?_) rfl rfl rfl
 unfold eM
 refine aP ?_ ?_
 walk_at "d"
 refine gR h ?_
 walk_at "d"
noncomputable def fG (f_law_child:WF) (f_law_attribute:WF):WS:=
 wS (e9 (pw (wB (wX jy (wV "one") (wK AV.none))) (pw (wB (wX jy (wV "other") (wK AV.none))) fe)) (wS (wQ "kept" (jX (wB (wX jy (wV "other") (wK AV.none))) (wV "one") (wV "other"))) (wS (e9 (pw (wB (wX jy (wV "kept") (wK AV.none))) (pw (wB (wX bv (wV "kept") (wU (wC (wK (AV.int 0)) (wC (wK (AV.int 0)) (wC (wK (AV.int 0)) wN)))))) fe)) (wS (wR (wL (wC (wL wN) (wC (wL wN) wN)))) wZ) wZ) (wS (wR (wL (wC (wL (wC (wF f_law_child (wC (wV "name") (wC (wV "kept") wN))) wN)) (wC (wL (wC (wU (wC (wK (AV.str (Str.ofString "deleted"))) (wC (wU (wC (wV "at") wN)) (wC (jX (wB (wX jy (wV "one") (wK AV.none))) (wK (AV.int 1)) (wK (AV.int 2))) wN)))) wN)) wN)))) wZ))) wZ) (wS (cv ["clashes","told"] (wU (wC (wL wN) (wC (fX ["key","name","value","k"] (nN [lo ".0",lo "k",fr "one",fr "other"] []) (nN [lo "name",lo "at",ce "one",ce "other",lo "kept",lo "clashes",lo "told",lo "form",gi "_law_child",gi "range",gi "_law_attribute",gi "str"] [fa "name",fa "at",fa "one",fa "other",fa "kept",fa "k",fa "clashes",fa "told",fa "form"]) (hM "k") (wF bh (wC (wK (AV.int 3)) wN)) cX (jX (wB (wX bv (wI (wV "one") (wV "k")) (wK (AV.int 0)))) (wI (wV "other") (wV "k")) (wI (wV "one") (wV "k")))) wN)))) (wS (e9 (dC (wB (wX ca (wI (wV "one") (wK (AV.int 0))) (wI (wV "other") (wK (AV.int 0))))) (dC (wB (wX ca (wI (wV "one") (wK (AV.int 0))) (wK (AV.int 0)))) (dC (wB (wX ca (wI (wV "other") (wK (AV.int 0))) (wK (AV.int 0)))) cX))) (wS (iR (fD "list" aV (wV "clashes") (wC (wU (wC (wK (AV.str (Str.ofString "attribute"))) (wC (wU (wC (wV "at") wN)) (wC (wU (wC (wK (AV.str (Str.ofString ""))) (wC (wK (AV.str (Str.ofString "v"))) wN))) (wC (wF f_law_attribute (wC (wI (wV "one") (wK (AV.int 0))) wN)) (wC (wF f_law_attribute (wC (wI (wV "other") (wK (AV.int 0))) wN)) wN)))))) wN))) wZ) wZ) (wS (e9 (dC (wB (wX ca (wI (wV "one") (wK (AV.int 1))) (wI (wV "other") (wK (AV.int 1))))) (dC (wB (wX ca (wI (wV "one") (wK (AV.int 1))) (wK (AV.int 0)))) (dC (wB (wX ca (wI (wV "other") (wK (AV.int 1))) (wK (AV.int 0)))) cX))) (wS (iR (fD "list" aV (wV "clashes") (wC (wU (wC (wK (AV.str (Str.ofString "value"))) (wC (wU (wC (wV "at") (wC (wK (AV.int 0)) wN))) (wC (wX ak (wK (AV.str (Str.ofString "t"))) (wF nU (wC (wI (wV "one") (wK (AV.int 1))) wN))) (wC (wX ak (wK (AV.str (Str.ofString "t"))) (wF nU (wC (wI (wV "other") (wK (AV.int 1))) wN))) wN))))) wN))) wZ) wZ) (wS (wQ "form" (wF f_law_child (wC (wV "name") (wC (wV "told") wN)))) (wS (e9 (dC (wB (wX ca (wI (wV "one") (wK (AV.int 2))) (wI (wV "other") (wK (AV.int 2))))) (dC (wB (wX ca (wI (wV "one") (wK (AV.int 2))) (wK (AV.int 0)))) (dC (wB (wX ca (wI (wV "other") (wK (AV.int 2))) (wK (AV.int 0)))) cX))) (wS (iR (fD "list" aV (wV "clashes") (wC (wU (wC (wK (AV.str (Str.ofString "inserted"))) (wC (wU (wC (wV "at") wN)) (wC (wK (AV.int 1)) wN)))) wN))) (wS (wQ "form" (wX ak (JS (wV "form") (wK (AV.int 4))) (wU (wC (wX ak (wI (wV "form") (wK (AV.int 4))) (wU (wC (wU (wC (wK (AV.str (Str.ofString "comment"))) (wC (wK (AV.str (Str.ofString ""))) (wC (wX ak (wK (AV.str (Str.ofString "c"))) (wF nU (wC (wI (wV "other") (wK (AV.int 2))) wN))) (wC (wU wN) (wC (wU wN) wN)))))) wN))) wN)))) wZ)) wZ) (wS (wR (wL (wC (wL (wC (wV "form") wN)) (wC (wV "clashes") wN)))) wZ))))))
theorem mS {C:Cx} (h:HK C) {f_law_child:WF} (g_law_child:aI C 1 (.ref 326) f_law_child) {f_law_attribute:WF} (g_law_attribute:aI C 1 (.ref 345) f_law_attribute):aI C 2 (.ref 350) (e8 ["name","at","one","other"] fun loc hp P=>fG f_law_child f_law_attribute (loc++pad ["kept","clashes","told","form"]) hp P):=by
 refine bA (by rw[h];rfl) (by rw[h];rfl) (ps:=["name","at","one","other"]) (oO fun _ _ _ _=>rfl) (by decide) (by rfl) (ad ["kept","clashes","told","form"] ?_) rfl rfl rfl
 unfold fG
 refine aP ?_ ?_
 walk_at "d"
 refine eU ?_ ?_
 refine aG hC ?_ ?_
 walk_at "d"
 refine eU ?_ ?_
 refine aG hC ?_ ?_
 walk_at "d"
 exact dM
 walk_at "d"
 refine ez ?_ ?_ ?_
 refine aG hC ?_ ?_
 walk_at "d"
 refine eU ?_ ?_
 refine aG hC ?_ ?_
 walk_at "d"
 refine eU ?_ ?_
 refine aG bz ?_ ?_
 walk_at "d"
 exact dM
 walk_at "d"
 refine aK "_law_child" h g_law_child ?_
 walk_at "d"
 refine ez ?_ ?_ ?_
 refine aG hC ?_ ?_
 walk_at "d"
 refine bV (xs:=["clashes","told"]) ?_
 walk_at "d"
 refine fY ["key","name","value","k"] ?_ ?_ ?_ ?_
 refine bL h ?_
 walk_at "d"
 try exact cT h
 walk_at "d"
 exact ao
 exact kF
 refine ez ?_ ?_ ?_
 refine aG bz ?_ ?_
 walk_at "d"
 refine bR ?_ ?_
 refine aG cP ?_ ?_
 walk_at "d"
 refine bR ?_ ?_
 refine aG cP ?_ ?_
 walk_at "d"
 refine bR ?_ ?_
 refine aG cP ?_ ?_
 walk_at "d"
 exact ba
 walk_at "d"
 refine aK "_law_attribute" h g_law_attribute ?_
 walk_at "d"
 refine aK "_law_attribute" h g_law_attribute ?_
 walk_at "d"
 refine bR ?_ ?_
 refine aG cP ?_ ?_
 walk_at "d"
 refine bR ?_ ?_
 refine aG cP ?_ ?_
 walk_at "d"
 refine bR ?_ ?_
 refine aG cP ?_ ?_
 walk_at "d"
 exact ba
 walk_at "d"
 refine aH ac ?_ ?_
 walk_at "d"
 refine gR h ?_
 walk_at "d"
 refine aH ac ?_ ?_
 walk_at "d"
 refine gR h ?_
 walk_at "d"
 refine aK "_law_child" h g_law_child ?_
 walk_at "d"
 refine bR ?_ ?_
 refine aG cP ?_ ?_
 walk_at "d"
 refine bR ?_ ?_
 refine aG cP ?_ ?_
 walk_at "d"
 refine bR ?_ ?_
 refine aG cP ?_ ?_
 walk_at "d"
 exact ba
 walk_at "d"
 refine aH ac ?_ ?_
 refine Be ?_ ?_
 walk_at "d"
 try exact dN h
 walk_at "d"
 refine aH ac ?_ ?_
 walk_at "d"
 try exact dN h
 walk_at "d"
 refine aH ac ?_ ?_
 walk_at "d"
 refine gR h ?_
 walk_at "d"
noncomputable def fh (f_law_take:WF) (f_law_changes:WF) (f_law_whole:WF) (f_law_together:WF) (bM:WF):WS:=
 wS (wQ "names" (JS (wL (wC (wK (AV.str (Str.ofString "a"))) (wC (wK (AV.str (Str.ofString "b"))) (wC (wK (AV.str (Str.ofString "c"))) wN)))) (wX ak (wK (AV.int 1)) (wF f_law_take (wC (wV "source") (wC (wK (AV.int 3)) wN)))))) (wS (cv ["one","other"] (wU (wC (wF f_law_changes (wC (wV "source") (wC (wF cr (wC (wV "names") wN)) wN))) (wC (wF f_law_changes (wC (wV "source") (wC (wF cr (wC (wV "names") wN)) wN))) wN)))) (wS (wQ "base" (wF f_law_whole (wC (wV "names") (wC (wX i9 (wL (wC (wU (wC (wK (AV.int 0)) (wC (wK (AV.int 0)) (wC (wK (AV.int 0)) wN)))) wN)) (wF cr (wC (wV "names") wN))) wN)))) (wS (cv ["forms","clashes"] (wU (wC (wL wN) (wC (wL wN) wN)))) (wS (fQ (hM "at") (wF bh (wC (wF cr (wC (wV "names") wN)) wN)) (wS (wQ "more" (wF f_law_together (wC (wI (wV "names") (wV "at")) (wC (wV "at") (wC (wI (wV "one") (wV "at")) (wC (wI (wV "other") (wV "at")) wN)))))) (wS (cv ["forms","clashes"] (wU (wC (wX ak (wV "forms") (wI (wV "more") (wK (AV.int 0)))) (wC (wX ak (wV "clashes") (wI (wV "more") (wK (AV.int 1)))) wN)))) wZ))) (wS (wQ "due" (wU (wC (wK (AV.str (Str.ofString "element"))) (wC (wU (wC (wK (AV.str (Str.ofString "r"))) (wC (wK (AV.str (Str.ofString ""))) (wC (wK (AV.str (Str.ofString "r"))) wN)))) (wC (wK (AV.str (Str.ofString ""))) (wC (wU wN) (wC (wF eL (wC (wV "forms") wN)) wN))))))) (wS (wR (wX bv (wF bM (wC (wV "base") (wC (wF f_law_whole (wC (wV "names") (wC (wV "one") wN))) (wC (wF f_law_whole (wC (wV "names") (wC (wV "other") wN))) wN)))) (wU (wC (wV "due") (wC (wV "clashes") wN))))) wZ))))))
theorem n7 {C:Cx} (h:HK C) {f_law_take:WF} (g_law_take:aI C 1 (.ref 302) f_law_take) {f_law_changes:WF} (g_law_changes:aI C 3 (.ref 338) f_law_changes) {f_law_whole:WF} (g_law_whole:aI C 2 (.ref 331) f_law_whole) {f_law_together:WF} (g_law_together:aI C 2 (.ref 350) f_law_together) {bM:WF} (g_merged:aI C 7 (.ref 288) bM):aI C 8 (.ref 357) (e8 ["source"] fun loc hp P=>fh f_law_take f_law_changes f_law_whole f_law_together bM (loc++pad ["names","one","other","base","forms","clashes","at","more","due"]) hp P):=by
 refine bA (by rw[h];rfl) (by rw[h];rfl) (ps:=["source"]) (jc fun _=>rfl) (by decide) (by rfl) (ad ["names","one","other","base","forms","clashes","at","more","due"] ?_) rfl rfl rfl
 unfold fh
 refine aP ?_ ?_
 walk_at "d"
 refine Be ?_ ?_
 walk_at "d"
 refine aH ac ?_ ?_
 walk_at "d"
 refine aK "_law_take" h g_law_take ?_
 walk_at "d"
 try exact cT h
 walk_at "d"
 refine bV (xs:=["one","other"]) ?_
 walk_at "d"
 refine aK "_law_changes" h g_law_changes ?_
 walk_at "d"
 refine bJ h ?_
 walk_at "d"
 refine aK "_law_changes" h g_law_changes ?_
 walk_at "d"
 refine bJ h ?_
 walk_at "d"
 refine aK "_law_whole" h g_law_whole ?_
 walk_at "d"
 refine aH iw ?_ ?_
 walk_at "d"
 refine bJ h ?_
 walk_at "d"
 refine bV (xs:=["forms","clashes"]) ?_
 walk_at "d"
 refine cD ?_ ?_ ?_
 exact ao
 refine bL h ?_
 walk_at "d"
 refine bJ h ?_
 walk_at "d"
 refine aK "_law_together" h g_law_together ?_
 walk_at "d"
 refine bV (xs:=["forms","clashes"]) ?_
 walk_at "d"
 refine aH ac ?_ ?_
 walk_at "d"
 refine aH ac ?_ ?_
 walk_at "d"
 refine dP h ?_
 walk_at "d"
 refine jx bz ?_ ?_
 refine aK "merged" h g_merged ?_
 walk_at "d"
 refine aK "_law_whole" h g_law_whole ?_
 walk_at "d"
 refine aK "_law_whole" h g_law_whole ?_
 walk_at "d"
set_option maxHeartbeats 1000000
theorem bB {T:WT} {B:WS} {chk:Hp→Prop} {P:Fl→aX→Hp→Prop} (items:List AV) (I:Nat→aX→Hp→Prop) {loc:aX} {hp:Hp} (h0:I 0 loc hp)
  (step:∀ (i:Nat) x loc hp (K:aX→Hp→Prop),items[i]?=some x→I i loc hp→(∀ loc2 hp2,I (i+1) loc2 hp2→K loc2 hp2)→T x loc fun loc1=>B loc1 hp fun fl loc2 hp2=>match fl with
   | .next=>chk hp2∧K loc2 hp2
   | .cont=>chk hp2∧K loc2 hp2
   | .brk=>P .next loc2 hp2
   | .ret v=>P (.ret v) loc2 hp2)
  (fin:∀ loc hp,I items.length loc hp→P .next loc hp):qW T B chk items loc hp P:=by
 have main:∀ (k:Nat) (loc:aX) (hp:Hp),k≤items.length→I (items.length-k) loc hp→qW T B chk (items.drop (items.length-k)) loc hp P:=by
  intro k
  induction k with
  | zero=>
   intro loc hp _ h
   rw[Nat.sub_zero,List.drop_length]
   exact fin loc hp h
  | succ k ih=>
   intro loc hp hk h
   have hlt:items.length-(k+1)<items.length:=by exact DZ hk
   rw[List.drop_eq_getElem_cons hlt]
   have e:items.length-(k+1)+1=items.length-k:=by exact D0 hk
   rw[e]
   refine step _ _ loc hp _ (gE hlt) h fun loc2 hp2 h2=>?_
   rw[e] at h2
   exact ih loc2 hp2 (by exact D2 e) h2
 have:=main items.length loc hp (Nat.le_refl _) (by rw[Nat.sub_self];exact h0)
 rwa [Nat.sub_self,List.drop_zero] at this
theorem di {T:WT} {t:WB} {e:WE} {chk:Hp→Prop} {P:List AV→Hp→Prop} (items:List AV) (I:Nat→List AV→aX→Hp→Prop) {loc:aX} {hp:Hp} (h0:I 0 [] loc hp)
  (step:∀ (i:Nat) x acc loc hp (K:List AV→aX→Hp→Prop),items[i]?=some x→I i acc loc hp→(∀ acc2 loc2 hp2,I (i+1) acc2 loc2 hp2→K acc2 loc2 hp2)→
   T x loc fun loc1=>t loc1 hp fun b hp1=>if b=true then e loc1 hp1 fun y hp2=>acc.length≤sizeLine∧chk hp2∧K (acc++[y]) loc1 hp2 else chk hp1∧K acc loc1 hp1)
  (fin:∀ acc loc hp,I items.length acc loc hp→P acc hp):eV T t e chk items loc hp [] P:=by
 have main:∀ (k:Nat) (acc:List AV) (loc:aX) (hp:Hp),k≤items.length→I (items.length-k) acc loc hp→eV T t e chk (items.drop (items.length-k)) loc hp acc P:=by
  intro k
  induction k with
  | zero=>
   intro acc loc hp _ h
   rw[Nat.sub_zero,List.drop_length]
   exact fin acc loc hp h
  | succ k ih=>
   intro acc loc hp hk h
   have hlt:items.length-(k+1)<items.length:=by exact DZ hk
   rw[List.drop_eq_getElem_cons hlt]
   have e:items.length-(k+1)+1=items.length-k:=by exact D0 hk
   rw[e]
   refine step _ _ acc loc hp (fun acc loc hp=>eV _ _ _ _ (items.drop (items.length-k)) loc hp acc P) (gE hlt) h fun acc2 loc2 hp2 h2=>?_
   rw[e] at h2
   exact ih acc2 loc2 hp2 (by exact D2 e) h2
 have:=main items.length [] loc hp (Nat.le_refl _) (by rw[Nat.sub_self];exact h0)
 rwa [Nat.sub_self,List.drop_zero] at this
theorem aE (hp:Hp) (o:aC):(hp++[o])[hp.length]?=some o:=by simp
theorem aB {hp:Hp} {n:Nat} {o:aC} (l:Hp) (h:hp[n]?=some o):(hp++l)[n]?=some o:=by
 rw[List.getElem?_append_left (bj h)];exact h
theorem aQ {hp:Hp} {n:Nat} {o:aC} (o':aC) (h:hp[n]?=some o):(hp.set n o')[n]?=some o':=List.getElem?_set_self (bj h)
theorem aJ {hp:Hp} {n m:Nat} (o':aC) (h:n≠m):(hp.set n o')[m]?=hp[m]?:=List.getElem?_set_ne h
theorem aR {hp:Hp} {n:Nat} {o:aC} (h:hp[n]?=some o):n<hp.length:=(bj h)
noncomputable abbrev Kp (hp hp':Hp):Prop:=∀ (n:Nat) o,hp[n]?=some o→hp'[n]?=some o
theorem Kp.refl (hp:Hp):Kp hp hp:=fun _ _ h=>h
theorem Kp.trans {a b c:Hp} (x:Kp a b) (y:Kp b c):Kp a c:=fun n o h=>y n o (x n o h)
theorem Kp.app (hp l:Hp):Kp hp (hp++l):=fun _ _ h=>aB l h
theorem Kp.len {hp hp':Hp} (k:Kp hp hp'):hp.length≤hp'.length:=by
 rcases Nat.eq_zero_or_pos hp.length with h | h
 ·exact Jj h
 ·have:=aR (k (hp.length-1) _ (gE (by exact Jk h)))
  exact Jl this
theorem Kp.set {hp hp':Hp} {n:Nat} (k:Kp hp hp') (h:hp.length≤n) (o:aC):Kp hp (hp'.set n o):=fun m o' q=>by
 have:=aR q
 rw[aJ o (by exact jR this h)];exact k m o' q
noncomputable def LF (n:Nat):Prop:=n≤1000
theorem sz {n:Nat} (h:autoParam (n≤100000) au):n≤sizeLine:=by rw[sizeLine_eq];exact CL h
theorem fH {l:List AV} {i:Nat} {x:AV} (h:l[i]?=some x):qK l i=some x:=by
 have hlt:=(bj h)
 unfold qK seqIndex?
 have h1:¬ ((i:Int)<0):=by exact zG
 have h2:(i:Int)<(l.length:Int):=by exact CM hlt
 simp[h1,h2,h]
theorem vK {l:List AV} {x:AV}:qK (l++[x]) (-1)=some x:=by
 unfold qK seqIndex?
 have h1:(-1:Int)<0:=by exact Jm
 have h2:(-1:Int)+((l++[x]).length:Int)=(l.length:Int):=by simp;exact Jn
 have h3:(l.length:Int)<((l++[x]).length:Int):=by simp;exact Jo
 have h4:(0:Int)≤(l.length:Int):=by exact rv
 simp only[h1,if_true,h2,h3,h4,Bool.and_self,decide_true,and_self,Int.toNat_natCast]
 simp
theorem mT {i:Nat} (h:i<2 ^ 62):ww i:=⟨by exact CN,by exact Jp h⟩
theorem Cl {l:List AV} {i:Nat} {x:AV} {hp:Hp} {P:AV→Hp→Prop} (h:l[i]?=some x) (hi:i<2 ^ 62) (hP:P x hp):ai (.tup l) (.int i) hp P:=.tup (fH h) (mT hi) hP
theorem aD {n:Nat} {l:List AV} {i:Nat} {x:AV} {hp:Hp} {P:AV→Hp→Prop} (hn:hp[n]?=some (.list l)) (h:l[i]?=some x) (hi:i<2 ^ 62) (hP:P x hp):ai (.ref n) (.int i) hp P:=.list hn (fH h) (mT hi) hP
theorem lU {n:Nat} {l:List AV} {x:AV} {hp:Hp} {P:AV→Hp→Prop} (hn:hp[n]?=some (.list (l++[x]))) (hP:P x hp):ai (.ref n) (.int (-1)) hp P:=.list hn vK ⟨by decide,by decide⟩ hP
theorem jK {n:Nat} {l:List AV} {x:AV} {hp:Hp} {P:AV→Hp→Prop} (hn:hp[n]?=some (.list l)) (hz:l.length≤100000) (hP:P .none (hp.set n (.list (l++[x])))) :
  (∃ m o,AV.ref n=AV.ref m∧hp[m]?=some o∧nV o = "list")∧aV [.ref n,x] hp P:=⟨⟨n,_,rfl,hn,rfl⟩,hn,sz hz,hP⟩
theorem bW {n:Nat} {l:List AV} {x:AV} {hp:Hp} {P:AV→Hp→Prop} (hn:hp[n]?=some (.list l)) (hz:l.length≤100000) (hP:P .none (hp.set n (.list (l++[x])))):aV [.ref n,x] hp P:=⟨hn,sz hz,hP⟩
theorem xu {n:Nat} {l:List AV} {x:AV} {hp:Hp} {P:AV→Hp→Prop} (hn:hp[n]?=some (.list (l++[x]))) (hz:l.length≤10000) (hP:P x (hp.set n (.list l))) :
  (∃ m o,AV.ref n=AV.ref m∧hp[m]?=some o∧nV o = "list")∧xQ [.ref n] hp P:=⟨⟨n,_,rfl,hn,rfl⟩,hn,Nat.lt_of_le_of_lt hz (by decide),hP⟩
theorem mU {n:Nat} {l:List AV} {i:Nat} {x:AV} {hp:Hp} {P:Hp→Prop} (hn:hp[n]?=some (.list l)) (hi:i<l.length) (hz:l.length≤100000) (hP:P (hp.set n (.list (l.set i x)))):qT (.ref n) (.int i) x hp P:=.list hn (by exact rv) (by exact CM hi) (by exact Jq hi hz) hP
theorem bX {n:Nat} {l:List AV} {hp:Hp} {P:AV→Hp→Prop} (hn:hp[n]?=some (.list l)) (hz:l.length≤100000) (hP:P (.int l.length) hp):cr [.ref n] hp P:=.list hn (by exact vl hz) hP
theorem uG {l:List AV} {hp:Hp} {P:AV→Hp→Prop} (hz:l.length≤100000) (hP:P (.int l.length) hp):cr [.tup l] hp P:=.tup (by exact vl hz) hP
theorem pQ {a b:Int} {hp:Hp} (h1:-1000000≤a) (h2:a≤1000000) (h3:-1000000≤b) (h4:b≤1000000):aL (.rng a b 1) hp=some ((List.range (b-a).toNat).map fun (k:Nat)=>.int (a+k)):=by
 have e:Builtin.Range.rangeSize a b 1=((b-a).toNat:Int):=PyProof.Rows.rangeSize_nat a b
 have s:Builtin.Range.small a b 1=true:=by
  unfold Builtin.Range.small Builtin.Range.rangeFitsLong
  rw[e]
  simp
  exact Jr h1 h3 h2 h4
 delta aL
 dsimp only
 rw[if_pos s,e,Int.toNat_natCast]
 simp
theorem aO {n:Nat} {hp:Hp} (h:n≤100000):aL (.rng 0 n 1) hp=some ((List.range n).map fun (k:Nat)=>.int (k:Int)):=by
 rw[pQ (by exact Js) (by exact Jt) (by exact Ju) (by exact Jv h)]
 simp
theorem af {n:Nat} {l:List AV} {hp:Hp} (h:hp[n]?=some (.list l)):aL (.ref n) hp=some l:=by delta aL;dsimp only;rw[h]
theorem uH {n ep:Nat} {l:List (List Str×AV)} {hp:Hp} (h:hp[n]?=some (.dS ep l)):aL (.ref n) hp=some (l.map fun p=>.tup (p.1.map .str)):=by delta aL;dsimp only;rw[h]
theorem be {n:Nat} {o:aC} {hp:Hp} (h:hp[n]?=some o):ag (.ref n) hp=o:=by show(hp[n]?).getD _=o;rw[h];rfl
theorem JU {a b c:Int} {hp hp':Hp}:ag (.rng a b c) hp'=ag (.rng a b c) hp:=rfl
theorem vL {r:WS} {P:Fl→aX→Hp→Prop} {loc:aX} {hp:Hp}:cont r P .next loc hp=tl r loc hp P:=rfl
theorem xv {r:WS} {P:Fl→aX→Hp→Prop} {loc:aX} {hp:Hp} {v:AV}:cont r P (.ret v) loc hp=P (.ret v) loc hp:=rfl
theorem xw {r:WS} {P:Fl→aX→Hp→Prop} {loc:aX} {hp:Hp}:cont r P .brk loc hp=P .brk loc hp:=rfl
theorem vM {r:WS} {P:Fl→aX→Hp→Prop} {loc:aX} {hp:Hp}:cont r P .cont loc hp=P .cont loc hp:=rfl
theorem zn {P:AV→Hp→Prop} {loc:aX} {hp:Hp} {v:AV}:tw P (.ret v) loc hp=P v hp:=rfl
theorem xx {P:AV→Hp→Prop} {loc:aX} {hp:Hp}:tw P .next loc hp=P .none hp:=rfl
theorem Ic {a b:Int} {hp:Hp} {P:AV→Hp→Prop} (h:P (.int (a+b)) hp):ak (.int a) (.int b) hp P:=.int h
theorem Id {a b:Int} {hp:Hp} {P:AV→Hp→Prop} (h:P (.int (a-b)) hp):cI (.int a) (.int b) hp P:=.mk trivial h
theorem L5 {a b:Int} {hp:Hp} {P:AV→Hp→Prop} (h:P (.bool (decide (a<b))) hp):sE (.int a) (.int b) hp P:=.mk trivial h
theorem LG {a b:Int} {hp:Hp} {P:AV→Hp→Prop} (h:P (.bool (decide (b<a))) hp):ix (.int a) (.int b) hp P:=.mk trivial h
theorem L6 {a:AV} {hp:Hp} {P:AV→Hp→Prop} (h:P (.bool a.isNone) hp):jy a .none hp P:=⟨rfl,h⟩
theorem K6 {a:AV} {hp:Hp} {P:AV→Hp→Prop} (h:P (.bool (!a.isNone)) hp):dv a .none hp P:=⟨rfl,h⟩
theorem Ie {p:Nat} {hp:Hp} {P:AV→Hp→Prop} (h:P (.int (p:Int)) hp):cI (.int ((p+1:Nat):Int)) (.int 1) hp P:=by
 refine Id ?_;rw[show(((p+1:Nat):Int)-1)=(p:Int) from by exact CO];exact h
theorem K7 {p:Nat} {hp:Hp} {P:AV→Hp→Prop} (h:P (.bool true) hp):ix (.int ((p+1:Nat):Int)) (.int 0) hp P:=by
 refine LG ?_;rw[decide_eq_true (by exact D3)];exact h
theorem K8 {hp:Hp} {P:AV→Hp→Prop} (h:P (.bool false) hp):ix (.int ((0:Nat):Int)) (.int 0) hp P:=.mk trivial h
theorem gh {n m:Nat} {a b c:List AV} {hp:Hp} {P:AV→Hp→Prop} (e1:hp[n]?=some (.list a)) (e2:hp[m]?=some (.list b)) (e:a++b=c) (hz:c.length≤sizeLine) (h:P (.ref hp.length) (hp++[.list c])):ak (.ref n) (.ref m) hp P:=by
 subst e;exact .lists e1 e2 (by rw[← List.length_append];exact hz) h
noncomputable def DT (K:aX→Hp→Prop) (P:Fl→aX→Hp→Prop):Fl→aX→Hp→Prop
 | .next=>K
 | .cont=>K
 | .brk=>P .next
 | .ret v=>P (.ret v)
theorem xy {K:aX→Hp→Prop} {P:Fl→aX→Hp→Prop} {loc:aX} {hp:Hp}:DT K P .next loc hp=K loc hp:=rfl
theorem xz {K:aX→Hp→Prop} {P:Fl→aX→Hp→Prop} {loc:aX} {hp:Hp}:DT K P .cont loc hp=K loc hp:=rfl
theorem zo {K:aX→Hp→Prop} {P:Fl→aX→Hp→Prop} {loc:aX} {hp:Hp}:DT K P .brk loc hp=P .next loc hp:=rfl
theorem zp {K:aX→Hp→Prop} {P:Fl→aX→Hp→Prop} {loc:aX} {hp:Hp} {v:AV}:DT K P (.ret v) loc hp=P (.ret v) loc hp:=rfl
theorem LH {t:WB} {B:WS} {loc:aX} {hp:Hp} {P:Fl→aX→Hp→Prop} (I:Nat→aX→Hp→Prop) (n:Nat) (h0:I n loc hp)
  (hs:∀ n loc hp (K:aX→Hp→Prop),I n loc hp→(∀ m loc2 hp2,m<n→I m loc2 hp2→K loc2 hp2)→t loc hp fun b hp1=>if b=true then B loc hp1 (DT K P) else P .next loc hp1):kE t B loc hp P:=by
 refine⟨I,n,h0,fun n loc hp hI=>?_⟩
 have:=hs n loc hp (fun loc2 hp2=>∃ m,m<n∧I m loc2 hp2) hI fun m _ _ a b=>⟨m,a,b⟩
 have e:DT (fun loc2 hp2=>∃ m,m<n∧I m loc2 hp2) P=fun fl loc2 hp2=>match fl with
  | .next=>∃ m,m<n∧I m loc2 hp2
  | .cont=>∃ m,m<n∧I m loc2 hp2
  | .brk=>P .next loc2 hp2
  | .ret v=>P (.ret v) loc2 hp2:=by
  funext fl loc2 hp2;cases fl <;> rfl
 rw[e] at this
 exact this
theorem zq {c:Bool} {A B:Prop} (e:c=true) (h:A):if c=true then A else B:=by rw[if_pos e];exact h
theorem vN {c:Bool} {A B:Prop} (e:c=false) (h:B):if c=true then A else B:=by subst e;exact h
theorem L7 {n:Nat} {k:Int} {x:AV} {l:List (Int×AV)} {hp:Hp} {P:Hp→Prop} (e:hp[n]?=some (.dI l)) (hz:l.length≤sizeLine) (h:P (hp.set n (.dI ((k,x)::l)))):qT (.ref n) (.int k) x hp P:=.dI e hz h
theorem rA {l:Hp} {a:aC} {n:Nat} (h:n=l.length):(l++[a])[n]?=some a:=by subst h;exact aE l a
theorem Bj {n:Nat} {l:List AV} {hp:Hp} {P:AV→Hp→Prop} (e:hp[n]?=some (.list l)) (hz:l.length≤sizeLine) (h:P (.tup l) hp):eL [.ref n] hp P:=⟨e,hz,h⟩
theorem K9 {n:Int} {hp:Hp} {P:AV→Hp→Prop} (h:P (.rng 0 n 1) hp):bh [.int n] hp P:=.one h
theorem Ka {a b:Int} {hp:Hp} {P:AV→Hp→Prop} (h:P (.rng a b 1) hp):bh [.int a,.int b] hp P:=.two h
theorem L8 {b:Bool} {hp:Hp} {P:AV→Hp→Prop} (h:P (.int (if b=true then 1 else 0)) hp):sL [.bool b] hp P:=.bool h
theorem Kb {i:Int} {hp:Hp} {P:AV→Hp→Prop} (h:P (.int i) hp):sL [.int i] hp P:=.int h
theorem L9 {a b:Int} {hp:Hp} {P:AV→Hp→Prop} (h:P (.int (if b<a then b else a)) hp):xO [.int a,.int b] hp P:=.mk h
theorem yz {cs:List Addr} {x:String} {loc:aX} {P:Fl→aX→Hp→Prop} {n:Nat} {c:Addr} {l:List (String×AV)} {a:AV} {hp:Hp} (l':List (String×AV)) (e:hp[n]?=some (.inst c l)) (hP:P .next loc (hp.set n (.inst c l'))) (h':autoParam (lh l x a=l') au) (hc:autoParam (cs.elem c=true) au) (hz:autoParam (Nat.ble l.length 900=true) au):ty cs x loc P a (.ref n) hp:=by
 subst h';exact Kx e hP hc hz
theorem lV:pad []=[]:=rfl
theorem je (x:String) (l:List String):pad (x::l)=(x,none)::pad l:=rfl
theorem uI {α β:Type} (f:α→β):[].map f=[]:=rfl
theorem uJ {α β:Type} (f:α→β) (x:α) (l:List α):(x::l).map f=f x::l.map f:=rfl
theorem Ig {x:AV} {r:List AV} {hp:Hp} {P:AV→Hp→Prop} (h:P x hp):ai (.tup (x::r)) (.int 0) hp P:=.tup (by rw[show(0:Int)=((0:Nat):Int) from rfl];exact fH rfl) ⟨by decide,by decide⟩ h
theorem Ih {a x:AV} {r:List AV} {hp:Hp} {P:AV→Hp→Prop} (h:P x hp):ai (.tup (a::x::r)) (.int 1) hp P:=.tup (by rw[show(1:Int)=((1:Nat):Int) from rfl];exact fH rfl) ⟨by decide,by decide⟩ h
theorem Ii {a b x:AV} {r:List AV} {hp:Hp} {P:AV→Hp→Prop} (h:P x hp):ai (.tup (a::b::x::r)) (.int 2) hp P:=.tup (by rw[show(2:Int)=((2:Nat):Int) from rfl];exact fH rfl) ⟨by decide,by decide⟩ h
theorem La {a b c x:AV} {r:List AV} {hp:Hp} {P:AV→Hp→Prop} (h:P x hp):ai (.tup (a::b::c::x::r)) (.int 3) hp P:=.tup (by rw[show(3:Int)=((3:Nat):Int) from rfl];exact fH rfl) ⟨by decide,by decide⟩ h
theorem Lb {a b c d x:AV} {r:List AV} {hp:Hp} {P:AV→Hp→Prop} (h:P x hp):ai (.tup (a::b::c::d::x::r)) (.int 4) hp P:=.tup (by rw[show(4:Int)=((4:Nat):Int) from rfl];exact fH rfl) ⟨by decide,by decide⟩ h
local macro_rules | `(tactic| walk_at "o")=>do
 let f (s:String):=(s.splitOn " ").toArray.map fun x=>Lean.mkIdent x.toName
 let a:=f "ic Ic Id L5 LG L6 K6 K9 Ka L8 Kb L9 Ig Ih Ii La Lb"
 let b:=f "e8 ib ny lV je wS vL xv xw vM xy xz zo zp zn xx wZ wR e9 iR wQ fQ dD ie cv Cb px pF hM bS wN wC wK wV wU wL ld wz JS wI wX wB Bc zT cX fe dC pw jX wr fD wF wM wA fX qb oy getL List.lookup String.reduceBEq String.reduceEq Option.join_some Option.join_none dreduceIte Bool.false_eq_true uJ uI List.cons_append List.nil_append DR AV.isNone Bool.not_true Bool.not_false List.length_cons List.length_nil Nat.reduceAdd"
 let c:=f "Bool.not_true Bool.not_false exists_eq_left' exists_eq_left true_and and_true List.length_append List.length_cons List.length_nil Nat.zero_add Nat.reduceAdd List.mem_singleton List.mem_cons true_or or_true decide_true decide_false Bool.true_eq_false Bool.false_eq_true if_true if_false reduceIte reduceCtorEq Option.some.injEq AV.tup.injEq String.reduceEq String.reduceBEq beq_self_eq_true"
 `(tactic| first | with_reducible first $[| refine $a ?_]* | dsimp only[$[$b:term],*] | simp only[$[$c:term],*])
local macro_rules | `(tactic| walk_at "r")=>`(tactic| repeat walk_at "o")
theorem jf:∀ (n:Nat) (a:AV) (hp:Hp),a.ok n=true→a.flat hp=a:=by
 have all:∀ (n:Nat) (hp:Hp),(∀ a:AV,a.ok n=true→a.flat hp=a)→∀ l:List AV,(∀ a∈l,a.ok n=true)→AV.flats hp l=l:=by
  intro n hp ih l
  induction l with
  | nil=>intro _;rfl
  | cons a r hi=>intro h;show a.flat hp::AV.flats hp r=_;rw[ih a (h a (.head _)),hi fun x hx=>h x (.tail _ hx)]
 intro n
 induction n with
 | zero=>intro a hp h;cases a <;> first | rfl | simp_all[oN,oI,oS,oT,oL,oB,oR,oG,fv,fw]
 | succ n ih=>
  intro a hp h
  cases a with
  | tup l=>show AV.tup (AV.flats hp l)=_;rw[all n hp (fun a=>ih a hp) l (by simpa[oN,oI,oS,oT,oL,oB,oR,oG,fv,fw] using h)]
  | _=>first | rfl | simp_all[oN,oI,oS,oT,oL,oB,oR,oG,fv,fw]
theorem aq:∀ (n m:Nat) (a:AV),n≤m→a.ok n=true→a.ok m=true:=by
 intro n
 induction n with
 | zero=>intro m a _ h;cases a <;> cases m <;> simp_all[oN,oI,oS,oT,oL,oB,oR,oG,fv,fw]
 | succ n ih=>
  intro m a hm h
  obtain⟨m,rfl⟩:∃ k,m=k+1:=⟨m-1,by exact Jw hm⟩
  cases a with
  | tup l=>simp only[oN,oI,oS,oT,oL,oB,oR,oG,fv,fw,List.all_eq_true] at h ⊢;exact fun x hx=>ih m x (by exact D4 hm) (h x hx)
  | lst l=>simp only[oN,oI,oS,oT,oL,oB,oR,oG,fv,fw,List.all_eq_true] at h ⊢;exact fun x hx=>ih m x (by exact D4 hm) (h x hx)
  | _=>simp_all[oN,oI,oS,oT,oL,oB,oR,oG,fv,fw]
open Classical in
noncomputable def lP (a b:AV):Bool:=decide (a=b)
theorem bZ {a b:AV} (h:a=b):lP a b=true:=by classical unfold lP;exact decide_eq_true h
theorem bP {a b:AV} (h:¬ a=b):lP a b=false:=by classical unfold lP;exact decide_eq_false h
theorem uK {a b:AV}:lP a b=true↔a=b:=by classical unfold lP;exact decide_eq_true_iff
theorem iV {a b:Int}:lP (.int a) (.int b)=decide (a=b):=by
 by_cases h:a=b
 ·subst h;rw[bZ rfl,decide_eq_true rfl]
 ·rw[bP (fun q=>h (by injection q)),decide_eq_false h]
theorem eZ {a b:Str}:lP (.str a) (.str b)=decide (a=b):=by
 by_cases h:a=b
 ·subst h;rw[bZ rfl,decide_eq_true rfl]
 ·rw[bP (fun q=>h (by injection q)),decide_eq_false h]
theorem jg {a b:AV} {hp:Hp} {P:AV→Hp→Prop}:bv a b hp P↔(a.flat hp).ok 40=true∧(b.flat hp).ok 40=true∧P (.bool (lP (a.flat hp) (b.flat hp))) hp:=Iff.rfl
theorem mV {a b:AV} {hp:Hp} {P:AV→Hp→Prop}:ca a b hp P↔(a.flat hp).ok 40=true∧(b.flat hp).ok 40=true∧P (.bool (!lP (a.flat hp) (b.flat hp))) hp:=Iff.rfl
theorem fy {n:Nat} {l:List AV} {hp:Hp} (h:hp[n]?=some (.list l)):(AV.ref n).flat hp=.lst l:=by show IO n hp[n]?=_;rw[h];rfl
theorem bQ {a b:AV} {hp:Hp} {P:AV→Hp→Prop} (ha:a.ok 40=true) (hb:b.ok 40=true) (h:P (.bool (lP a b)) hp):bv a b hp P:=by
 rw[jg,jf 40 a hp ha,jf 40 b hp hb]
 exact⟨ha,hb,h⟩
theorem dw {a b:AV} {hp:Hp} {P:AV→Hp→Prop} (ha:a.ok 40=true) (hb:b.ok 40=true) (h:P (.bool (!lP a b)) hp):ca a b hp P:=by
 rw[mV,jf 40 a hp ha,jf 40 b hp hb]
 exact⟨ha,hb,h⟩
theorem uL {l:List AV}:lP (.lst l) (.lst [])=l.isEmpty:=by
 cases l with
 | nil=>exact bZ rfl
 | cons a r=>exact bP (fun q=>nomatch q)
theorem mW {n m:Nat} {l:List AV} {hp:Hp} {P:AV→Hp→Prop} (hn:hp[n]?=some (.list l)) (hm:hp[m]?=some (.list [])) (ok:∀ x∈l,x.ok 39=true) (h:P (.bool (!l.isEmpty)) hp):ca (.ref n) (.ref m) hp P:=by
 rw[mV,fy hn,fy hm,uL]
 exact⟨by simp only[oN,oI,oS,oT,oL,oB,oR,oG,fv,fw,List.all_eq_true];exact ok,rfl,h⟩
theorem rB {n m:Nat} {l:List AV} {hp:Hp} {P:AV→Hp→Prop} (hn:hp[n]?=some (.list l)) (hm:hp[m]?=some (.list [])) (ok:∀ x∈l,x.ok 39=true) (h:P (.bool l.isEmpty) hp):bv (.ref n) (.ref m) hp P:=by
 rw[jg,fy hn,fy hm,uL]
 exact⟨by simp only[oN,oI,oS,oT,oL,oB,oR,oG,fv,fw,List.all_eq_true];exact ok,rfl,h⟩
theorem dH {n:Nat} {i:Int}:(AV.int i).ok n=true:=by cases n <;> rfl
theorem JV {n:Nat}:AV.none.ok n=true:=by cases n <;> rfl
theorem mX {n:Nat} {s:Str} (h:PyData.strOk s=true):(AV.str s).ok n=true:=by cases n <;> exact h
theorem mY (s:String) {n:Nat} (h:PyData.strOk (Str.ofString s)=true):(AV.str (Str.ofString s)).ok n=true:=mX h
inductive mZ (x:AV) (k:Str) (v:AV):Prop
 | mk (lb a c):x=.tup [.str k,lb,v,a,c]→mZ x k v
noncomputable def tx:Str:=Str.ofString "text"
inductive uM (as:List AV) (hp:Hp) (P:AV→Hp→Prop):Prop
 | mk (n l):as=[.ref n]→hp[n]?=some (.list l)→l.length≤1000→(∀ (i:Nat) x,l[i]?=some x→∃ k v,mZ x k v∧PyData.strOk k=true∧(k=tx→i=0∧∃ s,v=.str s∧PyData.strOk s=true∧s≠Str.ofString ""))→(∀ r hp',Kp hp hp'→hp.length≤r→hp'[r]?=some (.list l)→P (.ref r) hp')→uM as hp P
section
variable {C:Cx}
theorem dR (h:HK C):aI C 1 (.ref 28) (fun _ _ _=>False):=(qv h).mono fun _ _ _ h=>h.elim
theorem fz (h:HK C):aI C 2 (.ref 35) uM:=by
 refine(xi h (dR h)).mono fun as hp P hF=>?_
 obtain⟨n,l,rfl,hn,hz,hl,hP⟩:=hF
 unfold mH
 walk_at "r"
 refine⟨sz,l,af (aB _ hn),?_⟩
 refine bB l (fun i loc hp'=>∃ c,loc=[("children",some (.ref n)),("found",some (.ref hp.length)),("child",c)]∧Kp hp hp'∧hp'[hp.length]?=some (.list (l.take i))) ⟨_,rfl,Kp.app _ _,aE _ _⟩ ?_ ?_
 ·rintro i x loc hp' K hx ⟨c,rfl,k,hf⟩ hK
  obtain⟨kd,v,⟨lb,a,cc,rfl⟩,ok,ht⟩:=hl i x hx
  walk_at "r"
  have okT:(AV.str (Str.ofString "text")).ok 40=true:=mY _ (by decide +kernel)
  have hsz:(l.take i).length≤100000:=by rw[List.length_take];exact zH hz
  have hil:=(bj hx)
  have take:l.take i++[AV.tup [AV.str kd,lb,v,a,cc]]=l.take (i+1):=by rw[List.take_add_one,hx];rfl
  have done:∀ (hp1:Hp),Kp hp hp1→hp1[hp.length]?=some (.list (l.take i))→(∃ m o,AV.ref (List.length hp)=AV.ref m∧hp1[m]?=some o∧nV o = "list")∧aV [AV.ref (List.length hp),AV.tup [AV.str kd,lb,v,a,cc]] hp1 fun a_2 hp1=>
    a_2=AV.none∧(aL (AV.ref n) hp1=some l∧ag (AV.ref n) hp1=ag (AV.ref n) (hp++[aC.list []]))∧K [("children",some (AV.ref n)),("found",some (AV.ref (List.length hp))),("child",some (AV.tup [AV.str kd,lb,v,a,cc]))] hp1:=by
   intro hp1 k1 f1
   refine jK f1 hsz ⟨rfl,?_,hK _ _ ⟨_,rfl,k1.set (Nat.le_refl _) _,by rw[aQ _ f1,take]⟩⟩
   have q:=k1.set (Nat.le_refl _) (.list (l.take i++[AV.tup [AV.str kd,lb,v,a,cc]])) n _ hn
   have q0:=aB [aC.list []] hn
   exact⟨af q,(be q).trans (be q0).symm⟩
  refine dw (mX ok) okT ?_
  walk_at "r"
  by_cases hk:kd=tx
  ·have e:(AV.str kd=AV.str (Str.ofString "text")):=by rw[hk];rfl
   obtain⟨rfl,s,rfl,oks,hs⟩:=ht hk
   rw[bZ e]
   walk_at "r"
   refine⟨sz,?_⟩
   have f0:=aB [aC.list []] hf
   refine mW f0 (aE _ _) (by simp) ?_
   simp only[List.take_zero,List.isEmpty_nil]
   walk_at "r"
   refine dw (mX oks) (mY _ (by decide +kernel)) ?_
   walk_at "r"
   rw[bP (fun q=>hs (by injection q))]
   walk_at "r"
   exact done _ (k.trans (Kp.app _ _)) f0
  ·have e:¬ (AV.str kd=AV.str (Str.ofString "text")):=fun q=>hk (by injection q)
   rw[bP e]
   walk_at "r"
   exact done _ k hf
 ·rintro loc hp' ⟨c,rfl,k,hf⟩
  rw[List.take_length] at hf
  walk_at "r"
  exact hP _ _ k (Nat.le_refl _) hf
end
inductive Fm where
 | nd (k:Str) (lb:AV) (v:Str) (at_:List (Str×Str)) (kids:List Fm)
noncomputable def Fm.k:Fm→Str | .nd k _ _ _ _=>k
noncomputable def Fm.lb:Fm→AV | .nd _ l _ _ _=>l
noncomputable def Fm.v:Fm→Str | .nd _ _ v _ _=>v
noncomputable def Fm.at_:Fm→List (Str×Str) | .nd _ _ _ a _=>a
noncomputable def Fm.kids:Fm→List Fm | .nd _ _ _ _ c=>c
noncomputable def em:Str:=Str.ofString ""
noncomputable def aS (k:Str):AV:=.tup [.str em,.str k]
noncomputable def dF (p:Str×Str):AV:=.tup [aS p.1,.str p.1,.str p.2]
mutual
noncomputable def Fm.av:Fm→AV
 | .nd k l v a ks=>.tup [.str k,l,.str v,.tup (a.map dF),.tup (Fm.avs ks)]
noncomputable def Fm.avs:List Fm→List AV
 | []=>[]
 | f::r=>f.av::Fm.avs r
end
mutual
noncomputable def Fm.size:Fm→Nat
 | .nd _ _ _ _ ks=>1+Fm.sizes ks
noncomputable def Fm.sizes:List Fm→Nat
 | []=>0
 | f::r=>f.size+Fm.sizes r
end
theorem Fm.avs_eq:∀ l:List Fm,Fm.avs l=l.map Fm.av
 | []=>rfl
 | f::r=>by simp[Fm.avs,Fm.avs_eq r]
theorem Fm.sizes_append:∀ (l m:List Fm),Fm.sizes (l++m)=Fm.sizes l+Fm.sizes m
 | [],m=>by simp[Fm.sizes]
 | f::r,m=>by simp[Fm.sizes,Fm.sizes_append r m,Nat.add_assoc]
theorem Fm.av_eq (f:Fm):f.av=.tup [.str f.k,f.lb,.str f.v,.tup (f.at_.map dF),.tup (f.kids.map Fm.av)]:=by
 cases f with
 | nd k l v a ks=>simp[Fm.av,Fm.k,Fm.lb,Fm.v,Fm.at_,Fm.kids,Fm.avs_eq]
theorem jh {f:Fm} {hp:Hp} {P:AV→Hp→Prop} (h:P (.str f.v) hp):ai f.av (.int 2) hp P:=f.av_eq▸Ii h
theorem Kd {f:Fm} {hp:Hp} {P:AV→Hp→Prop} (h:P (.str f.k) hp):ai f.av (.int 0) hp P:=f.av_eq▸Ig h
theorem Ke {f:Fm} {hp:Hp} {P:AV→Hp→Prop} (h:P f.lb hp):ai f.av (.int 1) hp P:=f.av_eq▸Ih h
theorem Fm.size_eq (f:Fm):f.size=1+Fm.sizes f.kids:=by cases f with | nd k l v a ks=>rfl
theorem Fm.kid_ok {f g:Fm} {n p:Nat} (h:f.av.ok n=true) (hg:f.kids[p]?=some g):g.av.ok n=true:=by
 rw[f.av_eq] at h
 cases n with
 | zero=>simp[oN,oI,oS,oT,oL,oB,oR,oG,fv,fw] at h
 | succ n=>
  simp only[oN,oI,oS,oT,oL,oB,oR,oG,fv,fw,List.all_cons,List.all_nil,Bool.and_true,Bool.and_eq_true] at h
  have h4:=h.2.2.2.2
  cases n with
  | zero=>simp[oN,oI,oS,oT,oL,oB,oR,oG,fv,fw] at h4
  | succ n=>
   simp only[oN,oI,oS,oT,oL,oB,oR,oG,fv,fw,List.all_eq_true] at h4
   exact aq n _ _ (by exact Jx) (h4 _ (List.mem_map_of_mem (List.mem_of_getElem? hg)))
theorem Fm.size_pos (f:Fm):1≤f.size:=by rw[f.size_eq];exact Jy
theorem Fm.len_sizes:∀ l:List Fm,l.length≤Fm.sizes l
 | []=>Nat.zero_le _
 | a::r=>by have:=a.size_pos;have:=Fm.len_sizes r;simp only[Fm.sizes,List.length_cons];exact zI ‹_› this
theorem Fm.mem_sizes:∀ {l:List Fm} {p:Nat} {g:Fm},l[p]?=some g→g.size≤Fm.sizes l
 | [],p,g,h=>by simp at h
 | a::r,0,g,h=>by simp at h;subst h;simp only[Fm.sizes];exact Jz
 | a::r,p+1,g,h=>by have:=Fm.mem_sizes (l:=r) (p:=p) (g:=g) (by simpa using h);simp only[Fm.sizes];exact KA this
theorem Fm.kid_size {f g:Fm} {p:Nat} (h:f.kids[p]?=some g):g.size≤f.size:=by rw[f.size_eq];have:=Fm.mem_sizes h;exact D5 this
theorem Fm.kids_len (f:Fm):f.kids.length≤f.size:=by rw[f.size_eq];have:=Fm.len_sizes f.kids;exact D5 this
set_option genInjectivity false in
structure fp where
 f:Fm
 pa:Option Nat
 pl:Nat
noncomputable def dU:Option Nat→AV
 | none=>.none
 | some r=>.int r
noncomputable def fp.av (x:fp):AV:=.tup [x.f.av,dU x.pa,.int x.pl]
noncomputable def im (l:List fp):Nat:=Fm.sizes (l.map fp.f)
structure zr (root:Fm) (rows left:List fp):Prop where
 src:∀ x∈rows++left,x=⟨root,none,0⟩∨∃ r y,x.pa=some r∧rows[r]?=some y∧y.f.kids[x.pl]?=some x.f
 all:∀ (r:Nat) y (p:Nat) g,rows[r]?=some y→y.f.kids[p]?=some g→∃ x∈rows++left,x.pa=some r∧x.pl=p
 nd:((rows++left).map fun x=>(x.pa,x.pl)).Nodup
 up:∀ (r:Nat) x r',rows[r]?=some x→x.pa=some r'→r'<r
 top:(rows=[]∧left=[⟨root,none,0⟩])∨rows[0]?=some ⟨root,none,0⟩
 size:rows.length+im left=root.size
 ok:∀ x∈rows++left,x.f.av.ok 36=true
 sub:∀ x∈rows++left,x.f.size≤root.size
theorem zr.start {root:Fm} (h:root.av.ok 36=true):zr root [] [⟨root,none,0⟩] where
 src:=fun x hx=>by simp at hx;exact .inl hx
 all:=fun r y p g h=>by simp at h
 nd:=by simp
 up:=fun r x r' h=>by simp at h
 top:=.inl ⟨rfl,rfl⟩
 size:=by simp[im,Fm.sizes]
 ok:=fun x hx=>by simp at hx;rw[hx];exact h
 sub:=fun x hx=>by simp at hx;rw[hx];exact Nat.le_refl _
noncomputable def cL (number:Nat) (f:Fm):List fp:=(List.range f.kids.length).pmap (fun p hp=>⟨f.kids[p],some number,p⟩) (fun p hp=>List.mem_range.mp hp)
theorem eE {number:Nat} {f:Fm} {p:Nat}:(cL number f)[p]?=(f.kids[p]?).map fun g=>⟨g,some number,p⟩:=by
 unfold cL
 rw[List.getElem?_pmap]
 by_cases h:p<f.kids.length
 ·simp[h]
 ·simp[h]
theorem oP (number:Nat) (f:Fm):(cL number f).map fp.f=f.kids:=by
 apply List.ext_getElem?
 intro i
 rw[List.getElem?_map,eE]
 cases f.kids[i]? <;> rfl
theorem iB {number:Nat} {f:Fm} {x:fp} (h:x∈cL number f):x.pa=some number∧f.kids[x.pl]?=some x.f:=by
 obtain⟨i,hi⟩:=List.mem_iff_getElem?.mp h
 rw[eE] at hi
 obtain⟨g,hg,rfl⟩:=Option.map_eq_some_iff.mp hi
 exact⟨rfl,hg⟩
theorem ji (number:Nat) (f:Fm):(cL number f).map (fun x=>(x.pa,x.pl))=(List.range f.kids.length).map fun p=>(some number,p):=by
 apply List.ext_getElem?
 intro i
 rw[List.getElem?_map,eE,List.getElem?_map]
 by_cases h:i<f.kids.length
 ·simp[h]
 ·simp[h]
theorem zr.step {root:Fm} {rows left:List fp} {x:fp} (g:zr root rows (left++[x])):zr root (rows++[x]) (left++cL rows.length x.f):=by
 have mem:∀ y,y∈rows++[x]++(left++cL rows.length x.f)↔y∈rows++(left++[x])∨y∈cL rows.length x.f:=fun y=>by
  simp only[List.mem_append]
  constructor
  ·rintro((h | h) | (h | h))
   ·exact .inl (.inl h)
   ·exact .inl (.inr (.inr h))
   ·exact .inl (.inr (.inl h))
   ·exact .inr h
  ·rintro((h | (h | h)) | h)
   ·exact .inl (.inl h)
   ·exact .inr (.inl h)
   ·exact .inl (.inr h)
   ·exact .inr (.inr h)
 have old:∀ (r:Nat) y,rows[r]?=some y→(rows++[x])[r]?=some y:=fun r y h=>by rw[List.getElem?_append_left (bj h)];exact h
 have here:(rows++[x])[rows.length]?=some x:=by simp
 have hx:x∈rows++(left++[x]):=by simp
 refine⟨fun y hy=>?_,fun r y p gg hr hp=>?_,?_,fun r y r' hr hp=>?_,?_,?_,fun y hy=>?_,fun y hy=>?_⟩
 ·rcases(mem y).mp hy with h | h
  ·rcases g.src y h with e | ⟨r,z,a,b,c⟩
   ·exact .inl e
   ·exact .inr ⟨r,z,a,old r z b,c⟩
  ·obtain⟨a,b⟩:=iB h
   exact .inr ⟨_,x,a,here,b⟩
 ·by_cases h:r<rows.length
  ·rw[List.getElem?_append_left h] at hr
   obtain⟨z,a,b⟩:=g.all r y p gg hr hp
   exact⟨z,(mem z).mpr (.inl a),b⟩
  ·have hl:=(bj hr)
   have:r=rows.length:=by simp at hl;exact zJ hl h
   subst this
   rw[here] at hr;cases hr
   refine⟨⟨gg,some rows.length,p⟩,(mem _).mpr (.inr (List.mem_of_getElem? (i:=p) ?_)),rfl,rfl⟩
   rw[eE,hp];rfl
 ·have pm:(rows++[x]++(left++cL rows.length x.f)).Perm ((rows++(left++[x]))++cL rows.length x.f):=by
   rw[← List.append_assoc]
   refine List.Perm.append_right _ ?_
   rw[List.append_assoc]
   exact List.Perm.append_left _ (List.perm_append_comm)
  refine((pm.map _).nodup_iff).mpr ?_
  rw[List.map_append,List.nodup_append]
  refine⟨g.nd,?_,?_⟩
  ·rw[ji]
   exact List.Pairwise.map _ (fun a b h e=>h (by simpa using e)) List.nodup_range
  ·intro a ha b hb e
   subst e
   rw[ji] at hb
   obtain⟨p,_,rfl⟩:=List.mem_map.mp hb
   obtain⟨y,hy,e⟩:=List.mem_map.mp ha
   rcases g.src y hy with rfl | ⟨r,z,c1,c2,_⟩
   ·simp at e
   ·rw[c1] at e
    injection e with e _
    injection e with e
    have:=(bj c2)
    exact D6 this e
 ·by_cases h:r<rows.length
  ·rw[List.getElem?_append_left h] at hr
   exact g.up r y r' hr hp
  ·have hl:=(bj hr)
   have:r=rows.length:=by simp at hl;exact zJ hl h
   subst this
   rw[here] at hr;cases hr
   rcases g.src x hx with rfl | ⟨r,z,c1,c2,_⟩
   ·cases hp
   ·rw[c1] at hp;cases hp
    exact(bj c2)
 ·rcases g.top with⟨rfl,h⟩ | h
  ·right
   have:left=[]∧x=⟨root,none,0⟩:=by
    cases left with
    | nil=>simpa using h
    | cons a r=>simp at h
   rw[this.2];rfl
  ·exact .inr (old _ _ h)
 ·have:=g.size
  have e:=x.f.size_eq
  unfold im at this ⊢
  rw[List.map_append,Fm.sizes_append] at this ⊢
  rw[oP]
  simp only[List.map_cons,List.map_nil,Fm.sizes,List.length_append,List.length_cons,List.length_nil] at this ⊢
  exact KC this e
 ·rcases(mem y).mp hy with h | h
  ·exact g.ok y h
  ·exact Fm.kid_ok (g.ok x hx) (iB h).2
 ·rcases(mem y).mp hy with h | h
  ·exact g.sub y h
  ·exact Nat.le_trans (Fm.kid_size (iB h).2) (g.sub x hx)
noncomputable def fi (rows:List fp):List Fm:=rows.reverse.map fp.f
noncomputable def fj (rows:List fp):List (Option Nat):=rows.reverse.map fun x=>x.pa.map fun r=>rows.length-1-r
noncomputable def gV (rows:List fp):List Nat:=rows.reverse.map fp.pl
structure oQ (root:Fm) (fs:List Fm) (pr:List (Option Nat)) (pl:List Nat):Prop where
 len1:pr.length=fs.length
 len2:pl.length=fs.length
 pos:1≤fs.length
 small:fs.length≤root.size
 topf:fs[fs.length-1]?=some root
 topp:pr[fs.length-1]?=some none
 up:∀ (i:Nat),i<fs.length-1→∃ j p y g,pr[i]?=some (some j)∧pl[i]?=some p∧i<j∧fs[j]?=some y∧fs[i]?=some g∧y.kids[p]?=some g
 down:∀ (j:Nat) y (p:Nat) g,fs[j]?=some y→y.kids[p]?=some g→∃ i:Nat,pr[i]?=some (some j)∧pl[i]?=some p
 inj:∀ (i i':Nat) j p,pr[i]?=some (some j)→pr[i']?=some (some j)→pl[i]?=some p→pl[i']?=some p→i=i'
 ok:∀ f∈fs,f.av.ok 36=true
 sub:∀ f∈fs,f.size≤root.size
theorem zs {α:Type} {l:List α} {i:Nat} (h:i<l.length):l.reverse[i]?=l[l.length-1-i]?:=List.getElem?_reverse h
theorem zr.flat {root:Fm} {rows:List fp} (g:zr root rows []):oQ root (fi rows) (fj rows) (gV rows):=by
 have src:=g.src
 have all:=g.all
 have nd:=g.nd
 have top:=g.top
 have size:=g.size
 simp only[List.append_nil] at src all nd
 have top:rows[0]?=some ⟨root,none,0⟩:=by
  rcases top with⟨_,h⟩ | h
  ·cases h
  ·exact h
 have hN:1≤rows.length:=by have:=(bj top);exact KD this
 have lf:(fi rows).length=rows.length:=by simp[fi]
 have lp:(fj rows).length=rows.length:=by simp[fj]
 have ll:(gV rows).length=rows.length:=by simp[gV]
 have at':∀ i x,i<rows.length→rows[rows.length-1-i]?=some x→(fi rows)[i]?=some x.f∧(fj rows)[i]?=some (x.pa.map fun r=>rows.length-1-r)∧(gV rows)[i]?=some x.pl:=fun i x hi hx=>by
  unfold fi fj gV
  rw[List.getElem?_map,List.getElem?_map,List.getElem?_map,zs hi,hx]
  exact⟨rfl,rfl,rfl⟩
 have row:∀ i,i<rows.length→∃ x,rows[rows.length-1-i]?=some x:=fun i hi=>⟨_,gE (by exact CP hi)⟩
 have t0:=at' (rows.length-1) ⟨root,none,0⟩ (by exact KE hN) (by rw[Nat.sub_self];exact top)
 have key:∀ (r r':Nat) x y,rows[r]?=some x→rows[r']?=some y→x.pa=y.pa→x.pl=y.pl→r=r':=fun r r' x y h1 h2 e1 e2=>by
  have hl:=(bj h1)
  refine(List.getElem?_inj (l:=rows.map fun x=>(x.pa,x.pl)) (by simpa using hl) nd).mp ?_
  rw[List.getElem?_map,List.getElem?_map,h1,h2]
  simp[e1,e2]
 refine⟨by exact CQ lp lf,by exact CQ ll lf,by exact KF hN lf,?_,by rw[lf];exact t0.1,by rw[lf];exact t0.2.1,fun i hi=>?_,fun j y p gg hy hp=>?_,fun i i' j p h1 h2 h3 h4=>?_,fun f hf=>?_,fun f hf=>?_⟩
 ·rw[lf];simp[im,Fm.sizes] at size;exact CR size
 ·rw[lf] at hi
  obtain⟨x,hx⟩:=row i (by exact D9 hi)
  obtain⟨a1,a2,a3⟩:=at' i x (by exact D9 hi) hx
  rcases src x (List.mem_of_getElem? hx) with e | ⟨r,y,b1,b2,b3⟩
  ·have:=key _ _ x _ hx top (by rw[e]) (by rw[e])
   exact(KG this hi).elim
  ·have hr:=g.up _ x r hx b1
   have hrl:=(bj b2)
   obtain⟨c1,c2,c3⟩:=at' (rows.length-1-r) y (by exact CP hrl) (by rw[show rows.length-1-(rows.length-1-r)=r by exact CS hrl];exact b2)
   exact⟨rows.length-1-r,x.pl,y.f,x.f,by rw[a2,b1];rfl,a3,by exact KH hr,c1,a1,b3⟩
 ·have hj:=(bj hy)
  rw[lf] at hj
  obtain⟨z,hz⟩:=row j hj
  obtain⟨a1,_,_⟩:=at' j z hj hz
  rw[a1] at hy;cases hy
  obtain⟨x,hx,e1,e2⟩:=all _ z p gg hz hp
  obtain⟨r,hr⟩:=List.mem_iff_getElem?.mp hx
  have hrl:=(bj hr)
  obtain⟨b1,b2,b3⟩:=at' (rows.length-1-r) x (by exact CP hrl) (by rw[show rows.length-1-(rows.length-1-r)=r by exact CS hrl];exact hr)
  refine⟨rows.length-1-r,?_,by rw[b3,e2]⟩
  rw[b2,e1]
  simp only[Option.map_some]
  congr 2;exact CS hj
 ·have hi:=(bj h1)
  have hi':=(bj h2)
  rw[lp] at hi hi'
  obtain⟨x,hx⟩:=row i hi
  obtain⟨y,hy⟩:=row i' hi'
  obtain⟨_,a2,a3⟩:=at' i x hi hx
  obtain⟨_,b2,b3⟩:=at' i' y hi' hy
  rw[a2] at h1;rw[b2] at h2;rw[a3] at h3;rw[b3] at h4
  have e1:x.pa=y.pa:=by
   injection h1 with h1;injection h2 with h2
   cases ex:x.pa with
   | none=>rw[ex] at h1;cases h1
   | some r=>
    cases ey:y.pa with
    | none=>rw[ey] at h2;cases h2
    | some r'=>
     rw[ex] at h1;rw[ey] at h2
     simp only[Option.map_some,Option.some.injEq] at h1 h2
     have q1:=g.up _ x r hx ex
     have q2:=g.up _ y r' hy ey
     congr 1;exact KI h1 h2 q1
  have:=key _ _ x y hx hy e1 (by injection h3 with h3;injection h4 with h4;exact CQ h3 h4)
  exact KJ this hi hi'
 ·unfold fi at hf
  obtain⟨x,hx,rfl⟩:=List.mem_map.mp hf
  exact g.ok x (by simpa using hx)
 ·unfold fi at hf
  obtain⟨x,hx,rfl⟩:=List.mem_map.mp hf
  exact g.sub x (by simpa using hx)
noncomputable def rC (f c s p l:Nat):List (String×AV):=[("forms",.ref f),("children",.ref c),("sizes",.ref s),("parents",.ref p),("places",.ref l)]
noncomputable def cn (pr:List (Option Nat)):List AV:=pr.map dU
noncomputable def aM (pl:List Nat):List AV:=pl.map fun (n:Nat)=>AV.int (n:Int)
inductive uN (as:List AV) (hp:Hp) (P:AV→Hp→Prop):Prop
 | mk (n root f c s p l):as=[.ref n,root.av]→hp[n]?=some (.inst 80 (rC f c s p l))→hp[f]?=some (.list [])→hp[p]?=some (.list [])→hp[l]?=some (.list [])→f≠p→p≠l→f≠l→root.av.ok 36=true→root.size≤1000→(∀ fs pr pl hp',oQ root fs pr pl→(∀ (m:Nat) o,hp[m]?=some o→m≠f→m≠p→m≠l→hp'[m]?=some o)→hp'[f]?=some (.list (fs.map Fm.av))→hp'[p]?=some (.list (cn pr))→hp'[l]?=some (.list (aM pl))→P .none hp')→uN as hp P
section
variable {C:Cx}
theorem row_ok {x:fp} (h:x.f.av.ok 36=true):x.av.ok 39=true:=by
 unfold fp.av
 simp only[oN,oI,oS,oT,oL,oB,oR,oG,fv,fw,List.all_cons,List.all_nil,Bool.and_true,Bool.and_eq_true]
 have q:(dU x.pa).ok 38=true:=by
  cases x.pa with
  | none=>rfl
  | some r=>exact dH
 simp only[q,dH,aq 36 38 _ (by exact KL) h,and_self]
theorem gA (h:HK C):aI C 1 (.ref 56) uN:=by
 refine(xj h).mono fun as hp P hF=>?_
 refine nn fun nG=>?_
 obtain⟨n,root,f,c,s,p,l,rfl,hn,hf,hp',hl,n1,n2,n3,ok,hz,hP⟩:=hF
 refine nG ?_;clear nG
 unfold mI
 walk_at "r"
 refine⟨sz,?_⟩
 walk_at "r"
 refine⟨sz,?_⟩
 walk_at "r"
 refine⟨sz,?_⟩
 walk_at "r"
 refine⟨sz,?_⟩
 walk_at "r"
 simp only[List.append_assoc,List.cons_append,List.nil_append,List.length_append,List.length_cons,List.length_nil]
 refine⟨fun k loc hp1=>∃ rows left c1 c2 c3,k=im left∧loc=[("self",some (AV.ref n)),("form",some root.av),("rows",some (AV.ref (List.length hp))),("left",some (AV.ref (List.length hp+1))),("row",c1),("number",c2),("place",c3),
   ("many",none),("inner",none),("parent",none)]∧Kp hp hp1∧hp1[hp.length]?=some (.list (rows.map fp.av))∧hp1[hp.length+1]?=some (.list (left.map fp.av))∧zr root rows left,root.size,
  ⟨[],[⟨root,none,0⟩],none,none,none,by simp[im,Fm.sizes],rfl,Kp.app _ _,by simp,by simp[fp.av,dU],zr.start ok⟩,?_⟩
 intro k loc hp1 hI
 refine nn fun nG=>?_
 obtain⟨rows,left,c1,c2,c3,rfl,rfl,kp,hr,hl',g⟩:=hI
 refine nG ?_;clear nG
 have hrl:rows.length+left.length≤1000:=by
  have h1:=g.size
  have h2:∀ l:List fp,l.length≤im l:=by
   intro l
   induction l with
   | nil=>exact Nat.zero_le _
   | cons a r ih=>have:=a.f.size_pos;unfold im at ih ⊢;simp only[List.map_cons,Fm.sizes,List.length_cons];exact zI this ih
  have:=h2 left
  exact KM h1 this hz
 walk_at "r"
 refine⟨sz,?_⟩
 walk_at "r"
 have dL:=aB [aC.list []] hl'
 have hr1:=aB [aC.list []] hr
 have kp1:Kp hp (hp1++[aC.list []]):=kp.trans (Kp.app _ _)
 refine mW dL (aE _ _) (fun x hx=>?_) ?_
 walk_at "r"
 ·refine nn fun nG=>?_
  obtain⟨y,hy,rfl⟩:=List.mem_map.mp hx
  refine nG ?_;clear nG
  exact row_ok (g.ok y (List.mem_append_right _ hy))
 generalize hp1++[aC.list []]=hp2 at dL hr1 kp1
 clear hr hl' kp hp1
 rcases List.eq_nil_or_concat left with rfl | ⟨left,x,rfl⟩
 ·simp only[List.map_nil,List.isEmpty_nil]
  walk_at "r"
  have hrl:rows.length≤1000:=by simpa using hrl
  refine bX hr1 (by simp;exact ft hrl) ?_
  simp only[List.length_map]
  walk_at "r"
  refine K5 hr1 (sz (by simp;exact ft hrl)) ?_
  walk_at "r"
  refine⟨_,af (aE _ _),?_⟩
  walk_at "r"
  have F:=g.flat
  have pa:∀ y∈rows,∀ r,y.pa=some r→r<rows.length:=fun y hy r hr=>by
   rcases g.src y (by simpa using hy) with rfl | ⟨r',z,a,b,_⟩
   ·cases hr
   ·rw[a] at hr;cases hr;exact(bj b)
  have ne:n≠f∧n≠p∧n≠l:=by
   refine⟨?_,?_,?_⟩
   ·rintro rfl;rw[hf] at hn;cases hn
   ·rintro rfl;rw[hp'] at hn;cases hn
   ·rintro rfl;rw[hl] at hn;cases hn
  have old:∀ (m:Nat) o,hp[m]?=some o→(hp2++[aC.list (rows.map fp.av).reverse])[m]?=some o:=fun m o q=>aB _ (kp1 m o q)
  have src0:=aE hp2 (.list (rows.map fp.av).reverse)
  have hlen:hp.length≤hp2.length:=kp1.len
  have lt:f<hp.length∧p<hp.length∧l<hp.length:=⟨aR hf,aR hp',aR hl⟩
  generalize hp2++[aC.list (rows.map fp.av).reverse]=hp3 at old src0
  refine bB _ (fun i loc hp4=>∃ c3 c4 c5,loc=[("self",some (AV.ref n)),("form",some root.av),("rows",some (AV.ref (List.length hp))),("left",some (AV.ref (List.length hp+1))),("row",c1),("number",c2),("place",c3),
   ("many",some (AV.int rows.length)),("inner",c4),("parent",c5)]∧(∀ (m:Nat) o,hp3[m]?=some o→m≠f→m≠p→m≠l→hp4[m]?=some o)∧hp4[f]?=some (.list (((fi rows).take i).map Fm.av))∧hp4[p]?=some (.list (cn ((fj rows).take i)))∧hp4[l]?=some (.list (aM ((gV rows).take i))))
   ⟨_,_,_,rfl,fun m o q _ _ _=>q,by simpa using old _ _ hf,by simpa[cn] using old _ _ hp',by simpa[aM] using old _ _ hl⟩ ?_ ?_
  ·intro i x loc hp4 K hx hI
   refine nn fun nG=>?_
   obtain⟨d3,d4,d5,rfl,q0,q1,q2,q3⟩:=hI
   refine nG ?_;clear nG
   intro hK
   rw[← List.map_reverse,List.getElem?_map] at hx
   refine nn fun nG=>?_
   obtain⟨y,hy,rfl⟩:=Option.map_eq_some_iff.mp hx
   refine nG ?_;clear nG
   have ymem:y∈rows:=by simpa using List.mem_of_getElem? hy
   have hil:=(bj hy)
   rw[List.length_reverse] at hil
   have f1:(fi rows)[i]?=some y.f:=by unfold fi;rw[List.getElem?_map,hy];rfl
   have f2:(fj rows)[i]?=some (y.pa.map fun r=>rows.length-1-r):=by unfold fj;rw[List.getElem?_map,hy];rfl
   have f3:(gV rows)[i]?=some y.pl:=by unfold gV;rw[List.getElem?_map,hy];rfl
   have l1:(fi rows).length=rows.length:=by simp[fi]
   have l2:(fj rows).length=rows.length:=by simp[fj]
   have l3:(gV rows).length=rows.length:=by simp[gV]
   rw[show y.av=.tup [y.f.av,dU y.pa,.int y.pl] from rfl]
   have n4:=q0 _ _ (old _ _ hn) ne.1 ne.2.1 ne.2.2
   walk_at "r"
   with_reducible refine at_ (n4) ?_ (by with_unfolding_all rfl) (by with_unfolding_all rfl)
   walk_at "r"
   refine jK q1 (by simp;exact vm l1 hrl) ⟨rfl,?_⟩
   walk_at "r"
   have n5:(hp4.set f (aC.list (List.map Fm.av (List.take i (fi rows))++[y.f.av])))[n]?=some (.inst 80 (rC f c s p l)):=by rw[aJ _ (Ne.symm ne.1)];exact n4
   have q2':(hp4.set f (aC.list (List.map Fm.av (List.take i (fi rows))++[y.f.av])))[p]?=some (.list (cn ((fj rows).take i))):=by rw[aJ _ n1];exact q2
   have q3':(hp4.set f (aC.list (List.map Fm.av (List.take i (fi rows))++[y.f.av])))[l]?=some (.list (aM ((gV rows).take i))):=by rw[aJ _ n3];exact q3
   have q1':=aQ (.list (List.map Fm.av (List.take i (fi rows))++[y.f.av])) q1
   have q0':∀ (m:Nat) o,hp3[m]?=some o→m≠f→m≠p→m≠l→(hp4.set f (aC.list (List.map Fm.av (List.take i (fi rows))++[y.f.av])))[m]?=some o:=fun m o q a b e=>by rw[aJ _ (Ne.symm a)];exact q0 m o q a b e
   have t1:List.map Fm.av (List.take i (fi rows))++[y.f.av]=List.map Fm.av (List.take (i+1) (fi rows)):=by rw[List.take_add_one,f1];simp
   have t2:cn (List.take i (fj rows))++[dU (y.pa.map fun r=>rows.length-1-r)]=cn (List.take (i+1) (fj rows)):=by rw[List.take_add_one,f2];simp[cn]
   have t3:aM (List.take i (gV rows))++[AV.int y.pl]=aM (List.take (i+1) (gV rows)):=by rw[List.take_add_one,f3];simp[aM]
   rw[t1] at n5 q2' q3' q1' q0' ⊢
   generalize hp4.set f (aC.list (List.map Fm.av (List.take (i+1) (fi rows))))=hp5 at n5 q2' q3' q1' q0' ⊢
   -- the last list and the end of the turn
   have last:∀ hp6:Hp,hp6=hp5.set p (.list (cn ((fj rows).take (i+1))))→hp6[n]?=some (.inst 80 (rC f c s p l))∧hp6[l]?=some (.list (aM ((gV rows).take i)))∧
     (aL (AV.ref (List.length hp2)) (hp6.set l (.list (aM ((gV rows).take (i+1)))))=some (rows.map fp.av).reverse∧ag (AV.ref (List.length hp2)) (hp6.set l (.list (aM ((gV rows).take (i+1)))))=ag (AV.ref (List.length hp2)) hp3)∧
     K [("self",some (AV.ref n)),("form",some root.av),("rows",some (AV.ref (List.length hp))),("left",some (AV.ref (List.length hp+1))),("row",c1),("number",c2),("place",some (AV.int ↑y.pl)),("many",some (AV.int ↑rows.length)),("inner",some y.f.av),("parent",some (dU y.pa))] (hp6.set l (.list (aM ((gV rows).take (i+1))))):=by
    rintro hp6 rfl
    have n6:(hp5.set p (.list (cn ((fj rows).take (i+1)))))[n]?=some (.inst 80 (rC f c s p l)):=by rw[aJ _ (Ne.symm ne.2.1)];exact n5
    have r1:=(aJ (.list (cn ((fj rows).take (i+1)))) n1.symm).trans q1'
    have r2:=aQ (.list (cn ((fj rows).take (i+1)))) q2'
    have r3:=(aJ (.list (cn ((fj rows).take (i+1)))) n2).trans q3'
    have r0:∀ (m:Nat) o,hp3[m]?=some o→m≠f→m≠p→m≠l→(hp5.set p (.list (cn ((fj rows).take (i+1)))))[m]?=some o:=fun m o q a b e=>by rw[aJ _ (Ne.symm b)];exact q0' m o q a b e
    generalize hp5.set p (.list (cn ((fj rows).take (i+1))))=hp6 at n6 r0 r1 r2 r3
    have s0:(hp6.set l (.list (aM ((gV rows).take (i+1)))))[hp2.length]?=some (.list (rows.map fp.av).reverse):=by
     rw[aJ _ (by exact KN lt hlen)];exact r0 _ _ src0 (by exact KO lt hlen) (by exact KP lt hlen) (by exact KQ lt hlen)
    refine⟨n6,r3,⟨af s0,by rw[be s0,be src0]⟩,hK _ _ ⟨_,_,_,rfl,fun m o q a b e=>by rw[aJ _ (Ne.symm e)];exact r0 m o q a b e,?_,?_,aQ _ r3⟩⟩
    ·rw[aJ _ n3.symm];exact r1
    ·rw[aJ _ n2.symm];exact r2
   with_reducible refine at_ (n5) ?_ (by with_unfolding_all rfl) (by with_unfolding_all rfl)
   walk_at "r"
   cases e:y.pa with
   | none=>
    rw[e] at t2
    simp only[e] at last
    simp only[dU]
    walk_at "r"
    refine⟨⟨_,_,rfl,q2',rfl⟩,?_⟩
    walk_at "r"
    refine bW q2' (by simp[cn];exact vm l2 hrl) ⟨rfl,?_⟩
    walk_at "r"
    rw[show AV.none=dU (Option.map (fun r=>rows.length-1-r) none) from rfl,t2]
    refine nn fun nG=>?_
    obtain⟨n6,r3,s1,s2⟩:=last _ rfl
    refine nG ?_;clear nG
    refine at_ n6 ?_
    walk_at "r"
    refine jK r3 (by simp[aM];exact vm l3 hrl) ⟨rfl,?_⟩
    walk_at "r"
    rw[t3]
    exact⟨s1,s2⟩
   | some r=>
    have hr:=pa y ymem r e
    rw[e] at t2
    simp only[e] at last
    simp only[dU]
    walk_at "r"
    refine⟨⟨_,_,rfl,q2',rfl⟩,?_⟩
    walk_at "r"
    refine bW q2' (by simp[cn];exact vm l2 hrl) ⟨rfl,?_⟩
    walk_at "r"
    rw[show AV.int ((rows.length:Int)-1-(r:Int))=dU (Option.map (fun r=>rows.length-1-r) (some r)) from by simp only[dU,Option.map_some];congr 1;exact KR hr,t2]
    refine nn fun nG=>?_
    obtain⟨n6,r3,s1,s2⟩:=last _ rfl
    refine nG ?_;clear nG
    refine at_ n6 ?_
    walk_at "r"
    refine jK r3 (by simp[aM];exact vm l3 hrl) ⟨rfl,?_⟩
    walk_at "r"
    rw[t3]
    exact⟨s1,s2⟩
  ·intro loc hp4 hI
   refine nn fun nG=>?_
   obtain⟨d3,d4,d5,rfl,q0,q1,q2,q3⟩:=hI
   refine nG ?_;clear nG
   simp only[List.length_reverse,List.length_map] at q1 q2 q3
   rw[List.take_of_length_le (by simp[fi])] at q1
   rw[List.take_of_length_le (by simp[fj])] at q2
   rw[List.take_of_length_le (by simp[gV])] at q3
   exact hP _ _ _ hp4 F (fun m o q a b e=>q0 m o (old m o q) a b e) q1 q2 q3
 ·have ne:((left++[x]).map fp.av).isEmpty=false:=by simp
  simp only[List.concat_eq_append] at dL g hrl ⊢
  rw[ne]
  walk_at "r"
  simp only[List.map_append,List.map_cons,List.map_nil] at dL
  refine xu dL (by simp at hrl ⊢;exact KT hrl) ?_
  walk_at "r"
  have hL:List.length hp+1≠List.length hp:=by exact vn
  have hr2:(hp2.set (List.length hp+1) (.list (left.map fp.av)))[hp.length]?=some (.list (rows.map fp.av)):=by rw[aJ _ hL];exact hr1
  have hl2:=aQ (.list (left.map fp.av)) dL
  have kp2:=kp1.set (n:=List.length hp+1) (by exact jS) (.list (left.map fp.av))
  generalize hp2.set (List.length hp+1) (.list (left.map fp.av))=hp3 at hr2 hl2 kp2
  walk_at "r"
  refine bX hr2 (by simp;exact Da hrl) ?_
  walk_at "r"
  refine jK hr2 (by simp;exact Da hrl) ⟨rfl,?_⟩
  walk_at "r"
  have hl3:(hp3.set (List.length hp) (.list (rows.map fp.av++[x.av])))[hp.length+1]?=some (.list (left.map fp.av)):=by rw[aJ _ hL.symm];exact hl2
  have hr3:=aQ (.list (rows.map fp.av++[x.av])) hr2
  have kp3:=kp2.set (n:=List.length hp) (by exact CT) (.list (rows.map fp.av++[x.av]))
  generalize hp3.set (List.length hp) (.list (rows.map fp.av++[x.av]))=hp4 at hr3 hl3 kp3
  have hxav:x.av=.tup [x.f.av,dU x.pa,.int x.pl]:=rfl
  have hkz:x.f.kids.length≤1000:=by
   have h1:=g.size
   have h2:∀ l:List Fm,l.length≤Fm.sizes l:=by
    intro l
    induction l with
    | nil=>exact Nat.zero_le _
    | cons a r ih=>have:=a.size_pos;simp only[Fm.sizes,List.length_cons];exact zI this ih
   have h3:=h2 x.f.kids
   have h4:=x.f.size_eq
   unfold im at h1
   rw[List.map_append,Fm.sizes_append] at h1
   simp only[List.map_cons,List.map_nil,Fm.sizes] at h1
   exact KU h1 h3 h4 hz
  rw[hxav,x.f.av_eq]
  walk_at "r"
  refine uG (by simp;exact ft hkz) ?_
  walk_at "r"
  simp only[List.length_map]
  refine⟨_,aO (by exact ft hkz),?_⟩
  walk_at "r"
  refine bB _ (fun i loc hp5=>∃ c3,loc=[("self",some (AV.ref n)),("form",some root.av),("rows",some (AV.ref (List.length hp))),("left",some (AV.ref (List.length hp+1))),("row",some x.av),("number",some (AV.int rows.length)),("place",c3),
   ("many",none),("inner",none),("parent",none)]∧Kp hp hp5∧hp5[hp.length]?=some (.list (rows.map fp.av++[x.av]))∧hp5[hp.length+1]?=some (.list (left.map fp.av++((cL rows.length x.f).take i).map fp.av)))
   ⟨_,by rw[hxav,x.f.av_eq],kp3,hr3,by simpa using hl3⟩ ?_ ?_
  ·intro i y loc hp5 K hy hI
   refine nn fun nG=>?_
   obtain⟨c3,rfl,a0,a1,a2⟩:=hI
   refine nG ?_;clear nG
   intro hK
   rw[List.getElem?_map] at hy
   refine nn fun nG=>?_
   obtain⟨i',hi',rfl⟩:=Option.map_eq_some_iff.mp hy
   refine nG ?_;clear nG
   have hlt:=(bj hi')
   rw[List.length_range] at hlt
   rw[List.getElem?_range hlt] at hi'
   cases hi'
   have hkid:x.f.kids[i]?=some x.f.kids[i]:=gE hlt
   have hkr:(cL rows.length x.f)[i]?=some ⟨x.f.kids[i],some rows.length,i⟩:=by rw[eE,hkid];rfl
   rw[hxav,x.f.av_eq]
   walk_at "r"
   refine⟨⟨_,_,rfl,a2,rfl⟩,?_⟩
   walk_at "r"
   refine Cl (x:=x.f.kids[i].av) (by rw[List.getElem?_map,hkid];rfl) (by exact ip hlt hkz) ?_
   walk_at "r"
   refine⟨sz,?_⟩
   walk_at "r"
   have hrl':rows.length+left.length≤1000:=by simp at hrl;exact KV hrl
   refine bW a2 (by simp;exact Db hrl' hlt hkz) ⟨rfl,?_⟩
   walk_at "r"
   refine⟨⟨aO (by exact ft hkz),rfl⟩,hK _ _ ⟨_,by rw[hxav,x.f.av_eq],a0.set (by exact jS) _,by rw[aJ _ hL];exact a1,?_⟩⟩
   rw[aQ _ a2,List.take_add_one,hkr]
   simp[fp.av,dU]
  ·intro loc hp5 hI
   refine nn fun nG=>?_
   obtain⟨c3,rfl,a0,a1,a2⟩:=hI
   refine nG ?_;clear nG
   have len:(cL rows.length x.f).length≤List.length (List.map (fun (k:Nat)=>AV.int (k:Int)) (List.range x.f.kids.length)):=by
    have:=congrArg List.length (oP rows.length x.f);simp at this ⊢;exact CR this
   rw[List.take_of_length_le len] at a2
   have step:=g.step
   refine⟨im (left++cL rows.length x.f),?_,rows++[x],left++cL rows.length x.f,_,_,_,rfl,rfl,a0,by rw[a1];simp,by rw[a2];simp,step⟩
   have h1:=g.size
   have h2:=step.size
   simp only[List.length_append,List.length_cons,List.length_nil] at h2
   exact Dc h2 h1
end
noncomputable def lQ (sz:List Int):Option Nat→Int
 | some i=>sz.getD i 0
 | none=>0
noncomputable def pR (sz:List Int) (row:List (Option Nat)):Int:=(row.map (lQ sz)).sum
structure zt (fs:List Fm) (pr:List (Option Nat)) (pl:List Nat) (k:Nat) (ch:List (List (Option Nat))) (sz:List Int):Prop where
 l1:ch.length=fs.length
 l2:sz.length=fs.length
 row:∀ (j:Nat) y r,fs[j]?=some y→ch[j]?=some r→r.length=y.kids.length
 at':∀ (j:Nat) r (p:Nat) o,ch[j]?=some r→r[p]?=some o→(∃ i:Nat,o=some i∧i<k∧pr[i]?=some (some j)∧pl[i]?=some p)∨(o=none∧∀ i:Nat,i<k→pr[i]?=some (some j)→pl[i]?≠some p)
 sum:∀ (j:Nat) r z,ch[j]?=some r→sz[j]?=some z→z=1+pR sz r
theorem zt.start {fs:List Fm} {pr:List (Option Nat)} {pl:List Nat}:zt fs pr pl 0 (fs.map fun y=>List.replicate y.kids.length none) (fs.map fun _=>1) where
 l1:=by simp
 l2:=by simp
 row:=fun j y r h1 h2=>by rw[List.getElem?_map,h1] at h2;cases h2;simp
 at':=fun j r p o h1 h2=>by
  rw[List.getElem?_map] at h1
  obtain⟨y,_,rfl⟩:=Option.map_eq_some_iff.mp h1
  refine .inr ⟨?_,fun i hi=>by exact(Dd hi).elim⟩
  have:=List.getElem?_eq_some_iff.mp h2
  obtain⟨_,q⟩:=this
  rw[List.getElem_replicate] at q;exact q.symm
 sum:=fun j r z h1 h2=>by
  rw[List.getElem?_map] at h1 h2
  obtain⟨y,e,rfl⟩:=Option.map_eq_some_iff.mp h1
  rw[e] at h2;cases h2
  have:∀ n:Nat,((List.replicate n (none:Option Nat)).map (lQ (fs.map fun _=>(1:Int)))).sum=0:=by
   intro n
   induction n with
   | zero=>rfl
   | succ n ih=>rw[List.replicate_succ,List.map_cons,List.sum_cons,ih];rfl
  unfold pR
  rw[this];rfl
theorem uO:∀ (l:List Int) (q:Nat) (x:Int),q<l.length→(l.set q x).sum=l.sum-l.getD q 0+x
 | [],q,x,h=>by simp at h
 | a::r,0,x,_=>by simp;exact De
 | a::r,q+1,x,h=>by
  have:=uO r q x (by simpa using h)
  simp only[List.set_cons_succ,List.sum_cons,List.getD_cons_succ]
  rw[this];exact Df
theorem sh {sz sz':List Int} {r:List (Option Nat)} (h:∀ o∈r,lQ sz o=lQ sz' o):pR sz r=pR sz' r:=by
 unfold pR
 congr 1
 exact List.map_congr_left h
theorem zt.step {root:Fm} {fs:List Fm} {pr:List (Option Nat)} {pl:List Nat} {k j q:Nat} {ch:List (List (Option Nat))} {sz:List Int} {r:List (Option Nat)} {zj zk:Int} (F:oQ root fs pr pl) (M:zt fs pr pl k ch sz)
  (hj:pr[k]?=some (some j)) (hq:pl[k]?=some q) (hkj:k<j) (hr:ch[j]?=some r) (hqr:q<r.length) (h1:sz[j]?=some zj) (h2:sz[k]?=some zk):zt fs pr pl (k+1) (ch.set j (r.set q (some k))) (sz.set j (zj+zk)):=by
 have hjl:j<ch.length:=(bj hr)
 have hjs:j<sz.length:=(bj h1)
 have rq:r[q]?=some none:=by
  obtain⟨o,ho⟩:∃ o,r[q]?=some o:=⟨_,gE hqr⟩
  rcases M.at' j r q o hr ho with⟨i,rfl,hi,a,b⟩ | ⟨rfl,_⟩
  ·have:=F.inj i k j q a hj b hq;exact(D6 hi this).elim
  ·exact ho
 have small:∀ (j':Nat) r' o,ch[j']?=some r'→o∈r'→lQ (sz.set j (zj+zk)) o=lQ sz o:=fun j' r' o hr' ho=>by
  obtain⟨p,hp⟩:=List.mem_iff_getElem?.mp ho
  rcases M.at' j' r' p o hr' hp with⟨i,rfl,hi,_,_⟩ | ⟨rfl,_⟩
  ·unfold lQ
   simp only[List.getD_eq_getElem?_getD]
   rw[List.getElem?_set_ne (by exact tM hi hkj)]
  ·rfl
 refine⟨by simp[M.l1],by simp[M.l2],fun j' y r' e1 e2=>?_,fun j' r' p o e1 e2=>?_,fun j' r' z e1 e2=>?_⟩
 ·by_cases e:j'=j
  ·subst e
   rw[List.getElem?_set_self hjl] at e2;cases e2
   simpa using M.row j' y r e1 hr
  ·rw[List.getElem?_set_ne (Ne.symm e)] at e2
   exact M.row j' y r' e1 e2
 ·by_cases e:j'=j
  ·subst e
   rw[List.getElem?_set_self hjl] at e1;cases e1
   by_cases e':p=q
   ·subst e'
    rw[List.getElem?_set_self hqr] at e2;cases e2
    exact .inl ⟨k,rfl,by exact dy,hj,hq⟩
   ·rw[List.getElem?_set_ne (Ne.symm e')] at e2
    rcases M.at' j' r p o hr e2 with⟨i,a,b,c,d⟩ | ⟨a,b⟩
    ·exact .inl ⟨i,a,by exact dc b,c,d⟩
    ·refine .inr ⟨a,fun i hi c=>?_⟩
     by_cases hik:i=k
     ·subst hik;rw[hq];exact fun z=>e' (by injection z with z;exact z.symm)
     ·exact b i (by exact tN hi hik) c
  ·rw[List.getElem?_set_ne (Ne.symm e)] at e1
   rcases M.at' j' r' p o e1 e2 with⟨i,a,b,c,d⟩ | ⟨a,b⟩
   ·exact .inl ⟨i,a,by exact dc b,c,d⟩
   ·refine .inr ⟨a,fun i hi c=>?_⟩
    by_cases hik:i=k
    ·subst hik;rw[hj] at c;injection c with c;injection c with c;exact absurd c.symm e
    ·exact b i (by exact tN hi hik) c
 ·by_cases e:j'=j
  ·subst e
   rw[List.getElem?_set_self hjl] at e1;cases e1
   rw[List.getElem?_set_self hjs] at e2;cases e2
   have s0:=M.sum j' r zj hr h1
   have e3:pR (sz.set j' (zj+zk)) (r.set q (some k))=pR sz r+zk:=by
    unfold pR
    rw[List.map_set,uO _ _ _ (by simpa using hqr)]
    have e4:(List.map (lQ (sz.set j' (zj+zk))) r)=List.map (lQ sz) r:=List.map_congr_left fun o ho=>small j' r o hr ho
    rw[e4]
    have e5:(List.map (lQ sz) r).getD q 0=0:=by rw[List.getD_eq_getElem?_getD,List.getElem?_map,rq];rfl
    have e6:lQ (sz.set j' (zj+zk)) (some k)=zk:=by unfold lQ;simp only[List.getD_eq_getElem?_getD];rw[List.getElem?_set_ne (by exact bo hkj),h2];rfl
    rw[e5,e6];exact Dg
   rw[e3];exact Dh s0
  ·rw[List.getElem?_set_ne (Ne.symm e)] at e1 e2
   rw[sh (fun o ho=>small j' r' o e1 ho)]
   exact M.sum j' r' z e1 e2
structure Cm (root:Fm) (fs:List Fm) (pr:List (Option Nat)) (pl:List Nat) (ch:List (List Nat)) (sz:List Int):Prop extends oQ root fs pr pl where
 l3:ch.length=fs.length
 l4:sz.length=fs.length
 row:∀ (j:Nat) y r,fs[j]?=some y→ch[j]?=some r→r.length=y.kids.length
 at':∀ (j:Nat) r (p i:Nat),ch[j]?=some r→r[p]?=some i→pr[i]?=some (some j)∧pl[i]?=some p
 sum:∀ (j:Nat) r z,ch[j]?=some r→sz[j]?=some z→z=1+(r.map fun i=>sz.getD i 0).sum
theorem zt.flat {root:Fm} {fs:List Fm} {pr:List (Option Nat)} {pl:List Nat} {ch:List (List (Option Nat))} {sz:List Int} (F:oQ root fs pr pl) (M:zt fs pr pl (fs.length-1) ch sz) :
  ∃ ch':List (List Nat),ch=ch'.map (fun r=>r.map some)∧Cm root fs pr pl ch' sz:=by
 have full:∀ (j:Nat) r (p:Nat) o,ch[j]?=some r→r[p]?=some o→∃ i:Nat,o=some i∧pr[i]?=some (some j)∧pl[i]?=some p:=fun j r p o hr ho=>by
  rcases M.at' j r p o hr ho with⟨i,a,_,b,c⟩ | ⟨_,no⟩
  ·exact⟨i,a,b,c⟩
  ·have hjl:j<fs.length:=by have:=(bj hr);have:=M.l1;exact dz ‹_› this
   have hy:fs[j]?=some fs[j]:=gE hjl
   have hp:p<fs[j].kids.length:=by rw[← M.row j _ r hy hr];exact(bj ho)
   obtain⟨i,a,b⟩:=F.down j _ p _ hy (gE hp)
   have hi:i<fs.length-1:=by
    have h1:=(bj a)
    have h2:=F.len1
    have h3:i≠fs.length-1:=fun e=>by rw[e,F.topp] at a;cases a
    exact tO h1 h3 h2
   exact absurd b (no i hi a)
 have e:ch=(ch.map fun r=>r.map fun o=>o.getD 0).map (fun r=>r.map some):=by
  rw[List.map_map]
  refine(List.map_id ch).symm.trans (List.map_congr_left fun r hr=>?_)
  obtain⟨j,hj⟩:=List.mem_iff_getElem?.mp hr
  show r=(r.map fun o=>o.getD 0).map some
  rw[List.map_map]
  refine(List.map_id r).symm.trans (List.map_congr_left fun o ho=>?_)
  obtain⟨p,hp⟩:=List.mem_iff_getElem?.mp ho
  obtain⟨i,rfl,_⟩:=full j r p o hj hp
  rfl
 refine⟨_,e,{ F with l3:=by simp[M.l1],l4:=M.l2,row:=fun j y r h1 h2=>?_,at':=fun j r p i h1 h2=>?_,sum:=fun j r z h1 h2=>?_ }⟩
 ·rw[List.getElem?_map] at h2
  obtain⟨r',a,rfl⟩:=Option.map_eq_some_iff.mp h2
  rw[List.length_map];exact M.row j y r' h1 a
 ·rw[List.getElem?_map] at h1
  obtain⟨r',a,rfl⟩:=Option.map_eq_some_iff.mp h1
  rw[List.getElem?_map] at h2
  obtain⟨o,b,rfl⟩:=Option.map_eq_some_iff.mp h2
  obtain⟨i,rfl,c,d⟩:=full j r' p o a b
  exact⟨c,d⟩
 ·rw[List.getElem?_map] at h1
  obtain⟨r',a,rfl⟩:=Option.map_eq_some_iff.mp h1
  rw[M.sum j r' z a h2]
  unfold pR
  rw[List.map_map]
  congr 2
  refine List.map_congr_left fun o ho=>?_
  obtain⟨p,hp⟩:=List.mem_iff_getElem?.mp ho
  obtain⟨i,rfl,_⟩:=full j r' p o a hp
  rfl
theorem Co {n:Nat} {k:Nat} {hp:Hp} {P:AV→Hp→Prop} (hn:hp[n]?=some (.list [.none])) (hk:k≤100000) (hP:P (.ref hp.length) (hp++[.list (List.replicate k .none)])):i9 (.ref n) (.int k) hp P:=by
 refine zS.rep hn (by exact CN) (by exact vl hk) (by simp;exact CL hk) ?_
 rw[Int.toNat_natCast,List.flatten_replicate_singleton]
 exact hP
noncomputable def gj (r:List (Option Nat)):List AV:=r.map dU
noncomputable def gt (sz:List Int):List AV:=sz.map AV.int
inductive rD (as:List AV) (hp:Hp) (P:AV→Hp→Prop):Prop
 | mk (n root fs pr pl f c s p l):as=[.ref n]→hp[n]?=some (.inst 80 (rC f c s p l))→hp[f]?=some (.list (fs.map Fm.av))→hp[c]?=some (.list [])→hp[s]?=some (.list [])→hp[p]?=some (.list (cn pr))→hp[l]?=some (.list (aM pl))→c≠s→oQ root fs pr pl→root.size≤1000→(∀ (cs:List Nat) (ch:List (List Nat)) (sz:List Int) (hp':Hp),Cm root fs pr pl ch sz→(∀ (m:Nat) o,hp[m]?=some o→m≠c→m≠s→hp'[m]?=some o)→hp'[c]?=some (.list (cs.map AV.ref))→cs.length=ch.length→(∀ (i k:Nat) r,cs[i]?=some k→ch[i]?=some r→hp.length≤k∧hp'[k]?=some (.list (aM r)))→hp'[s]?=some (.list (gt sz))→P .none hp')→rD as hp P
section
variable {C:Cx}
theorem ed (h:HK C):aI C 1 (.ref 63) rD:=by
 refine(vG h).mono fun as hp P hF=>?_
 refine nn fun nG=>?_
 obtain⟨n,root,fs,pr,pl,f,c,s,p,l,rfl,hn,hf,hc,hs,hp',hl,n1,F,hz,hP⟩:=hF
 refine nG ?_;clear nG
 have hN:1≤fs.length∧fs.length≤1000:=⟨F.pos,Nat.le_trans F.small hz⟩
 have dL:=F.len1
 have hl2:=F.len2
 have fne:fs.map Fm.av≠[]:=fun e=>by have:=congrArg List.length e;simp at this;rw[this] at hN;simp at hN
 have nfc:f≠c:=fun e=>by rw[e,hc] at hf;injection hf with hf;injection hf with hf;exact fne hf.symm
 have nfs:f≠s:=fun e=>by rw[e,hs] at hf;injection hf with hf;injection hf with hf;exact fne hf.symm
 have npc:p≠c:=fun e=>by rw[e,hc] at hp';injection hp' with q;injection q with q;have:=congrArg List.length q;simp[cn] at this;exact tP hN this dL
 have nps:p≠s:=fun e=>by rw[e,hs] at hp';injection hp' with q;injection q with q;have:=congrArg List.length q;simp[cn] at this;exact tP hN this dL
 have nlc:l≠c:=fun e=>by rw[e,hc] at hl;injection hl with q;injection q with q;have:=congrArg List.length q;simp[aM] at this;exact tP hN this hl2
 have nls:l≠s:=fun e=>by rw[e,hs] at hl;injection hl with q;injection q with q;have:=congrArg List.length q;simp[aM] at this;exact tP hN this hl2
 have nnc:n≠c:=fun e=>by rw[e,hc] at hn;cases hn
 have nns:n≠s:=fun e=>by rw[e,hs] at hn;cases hn
 unfold kH
 walk_at "r"
 with_reducible refine at_ (hn) ?_ (by with_unfolding_all rfl) (by with_unfolding_all rfl)
 walk_at "r"
 refine bX hf (by simp;exact fR hN) ?_
 walk_at "r"
 simp only[List.length_map]
 refine⟨_,aO (by exact fR hN),?_⟩
 walk_at "r"
 refine bB _ (fun i loc hp1=>∃ c3 c4,∃ cs:List Nat,loc=[("self",some (AV.ref n)),("number",c3),("parent",c4)]∧(∀ (m:Nat) o,hp[m]?=some o→m≠c→m≠s→hp1[m]?=some o)∧hp.length≤hp1.length∧hp1[c]?=some (.list (cs.map AV.ref))∧cs.length=i∧
   (∀ (j k:Nat) r,cs[j]?=some k→(fs.map fun y=>List.replicate y.kids.length (none:Option Nat))[j]?=some r→hp.length≤k∧hp1[k]?=some (.list (gj r)))∧cs.Nodup∧hp1[s]?=some (.list (gt (List.replicate i 1))))
  ⟨_,_,[],rfl,fun m o q _ _=>q,Nat.le_refl _,by simpa using hc,rfl,fun j k r q=>by simp at q,List.nodup_nil,by simpa[gt] using hs⟩ ?_ ?_
 ·intro i x loc hp1 K hx hI
  refine nn fun nG=>?_
  obtain⟨c3,c4,cs,rfl,a0,al,a1,a2,a3,a4,a5⟩:=hI
  refine nG ?_;clear nG
  intro hK
  rw[List.getElem?_map] at hx
  refine nn fun nG=>?_
  obtain⟨i',hi',rfl⟩:=Option.map_eq_some_iff.mp hx
  refine nG ?_;clear nG
  have hlt:=(bj hi')
  rw[List.length_range] at hlt
  rw[List.getElem?_range hlt] at hi'
  cases hi'
  have hn1:=a0 _ _ hn nnc nns
  have hf1:=a0 _ _ hf nfc nfs
  have clt:c<hp1.length:=aR a1
  have slt:s<hp1.length:=aR a5
  walk_at "r"
  with_reducible refine at_ (hn1) ?_ (by with_unfolding_all rfl) (by with_unfolding_all rfl)
  walk_at "r"
  refine⟨⟨_,_,rfl,a1,rfl⟩,?_⟩
  walk_at "r"
  have kidav:(fs.map Fm.av)[i]?=some fs[i].av:=by rw[List.getElem?_map,gE hlt];rfl
  refine⟨sz,?_⟩
  walk_at "r"
  with_reducible refine at_ (aB _ hn1) ?_ (by with_unfolding_all rfl) (by with_unfolding_all rfl)
  walk_at "r"
  refine aD (aB _ hf1) kidav (by exact c9 hN hlt) ?_
  walk_at "r"
  rw[fs[i].av_eq]
  walk_at "r"
  have kz:fs[i].kids.length≤1000:=Nat.le_trans fs[i].kids_len (Nat.le_trans (F.sub _ (List.getElem_mem hlt)) hz)
  refine uG (by simp;exact ft kz) ?_
  walk_at "r"
  simp only[List.length_map]
  refine Co (aE _ _) (by exact ft kz) ?_
  walk_at "r"
  have oldb:∀ (m:Nat) o,hp1[m]?=some o→(hp1++[aC.list [AV.none]]++[aC.list (List.replicate fs[i].kids.length AV.none)])[m]?=some o:=fun m o q=>aB _ (aB _ q)
  have newb:(hp1++[aC.list [AV.none]]++[aC.list (List.replicate fs[i].kids.length AV.none)])[(hp1++[aC.list [AV.none]]).length]?=some (.list (List.replicate fs[i].kids.length AV.none)):=aE _ _
  have hk:(hp1++[aC.list [AV.none]]).length=hp1.length+1:=by simp
  have blen:(hp1++[aC.list [AV.none]]++[aC.list (List.replicate fs[i].kids.length AV.none)]).length=hp1.length+2:=by simp
  rw[hk] at newb
  generalize hp1++[aC.list [AV.none]]++[aC.list (List.replicate fs[i].kids.length AV.none)]=hp2 at oldb newb blen ⊢
  refine bW (oldb _ _ a1) (by simp;exact AQ hN a2 hlt) ⟨rfl,?_⟩
  walk_at "r"
  have b1:=aQ (.list (cs.map AV.ref++[.ref (hp1.length+1)])) (oldb _ _ a1)
  have b0:∀ (m:Nat) o,hp2[m]?=some o→m≠c→(hp2.set c (.list (cs.map AV.ref++[.ref (hp1.length+1)])))[m]?=some o:=fun m o q e=>by rw[aJ _ (Ne.symm e)];exact q
  have b2:(hp2.set c (.list (cs.map AV.ref++[.ref (hp1.length+1)]))).length=hp1.length+2:=by simp[blen]
  generalize hp2.set c (.list (cs.map AV.ref++[.ref (hp1.length+1)]))=hp3 at b0 b1 b2 ⊢
  with_reducible refine at_ (b0 _ _ (oldb _ _ hn1) nnc) ?_ (by with_unfolding_all rfl) (by with_unfolding_all rfl)
  walk_at "r"
  have s3:=b0 _ _ (oldb _ _ a5) n1.symm
  refine jK s3 (by simp[gt];exact Di hN hlt) ⟨rfl,?_⟩
  walk_at "r"
  refine⟨⟨aO (by exact fR hN),rfl⟩,hK _ _ ⟨_,_,cs++[hp1.length+1],rfl,fun m o q e1 e2=>?_,by simp[b2];exact AR al,?_,by simp[a2],fun j k r e1 e2=>?_,?_,?_⟩⟩
  ·rw[aJ _ (Ne.symm e2)];exact b0 _ _ (oldb _ _ (a0 m o q e1 e2)) e1
  ·rw[aJ _ (Ne.symm n1),b1];simp
  ·by_cases hji:j<i
   ·rw[List.getElem?_append_left (by exact bt hji a2)] at e1
    obtain⟨q1,q2⟩:=a3 j k r e1 e2
    have kl:=aR q2
    refine⟨q1,?_⟩
    walk_at "r"
    have:=aR hc
    have:=aR hs
    rw[aJ _ (by exact eC this q1)]
    exact b0 _ _ (oldb _ _ q2) (by exact jR ‹_› q1)
   ·have hj:=(bj e1)
    simp[a2] at hj
    have:j=i:=by exact zJ hj hji
    subst this
    rw[show j=cs.length from a2.symm] at e1
    rw[List.getElem?_append_right (Nat.le_refl _)] at e1
    simp at e1
    rw[List.getElem?_map,gE hlt] at e2
    simp at e2
    subst e1 e2
    refine⟨by exact g8 al,?_⟩
    walk_at "r"
    have:=aR hc
    have:=aR hs
    rw[aJ _ (by exact kh slt)]
    rw[b0 _ _ newb (by exact qD clt)]
    simp[gj,dU]
  ·refine List.nodup_append.mpr ⟨a4,by simp,fun x hx y hy e=>?_⟩
   simp at hy
   subst hy
   obtain⟨j,hj⟩:=List.mem_iff_getElem?.mp hx
   have hjl:=(bj hj)
   have:=aR (a3 j x (List.replicate (fs[j]'(AS hjl a2 hlt)).kids.length none) hj (by rw[List.getElem?_map,gE (by exact AS hjl a2 hlt)];rfl)).2
   exact Dj this e
  ·rw[aQ _ s3]
   simp[gt,List.replicate_succ']
 ·intro loc hp1 hI
  refine nn fun nG=>?_
  obtain⟨c3,c4,cs,rfl,a0,al,a1,a2,a3,a4,a5⟩:=hI
  refine nG ?_;clear nG
  simp only[List.length_map,List.length_range] at a2 a5
  walk_at "r"
  with_reducible refine at_ (a0 _ _ hn nnc nns) ?_ (by with_unfolding_all rfl) (by with_unfolding_all rfl)
  walk_at "r"
  refine bX (a0 _ _ hf nfc nfs) (by simp;exact fR hN) ?_
  walk_at "r"
  have e:((List.map Fm.av fs).length:Int)-1=((fs.length-1:Nat):Int):=by simp;exact AU hN
  rw[e]
  refine⟨_,aO (by exact AW hN),?_⟩
  walk_at "r"
  have srcs:=a0
  refine bB _ (fun i loc hp2=>∃ c3 c4,∃ (ch:List (List (Option Nat))) (sz:List Int),loc=[("self",some (AV.ref n)),("number",c3),("parent",c4)]∧(∀ (m:Nat) o,hp[m]?=some o→m≠c→m≠s→hp2[m]?=some o)∧hp2[c]?=some (.list (cs.map AV.ref))∧
   zt fs pr pl i ch sz∧(∀ (j k:Nat) r,cs[j]?=some k→ch[j]?=some r→hp.length≤k∧hp2[k]?=some (.list (gj r)))∧hp2[s]?=some (.list (gt sz)))
   ⟨_,_,_,_,rfl,a0,a1,zt.start,a3,by rw[a5,List.map_const']⟩ ?_ ?_
  ·intro i x loc hp2 K hx hI
   refine nn fun nG=>?_
   obtain⟨d3,d4,ch,sz,rfl,b0,b1,M,b3,b5⟩:=hI
   refine nG ?_;clear nG
   intro hK
   rw[List.getElem?_map] at hx
   refine nn fun nG=>?_
   obtain⟨i',hi',rfl⟩:=Option.map_eq_some_iff.mp hx
   refine nG ?_;clear nG
   have hlt:=(bj hi')
   rw[List.length_range] at hlt
   rw[List.getElem?_range hlt] at hi'
   cases hi'
   refine nn fun nG=>?_
   obtain⟨j,q,y,g,u1,u2,u3,u4,u5,u6⟩:=F.up i hlt
   refine nG ?_;clear nG
   have hjl:=(bj u4)
   have m1:=M.l1
   have m2:=M.l2
   obtain⟨k,hk⟩:∃ k,cs[j]?=some k:=⟨_,gE (by exact bt hjl a2)⟩
   obtain⟨r,hr⟩:∃ r,ch[j]?=some r:=⟨_,gE (by exact bt hjl m1)⟩
   obtain⟨zj,hzj⟩:∃ z,sz[j]?=some z:=⟨_,gE (by exact bt hjl m2)⟩
   obtain⟨zi,hzi⟩:∃ z,sz[i]?=some z:=⟨_,gE (by exact Dk u3 m2 hjl)⟩
   obtain⟨k0,hkr⟩:=b3 j k r hk hr
   have hqr:q<r.length:=by rw[M.row j y r u4 hr];exact(bj u6)
   have rl:r.length≤1000:=by rw[M.row j y r u4 hr];exact Nat.le_trans y.kids_len (Nat.le_trans (F.sub _ (List.mem_of_getElem? u4)) hz)
   have n2:=b0 _ _ hn nnc nns
   have p2:=b0 _ _ hp' npc nps
   have l2:=b0 _ _ hl nlc nls
   walk_at "r"
   with_reducible refine at_ (n2) ?_ (by with_unfolding_all rfl) (by with_unfolding_all rfl)
   walk_at "r"
   refine aD p2 (x:=.int j) (by unfold cn;rw[List.getElem?_map,u1];rfl) (by exact vo hN hlt) ?_
   walk_at "r"
   with_reducible refine at_ (n2) ?_ (by with_unfolding_all rfl) (by with_unfolding_all rfl)
   walk_at "r"
   refine aD b1 (x:=.ref k) (by rw[List.getElem?_map,hk];rfl) (by exact c9 hN hjl) ?_
   walk_at "r"
   with_reducible refine at_ (n2) ?_ (by with_unfolding_all rfl) (by with_unfolding_all rfl)
   walk_at "r"
   refine aD l2 (x:=.int q) (by unfold aM;rw[List.getElem?_map,u2];rfl) (by exact vo hN hlt) ?_
   walk_at "r"
   refine mU hkr (by simpa[gj] using hqr) (by simp[gj];exact ft rl) ?_
   walk_at "r"
   have cne:c<hp.length:=aR hc
   have sne:s<hp.length:=aR hs
   have e0:∀ (m:Nat) o,m≠k→hp2[m]?=some o→(hp2.set k (aC.list ((gj r).set q (AV.int i))))[m]?=some o:=fun m o h1 h2=>by rw[aJ _ (Ne.symm h1)];exact h2
   have e1:=aQ (.list ((gj r).set q (AV.int i))) hkr
   have erow:(gj r).set q (AV.int i)=gj (r.set q (some i)):=by unfold gj;rw[List.map_set];rfl
   rw[erow] at e0 e1 ⊢
   generalize hp2.set k (aC.list (gj (r.set q (some i))))=hp3 at e0 e1 ⊢
   have n3:=e0 n _ (by have:=aR hn;exact eC this k0) n2
   have s3:=e0 s _ (by exact eC sne k0) b5
   with_reducible refine at_ (n3) ?_ (by with_unfolding_all rfl) (by with_unfolding_all rfl)
   walk_at "r"
   refine aD s3 (x:=.int zj) (by unfold gt;rw[List.getElem?_map,hzj];rfl) (by exact c9 hN hjl) ?_
   walk_at "r"
   with_reducible refine at_ (n3) ?_ (by with_unfolding_all rfl) (by with_unfolding_all rfl)
   walk_at "r"
   refine aD s3 (x:=.int zi) (by unfold gt;rw[List.getElem?_map,hzi];rfl) (by exact vo hN hlt) ?_
   walk_at "r"
   with_reducible refine at_ (n3) ?_ (by with_unfolding_all rfl) (by with_unfolding_all rfl)
   walk_at "r"
   refine mU s3 (by simp[gt];exact bt hjl m2) (by simp[gt];exact Dl hN m2) ?_
   walk_at "r"
   refine⟨⟨aO (by exact AW hN),rfl⟩,hK _ _ ⟨_,_,ch.set j (r.set q (some i)),sz.set j (zj+zi),rfl,fun m o h1 h2 h3=>?_,?_,M.step F u1 u2 u3 hr hqr hzj hzi,fun j' k' r' h1 h2=>?_,?_⟩⟩
   ·rw[aJ _ (Ne.symm h3)];exact e0 m o (by have:=aR h1;exact eC this k0) (b0 m o h1 h2 h3)
   ·rw[aJ _ n1.symm];exact e0 c _ (by exact eC cne k0) b1
   ·by_cases hjj:j'=j
    ·subst hjj
     rw[hk] at h1;cases h1
     rw[List.getElem?_set_self (by exact bt hjl m1)] at h2;cases h2
     refine⟨k0,?_⟩
     walk_at "r"
     rw[aJ _ (by exact eC sne k0)];exact e1
    ·rw[List.getElem?_set_ne (Ne.symm hjj)] at h2
     obtain⟨q1,q2⟩:=b3 j' k' r' h1 h2
     refine⟨q1,?_⟩
     walk_at "r"
     have nk:k'≠k:=fun e=>by
      subst e
      have hl':=(bj h1)
      exact hjj ((List.getElem?_inj hl' a4).mp (h1.trans hk.symm))
     rw[aJ _ (by exact eC sne q1)];exact e0 k' _ nk q2
   ·rw[aQ _ s3];unfold gt;rw[List.map_set]
  ·intro loc hp2 hI
   refine nn fun nG=>?_
   obtain⟨d3,d4,ch,sz,rfl,b0,b1,M,b3,b5⟩:=hI
   refine nG ?_;clear nG
   simp only[List.length_map,List.length_range] at M
   refine nn fun nG=>?_
   obtain⟨ch',rfl,FF⟩:=M.flat F
   refine nG ?_;clear nG
   refine hP cs ch' sz hp2 FF b0 b1 (by rw[a2,FF.l3]) (fun j k r h1 h2=>?_) b5
   obtain⟨q1,q2⟩:=b3 j k (r.map some) h1 (by rw[List.getElem?_map,h2];rfl)
   refine⟨q1,?_⟩
   walk_at "r"
   rw[q2]
   simp[gj,aM,dU]
end
set_option genInjectivity false in
structure FL where
 root:Fm
 fs:List Fm
 pr:List (Option Nat)
 pl:List Nat
 ch:List (List Nat)
 sz:List Int
 ok:Cm root fs pr pl ch sz
 small:root.size≤1000
noncomputable abbrev FL.N (F:FL):Nat:=F.fs.length
inductive ax (hp:Hp) (n:Nat) (F:FL):Prop
 | mk (f c s p l) (cs:List Nat):hp[n]?=some (.inst 80 (rC f c s p l))→hp[f]?=some (.list (F.fs.map Fm.av))→hp[c]?=some (.list (cs.map AV.ref))→cs.length=F.ch.length→(∀ (i k:Nat) r,cs[i]?=some k→F.ch[i]?=some r→hp[k]?=some (.list (aM r)))→hp[s]?=some (.list (gt F.sz))→hp[p]?=some (.list (cn F.pr))→hp[l]?=some (.list (aM F.pl))→ax hp n F
theorem ax.keep {hp hp':Hp} {n:Nat} {F:FL} (x:ax hp n F) (k:Kp hp hp'):ax hp' n F:=by
 refine nn fun nG=>?_
 obtain⟨f,c,s,p,l,cs,a1,a2,a3,a4,a5,a6,a7,a8⟩:=x
 refine nG ?_;clear nG
 exact⟨f,c,s,p,l,cs,k _ _ a1,k _ _ a2,k _ _ a3,a4,fun i kk r h1 h2=>k _ _ (a5 i kk r h1 h2),k _ _ a6,k _ _ a7,k _ _ a8⟩
theorem FL.le (F:FL):1≤F.fs.length∧F.fs.length≤1000:=⟨F.ok.pos,Nat.le_trans F.ok.small F.small⟩
theorem ax.lt {hp:Hp} {n:Nat} {F:FL} (x:ax hp n F):n<hp.length:=by obtain⟨f,c,s,p,l,cs,a1,_⟩:=x;exact aR a1
inductive bT (F:FL):Nat→List Nat→Prop
 | top:bT F (F.fs.length-1) []
 | step {i j q l}:F.pr[i]?=some (some j)→F.pl[i]?=some q→bT F j l→bT F i (l++[q])
inductive Cp (as:List AV) (hp:Hp) (P:AV→Hp→Prop):Prop
 | mk (n F):as=[.ref n]→ax hp n F→P (.int (F.fs.length-1:Nat)) hp→Cp as hp P
inductive Bk (as:List AV) (hp:Hp) (P:AV→Hp→Prop):Prop
 | mk (n F i):as=[.ref n,.int (i:Nat)]→ax hp n F→i<F.fs.length→(∀ l hp',bT F i l→Kp hp hp'→P (.tup (aM l)) hp')→Bk as hp P
inductive uP (as:List AV) (hp:Hp) (P:AV→Hp→Prop):Prop
 | mk (n root):as=[.ref n,root.av]→hp[n]?=some (.inst 80 [])→root.av.ok 36=true→root.size≤1000→(∀ F hp',FL.root F=root→(∀ (m:Nat) o,hp[m]?=some o→m≠n→hp'[m]?=some o)→ax hp' n F→P .none hp')→uP as hp P
inductive LI (as:List AV) (hp:Hp) (P:AV→Hp→Prop):Prop
 | mk (root):as=[Fm.av root]→root.av.ok 36=true→root.size≤1000→(∀ F r hp',FL.root F=root→Kp hp hp'→hp.length≤r→ax hp' r F→P (.ref r) hp')→LI as hp P
section
variable {C:Cx}
theorem fI (h:HK C):aI C 1 (.ref 70) Cp:=by
 refine(Ia h).mono fun as hp P hF=>?_
 refine nn fun nG=>?_
 obtain⟨n,F,rfl,⟨f,c,s,p,l,cs,a1,a2,a3,a4,a5,a6,a7,a8⟩,hP⟩:=hF
 refine nG ?_;clear nG
 have:=F.le
 unfold xk
 walk_at "r"
 with_reducible refine at_ (a1) ?_ (by with_unfolding_all rfl) (by with_unfolding_all rfl)
 walk_at "r"
 refine bX a2 (by simp;exact fR this) ?_
 walk_at "r"
 have e:((List.map Fm.av F.fs).length:Int)-1=((F.fs.length-1:Nat):Int):=by simp;exact AU this
 rw[e];exact hP
theorem eN (h:HK C):aI C 1 (.ref 77) Bk:=by
 refine(Ci h).mono fun as hp P hF=>?_
 refine nn fun nG=>?_
 obtain⟨n,F,i,rfl,⟨f,c,s,p,l,cs,a1,a2,a3,a4,a5,a6,a7,a8⟩,hi,hP⟩:=hF
 refine nG ?_;clear nG
 have hN:=F.le
 unfold sW
 walk_at "r"
 refine⟨sz,?_⟩
 walk_at "r"
 refine⟨fun k loc hp1=>∃ (m:Nat) (acc:List Nat),loc=[("self",some (AV.ref n)),("number",some (AV.int m)),("found",some (AV.ref hp.length))]∧m<F.fs.length∧k=F.fs.length-m∧acc.length+(F.fs.length-m)≤1001∧Kp hp hp1∧hp1[hp.length]?=some (.list (aM acc))∧∀ l,bT F m l→bT F i (l++acc.reverse),_,
  ⟨i,[],rfl,hi,rfl,by simp;exact Dm hN,Kp.app _ _,by simp[aM],fun l q=>by simpa using q⟩,?_⟩
 intro k loc hp1 hI
 refine nn fun nG=>?_
 obtain⟨m,acc,rfl,hm,rfl,hz,kp,hf,tr⟩:=hI
 refine nG ?_;clear nG
 walk_at "r"
 with_reducible refine at_ (kp _ _ a1) ?_ (by with_unfolding_all rfl) (by with_unfolding_all rfl)
 walk_at "r"
 have h1:=F.ok.len1
 have h2:=F.ok.len2
 obtain⟨o,ho⟩:∃ o,F.pr[m]?=some o:=⟨_,gE (by exact bt hm h1)⟩
 refine aD (kp _ _ a7) (x:=dU o) (by unfold cn;rw[List.getElem?_map,ho];rfl) (by exact c9 hN hm) ?_
 walk_at "r"
 cases o with
 | none=>
  simp only[dU]
  walk_at "r"
  have hmt:m=F.fs.length-1:=by
   by_cases e:m<F.fs.length-1
   ·refine nn fun nG=>?_
    obtain⟨j,_,_,_,q,_⟩:=F.ok.up m e
    refine nG ?_;clear nG
    rw[ho] at q;cases q
   ·exact AX hm e
  refine K5 hf (sz (by simp[aM];exact vp hz)) ?_
  walk_at "r"
  refine Bj (aE _ _) (sz (by simp[aM];exact vp hz)) ?_
  walk_at "r"
  have:=hP acc.reverse (hp1++[aC.list (aM acc).reverse]) (by simpa using tr [] (by rw[hmt];exact .top)) (kp.trans (Kp.app _ _))
  unfold aM at this ⊢
  rwa [List.map_reverse] at this
 | some j=>
  simp only[dU]
  walk_at "r"
  have hmt:m<F.fs.length-1:=by
   by_cases e:m<F.fs.length-1
   ·exact e
   ·have:m=F.fs.length-1:=by exact AX hm e
    rw[this,F.ok.topp] at ho;cases ho
  refine nn fun nG=>?_
  obtain⟨j',q,y,g,u1,u2,u3,u4,u5,u6⟩:=F.ok.up m hmt
  refine nG ?_;clear nG
  rw[ho] at u1;cases u1
  refine⟨⟨_,_,rfl,hf,rfl⟩,?_⟩
  walk_at "r"
  with_reducible refine at_ (kp _ _ a1) ?_ (by with_unfolding_all rfl) (by with_unfolding_all rfl)
  walk_at "r"
  refine aD (kp _ _ a8) (x:=.int q) (by unfold aM;rw[List.getElem?_map,u2];rfl) (by exact c9 hN hm) ?_
  walk_at "r"
  refine bW hf (by simp[aM];exact vp hz) ⟨rfl,?_⟩
  walk_at "r"
  have kp2:=kp.set (Nat.le_refl _) (.list (aM acc++[.int q]))
  have hf2:=aQ (.list (aM acc++[.int q])) hf
  generalize hp1.set hp.length (.list (aM acc++[.int q]))=hp2 at kp2 hf2
  with_reducible refine at_ (kp2 _ _ a1) ?_ (by with_unfolding_all rfl) (by with_unfolding_all rfl)
  walk_at "r"
  refine aD (kp2 _ _ a7) (x:=.int j) (by unfold cn;rw[List.getElem?_map,ho];rfl) (by exact c9 hN hm) ?_
  walk_at "r"
  refine⟨F.fs.length-j,by exact Dn hmt u3,j,acc++[q],rfl,(bj u4),rfl,by simp;exact Dp hz hm u3,kp2,by rw[hf2];simp[aM],fun l pt=>?_⟩
  have:=tr _ (.step ho u2 pt)
  simpa using this
end
section
variable {C:Cx}
theorem gB {n:Nat} {c:Addr} {l:List (String×AV)} {cs:List Addr} {x:String} {loc:aX} {hp:Hp} {P:Fl→aX→Hp→Prop} (hn:hp[n]?=some (.inst c l)) (hc:cs.elem c=true) (hz:Nat.ble l.length 900=true)
  (hP:∀ hp2:Hp,hp2[n]?=some (.inst c (lh l x (.ref hp.length)))→hp2[hp.length]?=some (.list [])→hp2.length=hp.length+1→(∀ (m:Nat) o,hp[m]?=some o→m≠n→hp2[m]?=some o)→P .next loc hp2):0≤sizeLine∧ty cs x loc P (.ref hp.length) (.ref n) (hp++[.list []]):=by
 have nl:=aR hn
 refine⟨Nat.zero_le _,Kx (aB _ hn) (hP _ (aQ _ (aB _ hn)) (by rw[aJ _ (by exact fq nl)];exact aE _ _) (by simp) fun m o q e=>by rw[aJ _ (Ne.symm e)];exact aB _ q) hc hz⟩
theorem vO (h:HK C):aI C 2 (.ref 49) uP:=by
 refine(vF h (gA h) (ed h)).mono fun as hp P hF=>?_
 obtain⟨n,root,rfl,hn,ok,hz,hP⟩:=hF
 have nl:=aR hn
 unfold kG
 walk_at "r"
 refine gB hn rfl rfl fun hp1 a1 b1 l1 k1=>?_
 walk_at "r"
 refine gB a1 rfl rfl fun hp2 a2 b2 l2 k2=>?_
 walk_at "r"
 refine gB a2 rfl rfl fun hp3 a3 b3 l3 k3=>?_
 walk_at "r"
 refine gB a3 rfl rfl fun hp4 a4 b4 l4 k4=>?_
 walk_at "r"
 refine gB a4 rfl rfl fun hp5 a5 b5 l5 k5=>?_
 walk_at "r"
 simp only[l4,l3,l2,l1] at a5 b5 l5 b4 b3 b2
 have at5:hp5[n]?=some (.inst 80 (rC hp.length (hp.length+1) (hp.length+1+1) (hp.length+1+1+1) (hp.length+1+1+1+1))):=a5
 have f5:hp5[hp.length]?=some (.list []):=k5 _ _ (k4 _ _ (k3 _ _ (k2 _ _ b1 (by exact bo nl)) (by exact bo nl)) (by exact bo nl)) (by exact bo nl)
 have c5:hp5[hp.length+1]?=some (.list []):=k5 _ _ (k4 _ _ (k3 _ _ b2 (by exact qD nl)) (by exact qD nl)) (by exact qD nl)
 have s5:hp5[hp.length+1+1]?=some (.list []):=k5 _ _ (k4 _ _ b3 (by exact AY nl)) (by exact AY nl)
 have p5:hp5[hp.length+1+1+1]?=some (.list []):=k5 _ _ b4 (by exact Dq nl)
 have keep5:∀ (m:Nat) o,hp[m]?=some o→m≠n→hp5[m]?=some o:=fun m o q e=>k5 _ _ (k4 _ _ (k3 _ _ (k2 _ _ (k1 m o q e) e) e) e) e
 walk_at "r"
 refine jv at5 ?_
 walk_at "r"
 refine⟨n,root,_,_,_,_,_,rfl,at5,f5,p5,b5,by exact Dr,by exact Ds,by exact Dt,ok,hz,fun fs pr pl hp6 F0 k6 f6 p6 l6=>⟨rfl,?_⟩⟩
 have at6:=k6 n _ at5 (by exact fq nl) (by exact AZ nl) (by exact A0 nl)
 have c6:=k6 _ _ c5 (by exact vn) (by exact Du) (by exact Dv)
 have s6:=k6 _ _ s5 (by exact Dw) (by exact Dx) (by exact Dy)
 refine jv at6 ?_
 walk_at "r"
 refine⟨n,root,fs,pr,pl,_,_,_,_,_,rfl,at6,f6,c6,s6,p6,l6,by exact Dz,F0,hz,fun cs ch sz' hp7 F1 k7 c7 lc7 r7 s7=>⟨rfl,?_⟩⟩
 refine hP ⟨root,fs,pr,pl,ch,sz',F1,hz⟩ hp7 rfl (fun m o q e=>?_) ⟨_,_,_,_,_,cs,k7 _ _ at6 (by exact kh nl) (by exact A9 nl),k7 _ _ f6 (by exact tQ) (by exact EA),c7,lc7,fun i k r h1 h2=>(r7 i k r h1 h2).2,s7,k7 _ _ p6 (by exact EB) (by exact EC),k7 _ _ l6 (by exact ED) (by exact EE)⟩
 have ml:=aR q
 exact k7 _ _ (k6 _ _ (keep5 m o q e) (by exact fq ml) (by exact AZ ml) (by exact A0 ml)) (by exact kh ml) (by exact A9 ml)
theorem si (h:HK C):aI C 3 (.ref 80) LI:=by
 refine(pE (qt h) (vO h)).mono fun as hp P hF=>?_
 obtain⟨root,rfl,ok,hz,hP⟩:=hF
 refine⟨hp.length,root,rfl,aE _ _,ok,hz,fun F hp' e k fa=>⟨rfl,hP F hp.length hp' e (fun m o q=>k m o (aB _ q) (Nat.ne_of_lt (aR q))) (Nat.le_refl _) fa⟩⟩
end
noncomputable def yA (f g:Fm):Bool:=lP (.str f.k) (.str g.k) && lP f.lb g.lb
theorem gW {f g:Fm}:yA f g=true↔f.k=g.k∧f.lb=g.lb:=by
 unfold yA
 rw[Bool.and_eq_true,uK,uK,AV.str.injEq]
inductive Ij (as:List AV) (hp:Hp) (P:AV→Hp→Prop):Prop
 | mk (f g):as=[Fm.av f,Fm.av g]→f.av.ok 36=true→g.av.ok 36=true→P (.bool (yA f g)) hp→Ij as hp P
theorem eF {f:Fm} {n:Nat} (h:f.av.ok (n+1)=true):(AV.str f.k).ok n=true∧f.lb.ok n=true∧(AV.str f.v).ok n=true∧(AV.tup (f.at_.map dF)).ok n=true:=by
 rw[f.av_eq] at h
 simp only[oN,oI,oS,oT,oL,oB,oR,oG,fv,fw,List.all_cons,List.all_nil,Bool.and_true,Bool.and_eq_true] at h
 exact⟨mX h.1,h.2.1,mX h.2.2.1,h.2.2.2.1⟩
noncomputable def d8 (p:Str×Str):AV:=.tup [aS p.1,.tup [.str p.1,.str p.2]]
theorem jL {chk:Hp→Prop} {hp:Hp} {P:List AV→Hp→Prop} (a:List (Str×Str)) (hc:chk hp) (hz:a.length≤1000) (hP:P (a.map d8) hp) :
  eV (px ["key","name","value"]) cX (wU (wC (wV "key") (wC (wU (wC (wV "name") (wC (wV "value") wN))) wN))) chk (a.map dF) [("key",none),("name",none),("value",none),("k",none)] hp [] P:=by
 refine di _ (fun i acc loc hp'=>∃ c1 c2 c3,loc=[("key",c1),("name",c2),("value",c3),("k",none)]∧hp'=hp∧acc=(a.take i).map d8) ⟨_,_,_,rfl,rfl,rfl⟩ ?_ ?_
 ·rintro i x acc loc hp' K hx ⟨c1,c2,c3,rfl,rfl,rfl⟩ hK
  rw[List.getElem?_map] at hx
  obtain⟨p,hp,rfl⟩:=Option.map_eq_some_iff.mp hx
  have hl:=(bj hp)
  rw[show dF p=.tup [aS p.1,.str p.1,.str p.2] from rfl]
  walk_at "r"
  refine⟨sz,?_⟩
  walk_at "r"
  refine⟨sz,?_⟩
  walk_at "r"
  refine⟨sz (by simp;exact zH hz),?_⟩
  walk_at "r"
  refine⟨hc,hK _ _ _ ⟨_,_,_,rfl,rfl,?_⟩⟩
  rw[List.take_add_one,hp];simp[d8]
 ·rintro acc loc hp' ⟨c1,c2,c3,rfl,rfl,rfl⟩
  rw[List.length_map,List.take_length]
  exact hP
theorem pU (k:Str):AV.sk [.str em,.str k]=some [em,k]:=rfl
noncomputable def gu (a:List (Str×Str)):List (List Str×AV):=a.map fun p=>([em,p.1],.tup [.str p.1,.str p.2])
theorem jM (a:List (Str×Str)):(a.map d8).map gQ=(gu a).map some:=by
 unfold gu
 rw[List.map_map,List.map_map]
 exact List.map_congr_left fun p _=>rfl
noncomputable def cO:List (Str×Str)→Str→Option Str
 | [],_=>none
 | (k',v)::r,k=>if k'=k then some v else cO r k
theorem m9 (a:List (Str×Str)) (k:Str):aZ (gu a) [em,k]=(cO a k).map fun v=>.tup [.str k,.str v]:=by
 induction a with
 | nil=>rfl
 | cons p r ih=>
  obtain⟨k',v⟩:=p
  simp only[gu,List.map_cons,aZ,cO] at ih ⊢
  by_cases e:k'=k
  ·subst e;simp
  ·have:¬ ([em,k']:List Str)=[em,k]:=fun q=>e (by injection q with _ q;injection q)
   rw[if_neg this,if_neg e];exact ih
theorem rE:∀ (l:List (List Str×AV)),(l.map (·.1)).Nodup→fU l=l:=by
 have main:∀ (l acc:List (List Str×AV)),((acc++l).map (·.1)).Nodup→l.foldl (fun acc p=>fC acc p.1 p.2) acc=acc++l:=by
  intro l
  induction l with
  | nil=>intro acc _;simp
  | cons p r ih=>
   intro acc h
   have hn:(aZ acc p.1).isSome=false:=by
    have:p.1 ∉ acc.map (·.1):=by
     rw[List.map_append,List.nodup_append] at h
     exact fun m=>h.2.2 _ m p.1 (by simp) rfl
    clear h ih
    induction acc with
    | nil=>rfl
    | cons q s ih2=>
     simp only[List.map_cons,List.mem_cons,not_or] at this
     unfold aZ
     rw[if_neg (fun e=>this.1 e.symm)]
     exact ih2 this.2
   have e:fC acc p.1 p.2=acc++[p]:=by unfold fC;rw[hn];rfl
   rw[List.foldl_cons,e,ih _ (by simpa using h)]
   simp
 intro l h
 exact(main l [] (by simpa using h)).trans (by simp)
theorem kO {a:List (Str×Str)} (h:(a.map (·.1)).Nodup):fU (gu a)=gu a:=by
 refine rE _ ?_
 unfold gu
 rw[List.map_map]
 have:(List.map ((fun x=>x.1)∘fun (p:Str×Str)=>(([em,p.1],.tup [.str p.1,.str p.2]):List Str×AV)) a)=(a.map (·.1)).map fun k=>[em,k]:=by rw[List.map_map];rfl
 rw[this]
 exact List.Pairwise.map _ (fun a b h e=>h (by injection e with _ e;injection e)) h
section
variable {C:Cx}
theorem dW (h:HK C):aI C 1 (.ref 91) Ij:=by
 refine(qw h).mono fun as hp P hF=>?_
 obtain⟨f,g,rfl,ok1,ok2,hP⟩:=hF
 obtain⟨a1,a2,_,_⟩:=eF ok1
 obtain⟨b1,b2,_,_⟩:=eF ok2
 unfold hV
 rw[f.av_eq,g.av_eq]
 walk_at "r"
 refine bQ (aq _ _ _ (by exact jT) a1) (aq _ _ _ (by exact jT) b1) ?_
 walk_at "r"
 unfold yA at hP
 cases e:lP (.str f.k) (.str g.k) with
 | true=>
  rw[e,Bool.true_and] at hP
  walk_at "r"
  exact bQ (aq _ _ _ (by exact jT) a2) (aq _ _ _ (by exact jT) b2) hP
 | false=>
  rw[e,Bool.false_and] at hP
  walk_at "r"
  exact hP
theorem lW {n:Nat} {l:List AV} {ps:List (List Str×AV)} {hp:Hp} {P:AV→Hp→Prop} (e:hp[n]?=some (.list l)) (hz:l.length≤sizeLine) (ha:l.map gQ=ps.map some) (hP:∀ ep,P (.ref hp.length) (hp++[.dS ep (fU ps)])):lw [.ref n] hp P:=⟨ps,e,hz,ha,hP⟩
inductive yB (as:List AV) (hp:Hp) (P:AV→Hp→Prop):Prop
 | mk (f):as=[Fm.av f]→(f.at_.map (·.1)).Nodup→f.at_.length≤1000→(∀ r ep hp',Kp hp hp'→hp.length≤r→hp'[r]?=some (.dS ep (gu f.at_))→P (.ref r) hp')→yB as hp P
theorem eG (h:HK C):aI C 1 (.ref 213) yB:=by
 refine(xq h).mono fun as hp P hF=>?_
 obtain⟨f,rfl,nd,hz,hP⟩:=hF
 unfold mP
 rw[f.av_eq]
 walk_at "r"
 refine⟨_,rfl,?_⟩
 walk_at "r"
 rw[show hO _ _ [("form",some (AV.tup [AV.str f.k,f.lb,AV.str f.v,AV.tup (List.map dF f.at_),AV.tup (List.map Fm.av f.kids)]))]=[] from rfl]
 refine jL f.at_ ⟨rfl,rfl⟩ hz ?_
 refine lW (ps:=gu f.at_) (aE _ _) (sz (by simp;exact ft hz)) (jM _) fun ep=>?_
 rw[kO nd]
 exact hP _ ep _ (by rw[List.append_assoc];exact Kp.app _ _) (by simp) (aE _ _)
end
noncomputable def iW (f g:Fm):List Str:=f.at_.map (·.1)++(g.at_.map (·.1)).filter fun k=>(cO f.at_ k).isNone
noncomputable def zu (f g:Fm):Nat:=((aY (iW f g)).filter fun k=>decide (cO f.at_ k≠cO g.at_ k)).length
theorem oU {l:List Str} {x:Str}:x∈aY l↔x∈l:=by
 unfold aY
 split
 ·split
  ·simp[Or.comm]
  ·rfl
 ·rfl
theorem gC {l:List Str}:(aY l).length=l.length:=by
 unfold aY
 split
 ·split <;> rfl
 ·rfl
theorem mc {a:List (Str×Str)} {k:Str} (h:cO a k=none):k ∉ a.map (·.1):=by
 induction a with
 | nil=>simp
 | cons p r ih=>
  obtain⟨k',v⟩:=p
  unfold cO at h
  split at h
  ·cases h
  ·rename_i e
   simp only[List.map_cons,List.mem_cons,not_or]
   exact⟨fun q=>e q.symm,ih h⟩
theorem md {a:List (Str×Str)} {k v:Str} (h:cO a k=some v):(k,v)∈a:=by
 induction a with
 | nil=>cases h
 | cons p r ih=>
  obtain⟨k',v'⟩:=p
  unfold cO at h
  split at h
  ·rename_i e;cases h;subst e;exact .head _
  ·exact .tail _ (ih h)
theorem me (a:List (Str×Str)):cf (gu a)=(a.map (·.1)).map aS:=by
 unfold cf gu
 rw[List.map_map,List.map_map];rfl
theorem mf {k:Str} {n ep:Nat} {a:List (Str×Str)} {hp:Hp} {P:AV→Hp→Prop} (hn:hp[n]?=some (.dS ep (gu a))) (h:P (.bool (cO a k).isNone) hp):jY (aS k) (.ref n) hp P:=by
 refine In.mk hn (pU k) ?_
 rw[m9,Option.isSome_map]
 have:(!(cO a k).isSome)=(cO a k).isNone:=by cases cO a k <;> rfl
 rw[this];exact h
theorem yC {k:Str} {n ep:Nat} {a:List (Str×Str)} {hp:Hp} {P:AV→Hp→Prop} (hn:hp[n]?=some (.dS ep (gu a))) (h:P (((cO a k).map fun v=>AV.tup [.str k,.str v]).getD .none) hp) :
  (∃ m o,AV.ref n=AV.ref m∧hp[m]?=some o∧nV o = "dict")∧jB [.ref n,aS k] hp P:=by
 exact⟨⟨_,_,rfl,hn,rfl⟩,.two (.dS hn (pU k) (by rw[m9];exact h))⟩
theorem jk {k v:Str} {n ep:Nat} {a:List (Str×Str)} {hp:Hp} {P:AV→Hp→Prop} (hn:hp[n]?=some (.dS ep (gu a))) (hv:cO a k=some v) (h:P (.tup [.str k,.str v]) hp):ai (.ref n) (aS k) hp P:=
 .dS hn (pU k) (by rw[m9,hv];rfl) h
theorem yD {chk:Hp→Prop} {hp:Hp} {P:List AV→Hp→Prop} {a b:List (Str×Str)} {n ep:Nat} (hn:hp[n]?=some (.dS ep (gu a))) (hc:chk hp) (hz:b.length≤1000) (hP:P (((b.map (·.1)).filter fun k=>(cO a k).isNone).map aS) hp) :
  eV (hM "key") (wB (wX jY (wV "key") (wV "first"))) (wV "key") chk (cf (gu b)) [("first",some (.ref n)),("key",none),("name",none),("value",none),("k",none)] hp [] P:=by
 rw[me]
 refine di _ (fun i acc loc hp'=>∃ c1,loc=[("first",some (.ref n)),("key",c1),("name",none),("value",none),("k",none)]∧hp'=hp∧acc=(((b.map (·.1)).take i).filter fun k=>(cO a k).isNone).map aS) ⟨_,rfl,rfl,rfl⟩ ?_ ?_
 ·rintro i x acc loc hp' K hx ⟨c1,rfl,rfl,rfl⟩ hK
  rw[List.getElem?_map] at hx
  obtain⟨k,hk,rfl⟩:=Option.map_eq_some_iff.mp hx
  have hl:=(bj hk)
  rw[List.length_map] at hl
  walk_at "r"
  refine mf hn ?_
  walk_at "r"
  have tk:(b.map (·.1)).take (i+1)=(b.map (·.1)).take i++[k]:=by rw[List.take_add_one,hk];rfl
  cases e:(cO a k).isNone with
  | true=>
   walk_at "r"
   refine⟨sz ?_,hc,hK _ _ _ ⟨_,rfl,rfl,?_⟩⟩
   ·rw[List.length_map]
    refine Nat.le_trans (List.length_filter_le _ _) ?_
    simp;exact zH hz
   ·rw[tk,List.filter_append];simp[e]
  | false=>
   walk_at "r"
   refine⟨hc,hK _ _ _ ⟨_,rfl,rfl,?_⟩⟩
   rw[tk,List.filter_append];simp[e]
 ·rintro acc loc hp' ⟨c1,rfl,rfl,rfl⟩
  rw[List.length_map,List.take_length]
  exact hP
inductive uQ (as:List AV) (hp:Hp) (P:AV→Hp→Prop):Prop
 | mk (f g):as=[Fm.av f,Fm.av g]→f.av.ok 36=true→g.av.ok 36=true→(f.at_.map (·.1)).Nodup→(g.at_.map (·.1)).Nodup→(iW f g).length≤2→g.at_.length≤1000→(∀ r l hp',Kp hp hp'→hp'[r]?=some (.list l)→l.length=zu f g→P (.ref r) hp')→uQ as hp P
section
variable {C:Cx}
theorem at_ok {f:Fm} (h:f.av.ok 36=true) {p:Str×Str} (hp:p∈f.at_):PyData.strOk p.1=true∧PyData.strOk p.2=true:=by
 have:=(eF h).2.2.2
 simp only[oN,oI,oS,oT,oL,oB,oR,oG,fv,fw,List.all_eq_true] at this
 have:=this _ (List.mem_map_of_mem hp)
 unfold dF aS at this
 simp only[oN,oI,oS,oT,oL,oB,oR,oG,fv,fw,List.all_cons,List.all_nil,Bool.and_true,Bool.and_eq_true] at this
 exact⟨this.2.1,this.2.2⟩
theorem yE {n ep:Nat} {l:List (List Str×AV)} {hp:Hp} {P:AV→Hp→Prop} (e:hp[n]?=some (.dS ep l)) (hz:l.length≤sizeLine) (hP:P (.ref hp.length) (hp++[.list (cf l)])):lD [.ref n] hp P:=⟨e,hz,hP⟩
theorem yF (h:HK C):aI C 1 (.ref 96) uQ:=by
 refine(i5 h).mono fun as hp P hF=>?_
 obtain⟨f,g,rfl,ok1,ok2,nd1,nd2,hu,hz,hP⟩:=hF
 have hz1:f.at_.length≤2:=by unfold iW at hu;simp at hu;exact EF hu
 unfold cx
 rw[f.av_eq,g.av_eq]
 walk_at "r"
 refine⟨_,rfl,?_⟩
 walk_at "r"
 rw[show hO _ _ _=[] from rfl]
 refine jL f.at_ ⟨rfl,rfl⟩ (by exact Aa hz1) ?_
 refine lW (ps:=gu f.at_) (aE _ _) (sz (by simp;exact l7 hz1)) (jM _) fun ep=>?_
 rw[kO nd1]
 have k1:Kp hp (hp++[aC.list (List.map d8 f.at_)]++[aC.dS ep (gu f.at_)]):=by rw[List.append_assoc];exact Kp.app _ _
 have d1:(hp++[aC.list (List.map d8 f.at_)]++[aC.dS ep (gu f.at_)])[(hp++[aC.list (List.map d8 f.at_)]).length]?=some (.dS ep (gu f.at_)):=aE _ _
 generalize (hp++[aC.list (List.map d8 f.at_)]).length=r1 at d1 ⊢
 generalize hp++[aC.list (List.map d8 f.at_)]++[aC.dS ep (gu f.at_)]=h1 at k1 d1 ⊢
 walk_at "r"
 refine⟨_,rfl,?_⟩
 walk_at "r"
 rw[show hO _ _ _=[] from rfl]
 refine jL g.at_ ⟨rfl,rfl⟩ (by exact Ab hz) ?_
 refine lW (ps:=gu g.at_) (aE _ _) (sz (by simp;exact ft hz)) (jM _) fun ep2=>?_
 rw[kO nd2]
 have k2:Kp h1 (h1++[aC.list (List.map d8 g.at_)]++[aC.dS ep2 (gu g.at_)]):=by rw[List.append_assoc];exact Kp.app _ _
 have d2:(h1++[aC.list (List.map d8 g.at_)]++[aC.dS ep2 (gu g.at_)])[(h1++[aC.list (List.map d8 g.at_)]).length]?=some (.dS ep2 (gu g.at_)):=aE _ _
 generalize (h1++[aC.list (List.map d8 g.at_)]).length=r2 at d2 ⊢
 generalize h1++[aC.list (List.map d8 g.at_)]++[aC.dS ep2 (gu g.at_)]=h2 at k2 d2 ⊢
 have d1:=k2 _ _ d1
 have k2:=k1.trans k2
 clear k1
 walk_at "r"
 refine⟨sz,?_⟩
 have fo:=aE h2 (.list [])
 have d1:=aB [aC.list []] d1
 have d2:=aB [aC.list []] d2
 have k3:=k2.trans (Kp.app h2 [aC.list []])
 have flt:=aR fo
 have hl2:hp.length≤h2.length:=k2.len
 generalize h2.length=ro at fo flt hl2 ⊢
 generalize h2++[aC.list []]=h3 at fo d1 d2 k3 flt ⊢
 clear k2
 walk_at "r"
 refine yE d1 (sz (by simp[gu];exact l7 hz1)) ?_
 walk_at "r"
 have ls:=aE h3 (.list (cf (gu f.at_)))
 have fo4:=aB [aC.list (cf (gu f.at_))] fo
 have d1:=aB [aC.list (cf (gu f.at_))] d1
 have d2:=aB [aC.list (cf (gu f.at_))] d2
 have k4:=k3.trans (Kp.app h3 [aC.list (cf (gu f.at_))])
 generalize h3.length=rl at ls ⊢
 generalize h3++[aC.list (cf (gu f.at_))]=h4 at ls fo4 d1 d2 k4 ⊢
 refine⟨_,uH d2,?_⟩
 walk_at "r"
 rw[show hO _ _ _=[("first",some (AV.ref r1))] from rfl]
 refine yD d1 ⟨uH d2,rfl⟩ (by exact Ab hz) ?_
 have nb:=aE h4 (.list (List.map aS (List.filter (fun k=>(cO f.at_ k).isNone) (List.map (fun x=>x.fst) g.at_))))
 have ls:=aB [aC.list (List.map aS (List.filter (fun k=>(cO f.at_ k).isNone) (List.map (fun x=>x.fst) g.at_)))] ls
 have fo5:=aB [aC.list (List.map aS (List.filter (fun k=>(cO f.at_ k).isNone) (List.map (fun x=>x.fst) g.at_)))] fo4
 have d1:=aB [aC.list (List.map aS (List.filter (fun k=>(cO f.at_ k).isNone) (List.map (fun x=>x.fst) g.at_)))] d1
 have d2:=aB [aC.list (List.map aS (List.filter (fun k=>(cO f.at_ k).isNone) (List.map (fun x=>x.fst) g.at_)))] d2
 have k5:=k4.trans (Kp.app h4 [aC.list (List.map aS (List.filter (fun k=>(cO f.at_ k).isNone) (List.map (fun x=>x.fst) g.at_)))])
 have l5:(h4++[aC.list (List.map aS (List.filter (fun k=>(cO f.at_ k).isNone) (List.map (fun x=>x.fst) g.at_)))]).length=h4.length+1:=by simp
 generalize h4++[aC.list (List.map aS (List.filter (fun k=>(cO f.at_ k).isNone) (List.map (fun x=>x.fst) g.at_)))]=h5 at nb ls fo5 d1 d2 k5 l5 ⊢
 have ue:cf (gu f.at_)++List.map aS (List.filter (fun k=>(cO f.at_ k).isNone) (List.map (fun x=>x.fst) g.at_))=(iW f g).map (bG em):=by
  rw[me];unfold iW;rw[List.map_append];rfl
 refine gh ls nb ue (sz (by rw[List.length_map];exact l7 hu)) ?_
 walk_at "r"
 refine uE.mk _ em (iW f g) (.inl (aE _ _)) rfl hu ?_
 have so:=aE (h5++[aC.list ((iW f g).map (bG em))]) (.list (List.map (bG em) (aY (iW f g))))
 have fo6:=aB [aC.list (List.map (bG em) (aY (iW f g)))] (aB [aC.list ((iW f g).map (bG em))] fo5)
 have d1:=aB [aC.list (List.map (bG em) (aY (iW f g)))] (aB [aC.list ((iW f g).map (bG em))] d1)
 have d2:=aB [aC.list (List.map (bG em) (aY (iW f g)))] (aB [aC.list ((iW f g).map (bG em))] d2)
 have k6:Kp hp (h5++[aC.list ((iW f g).map (bG em))]++[aC.list (List.map (bG em) (aY (iW f g)))]):=(k5.trans (Kp.app _ _)).trans (Kp.app _ _)
 have l6:ro<(h5++[aC.list ((iW f g).map (bG em))]).length:=Nat.lt_of_lt_of_le (aR fo5) (by simp)
 generalize (h5++[aC.list ((iW f g).map (bG em))]).length=rs at so l6 ⊢
 generalize h5++[aC.list ((iW f g).map (bG em))]++[aC.list (List.map (bG em) (aY (iW f g)))]=h6 at so fo6 d1 d2 k6 ⊢
 walk_at "r"
 refine⟨_,af so,?_⟩
 walk_at "r"
 have nd12:r1≠ro∧r2≠ro:=⟨fun e=>by (rw[e,fo6] at d1;cases d1),fun e=>by (rw[e,fo6] at d2;cases d2)⟩
 refine bB _ (fun i loc hp'=>∃ c1 l,loc=[("one",some (AV.tup [AV.str f.k,f.lb,AV.str f.v,AV.tup (List.map dF f.at_),AV.tup (List.map Fm.av f.kids)])),("other",some (AV.tup [AV.str g.k,g.lb,AV.str g.v,AV.tup (List.map dF g.at_),AV.tup (List.map Fm.av g.kids)])),("key",c1),
   ("first",some (AV.ref r1)),("second",some (AV.ref r2)),("found",some (AV.ref ro))]∧(∀ (m:Nat) o,h6[m]?=some o→m≠ro→hp'[m]?=some o)∧hp'[ro]?=some (.list l)∧l.length=(((aY (iW f g)).take i).filter fun k=>decide (cO f.at_ k≠cO g.at_ k)).length)
  ⟨_,[],rfl,fun m o q _=>q,fo6,rfl⟩ ?_ ?_
 ·rintro i x loc hp' K hx ⟨c1,l,rfl,a0,a1,a2⟩ hK
  rw[List.getElem?_map] at hx
  obtain⟨k,hk,rfl⟩:=Option.map_eq_some_iff.mp hx
  have hil:=(bj hk)
  rw[gC] at hil
  have ll:l.length≤2:=by
   rw[a2];refine Nat.le_trans (List.length_filter_le _ _) ?_;rw[List.length_take];exact EG hil hu
  have tk:(aY (iW f g)).take (i+1)=(aY (iW f g)).take i++[k]:=by rw[List.take_add_one,hk];rfl
  have e1:=a0 _ _ d1 nd12.1
  have e2:=a0 _ _ d2 nd12.2
  have kmem:k∈iW f g:=oU.mp (List.mem_of_getElem? hk)
  have okk:PyData.strOk k=true:=by
   unfold iW at kmem
   rcases List.mem_append.mp kmem with q | q
   ·obtain⟨p,hp,rfl⟩:=List.mem_map.mp q;exact(at_ok ok1 hp).1
   ·obtain⟨p,hp,rfl⟩:=List.mem_map.mp (List.mem_filter.mp q).1;exact(at_ok ok2 hp).1
  have sr:=a0 _ _ so (by exact bo l6)
  -- one more,or none
  have more:∀ y:AV,cO f.at_ k≠cO g.at_ k→aV [AV.ref ro,y] hp' fun a hp1=>a=AV.none∧(aL (AV.ref rs) hp1=some (List.map (bG em) (aY (iW f g)))∧ag (AV.ref rs) hp1=ag (AV.ref rs) h6)∧
    K [("one",some (AV.tup [AV.str f.k,f.lb,AV.str f.v,AV.tup (List.map dF f.at_),AV.tup (List.map Fm.av f.kids)])),("other",some (AV.tup [AV.str g.k,g.lb,AV.str g.v,AV.tup (List.map dF g.at_),AV.tup (List.map Fm.av g.kids)])),("key",some (bG em k)),
   ("first",some (AV.ref r1)),("second",some (AV.ref r2)),("found",some (AV.ref ro))] hp1:=fun y hd=>by
   refine bW a1 (by exact l7 ll) ⟨rfl,?_⟩
   walk_at "r"
   have s2:(hp'.set ro (.list (l++[y])))[rs]?=some (.list (List.map (bG em) (aY (iW f g)))):=by rw[aJ _ (by exact fq l6)];exact sr
   refine⟨⟨af s2,by rw[be s2,be so]⟩,hK _ _ ⟨_,l++[y],rfl,fun m o q e=>by rw[aJ _ (Ne.symm e)];exact a0 m o q e,aQ _ a1,?_⟩⟩
   rw[tk,List.filter_append,List.length_append,List.length_append,a2]
   simp[hd]
  have none':cO f.at_ k=cO g.at_ k→(aL (AV.ref rs) hp'=some (List.map (bG em) (aY (iW f g)))∧ag (AV.ref rs) hp'=ag (AV.ref rs) h6)∧
    K [("one",some (AV.tup [AV.str f.k,f.lb,AV.str f.v,AV.tup (List.map dF f.at_),AV.tup (List.map Fm.av f.kids)])),("other",some (AV.tup [AV.str g.k,g.lb,AV.str g.v,AV.tup (List.map dF g.at_),AV.tup (List.map Fm.av g.kids)])),("key",some (bG em k)),
   ("first",some (AV.ref r1)),("second",some (AV.ref r2)),("found",some (AV.ref ro))] hp':=fun hd=>by
   refine⟨⟨af sr,by rw[be sr,be so]⟩,hK _ _ ⟨_,l,rfl,a0,a1,?_⟩⟩
   rw[tk,List.filter_append,List.length_append,a2]
   simp[hd]
  walk_at "r"
  refine mf e2 ?_
  walk_at "r"
  cases eg:cO g.at_ k with
  | none=>
   simp only[Option.isNone_none]
   walk_at "r"
   refine⟨⟨_,_,rfl,a1,rfl⟩,sz,more _ ?_⟩
   rw[eg]
   intro ef
   unfold iW at kmem
   rcases List.mem_append.mp kmem with q | q
   ·exact mc ef q
   ·exact mc eg (List.mem_filter.mp q).1
  | some v=>
   have okv:=(at_ok ok2 (md eg)).2
   have okt:(AV.tup [.str k,.str v]).ok 40=true:=by simp[oN,oI,oS,oT,oL,oB,oR,oG,fv,fw,okk,okv]
   simp only[Option.isNone_some]
   walk_at "r"
   refine yC e1 ?_
   walk_at "r"
   refine jk e2 eg ?_
   walk_at "r"
   cases ef:cO f.at_ k with
   | none=>
    simp only[Option.map_none,Option.getD_none]
    refine dw rfl okt ?_
    walk_at "r"
    rw[bP (a:=.none) (b:=.tup [.str k,.str v]) (fun q=>nomatch q)]
    walk_at "r"
    refine⟨⟨_,_,rfl,a1,rfl⟩,?_⟩
    walk_at "r"
    refine jk e2 eg ?_
    walk_at "r"
    refine jk e2 eg ?_
    walk_at "r"
    refine⟨sz,?_⟩
    walk_at "r"
    exact more _ (by rw[ef,eg];exact fun q=>nomatch q)
   | some u=>
    have oku:=(at_ok ok1 (md ef)).2
    have okt2:(AV.tup [.str k,.str u]).ok 40=true:=by simp[oN,oI,oS,oT,oL,oB,oR,oG,fv,fw,okk,oku]
    simp only[Option.map_some,Option.getD_some]
    refine dw okt2 okt ?_
    walk_at "r"
    by_cases huv:u=v
    ·subst huv
     rw[bZ rfl]
     walk_at "r"
     exact none' (by rw[ef,eg])
    ·rw[bP (fun q=>huv (by injection q with q;injection q with _ q;injection q with q;injection q))]
     walk_at "r"
     refine⟨⟨_,_,rfl,a1,rfl⟩,?_⟩
     walk_at "r"
     refine jk e2 eg ?_
     walk_at "r"
     refine jk e2 eg ?_
     walk_at "r"
     refine⟨sz,?_⟩
     walk_at "r"
     exact more _ (by rw[ef,eg];exact fun q=>huv (by injection q))
 ·rintro loc hp' ⟨c1,l,rfl,a0,a1,a2⟩
  rw[List.length_map,List.take_length] at a2
  walk_at "r"
  exact hP ro l hp' (fun m o q=>a0 m o (k6 m o q) (by have:=aR q;exact eC this hl2)) a1 a2
end
noncomputable def oV (f g:Fm):Int:=(if f.v=g.v then 0 else 1)+zu f g
structure zA (f g:Fm):Prop where
 ok1:f.av.ok 36=true
 ok2:g.av.ok 36=true
 nd1:(f.at_.map (·.1)).Nodup
 nd2:(g.at_.map (·.1)).Nodup
 un:(iW f g).length≤2
 sm:g.at_.length≤1000
theorem sj {f g:Fm} (h:zA f g):zu f g≤2:=by
 unfold zu
 refine Nat.le_trans (List.length_filter_le _ _) ?_
 rw[gC];exact h.un
theorem Kf {f g:Fm} (h:zA f g):0≤oV f g∧oV f g≤3:=by
 exact⟨Int.add_nonneg (by split <;> decide) (Int.natCast_nonneg _),Int.add_le_add (b:=1) (d:=2) (by split <;> decide) (Int.ofNat_le.mpr (sj h))⟩
inductive Ik (as:List AV) (hp:Hp) (P:AV→Hp→Prop):Prop
 | mk (f g):as=[Fm.av f,Fm.av g]→zA f g→(∀ hp',Kp hp hp'→P (.int (oV f g)) hp')→Ik as hp P
noncomputable def gv (a b:Int) (c:Option Int) (d:Int):Int:=match c with
 | some k=>if d+k<(if b<a then b else a) then d+k else (if b<a then b else a)
 | none=>if b<a then b else a
theorem sq {p:Prop} [Decidable p] {x u v:Int} (h:x≤u) (k:x≤v):x≤if p then u else v:=by split <;> assumption
theorem jm {x a b d:Int} {c:Option Int} (ha:x≤a) (hb:x≤b) (hc:∀ k,c=some k→x≤d+k):x≤gv a b c d:=by
 unfold gv
 cases c with
 | none=>exact sq hb ha
 | some k=>exact sq (hc k rfl) (sq hb ha)
theorem lX {a b d:Int} {c:Option Int}:gv a b c d≤a∧gv a b c d≤b:=by
 have e:(if b<a then b else a)≤a∧(if b<a then b else a)≤b:=by
  by_cases h:b<a
  ·rw[if_pos h];exact⟨Int.le_of_lt h,Int.le_refl _⟩
  ·rw[if_neg h];exact⟨Int.le_refl _,Int.not_lt.mp h⟩
 cases c with
 | none=>exact e
 | some k=>
  show(if d+k<(if b<a then b else a) then d+k else (if b<a then b else a))≤a∧(if d+k<(if b<a then b else a) then d+k else (if b<a then b else a))≤b
  generalize (if b<a then b else a)=m at e ⊢
  by_cases h:d+k<m
  ·rw[if_pos h];exact⟨Int.le_trans (Int.le_of_lt h) e.1,Int.le_trans (Int.le_of_lt h) e.2⟩
  ·rw[if_neg h];exact e
theorem yG {a b d k:Int}:gv a b (some k) d≤d+k:=by
 show(if d+k<(if b<a then b else a) then d+k else (if b<a then b else a))≤d+k
 by_cases h:d+k<(if b<a then b else a)
 ·rw[if_pos h];exact Int.le_refl _
 ·rw[if_neg h];exact Int.not_lt.mp h
noncomputable def jn (s':Nat→Int):Nat→Int
 | 0=>0
 | q+1=>jn s' q+s' q
noncomputable def rF (prev:Nat→Int) (sp:Int) (s':Nat→Int) (c:Nat→Option Int):Nat→Int
 | 0=>prev 0+sp
 | q+1=>gv (prev (q+1)+sp) (rF prev sp s' c q+s' q) (c q) (prev q)
noncomputable def Tb (s s':Nat→Int) (c:Nat→Nat→Option Int):Nat→Nat→Int
 | 0=>jn s'
 | p+1=>rF (Tb s s' c p) (s p) s' (c p)
noncomputable def iC (f:Nat→Int) (m:Nat):List AV:=(List.range m).map fun q=>AV.int (f q)
theorem gD (f:Nat→Int) (m:Nat):iC f (m+1)=iC f m++[.int (f m)]:=by simp[iC,List.range_succ]
theorem eH {f:Nat→Int} {m q:Nat} (h:q<m):(iC f m)[q]?=some (.int (f q)):=by simp[iC,h]
noncomputable def gK (l:List (List Int×AV)) (i j:Nat):Option Int:=match aZ l [(i:Int),(j:Int)] with
 | some (.int c)=>some c
 | _=>none
noncomputable def f8 (l:List (List Int×AV)):Prop:=∀ k v,aZ l k=some v→∃ c,v=.int c
section
variable {C:Cx}
theorem dj (h:HK C):aI C 2 (.ref 103) Ik:=by
 refine(sX h (yF h)).mono fun as hp P hF=>?_
 refine nn fun nG=>?_
 obtain⟨f,g,rfl,c,hP⟩:=hF
 obtain⟨_,_,a3,_⟩:=eF c.ok1
 obtain⟨_,_,b3,_⟩:=eF c.ok2
 refine nG ?_;clear nG
 unfold jE
 walk_at "r"
 refine jh ?_
 refine jh ?_
 refine dw (aq _ _ _ (by exact jT) a3) (aq _ _ _ (by exact jT) b3) ?_
 walk_at "r"
 rw[eZ]
 by_cases hv:f.v=g.v
 ·simp only[hv,decide_true,Bool.not_true]
  refine⟨f,g,rfl,c.ok1,c.ok2,c.nd1,c.nd2,c.un,c.sm,fun r l hp' k hr hl=>?_⟩
  have:=sj c
  refine bX hr (by exact Ac hl this) ?_
  walk_at "r"
  rw[hl]
  have:=hP hp' k
  unfold oV at this
  rwa [if_pos hv] at this
 ·simp only[hv,decide_false,Bool.not_false]
  refine⟨f,g,rfl,c.ok1,c.ok2,c.nd1,c.nd2,c.un,c.sm,fun r l hp' k hr hl=>?_⟩
  have:=sj c
  refine bX hr (by exact Ac hl this) ?_
  walk_at "r"
  rw[hl]
  have:=hP hp' k
  unfold oV at this
  rwa [if_neg hv] at this
end
noncomputable def rr (a b d:Nat):List (String×AV):=[("one",.ref a),("other",.ref b),("costs",.ref d)]
inductive cM (hp:Hp) (n:Nat) (A B:FL) (l:List (List Int×AV)):Prop
 | mk (a b d):hp[n]?=some (.inst 148 (rr a b d))→ax hp a A→ax hp b B→hp[d]?=some (.dT l)→cM hp n A B l
theorem cM.keep {hp hp':Hp} {n:Nat} {A B:FL} {l:List (List Int×AV)} (x:cM hp n A B l) (k:Kp hp hp'):cM hp' n A B l:=by
 refine nn fun nG=>?_
 obtain⟨a,b,d,h1,h2,h3,h4⟩:=x
 refine nG ?_;clear nG
 exact⟨a,b,d,k _ _ h1,h2.keep k,h3.keep k,k _ _ h4⟩
inductive Bl (hp:Hp) (r:Nat) (f:Nat→Nat→Int) (n m:Nat):Prop
 | mk (ks:List Nat):hp[r]?=some (.list (ks.map AV.ref))→ks.length=n+1→(∀ (p k:Nat),ks[p]?=some k→hp[k]?=some (.list (iC (f p) (m+1))))→Bl hp r f n m
noncomputable def a9 (A B:FL) (l:List (List Int×AV)) (ou th:List Nat):Nat→Nat→Int:=Tb (fun p=>A.sz.getD (ou.getD p 0) 0) (fun q=>B.sz.getD (th.getD q 0) 0) (fun p q=>gK l (ou.getD p 0) (th.getD q 0))
inductive yH (as:List AV) (hp:Hp) (P:AV→Hp→Prop):Prop
 | mk (n i j:Nat) (A B:FL) (l:List (List Int×AV)) (ou th:List Nat):as=[.ref n,.int i,.int j]→cM hp n A B l→A.ch[i]?=some ou→B.ch[j]?=some th→f8 l→(∀ r hp',Kp hp hp'→Bl hp' r (a9 A B l ou th) ou.length th.length→P (.ref r) hp')→yH as hp P
theorem FL.row_lt {A:FL} {i:Nat} {r:List Nat} (h:A.ch[i]?=some r):∀ (p c:Nat),r[p]?=some c→c<A.fs.length:=fun p c hc=>by
 have:=(A.ok.at' i r p c h hc).1
 have h1:=(bj this)
 have:=A.ok.len1;exact dz h1 this
theorem FL.row_len {A:FL} {i:Nat} {r:List Nat} (h:A.ch[i]?=some r):r.length≤1000:=by
 have hi:=(bj h)
 have:=A.ok.l3
 obtain⟨f,hf⟩:∃ f,A.fs[i]?=some f:=⟨_,gE (dz hi this)⟩
 rw[A.ok.row i _ r hf h]
 exact Nat.le_trans (Fm.kids_len _) (Nat.le_trans (A.ok.sub _ (List.mem_of_getElem? hf)) A.small)
theorem pV {n:Nat} {a b:Int} {l:List (List Int×AV)} {hp:Hp} {P:AV→Hp→Prop} (hn:hp[n]?=some (.dT l)) (h:P ((aZ l [a,b]).getD .none) hp):jB [.ref n,.tup [.int a,.int b]] hp P:=.two (.dT hn (k:=[a,b]) rfl h)
theorem Kg {A:FL} {cs:List Nat} {i ko:Nat} {ou:List Nat} {hp:Hp} (x:∀ (i k:Nat) r,cs[i]?=some k→A.ch[i]?=some r→hp[k]?=some (.list (aM r))) (hk:cs[i]?=some ko) (ho:A.ch[i]?=some ou):hp[ko]?=some (.list (aM ou)):=x i ko ou hk ho
section
variable {C:Cx}
theorem dG (h:HK C):aI C 1 (.ref 124) yH:=by
 refine(zl h).mono fun as hp P hF=>?_
 refine nn fun nG=>?_
 obtain⟨n,i,j,A,B,l,ou,th,rfl,⟨a,b,d,h1,⟨f,c,s,p,pl,cs,A1,A2,A3,A4,A5,A6,A7,A8⟩,⟨f',c',s',p',pl',cs',B1,B2,B3,B4,B5,B6,B7,B8⟩,hd⟩,hou,hth,hint,hP⟩:=hF
 refine nG ?_;clear nG
 have il:=(bj hou)
 have jl:=(bj hth)
 have a3:=A.ok.l3
 have b3:=B.ok.l3
 have aN:=A.le
 have bN:=B.le
 have oul:=FL.row_len hou
 have thl:=FL.row_len hth
 obtain⟨ko,hko⟩:∃ k,cs[i]?=some k:=⟨_,gE (by exact bt il A4)⟩
 obtain⟨kt,hkt⟩:∃ k,cs'[j]?=some k:=⟨_,gE (by exact bt jl B4)⟩
 have Ho:=A5 i ko ou hko hou
 have Ht:=B5 j kt th hkt hth
 unfold pN
 unfold rr at h1
 walk_at "r"
 with_reducible refine at_ (h1) ?_ (by with_unfolding_all rfl) (by with_unfolding_all rfl)
 walk_at "r"
 with_reducible refine at_ (A1) ?_ (by with_unfolding_all rfl) (by with_unfolding_all rfl)
 walk_at "r"
 refine aD A3 (x:=.ref ko) (by rw[List.getElem?_map,hko];rfl) (by exact tR aN il a3) ?_
 walk_at "r"
 with_reducible refine at_ (h1) ?_ (by with_unfolding_all rfl) (by with_unfolding_all rfl)
 walk_at "r"
 with_reducible refine at_ (B1) ?_ (by with_unfolding_all rfl) (by with_unfolding_all rfl)
 walk_at "r"
 refine aD B3 (x:=.ref kt) (by rw[List.getElem?_map,hkt];rfl) (by exact tR bN jl b3) ?_
 walk_at "r"
 refine⟨sz,?_⟩
 walk_at "r"
 refine⟨sz,?_⟩
 walk_at "r"
 refine⟨sz,?_⟩
 walk_at "r"
 refine⟨_,af (aB _ (aB _ Ht)),?_⟩
 walk_at "r"
 have thv:∀ (q y:Nat),th[q]?=some y→∃ z,B.sz[y]?=some z∧B.sz.getD (th.getD q 0) 0=z:=fun q y hq=>by
  have:=FL.row_lt hth q y hq
  have b4:=B.ok.l4
  refine⟨B.sz[y]'(bt this b4),gE (by exact bt this b4),?_⟩
  rw[List.getD_eq_getElem?_getD,List.getD_eq_getElem?_getD,hq,Option.getD_some,gE (by exact bt this b4),Option.getD_some]
 have ouv:∀ (q y:Nat),ou[q]?=some y→∃ z,A.sz[y]?=some z∧A.sz.getD (ou.getD q 0) 0=z:=fun q y hq=>by
  have:=FL.row_lt hou q y hq
  have a4:=A.ok.l4
  refine⟨A.sz[y]'(bt this a4),gE (by exact bt this a4),?_⟩
  rw[List.getD_eq_getElem?_getD,List.getD_eq_getElem?_getD,hq,Option.getD_some,gE (by exact bt this a4),Option.getD_some]
 have k0:Kp hp (hp++[aC.list [AV.int 0]]++[aC.list [AV.ref (List.length hp)]]):=by rw[List.append_assoc];exact Kp.app _ _
 have kt0:=k0 _ _ Ht
 have r0:(hp++[aC.list [AV.int 0]]++[aC.list [AV.ref (List.length hp)]])[hp.length]?=some (.list [AV.int 0]):=aB _ (aE _ _)
 have r1:(hp++[aC.list [AV.int 0]]++[aC.list [AV.ref (List.length hp)]])[hp.length+1]?=some (.list [AV.ref hp.length]):=by have:=aE (hp++[aC.list [AV.int 0]]) (.list [AV.ref hp.length]);simpa using this
 generalize hp++[aC.list [AV.int 0]]++[aC.list [AV.ref (List.length hp)]]=hp0 at k0 kt0 r0 r1 ⊢
 have B4:B.sz.length=B.fs.length:=B.ok.l4
 refine bB _ (fun i' loc hp1=>∃ c1,loc=[("self",some (AV.ref n)),("i",some (AV.int ↑i)),("j",some (AV.int ↑j)),("ours",some (AV.ref ko)),("theirs",some (AV.ref kt)),("rows",some (AV.ref (List.length hp+1))),("y",c1),("p",none),
   ("size",none),("row",none),("q",none),("least",none),("kept",none)]∧Kp hp hp1∧hp1[hp.length]?=some (.list (iC (a9 A B l ou th 0) (i'+1)))∧hp1[hp.length+1]?=some (.list [AV.ref hp.length]))
  ⟨_,rfl,k0,r0,r1⟩ ?_ ?_
 ·intro q x loc hp1 K hx hI
  refine nn fun nG=>?_
  obtain⟨c1,rfl,kp,f0,f1⟩:=hI
  refine nG ?_;clear nG
  intro hK
  unfold aM at hx
  rw[List.getElem?_map] at hx
  refine nn fun nG=>?_
  obtain⟨y,hy,rfl⟩:=Option.map_eq_some_iff.mp hx
  refine nG ?_;clear nG
  have ql:=(bj hy)
  refine nn fun nG=>?_
  obtain⟨z,hz,hz2⟩:=thv q y hy
  refine nG ?_;clear nG
  have yl:=FL.row_lt hth q y hy
  walk_at "r"
  refine aD f1 (i:=0) rfl (by exact nh) ?_
  walk_at "r"
  refine⟨⟨_,_,rfl,f0,rfl⟩,?_⟩
  walk_at "r"
  refine aD f1 (i:=0) rfl (by exact nh) ?_
  walk_at "r"
  rw[gD] at f0
  refine lU f0 ?_
  walk_at "r"
  with_reducible refine at_ (kp _ _ h1) ?_ (by with_unfolding_all rfl) (by with_unfolding_all rfl)
  walk_at "r"
  with_reducible refine at_ (kp _ _ B1) ?_ (by with_unfolding_all rfl) (by with_unfolding_all rfl)
  walk_at "r"
  refine aD (kp _ _ B6) (x:=.int z) (by unfold gt;rw[List.getElem?_map,hz];rfl) (by exact c9 bN yl) ?_
  walk_at "r"
  refine bW f0 (by simp[iC];exact Ad ql thl) ⟨rfl,?_⟩
  walk_at "r"
  have kp2:=kp.set (Nat.le_refl _) (.list (iC (a9 A B l ou th 0) q++[AV.int (a9 A B l ou th 0 q)]++[AV.int (a9 A B l ou th 0 q+z)]))
  refine⟨⟨af (kp2 _ _ Ht),by rw[be (kp2 _ _ Ht),be kt0]⟩,hK _ _ ⟨_,rfl,kp2,?_,?_⟩⟩
  ·rw[aQ _ f0,gD,gD]
   have:a9 A B l ou th 0 (q+1)=a9 A B l ou th 0 q+z:=by rw[← hz2];rfl
   rw[this]
  ·rw[aJ _ (by exact tQ)];exact f1
 ·intro loc hp1 hI
  refine nn fun nG=>?_
  obtain⟨c1,rfl,kp,f0,f1⟩:=hI
  refine nG ?_;clear nG
  simp only[aM,List.length_map] at f0
  walk_at "r"
  refine bX (kp _ _ Ho) (by simp[aM];exact ft oul) ?_
  walk_at "r"
  simp only[aM,List.length_map]
  refine⟨_,aO (by exact ft oul),?_⟩
  walk_at "r"
  refine bB _ (fun pp loc hp2=>∃ c2 c3 c4 c5 c6 c7,∃ ks:List Nat,loc=[("self",some (AV.ref n)),("i",some (AV.int ↑i)),("j",some (AV.int ↑j)),("ours",some (AV.ref ko)),("theirs",some (AV.ref kt)),("rows",some (AV.ref (List.length hp+1))),("y",c1),("p",c2),
   ("size",c3),("row",c4),("q",c5),("least",c6),("kept",c7)]∧Kp hp hp2∧hp2[hp.length+1]?=some (.list (ks.map AV.ref))∧ks.length=pp+1∧∀ (p' k:Nat),ks[p']?=some k→hp.length≤k∧hp2[k]?=some (.list (iC (a9 A B l ou th p') (th.length+1))))
   ⟨none,none,none,none,none,none,[hp.length],rfl,kp,f1,rfl,fun p' k hk=>?_⟩ ?_ ?_
  ·cases p' with
   | zero=>simp at hk;subst hk;exact⟨Nat.le_refl _,f0⟩
   | succ p'=>simp at hk
  ·intro pp x loc hp2 K hx hI
   refine nn fun nG=>?_
   obtain⟨c2,c3,c4,c5,c6,c7,ks,rfl,kp2,g1,gl,gr⟩:=hI
   refine nG ?_;clear nG
   intro hK
   rw[List.getElem?_map] at hx
   refine nn fun nG=>?_
   obtain⟨i',hi',rfl⟩:=Option.map_eq_some_iff.mp hx
   refine nG ?_;clear nG
   have ppl:=(bj hi')
   rw[List.length_range] at ppl
   rw[List.getElem?_range ppl] at hi'
   cases hi'
   obtain⟨o,ho⟩:∃ o,ou[pp]?=some o:=⟨_,gE ppl⟩
   refine nn fun nG=>?_
   obtain⟨z,hz,hz2⟩:=ouv pp o ho
   refine nG ?_;clear nG
   have ol:=FL.row_lt hou pp o ho
   obtain⟨kp',hkp'⟩:∃ k,ks[pp]?=some k:=⟨_,gE (by exact tT gl)⟩
   obtain⟨gk0,gk⟩:=gr pp kp' hkp'
   walk_at "r"
   with_reducible refine at_ (kp2 _ _ h1) ?_ (by with_unfolding_all rfl) (by with_unfolding_all rfl)
   walk_at "r"
   with_reducible refine at_ (kp2 _ _ A1) ?_ (by with_unfolding_all rfl) (by with_unfolding_all rfl)
   walk_at "r"
   refine aD (kp2 _ _ Ho) (x:=.int o) (by unfold aM;rw[List.getElem?_map,ho];rfl) (by exact ip ppl oul) ?_
   walk_at "r"
   refine aD (kp2 _ _ A6) (x:=.int z) (by unfold gt;rw[List.getElem?_map,hz];rfl) (by exact c9 aN ol) ?_
   walk_at "r"
   refine aD g1 (x:=.ref kp') (by rw[List.getElem?_map,hkp'];rfl) (by exact ip ppl oul) ?_
   walk_at "r"
   refine aD gk (i:=0) (x:=.int (a9 A B l ou th pp 0)) (eH (by exact vq)) (by exact nh) ?_
   walk_at "r"
   refine⟨sz,?_⟩
   walk_at "r"
   have kp3:=kp2.trans (Kp.app hp2 [aC.list [AV.int (a9 A B l ou th pp 0+z)]])
   have rn:=aE hp2 (.list [AV.int (a9 A B l ou th pp 0+z)])
   have oldg:∀ (m:Nat) o,hp2[m]?=some o→(hp2++[aC.list [AV.int (a9 A B l ou th pp 0+z)]])[m]?=some o:=fun m o q=>aB _ q
   have rlt:=kp2.len
   generalize hp2++[aC.list [AV.int (a9 A B l ou th pp 0+z)]]=hp3 at kp3 rn oldg ⊢
   refine bX (kp3 _ _ Ht) (by simp[aM];exact ft thl) ?_
   walk_at "r"
   simp only[aM,List.length_map]
   refine⟨_,aO (by exact ft thl),?_⟩
   walk_at "r"
   refine bB _ (fun qq loc hp4=>∃ c5 c6 c7,loc=[("self",some (AV.ref n)),("i",some (AV.int ↑i)),("j",some (AV.int ↑j)),("ours",some (AV.ref ko)),("theirs",some (AV.ref kt)),("rows",some (AV.ref (List.length hp+1))),("y",c1),("p",some (AV.int ↑pp)),
   ("size",some (AV.int z)),("row",some (AV.ref hp2.length)),("q",c5),("least",c6),("kept",c7)]∧(∀ (m:Nat) o,hp3[m]?=some o→m≠hp2.length→hp4[m]?=some o)∧hp4[hp2.length]?=some (.list (iC (a9 A B l ou th (pp+1)) (qq+1))))
    ⟨_,_,_,rfl,fun m o q _=>q,?_⟩ ?_ ?_
   ·rw[rn]
    have:a9 A B l ou th (pp+1) 0=a9 A B l ou th pp 0+z:=by rw[← hz2];rfl
    rw[show iC (a9 A B l ou th (pp+1)) (0+1)=[AV.int (a9 A B l ou th (pp+1) 0)] from rfl,this]
   ·intro qq x loc hp4 K2 hx2 hI
    refine nn fun nG=>?_
    obtain⟨e5,e6,e7,rfl,w0,w1⟩:=hI
    refine nG ?_;clear nG
    intro hK2
    rw[List.getElem?_map] at hx2
    refine nn fun nG=>?_
    obtain⟨i2,hi2,rfl⟩:=Option.map_eq_some_iff.mp hx2
    refine nG ?_;clear nG
    have qql:=(bj hi2)
    rw[List.length_range] at qql
    rw[List.getElem?_range qql] at hi2
    cases hi2
    obtain⟨t,ht⟩:∃ t,th[qq]?=some t:=⟨_,gE qql⟩
    refine nn fun nG=>?_
    obtain⟨z',hz',hz2'⟩:=thv qq t ht
    refine nG ?_;clear nG
    have tl:=FL.row_lt hth qq t ht
    have k4:Kp hp hp4:=fun m o q=>w0 m o (kp3 m o q) (by have:=aR q;exact eC this rlt)
    have g4:=w0 _ _ (oldg _ _ g1) (by have:=aR g1;exact vt this)
    have gk4:=w0 _ _ (oldg _ _ gk) (by have:=aR gk;exact fq this)
    walk_at "r"
    refine aD g4 (x:=.ref kp') (by rw[List.getElem?_map,hkp'];rfl) (by exact ip ppl oul) ?_
    walk_at "r"
    rw[show((qq:Int)+1)=((qq+1:Nat):Int) from by exact EH]
    refine aD gk4 (x:=.int (a9 A B l ou th pp (qq+1))) (eH (by exact EI qql)) (by exact EJ qql thl) ?_
    walk_at "r"
    refine aD w1 (x:=.int (a9 A B l ou th (pp+1) qq)) (eH (by exact dy)) (by exact ip qql thl) ?_
    walk_at "r"
    with_reducible refine at_ (k4 _ _ h1) ?_ (by with_unfolding_all rfl) (by with_unfolding_all rfl)
    walk_at "r"
    with_reducible refine at_ (k4 _ _ B1) ?_ (by with_unfolding_all rfl) (by with_unfolding_all rfl)
    walk_at "r"
    refine aD (k4 _ _ Ht) (x:=.int t) (by unfold aM;rw[List.getElem?_map,ht];rfl) (by exact ip qql thl) ?_
    walk_at "r"
    refine aD (k4 _ _ B6) (x:=.int z') (by unfold gt;rw[List.getElem?_map,hz'];rfl) (by exact c9 bN tl) ?_
    walk_at "r"
    with_reducible refine at_ (k4 _ _ h1) ?_ (by with_unfolding_all rfl) (by with_unfolding_all rfl)
    walk_at "r"
    refine⟨⟨_,_,rfl,k4 _ _ hd,rfl⟩,?_⟩
    walk_at "r"
    refine aD (k4 _ _ Ho) (x:=.int o) (by unfold aM;rw[List.getElem?_map,ho];rfl) (by exact ip ppl oul) ?_
    walk_at "r"
    refine aD (k4 _ _ Ht) (x:=.int t) (by unfold aM;rw[List.getElem?_map,ht];rfl) (by exact ip qql thl) ?_
    walk_at "r"
    refine⟨sz,?_⟩
    walk_at "r"
    refine pV (k4 _ _ hd) ?_
    walk_at "r"
    have step:a9 A B l ou th (pp+1) (qq+1)=gv (a9 A B l ou th pp (qq+1)+z) (a9 A B l ou th (pp+1) qq+z') (gK l o t) (a9 A B l ou th pp qq):=by
     have e1:ou.getD pp 0=o:=by rw[List.getD_eq_getElem?_getD,ho];rfl
     have e2:th.getD qq 0=t:=by rw[List.getD_eq_getElem?_getD,ht];rfl
     rw[← hz2,← hz2',e1,e2]
     show gv (a9 A B l ou th pp (qq+1)+A.sz.getD (ou.getD pp 0) 0) (a9 A B l ou th (pp+1) qq+B.sz.getD (th.getD qq 0) 0) (gK l (ou.getD pp 0) (th.getD qq 0)) (a9 A B l ou th pp qq)=_
     rw[e1,e2]
    have last:∀ c6 c7,aV [AV.ref hp2.length,.int (a9 A B l ou th (pp+1) (qq+1))] hp4 fun a hp1=>a=AV.none∧(aL (AV.rng 0 ↑th.length 1) hp1=some (List.map (fun (k:Nat)=>AV.int ↑k) (List.range th.length))∧ag (AV.rng 0 ↑th.length 1) hp1=ag (AV.rng 0 ↑th.length 1) hp3)∧
      K2 [("self",some (AV.ref n)),("i",some (AV.int ↑i)),("j",some (AV.int ↑j)),("ours",some (AV.ref ko)),("theirs",some (AV.ref kt)),("rows",some (AV.ref (List.length hp+1))),("y",c1),("p",some (AV.int ↑pp)),
   ("size",some (AV.int z)),("row",some (AV.ref hp2.length)),("q",some (AV.int ↑qq)),("least",c6),("kept",c7)] hp1:=fun c6 c7=>by
     refine bW w1 (by simp[iC];exact Ad qql thl) ⟨rfl,?_⟩
     walk_at "r"
     refine⟨⟨aO (by exact ft thl),rfl⟩,hK2 _ _ ⟨_,_,_,rfl,fun m o q e=>by rw[aJ _ (Ne.symm e)];exact w0 m o q e,?_⟩⟩
     rw[aQ _ w1,gD _ (qq+1)]
    have ll:(∃ n o,AV.ref hp2.length=AV.ref n∧hp4[n]?=some o∧nV o = "list"):=⟨_,_,rfl,w1,rfl⟩
    cases hlk:aZ l [(o:Int),(t:Int)] with
    | none=>
     have hc:gK l o t=none:=by unfold gK;rw[hlk]
     rw[hc] at step
     simp only[Option.getD_none]
     walk_at "r"
     refine⟨ll,?_⟩
     walk_at "r"
     have:=last (some (.int (a9 A B l ou th (pp+1) (qq+1)))) (some .none)
     rw[step] at this
     exact this
    | some v=>
     obtain⟨c0,rfl⟩:=hint _ _ hlk
     have hc:gK l o t=some c0:=by unfold gK;rw[hlk]
     rw[hc] at step
     simp only[Option.getD_some]
     walk_at "r"
     refine aD g4 (x:=.ref kp') (by rw[List.getElem?_map,hkp'];rfl) (by exact ip ppl oul) ?_
     walk_at "r"
     refine aD gk4 (x:=.int (a9 A B l ou th pp qq)) (eH (by exact dc qql)) (by exact ip qql thl) ?_
     walk_at "r"
     unfold gv at step
     by_cases hlt:a9 A B l ou th pp qq+c0<(if a9 A B l ou th (pp+1) qq+z'<a9 A B l ou th pp (qq+1)+z then a9 A B l ou th (pp+1) qq+z' else a9 A B l ou th pp (qq+1)+z)
     ·simp only[hlt,if_true,decide_true] at step ⊢
      refine aD g4 (x:=.ref kp') (by rw[List.getElem?_map,hkp'];rfl) (by exact ip ppl oul) ?_
      walk_at "r"
      refine aD gk4 (x:=.int (a9 A B l ou th pp qq)) (eH (by exact dc qql)) (by exact ip qql thl) ?_
      walk_at "r"
      refine⟨ll,?_⟩
      walk_at "r"
      have:=last (some (.int (a9 A B l ou th (pp+1) (qq+1)))) (some (.int c0))
      rw[step] at this
      exact this
     ·simp only[hlt,if_false,decide_false] at step ⊢
      walk_at "r"
      refine⟨ll,?_⟩
      walk_at "r"
      have:=last (some (.int (a9 A B l ou th (pp+1) (qq+1)))) (some (.int c0))
      rw[step] at this
      exact this
   ·intro loc hp4 hI
    refine nn fun nG=>?_
    obtain⟨e5,e6,e7,rfl,w0,w1⟩:=hI
    refine nG ?_;clear nG
    simp only[List.length_map,List.length_range] at w1
    have k4:Kp hp hp4:=fun m o q=>w0 m o (kp3 m o q) (by have:=aR q;exact eC this rlt)
    have g4:=w0 _ _ (oldg _ _ g1) (by have:=aR g1;exact vt this)
    walk_at "r"
    refine jK g4 (by simp;exact EK gl ppl oul) ⟨rfl,?_⟩
    walk_at "r"
    refine⟨⟨aO (by exact ft oul),rfl⟩,hK _ _ ⟨_,_,_,_,_,_,ks++[hp2.length],rfl,k4.set (by exact jS) _,by rw[aQ _ g4];simp,by simp[gl],fun p' k hk=>?_⟩⟩
    by_cases hpl:p'<ks.length
    ·rw[List.getElem?_append_left hpl] at hk
     obtain⟨q1,q2⟩:=gr p' k hk
     have nk:k≠hp.length+1:=fun e=>by
      rw[e,g1] at q2
      injection q2 with q2;injection q2 with q2
      have:(ks.map AV.ref)[0]?=(iC (a9 A B l ou th p') (th.length+1))[0]?:=by rw[q2]
      rw[eH (by exact vq),List.getElem?_map] at this
      cases h0:ks[0]? with
      | none=>rw[h0] at this;cases this
      | some _=>rw[h0] at this;cases this
     refine⟨q1,?_⟩
     walk_at "r"
     rw[aJ _ (Ne.symm nk)]
     exact w0 _ _ (oldg _ _ q2) (by have:=aR q2;exact fq this)
    ·have hl':=(bj hk)
     simp at hl'
     have:p'=ks.length:=by exact zJ hl' hpl
     subst this
     rw[List.getElem?_append_right (Nat.le_refl _)] at hk
     simp at hk
     subst hk
     refine⟨by exact ki rlt,?_⟩
     walk_at "r"
     rw[aJ _ (by have:=aR g1;exact vt this),gl]
     exact w1
  ·intro loc hp2 hI
   refine nn fun nG=>?_
   obtain⟨c2,c3,c4,c5,c6,c7,ks,rfl,kp2,g1,gl,gr⟩:=hI
   refine nG ?_;clear nG
   walk_at "r"
   simp only[List.length_map,List.length_range] at gl
   exact hP _ _ kp2 ⟨ks,g1,gl,fun p' k hk=>(gr p' k hk).2⟩
end
theorem mh {a b d a' b' d':Int} {c c':Option Int} (h1:a=a') (h2:b=b') (h3:c=c') (h4:d=d'):gv a b c d=gv a' b' c' d':=by subst h1 h2 h3 h4;rfl
theorem yI {s s':Nat→Int} {c c':Nat→Nat→Option Int} {n m:Nat} (h:∀ p q,p<n→q<m→c p q=c' p q):∀ p q,p≤n→q≤m→Tb s s' c p q=Tb s s' c' p q:=by
 intro p
 induction p with
 | zero=>intro q _ _;rfl
 | succ p ih=>
  intro q hp hq
  induction q with
  | zero=>show Tb s s' c p 0+s p=Tb s s' c' p 0+s p;rw[ih 0 (by exact aj hp) (by exact kj)]
  | succ q ihq=>
   show gv (Tb s s' c p (q+1)+s p) (Tb s s' c (p+1) q+s' q) (c p q) (Tb s s' c p q)=gv (Tb s s' c' p (q+1)+s p) (Tb s s' c' (p+1) q+s' q) (c' p q) (Tb s s' c' p q)
   exact mh (by rw[ih _ (by exact aj hp) hq]) (by rw[ihq (by exact aj hq)]) (h p q (by exact bU hp) (by exact bU hq)) (ih q (by exact aj hp) (by exact aj hq))
theorem mi {A B:FL} {l l':List (List Int×AV)} {ou th:List Nat} (h:∀ (p q o t:Nat),ou[p]?=some o→th[q]?=some t→gK l o t=gK l' o t):a9 A B l ou th ou.length th.length=a9 A B l' ou th ou.length th.length:=by
 refine yI (n:=ou.length) (m:=th.length) (fun p q hp hq=>?_) _ _ (Nat.le_refl _) (Nat.le_refl _)
 rw[List.getD_eq_getElem?_getD,List.getD_eq_getElem?_getD,gE hp,gE hq]
 exact h p q _ _ (gE hp) (gE hq)
noncomputable def yJ (A B:FL) (l:List (List Int×AV)) (i j:Nat):Prop:=∀ f g ou th,A.fs[i]?=some f→B.fs[j]?=some g→A.ch[i]?=some ou→B.ch[j]?=some th→gK l i j=if yA f g=true then some (oV f g+a9 A B l ou th ou.length th.length) else none
noncomputable def eO (A B:FL) (l:List (List Int×AV)):Prop:=f8 l∧∀ i j,yJ A B l i j
structure iD (A B:FL) (l:List (List Int×AV)) (i j:Nat):Prop where
 iv:f8 l
 done:∀ i' j',i'<i∨(i'=i∧j'<j)→yJ A B l i' j'
 rest:∀ i' j':Nat,¬ (i'<i∨(i'=i∧j'<j))→aZ l [(i':Int),(j':Int)]=none
 len:l.length≤1000 * i+j
theorem eI {κ:Type} [DecidableEq κ] (l:List (κ×AV)) (k:κ) (x:AV) (k':κ):aZ (l++[(k,x)]) k'=match aZ l k' with
  | some v=>some v
  | none=>if k=k' then some x else none:=by
 induction l with
 | nil=>simp[aZ]
 | cons p r ih=>
  obtain⟨k2,v⟩:=p
  simp only[List.cons_append,aZ]
  by_cases e:k2=k'
  ·simp[e]
  ·simp only[e,if_false];exact ih
theorem iD.skip {A B:FL} {l:List (List Int×AV)} {i j:Nat} {f g:Fm} (c:iD A B l i j) (hf:A.fs[i]?=some f) (hg:B.fs[j]?=some g) (no:yA f g=false):iD A B l i (j+1) where
 iv:=c.iv
 done:=fun i' j' h=>by
  by_cases e:i'=i∧j'=j
  ·obtain⟨rfl,rfl⟩:=e
   intro f' g' ou th a1 a2 _ _
   rw[hf] at a1;cases a1
   rw[hg] at a2;cases a2
   rw[no]
   unfold gK
   rw[c.rest i' j' (by exact Ae)];rfl
  ·exact c.done i' j' (by exact Af h e)
 rest:=fun i' j' h=>c.rest i' j' (by exact Ag h)
 len:=by have:=c.len;exact EL this
theorem iD.put {A B:FL} {l:List (List Int×AV)} {i j:Nat} {f g:Fm} {ou th:List Nat} (c:iD A B l i j) (hf:A.fs[i]?=some f) (hg:B.fs[j]?=some g) (ho:A.ch[i]?=some ou) (ht:B.ch[j]?=some th) (yes:yA f g=true) :
  iD A B (fC l [(i:Int),(j:Int)] (.int (oV f g+a9 A B l ou th ou.length th.length))) i (j+1):=by
 have hn:=c.rest i j (by exact Ae)
 have e:fC l [(i:Int),(j:Int)] (.int (oV f g+a9 A B l ou th ou.length th.length))=l++[([(i:Int),(j:Int)],.int (oV f g+a9 A B l ou th ou.length th.length))]:=by unfold fC;rw[hn];rfl
 rw[e]
 have other:∀ i' j':Nat,¬ (i'=i∧j'=j)→gK (l++[([(i:Int),(j:Int)],AV.int (oV f g+a9 A B l ou th ou.length th.length))]) i' j'=gK l i' j':=fun i' j' h=>by
  unfold gK
  rw[eI]
  cases aZ l [(i':Int),(j':Int)] with
  | some v=>rfl
  | none=>
   have:¬ ([(i:Int),(j:Int)]:List Int)=[(i':Int),(j':Int)]:=fun q=>h (by simp at q;exact EM q)
   simp only[if_neg this]
 refine⟨fun k v hv=>?_,fun i' j' h=>?_,fun i' j' h=>?_,by have:=c.len;simp;exact EN this⟩
 ·rw[eI] at hv
  cases hl:aZ l k with
  | some v'=>rw[hl] at hv;cases hv;exact c.iv k v hl
  | none=>
   rw[hl] at hv
   simp only at hv
   split at hv
   ·cases hv;exact⟨_,rfl⟩
   ·cases hv
 ·by_cases hij:i'=i∧j'=j
  ·obtain⟨rfl,rfl⟩:=hij
   intro f' g' ou' th' a1 a2 a3 a4
   rw[hf] at a1;cases a1
   rw[hg] at a2;cases a2
   rw[ho] at a3;cases a3
   rw[ht] at a4;cases a4
   rw[yes]
   have e1:a9 A B (l++[([(i':Int),(j':Int)],AV.int (oV f g+a9 A B l ou th ou.length th.length))]) ou th ou.length th.length=a9 A B l ou th ou.length th.length:=mi fun p q o t h1 h2=>other o t fun hh=>by
    have:=(A.ok.at' i' ou p o ho h1).1
    obtain⟨jj,_,_,_,b1,_,b2,_⟩:=A.ok.up o (by
     have h3:=(bj this)
     have h4:=A.ok.len1
     have h5:o≠A.fs.length-1:=fun e=>by rw[e,A.ok.topp] at this;cases this
     exact tO h3 h5 h4)
    rw[this] at b1;cases b1
    exact EO hh b2
   unfold gK
   rw[eI,hn]
   simp only[if_true]
   rw[e1]
  ·have:=c.done i' j' (by exact Af h hij)
   intro f' g' ou' th' a1 a2 a3 a4
   rw[other i' j' hij,this f' g' ou' th' a1 a2 a3 a4]
   have e1:a9 A B (l++[([(i:Int),(j:Int)],AV.int (oV f g+a9 A B l ou th ou.length th.length))]) ou' th' ou'.length th'.length=a9 A B l ou' th' ou'.length th'.length:=mi fun p q o t h1 h2=>other o t fun hh=>by
    have:=(A.ok.at' i' ou' p o a3 h1).1
    obtain⟨jj,_,_,_,b1,_,b2,_⟩:=A.ok.up o (by
     have h3:=(bj this)
     have h4:=A.ok.len1
     have h5:o≠A.fs.length-1:=fun e=>by rw[e,A.ok.topp] at this;cases this
     exact tO h3 h5 h4)
    rw[this] at b1;cases b1
    exact EP h hh b2
   rw[e1]
 ·rw[eI,c.rest i' j' (by exact Ag h)]
  have:¬ ([(i:Int),(j:Int)]:List Int)=[(i':Int),(j':Int)]:=fun q=>h (by simp at q;exact EQ q)
  simp only[if_neg this]
inductive yK (as:List AV) (hp:Hp) (P:AV→Hp→Prop):Prop
 | mk (n a b:Nat) (A B:FL):as=[.ref n,.ref a,.ref b]→hp[n]?=some (.inst 148 [])→ax hp a A→ax hp b B→(∀ f∈A.fs,∀ g∈B.fs,zA f g)→(∀ l hp',(∀ (m:Nat) o,hp[m]?=some o→m≠n→hp'[m]?=some o)→cM hp' n A B l→eO A B l→P .none hp')→yK as hp P
inductive oW (as:List AV) (hp:Hp) (P:AV→Hp→Prop):Prop
 | mk (a b:Nat) (A B:FL):as=[.ref a,.ref b]→ax hp a A→ax hp b B→(∀ f∈A.fs,∀ g∈B.fs,zA f g)→(∀ l r hp',Kp hp hp'→hp.length≤r→cM hp' r A B l→eO A B l→P (.ref r) hp')→oW as hp P
theorem ax.keepBut {hp hp':Hp} {n x:Nat} {o':aC} {F:FL} (y:ax hp n F) (hx:hp[x]?=some o') (nd:(∀ l,o'≠.list l)∧∀ f c s p l,o'≠.inst 80 (rC f c s p l)) (k:∀ (m:Nat) o,hp[m]?=some o→m≠x→hp'[m]?=some o):ax hp' n F:=by
 obtain⟨f,c,s,p,l,cs,a1,a2,a3,a4,a5,a6,a7,a8⟩:=y
 have nl:∀ (m:Nat) l,hp[m]?=some (.list l)→m≠x:=fun m l h e=>by subst e;rw[hx] at h;exact nd.1 l (by injection h)
 have ni:n≠x:=fun e=>by subst e;rw[hx] at a1;exact nd.2 _ _ _ _ _ (by injection a1)
 exact⟨f,c,s,p,l,cs,k _ _ a1 ni,k _ _ a2 (nl _ _ a2),k _ _ a3 (nl _ _ a3),a4,fun i kk r h1 h2=>k _ _ (a5 i kk r h1 h2) (nl _ _ (a5 i kk r h1 h2)),k _ _ a6 (nl _ _ a6),k _ _ a7 (nl _ _ a7),k _ _ a8 (nl _ _ a8)⟩
theorem zv {n:Nat} {a b:Int} {l:List (List Int×AV)} {x:AV} {hp:Hp} {P:Hp→Prop} (hn:hp[n]?=some (.dT l)) (hz:l.length≤10000000) (hP:P (hp.set n (.dT (fC l [a,b] x)))):qT (.ref n) (.tup [.int a,.int b]) x hp P:=.dT hn (k:=[a,b]) rfl (by rw[sizeLine_eq];exact vu hz) hP
theorem Bm {l:List (List Int×AV)} {k:List Int} {x:AV} (h:aZ l k=none):(fC l k x).length=l.length+1:=by unfold fC;rw[h];simp
section
variable {C:Cx}
theorem yL (h:HK C):aI C 3 (.ref 117) yK:=by
 refine(xm h (dW h) (dj h) (dG h)).mono fun as hp P hF=>?_
 refine nn fun nG=>?_
 obtain⟨n,a,b,A,B,rfl,hn,fa,fb,cmp,hP⟩:=hF
 refine nG ?_;clear nG
 have nl:=aR hn
 have aN:=A.le
 have bN:=B.le
 unfold mJ
 walk_at "r"
 refine yz [("one",.ref a)] hn ?_
 walk_at "r"
 refine yz [("one",.ref a),("other",.ref b)] (aQ _ hn) ?_
 walk_at "r"
 refine⟨.dT [],.inr rfl,?_⟩
 walk_at "r"
 refine yz (rr a b hp.length) (aB _ (aQ _ (aQ _ hn))) ?_ (by simp[lh,rr])
 unfold rr
 have M1:((((hp.set n (.inst 148 [("one",.ref a)])).set n (.inst 148 [("one",.ref a),("other",.ref b)])++[aC.dT []]).set n (.inst 148 (rr a b hp.length))))[n]?=some (.inst 148 (rr a b hp.length)):=aQ _ (aB _ (aQ _ (aQ (.inst 148 [("one",.ref a)]) hn)))
 have D1:((((hp.set n (.inst 148 [("one",.ref a)])).set n (.inst 148 [("one",.ref a),("other",.ref b)])++[aC.dT []]).set n (.inst 148 (rr a b hp.length))))[hp.length]?=some (.dT []):=by
  rw[aJ _ (by exact fq nl)];simp
 have K1:∀ (m:Nat) o,hp[m]?=some o→m≠n→((((hp.set n (.inst 148 [("one",.ref a)])).set n (.inst 148 [("one",.ref a),("other",.ref b)])++[aC.dT []]).set n (.inst 148 (rr a b hp.length))))[m]?=some o:=fun m o q e=>by
  rw[aJ _ (Ne.symm e)];refine aB _ ?_;rw[aJ _ (Ne.symm e),aJ _ (Ne.symm e)];exact q
 unfold rr at M1 D1 K1
 generalize ((((hp.set n (.inst 148 [("one",AV.ref a)])).set n (.inst 148 [("one",AV.ref a),("other",AV.ref b)])++[aC.dT []]).set n (.inst 148 [("one",AV.ref a),("other",AV.ref b),("costs",AV.ref hp.length)])))=hpM at M1 D1 K1 ⊢
 have ndi:(∀ l,aC.inst 148 []≠.list l)∧∀ f c s p l,aC.inst 148 []≠.inst 80 (rC f c s p l):=⟨(fun l q=>nomatch q),fun _ _ _ _ _ q=>by injection q with q;exact absurd q (by decide)⟩
 have ndd:(∀ l,aC.dT []≠.list l)∧∀ f c s p l,aC.dT []≠.inst 80 (rC f c s p l):=⟨(fun l q=>nomatch q),fun _ _ _ _ _ q=>nomatch q⟩
 have fa1:=fa.keepBut hn ndi K1
 have fb1:=fb.keepBut hn ndi K1
 have ne1:n≠hp.length:=by exact fq nl
 have bk:∀ hp1:Hp,(∀ (m:Nat) o,hpM[m]?=some o→m≠hp.length→hp1[m]?=some o)→ax hp1 a A∧ax hp1 b B∧hp1[n]?=some (.inst 148 [("one",AV.ref a),("other",AV.ref b),("costs",AV.ref hp.length)]):=fun hp1 k=>⟨fa1.keepBut D1 ndd k,fb1.keepBut D1 ndd k,k _ _ M1 ne1⟩
 refine nn fun nG=>?_
 obtain⟨f0,c0,s0,p0,l0,cs0,A1,A2,_⟩:=id fa1
 refine nG ?_;clear nG
 walk_at "r"
 with_reducible refine at_ (A1) ?_ (by with_unfolding_all rfl) (by with_unfolding_all rfl)
 walk_at "r"
 refine bX A2 (by simp;exact fR aN) ?_
 walk_at "r"
 simp only[List.length_map]
 refine⟨_,aO (by exact fR aN),?_⟩
 walk_at "r"
 refine bB _ (fun i loc hp1=>∃ c1 c2 l,loc=[("self",some (AV.ref n)),("one",some (AV.ref a)),("other",some (AV.ref b)),("i",c1),("j",c2)]∧(∀ (m:Nat) o,hpM[m]?=some o→m≠hp.length→hp1[m]?=some o)∧hp1[hp.length]?=some (.dT l)∧iD A B l i 0)
  ⟨_,_,[],rfl,fun m o q _=>q,D1,⟨(fun k v hv=>nomatch hv),(fun i' j' hh=>by exact(ER hh).elim),(fun _ _ _=>rfl),by simp⟩⟩ ?_ ?_
 ·intro i x loc hp1 K hx hI
  refine nn fun nG=>?_
  obtain⟨c1,c2,l,rfl,k1,d1,ct⟩:=hI
  refine nG ?_;clear nG
  intro hK
  rw[List.getElem?_map] at hx
  refine nn fun nG=>?_
  obtain⟨i',hi',rfl⟩:=Option.map_eq_some_iff.mp hx
  refine nG ?_;clear nG
  have il:=(bj hi')
  rw[List.length_range] at il
  rw[List.getElem?_range il] at hi'
  cases hi'
  refine nn fun nG=>?_
  obtain⟨ga,gb,gn⟩:=bk hp1 k1
  obtain⟨f2,c2',s2,p2,l2,cs2,B1,B2,_⟩:=id gb
  refine nG ?_;clear nG
  walk_at "r"
  with_reducible refine at_ (B1) ?_ (by with_unfolding_all rfl) (by with_unfolding_all rfl)
  walk_at "r"
  refine bX B2 (by simp;exact fR bN) ?_
  walk_at "r"
  simp only[List.length_map]
  refine⟨_,aO (by exact fR bN),?_⟩
  walk_at "r"
  refine bB _ (fun j loc hp2=>∃ c2 l,loc=[("self",some (AV.ref n)),("one",some (AV.ref a)),("other",some (AV.ref b)),("i",some (AV.int ↑i)),("j",c2)]∧(∀ (m:Nat) o,hpM[m]?=some o→m≠hp.length→hp2[m]?=some o)∧hp2[hp.length]?=some (.dT l)∧iD A B l i j)
   ⟨_,l,rfl,k1,d1,ct⟩ ?_ ?_
  ·intro j x loc hp2 K2 hx2 hI
   refine nn fun nG=>?_
   obtain⟨c2,l,rfl,k2,d2,ct2⟩:=hI
   refine nG ?_;clear nG
   intro hK2
   rw[List.getElem?_map] at hx2
   refine nn fun nG=>?_
   obtain⟨j',hj',rfl⟩:=Option.map_eq_some_iff.mp hx2
   refine nG ?_;clear nG
   have jl:=(bj hj')
   rw[List.length_range] at jl
   rw[List.getElem?_range jl] at hj'
   cases hj'
   refine nn fun nG=>?_
   obtain⟨ga2,gb2,gn2⟩:=bk hp2 k2
   obtain⟨fA,cA,sA,pA,lA,csA,G1,G2,_⟩:=id ga2
   obtain⟨fB,cB,sB,pB,lB,csB,H1,H2,_⟩:=id gb2
   refine nG ?_;clear nG
   obtain⟨f,hf⟩:∃ f,A.fs[i]?=some f:=⟨_,gE il⟩
   obtain⟨g,hg⟩:∃ g,B.fs[j]?=some g:=⟨_,gE jl⟩
   obtain⟨ou,hou⟩:∃ r,A.ch[i]?=some r:=⟨_,gE (by have:=A.ok.l3;exact bt il this)⟩
   obtain⟨th,hth⟩:∃ r,B.ch[j]?=some r:=⟨_,gE (by have:=B.ok.l3;exact bt jl this)⟩
   have cm:=cmp f (List.mem_of_getElem? hf) g (List.mem_of_getElem? hg)
   have fav:(A.fs.map Fm.av)[i]?=some f.av:=by rw[List.getElem?_map,hf];rfl
   have gav:(B.fs.map Fm.av)[j]?=some g.av:=by rw[List.getElem?_map,hg];rfl
   walk_at "r"
   with_reducible refine at_ (G1) ?_ (by with_unfolding_all rfl) (by with_unfolding_all rfl)
   walk_at "r"
   refine aD G2 fav (by exact c9 aN il) ?_
   walk_at "r"
   with_reducible refine at_ (H1) ?_ (by with_unfolding_all rfl) (by with_unfolding_all rfl)
   walk_at "r"
   refine aD H2 gav (by exact c9 bN jl) ?_
   walk_at "r"
   refine⟨f,g,rfl,cm.ok1,cm.ok2,?_⟩
   walk_at "r"
   have rng:∀ hp1:Hp,aL (AV.rng 0 ↑B.fs.length 1) hp1=some (List.map (fun (k:Nat)=>AV.int ↑k) (List.range B.fs.length)):=fun hp1=>aO (by exact fR bN)
   cases hm:yA f g with
   | false=>
    walk_at "r"
    exact⟨⟨rng _,rfl⟩,hK2 _ _ ⟨_,l,rfl,k2,d2,ct2.skip hf hg hm⟩⟩
   | true=>
    walk_at "r"
    with_reducible refine at_ (G1) ?_ (by with_unfolding_all rfl) (by with_unfolding_all rfl)
    walk_at "r"
    refine aD G2 fav (by exact c9 aN il) ?_
    walk_at "r"
    with_reducible refine at_ (H1) ?_ (by with_unfolding_all rfl) (by with_unfolding_all rfl)
    walk_at "r"
    refine aD H2 gav (by exact c9 bN jl) ?_
    walk_at "r"
    refine⟨f,g,rfl,cm,fun hp3 k3=>?_⟩
    with_reducible refine jv (k3 _ _ gn2) ?_ (by with_unfolding_all rfl)
    walk_at "r"
    refine⟨n,i,j,A,B,l,ou,th,rfl,⟨a,b,hp.length,k3 _ _ gn2,ga2.keep k3,gb2.keep k3,k3 _ _ d2⟩,hou,hth,ct2.iv,fun r hp4 k4 ⟨ks,t1,t2,t3⟩=>?_⟩
    obtain⟨kl,hkl⟩:∃ k,ks[ou.length]?=some k:=⟨_,gE (by exact tT t2)⟩
    have ksl:ks=ks.take ou.length++[kl]:=by
     have:=List.take_append_drop ou.length ks
     rw[List.drop_eq_getElem_cons (by exact tT t2),List.drop_of_length_le (by exact ES t2)] at this
     rw[gE (by exact tT t2)] at hkl
     cases hkl
     exact this.symm
    have t4:=t3 _ _ hkl
    rw[gD] at t4
    rw[ksl,List.map_append] at t1
    refine lU t1 ?_
    walk_at "r"
    refine lU t4 ?_
    walk_at "r"
    have k34:=k3.trans k4
    with_reducible refine at_ (k34 _ _ gn2) ?_ (by with_unfolding_all rfl) (by with_unfolding_all rfl)
    walk_at "r"
    refine⟨sz,?_⟩
    walk_at "r"
    have:=ct2.len
    refine zv (k34 _ _ d2) (by exact ET aN bN this il jl) ⟨⟨rng _,rfl⟩,hK2 _ _ ⟨_,_,rfl,fun m o q e=>?_,aQ _ (k34 _ _ d2),ct2.put hf hg hou hth hm⟩⟩
    rw[aJ _ (Ne.symm e)]
    exact k34 _ _ (k2 m o q e)
  ·intro loc hp2 hI
   refine nn fun nG=>?_
   obtain⟨c2,l,rfl,k2,d2,ct2⟩:=hI
   refine nG ?_;clear nG
   simp only[List.length_map,List.length_range] at ct2
   refine⟨⟨aO (by exact fR aN),rfl⟩,hK _ _ ⟨_,_,l,rfl,k2,d2,⟨ct2.iv,fun i' j' hh=>?_,fun i' j' hh=>ct2.rest i' j' (by exact EU hh),by have:=ct2.len;exact EV bN this⟩⟩⟩
   by_cases e:i'<i∨(i'=i∧j'<B.fs.length)
   ·exact ct2.done i' j' e
   ·intro f g ou th _ a2
    have:=(bj a2)
    exact(EW hh this e).elim
 ·intro loc hp1 hI
  refine nn fun nG=>?_
  obtain⟨c1,c2,l,rfl,k1,d1,ct⟩:=hI
  refine nG ?_;clear nG
  simp only[List.length_map,List.length_range] at ct
  refine nn fun nG=>?_
  obtain⟨ga,gb,gn⟩:=bk hp1 k1
  refine nG ?_;clear nG
  walk_at "r"
  refine hP l hp1 (fun m o q e=>k1 _ _ (K1 m o q e) (by have:=aR q;exact fq this)) ⟨a,b,hp.length,gn,ga,gb,d1⟩ ⟨ct.iv,fun i j f g ou th a1=>?_⟩
  exact ct.done i j (.inl (bj a1)) f g ou th a1
theorem su (h:HK C):aI C 4 (.ref 148) oW:=by
 refine(pE (qu h) (yL h)).mono fun as hp P hF=>?_
 refine nn fun nG=>?_
 obtain⟨a,b,A,B,rfl,fa,fb,cmp,hP⟩:=hF
 refine nG ?_;clear nG
 refine⟨hp.length,a,b,A,B,rfl,aE _ _,fa.keep (Kp.app _ _),fb.keep (Kp.app _ _),cmp,fun l hp' k m c=>⟨rfl,hP l hp.length hp' (fun m o q=>k m o (aB _ q) (Nat.ne_of_lt (aR q))) (Nat.le_refl _) m c⟩⟩
end
local macro_rules | `(tactic| walk_at "r6")=>`(tactic| repeat first | (with_reducible first | refine Ie ?_ | refine K7 ?_ | refine K8 ?_) | walk_at "o")
inductive St where
 | keep (p q:Nat)
 | out (p:Nat)
 | inn (p q:Nat)
noncomputable def St.av:St→AV
 | .keep p q=>.tup [.str (Str.ofString "keep"),.int p,.int q]
 | .out p=>.tup [.str (Str.ofString "out"),.int p]
 | .inn p q=>.tup [.str (Str.ofString "in"),.int p,.int q]
section
variable (f:Nat→Nat→Int) (s:Nat→Int) (c:Nat→Nat→Option Int)
noncomputable def Kc (p q:Nat):Prop:=∃ p' q' k,p=p'+1∧q=q'+1∧c p' q'=some k∧f p q=f p' q'+k
noncomputable def Oc (p q:Nat):Prop:=∃ p',p=p'+1∧f p q=f p' q+s p'
inductive ah:Nat→Nat→List St→Prop
 | nil:ah 0 0 []
 | keep {p q k l}:c p q=some k→f (p+1) (q+1)=f p q+k→ah p q l→ah (p+1) (q+1) (l++[.keep p q])
 | out {p q l}:¬ Kc f c (p+1) q→f (p+1) q=f p q+s p→ah p q l→ah (p+1) q (l++[.out p])
 | inn {p q l}:¬ Kc f c p (q+1)→¬ Oc f s p (q+1)→ah p q l→ah p (q+1) (l++[.inn p q])
end
noncomputable def sA (A:FL) (ou:List Nat):Nat→Int:=fun p=>A.sz.getD (ou.getD p 0) 0
noncomputable def pW (l:List (List Int×AV)) (ou th:List Nat):Nat→Nat→Option Int:=fun p q=>gK l (ou.getD p 0) (th.getD q 0)
inductive Bn (as:List AV) (hp:Hp) (P:AV→Hp→Prop):Prop
 | mk (n i j:Nat) (A B:FL) (l:List (List Int×AV)):as=[.ref n,.int i,.int j]→cM hp n A B l→f8 l→P (match gK l i j with | some c=>.int c | none=>.none) hp→Bn as hp P
inductive yM (as:List AV) (hp:Hp) (P:AV→Hp→Prop):Prop
 | mk (n i j:Nat) (A B:FL) (l:List (List Int×AV)) (ou th:List Nat):as=[.ref n,.int i,.int j]→cM hp n A B l→A.ch[i]?=some ou→B.ch[j]?=some th→f8 l→(∀ st r hp',Kp hp hp'→hp.length≤r→ah (a9 A B l ou th) (sA A ou) (pW l ou th) ou.length th.length st→hp'[r]?=some (.list (st.map St.av))→P (.ref r) hp')→yM as hp P
theorem rG {l:List (List Int×AV)} {i j:Nat} (h:f8 l):(aZ l [(i:Int),(j:Int)]).getD .none=match gK l i j with | some c=>.int c | none=>.none:=by
 unfold gK
 cases hl:aZ l [(i:Int),(j:Int)] with
 | none=>rfl
 | some v=>obtain⟨c,rfl⟩:=h _ _ hl;rfl
section
variable {C:Cx}
theorem eP (h:HK C):aI C 1 (.ref 138) Bn:=by
 refine(Cj h).mono fun as hp P hF=>?_
 refine nn fun nG=>?_
 obtain⟨n,i,j,A,B,l,rfl,⟨a,b,d,h1,_,_,hd⟩,iv,hP⟩:=hF
 refine nG ?_;clear nG
 unfold sY
 unfold rr at h1
 walk_at "r6"
 with_reducible refine at_ (h1) ?_ (by with_unfolding_all rfl) (by with_unfolding_all rfl)
 walk_at "r6"
 refine⟨⟨_,_,rfl,hd,rfl⟩,sz,pV hd ?_⟩
 rw[rG iv]
 exact hP
theorem iX (h:HK C):aI C 2 (.ref 131) yM:=by
 refine(zm h (dG h)).mono fun as hp P hF=>?_
 refine nn fun nG=>?_
 obtain⟨n,i,j,A,B,l,ou,th,rfl,hm,hou,hth,hint,hP⟩:=hF
 obtain⟨a,b,d,h1,fa,fb,hd⟩:=id hm
 obtain⟨f,c,s,p,pl,cs,A1,A2,A3,A4,A5,A6,A7,A8⟩:=id fa
 obtain⟨f',c',s',p',pl',cs',B1,B2,B3,B4,B5,B6,B7,B8⟩:=id fb
 refine nG ?_;clear nG
 have il:=(bj hou)
 have jl:=(bj hth)
 have a3:=A.ok.l3
 have b3:=B.ok.l3
 have aN:=A.le
 have bN:=B.le
 have oul:=FL.row_len hou
 have thl:=FL.row_len hth
 obtain⟨ko,hko⟩:∃ k,cs[i]?=some k:=⟨_,gE (by exact bt il A4)⟩
 obtain⟨kt,hkt⟩:∃ k,cs'[j]?=some k:=⟨_,gE (by exact bt jl B4)⟩
 have Ho:=A5 i ko ou hko hou
 have Ht:=B5 j kt th hkt hth
 unfold pO
 unfold rr at h1
 walk_at "r6"
 with_reducible refine at_ (h1) ?_ (by with_unfolding_all rfl) (by with_unfolding_all rfl)
 walk_at "r6"
 with_reducible refine at_ (A1) ?_ (by with_unfolding_all rfl) (by with_unfolding_all rfl)
 walk_at "r6"
 refine aD A3 (x:=.ref ko) (by rw[List.getElem?_map,hko];rfl) (by exact tR aN il a3) ?_
 walk_at "r6"
 with_reducible refine at_ (h1) ?_ (by with_unfolding_all rfl) (by with_unfolding_all rfl)
 walk_at "r6"
 with_reducible refine at_ (B1) ?_ (by with_unfolding_all rfl) (by with_unfolding_all rfl)
 walk_at "r6"
 refine aD B3 (x:=.ref kt) (by rw[List.getElem?_map,hkt];rfl) (by exact tR bN jl b3) ?_
 walk_at "r6"
 refine⟨sz,?_⟩
 walk_at "r6"
 with_reducible refine jv (h1) ?_ (by with_unfolding_all rfl)
 walk_at "r6"
 refine⟨n,i,j,A,B,l,ou,th,rfl,hm,hou,hth,hint,fun r hp₁ k1 ⟨ks,t1,t2,t3⟩=>?_⟩
 walk_at "r6"
 refine⟨sz,?_⟩
 walk_at "r6"
 refine⟨sz,?_⟩
 walk_at "r6"
 refine bX (aB _ (k1 _ _ Ho)) (by simp[aM];exact ft oul) ?_
 walk_at "r6"
 refine bX (aB _ (k1 _ _ Ht)) (by simp[aM];exact ft thl) ?_
 walk_at "r6"
 refine⟨sz,?_⟩
 walk_at "r6"
 simp only[aM,List.length_map]
 have k2:Kp hp (hp₁++[aC.list []]):=k1.trans (Kp.app _ _)
 have fo:=aE hp₁ (.list [])
 have tr:=aB [aC.list []] t1
 have tt:∀ (p k:Nat),ks[p]?=some k→(hp₁++[aC.list []])[k]?=some (.list (iC (a9 A B l ou th p) (th.length+1))):=fun p k hk=>aB _ (t3 p k hk)
 have rne:∀ (m:Nat) o,hp₁[m]?=some o→m≠hp₁.length:=fun m o q=>Nat.ne_of_lt (aR q)
 have hlen:=k1.len
 generalize hp₁++[aC.list []]=hp0 at k2 fo tr tt ⊢
 have T0:∀ p,a9 A B l ou th (p+1) 0=a9 A B l ou th p 0+sA A ou p:=fun p=>rfl
 have a4:=A.ok.l4
 have ouv:∀ (q y:Nat),ou[q]?=some y→∃ z,A.sz[y]?=some z∧sA A ou q=z:=fun q y hq=>by
  have:=FL.row_lt hou q y hq
  refine⟨A.sz[y]'(bt this a4),gE (by exact bt this a4),?_⟩
  unfold sA
  rw[List.getD_eq_getElem?_getD,List.getD_eq_getElem?_getD,hq,Option.getD_some,gE (by exact bt this a4),Option.getD_some]
 refine LH (fun k loc hp2=>∃ (p q:Nat) (acc:List St) (ck:Option AV),k=p+q∧loc=[("self",some (AV.ref n)),("i",some (AV.int ↑i)),("j",some (AV.int ↑j)),("ours",some (AV.ref ko)),("theirs",some (AV.ref kt)),("rows",some (AV.ref r)),("found",some (AV.ref hp₁.length)),("p",some (AV.int ↑p)),("q",some (AV.int ↑q)),("kept",ck)]∧
   p≤ou.length∧q≤th.length∧acc.length+(p+q)≤2000∧(∀ (m:Nat) o,hp0[m]?=some o→m≠hp₁.length→hp2[m]?=some o)∧hp2[hp₁.length]?=some (.list (acc.map St.av))∧∀ l',ah (a9 A B l ou th) (sA A ou) (pW l ou th) p q l'→ah (a9 A B l ou th) (sA A ou) (pW l ou th) ou.length th.length (l'++acc.reverse)) _
  ⟨ou.length,th.length,[],none,rfl,rfl,Nat.le_refl _,Nat.le_refl _,by simp;exact EX oul thl,fun m o q _=>q,fo,fun l' hl'=>by simpa using hl'⟩ ?_
 intro k loc hp2 K hI
 refine nn fun nG=>?_
 obtain⟨p,q,acc,ck,rfl,rfl,hp1,hq1,hz,w0,w1,tail⟩:=hI
 refine nG ?_;clear nG
 intro hK
 have kp:Kp hp hp2:=fun m o e=>w0 m o (k2 m o e) (by have:=aR e;exact eC this hlen)
 have rows:=w0 r _ tr (rne _ _ t1)
 have rowAt:∀ p',p'≤ou.length→∃ k,ks[p']?=some k∧hp2[k]?=some (.list (iC (a9 A B l ou th p') (th.length+1))):=fun p' hp'=>by
  obtain⟨k,hk⟩:∃ k,ks[p']?=some k:=⟨_,gE (by exact EY hp' t2)⟩
  exact⟨k,hk,w0 k _ (tt p' k hk) (rne _ _ (t3 p' k hk))⟩
 have cell:∀ (p' q':Nat) (P:AV→Hp→Prop),p'≤ou.length→q'≤th.length→P (.int (a9 A B l ou th p' q')) hp2→ai (.ref r) (.int p') hp2 fun a hp=>ai a (.int q') hp P:=fun p' q' P h1 h2 hP=>by
  refine nn fun nG=>?_
  obtain⟨k,hk,hr⟩:=rowAt p' h1
  refine nG ?_;clear nG
  refine aD rows (x:=.ref k) (by rw[List.getElem?_map,hk];rfl) (by exact vv h1 oul) ?_
  walk_at "r6"
  exact aD hr (eH (by exact tU h2)) (by exact vv h2 thl) hP
 have rowp:∀ (p':Nat) (P:AV→Hp→Prop),p'≤ou.length→(∀ k,hp2[k]?=some (.list (iC (a9 A B l ou th p') (th.length+1)))→P (.ref k) hp2)→ai (.ref r) (.int p') hp2 P:=fun p' P h1 hP=>by
  refine nn fun nG=>?_
  obtain⟨k,hk,hr⟩:=rowAt p' h1
  refine nG ?_;clear nG
  exact aD rows (x:=.ref k) (by rw[List.getElem?_map,hk];rfl) (by exact vv h1 oul) (hP k hr)
 have add:∀ (st:St) (P:AV→Hp→Prop),(∀ hp3:Hp,(∀ (m:Nat) o,hp0[m]?=some o→m≠hp₁.length→hp3[m]?=some o)→hp3[hp₁.length]?=some (.list ((acc++[st]).map St.av))→P .none hp3)→aV [.ref hp₁.length,st.av] hp2 P:=fun st P hP=>by
  refine bW w1 (by simp;exact EZ hz) (hP _ (fun m o e1 e2=>by rw[aJ _ (Ne.symm e2)];exact w0 m o e1 e2) ?_)
  rw[aQ _ w1];simp
 have fnd:(∃ n o,AV.ref hp₁.length=AV.ref n∧hp2[n]?=some o∧nV o = "list"):=⟨_,_,rfl,w1,rfl⟩
 have pos:∀ x:Nat,decide ((0:Int)<((x+1:Nat):Int))=true:=fun x=>decide_eq_true (by exact D3)
 have pred:∀ x:Nat,((x+1:Nat):Int)-1=(x:Int):=fun x=>by exact CO
 have zer:decide ((0:Int)<((0:Nat):Int))=false:=rfl
 match p,q,hp1,hq1 with
 | 0,0,_,_=>
  walk_at "r6"
  refine K5 w1 (sz (by simp;exact E0 hz)) ?_
  walk_at "r6"
  refine hP acc.reverse hp2.length _ (kp.trans (Kp.app _ _)) kp.len (by simpa using tail [] .nil) ?_
  rw[aE];simp
 | 0,q+1,_,hq1=>
  walk_at "r6"
  refine⟨fnd,?_⟩
  walk_at "r6"
  refine⟨sz,add (.inn 0 q) _ fun hp3 v0 v1=>⟨rfl,?_⟩⟩
  walk_at "r6"
  refine hK (0+q) _ _ (by exact E1) ⟨0,q,acc++[.inn 0 q],_,rfl,rfl,by exact kj,by exact aj hq1,by simp;exact E2 hz,v0,v1,fun l' hl'=>?_⟩
  have:=tail _ (.inn (fun ⟨p',_,_,e,_⟩=>by exact vy e) (fun ⟨p',e,_⟩=>by exact vy e) hl')
  simpa using this
 | p+1,0,hp1,_=>
  obtain⟨o,ho⟩:∃ o,ou[p]?=some o:=⟨_,gE (by exact bU hp1)⟩
  refine nn fun nG=>?_
  obtain⟨z,hz1,hz2⟩:=ouv p o ho
  refine nG ?_;clear nG
  have ol:=FL.row_lt hou p o ho
  walk_at "r6"
  refine cell (p+1) 0 _ hp1 (by exact kj) ?_
  walk_at "r6"
  refine cell p 0 _ (by exact aj hp1) (by exact kj) ?_
  walk_at "r6"
  with_reducible refine at_ (kp _ _ h1) ?_ (by with_unfolding_all rfl) (by with_unfolding_all rfl)
  walk_at "r6"
  with_reducible refine at_ (kp _ _ A1) ?_ (by with_unfolding_all rfl) (by with_unfolding_all rfl)
  walk_at "r6"
  refine aD (kp _ _ Ho) (x:=.int o) (by unfold aM;rw[List.getElem?_map,ho];rfl) (by exact E3 hz) ?_
  walk_at "r6"
  refine aD (kp _ _ A6) (x:=.int z) (by unfold gt;rw[List.getElem?_map,hz1];rfl) (by exact c9 aN ol) ?_
  walk_at "r6"
  refine bQ dH dH ?_
  walk_at "r6"
  have e:=T0 p
  rw[iV]
  walk_at "r6"
  refine zq (decide_eq_true (by rw[e,hz2])) ?_
  walk_at "r6"
  refine⟨fnd,?_⟩
  walk_at "r6"
  refine⟨sz,add (.out p) _ fun hp3 v0 v1=>⟨rfl,?_⟩⟩
  walk_at "r6"
  refine hK (p+0) _ _ (by exact E4) ⟨p,0,acc++[.out p],_,rfl,rfl,by exact aj hp1,by exact kj,by simp;exact E5 hz,v0,v1,fun l' hl'=>?_⟩
  have:=tail _ (.out (fun ⟨_,q',_,_,e,_⟩=>by exact vy e) e hl')
  simpa using this
 | p+1,q+1,hp1,hq1=>
  obtain⟨o,ho⟩:∃ o,ou[p]?=some o:=⟨_,gE (by exact bU hp1)⟩
  obtain⟨t,ht⟩:∃ t,th[q]?=some t:=⟨_,gE (by exact bU hq1)⟩
  refine nn fun nG=>?_
  obtain⟨z,hz1,hz2⟩:=ouv p o ho
  refine nG ?_;clear nG
  have ol:=FL.row_lt hou p o ho
  have hcab:pW l ou th p q=gK l o t:=by
   unfold pW
   rw[List.getD_eq_getElem?_getD,List.getD_eq_getElem?_getD,ho,ht];rfl
  walk_at "r6"
  with_reducible refine at_ (kp _ _ h1) ?_ (by with_unfolding_all rfl) (by with_unfolding_all rfl)
  walk_at "r6"
  refine⟨⟨_,_,rfl,kp _ _ hd,rfl⟩,?_⟩
  walk_at "r6"
  refine aD (kp _ _ Ho) (x:=.int o) (by unfold aM;rw[List.getElem?_map,ho];rfl) (by exact vz hz) ?_
  walk_at "r6"
  refine aD (kp _ _ Ht) (x:=.int t) (by unfold aM;rw[List.getElem?_map,ht];rfl) (by exact Ah hz) ?_
  walk_at "r6"
  refine⟨sz,?_⟩
  walk_at "r6"
  refine pV (kp _ _ hd) ?_
  walk_at "r6"
  rw[rG hint]
  cases hc:gK l o t with
  | none=>
   have nk:¬ Kc (a9 A B l ou th) (pW l ou th) (p+1) (q+1):=fun ⟨p',q',k,e1,e2,e3,_⟩=>by
    have e1:p=p':=by exact nj e1
    have e2:q=q':=by exact nj e2
    subst e1 e2
    rw[hcab,hc] at e3;cases e3
   walk_at "r6"
   refine cell (p+1) (q+1) _ hp1 hq1 ?_
   walk_at "r6"
   refine cell p (q+1) _ (by exact aj hp1) hq1 ?_
   walk_at "r6"
   with_reducible refine at_ (kp _ _ h1) ?_ (by with_unfolding_all rfl) (by with_unfolding_all rfl)
   walk_at "r6"
   with_reducible refine at_ (kp _ _ A1) ?_ (by with_unfolding_all rfl) (by with_unfolding_all rfl)
   walk_at "r6"
   refine aD (kp _ _ Ho) (x:=.int o) (by unfold aM;rw[List.getElem?_map,ho];rfl) (by exact vz hz) ?_
   walk_at "r6"
   refine aD (kp _ _ A6) (x:=.int z) (by unfold gt;rw[List.getElem?_map,hz1];rfl) (by exact c9 aN ol) ?_
   walk_at "r6"
   refine bQ dH dH ?_
   walk_at "r6"
   rw[iV]
   walk_at "r6"
   by_cases ho2:a9 A B l ou th (p+1) (q+1)=a9 A B l ou th p (q+1)+z
   ·refine zq (decide_eq_true ho2) ?_
    walk_at "r6"
    refine⟨fnd,?_⟩
    walk_at "r6"
    refine⟨sz,add (.out p) _ fun hp3 v0 v1=>⟨rfl,?_⟩⟩
    walk_at "r6"
    refine hK (p+(q+1)) _ _ (by exact Ai) ⟨p,q+1,acc++[.out p],_,rfl,rfl,by exact aj hp1,by exact nq hq1,by simp;exact Aj hz,v0,v1,fun l' hl'=>?_⟩
    have:=tail _ (.out nk (by rw[hz2];exact ho2) hl')
    simpa using this
   ·refine vN (decide_eq_false ho2) ?_
    walk_at "r6"
    refine⟨fnd,?_⟩
    walk_at "r6"
    refine⟨sz,add (.inn (p+1) q) _ fun hp3 v0 v1=>⟨rfl,?_⟩⟩
    walk_at "r6"
    refine hK (p+1+q) _ _ (by exact Ak) ⟨p+1,q,acc++[.inn (p+1) q],_,rfl,rfl,by exact nq hp1,by exact aj hq1,by simp;exact Al hz,v0,v1,fun l' hl'=>?_⟩
    have:=tail _ (.inn nk (fun ⟨p',e1,e2⟩=>by
     have e1:p=p':=by exact nj e1
     subst e1
     rw[hz2] at e2
     exact ho2 e2) hl')
    simpa using this
  | some k=>
   walk_at "r6"
   refine cell _ _ _ hp1 hq1 ?_
   walk_at "r6"
   refine rowp p _ (by exact aj hp1) fun kr hr=>?_
   walk_at "r6"
   refine aD hr (eH (by exact E6 hq1)) (by exact Ah hz) ?_
   walk_at "r6"
   refine bQ dH dH ?_
   walk_at "r6"
   rw[iV]
   walk_at "r6"
   by_cases hk:a9 A B l ou th (p+1) (q+1)=a9 A B l ou th p q+k
   ·refine zq (decide_eq_true hk) ?_
    walk_at "r6"
    refine⟨fnd,?_⟩
    walk_at "r6"
    refine⟨sz,add (.keep p q) _ fun hp3 v0 v1=>⟨rfl,?_⟩⟩
    walk_at "r6"
    refine⟨sz,?_⟩
    walk_at "r6"
    refine hK (p+q) _ _ (by exact E7) ⟨p,q,acc++[.keep p q],_,rfl,rfl,by exact aj hp1,by exact aj hq1,by simp;exact E8 hz,v0,v1,fun l' hl'=>?_⟩
    have:=tail _ (.keep (hcab.trans hc) hk hl')
    simpa using this
   ·have nk:¬ Kc (a9 A B l ou th) (pW l ou th) (p+1) (q+1):=fun ⟨p',q',k',e1,e2,e3,e4⟩=>by
     have e1:p=p':=by exact nj e1
     have e2:q=q':=by exact nj e2
     subst e1 e2
     rw[hcab,hc] at e3;cases e3
     exact hk e4
    refine vN (decide_eq_false hk) ?_
    walk_at "r6"
    refine cell (p+1) (q+1) _ hp1 hq1 ?_
    walk_at "r6"
    refine cell p (q+1) _ (by exact aj hp1) hq1 ?_
    walk_at "r6"
    with_reducible refine at_ (kp _ _ h1) ?_ (by with_unfolding_all rfl) (by with_unfolding_all rfl)
    walk_at "r6"
    with_reducible refine at_ (kp _ _ A1) ?_ (by with_unfolding_all rfl) (by with_unfolding_all rfl)
    walk_at "r6"
    refine aD (kp _ _ Ho) (x:=.int o) (by unfold aM;rw[List.getElem?_map,ho];rfl) (by exact vz hz) ?_
    walk_at "r6"
    refine aD (kp _ _ A6) (x:=.int z) (by unfold gt;rw[List.getElem?_map,hz1];rfl) (by exact c9 aN ol) ?_
    walk_at "r6"
    refine bQ dH dH ?_
    walk_at "r6"
    rw[iV]
    walk_at "r6"
    by_cases ho2:a9 A B l ou th (p+1) (q+1)=a9 A B l ou th p (q+1)+z
    ·refine zq (decide_eq_true ho2) ?_
     walk_at "r6"
     refine⟨fnd,?_⟩
     walk_at "r6"
     refine⟨sz,add (.out p) _ fun hp3 v0 v1=>⟨rfl,?_⟩⟩
     walk_at "r6"
     refine hK (p+(q+1)) _ _ (by exact Ai) ⟨p,q+1,acc++[.out p],_,rfl,rfl,by exact aj hp1,by exact nq hq1,by simp;exact Aj hz,v0,v1,fun l' hl'=>?_⟩
     have:=tail _ (.out nk (by rw[hz2];exact ho2) hl')
     simpa using this
    ·refine vN (decide_eq_false ho2) ?_
     walk_at "r6"
     refine⟨fnd,?_⟩
     walk_at "r6"
     refine⟨sz,add (.inn (p+1) q) _ fun hp3 v0 v1=>⟨rfl,?_⟩⟩
     walk_at "r6"
     refine hK (p+1+q) _ _ (by exact Ak) ⟨p+1,q,acc++[.inn (p+1) q],_,rfl,rfl,by exact nq hp1,by exact aj hq1,by simp;exact Al hz,v0,v1,fun l' hl'=>?_⟩
     have:=tail _ (.inn nk (fun ⟨p',e1,e2⟩=>by
      have e1:p=p':=by exact nj e1
      subst e1
      rw[hz2] at e2
      exact ho2 e2) hl')
     simpa using this
end
section
variable {f:Nat→Nat→Int} {s:Nat→Int} {c:Nat→Nat→Option Int}
theorem ah.det:∀ {p q:Nat} {a b:List St},ah f s c p q a→ah f s c p q b→a=b:=by
 intro p q a b h
 induction h generalizing b with
 | nil=>intro h;cases h;rfl
 | @keep p q k l hc he _ ih=>
  intro h
  cases h with
  | keep _ _ h=>rw[ih h]
  | out n _ _=>exact absurd ⟨p,q,k,rfl,rfl,hc,he⟩ n
  | inn n _ _=>exact absurd ⟨p,q,k,rfl,rfl,hc,he⟩ n
 | @out p q l n e _ ih=>
  intro h
  cases h with
  | keep hc he _=>exact absurd ⟨_,_,_,rfl,rfl,hc,he⟩ n
  | out _ _ h=>rw[ih h]
  | inn _ m _=>exact absurd ⟨p,rfl,e⟩ m
 | @inn p q l n m _ ih=>
  intro h
  cases h with
  | keep hc he _=>exact absurd ⟨_,_,_,rfl,rfl,hc,he⟩ n
  | out _ e _=>exact absurd ⟨_,rfl,e⟩ m
  | inn _ _ h=>rw[ih h]
theorem ah.keep_lt {p q:Nat} {l:List St} (h:ah f s c p q l):∀ p' q',St.keep p' q'∈l→p'<p∧q'<q∧∃ k,c p' q'=some k:=by
 induction h with
 | nil=>intro p' q' h;cases h
 | @keep p q k l hc he _ ih=>
  intro p' q' h
  rcases List.mem_append.mp h with h | h
  ·obtain⟨a,b,d⟩:=ih p' q' h;exact⟨by exact dc a,by exact dc b,d⟩
  ·simp at h;obtain⟨rfl,rfl⟩:=h;exact⟨by exact dy,by exact dy,k,hc⟩
 | @out p q l n e _ ih=>
  intro p' q' h
  rcases List.mem_append.mp h with h | h
  ·obtain⟨a,b,d⟩:=ih p' q' h;exact⟨by exact dc a,b,d⟩
  ·simp at h
 | @inn p q l n m _ ih=>
  intro p' q' h
  rcases List.mem_append.mp h with h | h
  ·obtain⟨a,b,d⟩:=ih p' q' h;exact⟨a,by exact dc b,d⟩
  ·simp at h
theorem ah.inn_le {p q:Nat} {l:List St} (h:ah f s c p q l):∀ p' q',St.inn p' q'∈l→p'≤p∧q'<q:=by
 induction h with
 | nil=>intro p' q' h;cases h
 | @keep p q k l hc he _ ih=>
  intro p' q' h
  rcases List.mem_append.mp h with h | h
  ·obtain⟨a,b⟩:=ih p' q' h;exact⟨by exact g8 a,by exact dc b⟩
  ·simp at h
 | @out p q l n e _ ih=>
  intro p' q' h
  rcases List.mem_append.mp h with h | h
  ·obtain⟨a,b⟩:=ih p' q' h;exact⟨by exact g8 a,b⟩
  ·simp at h
 | @inn p q l n m _ ih=>
  intro p' q' h
  rcases List.mem_append.mp h with h | h
  ·obtain⟨a,b⟩:=ih p' q' h;exact⟨a,by exact dc b⟩
  ·simp at h;obtain⟨rfl,rfl⟩:=h;exact⟨Nat.le_refl _,by exact dy⟩
noncomputable def keeps (l:List St):List (Nat×Nat):=l.filterMap fun x=>match x with
 | .keep p q=>some (p,q)
 | _=>none
noncomputable def aW (l:List St) (p:Nat):List Nat:=l.filterMap fun x=>match x with
 | .inn p' q=>if p'=p then some q else none
 | _=>none
theorem bp (a b:List St):keeps (a++b)=keeps a++keeps b:=by simp[keeps]
theorem bE (a b:List St) (p:Nat):aW (a++b) p=aW a p++aW b p:=by simp[aW]
theorem gF {l:List St} {p q:Nat}:(p,q)∈keeps l↔St.keep p q∈l:=by
 unfold keeps
 rw[List.mem_filterMap]
 constructor
 ·rintro⟨x,hx,e⟩
  cases x with
  | keep a b=>simp at e;obtain⟨rfl,rfl⟩:=e;exact hx
  | out a=>simp at e
  | inn a b=>simp at e
 ·exact fun h=>⟨_,h,rfl⟩
theorem ah.keeps_nodup {p q:Nat} {l:List St} (h:ah f s c p q l):((keeps l).map (·.1)).Nodup:=by
 induction h with
 | nil=>exact List.nodup_nil
 | @keep p q k l hc he hs ih=>
  rw[bp,List.map_append,List.nodup_append]
  refine⟨ih,by simp[keeps],fun a ha b hb e=>?_⟩
  simp[keeps] at hb
  subst e hb
  obtain⟨⟨x,y⟩,hx,rfl⟩:=List.mem_map.mp ha
  have:=(hs.keep_lt x y (gF.mp hx)).1
  exact E9 this
 | @out p q l n e hs ih=>rw[bp];simpa[keeps] using ih
 | @inn p q l n m hs ih=>rw[bp];simpa[keeps] using ih
theorem ah.weigh {p q:Nat} {l:List St} (w:Nat→Nat) (h:ah f s c p q l):((keeps l).map fun x=>w x.1).sum≤((List.range p).map w).sum:=by
 induction h with
 | nil=>simp[keeps]
 | @keep p q k l hc he hs ih=>rw[bp,List.range_succ];simp[keeps] at ih ⊢;exact ki ih
 | @out p q l n e hs ih=>rw[bp,List.range_succ];simp[keeps] at ih ⊢;exact Ea ih
 | @inn p q l n m hs ih=>rw[bp];simpa[keeps] using ih
end
theorem iq {p:Prop} (h:p):p:=h
noncomputable def oX (m pd id:Nat):List (String×AV):=[("matching",.ref m),("partners",.ref pd),("inserted",.ref id)]
inductive cV (hp:Hp) (n:Nat) (A B:FL) (l:List (List Int×AV)) (pm:Nat→Option Nat) (ins:Nat→Nat→List AV):Prop
 | mk (m pd id plog il):hp[n]?=some (.inst 197 (oX m pd id))→cM hp m A B l→hp[pd]?=some (.dI plog)→hp[id]?=some (.dT il)→(∀ i:Nat,aZ plog (i:Int)=(pm i).map fun (j:Nat)=>AV.int j)→(∀ i p:Nat,(aZ il [(i:Int),(p:Int)]=none∧ins i p=[])∨∃ k,aZ il [(i:Int),(p:Int)]=some (.ref k)∧hp[k]?=some (.list (ins i p)))→cV hp n A B l pm ins
theorem cV.keep {hp hp':Hp} {n:Nat} {A B:FL} {l:List (List Int×AV)} {pm:Nat→Option Nat} {ins:Nat→Nat→List AV} (x:cV hp n A B l pm ins) (k:Kp hp hp'):cV hp' n A B l pm ins:=by
 obtain⟨m,pd,id,plog,il,h1,h2,h3,h4,h5,h6⟩:=x
 refine⟨m,pd,id,plog,il,k _ _ h1,h2.keep k,k _ _ h3,k _ _ h4,h5,fun i p=>?_⟩
 rcases h6 i p with h | ⟨r,a,b⟩
 ·exact .inl h
 ·exact .inr ⟨r,a,k _ _ b⟩
inductive Bo (as:List AV) (hp:Hp) (P:AV→Hp→Prop):Prop
 | mk (n i:Nat) (A B:FL) (l:List (List Int×AV)) (pm:Nat→Option Nat) (ins:Nat→Nat→List AV):as=[.ref n,.int i]→cV hp n A B l pm ins→(∀ j,pm i=some j→j<B.fs.length)→(pm i=none→P .none hp)→(∀ j g,pm i=some j→B.fs[j]?=some g→P g.av hp)→Bo as hp P
inductive rH (as:List AV) (hp:Hp) (P:AV→Hp→Prop):Prop
 | mk (n i j:Nat) (A B:FL) (l:List (List Int×AV)) (pm:Nat→Option Nat) (ins:Nat→Nat→List AV) (c:Int):as=[.ref n,.int i]→cV hp n A B l pm ins→pm i=some j→f8 l→gK l i j=some c→P (.bool (decide (0<c))) hp→rH as hp P
inductive yN (as:List AV) (hp:Hp) (P:AV→Hp→Prop):Prop
 | mk (n i p:Nat) (A B:FL) (l:List (List Int×AV)) (pm:Nat→Option Nat) (ins:Nat→Nat→List AV):as=[.ref n,.int i,.int p]→cV hp n A B l pm ins→(∀ r hp',Kp hp hp'→hp'[r]?=some (.list (ins i p))→P (.ref r) hp')→yN as hp P
theorem zw {n:Nat} {i:Int} {l:List (Int×AV)} {hp:Hp} {P:AV→Hp→Prop} (hn:hp[n]?=some (.dI l)) (h:P ((aZ l i).getD .none) hp):jB [.ref n,.int i] hp P:=.two (.dI hn h)
theorem yO {n:Nat} {i:Int} {x:AV} {l:List (Int×AV)} {hp:Hp} {P:AV→Hp→Prop} (hn:hp[n]?=some (.dI l)) (hx:aZ l i=some x) (h:P x hp):ai (.ref n) (.int i) hp P:=.dI hn hx h
section
variable {C:Cx}
theorem d9 (h:HK C):aI C 1 (.ref 180) Bo:=by
 refine(Ck h).mono fun as hp P hF=>?_
 obtain⟨n,i,A,B,l,pm,ins,rfl,⟨m,pd,id,plog,il,h1,⟨a,b,d,g1,g2,g3,g4⟩,h3,h4,h5,h6⟩,lt,hN,hS⟩:=hF
 unfold sZ
 unfold oX at h1
 unfold rr at g1
 walk_at "r"
 with_reducible refine at_ (h1) ?_ (by with_unfolding_all rfl) (by with_unfolding_all rfl)
 walk_at "r"
 refine⟨⟨_,_,rfl,h3,rfl⟩,?_⟩
 walk_at "r"
 refine zw h3 ?_
 walk_at "r"
 rw[h5 i]
 cases hp':pm i with
 | none=>
  simp only[Option.map_none,Option.getD_none]
  walk_at "r"
  exact hN hp'
 | some j=>
  simp only[Option.map_some,Option.getD_some]
  walk_at "r"
  with_reducible refine at_ (h1) ?_ (by with_unfolding_all rfl) (by with_unfolding_all rfl)
  walk_at "r"
  with_reducible refine at_ (g1) ?_ (by with_unfolding_all rfl) (by with_unfolding_all rfl)
  walk_at "r"
  obtain⟨f',c',s',p',pl',cs',B1,B2,_⟩:=iq g3
  with_reducible refine at_ (B1) ?_ (by with_unfolding_all rfl) (by with_unfolding_all rfl)
  walk_at "r"
  have jl:=lt j hp'
  have bN:=B.le
  exact aD B2 (x:=B.fs[j].av) (by rw[List.getElem?_map,gE jl];rfl) (by exact c9 bN jl) (hS j _ hp' (gE jl))
theorem cu (h:HK C):aI C 2 (.ref 187) rH:=by
 refine(pP h (eP h)).mono fun as hp P hF=>?_
 obtain⟨n,i,j,A,B,l,pm,ins,c,rfl,⟨m,pd,id,plog,il,h1,g,h3,h4,h5,h6⟩,hpm,iv,hc,hP⟩:=hF
 obtain⟨a,b,d,g1,g2,g3,g4⟩:=iq g
 unfold gU
 unfold oX at h1
 unfold rr at g1
 walk_at "r"
 with_reducible refine at_ (h1) ?_ (by with_unfolding_all rfl) (by with_unfolding_all rfl)
 walk_at "r"
 with_reducible refine jv (g1) ?_ (by with_unfolding_all rfl)
 walk_at "r"
 refine at_ h1 ?_
 walk_at "r"
 refine yO h3 (x:=.int j) (by rw[h5 i,hpm];rfl) ?_
 walk_at "r"
 refine⟨m,i,j,A,B,l,rfl,g,iv,?_⟩
 walk_at "r"
 rw[hc]
 walk_at "r"
 exact hP
theorem fJ (h:HK C):aI C 1 (.ref 194) yN:=by
 refine(xp h).mono fun as hp P hF=>?_
 obtain⟨n,i,p,A,B,l,pm,ins,rfl,⟨m,pd,id,plog,il,h1,g,h3,h4,h5,h6⟩,hP⟩:=hF
 unfold mN
 unfold oX at h1
 walk_at "r"
 with_reducible refine at_ (h1) ?_ (by with_unfolding_all rfl) (by with_unfolding_all rfl)
 walk_at "r"
 refine⟨⟨_,_,rfl,h4,rfl⟩,sz,sz,?_⟩
 walk_at "r"
 refine z8.three (.dT (aB _ h4) (k:=[(i:Int),(p:Int)]) rfl ?_)
 rcases h6 i p with⟨q1,q2⟩ | ⟨k,q1,q2⟩
 ·rw[q1]
  exact hP _ _ (Kp.app _ _) (by rw[q2];exact aE _ _)
 ·rw[q1]
  exact hP _ _ (Kp.app _ _) (aB _ q2)
end
section
variable (A B:FL) (l:List (List Int×AV))
noncomputable def jN (x:Nat×Nat) (ou th:List Nat) (st:List St):Prop:=A.ch[x.1]?=some ou∧B.ch[x.2]?=some th∧ah (a9 A B l ou th) (sA A ou) (pW l ou th) ou.length th.length st
noncomputable def bK (ou th:List Nat) (st:List St):List (Nat×Nat):=(keeps st).map fun x=>(ou.getD x.1 0,th.getD x.2 0)
noncomputable def vP (x:Nat×Nat):Nat:=((A.fs[x.1]?).map Fm.size).getD 0
structure Bp (x0:Nat×Nat) (done left:List (Nat×Nat)):Prop where
 here:x0∈done++left
 src:∀ x∈done++left,x=x0∨∃ y∈done,∃ ou th st,jN A B l y ou th st∧x∈bK ou th st
 clo:∀ x∈done,∀ ou th st,jN A B l x ou th st→∀ y∈bK ou th st,y∈done++left
 nd:((done++left).map (·.1)).Nodup
 wt:done.length+(left.map (vP A)).sum≤A.root.size
 lt:∀ x∈done++left,x.1<A.fs.length∧x.2<B.fs.length
end
section
variable {A B:FL} {l:List (List Int×AV)}
theorem jN.det {x:Nat×Nat} {ou th ou' th':List Nat} {st st':List St} (a:jN A B l x ou th st) (b:jN A B l x ou' th' st'):ou=ou'∧th=th'∧st=st':=by
 refine nn fun nG=>?_
 obtain⟨a1,a2,a3⟩:=a
 obtain⟨b1,b2,b3⟩:=b
 refine nG ?_;clear nG
 rw[a1] at b1;cases b1
 rw[a2] at b2;cases b2
 exact⟨rfl,rfl,a3.det b3⟩
theorem pX {x y:Nat×Nat} {ou th:List Nat} {st:List St} (s:jN A B l x ou th st) (h:y∈bK ou th st):∃ p q,St.keep p q∈st∧ou[p]?=some y.1∧th[q]?=some y.2∧A.pr[y.1]?=some (some x.1)∧A.pl[y.1]?=some p∧y.1<A.fs.length∧y.2<B.fs.length:=by
 unfold bK at h
 refine nn fun nG=>?_
 obtain⟨⟨p,q⟩,hpq,rfl⟩:=List.mem_map.mp h
 refine nG ?_;clear nG
 have hk:=gF.mp hpq
 refine nn fun nG=>?_
 obtain⟨s1,s2,s3⟩:=s
 obtain⟨l1,l2,_⟩:=s3.keep_lt p q hk
 refine nG ?_;clear nG
 have o1:ou[p]?=some (ou.getD p 0):=by rw[List.getD_eq_getElem?_getD,gE l1];rfl
 have t1:th[q]?=some (th.getD q 0):=by rw[List.getD_eq_getElem?_getD,gE l2];rfl
 obtain⟨a1,a2⟩:=A.ok.at' x.1 ou p _ s1 o1
 exact⟨p,q,hk,o1,t1,a1,a2,FL.row_lt s1 p _ o1,FL.row_lt s2 q _ t1⟩
theorem Bp.start {x0:Nat×Nat} (h1:x0.1=A.fs.length-1) (h2:x0.2<B.fs.length):Bp A B l x0 [] [x0] where
 here:=by simp
 src:=fun x hx=>by simp at hx;exact .inl hx
 clo:=fun x hx=>nomatch hx
 nd:=by simp
 wt:=by
  simp only[List.length_nil,List.map_cons,List.map_nil,List.sum_cons,List.sum_nil,Nat.zero_add,Nat.add_zero]
  unfold vP
  rw[h1,A.ok.topf];simp
 lt:=fun x hx=>by simp at hx;subst hx;have:=A.le;exact⟨by exact Eb this h1,h2⟩
theorem Bp.step {x0 x:Nat×Nat} {done left:List (Nat×Nat)} {ou th:List Nat} {st:List St} (h1:x0.1=A.fs.length-1) (F:Bp A B l x0 done (left++[x])) (s:jN A B l x ou th st):Bp A B l x0 (done++[x]) (left++bK ou th st):=by
 have mem:∀ y,y∈done++[x]++(left++bK ou th st)↔y∈done++(left++[x])∨y∈bK ou th st:=fun y=>by
  simp only[List.mem_append]
  constructor
  ·rintro((h | h) | (h | h))
   ·exact .inl (.inl h)
   ·exact .inl (.inr (.inr h))
   ·exact .inl (.inr (.inl h))
   ·exact .inr h
  ·rintro((h | (h | h)) | h)
   ·exact .inl (.inl h)
   ·exact .inr (.inl h)
   ·exact .inl (.inr h)
   ·exact .inr (.inr h)
 have hx:x∈done++(left++[x]):=by simp
 have topn:A.pr[x0.1]?=some none:=by rw[h1];exact A.ok.topp
 refine⟨(mem _).mpr (.inl F.here),fun y hy=>?_,fun y hy ou' th' st' s' z hz=>?_,?_,?_,fun y hy=>?_⟩
 ·rcases(mem y).mp hy with h | h
  ·rcases F.src y h with e | ⟨z,hz,r⟩
   ·exact .inl e
   ·exact .inr ⟨z,List.mem_append_left _ hz,r⟩
  ·exact .inr ⟨x,by simp,ou,th,st,s,h⟩
 ·rcases List.mem_append.mp hy with h | h
  ·exact(mem z).mpr (.inl (F.clo y h ou' th' st' s' z hz))
  ·simp at h;subst h
   refine nn fun nG=>?_
   obtain⟨rfl,rfl,rfl⟩:=s.det s'
   refine nG ?_;clear nG
   exact(mem z).mpr (.inr hz)
 ·have pm:(done++[x]++(left++bK ou th st)).Perm ((done++(left++[x]))++bK ou th st):=by
   rw[← List.append_assoc]
   refine List.Perm.append_right _ ?_
   rw[List.append_assoc]
   exact List.Perm.append_left _ List.perm_append_comm
  refine((pm.map _).nodup_iff).mpr ?_
  rw[List.map_append,List.nodup_append]
  refine⟨F.nd,?_,?_⟩
  ·have nk:=s.2.2.keeps_nodup
   unfold bK
   rw[List.map_map]
   have:∀ kk:List (Nat×Nat),(kk.map (·.1)).Nodup→(∀ y∈kk,St.keep y.1 y.2∈st)→(kk.map ((fun x=>x.1)∘fun x=>(ou.getD x.1 0,th.getD x.2 0))).Nodup:=by
    intro kk
    induction kk with
    | nil=>intro _ _;exact List.nodup_nil
    | cons a r ih=>
     intro hn hm
     simp only[List.map_cons,List.nodup_cons] at hn ⊢
     refine⟨fun hc=>?_,ih hn.2 fun y hy=>hm y (.tail _ hy)⟩
     refine nn fun nG=>?_
     obtain⟨b,hb,e⟩:=List.mem_map.mp hc
     obtain⟨a1,_,_⟩:=s.2.2.keep_lt _ _ (hm a (.head _))
     obtain⟨b1,_,_⟩:=s.2.2.keep_lt _ _ (hm b (.tail _ hb))
     refine nG ?_;clear nG
     have o1:ou[a.1]?=some (ou.getD a.1 0):=by rw[List.getD_eq_getElem?_getD,gE a1];rfl
     have o2:ou[b.1]?=some (ou.getD b.1 0):=by rw[List.getD_eq_getElem?_getD,gE b1];rfl
     simp only[Function.comp] at e
     rw[e] at o2
     have q1:=(A.ok.at' _ _ _ _ s.1 o1).2
     have q2:=(A.ok.at' _ _ _ _ s.1 o2).2
     rw[q1] at q2
     injection q2 with q2
     exact hn.1 (List.mem_map.mpr ⟨b,hb,q2.symm⟩)
   exact this _ nk fun y hy=>gF.mp hy
  ·intro a ha b hb e
   subst e
   refine nn fun nG=>?_
   obtain⟨y,hy,rfl⟩:=List.mem_map.mp hb
   obtain⟨z,hz,e⟩:=List.mem_map.mp ha
   obtain⟨p,q,_,_,_,k1,_,_,_⟩:=pX s hy
   refine nG ?_;clear nG
   rcases F.src z hz with rfl | ⟨w,hw,ou',th',st',s',hk⟩
   ·rw[← e,topn] at k1;cases k1
   ·refine nn fun nG=>?_
    obtain⟨_,_,_,_,_,k2,_,_,_⟩:=pX s' hk
    refine nG ?_;clear nG
    rw[e,k1] at k2
    injection k2 with k2;injection k2 with k2
    -- w is done,x is left,both have the same number
    have nd:=F.nd
    rw[List.map_append,List.nodup_append] at nd
    exact nd.2.2 w.1 (List.mem_map_of_mem hw) x.1 (List.mem_map_of_mem (by simp)) k2.symm
 ·have:=F.wt
  obtain⟨xl,_⟩:=F.lt x hx
  have hf:A.fs[x.1]?=some A.fs[x.1]:=gE xl
  have hw:vP A x=1+Fm.sizes A.fs[x.1].kids:=by unfold vP;rw[hf];exact Fm.size_eq _
  have hk:((bK ou th st).map (vP A)).sum≤Fm.sizes A.fs[x.1].kids:=by
   have h2:=s.2.2.weigh (fun p=>vP A (ou.getD p 0,0))
   have h3:((bK ou th st).map (vP A))=(keeps st).map fun y=>vP A (ou.getD y.1 0,0):=by unfold bK;rw[List.map_map];rfl
   rw[h3]
   refine Nat.le_trans h2 ?_
   have hl:=A.ok.row x.1 _ ou hf s.1
   have kid:∀ p g,A.fs[x.1].kids[p]?=some g→vP A (ou.getD p 0,0)=g.size:=fun p g hg=>by
    have pl:=(bj hg)
    have o1:ou[p]?=some (ou.getD p 0):=by rw[List.getD_eq_getElem?_getD,gE (by exact bt pl hl)];rfl
    refine nn fun nG=>?_
    obtain⟨c1,c2⟩:=A.ok.at' x.1 ou p _ s.1 o1
    obtain⟨j,p',y,g',d1,d2,_,d4,d5,d6⟩:=A.ok.up (ou.getD p 0) (by
     have e1:=(bj c1)
     have e2:=A.ok.len1
     have e3:ou.getD p 0≠A.fs.length-1:=fun e=>by rw[e,A.ok.topp] at c1;cases c1
     exact tO e1 e3 e2)
    refine nG ?_;clear nG
    rw[c1] at d1;cases d1
    rw[c2] at d2;cases d2
    rw[hf] at d4;cases d4
    rw[hg] at d6;cases d6
    unfold vP;dsimp only;rw[d5];rfl
   have:∀ (ks:List Fm) (off:Nat) (w:Nat→Nat),(∀ p g,ks[p]?=some g→w (off+p)=g.size)→((List.range' off ks.length).map w).sum=Fm.sizes ks:=by
    intro ks
    induction ks with
    | nil=>intro _ _ _;rfl
    | cons a r ih=>
     intro off w hw
     rw[List.length_cons,List.range'_succ,List.map_cons,List.sum_cons,Fm.sizes,ih (off+1) w fun p g hg=>by rw[show off+1+p=off+(p+1) by exact Ec];exact hw (p+1) g (by simpa using hg)]
     have:=hw 0 a rfl
     rw[Nat.add_zero] at this;rw[this]
   rw[hl,List.range_eq_range',this _ 0 _ fun p g hg=>by rw[Nat.zero_add];exact kid p g hg]
   exact Nat.le_refl _
  simp only[List.map_append,List.sum_append,List.map_cons,List.map_nil,List.sum_cons,List.sum_nil,List.length_append,List.length_cons,List.length_nil] at this ⊢
  exact Ed this hk hw
 ·rcases(mem y).mp hy with h | h
  ·exact F.lt y h
  ·refine nn fun nG=>?_
   obtain⟨_,_,_,_,_,_,_,a,b⟩:=pX s h
   refine nG ?_;clear nG
   exact⟨a,b⟩
end
structure mn (il:List (List Int×AV)) (hp:Hp) (ins:Nat→Nat→List AV) (lo:Nat):Prop where
 at':∀ i p:Nat,(aZ il [(i:Int),(p:Int)]=none∧ins i p=[])∨∃ k,aZ il [(i:Int),(p:Int)]=some (.ref k)∧hp[k]?=some (.list (ins i p))
 inj:∀ (a b:List Int) k,aZ il a=some (.ref k)→aZ il b=some (.ref k)→a=b
 low:∀ a k,aZ il a=some (.ref k)→lo<k∧∃ o,hp[k]?=some o
theorem mn.keep {il:List (List Int×AV)} {hp hp':Hp} {ins:Nat→Nat→List AV} {lo:Nat} (x:mn il hp ins lo) (k:∀ (m:Nat) o,hp[m]?=some o→lo<m→hp'[m]?=some o):mn il hp' ins lo where
 at':=fun i p=>by
  rcases x.at' i p with h | ⟨r,a,b⟩
  ·exact .inl h
  ·exact .inr ⟨r,a,k _ _ b (x.low _ _ a).1⟩
 inj:=x.inj
 low:=fun a r h=>by
  refine nn fun nG=>?_
  obtain⟨l,o,ho⟩:=x.low a r h
  refine nG ?_;clear nG
  exact⟨l,o,k _ _ ho l⟩
noncomputable def JW (ins:Nat→Nat→List AV) (i p:Nat) (y:AV):Nat→Nat→List AV:=fun i' p'=>if i'=i∧p'=p then ins i p++[y] else ins i' p'
theorem mn.add {il:List (List Int×AV)} {hp:Hp} {ins:Nat→Nat→List AV} {lo i p k:Nat} {y:AV} (x:mn il hp ins lo) (hk:aZ il [(i:Int),(p:Int)]=some (.ref k)) (hl:hp[k]?=some (.list (ins i p))):mn il (hp.set k (.list (ins i p++[y]))) (JW ins i p y) lo where
 at':=fun i' p'=>by
  unfold JW
  by_cases e:i'=i∧p'=p
  ·obtain⟨rfl,rfl⟩:=e
   rw[if_pos ⟨rfl,rfl⟩]
   exact .inr ⟨k,hk,aQ _ hl⟩
  ·rw[if_neg e]
   rcases x.at' i' p' with h | ⟨r,a,b⟩
   ·exact .inl h
   ·refine .inr ⟨r,a,?_⟩
    rw[aJ _ fun q=>e ?_]
    ·exact b
    ·subst q
     have:=x.inj _ _ _ a hk
     simp at this
     exact Ee this
 inj:=x.inj
 low:=fun a r h=>by
  refine nn fun nG=>?_
  obtain⟨l,o,ho⟩:=x.low a r h
  refine nG ?_;clear nG
  refine⟨l,?_⟩
  walk_at "r"
  by_cases e:k=r
  ·subst e;exact⟨_,aQ _ hl⟩
  ·exact⟨o,by rw[aJ _ e];exact ho⟩
theorem vQ {il:List (List Int×AV)} {hp:Hp} {ins:Nat→Nat→List AV} {lo id i p:Nat} {Q:AV→Hp→Prop} (hid:hp[id]?=some (.dT il)) (x:mn il hp ins lo) (il1:id<lo) (il2:lo<hp.length) (hz:il.length≤10000000)
  (hQ:∀ (k:Nat) hp' il',hp'[id]?=some (.dT il')→mn il' hp' ins lo→aZ il' [(i:Int),(p:Int)]=some (.ref k)→hp'[k]?=some (.list (ins i p))→(∀ (m:Nat) o,hp[m]?=some o→m≠id→hp'[m]?=some o)→il'.length≤il.length+1→
   (∀ a k',aZ il' a=some (.ref k')→aZ il a=some (.ref k')∨hp.length≤k')→Q (.ref k) hp') :
  fW [.ref id,.tup [.int i,.int p],.ref hp.length] (hp++[.list []]) Q:=by
 have x1:=x.keep (hp':=hp++[.list []]) fun m o q _=>aB _ q
 rcases x1.at' i p with⟨a,b⟩ | ⟨k,a,b⟩
 ·refine qc.new (aB _ hid) (k:=[(i:Int),(p:Int)]) rfl (by rw[sizeLine_eq];exact vu hz) a ?_
  have lk:∀ c,aZ (il++[([(i:Int),(p:Int)],AV.ref hp.length)]) c=match aZ il c with | some v=>some v | none=>if [(i:Int),(p:Int)]=c then some (.ref hp.length) else none:=fun c=>by rw[eI];first | done | (cases aZ il c <;> rfl)
  have lkS:∀ c v,aZ il c=some v→aZ (il++[([(i:Int),(p:Int)],AV.ref hp.length)]) c=some v:=fun c v h=>by rw[lk,h]
  have lkN:∀ c,aZ il c=none→aZ (il++[([(i:Int),(p:Int)],AV.ref hp.length)]) c=if [(i:Int),(p:Int)]=c then some (.ref hp.length) else none:=fun c h=>by rw[lk,h]
  have hne:id≠hp.length:=by exact wD il1 il2
  have new:((hp++[aC.list []]).set id (.dT (il++[([(i:Int),(p:Int)],AV.ref hp.length)])))[hp.length]?=some (.list []):=by rw[aJ _ hne];exact aE _ _
  refine hQ hp.length _ _ (aQ _ (aB _ hid)) ⟨fun i' p'=>?_,fun c d k' h1 h2=>?_,fun c k' h=>?_⟩ (by rw[lkN _ a,if_pos rfl]) (by rw[b];exact new) (fun m o q e=>by rw[aJ _ (Ne.symm e)];exact aB _ q) (by simp) fun c k' h=>?_
  ·rcases x1.at' i' p' with⟨c,d⟩ | ⟨k,c,d⟩
   ·rw[lkN _ c]
    by_cases e:[(i:Int),(p:Int)]=[(i':Int),(p':Int)]
    ·rw[if_pos e,d];exact .inr ⟨_,rfl,new⟩
    ·rw[if_neg e];exact .inl ⟨rfl,d⟩
   ·rw[lkS _ _ c]
    refine .inr ⟨k,rfl,?_⟩
    have:=(x1.low _ _ c).1
    rw[aJ _ (by exact wD il1 this)];exact d
  ·have lt:∀ c k',aZ il c=some (.ref k')→k'<hp.length:=fun c k' h=>by
    refine nn fun nG=>?_
    obtain⟨_,o,ho⟩:=x.low c k' h
    refine nG ?_;clear nG
    exact aR ho
   rw[lk] at h1 h2
   cases e1:aZ il c with
   | some v1=>
    rw[e1] at h1;cases h1
    cases e2:aZ il d with
    | some v2=>rw[e2] at h2;cases h2;exact x.inj _ _ _ e1 e2
    | none=>
     rw[e2] at h2
     simp only at h2
     split at h2
     ·cases h2;exact absurd (lt _ _ e1) (Nat.lt_irrefl _)
     ·cases h2
   | none=>
    rw[e1] at h1
    simp only at h1
    split at h1
    ·rename_i q1
     cases h1
     cases e2:aZ il d with
     | some v2=>rw[e2] at h2;cases h2;exact absurd (lt _ _ e2) (Nat.lt_irrefl _)
     | none=>
      rw[e2] at h2
      simp only at h2
      split at h2
      ·rename_i q2;rw[← q1,← q2]
      ·cases h2
    ·cases h1
  ·rw[lk] at h
   cases e1:aZ il c with
   | some v1=>
    rw[e1] at h;cases h
    refine nn fun nG=>?_
    obtain⟨l,o,ho⟩:=x.low _ _ e1
    refine nG ?_;clear nG
    refine⟨l,?_⟩
    walk_at "r"
    by_cases e:id=k'
    ·exact⟨_,by rw[← e];exact aQ _ (aB _ hid)⟩
    ·exact⟨o,by rw[aJ _ e];exact aB _ ho⟩
   | none=>
    rw[e1] at h
    simp only at h
    split at h
    ·cases h;exact⟨il2,_,new⟩
    ·cases h
  ·rw[lk] at h
   cases e1:aZ il c with
   | some v1=>rw[e1] at h;exact .inl h
   | none=>
    rw[e1] at h
    simp only at h
    split at h
    ·cases h;exact .inr (Nat.le_refl _)
    ·cases h
 ·refine qc.old (aB _ hid) (k:=[(i:Int),(p:Int)]) rfl (by rw[sizeLine_eq];exact vu hz) a ?_
  exact hQ k _ il (aB _ hid) x1 a b (fun m o q _=>aB _ q) (by exact jS) fun c k' h=>.inl h
noncomputable def fk (B:FL) (th:List Nat) (qs:List Nat):List AV:=qs.map fun q=>((B.fs[th.getD q 0]?).map Fm.av).getD .none
structure pY (A B:FL) (l:List (List Int×AV)) (done:List (Nat×Nat)) (pl:List (Int×AV)) (ins:Nat→Nat→List AV):Prop where
 pin:∀ x∈done,aZ pl (x.1:Int)=some (.int (x.2:Nat))
 pout:∀ i:Nat,(∀ x∈done,x.1≠i)→aZ pl (i:Int)=none
 iin:∀ x∈done,∀ ou th st,jN A B l x ou th st→∀ p,ins x.1 p=fk B th (aW st p)
 iout:∀ i,(∀ x∈done,x.1≠i)→∀ p,ins i p=[]
 ex:∀ x∈done,∃ ou th st,jN A B l x ou th st
noncomputable def vg (pd id:Nat) (hp hp':Hp):Prop:=∀ (k:Nat) o,hp[k]?=some o→k≠pd→k≠id→hp'[k]?=some o
inductive uR (as:List AV) (hp:Hp) (P:AV→Hp→Prop):Prop
 | mk (n m pd id i0 j0:Nat) (A B:FL) (l:List (List Int×AV)):as=[.ref n,.int i0,.int j0]→hp[n]?=some (.inst 197 (oX m pd id))→(∀ hp',vg pd id hp hp'→cM hp' m A B l)→hp[pd]?=some (.dI [])→hp[id]?=some (.dT [])→f8 l→i0=A.fs.length-1→j0<B.fs.length→(∀ hp' plog il ins done,vg pd id hp hp'→hp'[pd]?=some (.dI plog)→hp'[id]?=some (.dT il)→mn il hp' ins hp.length→pY A B l done plog ins→Bp A B l (i0,j0) done []→P .none hp')→uR as hp P
noncomputable def kP (x:Nat×Nat):AV:=.tup [.int x.1,.int x.2]
theorem Il {x:Nat×Nat}:(kP x).ok 39=true:=by
 unfold kP
 simp only[oN,oI,oS,oT,oL,oB,oR,oG,fv,fw,List.all_cons,List.all_nil,Bool.and_true,Bool.and_eq_true,dH,and_self]
theorem rI (B:FL) (th a b:List Nat):fk B th (a++b)=fk B th a++fk B th b:=by simp[fk]
theorem yP (B:FL) (th a:List Nat):(fk B th a).length=a.length:=by simp[fk]
theorem sv (st:List St) (p:Nat):(aW st p).length≤st.length:=List.length_filterMap_le _ _
theorem vR (st:List St):(keeps st).length≤st.length:=List.length_filterMap_le _ _
theorem kids_len (ou th:List Nat) (st:List St):(bK ou th st).length≤st.length:=by unfold bK;rw[List.length_map];exact vR st
section
variable {f:Nat→Nat→Int} {s:Nat→Int} {c:Nat→Nat→Option Int}
theorem ah.length {p q:Nat} {l:List St} (h:ah f s c p q l):l.length≤p+q:=by
 induction h with
 | nil=>simp
 | keep _ _ _ ih=>simp;exact Ef ih
 | out _ _ _ ih=>simp;exact Eg ih
 | inn _ _ _ ih=>simp;exact Eh ih
end
section
variable {C:Cx}
theorem gG (h:HK C):aI C 3 (.ref 173) uR:=by
 refine(xo h (iX h)).mono fun as hp P hF=>?_
 refine nn fun nG=>?_
 obtain⟨n,m,pd,id,i0,j0,A,B,l,rfl,hn,hm,hpd,hid,iv,e0,j0l,hP⟩:=hF
 refine nG ?_;clear nG
 have aN:=A.le
 have bN:=B.le
 have npd:n≠pd:=fun e=>by subst e;rw[hn] at hpd;cases hpd
 have nid:n≠id:=fun e=>by subst e;rw[hn] at hid;cases hid
 have pid:pd≠id:=fun e=>by subst e;rw[hpd] at hid;cases hid
 have nl:=aR hn
 have pl:=aR hpd
 have dl:=aR hid
 refine nn fun nG=>?_
 obtain⟨a,b,d,h1,fa,fb,_⟩:=hm hp fun k o q _ _=>q
 obtain⟨ff,cc,ss,pp,ll,cs',A1,A2,A3,A4,A5,A6,A7,A8⟩:=fa
 obtain⟨ff',cc',ss',pp',ll',cs2,B1,B2,B3,B4,B5,B6,B7,B8⟩:=fb
 refine nG ?_;clear nG
 have a3:=A.ok.l3
 have b3:=B.ok.l3
 have trL:∀ (hp':Hp) (k:Nat) ls,vg pd id hp hp'→hp[k]?=some (.list ls)→hp'[k]?=some (.list ls):=fun hp' k ls kb q=>kb k _ q (fun e=>by subst e;rw[hpd] at q;cases q) (fun e=>by subst e;rw[hid] at q;cases q)
 have trI:∀ (hp':Hp) (k:Nat) c ls,vg pd id hp hp'→hp[k]?=some (.inst c ls)→hp'[k]?=some (.inst c ls):=fun hp' k c ls kb q=>kb k _ q (fun e=>by subst e;rw[hpd] at q;cases q) (fun e=>by subst e;rw[hid] at q;cases q)
 unfold oX at hn
 unfold rr at h1
 unfold mM
 walk_at "r"
 refine⟨sz,?_⟩
 walk_at "r"
 refine⟨sz,?_⟩
 walk_at "r"
 refine LH (fun k loc hp1=>∃ (done left:List (Nat×Nat)) (plog:List (Int×AV)) (il:List (List Int×AV)) (ins:Nat→Nat→List AV) (ci cj co ct cs:Option AV),k=A.root.size-done.length∧
   loc=[("self",some (AV.ref n)),("i",ci),("j",cj),("left",some (AV.ref hp.length)),("ours",co),("theirs",ct),("step",cs)]∧vg pd id hp hp1∧hp1[hp.length]?=some (.list (left.map kP))∧
   hp1[pd]?=some (.dI plog)∧hp1[id]?=some (.dT il)∧mn il hp1 ins hp.length∧il.length≤2000 * done.length∧plog.length=done.length∧pY A B l done plog ins∧Bp A B l (i0,j0) done left) _
  ⟨[],[(i0,j0)],[],[],fun _ _=>[],_,_,_,_,_,rfl,rfl,fun k o q _ _=>aB _ q,aE _ _,aB _ hpd,aB _ hid,⟨fun i p=>.inl ⟨rfl,rfl⟩,(fun _ _ _ h=>nomatch h),(fun _ _ h=>nomatch h)⟩,by simp,by simp,⟨(fun _ h=>nomatch h),fun _ _=>rfl,(fun _ h=>nomatch h),fun _ _ _=>rfl,(fun _ h=>nomatch h)⟩,.start e0 j0l⟩ ?_
 intro k loc hp1 K0 hI
 refine nn fun nG=>?_
 obtain⟨done,left,plog,il,ins,ci,cj,co,ct,cs,rfl,rfl,kb,hl,hpd1,hid1,it,ilz,plz,dk,fol⟩:=hI
 refine nG ?_;clear nG
 intro hK0
 have cnt:∀ q:List (Nat×Nat),(∀ x∈q,x.1<A.fs.length)→q.length≤(q.map (vP A)).sum:=by
  intro q
  induction q with
  | nil=>intro _;simp
  | cons a r ih=>
   intro hq
   have h1:=ih fun x hx=>hq x (.tail _ hx)
   have h2:=hq a (.head _)
   have:1≤vP A a:=by
    unfold vP;rw[gE h2];exact Fm.size_pos _
   simp only[List.map_cons,List.sum_cons,List.length_cons];exact zI this h1
 have lc:=cnt left fun x hx=>(fol.lt x (List.mem_append_right _ hx)).1
 have wt:=fol.wt
 have small:=A.small
 walk_at "r"
 refine⟨sz,?_⟩
 walk_at "r"
 have kb1:vg pd id hp (hp1++[aC.list []]):=fun k o q a b=>aB _ (kb k o q a b)
 have dL:=aB [aC.list []] hl
 have hpd2:=aB [aC.list []] hpd1
 have hid2:=aB [aC.list []] hid1
 have it1:=it.keep (hp':=hp1++[aC.list []]) fun m o q _=>aB _ q
 refine mW dL (aE _ _) (fun x hx=>?_) ?_
 walk_at "r"
 ·refine nn fun nG=>?_
  obtain⟨y,hy,rfl⟩:=List.mem_map.mp hx
  refine nG ?_;clear nG
  exact Il
 generalize hp1++[aC.list []]=hp2 at kb1 dL hpd2 hid2 it1 ⊢
 clear hl hpd1 hid1 it kb hp1
 rcases List.eq_nil_or_concat left with rfl | ⟨left,x,rfl⟩
 ·walk_at "r"
  refine vN (by rfl) ?_
  walk_at "r"
  exact hP hp2 plog il ins done kb1 hpd2 hid2 it1 dk fol
 ·simp only[List.concat_eq_append] at dL fol wt lc ⊢
  walk_at "r"
  refine zq (by simp) ?_
  refine nn fun nG=>?_
  obtain⟨i,j⟩:=x
  obtain⟨il',jl'⟩:=fol.lt (i,j) (by simp)
  refine nG ?_;clear nG
  dsimp only at il' jl'
  walk_at "r"
  simp only[List.map_append,List.map_cons,List.map_nil] at dL
  refine xu dL (by simp at lc wt ⊢;exact Ei lc wt small) ?_
  walk_at "r"
  rw[show kP (i,j)=.tup [.int i,.int j] from rfl]
  walk_at "r"
  have hpd3:(hp2.set hp.length (.list (left.map kP)))[pd]?=some (.dI plog):=by rw[aJ _ (by exact bo pl)];exact hpd2
  have hid3:(hp2.set hp.length (.list (left.map kP)))[id]?=some (.dT il):=by rw[aJ _ (by exact bo dl)];exact hid2
  have hl3:=aQ (.list (left.map kP)) dL
  have it3:=it1.keep (hp':=hp2.set hp.length (.list (left.map kP))) fun m o q hq=>by rw[aJ _ (by exact fq hq)];exact q
  have kb3:vg pd id hp (hp2.set hp.length (.list (left.map kP))):=fun k o q a b=>by have:=aR q;rw[aJ _ (by exact bo this)];exact kb1 k o q a b
  generalize hp2.set hp.length (.list (left.map kP))=hp3 at hpd3 hid3 hl3 it3 kb3 ⊢
  clear hpd2 hid2 dL it1 kb1
  refine at_ (kb3 _ _ hn npd nid) ?_
  walk_at "r"
  refine L7 hpd3 (by rw[sizeLine_eq];exact Ej wt plz small) ?_
  walk_at "r"
  have kb4:vg pd id hp (hp3.set pd (.dI (((i:Int),.int j)::plog))):=fun k o q a b=>by rw[aJ _ (Ne.symm a)];exact kb3 k o q a b
  have hpd4:=aQ (.dI (((i:Int),.int j)::plog)) hpd3
  have hid4:(hp3.set pd (.dI (((i:Int),.int j)::plog)))[id]?=some (.dT il):=by rw[aJ _ pid];exact hid3
  have hl4:(hp3.set pd (.dI (((i:Int),.int j)::plog)))[hp.length]?=some (.list (left.map kP)):=by rw[aJ _ (by exact fq pl)];exact hl3
  have it4:=it3.keep (hp':=hp3.set pd (.dI (((i:Int),.int j)::plog))) fun m o q hq=>by rw[aJ _ (by exact wD pl hq)];exact q
  generalize hp3.set pd (.dI (((i:Int),.int j)::plog))=hp4 at hpd4 hid4 hl4 it4 kb4 ⊢
  clear hpd3 hid3 hl3 it3 kb3
  obtain⟨ou,hou⟩:∃ r,A.ch[i]?=some r:=⟨_,gE (by exact bt il' a3)⟩
  obtain⟨th,hth⟩:∃ r,B.ch[j]?=some r:=⟨_,gE (by exact bt jl' b3)⟩
  obtain⟨ko,hko⟩:∃ k,cs'[i]?=some k:=⟨_,gE (by exact Am il' A4 a3)⟩
  obtain⟨kt,hkt⟩:∃ k,cs2[j]?=some k:=⟨_,gE (by exact Am jl' B4 b3)⟩
  have Ho:=A5 i ko ou hko hou
  have Ht:=B5 j kt th hkt hth
  have oul:=FL.row_len hou
  have thl:=FL.row_len hth
  refine at_ (trI _ _ _ _ kb4 hn) ?_
  walk_at "r"
  refine at_ (trI _ _ _ _ kb4 h1) ?_
  walk_at "r"
  refine at_ (trI _ _ _ _ kb4 A1) ?_
  walk_at "r"
  refine aD (trL _ _ _ kb4 A3) (x:=.ref ko) (by rw[List.getElem?_map,hko];rfl) (by exact c9 aN il') ?_
  walk_at "r"
  refine at_ (trI _ _ _ _ kb4 hn) ?_
  walk_at "r"
  refine at_ (trI _ _ _ _ kb4 h1) ?_
  walk_at "r"
  refine at_ (trI _ _ _ _ kb4 B1) ?_
  walk_at "r"
  refine aD (trL _ _ _ kb4 B3) (x:=.ref kt) (by rw[List.getElem?_map,hkt];rfl) (by exact c9 bN jl') ?_
  walk_at "r"
  refine⟨sz,?_⟩
  walk_at "r"
  refine at_ (trI _ _ _ _ kb4 hn) ?_
  walk_at "r"
  refine jv (trI _ _ _ _ kb4 h1) ?_
  walk_at "r"
  refine⟨m,i,j,A,B,l,ou,th,rfl,hm hp4 kb4,hou,hth,iv,fun st r hp5 k5 rl hst hr=>⟨_,af hr,?_⟩⟩
  have kb5:vg pd id hp hp5:=fun k o q a b=>k5 _ _ (kb4 k o q a b)
  have hpd5:=k5 _ _ hpd4
  have hid5:=k5 _ _ hid4
  have hl5:=k5 _ _ hl4
  have Ll:=aR hl4
  have it5:=it4.keep (hp':=hp5) fun m o q _=>k5 _ _ q
  have noR:∀ a,aZ il a≠some (.ref r):=fun a e=>by
   refine nn fun nG=>?_
   obtain⟨_,o,ho⟩:=it4.low _ _ e
   refine nG ?_;clear nG
   have:=aR ho
   exact wE this rl
  have stl:=hst.length
  have S:jN A B l (i,j) ou th st:=⟨hou,hth,hst⟩
  clear hpd4 hid4 hl4 it4 kb4
  refine bB _ (fun k loc hp6=>∃ (il2:List (List Int×AV)) (c:Option AV),
    loc=[("self",some (AV.ref n)),("i",some (AV.int i)),("j",some (AV.int j)),("left",some (AV.ref hp.length)),("ours",some (AV.ref ko)),("theirs",some (AV.ref kt)),("step",c)]∧vg pd id hp hp6∧
    hp6[pd]?=some (.dI (((i:Int),.int j)::plog))∧hp6[id]?=some (.dT il2)∧hp6[hp.length]?=some (.list ((left++bK ou th (st.take k)).map kP))∧hp6[r]?=some (.list (st.map St.av))∧(∀ a,aZ il2 a≠some (.ref r))∧
    mn il2 hp6 (fun i' p'=>if i'=i then fk B th (aW (st.take k) p') else ins i' p') hp.length∧il2.length≤il.length+k) ⟨il,_,rfl,kb5,hpd5,hid5,by simpa[bK,keeps] using hl5,hr,noR,?_,by exact Ek⟩ ?_ ?_
  ·have e:(fun i' p'=>if i'=i then fk B th (aW (st.take 0) p') else ins i' p')=ins:=by
    funext i' p'
    by_cases e:i'=i
    ·rw[if_pos e,e,dk.iout i fun x hx q=>?_]
     ·rfl
     ·have nd:=fol.nd
      rw[List.map_append,List.nodup_append] at nd
      exact nd.2.2 x.1 (List.mem_map_of_mem hx) i (List.mem_map.mpr ⟨(i,j),by simp,rfl⟩) q
    ·rw[if_neg e]
   rw[e];exact it5
  ·intro k x loc hp6 K hx hI
   refine nn fun nG=>?_
   obtain⟨il2,c,rfl,kb6,hpd6,hid6,hl6,hr6,no6,it6,il6⟩:=hI
   refine nG ?_;clear nG
   intro hK
   rw[List.getElem?_map] at hx
   refine nn fun nG=>?_
   obtain⟨s,hs,rfl⟩:=Option.map_eq_some_iff.mp hx
   refine nG ?_;clear nG
   have kl:=(bj hs)
   have smem:=List.mem_of_getElem? hs
   have tk:st.take (k+1)=st.take k++[s]:=by rw[List.take_add_one,hs];rfl
   have okI:(AV.str (Str.ofString "in")).ok 40=true:=mY _ (by decide +kernel)
   have okK:(AV.str (Str.ofString "keep")).ok 40=true:=mY _ (by decide +kernel)
   have okO:(AV.str (Str.ofString "out")).ok 40=true:=mY _ (by decide +kernel)
   have e1:lP (.str (Str.ofString "keep")) (.str (Str.ofString "in"))=false:=by rw[eZ];exact decide_eq_false (by decide +kernel)
   have e2:lP (.str (Str.ofString "out")) (.str (Str.ofString "in"))=false:=by rw[eZ];exact decide_eq_false (by decide +kernel)
   have e3:lP (.str (Str.ofString "out")) (.str (Str.ofString "keep"))=false:=by rw[eZ];exact decide_eq_false (by decide +kernel)
   have e4:lP (.str (Str.ofString "in")) (.str (Str.ofString "keep"))=false:=by rw[eZ];exact decide_eq_false (by decide +kernel)
   have e5:lP (.str (Str.ofString "in")) (.str (Str.ofString "in"))=true:=bZ rfl
   have e6:lP (.str (Str.ofString "keep")) (.str (Str.ofString "keep"))=true:=bZ rfl
   have fin:∀ hp7:Hp,hp7[r]?=some (.list (st.map St.av))→aL (AV.ref r) hp7=some (List.map St.av st)∧ag (AV.ref r) hp7=ag (AV.ref r) hp5:=fun hp7 q=>⟨af q,by rw[be q,be hr]⟩
   cases s with
   | keep p q=>
    unfold St.av
    walk_at "r"
    refine bQ okK okK ?_
    walk_at "r"
    refine zq e6 ?_
    walk_at "r"
    refine nn fun nG=>?_
    obtain⟨lp,lq,_⟩:=hst.keep_lt p q smem
    refine nG ?_;clear nG
    obtain⟨o,ho⟩:∃ o,ou[p]?=some o:=⟨_,gE lp⟩
    obtain⟨t,ht⟩:∃ t,th[q]?=some t:=⟨_,gE lq⟩
    refine⟨⟨_,_,rfl,hl6,rfl⟩,?_⟩
    walk_at "r"
    refine aD (trL _ _ _ kb6 Ho) (x:=.int o) (by unfold aM;rw[List.getElem?_map,ho];rfl) (by exact ip lp oul) ?_
    walk_at "r"
    refine aD (trL _ _ _ kb6 Ht) (x:=.int t) (by unfold aM;rw[List.getElem?_map,ht];rfl) (by exact ip lq thl) ?_
    walk_at "r"
    refine⟨sz,?_⟩
    walk_at "r"
    have kz:=kids_len ou th (st.take k)
    have tz:(st.take k).length≤st.length:=by rw[List.length_take];exact An
    refine bW hl6 (by simp at lc wt ⊢;exact El small oul thl stl kz tz lc wt) ⟨rfl,?_⟩
    walk_at "r"
    have Lne:hp.length≠r:=by exact eC Ll rl
    refine⟨fin _ (by rw[aJ _ Lne];exact hr6),hK _ _ ⟨il2,_,rfl,fun k o q a b=>by have:=aR q;rw[aJ _ (by exact bo this)];exact kb6 k o q a b,by rw[aJ _ (by exact bo pl)];exact hpd6,by rw[aJ _ (by exact bo dl)];exact hid6,?_,by rw[aJ _ Lne];exact hr6,no6,?_,by exact Ao il6⟩⟩
    ·rw[aQ _ hl6,tk]
     have:bK ou th (st.take k++[St.keep p q])=bK ou th (st.take k)++[(o,t)]:=by
      unfold bK
      rw[bp,List.map_append]
      simp[keeps,List.getD_eq_getElem?_getD,ho,ht]
     rw[this]
     simp[kP]
    ·have:(fun i' p'=>if i'=i then fk B th (aW (st.take (k+1)) p') else ins i' p')=(fun i' p'=>if i'=i then fk B th (aW (st.take k) p') else ins i' p'):=by
      funext i' p'
      rw[tk,bE];simp[aW]
     rw[this]
     exact it6.keep fun m o q hq=>by rw[aJ _ (by exact fq hq)];exact q
   | out p=>
    unfold St.av
    walk_at "r"
    refine bQ okO okK ?_
    walk_at "r"
    refine vN e3 ?_
    walk_at "r"
    refine bQ okO okI ?_
    walk_at "r"
    refine vN e2 ?_
    walk_at "r"
    refine⟨fin _ hr6,hK _ _ ⟨il2,_,rfl,kb6,hpd6,hid6,?_,hr6,no6,?_,by exact Ao il6⟩⟩
    ·rw[tk];simpa[bK,keeps] using hl6
    ·rw[tk];simpa[aW] using it6
   | inn p q=>
    unfold St.av
    walk_at "r"
    refine bQ okI okK ?_
    walk_at "r"
    refine vN e4 ?_
    walk_at "r"
    refine bQ okI okI ?_
    walk_at "r"
    refine zq e5 ?_
    walk_at "r"
    obtain⟨lp,lq⟩:=hst.inn_le p q smem
    obtain⟨t,ht⟩:∃ t,th[q]?=some t:=⟨_,gE lq⟩
    have tl:=FL.row_lt hth q t ht
    have tz:(st.take k).length≤st.length:=by rw[List.length_take];exact An
    refine at_ (trI _ _ _ _ kb6 hn) ?_
    walk_at "r"
    refine⟨⟨_,_,rfl,hid6,rfl⟩,?_⟩
    walk_at "r"
    refine⟨sz,?_⟩
    walk_at "r"
    refine⟨sz,?_⟩
    walk_at "r"
    refine vQ hid6 it6 (by exact tV dl) (by have:=aR hr6;exact Em Ll rl this) (by exact En ilz small wt oul thl stl il6 kl) fun k' hp7 il3 h7 it7 lk7 kl7 kp7 z7 or7=>?_
    walk_at "r"
    have kb7:vg pd id hp hp7:=fun k o q a b=>kp7 _ _ (kb6 k o q a b) b
    have r7:=kp7 _ _ hr6 (by exact Eo dl Ll rl)
    have rne:k'≠r:=fun e=>by
     subst e
     rcases or7 _ _ lk7 with e | e
     ·exact no6 _ e
     ·have:=aR hr6;exact wE this e
    have klo:=(it7.low _ _ lk7).1
    refine⟨⟨_,_,rfl,kl7,rfl⟩,?_⟩
    walk_at "r"
    refine at_ (trI _ _ _ _ kb7 hn) ?_
    walk_at "r"
    refine at_ (trI _ _ _ _ kb7 h1) ?_
    walk_at "r"
    refine at_ (trI _ _ _ _ kb7 B1) ?_
    walk_at "r"
    refine aD (trL _ _ _ kb7 Ht) (x:=.int t) (by unfold aM;rw[List.getElem?_map,ht];rfl) (by exact ip lq thl) ?_
    walk_at "r"
    refine aD (trL _ _ _ kb7 B2) (x:=B.fs[t].av) (by rw[List.getElem?_map,gE tl];rfl) (by exact c9 bN tl) ?_
    walk_at "r"
    have iz:=sv (st.take k) p
    simp only[if_true] at kl7
    refine bW kl7 (by rw[yP];exact Ep iz tz stl oul thl) ⟨rfl,?_⟩
    walk_at "r"
    refine⟨fin _ (by rw[aJ _ rne];exact r7),hK _ _ ⟨il3,_,rfl,fun k o q a b=>by have:=aR q;rw[aJ _ (by exact tM this klo)];exact kb7 k o q a b,by rw[aJ _ (by exact tM pl klo)];exact kp7 _ _ hpd6 pid,by rw[aJ _ (by exact tM dl klo)];exact h7,?_,by rw[aJ _ rne];exact r7,fun a e=>?_,?_,by exact Er z7 il6⟩⟩
    ·rw[aJ _ (by exact bo klo),tk]
     have:bK ou th (st.take k++[St.inn p q])=bK ou th (st.take k):=by unfold bK;rw[bp];simp[keeps]
     rw[this];exact kp7 _ _ hl6 (by exact bo dl)
    ·rcases or7 _ _ e with e | e
     ·exact no6 _ e
     ·have:=aR hr6;exact wE this e
    ·have add:=it7.add (y:=B.fs[t].av) lk7 (by simpa using kl7)
     have:JW (fun i' p'=>if i'=i then fk B th (aW (st.take k) p') else ins i' p') i p B.fs[t].av=fun i' p'=>if i'=i then fk B th (aW (st.take (k+1)) p') else ins i' p':=by
      funext i' p'
      unfold JW
      rw[tk]
      by_cases e:i'=i
      ·subst e
       simp only[true_and,if_true,bE,rI]
       have one:fk B th [q]=[B.fs[t].av]:=by simp[fk,List.getD_eq_getElem?_getD,ht,gE tl]
       by_cases e2:p'=p
       ·subst e2;rw[if_pos rfl]
        have:aW [St.inn p' q] p'=[q]:=by simp[aW]
        rw[this,one]
       ·rw[if_neg e2]
        have:aW [St.inn p q] p'=[]:=by simp[aW];exact fun h=>e2 h.symm
        rw[this];simp[fk]
      ·simp only[if_neg e,if_neg (fun h:i'=i∧p'=p=>e h.1)]
     rw[this] at add
     simpa using add
  ·intro loc hp6 hI
   refine nn fun nG=>?_
   obtain⟨il2,c,rfl,kb6,hpd6,hid6,hl6,hr6,no6,it6,il6⟩:=hI
   refine nG ?_;clear nG
   rw[List.length_map,List.take_length] at hl6 it6
   have F:=fol.step e0 S
   have nd:=fol.nd
   rw[List.map_append,List.nodup_append] at nd
   have ndx:∀ x∈done,x.1≠i:=fun x hx q=>nd.2.2 x.1 (List.mem_map_of_mem hx) i (List.mem_map.mpr ⟨(i,j),by simp,rfl⟩) q
   refine hK0 (A.root.size-(done++[(i,j)]).length) _ _ ?_ ⟨done++[(i,j)],left++bK ou th st,((i:Int),.int j)::plog,il2,_,_,_,_,_,_,rfl,rfl,kb6,hl6,hpd6,hid6,it6,?_,?_,⟨fun x hx=>?_,fun i' hi'=>?_,fun x hx ou' th' st' S' p=>?_,fun i' hi' p=>?_,fun x hx=>?_⟩,F⟩
   ·simp at lc wt ⊢;exact Es wt lc
   ·simp at il6 ⊢;exact Et il6 ilz stl oul thl
   ·simp;exact Eu plz
   ·unfold aZ
    rcases List.mem_append.mp hx with q | q
    ·rw[if_neg (fun e=>ndx x q (by exact Ev e))];exact dk.pin x q
    ·simp at q;subst q;rw[if_pos rfl]
   ·unfold aZ
    rw[if_neg (fun e=>hi' (i,j) (by simp) (by dsimp only;exact Ap e))]
    exact dk.pout i' fun x hx=>hi' x (List.mem_append_left _ hx)
   ·rcases List.mem_append.mp hx with q | q
    ·rw[if_neg (ndx x q)]
     exact dk.iin x q _ _ _ S' p
    ·simp at q;subst q
     refine nn fun nG=>?_
     obtain⟨rfl,rfl,rfl⟩:=S.det S'
     refine nG ?_;clear nG
     rw[if_pos rfl]
   ·rw[if_neg (fun e=>hi' (i,j) (by simp) e.symm)]
    exact dk.iout i' (fun x hx=>hi' x (List.mem_append_left _ hx)) p
   ·rcases List.mem_append.mp hx with q | q
    ·exact dk.ex x q
    ·simp at q;subst q;exact⟨ou,th,st,S⟩
end
theorem Bq {l:List (Nat×Nat)} {i:Nat} (h:∀ x∈l,x.1≠i):l.lookup i=none:=by
 induction l with
 | nil=>rfl
 | cons a r ih=>
  rw[List.lookup_cons,show(i == a.1)=false from beq_eq_false_iff_ne.mpr (fun e=>h a (.head _) e.symm)]
  exact ih fun x hx=>h x (.tail _ hx)
theorem rJ {l:List (Nat×Nat)} (nd:(l.map (·.1)).Nodup) {i j:Nat}:l.lookup i=some j↔(i,j)∈l:=by
 induction l with
 | nil=>simp
 | cons a r ih=>
  obtain⟨a1,a2⟩:=a
  simp only[List.map_cons,List.nodup_cons] at nd
  rw[List.lookup_cons]
  by_cases e:i=a1
  ·subst e
   simp only[beq_self_eq_true,Option.some.injEq,List.mem_cons,Prod.mk.injEq,true_and]
   constructor
   ·rintro rfl;exact .inl rfl
   ·rintro(rfl | h)
    ·rfl
    ·exact absurd (List.mem_map.mpr ⟨_,h,rfl⟩) nd.1
  ·rw[show(i == a1)=false from beq_eq_false_iff_ne.mpr e]
   simp only[List.mem_cons,Prod.mk.injEq]
   rw[ih nd.2]
   constructor
   ·exact .inr
   ·rintro(⟨h,_⟩ | h)
    ·exact absurd h e
    ·exact h
structure kQ (A B:FL) (l:List (List Int×AV)) (pm:Nat→Option Nat) (ins:Nat→Nat→List AV):Prop where
 cost:eO A B l
 top:pm (A.fs.length-1)=(gK l (A.fs.length-1) (B.fs.length-1)).map fun _=>B.fs.length-1
 lt:∀ i j,pm i=some j→i<A.fs.length∧j<B.fs.length
 src:∀ i j,pm i=some j→(i,j)=(A.fs.length-1,B.fs.length-1)∨∃ i' j' ou th st,pm i'=some j'∧jN A B l (i',j') ou th st∧(i,j)∈bK ou th st
 ex:∀ i j,pm i=some j→∃ ou th st,jN A B l (i,j) ou th st
 clo:∀ i j ou th st,pm i=some j→jN A B l (i,j) ou th st→∀ y∈bK ou th st,pm y.1=some y.2
 iin:∀ i j ou th st,pm i=some j→jN A B l (i,j) ou th st→∀ p,ins i p=fk B th (aW st p)
 iout:∀ i,pm i=none→∀ p,ins i p=[]
theorem pY.side {A B:FL} {l:List (List Int×AV)} {done:List (Nat×Nat)} {plog:List (Int×AV)} {ins:Nat→Nat→List AV} {i0 j0:Nat} {c:Int} (hc:eO A B l) (h0:i0=A.fs.length-1) (h1:j0=B.fs.length-1) (ht:gK l i0 j0=some c)
  (d:pY A B l done plog ins) (F:Bp A B l (i0,j0) done []):kQ A B l (fun i=>done.lookup i) ins∧∀ i:Nat,aZ plog (i:Int)=(done.lookup i).map fun (j:Nat)=>AV.int j:=by
 have nd:(done.map (·.1)).Nodup:=by have:=F.nd;rwa [List.append_nil] at this
 have mm:=fun {i j:Nat}=>rJ nd (i:=i) (j:=j)
 have no:∀ i,done.lookup i=none→∀ x∈done,x.1≠i:=fun i hi x hx e=>by
  subst e
  rw[mm.mpr (show(x.1,x.2)∈done from hx)] at hi;cases hi
 refine⟨⟨hc,?_,fun i j h=>?_,fun i j h=>?_,fun i j h=>d.ex _ (mm.mp h),fun i j ou th st h s y hy=>?_,fun i j ou th st h s p=>d.iin (i,j) (mm.mp h) ou th st s p,fun i h p=>d.iout i (no i h) p⟩,fun i=>?_⟩
 ·subst h0 h1
  rw[ht]
  exact mm.mpr (by simpa using F.here)
 ·exact F.lt (i,j) (by simpa using mm.mp h)
 ·rcases F.src (i,j) (by simpa using mm.mp h) with e | ⟨⟨i',j'⟩,hy,ou,th,st,s,k⟩
  ·rw[h0,h1] at e;exact .inl e
  ·exact .inr ⟨i',j',ou,th,st,mm.mpr hy,s,k⟩
 ·have:=F.clo (i,j) (mm.mp h) ou th st s y hy
  rw[List.append_nil] at this
  exact mm.mpr this
 ·cases e:done.lookup i with
  | none=>exact d.pout i (no i e)
  | some j=>exact d.pin (i,j) (mm.mp e)
theorem cM.keepBut {hp hp':Hp} {m x:Nat} {sl:List (String×AV)} {A B:FL} {l:List (List Int×AV)} (y:cM hp m A B l) (hx:hp[x]?=some (.inst 197 sl)) (k:∀ (m:Nat) o,hp[m]?=some o→m≠x→hp'[m]?=some o):cM hp' m A B l:=by
 obtain⟨a,b,d,h1,h2,h3,h4⟩:=y
 have ndi:(∀ l,aC.inst 197 sl≠.list l)∧∀ f c s p l,aC.inst 197 sl≠.inst 80 (rC f c s p l):=⟨(fun l q=>nomatch q),fun _ _ _ _ _ q=>by injection q with q;exact absurd q (by decide)⟩
 refine⟨a,b,d,k _ _ h1 (fun e=>?_),h2.keepBut hx ndi k,h3.keepBut hx ndi k,k _ _ h4 fun e=>?_⟩
 ·subst e;rw[hx] at h1;injection h1 with h1;injection h1 with h1;exact absurd h1 (by decide)
 ·subst e;rw[hx] at h4;cases h4
inductive yQ (as:List AV) (hp:Hp) (P:AV→Hp→Prop):Prop
 | mk (n a b:Nat) (A B:FL):as=[.ref n,.ref a,.ref b]→hp[n]?=some (.inst 197 [])→ax hp a A→ax hp b B→(∀ f∈A.fs,∀ g∈B.fs,zA f g)→(∀ l pm ins hp',(∀ (m:Nat) o,hp[m]?=some o→m≠n→hp'[m]?=some o)→cV hp' n A B l pm ins→kQ A B l pm ins→P .none hp')→yQ as hp P
inductive Br (as:List AV) (hp:Hp) (P:AV→Hp→Prop):Prop
 | mk (a b:Nat) (A B:FL):as=[.ref a,.ref b]→ax hp a A→ax hp b B→(∀ f∈A.fs,∀ g∈B.fs,zA f g)→(∀ l pm ins r hp',Kp hp hp'→hp.length≤r→cV hp' r A B l pm ins→kQ A B l pm ins→P (.ref r) hp')→Br as hp P
section
variable {C:Cx}
theorem mo {hp:Hp} {x:Nat} {F:FL} {loc:aX} {Q:AV→Hp→Prop} (f:ax hp x F) (q:Q (.int (F.fs.length-1:Nat)) hp):xD 80 "top" Cp wN loc Q (.ref x) hp:=by
 obtain⟨f',c',s',p',pl',cs',B1,_⟩:=iq f
 exact jv B1 ⟨x,F,rfl,f,q⟩
theorem yR (h:HK C):aI C 5 (.ref 166) yQ:=by
 refine(xn h (su h) (fI h) (eP h) (gG h)).mono fun as hp P hF=>?_
 obtain⟨n,a,b,A,B,rfl,hn,fa,fb,cmp,hP⟩:=hF
 have nl:=aR hn
 have aN:=A.le
 have bN:=B.le
 unfold mK
 walk_at "r"
 refine⟨a,b,A,B,rfl,fa,fb,cmp,fun l m hp1 k1 lm ma co=>?_⟩
 have n1:=k1 _ _ hn
 have n1l:=aR n1
 walk_at "r"
 refine yz [("matching",.ref m)] n1 ?_
 walk_at "r"
 refine⟨.dI [],.inl rfl,?_⟩
 walk_at "r"
 refine yz [("matching",.ref m),("partners",.ref hp1.length)] (aB _ (aQ _ n1)) ?_ (by simp[lh])
 walk_at "r"
 refine⟨.dT [],.inr rfl,?_⟩
 walk_at "r"
 have S1:((hp1.set n (.inst 197 [("matching",.ref m)])++[aC.dI []]).set n (.inst 197 [("matching",.ref m),("partners",.ref hp1.length)])++[aC.dT []])[n]?=some (.inst 197 [("matching",.ref m),("partners",.ref hp1.length)]):=aB _ (aQ _ (aB _ (aQ _ n1)))
 have S2:((hp1.set n (.inst 197 [("matching",.ref m)])++[aC.dI []]).set n (.inst 197 [("matching",.ref m),("partners",.ref hp1.length)])++[aC.dT []])[hp1.length]?=some (.dI []):=by
  refine aB _ ?_;rw[aJ _ (by exact fq n1l)];simp
 have S3:((hp1.set n (.inst 197 [("matching",.ref m)])++[aC.dI []]).set n (.inst 197 [("matching",.ref m),("partners",.ref hp1.length)])++[aC.dT []])[hp1.length+1]?=some (.dT []):=by
  simp[List.getElem?_append_right]
 have S4:∀ (k:Nat) o,hp1[k]?=some o→k≠n→((hp1.set n (.inst 197 [("matching",.ref m)])++[aC.dI []]).set n (.inst 197 [("matching",.ref m),("partners",.ref hp1.length)])++[aC.dT []])[k]?=some o:=fun k o q e=>by
  refine aB _ ?_;rw[aJ _ (Ne.symm e)];refine aB _ ?_;rw[aJ _ (Ne.symm e)];exact q
 generalize ((hp1.set n (.inst 197 [("matching",.ref m)])++[aC.dI []]).set n (.inst 197 [("matching",.ref m),("partners",.ref hp1.length)])++[aC.dT []])=hp2 at S1 S2 S3 S4 ⊢
 refine yz (oX m hp1.length (hp1.length+1)) S1 ?_ (by simp[lh,oX])
 unfold oX
 have T1:=aQ (.inst 197 (oX m hp1.length (hp1.length+1))) S1
 unfold oX at T1
 have T2:(hp2.set n (.inst 197 (oX m hp1.length (hp1.length+1))))[hp1.length]?=some (.dI []):=by rw[aJ _ (by exact fq n1l)];exact S2
 have T3:(hp2.set n (.inst 197 (oX m hp1.length (hp1.length+1))))[hp1.length+1]?=some (.dT []):=by rw[aJ _ (by exact kh n1l)];exact S3
 have T4:∀ (k:Nat) o,hp1[k]?=some o→k≠n→(hp2.set n (.inst 197 (oX m hp1.length (hp1.length+1))))[k]?=some o:=fun k o q e=>by rw[aJ _ (Ne.symm e)];exact S4 k o q e
 unfold oX at T2 T3 T4
 generalize hp2.set n (.inst 197 [("matching",AV.ref m),("partners",AV.ref hp1.length),("inserted",AV.ref (hp1.length+1))])=hp3 at T1 T2 T3 T4 ⊢
 clear S1 S2 S3 S4
 have M3:∀ hp',vg hp1.length (hp1.length+1) hp3 hp'→cM hp' m A B l:=fun hp' kb=>ma.keepBut n1 fun k o q e=>by
  have:=aR q
  exact kb _ _ (T4 k o q e) (by exact fq this) (by exact kh this)
 have M0:=M3 hp3 fun _ _ q _ _=>q
 have fb3:ax hp3 b B:=(fb.keep k1).keepBut n1 ⟨(fun l q=>nomatch q),fun _ _ _ _ _ q=>by injection q with q;exact absurd q (by decide)⟩ T4
 have fa3:ax hp3 a A:=(fa.keep k1).keepBut n1 ⟨(fun l q=>nomatch q),fun _ _ _ _ _ q=>by injection q with q;exact absurd q (by decide)⟩ T4
 walk_at "r"
 refine mo fb3 ?_
 walk_at "r"
 obtain⟨am,bm,dm,m1,m2,m3,m4⟩:=iq M0
 unfold rr at m1
 refine at_ (T1) ?_
 walk_at "r"
 refine jv (m1) ?_
 walk_at "r"
 refine mo fa3 ?_
 walk_at "r"
 refine⟨m,A.fs.length-1,B.fs.length-1,A,B,l,rfl,M0,co.1,?_⟩
 walk_at "r"
 have t9:∀ (k:Nat) o,hp[k]?=some o→k≠n→hp3[k]?=some o:=fun k o q e=>T4 k o (k1 _ _ q) e
 cases hc:gK l (A.fs.length-1) (B.fs.length-1) with
 | none=>
  walk_at "r"
  refine hP l (fun _=>none) (fun _ _=>[]) hp3 t9 ⟨m,_,_,[],[],T1,M0,T2,T3,fun _=>rfl,fun _ _=>.inl ⟨rfl,rfl⟩⟩ ⟨co,by rw[hc];rfl,(fun _ _ h=>nomatch h),(fun _ _ h=>nomatch h),(fun _ _ h=>nomatch h),(fun _ _ _ _ _ h=>nomatch h),(fun _ _ _ _ _ h=>nomatch h),fun _ _ _=>rfl⟩
 | some c=>
  refine jv (T1) ?_
  walk_at "r"
  refine mo fa3 ?_
  walk_at "r"
  refine⟨n,m,hp1.length,hp1.length+1,A.fs.length-1,B.fs.length-1,A,B,l,rfl,T1,M3,T2,T3,co.1,rfl,by exact tW bN,fun hp' plog il ins done kb p1 p2 it dk fol=>⟨rfl,?_⟩⟩
  obtain⟨so,lp⟩:=dk.side co rfl rfl hc fol
  walk_at "r"
  refine hP l _ ins hp' (fun k o q e=>?_) ⟨m,_,_,plog,il,kb _ _ T1 (by exact fq n1l) (by exact kh n1l),M3 hp' kb,p1,p2,lp,it.at'⟩ so
  have:=aR (k1 _ _ q)
  exact kb _ _ (t9 k o q e) (by exact fq this) (by exact kh this)
theorem Cq (h:HK C):aI C 6 (.ref 197) Br:=by
 refine(pE (zh h) (yR h)).mono fun as hp P hF=>?_
 obtain⟨a,b,A,B,rfl,fa,fb,cmp,hP⟩:=hF
 refine⟨hp.length,a,b,A,B,rfl,aE _ _,fa.keep (Kp.app _ _),fb.keep (Kp.app _ _),cmp,fun l pm ins hp' k s c=>⟨rfl,hP l pm ins hp.length hp' (fun m o q=>k m o (aB _ q) (Nat.ne_of_lt (aR q))) (Nat.le_refl _) s c⟩⟩
end
noncomputable def sS (s:String):AV:=.str (Str.ofString s)
noncomputable def gw (b o t:Fm) (path:AV):Str×List AV:=if o.v=t.v∨t.v=b.v then (o.v,[]) else if o.v=b.v then (t.v,[]) else (o.v,[.tup [sS "value",path,.str o.v,.str t.v]])
inductive Bs (as:List AV) (hp:Hp) (P:AV→Hp→Prop):Prop
 | mk (b o t:Fm) (path:AV):as=[b.av,o.av,t.av,path]→b.av.ok 36=true→o.av.ok 36=true→t.av.ok 36=true→(∀ r hp',Kp hp hp'→hp'[r]?=some (.list (gw b o t path).2)→P (.tup [.str (gw b o t path).1,.ref r]) hp')→Bs as hp P
open Classical in
noncomputable def dJ (a b:List AV) (path:AV) (p:Nat):List AV×List AV:=if b=[]∨a=b then (a,[]) else if a=[] then (b,[]) else (a++b,[.tup [sS "inserted",path,.int p]])
inductive Bt (as:List AV) (hp:Hp) (P:AV→Hp→Prop):Prop
 | mk (x y:Nat) (a b:List AV) (path:AV) (p:Nat):as=[.ref x,.ref y,path,.int p]→hp[x]?=some (.list a)→hp[y]?=some (.list b)→(∀ u∈a,u.ok 36=true)→(∀ u∈b,u.ok 36=true)→a.length≤1000→b.length≤1000→(∀ r q hp',Kp hp hp'→hp'[r]?=some (.list (dJ a b path p).1)→hp'[q]?=some (.list (dJ a b path p).2)→P (.tup [.ref r,.ref q]) hp')→Bt as hp P
theorem sw {n m:Nat} {a b:List AV} {hp:Hp} {P:AV→Hp→Prop} (hn:hp[n]?=some (.list a)) (hm:hp[m]?=some (.list b)) (oa:∀ x∈a,x.ok 39=true) (ob:∀ x∈b,x.ok 39=true) (h:P (.bool (lP (.lst a) (.lst b))) hp):bv (.ref n) (.ref m) hp P:=by
 rw[jg,fy hn,fy hm]
 exact⟨by simpa[oN,oI,oS,oT,oL,oB,oR,oG,fv,fw] using oa,by simpa[oN,oI,oS,oT,oL,oB,oR,oG,fv,fw] using ob,h⟩
theorem DU {n m:Nat} {a b:List AV} {hp:Hp} {P:AV→Hp→Prop} (hn:hp[n]?=some (.list a)) (hm:hp[m]?=some (.list b)) (hz:a.length+b.length≤100000) (h:P (.ref hp.length) (hp++[.list (a++b)])):ak (.ref n) (.ref m) hp P:=.lists hn hm sz h
section
variable {C:Cx}
theorem cG (h:HK C):aI C 1 (.ref 208) Bs:=by
 refine(mO h).mono fun as hp P hF=>?_
 obtain⟨b,o,t,path,rfl,ok1,ok2,ok3,hP⟩:=hF
 obtain⟨_,_,b3,_⟩:=eF ok1
 obtain⟨_,_,o3,_⟩:=eF ok2
 obtain⟨_,_,t3,_⟩:=eF ok3
 have b3:=aq _ 40 _ (by exact jT) b3
 have o3:=aq _ 40 _ (by exact jT) o3
 have t3:=aq _ 40 _ (by exact jT) t3
 unfold fE
 walk_at "r"
 refine jh ?_
 refine jh ?_
 refine bQ o3 t3 ?_
 walk_at "r"
 rw[eZ]
 unfold gw at hP
 by_cases h1:o.v=t.v
 ·rw[if_pos (.inl h1)] at hP
  rw[decide_eq_true h1]
  walk_at "r"
  refine jh ?_
  refine⟨sz,?_⟩
  walk_at "r"
  refine⟨sz,?_⟩
  walk_at "r"
  exact hP _ _ (Kp.app _ _) (aE _ _)
 rw[decide_eq_false h1]
 walk_at "r"
 refine jh ?_
 refine jh ?_
 refine bQ t3 b3 ?_
 walk_at "r"
 rw[eZ]
 by_cases h2:t.v=b.v
 ·rw[if_pos (.inr h2)] at hP
  rw[decide_eq_true h2]
  walk_at "r"
  refine jh ?_
  refine⟨sz,?_⟩
  walk_at "r"
  refine⟨sz,?_⟩
  walk_at "r"
  exact hP _ _ (Kp.app _ _) (aE _ _)
 rw[decide_eq_false h2]
 rw[if_neg (fun q=>q.elim h1 h2)] at hP
 walk_at "r"
 refine jh ?_
 refine jh ?_
 refine bQ o3 b3 ?_
 walk_at "r"
 rw[eZ]
 by_cases h3:o.v=b.v
 ·rw[if_pos h3] at hP
  rw[decide_eq_true h3]
  walk_at "r"
  refine jh ?_
  refine⟨sz,?_⟩
  walk_at "r"
  refine⟨sz,?_⟩
  walk_at "r"
  exact hP _ _ (Kp.app _ _) (aE _ _)
 ·rw[if_neg h3] at hP
  rw[decide_eq_false h3]
  walk_at "r"
  refine jh ?_
  refine jh ?_
  refine jh ?_
  walk_at "r"
  refine⟨sz,?_⟩
  walk_at "r"
  refine⟨sz,?_⟩
  walk_at "r"
  refine⟨sz,?_⟩
  walk_at "r"
  exact hP _ _ (Kp.app _ _) (aE _ _)
theorem bH (h:HK C):aI C 1 (.ref 225) Bt:=by
 refine(i7 h).mono fun as hp P hF=>?_
 obtain⟨x,y,a,b,path,p,rfl,hx,hy,oa,ob,la,lb,hP⟩:=hF
 have oa9:∀ u∈a,u.ok 39=true:=fun u hu=>aq _ _ _ (by exact tX) (oa u hu)
 have ob9:∀ u∈b,u.ok 39=true:=fun u hu=>aq _ _ _ (by exact tX) (ob u hu)
 unfold cz
 unfold dJ at hP
 walk_at "r"
 refine⟨sz,?_⟩
 walk_at "r"
 refine rB (aB _ hy) (aE _ _) ob9 ?_
 walk_at "r"
 have k1:=Kp.app hp [aC.list []]
 have l1:(hp++[aC.list []]).length=hp.length+1:=by simp
 generalize hp++[aC.list []]=hp1 at k1 l1 ⊢
 have hx:=k1 _ _ hx
 have hy:=k1 _ _ hy
 by_cases h1:b=[]
 ·rw[if_pos (.inl h1)] at hP
  rw[h1]
  simp only[List.isEmpty_nil]
  walk_at "r"
  refine⟨sz,?_⟩
  walk_at "r"
  refine⟨sz,?_⟩
  walk_at "r"
  exact hP _ _ _ (k1.trans (Kp.app _ _)) (aB _ hx) (by first | exact aE _ _ | (rw[← l1];exact aE _ _))
 have hb:b.isEmpty=false:=by cases b with | nil=>exact absurd rfl h1 | cons _ _=>rfl
 rw[hb]
 walk_at "r"
 refine sw hx hy oa9 ob9 ?_
 walk_at "r"
 by_cases h2:a=b
 ·rw[if_pos (.inr h2)] at hP
  rw[bZ (by rw[h2])]
  walk_at "r"
  refine⟨sz,?_⟩
  walk_at "r"
  refine⟨sz,?_⟩
  walk_at "r"
  exact hP _ _ _ (k1.trans (Kp.app _ _)) (aB _ hx) (by first | exact aE _ _ | (rw[← l1];exact aE _ _))
 rw[if_neg (fun q=>q.elim h1 h2)] at hP
 rw[bP (fun q=>h2 (by injection q))]
 walk_at "r"
 refine⟨sz,?_⟩
 walk_at "r"
 refine rB (aB _ hx) (aE _ _) oa9 ?_
 walk_at "r"
 have k2:=k1.trans (Kp.app hp1 [aC.list []])
 have hx:=aB [aC.list []] hx
 have hy:=aB [aC.list []] hy
 have l2:(hp1++[aC.list []]).length=hp1.length+1:=by simp
 generalize hp1++[aC.list []]=hp2 at k2 hx hy l2 ⊢
 by_cases h3:a=[]
 ·rw[if_pos h3] at hP
  rw[h3]
  simp only[List.isEmpty_nil]
  walk_at "r"
  refine⟨sz,?_⟩
  walk_at "r"
  refine⟨sz,?_⟩
  walk_at "r"
  exact hP _ _ _ (k2.trans (Kp.app _ _)) (aB _ hy) (by rw[← l2];exact aE _ _)
 ·rw[if_neg h3] at hP
  have ha:a.isEmpty=false:=by cases a with | nil=>exact absurd rfl h3 | cons _ _=>rfl
  rw[ha]
  walk_at "r"
  refine gh hx hy rfl (sz (by simp;exact Ew la lb)) ?_
  walk_at "r"
  refine⟨sz,?_⟩
  walk_at "r"
  refine⟨sz,?_⟩
  walk_at "r"
  refine⟨sz,?_⟩
  walk_at "r"
  exact hP _ _ _ ((k2.trans (Kp.app _ _)).trans (Kp.app _ _)) (aB _ (aE _ _)) (by simp[List.getElem?_append_right,sS])
end
noncomputable def mq (l:List Str):List Str:=l.foldl (fun acc k=>if k∈acc then acc else acc++[k]) []
noncomputable def de (k:Str):List Str×AV:=([em,k],.bool true)
theorem vS (acc:List Str) (k:Str):(aZ (acc.map de) [em,k]).isSome=decide (k∈acc):=by
 induction acc with
 | nil=>rfl
 | cons a r ih=>
  simp only[List.map_cons,de,aZ] at ih ⊢
  by_cases e:a=k
  ·subst e;simp
  ·rw[if_neg (fun q=>e (by injection q with _ q;injection q)),ih]
   simp[Ne.symm e]
theorem vT (acc:List Str) (k:Str):fC (acc.map de) [em,k] (.bool true)=(if k∈acc then acc else acc++[k]).map de:=by
 unfold fC
 rw[vS]
 by_cases e:k∈acc
 ·rw[decide_eq_true e,if_pos rfl,if_pos e,List.map_map]
  refine List.map_congr_left fun x _=>?_
  simp only[Function.comp,de]
  exact ite_self _
 ·rw[decide_eq_false e,if_neg Bool.false_ne_true,if_neg e,List.map_append];rfl
theorem sx (l:List Str):fU (l.map de)=(mq l).map de:=by
 have main:∀ (l acc:List Str),(l.map de).foldl (fun acc p=>fC acc p.1 p.2) (acc.map de)=(l.foldl (fun acc k=>if k∈acc then acc else acc++[k]) acc).map de:=by
  intro l
  induction l with
  | nil=>intro acc;rfl
  | cons k r ih=>
   intro acc
   simp only[List.map_cons,List.foldl_cons]
   rw[show(de k).1=[em,k] from rfl,show(de k).2=AV.bool true from rfl,vT,ih]
 exact main l []
theorem vU (l:List Str):cf (l.map de)=l.map aS:=by
 unfold cf
 rw[List.map_map];rfl
theorem yS {l:List Str} {x:Str}:x∈mq l↔x∈l:=by
 have main:∀ (l acc:List Str),x∈l.foldl (fun acc k=>if k∈acc then acc else acc++[k]) acc↔x∈acc∨x∈l:=by
  intro l
  induction l with
  | nil=>intro acc;simp
  | cons k r ih=>
   intro acc
   rw[List.foldl_cons,ih,List.mem_cons]
   split
   ·rename_i h
    exact⟨fun q=>q.elim .inl fun q=>.inr (.inr q),fun q=>q.elim .inl fun q=>q.elim (fun e=>.inl (e▸h)) .inr⟩
   ·rw[List.mem_append,List.mem_singleton,or_assoc]
 unfold mq;simpa using main l []
noncomputable def eQ (a:List (Str×Str)) (k:Str):AV:=((cO a k).map fun v=>AV.tup [.str k,.str v]).getD .none
theorem iE (a b:List (Str×Str)) (k:Str):lP (eQ a k) (eQ b k)=decide (cO a k=cO b k):=by
 unfold eQ
 cases e1:cO a k with
 | none=>
  cases e2:cO b k with
  | none=>rw[bZ rfl];rfl
  | some v=>exact(bP (a:=.none) (b:=.tup [.str k,.str v]) (fun q=>nomatch q)).trans rfl
 | some u=>
  cases e2:cO b k with
  | none=>exact(bP (b:=.none) (a:=.tup [.str k,.str u]) (fun q=>nomatch q)).trans rfl
  | some v=>
   by_cases huv:u=v
   ·subst huv;rw[bZ rfl];simp
   ·rw[bP (fun q=>huv (by simp at q;exact q))];simp[huv]
theorem pZ {f:Fm} (h:f.av.ok 36=true) (k:Str):(eQ f.at_ k).ok 40=true:=by
 unfold eQ
 cases e:cO f.at_ k with
 | none=>rfl
 | some v=>
  have:=at_ok h (md e)
  simp[oN,oI,oS,oT,oL,oB,oR,oG,fv,fw,this.1,this.2]
noncomputable def gH (b o t:Fm) (k:Str):Option Str:=if cO o.at_ k=cO b.at_ k then cO t.at_ k else cO o.at_ k
noncomputable def bC (b o t:Fm):List Str:=mq (b.at_.map (·.1)++o.at_.map (·.1)++t.at_.map (·.1))
noncomputable def jp (b o t:Fm) (ks:List Str):List AV:=ks.filterMap fun k=>(gH b o t k).map fun v=>dF (k,v)
noncomputable def fK (b o t:Fm) (path:AV) (k:Str):Option AV:=if cO o.at_ k≠cO b.at_ k∧cO t.at_ k≠cO b.at_ k∧cO o.at_ k≠cO t.at_ k then some (.tup [sS "attribute",path,aS k,eQ o.at_ k,eQ t.at_ k]) else none
noncomputable def jq (b o t:Fm) (path:AV) (ks:List Str):List AV:=ks.filterMap (fK b o t path)
inductive Bu (as:List AV) (hp:Hp) (P:AV→Hp→Prop):Prop
 | mk (b o t:Fm) (path:AV):as=[b.av,o.av,t.av,path]→b.av.ok 36=true→o.av.ok 36=true→t.av.ok 36=true→(b.at_.map (·.1)).Nodup→(o.at_.map (·.1)).Nodup→(t.at_.map (·.1)).Nodup→b.at_.length≤100→o.at_.length≤100→t.at_.length≤100→(bC b o t).length≤2→(∀ r hp',Kp hp hp'→hp'[r]?=some (.list (jq b o t path (aY (bC b o t))))→P (.tup [.tup (jp b o t (aY (bC b o t))),.ref r]) hp')→Bu as hp P
theorem vV {chk:Hp→Prop} {hp:Hp} {P:List AV→Hp→Prop} (ks:List Str) (hc:chk hp) (hz:ks.length≤1000) (hP:P (ks.map fun k=>.tup [aS k,.bool true]) hp) :
  eV (hM "key") cX (wU (wC (wV "key") (wC (wK (AV.bool true)) wN))) chk (ks.map aS) [("key",none),("name",none),("value",none),("k",none)] hp [] P:=by
 refine di _ (fun i acc loc hp'=>∃ c1,loc=[("key",c1),("name",none),("value",none),("k",none)]∧hp'=hp∧acc=(ks.take i).map fun k=>.tup [aS k,.bool true]) ⟨_,rfl,rfl,rfl⟩ ?_ ?_
 ·intro i x acc loc hp' K hx hI
  refine nn fun nG=>?_
  obtain⟨c1,rfl,rfl,rfl⟩:=hI
  refine nG ?_;clear nG
  intro hK
  rw[List.getElem?_map] at hx
  refine nn fun nG=>?_
  obtain⟨p,hp,rfl⟩:=Option.map_eq_some_iff.mp hx
  refine nG ?_;clear nG
  have hl:=(bj hp)
  walk_at "r"
  refine⟨sz,?_⟩
  walk_at "r"
  refine⟨sz (by simp;exact zH hz),?_⟩
  walk_at "r"
  refine⟨hc,hK _ _ _ ⟨_,rfl,rfl,?_⟩⟩
  rw[List.take_add_one,hp];simp
 ·intro acc loc hp' hI
  refine nn fun nG=>?_
  obtain⟨c1,rfl,rfl,rfl⟩:=hI
  refine nG ?_;clear nG
  rw[List.length_map,List.take_length]
  exact hP
theorem mr {n ep:Nat} {a:List (Str×Str)} {hp:Hp} {P:AV→Hp→Prop} (hn:hp[n]?=some (.dS ep (gu a))) (hz:a.length≤100) (h:P (.ref hp.length) (hp++[.list ((a.map (·.1)).map aS)])):lD [.ref n] hp P:=⟨hn,sz (by simp[gu];exact jU hz),by rw[me];exact h⟩
theorem p7 {k:Str} {n ep:Nat} {a:List (Str×Str)} {hp:Hp} {P:AV→Hp→Prop} (hn:hp[n]?=some (.dS ep (gu a))) (h:P (eQ a k) hp) :
  (∃ m o,AV.ref n=AV.ref m∧hp[m]?=some o∧nV o = "dict")∧jB [.ref n,aS k] hp P:=yC hn h
section
variable {C:Cx}
theorem bI (h:HK C):aI C 2 (.ref 218) Bu:=by
 refine(i6 h (eG h)).mono fun as hp P hF=>?_
 refine nn fun nG=>?_
 obtain⟨b,o,t,path,rfl,ok1,ok2,ok3,nd1,nd2,nd3,z1,z2,z3,hu,hP⟩:=hF
 refine nG ?_;clear nG
 unfold cy
 walk_at "r"
 refine⟨b,rfl,nd1,by exact wG z1,fun r1 ep1 h1 k1 _ d1=>?_⟩
 refine⟨o,rfl,nd2,by exact wG z2,fun r2 ep2 h2 k2 _ d2=>?_⟩
 refine⟨t,rfl,nd3,by exact wG z3,fun r3 ep3 h3 k3 _ d3=>?_⟩
 have d1:=k3 _ _ (k2 _ _ d1)
 have d2:=k3 _ _ d2
 have k3:=(k1.trans k2).trans k3
 refine⟨sz,?_⟩
 walk_at "r"
 refine⟨sz,?_⟩
 walk_at "r"
 refine⟨sz,?_⟩
 walk_at "r"
 refine⟨sz,?_⟩
 walk_at "r"
 have fo:(h3++[aC.list []]++[aC.list []])[h3.length]?=some (.list []):=aB _ (aE _ _)
 have cl:(h3++[aC.list []]++[aC.list []])[h3.length+1]?=some (.list []):=by simp[List.getElem?_append_right]
 have d1:=aB [aC.list []] (aB [aC.list []] d1)
 have d2:=aB [aC.list []] (aB [aC.list []] d2)
 have d3:=aB [aC.list []] (aB [aC.list []] d3)
 have k4:=(k3.trans (Kp.app h3 [aC.list []])).trans (Kp.app _ [aC.list []])
 have hl:=k3.len
 generalize h3++[aC.list []]++[aC.list []]=h4 at fo cl d1 d2 d3 k4 ⊢
 generalize h3.length=ro at fo cl hl ⊢
 clear k3
 refine mr d1 z1 ?_
 walk_at "r"
 refine mr (aB _ d2) z2 ?_
 have q1:=aB [aC.list ((o.at_.map (·.1)).map aS)] (aE h4 (.list ((b.at_.map (·.1)).map aS)))
 have q2:=aE (h4++[aC.list ((b.at_.map (·.1)).map aS)]) (.list ((o.at_.map (·.1)).map aS))
 have k5:=(Kp.app h4 [aC.list ((b.at_.map (·.1)).map aS)]).trans (Kp.app _ [aC.list ((o.at_.map (·.1)).map aS)])
 generalize (h4++[aC.list ((b.at_.map (·.1)).map aS)]).length=n2 at q2 ⊢
 generalize h4.length=n1 at q1 ⊢
 generalize h4++[aC.list ((b.at_.map (·.1)).map aS)]++[aC.list ((o.at_.map (·.1)).map aS)]=h5 at q1 q2 k5 ⊢
 refine gh q1 q2 rfl (sz (by simp;exact Ex z1 z2)) ?_
 walk_at "r"
 refine mr (aB _ (k5 _ _ d3)) z3 ?_
 have q3:=aB [aC.list ((t.at_.map (·.1)).map aS)] (aE h5 (.list ((b.at_.map (·.1)).map aS++(o.at_.map (·.1)).map aS)))
 have q4:=aE (h5++[aC.list ((b.at_.map (·.1)).map aS++(o.at_.map (·.1)).map aS)]) (.list ((t.at_.map (·.1)).map aS))
 have k6:=(k5.trans (Kp.app h5 [aC.list ((b.at_.map (·.1)).map aS++(o.at_.map (·.1)).map aS)])).trans (Kp.app _ [aC.list ((t.at_.map (·.1)).map aS)])
 generalize (h5++[aC.list ((b.at_.map (·.1)).map aS++(o.at_.map (·.1)).map aS)]).length=n4 at q4 ⊢
 generalize h5.length=n3 at q3 ⊢
 generalize h5++[aC.list ((b.at_.map (·.1)).map aS++(o.at_.map (·.1)).map aS)]++[aC.list ((t.at_.map (·.1)).map aS)]=h6 at q3 q4 k6 ⊢
 clear k5 q1 q2
 refine gh q3 q4 rfl (sz (by simp;exact Aq z1 z2 z3)) ?_
 walk_at "r"
 refine⟨_,af (aE _ _),?_⟩
 walk_at "r"
 rw[show hO _ _ _=[] from rfl]
 have ke:(b.at_.map (·.1)).map aS++(o.at_.map (·.1)).map aS++(t.at_.map (·.1)).map aS=(b.at_.map (·.1)++o.at_.map (·.1)++t.at_.map (·.1)).map aS:=by simp
 rw[ke]
 refine vV _ ⟨af (aE _ _),rfl⟩ (by simp;exact Ey z1 z2 z3) ?_
 have k7:=k6.trans (Kp.app h6 [aC.list (List.map aS (List.map (fun x=>x.fst) b.at_++List.map (fun x=>x.fst) o.at_++List.map (fun x=>x.fst) t.at_))])
 generalize h6++[aC.list (List.map aS (List.map (fun x=>x.fst) b.at_++List.map (fun x=>x.fst) o.at_++List.map (fun x=>x.fst) t.at_))]=h7 at k7 ⊢
 clear k6 q3 q4
 refine lW (ps:=(b.at_.map (·.1)++o.at_.map (·.1)++t.at_.map (·.1)).map de) (aE _ _) (sz (by simp;exact Aq z1 z2 z3)) (by rw[List.map_map,List.map_map];rfl) fun ep=>?_
 rw[sx]
 have k8:=k4.trans (k7.trans ((Kp.app h7 [aC.list (List.map (fun k=>AV.tup [aS k,AV.bool true]) (List.map (fun x=>x.fst) b.at_++List.map (fun x=>x.fst) o.at_++List.map (fun x=>x.fst) t.at_))]).trans (Kp.app _ [aC.dS ep (List.map de (mq (List.map (fun x=>x.fst) b.at_++List.map (fun x=>x.fst) o.at_++List.map (fun x=>x.fst) t.at_)))])))
 have k9:=k7.trans ((Kp.app h7 [aC.list (List.map (fun k=>AV.tup [aS k,AV.bool true]) (List.map (fun x=>x.fst) b.at_++List.map (fun x=>x.fst) o.at_++List.map (fun x=>x.fst) t.at_))]).trans (Kp.app _ [aC.dS ep (List.map de (mq (List.map (fun x=>x.fst) b.at_++List.map (fun x=>x.fst) o.at_++List.map (fun x=>x.fst) t.at_)))]))
 have sn:=aE (h7++[aC.list (List.map (fun k=>AV.tup [aS k,AV.bool true]) (List.map (fun x=>x.fst) b.at_++List.map (fun x=>x.fst) o.at_++List.map (fun x=>x.fst) t.at_))]) (aC.dS ep (List.map de (mq (List.map (fun x=>x.fst) b.at_++List.map (fun x=>x.fst) o.at_++List.map (fun x=>x.fst) t.at_))))
 generalize (h7++[aC.list (List.map (fun k=>AV.tup [aS k,AV.bool true]) (List.map (fun x=>x.fst) b.at_++List.map (fun x=>x.fst) o.at_++List.map (fun x=>x.fst) t.at_))]).length=rk at sn ⊢
 generalize h7++[aC.list (List.map (fun k=>AV.tup [aS k,AV.bool true]) (List.map (fun x=>x.fst) b.at_++List.map (fun x=>x.fst) o.at_++List.map (fun x=>x.fst) t.at_))]++[aC.dS ep (List.map de (mq (List.map (fun x=>x.fst) b.at_++List.map (fun x=>x.fst) o.at_++List.map (fun x=>x.fst) t.at_)))]=h8 at sn k8 k9 ⊢
 have d1:=k9 _ _ d1
 have d2:=k9 _ _ d2
 have d3:=k9 _ _ d3
 have fo:=k9 _ _ fo
 have cl:=k9 _ _ cl
 clear k9 k7 k4
 refine uE.mk _ em (bC b o t) (.inr ⟨ep,_,sn,rfl⟩) (by rw[vU];rfl) hu ?_
 walk_at "r"
 have so:=aE h8 (.list (List.map (bG em) (aY (bC b o t))))
 have d1:=aB [aC.list (List.map (bG em) (aY (bC b o t)))] d1
 have d2:=aB [aC.list (List.map (bG em) (aY (bC b o t)))] d2
 have d3:=aB [aC.list (List.map (bG em) (aY (bC b o t)))] d3
 have ls:=aR cl
 have fo:=aB [aC.list (List.map (bG em) (aY (bC b o t)))] fo
 have cl:=aB [aC.list (List.map (bG em) (aY (bC b o t)))] cl
 have k9:=k8.trans (Kp.app _ [aC.list (List.map (bG em) (aY (bC b o t)))])
 generalize h8.length=rs at so ls ⊢
 generalize h8++[aC.list (List.map (bG em) (aY (bC b o t)))]=h9 at so d1 d2 d3 fo cl k9 ⊢
 clear k8 sn
 have nd:∀ (r:Nat) ep l,h9[r]?=some (.dS ep l)→r≠ro∧r≠ro+1:=fun r ep l q=>⟨fun e=>by (rw[e,fo] at q;cases q),fun e=>by (rw[e,cl] at q;cases q)⟩
 have n1:=nd _ _ _ d1
 have n2:=nd _ _ _ d2
 have n3:=nd _ _ _ d3
 refine⟨_,af so,?_⟩
 walk_at "r"
 refine bB _ (fun i loc hp'=>∃ c1 c2 c3 c4 c5 c6,loc=[("base",some b.av),("one",some o.av),("other",some t.av),("path",some path),("ahead",some (AV.ref r1)),("first",some (AV.ref r2)),("second",some (AV.ref r3)),("found",some (AV.ref ro)),("clashes",some (AV.ref (ro+1))),
   ("key",c1),("keys",c2),("was",c3),("ours",c4),("theirs",c5),("told",c6)]∧(∀ (m:Nat) o,h9[m]?=some o→m≠ro→m≠ro+1→hp'[m]?=some o)∧hp'[ro]?=some (.list (jp b o t ((aY (bC b o t)).take i)))∧hp'[ro+1]?=some (.list (jq b o t path ((aY (bC b o t)).take i))))
  ⟨_,_,_,_,_,_,rfl,fun m o q _ _=>q,fo,cl⟩ ?_ ?_
 ·intro i x loc hp' K hx hI
  refine nn fun nG=>?_
  obtain⟨c1,c2,c3,c4,c5,c6,rfl,a0,a1,a2⟩:=hI
  refine nG ?_;clear nG
  intro hK
  rw[List.getElem?_map] at hx
  refine nn fun nG=>?_
  obtain⟨k,hk,rfl⟩:=Option.map_eq_some_iff.mp hx
  refine nG ?_;clear nG
  have hil:=(bj hk)
  rw[gC] at hil
  have tk:(aY (bC b o t)).take (i+1)=(aY (bC b o t)).take i++[k]:=by rw[List.take_add_one,hk];rfl
  have sr:=a0 _ _ so (by exact Ar ls) (by exact As ls)
  have e1:=a0 _ _ d1 n1.1 n1.2
  have e2:=a0 _ _ d2 n2.1 n2.2
  have e3:=a0 _ _ d3 n3.1 n3.2
  have okB:=pZ ok1 k
  have okO:=pZ ok2 k
  have okT:=pZ ok3 k
  walk_at "r"
  refine p7 e1 ?_
  walk_at "r"
  refine p7 e2 ?_
  walk_at "r"
  refine p7 e3 ?_
  walk_at "r"
  have lF:(jp b o t ((aY (bC b o t)).take i)).length≤100:=by
   refine Nat.le_trans (List.length_filterMap_le _ _) ?_;rw[List.length_take];exact Au hil hu
  have lC:(jq b o t path ((aY (bC b o t)).take i)).length≤100:=by
   refine Nat.le_trans (List.length_filterMap_le _ _) ?_;rw[List.length_take];exact Au hil hu
  have mF:jp b o t ((aY (bC b o t)).take (i+1))=jp b o t ((aY (bC b o t)).take i)++((gH b o t k).map fun v=>dF (k,v)).toList:=by
   rw[tk];unfold jp;rw[List.filterMap_append];cases e:gH b o t k <;> simp[e]
  have mC:jq b o t path ((aY (bC b o t)).take (i+1))=jq b o t path ((aY (bC b o t)).take i)++(fK b o t path k).toList:=by
   rw[tk];unfold jq;rw[List.filterMap_append];cases e:fK b o t path k <;> simp[e]
  have fin:∀ (hp1:Hp) (x:Fm),(∀ (m:Nat) o,h9[m]?=some o→m≠ro→m≠ro+1→hp1[m]?=some o)→hp1[ro]?=some (.list (jp b o t ((aY (bC b o t)).take i)))→hp1[ro+1]?=some (.list (jq b o t path ((aY (bC b o t)).take (i+1))))→cO x.at_ k=gH b o t k→
    if (!(eQ x.at_ k).isNone)=true then (∃ n o,AV.ref ro=AV.ref n∧hp1[n]?=some o∧nV o = "list")∧ai (eQ x.at_ k) (AV.int 0) hp1 fun a hp1=>ai (eQ x.at_ k) (AV.int 1) hp1 fun a_1 hp1=>3≤sizeLine∧aV [AV.ref ro,AV.tup [bG em k,a,a_1]] hp1 fun a hp1=>a=AV.none∧(aL (AV.ref rs) hp1=some (List.map (bG em) (aY (bC b o t)))∧ag (AV.ref rs) hp1=ag (AV.ref rs) h9)∧K [("base",some b.av),("one",some o.av),("other",some t.av),("path",some path),("ahead",some (AV.ref r1)),("first",some (AV.ref r2)),("second",some (AV.ref r3)),("found",some (AV.ref ro)),("clashes",some (AV.ref (ro+1))),("key",some (bG em k)),("keys",c2),("was",some (eQ b.at_ k)),("ours",some (eQ o.at_ k)),("theirs",some (eQ t.at_ k)),("told",some (eQ x.at_ k))] hp1
    else (aL (AV.ref rs) hp1=some (List.map (bG em) (aY (bC b o t)))∧ag (AV.ref rs) hp1=ag (AV.ref rs) h9)∧K [("base",some b.av),("one",some o.av),("other",some t.av),("path",some path),("ahead",some (AV.ref r1)),("first",some (AV.ref r2)),("second",some (AV.ref r3)),("found",some (AV.ref ro)),("clashes",some (AV.ref (ro+1))),("key",some (bG em k)),("keys",c2),("was",some (eQ b.at_ k)),("ours",some (eQ o.at_ k)),("theirs",some (eQ t.at_ k)),("told",some (eQ x.at_ k))] hp1:=fun hp1 x b0 b1 b2 ht=>by
   have sr:=b0 _ _ so (by exact Ar ls) (by exact As ls)
   cases e:gH b o t k with
   | none=>
    have e':(eQ x.at_ k).isNone=true:=by unfold eQ;rw[ht,e];rfl
    rw[e',if_neg (by decide)]
    refine⟨⟨af sr,by rw[be sr,be so]⟩,hK _ _ ⟨_,_,_,_,_,_,rfl,b0,?_,b2⟩⟩
    rw[b1,mF,e];simp
   | some v=>
    have e':eQ x.at_ k=.tup [.str k,.str v]:=by unfold eQ;rw[ht,e];rfl
    rw[e']
    rw[if_pos (by rfl)]
    refine⟨⟨_,_,rfl,b1,rfl⟩,?_⟩
    walk_at "r"
    refine⟨sz,?_⟩
    walk_at "r"
    refine bW b1 (by exact jU lF) ⟨rfl,?_⟩
    walk_at "r"
    have s2:(hp1.set ro (.list (jp b o t ((aY (bC b o t)).take i)++[AV.tup [bG em k,.str k,.str v]])))[rs]?=some (.list (List.map (bG em) (aY (bC b o t)))):=by rw[aJ _ (by exact Ez ls)];exact sr
    refine⟨⟨af s2,by rw[be s2,be so]⟩,hK _ _ ⟨_,_,_,_,_,_,rfl,fun m o q e1 e2=>by rw[aJ _ (Ne.symm e1)];exact b0 m o q e1 e2,?_,by rw[aJ _ (by exact tQ)];exact b2⟩⟩
    rw[aQ _ b1,mF,e];rfl
  have cN:¬ (cO o.at_ k≠cO b.at_ k∧cO t.at_ k≠cO b.at_ k∧cO o.at_ k≠cO t.at_ k)→hp'[ro+1]?=some (.list (jq b o t path ((aY (bC b o t)).take (i+1)))):=fun q=>by
   rw[a2,mC];unfold fK;rw[if_neg q];simp
  refine⟨sz,?_⟩
  walk_at "r"
  refine bQ okO okB ?_
  walk_at "r"
  rw[iE]
  by_cases h1:cO o.at_ k=cO b.at_ k
  ·rw[decide_eq_true h1]
   walk_at "r"
   refine dw okO okB ?_
   walk_at "r"
   rw[iE,decide_eq_true h1]
   walk_at "r"
   exact fin hp' t a0 a1 (cN fun q=>q.1 h1) (by unfold gH;rw[if_pos h1])
  ·rw[decide_eq_false h1]
   have to:cO o.at_ k=gH b o t k:=by unfold gH;rw[if_neg h1]
   walk_at "r"
   refine dw okO okB ?_
   walk_at "r"
   rw[iE,decide_eq_false h1]
   walk_at "r"
   refine dw okT okB ?_
   walk_at "r"
   rw[iE]
   by_cases h2:cO t.at_ k=cO b.at_ k
   ·rw[decide_eq_true h2]
    walk_at "r"
    exact fin hp' o a0 a1 (cN fun q=>q.2.1 h2) to
   rw[decide_eq_false h2]
   walk_at "r"
   refine dw okO okT ?_
   walk_at "r"
   rw[iE]
   by_cases h3:cO o.at_ k=cO t.at_ k
   ·rw[decide_eq_true h3]
    walk_at "r"
    exact fin hp' o a0 a1 (cN fun q=>q.2.2 h3) to
   rw[decide_eq_false h3]
   walk_at "r"
   refine⟨⟨_,_,rfl,a2,rfl⟩,sz,bW a2 (by exact jU lC) ⟨rfl,?_⟩⟩
   walk_at "r"
   refine fin _ o ?_ ?_ ?_ to
   ·intro m o q e1 e2
    rw[aJ _ (Ne.symm e2)];exact a0 m o q e1 e2
   ·rw[aJ _ (by exact vn)];exact a1
   ·rw[aQ _ a2,mC];unfold fK;rw[if_pos ⟨h1,h2,h3⟩];rfl
 ·intro loc hp' hI
  refine nn fun nG=>?_
  obtain⟨c1,c2,c3,c4,c5,c6,rfl,a0,a1,a2⟩:=hI
  refine nG ?_;clear nG
  rw[List.length_map,List.take_length] at a1 a2
  walk_at "r"
  refine Bj a1 (sz ?_) ⟨sz,hP _ hp' (fun m o q=>a0 m o (k9 m o q) (by have:=aR q;exact eC this hl) (by have:=aR q;exact FB this hl)) a2⟩
  refine Nat.le_trans (List.length_filterMap_le _ _) ?_
  rw[gC];exact l7 hu
end
set_option genInjectivity false in
structure Sd (A:FL) where
 B:FL
 l:List (List Int×AV)
 pm:Nat→Option Nat
 ins:Nat→Nat→List AV
 ok:kQ A B l pm ins
noncomputable def Sd.At {A:FL} (S:Sd A) (hp:Hp) (n:Nat):Prop:=cV hp n A S.B S.l S.pm S.ins
noncomputable def FL.at (F:FL) (i:Nat):Fm:=F.fs[i]?.getD F.root
noncomputable def FL.row (F:FL) (i:Nat):List Nat:=F.ch.getD i []
noncomputable abbrev RW:=Nat→List AV×List AV
noncomputable def fM {A:FL} (S T:Sd A) (rows:RW) (ou:List Nat) (i:Nat) (path:AV):Nat→List AV×List AV
 | 0=>([],[])
 | p+1=>((fM S T rows ou i path p).1++(dJ (S.ins i p) (T.ins i p) path p).1++(if p<ou.length then (rows (ou.getD p 0)).1 else []),(fM S T rows ou i path p).2++(dJ (S.ins i p) (T.ins i p) path p).2++(if p<ou.length then (rows (ou.getD p 0)).2 else []))
noncomputable def iG {A:FL} (S:Sd A) (i j:Nat) (who:Int) (path:AV):List AV×List AV:=if 0<(gK S.l i j).getD 0 then ([(S.B.at j).av],[.tup [sS "deleted",path,.int who]]) else ([],[])
noncomputable def rK (b o t:Fm) (path:AV) (ch:List AV×List AV):List AV×List AV:=
 ([.tup [.str b.k,b.lb,.str (gw b o t path).1,.tup (jp b o t (aY (bC b o t))),.tup ch.1]],(gw b o t path).2++jq b o t path (aY (bC b o t))++ch.2)
noncomputable def da {A:FL} (S T:Sd A) (rows:RW) (i:Nat) (path:AV):List AV×List AV:=match S.pm i,T.pm i with
 | none,none=>([],[])
 | none,some j=>iG T i j 1 path
 | some j,none=>iG S i j 2 path
 | some j,some j'=>rK (A.at i) (S.B.at j) (T.B.at j') path (fM S T rows (A.row i) i path ((A.row i).length+1))
inductive eX (lo:Nat) (hp:Hp) (x:AV) (fc:List AV×List AV):Prop
 | mk (u v:Nat):x=.tup [.ref u,.ref v]→lo≤u→lo≤v→hp[u]?=some (.list fc.1)→hp[v]?=some (.list fc.2)→eX lo hp x fc
theorem eX.keep {lo:Nat} {hp hp':Hp} {x:AV} {fc:List AV×List AV} (r:eX lo hp x fc) (k:Kp hp hp'):eX lo hp' x fc:=by
 obtain⟨u,v,e,l1,l2,a,b⟩:=r;exact⟨u,v,e,l1,l2,k _ _ a,k _ _ b⟩
theorem eX.low {lo lo':Nat} {hp:Hp} {x:AV} {fc:List AV×List AV} (r:eX lo hp x fc) (k:lo'≤lo):eX lo' hp x fc:=by
 obtain⟨u,v,e,l1,l2,a,b⟩:=r;exact⟨u,v,e,Nat.le_trans k l1,Nat.le_trans k l2,a,b⟩
noncomputable def vh (a s t r:Nat):List (String×AV):=[("base",.ref a),("one",.ref s),("other",.ref t),("rows",.ref r)]
inductive sy (hp:Hp) (n:Nat) {A:FL} (S T:Sd A) (rows:RW) (k:Nat):Prop
 | mk (a s t r rl):hp[n]?=some (.inst 277 (vh a s t r))→ax hp a A→S.At hp s→T.At hp t→hp[r]?=some (.list rl)→rl.length=k→(∀ c<k,∃ x,rl[c]?=some x∧eX 0 hp x (rows c))→sy hp n S T rows k
theorem sy.keep {hp hp':Hp} {n:Nat} {A:FL} {S T:Sd A} {rows:RW} {k:Nat} (m:sy hp n S T rows k) (kp:Kp hp hp'):sy hp' n S T rows k:=by
 obtain⟨a,s,t,r,rl,h1,h2,h3,h4,h5,h6,h7⟩:=m
 exact⟨a,s,t,r,rl,kp _ _ h1,h2.keep kp,cV.keep h3 kp,cV.keep h4 kp,kp _ _ h5,h6,fun c hc=>by obtain⟨x,q1,q2⟩:=h7 c hc;exact⟨x,q1,q2.keep kp⟩⟩
structure Sd.Sm {A:FL} (S:Sd A):Prop where
 len:∀ i p,(S.ins i p).length≤40
 ok:∀ i p,∀ u∈S.ins i p,u.ok 36=true
theorem FL.at_ok {F:FL} {i:Nat} (h:i<F.fs.length):F.fs[i]?=some (F.at i):=by unfold FL.at;rw[gE h];rfl
theorem FL.at_mem {F:FL} {i:Nat} (h:i<F.fs.length):F.at i∈F.fs:=List.mem_of_getElem? (FL.at_ok h)
theorem FL.row_ok {F:FL} {i:Nat} (h:i<F.fs.length):F.ch[i]?=some (F.row i):=by
 have:=F.ok.l3
 unfold FL.row;rw[List.getD_eq_getElem?_getD,gE (by exact bt h this)];rfl
theorem kQ.cst_some {A B:FL} {l:List (List Int×AV)} {pm:Nat→Option Nat} {ins:Nat→Nat→List AV} (s:kQ A B l pm ins) {i j:Nat} (h:pm i=some j):∃ c,gK l i j=some c:=by
 rcases s.src i j h with e | ⟨i',j',ou,th,st,h',so,k⟩
 ·injection e with e1 e2
  subst e1 e2
  have t:=s.top
  rw[h] at t
  cases e:gK l (A.fs.length-1) (B.fs.length-1) with
  | some c=>exact⟨c,rfl⟩
  | none=>rw[e] at t;cases t
 ·unfold bK at k
  obtain⟨⟨p,q⟩,hpq,e⟩:=List.mem_map.mp k
  injection e with e1 e2
  obtain⟨_,_,c,hc⟩:=so.2.2.keep_lt p q (gF.mp hpq)
  exact⟨c,by rw[← e1,← e2];exact hc⟩
theorem Sd.sm {A:FL} (S:Sd A) (hA:A.root.size≤12) (hB:S.B.root.size≤12):S.Sm:=by
 have key:∀ i p,S.ins i p=[]∨∃ j th st,S.B.ch[j]?=some th∧List.length st≤24∧S.ins i p=fk S.B th (aW st p)∧∀ q∈aW st p,q<th.length:=fun i p=>by
  cases e:S.pm i with
  | none=>exact .inl (S.ok.iout i e p)
  | some j=>
   obtain⟨ou,th,st,so⟩:=S.ok.ex i j e
   refine .inr ⟨j,th,st,so.2.1,?_,S.ok.iin i j ou th st e so p,fun q hq=>?_⟩
   ·have h1:=so.2.2.length
    have le:∀ {F:FL} {j:Nat} {r:List Nat},F.ch[j]?=some r→F.root.size≤12→r.length≤12:=fun {F j r} hr hz=>by
     have hj:j<F.fs.length:=by have:=(bj hr);have:=F.ok.l3;exact dz ‹_› this
     have h2:=F.ok.row j _ r (FL.at_ok hj) hr
     have h3:=Fm.kids_len (F.at j)
     have h4:=F.ok.sub _ (FL.at_mem hj)
     exact FC h2 h3 h4 hz
    have h2:=le so.1 hA
    have h3:=le so.2.1 hB
    exact FD h1 h2 h3
   ·unfold aW at hq
    obtain⟨x,hx,hx2⟩:=List.mem_filterMap.mp hq
    cases x with
    | keep a b=>cases hx2
    | out a=>cases hx2
    | inn a b=>
     simp only at hx2
     split at hx2
     ·cases hx2;exact(so.2.2.inn_le _ _ hx).2
     ·cases hx2
 refine⟨fun i p=>?_,fun i p u hu=>?_⟩
 ·rcases key i p with e | ⟨j,th,st,_,h1,h2,_⟩
  ·rw[e];simp
  ·rw[h2];unfold fk;rw[List.length_map]
   have:(aW st p).length≤st.length:=List.length_filterMap_le _ _
   exact FE this h1
 ·rcases key i p with e | ⟨j,th,st,h0,h1,h2,h3⟩
  ·rw[e] at hu;cases hu
  ·rw[h2] at hu
   unfold fk at hu
   obtain⟨q,hq,rfl⟩:=List.mem_map.mp hu
   have hl:=FL.row_lt h0 q (th.getD q 0) (by rw[List.getD_eq_getElem?_getD,gE (h3 q hq)];rfl)
   rw[FL.at_ok hl]
   exact S.B.ok.ok _ (FL.at_mem hl)
inductive uS (as:List AV) (hp:Hp) (P:AV→Hp→Prop):Prop
 | mk (n a s t:Nat):as=[.ref n,.ref a,.ref s,.ref t]→hp[n]?=some (.inst 277 [])→(∀ r hp',(∀ (m:Nat) o,hp[m]?=some o→m≠n→hp'[m]?=some o)→hp.length≤r→hp'[n]?=some (.inst 277 (vh a s t r))→hp'[r]?=some (.list [])→P .none hp')→uS as hp P
inductive yT (as:List AV) (hp:Hp) (P:AV→Hp→Prop):Prop
 | mk (a s t:Nat):as=[.ref a,.ref s,.ref t]→(∀ n r hp',Kp hp hp'→hp.length≤n→hp.length≤r→hp'[n]?=some (.inst 277 (vh a s t r))→hp'[r]?=some (.list [])→P (.ref n) hp')→yT as hp P
inductive Bv (as:List AV) (hp:Hp) (P:AV→Hp→Prop):Prop
 | mk (n i j s a s' t' r:Nat) (A:FL) (S:Sd A) (who:Int):as=[.ref n,.int i,.ref s,(S.B.at j).av,.int who]→hp[n]?=some (.inst 277 (vh a s' t' r))→ax hp a A→S.At hp s→S.pm i=some j→i<A.fs.length→(∀ x l hp',Kp hp hp'→bT A i l→eX hp.length hp' x (iG S i j who (.tup (aM l)))→P x hp')→Bv as hp P
theorem uT (A:FL) (i:Nat) (hi:i<A.fs.length):∃ l,bT A i l:=by
 have:∀ (d i:Nat),i<A.fs.length→A.fs.length-1-i≤d→∃ l,bT A i l:=by
  intro d
  induction d with
  | zero=>
   intro i h1 h2
   have:i=A.fs.length-1:=by exact wH h2 h1
   exact⟨[],this▸.top⟩
  | succ d ih=>
   intro i h1 h2
   by_cases e:i=A.fs.length-1
   ·exact⟨[],e▸.top⟩
   ·refine nn fun nG=>?_
    obtain⟨j,p,y,g,a1,a2,a3,a4,_⟩:=A.ok.up i (by exact wJ h1 e)
    obtain⟨l,hl⟩:=ih j (bj a4) (by exact wO h2 a3)
    refine nG ?_;clear nG
    exact⟨l++[p],.step a1 a2 hl⟩
 exact this _ i hi (Nat.le_refl _)
section
variable {C:Cx}
theorem vW (h:HK C):aI C 1 (.ref 239) uS:=by
 refine(vH h).mono fun as hp P hF=>?_
 refine nn fun nG=>?_
 obtain⟨n,a,s,t,rfl,hn,hP⟩:=hF
 refine nG ?_;clear nG
 have nl:=aR hn
 unfold kI
 walk_at "r"
 refine yz [("base",.ref a)] hn ?_
 have S1:=aQ (.inst 277 [("base",.ref a)]) hn
 have k1:∀ (m:Nat) o,hp[m]?=some o→m≠n→(hp.set n (.inst 277 [("base",.ref a)]))[m]?=some o:=fun m o q e=>by rw[aJ _ (Ne.symm e)];exact q
 have l1:(hp.set n (.inst 277 [("base",.ref a)])).length=hp.length:=List.length_set
 generalize hp.set n (.inst 277 [("base",.ref a)])=h1 at S1 k1 l1 ⊢
 walk_at "r"
 refine yz [("base",.ref a),("one",.ref s)] S1 ?_
 have S2:=aQ (.inst 277 [("base",.ref a),("one",.ref s)]) S1
 have k2:∀ (m:Nat) o,hp[m]?=some o→m≠n→(h1.set n (.inst 277 [("base",.ref a),("one",.ref s)]))[m]?=some o:=fun m o q e=>by rw[aJ _ (Ne.symm e)];exact k1 m o q e
 have l2:(h1.set n (.inst 277 [("base",.ref a),("one",.ref s)])).length=hp.length:=by rw[List.length_set];exact l1
 generalize h1.set n (.inst 277 [("base",.ref a),("one",.ref s)])=h2 at S2 k2 l2 ⊢
 walk_at "r"
 refine yz [("base",.ref a),("one",.ref s),("other",.ref t)] S2 ?_
 have S3:=aQ (.inst 277 [("base",.ref a),("one",.ref s),("other",.ref t)]) S2
 have k3:∀ (m:Nat) o,hp[m]?=some o→m≠n→(h2.set n (.inst 277 [("base",.ref a),("one",.ref s),("other",.ref t)]))[m]?=some o:=fun m o q e=>by rw[aJ _ (Ne.symm e)];exact k2 m o q e
 have l3:(h2.set n (.inst 277 [("base",.ref a),("one",.ref s),("other",.ref t)])).length=hp.length:=by rw[List.length_set];exact l2
 generalize h2.set n (.inst 277 [("base",.ref a),("one",.ref s),("other",.ref t)])=h3 at S3 k3 l3 ⊢
 walk_at "r"
 refine⟨sz,?_⟩
 walk_at "r"
 refine yz (vh a s t h3.length) (aB _ S3) ?_
 walk_at "r"
 refine hP h3.length _ (fun m o q e=>?_) (by exact FG l3) (aQ _ (aB _ S3)) ?_
 ·rw[aJ _ (Ne.symm e)];exact aB _ (k3 m o q e)
 ·rw[aJ _ (by exact FH nl l3)];exact aE _ _
theorem zx (h:HK C):aI C 2 (.ref 277) yT:=by
 refine(pE (xh h) (vW h)).mono fun as hp P hF=>?_
 refine nn fun nG=>?_
 obtain⟨a,s,t,rfl,hP⟩:=hF
 refine nG ?_;clear nG
 refine⟨hp.length,a,s,t,rfl,aE _ _,fun r hp' k hr g1 g2=>⟨rfl,hP hp.length r hp' (fun m o q=>k m o (aB _ q) (Nat.ne_of_lt (aR q))) (Nat.le_refl _) (by simp at hr;exact aj hr) g1 g2⟩⟩
theorem dn {A:FL} {S:Sd A} {hp:Hp} {s:Nat} (x:S.At hp s):∃ m pd id,hp[s]?=some (.inst 197 (oX m pd id)):=by
 obtain⟨m,pd,id,_,_,h,_⟩:=x;exact⟨m,pd,id,h⟩
theorem oY {A:FL} {hp:Hp} {s:Nat} (x:ax hp s A):∃ f c s' p l,hp[s]?=some (.inst 80 (rC f c s' p l)):=by
 obtain⟨f,c,s,p,l,_,h,_⟩:=x;exact⟨f,c,s,p,l,h⟩
theorem Cr (h:HK C):aI C 3 (.ref 260) Bv:=by
 refine(mQ h (cu h) (eN h)).mono fun as hp P hF=>?_
 refine nn fun nG=>?_
 obtain⟨n,i,j,s,a,s',t',r,A,S,who,rfl,hn,fa,sa,hpm,hi,hP⟩:=hF
 obtain⟨c,hc⟩:=S.ok.cst_some hpm
 obtain⟨m,pd,id,h1⟩:=dn sa
 obtain⟨f0,c0,s0,p0,l0,h2⟩:=oY fa
 refine nG ?_;clear nG
 unfold fF
 unfold oX at h1
 unfold vh at hn
 unfold rC at h2
 walk_at "r"
 refine jv (h1) ?_
 walk_at "r"
 refine⟨s,i,j,A,S.B,S.l,S.pm,S.ins,c,rfl,sa,hpm,S.ok.cost.1,hc,?_⟩
 walk_at "r"
 unfold iG at hP
 rw[hc] at hP
 simp only[Option.getD_some] at hP
 by_cases hz:0<c
 ·rw[decide_eq_true hz]
  simp only[if_pos hz] at hP
  walk_at "r"
  refine⟨sz,?_⟩
  walk_at "r"
  have hn1:=aB [aC.list [(S.B.at j).av]] hn
  have h21:=aB [aC.list [(S.B.at j).av]] h2
  refine at_ (hn1) ?_
  walk_at "r"
  refine jv (h21) ?_
  walk_at "r"
  refine⟨a,A,i,rfl,fa.keep (Kp.app _ _),hi,fun l hp' pt k=>⟨sz,sz,sz,?_⟩⟩
  have k':=(Kp.app hp [aC.list [(S.B.at j).av]]).trans k
  have q:=k _ _ (aE hp (aC.list [(S.B.at j).av]))
  have:=k'.len
  exact hP _ l _ (k'.trans (Kp.app _ _)) pt ⟨hp.length,hp'.length,rfl,Nat.le_refl _,this,aB _ q,aE _ _⟩
 ·rw[decide_eq_false hz]
  simp only[if_neg hz] at hP
  walk_at "r"
  obtain⟨l,pt⟩:∃ l,bT A i l:=uT A i hi
  refine⟨sz,?_⟩
  walk_at "r"
  refine⟨sz,?_⟩
  walk_at "r"
  refine⟨sz,?_⟩
  walk_at "r"
  refine hP _ l _ ((Kp.app _ _).trans (Kp.app _ _)) pt ⟨hp.length,hp.length+1,rfl,Nat.le_refl _,Nat.le_succ _,aB _ (aE _ _),by simp[List.getElem?_append_right]⟩
end
inductive oZ (as:List AV) (hp:Hp) (P:AV→Hp→Prop):Prop
 | mk (n i k:Nat) (A:FL) (S T:Sd A) (rows:RW) (path:AV):as=[.ref n,.int i,path]→sy hp n S T rows k→S.Sm→T.Sm→i<A.fs.length→(A.row i).length≤12→(∀ (p c:Nat),(A.row i)[p]?=some c→c<k∧(rows c).1.length≤1∧(rows c).2.length≤1000)→(∀ r q hp',Kp hp hp'→hp.length≤r→hp.length≤q→hp'[r]?=some (.list (fM S T rows (A.row i) i path ((A.row i).length+1)).1)→hp'[q]?=some (.list (fM S T rows (A.row i) i path ((A.row i).length+1)).2)→P (.tup [.ref r,.ref q]) hp')→oZ as hp P
theorem rL {a b:List AV} {path:AV} {p:Nat} (ha:a.length≤40) (hb:b.length≤40):(dJ a b path p).1.length≤80∧(dJ a b path p).2.length≤1:=by
 unfold dJ
 split
 ·exact⟨by simp only;exact Av ha,by simp⟩
 ·split
  ·exact⟨by simp only;exact Av hb,by simp⟩
  ·exact⟨by simp;exact FI ha hb,by simp⟩
theorem p8 {A:FL} {S T:Sd A} {rows:RW} {ou:List Nat} {i:Nat} {path:AV} (hS:S.Sm) (hT:T.Sm) (hr:∀ (p c:Nat),ou[p]?=some c→(rows c).1.length≤1∧(rows c).2.length≤1000):∀ p,(fM S T rows ou i path p).1.length≤81 * p∧(fM S T rows ou i path p).2.length≤1001 * p
 | 0=>by simp[fM]
 | p+1=>by
  refine nn fun nG=>?_
  obtain⟨i1,i2⟩:=p8 (i:=i) (path:=path) hS hT hr p
  obtain⟨m1,m2⟩:=rL (path:=path) (p:=p) (hS.len i p) (hT.len i p)
  refine nG ?_;clear nG
  unfold fM
  by_cases e:p<ou.length
  ·have:=hr p (ou.getD p 0) (by rw[List.getD_eq_getElem?_getD,gE e];rfl)
   simp only[if_pos e,List.length_append]
   exact FJ this i1 m1 i2 m2
  ·simp only[if_neg e,List.length_append,List.length_nil]
   exact FK i1 m1 i2 m2
section
variable {C:Cx}
theorem dp (h:HK C):aI C 2 (.ref 274) oZ:=by
 refine(s8 h (bH h) (fJ h)).mono fun as hp P hF=>?_
 refine nn fun nG=>?_
 obtain⟨n,i,k,A,S,T,rows,path,rfl,mg,hS,hT,hi,hz,hr,hP⟩:=hF
 obtain⟨a,s,t,r,rl,m1,fa,sa,ta,m5,m6,m7⟩:=iq mg
 obtain⟨f0,c0,s0,p0,l0,cs,h2,g2,g3,g4,g5,g6⟩:=iq fa
 obtain⟨ms,pds,ids,hs1⟩:=dn sa
 obtain⟨mt,pdt,idt,ht1⟩:=dn ta
 refine nG ?_;clear nG
 have hrow:=FL.row_ok hi
 have hci:i<cs.length:=by rw[g4,A.ok.l3];exact hi
 have hk:=gE hci
 generalize cs[i]=kr at hk
 have hl:=g5 i kr _ hk hrow
 unfold jF
 unfold vh at m1
 unfold rC at h2
 unfold oX at hs1 ht1
 walk_at "r"
 refine⟨sz,?_⟩
 walk_at "r"
 refine⟨sz,?_⟩
 walk_at "r"
 refine⟨sz,?_⟩
 walk_at "r"
 have k1:=(Kp.app hp [aC.list []]).trans (Kp.app _ [aC.list []])
 have e1:(hp++[aC.list []]++[aC.list []])[hp.length]?=some (.list []):=aB _ (aE _ _)
 have e2:(hp++[aC.list []]++[aC.list []])[hp.length+1]?=some (.list []):=by simp[List.getElem?_append_right]
 generalize hp++[aC.list []]++[aC.list []]=h1 at k1 e1 e2 ⊢
 refine at_ (k1 _ _ m1) ?_
 walk_at "r"
 refine at_ (k1 _ _ h2) ?_
 walk_at "r"
 have iN:=A.le
 refine aD (k1 _ _ g3) (x:=.ref kr) (by rw[List.getElem?_map,hk];rfl) (by exact c9 iN hi) ?_
 walk_at "r"
 refine bX (k1 _ _ hl) (by simp[aM];exact FM hz) ?_
 walk_at "r"
 have nl:(aM (A.row i)).length=(A.row i).length:=by unfold aM;exact List.length_map ..
 have cast:((aM (A.row i)).length:Int)+1=(((A.row i).length+1:Nat):Int):=by rw[nl];rfl
 rw[cast]
 refine⟨_,aO (by exact wP hz),?_⟩
 walk_at "r"
 refine bB _ (fun p loc hp'=>∃ c1 c2 c3 f c,loc=[("self",some (AV.ref n)),("i",some (AV.int i)),("path",some path),("found",some (AV.ref f)),("clashes",some (AV.ref c)),("numbers",some (AV.ref kr)),("place",c1),("forms",c2),("more",c3)]∧Kp hp hp'∧hp.length≤f∧hp.length≤c∧
   hp'[f]?=some (.list (fM S T rows (A.row i) i path p).1)∧hp'[c]?=some (.list (fM S T rows (A.row i) i path p).2)) ⟨_,_,_,_,_,rfl,k1,Nat.le_refl _,Nat.le_succ _,e1,e2⟩ ?_ ?_
 ·intro p x loc hp' K hx hI
  refine nn fun nG=>?_
  obtain⟨c1,c2,c3,f,c,rfl,kp,fl,cl,hf,hc⟩:=hI
  refine nG ?_;clear nG
  intro hK
  rw[List.getElem?_map] at hx
  refine nn fun nG=>?_
  obtain⟨p',hpx,rfl⟩:=Option.map_eq_some_iff.mp hx
  obtain⟨hpl,e⟩:=List.getElem?_eq_some_iff.mp hpx
  refine nG ?_;clear nG
  rw[List.length_range] at hpl
  rw[List.getElem_range] at e
  subst e
  obtain⟨L1,L2⟩:=p8 (S:=S) (T:=T) (rows:=rows) (ou:=A.row i) (i:=i) (path:=path) hS hT (fun p c hc=>(hr p c hc).2) p
  have M:=rL (path:=path) (p:=p) (hS.len i p) (hT.len i p)
  walk_at "r"
  refine at_ (kp _ _ m1) ?_
  walk_at "r"
  refine jv (kp _ _ hs1) ?_
  walk_at "r"
  refine⟨s,i,p,A,S.B,S.l,S.pm,S.ins,rfl,cV.keep sa kp,fun r1 h2 k2 q1=>?_⟩
  have kp2:=kp.trans k2
  refine at_ (kp2 _ _ m1) ?_
  walk_at "r"
  refine jv (kp2 _ _ ht1) ?_
  walk_at "r"
  refine⟨t,i,p,A,T.B,T.l,T.pm,T.ins,rfl,cV.keep ta kp2,fun r2 h3 k3 q2=>?_⟩
  have kp3:=kp2.trans k3
  refine⟨r1,r2,_,_,path,p,rfl,k3 _ _ q1,q2,hS.ok i p,hT.ok i p,by have:=hS.len i p;exact Aw this,by have:=hT.len i p;exact Aw this,fun u1 u2 h4 k4 v1 v2=>?_⟩
  have kp4:=kp3.trans k4
  walk_at "r"
  have f4:=k4 _ _ (k3 _ _ (k2 _ _ hf))
  have c4:=k4 _ _ (k3 _ _ (k2 _ _ hc))
  refine gh (f4) (v1) rfl (sz (by rw[List.length_append];exact FN M L1 hpl hz)) ?_
  walk_at "r"
  refine gh (aB _ c4) (aB _ v2) rfl (sz (by rw[List.length_append];exact FO M L2 hpl hz)) ?_
  walk_at "r"
  refine⟨sz,?_⟩
  walk_at "r"
  have k5:=(Kp.app h4 [aC.list ((fM S T rows (A.row i) i path p).1++(dJ (S.ins i p) (T.ins i p) path p).1)]).trans (Kp.app _ [aC.list ((fM S T rows (A.row i) i path p).2++(dJ (S.ins i p) (T.ins i p) path p).2)])
  have w1:=aB [aC.list ((fM S T rows (A.row i) i path p).2++(dJ (S.ins i p) (T.ins i p) path p).2)] (aE h4 (.list ((fM S T rows (A.row i) i path p).1++(dJ (S.ins i p) (T.ins i p) path p).1)))
  have w2:(h4++[aC.list ((fM S T rows (A.row i) i path p).1++(dJ (S.ins i p) (T.ins i p) path p).1)]++[aC.list ((fM S T rows (A.row i) i path p).2++(dJ (S.ins i p) (T.ins i p) path p).2)])[h4.length+1]?=some (.list ((fM S T rows (A.row i) i path p).2++(dJ (S.ins i p) (T.ins i p) path p).2)):=by simp[List.getElem?_append_right]
  have kp5:=kp4.trans k5
  have lo:=kp4.len
  generalize h4++[aC.list ((fM S T rows (A.row i) i path p).1++(dJ (S.ins i p) (T.ins i p) path p).1)]++[aC.list ((fM S T rows (A.row i) i path p).2++(dJ (S.ins i p) (T.ins i p) path p).2)]=h5 at kp5 w1 w2 ⊢
  generalize h4.length=nf at w1 w2 lo ⊢
  clear k5
  refine bX (kp5 _ _ hl) (by exact FP cast hz) ?_
  walk_at "r"
  rw[nl]
  walk_at "r"
  have step:fM S T rows (A.row i) i path (p+1)=((fM S T rows (A.row i) i path p).1++(dJ (S.ins i p) (T.ins i p) path p).1++(if p<(A.row i).length then (rows ((A.row i).getD p 0)).1 else []),(fM S T rows (A.row i) i path p).2++(dJ (S.ins i p) (T.ins i p) path p).2++(if p<(A.row i).length then (rows ((A.row i).getD p 0)).2 else [])):=rfl
  by_cases hlt:p<(A.row i).length
  ·rw[decide_eq_true (show(p:Int)<((A.row i).length:Int) by exact CM hlt)]
   walk_at "r"
   refine at_ (kp5 _ _ m1) ?_
   walk_at "r"
   have ep:(A.row i)[p]?=some ((A.row i).getD p 0):=by rw[List.getD_eq_getElem?_getD,gE hlt];rfl
   refine aD (kp5 _ _ hl) (x:=.int ((A.row i).getD p 0:Nat)) (by unfold aM;rw[List.getElem?_map,ep];rfl) (by exact FQ hlt hz) ?_
   walk_at "r"
   generalize (A.row i).getD p 0=cc at ep step ⊢
   refine nn fun nG=>?_
   obtain⟨hck,b1,b2⟩:=hr p cc ep
   obtain⟨x,x1,u,v,rfl,_,_,x2,x3⟩:=m7 cc hck
   refine nG ?_;clear nG
   have ck:cc<A.fs.length:=FL.row_lt hrow p cc ep
   refine aD (kp5 _ _ m5) x1 (by exact c9 iN ck) ?_
   walk_at "r"
   refine gh (w1) (kp5 _ _ x2) rfl (sz (by simp;exact FS M L1 b1 hlt hz)) ?_
   walk_at "r"
   refine gh (aB _ w2) (aB _ (kp5 _ _ x3)) rfl (sz (by simp;exact FT M L2 b2 hpl hz)) ?_
   walk_at "r"
   refine⟨sz,?_⟩
   walk_at "r"
   refine⟨⟨aO (by exact wP hz),rfl⟩,?_⟩
   walk_at "r"
   refine hK _ _ ⟨_,_,_,h5.length,h5.length+1,rfl,(kp5.trans (Kp.app _ _)).trans (Kp.app _ _),kp5.len,Nat.le_succ_of_le kp5.len,?_,?_⟩
   ·rw[step,if_pos hlt,if_pos hlt];exact aB _ (aE _ _)
   ·rw[step,if_pos hlt,if_pos hlt];simp[List.getElem?_append_right]
  ·rw[decide_eq_false (show ¬ (p:Int)<((A.row i).length:Int) by exact FU hlt)]
   walk_at "r"
   refine⟨⟨aO (by exact wP hz),rfl⟩,?_⟩
   walk_at "r"
   refine hK _ _ ⟨_,_,_,nf,nf+1,rfl,kp5,lo,Nat.le_succ_of_le lo,?_,?_⟩
   ·rw[step];simp only[if_neg hlt,List.append_nil];exact w1
   ·rw[step];simp only[if_neg hlt,List.append_nil];exact w2
 ·intro loc hp' hI
  refine nn fun nG=>?_
  obtain⟨c1,c2,c3,f,c,rfl,kp,fl,cl,hf,hc⟩:=hI
  refine nG ?_;clear nG
  rw[List.length_map,List.length_range] at hf hc
  walk_at "r"
  refine⟨sz,?_⟩
  walk_at "r"
  exact hP f c hp' kp fl cl hf hc
end
structure Im (b o t:Fm):Prop where
 ok1:b.av.ok 36=true
 ok2:o.av.ok 36=true
 ok3:t.av.ok 36=true
 nd1:(b.at_.map (·.1)).Nodup
 nd2:(o.at_.map (·.1)).Nodup
 nd3:(t.at_.map (·.1)).Nodup
 z1:b.at_.length≤100
 z2:o.at_.length≤100
 z3:t.at_.length≤100
 un:(bC b o t).length≤2
noncomputable def kR (l:List AV):Prop:=∀ (i:Nat) x,l[i]?=some x→∃ k v,mZ x k v∧PyData.strOk k=true∧(k=tx→i=0∧∃ s,v=.str s∧PyData.strOk s=true∧s≠Str.ofString "")
noncomputable def tA {A:FL} (rows:RW) (i:Nat) (k:Nat):Prop:=(A.row i).length≤11∧(∀ (p c:Nat),(A.row i)[p]?=some c→c<k∧(rows c).1.length≤1∧(rows c).2.length≤1000)
inductive Bw (as:List AV) (hp:Hp) (P:AV→Hp→Prop):Prop
 | mk (n i k:Nat) (A:FL) (S T:Sd A) (rows:RW) (o t:Fm):as=[.ref n,.int i,o.av,t.av]→sy hp n S T rows k→S.Sm→T.Sm→i<A.fs.length→tA (A:=A) rows i k→Im (A.at i) o t→(∀ l,bT A i l→kR (fM S T rows (A.row i) i (.tup (aM l)) ((A.row i).length+1)).1)→(∀ x l hp',Kp hp hp'→bT A i l→eX hp.length hp' x (rK (A.at i) o t (.tup (aM l)) (fM S T rows (A.row i) i (.tup (aM l)) ((A.row i).length+1)))→P x hp')→Bw as hp P
theorem rM (b o t:Fm) (path:AV):(gw b o t path).2.length≤1:=by
 unfold gw;split
 ·simp
 ·split <;> simp
theorem rN {b o t:Fm} (h:Im b o t) (path:AV):(jq b o t path (aY (bC b o t))).length≤2:=by
 refine Nat.le_trans (List.length_filterMap_le _ _) ?_
 rw[gC];exact h.un
theorem lY (hp:Hp) (a b:aC):(hp++[a]++[b])[hp.length+1]?=some b:=by simp[List.getElem?_append_right]
section
variable {C:Cx}
theorem Cs (h:HK C):aI C 3 (.ref 267) Bw:=by
 refine(qx h (eN h) (cG h) (bI h) (dp h) (fz h)).mono fun as hp P hF=>?_
 obtain⟨n,i,k,A,S,T,rows,o,t,rfl,mg,hS,hT,hi,⟨hz,hr⟩,tri,jo,hP⟩:=hF
 obtain⟨a,s,t',r,rl,m1,fa,sa,ta,m5,m6,m7⟩:=iq mg
 obtain⟨f0,c0,s0,p0,l0,cs,h2,g2,g3,g4,g5,g6⟩:=iq fa
 have iN:=A.le
 unfold hY
 unfold vh at m1
 unfold rC at h2
 walk_at "r"
 refine at_ (m1) ?_
 walk_at "r"
 refine at_ (h2) ?_
 walk_at "r"
 refine aD g2 (x:=(A.at i).av) (by rw[List.getElem?_map,FL.at_ok hi];rfl) (by exact c9 iN hi) ?_
 walk_at "r"
 refine at_ (m1) ?_
 walk_at "r"
 refine jv (h2) ?_
 walk_at "r"
 refine⟨a,A,i,rfl,fa,hi,fun l h1 pt k1=>?_⟩
 refine⟨sz,?_⟩
 walk_at "r"
 refine⟨A.at i,o,t,.tup (aM l),rfl,tri.ok1,tri.ok2,tri.ok3,fun r1 h2 k2 q1=>?_⟩
 walk_at "r"
 refine⟨A.at i,o,t,.tup (aM l),rfl,tri.ok1,tri.ok2,tri.ok3,tri.nd1,tri.nd2,tri.nd3,tri.z1,tri.z2,tri.z3,tri.un,fun r2 h3 k3 q2=>?_⟩
 walk_at "r"
 have kp3:=(k1.trans k2).trans k3
 refine jv (kp3 _ _ m1) ?_
 walk_at "r"
 refine⟨n,i,k,A,S,T,rows,_,rfl,mg.keep kp3,hS,hT,hi,by exact FV hz,hr,fun r3 r4 h4 k4 _ _ q3 q4=>?_⟩
 walk_at "r"
 refine Kd ?_
 refine Ke ?_
 obtain⟨L1,L2⟩:=p8 (S:=S) (T:=T) (rows:=rows) (ou:=A.row i) (i:=i) (path:=.tup (aM l)) hS hT (fun p c hc=>(hr p c hc).2) ((A.row i).length+1)
 have V1:=rM (A.at i) o t (.tup (aM l))
 have V2:=rN tri (.tup (aM l))
 refine⟨r3,_,rfl,q3,by exact FW L1 hz,jo l pt,fun r5 h5 k5 _ q5=>?_⟩
 refine Bj q5 (sz (Nat.le_trans L1 (Nat.le_trans (Nat.mul_le_mul_left 81 (Nat.succ_le_succ hz)) (by decide)))) ?_
 walk_at "r"
 refine⟨sz,?_⟩
 walk_at "r"
 refine⟨sz,?_⟩
 walk_at "r"
 have kp5:=(kp3.trans k4).trans k5
 have x1:=k5 _ _ (k4 _ _ (k3 _ _ q1))
 have x2:=k5 _ _ (k4 _ _ q2)
 have x4:=k5 _ _ q4
 refine gh (aB _ x1) (aB _ x2) rfl (sz (by rw[List.length_append];exact FX V1 V2)) ?_
 walk_at "r"
 rw[show h5.length+1=(h5++[aC.list [AV.tup [AV.str (A.at i).k,(A.at i).lb,AV.str (gw (A.at i) o t (AV.tup (aM l))).1,AV.tup (jp (A.at i) o t (aY (bC (A.at i) o t))),AV.tup (fM S T rows (A.row i) i (.tup (aM l)) ((A.row i).length+1)).1]]]).length by simp]
 refine gh (aE _ _) (aB _ (aB _ x4)) rfl (sz (by simp;exact FY V1 V2 L2 hz)) ?_
 walk_at "r"
 refine⟨sz,?_⟩
 walk_at "r"
 refine hP _ l _ (((kp5.trans (Kp.app _ _)).trans (Kp.app _ _)).trans (Kp.app _ _)) pt ⟨h5.length,_,rfl,kp5.len,?_,aB _ (aB _ (aE _ _)),?_⟩
 ·have:=kp5.len;simp;exact FZ this
 ·exact rA (by simp)
end
theorem FL.kid {F:FL} {i p c:Nat} (hi:i<F.fs.length) (h:(F.row i)[p]?=some c):c<i∧(F.at i).kids[p]?=some (F.at c)∧F.pr[c]?=some (some i)∧F.pl[c]?=some p∧c<F.fs.length:=by
 have hr:=FL.row_ok hi
 obtain⟨a1,a2⟩:=F.ok.at' i _ p c hr h
 have cl:=FL.row_lt hr p c h
 have ct:c<F.fs.length-1:=by
  rcases Nat.lt_or_ge c (F.fs.length-1) with e | e
  ·exact e
  ·have:c=F.fs.length-1:=by exact F8 cl e
   rw[this,F.ok.topp] at a1;cases a1
 refine nn fun nG=>?_
 obtain⟨j,q,y,g,b1,b2,b3,b4,b5,b6⟩:=F.ok.up c ct
 refine nG ?_;clear nG
 rw[a1] at b1;injection b1 with b1;injection b1 with b1
 rw[a2] at b2;injection b2 with b2
 subst b1 b2
 rw[FL.at_ok hi] at b4;injection b4 with b4
 rw[FL.at_ok cl] at b5;injection b5 with b5
 subst b4 b5
 exact⟨b3,b6,a1,a2,cl⟩
theorem FL.row_len' {F:FL} {i:Nat} (hi:i<F.fs.length):(F.row i).length=(F.at i).kids.length:=F.ok.row i _ _ (FL.at_ok hi) (FL.row_ok hi)
inductive df {A:FL} (S T:Sd A) (rows:RW) (c:Nat):Prop
 | mk (l):bT A c l→rows c=da S T rows c (.tup (aM l))→df S T rows c
theorem o0 {A:FL} {S T:Sd A} {rows rows':RW} {ou:List Nat} {i:Nat} {path:AV} (h:∀ (p c:Nat),ou[p]?=some c→rows c=rows' c):∀ p,fM S T rows ou i path p=fM S T rows' ou i path p
 | 0=>rfl
 | p+1=>by
  unfold fM
  rw[o0 h p]
  by_cases e:p<ou.length
  ·rw[if_pos e,if_pos e,if_pos e,if_pos e,h p (ou.getD p 0) (by rw[List.getD_eq_getElem?_getD,gE e];rfl)]
  ·rw[if_neg e,if_neg e,if_neg e,if_neg e]
theorem tC {A:FL} {S T:Sd A} {rows rows':RW} {i:Nat} {path:AV} (h:∀ (p c:Nat),(A.row i)[p]?=some c→rows c=rows' c):da S T rows i path=da S T rows' i path:=by
 unfold da
 rw[o0 h]
noncomputable def MJ {A:FL} (S T:Sd A):Prop:=∀ rows i j j',i<A.fs.length→(∀ c<i,df S T rows c)→S.pm i=some j→T.pm i=some j'→Im (A.at i) (S.B.at j) (T.B.at j')∧∀ l,bT A i l→kR (fM S T rows (A.row i) i (.tup (aM l)) ((A.row i).length+1)).1
theorem o5 {A:FL} (S:Sd A) (i j:Nat) (who:Int) (path:AV):(iG S i j who path).1.length≤1∧(iG S i j who path).2.length≤1:=by
 unfold iG;split <;> simp
theorem uU {A:FL} {S T:Sd A} {rows:RW} {i:Nat} {path:AV} (hi:i<A.fs.length) (hr:∀ (p c:Nat),(A.row i)[p]?=some c→(rows c).2.length≤40 * (A.at c).size):∀ p,(fM S T rows (A.row i) i path p).2.length≤p+40 * Fm.sizes ((A.at i).kids.take p)
 | 0=>by simp[fM]
 | p+1=>by
  have ih:=uU (S:=S) (T:=T) (path:=path) hi hr p
  have m2:(dJ (S.ins i p) (T.ins i p) path p).2.length≤1:=by
   unfold dJ;split
   ·simp
   ·split <;> simp
  unfold fM
  by_cases e:p<(A.row i).length
  ·have hp:(A.row i)[p]?=some ((A.row i).getD p 0):=by rw[List.getD_eq_getElem?_getD,gE e];rfl
   have q:=hr p _ hp
   have k:=(FL.kid hi hp).2.1
   rw[List.take_add_one,k]
   simp only[if_pos e,List.length_append,Option.toList_some,Fm.sizes_append,Fm.sizes]
   exact F9 ih m2 q
  ·rw[List.take_add_one,List.getElem?_eq_none (by rw[← FL.row_len' hi];exact qE e)]
   simp only[if_neg e,List.length_append,List.length_nil,Option.toList_none,List.append_nil]
   exact Fa ih m2
theorem zy {A:FL} {S T:Sd A} {rows:RW} (hA:A.root.size≤12) (J:MJ S T) {k:Nat} (hk:k≤A.fs.length) (h:∀ c<k,df S T rows c):∀ c<k,(rows c).1.length≤1∧(rows c).2.length≤40 * (A.at c).size:=by
 intro c
 induction c using Nat.strongRecOn with
 | ind c ih=>
  intro hc
  refine nn fun nG=>?_
  obtain⟨l,pt,e⟩:=h c hc
  refine nG ?_;clear nG
  have hcN:c<A.fs.length:=by exact tY hc hk
  have sp:=(A.at c).size_pos
  rw[e]
  unfold da
  cases e1:S.pm c with
  | none=>
   cases e2:T.pm c with
   | none=>simp
   | some j=>
    have:=o5 T c j 1 (.tup (aM l))
    simp only
    exact Ax this sp
  | some j=>
   cases e2:T.pm c with
   | none=>
    have:=o5 S c j 2 (.tup (aM l))
    simp only
    exact Ax this sp
   | some j'=>
    obtain⟨tri,_⟩:=J rows c j j' hcN (fun d hd=>h d (by exact wT hd hc)) e1 e2
    have m1:=rM (A.at c) (S.B.at j) (T.B.at j') (.tup (aM l))
    have m2:=rN tri (.tup (aM l))
    have m3:=uU (S:=S) (T:=T) (rows:=rows) (path:=.tup (aM l)) hcN (fun p d hd=>(ih d (FL.kid hcN hd).1 (by have:=(FL.kid hcN hd).1;exact wT this hc)).2) ((A.row c).length+1)
    rw[FL.row_len' hcN,List.take_of_length_le (by exact jS)] at m3
    have m4:=Fm.kids_len (A.at c)
    have m5:=A.ok.sub _ (FL.at_mem hcN)
    have m6:=(A.at c).size_eq
    simp only[rK,List.length_append,List.length_cons,List.length_nil]
    rw[FL.row_len' hcN]
    exact Fb hA m1 m2 m3 m4 m5 m6
theorem rO {A:FL} {S T:Sd A} {rows:RW} (hA:A.root.size≤12) (J:MJ S T) {i:Nat} (hi:i<A.fs.length) (h:∀ c<i,df S T rows c):tA (A:=A) rows i i:=by
 have m5:=A.ok.sub _ (FL.at_mem hi)
 have m6:=(A.at i).size_eq
 have m7:=Fm.len_sizes (A.at i).kids
 refine⟨by rw[FL.row_len' hi];exact Fc m7 m6 m5 hA,fun p c hc=>?_⟩
 refine nn fun nG=>?_
 obtain⟨a1,a2,_⟩:=FL.kid hi hc
 obtain⟨b1,b2⟩:=zy hA J (Nat.le_of_lt hi) h c a1
 refine nG ?_;clear nG
 have m8:=Fm.mem_sizes a2
 exact⟨a1,b1,by exact Fd b2 m8 m6 m5 hA⟩
inductive rP (as:List AV) (hp:Hp) (P:AV→Hp→Prop):Prop
 | mk (n i:Nat) (A:FL) (S T:Sd A) (rows:RW):as=[.ref n,.int i]→sy hp n S T rows i→S.Sm→T.Sm→i<A.fs.length→tA (A:=A) rows i i→(∀ j j',S.pm i=some j→T.pm i=some j'→Im (A.at i) (S.B.at j) (T.B.at j')∧∀ l,bT A i l→kR (fM S T rows (A.row i) i (.tup (aM l)) ((A.row i).length+1)).1)→(∀ x l hp',Kp hp hp'→bT A i l→eX hp.length hp' x (da S T rows i (.tup (aM l)))→P x hp')→rP as hp P
section
variable {C:Cx}
theorem eh (h:HK C):aI C 4 (.ref 253) rP:=by
 refine(vI h (d9 h) (Cr h) (Cs h)).mono fun as hp P hF=>?_
 refine nn fun nG=>?_
 obtain⟨n,i,A,S,T,rows,rfl,mg,hS,hT,hi,hr,J,hP⟩:=hF
 obtain⟨a,s,t,r,rl,m1,fa,sa,ta,m5,m6,m7⟩:=iq mg
 obtain⟨ms,pds,ids,hs1⟩:=dn sa
 obtain⟨mt,pdt,idt,ht1⟩:=dn ta
 refine nG ?_;clear nG
 unfold kJ
 unfold vh at m1
 unfold oX at hs1 ht1
 walk_at "r"
 refine at_ (m1) ?_
 walk_at "r"
 refine jv (hs1) ?_
 walk_at "r"
 refine⟨s,i,A,S.B,S.l,S.pm,S.ins,rfl,sa,fun j e=>(S.ok.lt i j e).2,fun e1=>?_,fun j g e1 hg=>?_⟩
 ·walk_at "r"
  first | refine at_ m1 ?_ | refine jv m1 ?_
  walk_at "r"
  refine jv (ht1) ?_
  walk_at "r"
  refine⟨t,i,A,T.B,T.l,T.pm,T.ins,rfl,ta,fun j e=>(T.ok.lt i j e).2,fun e2=>?_,fun j' g' e2 hg'=>?_⟩
  ·walk_at "r"
   obtain⟨l,pt⟩:=uT A i hi
   refine⟨sz,?_⟩
   walk_at "r"
   refine⟨sz,?_⟩
   walk_at "r"
   refine⟨sz,?_⟩
   walk_at "r"
   refine⟨sz,?_⟩
   walk_at "r"
   refine hP _ l _ ((Kp.app _ _).trans (Kp.app _ _)) pt ⟨hp.length,hp.length+1,rfl,Nat.le_refl _,Nat.le_succ _,?_,?_⟩
   ·unfold da;rw[e1,e2];exact aB _ (aE _ _)
   ·unfold da;rw[e1,e2];exact lY _ _ _
  ·rw[g'.av_eq]
   walk_at "r"
   refine⟨sz,?_⟩
   walk_at "r"
   first | refine at_ m1 ?_ | refine jv m1 ?_
   walk_at "r"
   refine at_ m1 ?_
   walk_at "r"
   rw[← g'.av_eq]
   have gg:g'=T.B.at j':=by rw[FL.at_ok (T.ok.lt i j' e2).2] at hg';injection hg' with hg';exact hg'.symm
   subst gg
   refine⟨n,i,j',t,a,s,t,r,A,T,1,rfl,m1,fa,ta,e2,hi,fun x l hp' k pt ra=>?_⟩
   refine hP x l hp' k pt ?_
   unfold da;rw[e1,e2];exact ra
 ·have gg:g=S.B.at j:=by rw[FL.at_ok (S.ok.lt i j e1).2] at hg;injection hg with hg;exact hg.symm
  subst gg
  refine at_ (m1) ?_
  walk_at "r"
  refine jv (ht1) ?_
  walk_at "r"
  refine⟨t,i,A,T.B,T.l,T.pm,T.ins,rfl,ta,fun j e=>(T.ok.lt i j e).2,fun e2=>?_,fun j' g' e2 hg'=>?_⟩
  ·rw[(S.B.at j).av_eq]
   walk_at "r"
   refine⟨sz,?_⟩
   walk_at "r"
   first | refine at_ m1 ?_ | refine jv m1 ?_
   walk_at "r"
   refine at_ m1 ?_
   walk_at "r"
   rw[← (S.B.at j).av_eq]
   refine⟨n,i,j,s,a,s,t,r,A,S,2,rfl,m1,fa,sa,e1,hi,fun x l hp' k pt ra=>?_⟩
   refine hP x l hp' k pt ?_
   unfold da;rw[e1,e2];exact ra
  ·have gg:g'=T.B.at j':=by rw[FL.at_ok (T.ok.lt i j' e2).2] at hg';injection hg' with hg';exact hg'.symm
   subst gg
   obtain⟨tri,jo⟩:=J j j' e1 e2
   rw[(S.B.at j).av_eq,(T.B.at j').av_eq]
   walk_at "r"
   refine⟨sz,?_⟩
   walk_at "r"
   first | refine at_ m1 ?_ | refine jv m1 ?_
   walk_at "r"
   rw[← (S.B.at j).av_eq,← (T.B.at j').av_eq]
   refine⟨n,i,i,A,S,T,rows,S.B.at j,T.B.at j',rfl,mg,hS,hT,hi,hr,tri,jo,fun x l hp' k pt ra=>?_⟩
   refine hP x l hp' k pt ?_
   unfold da;rw[e1,e2];exact ra
end
inductive Io (as:List AV) (hp:Hp) (P:AV→Hp→Prop):Prop
 | mk (n a s t r:Nat) (A:FL) (S T:Sd A):as=[.ref n]→hp[n]?=some (.inst 277 (vh a s t r))→hp[r]?=some (.list [])→(∀ hp',(∀ (m:Nat) o,hp[m]?=some o→m≠r→hp'[m]?=some o)→ax hp' a A∧S.At hp' s∧T.At hp' t)→S.Sm→T.Sm→A.root.size≤12→MJ S T→(∀ rows x hp',(∀ i<A.fs.length,df S T rows i)→eX 0 hp' x (rows (A.fs.length-1))→(∀ (m:Nat) o,hp[m]?=some o→m≠r→hp'[m]?=some o)→P x hp')→Io as hp P
section
variable {C:Cx}
theorem o6 (h:HK C):aI C 5 (.ref 246) Io:=by
 refine(Ib h (eh h)).mono fun as hp P hF=>?_
 refine nn fun nG=>?_
 obtain⟨n,a,s,t,r,A,S,T,rfl,m1,m2,kf,hS,hT,hA,J,hP⟩:=hF
 refine nG ?_;clear nG
 have iN:=A.le
 refine nn fun nG=>?_
 obtain⟨fa0,sa0,ta0⟩:=kf hp fun _ _ q _=>q
 obtain⟨f0,c0,s0,p0,l0,cs,h2,g2,_⟩:=iq fa0
 refine nG ?_;clear nG
 have nr:n≠r:=fun e=>by rw[e,m2] at m1;cases m1
 have ar:a≠r:=fun e=>by rw[e,m2] at h2;cases h2
 have rl:=aR m2
 unfold xr
 unfold vh at m1
 unfold rC at h2
 walk_at "r"
 refine at_ (m1) ?_
 walk_at "r"
 refine at_ (h2) ?_
 walk_at "r"
 refine bX g2 (by simp;exact fR iN) ?_
 walk_at "r"
 rw[show((List.map Fm.av A.fs).length:Int)=(A.fs.length:Nat) by simp]
 refine⟨_,aO (by exact fR iN),?_⟩
 walk_at "r"
 refine bB _ (fun i loc hp'=>∃ c1 rl rows,loc=[("self",some (AV.ref n)),("i",c1)]∧(∀ (m:Nat) o,hp[m]?=some o→m≠r→hp'[m]?=some o)∧hp'[r]?=some (.list rl)∧rl.length=i∧(∀ c<i,df S T rows c)∧∀ c<i,∃ x,rl[c]?=some x∧eX (r+1) hp' x (rows c)) ⟨_,[],fun _=>([],[]),rfl,fun _ _ q _=>q,m2,rfl,(fun c hc=>absurd hc (Nat.not_lt_zero _)),fun c hc=>absurd hc (Nat.not_lt_zero _)⟩ ?_ ?_
 ·intro i x loc hp' K hx hI
  refine nn fun nG=>?_
  obtain⟨c1,rl,rows,rfl,kp,hr,hl,ri,ra⟩:=hI
  refine nG ?_;clear nG
  intro hK
  rw[List.getElem?_map] at hx
  refine nn fun nG=>?_
  obtain⟨i',hpx,rfl⟩:=Option.map_eq_some_iff.mp hx
  obtain⟨hpl,e⟩:=List.getElem?_eq_some_iff.mp hpx
  refine nG ?_;clear nG
  rw[List.length_range] at hpl
  rw[List.getElem_range] at e
  subst e
  refine nn fun nG=>?_
  obtain⟨fa,sa,ta⟩:=kf hp' kp
  refine nG ?_;clear nG
  have m1':=kp _ _ m1 nr
  have rl':=aR hr
  walk_at "r"
  refine at_ (m1') ?_
  walk_at "r"
  refine⟨⟨_,_,rfl,hr,rfl⟩,?_⟩
  walk_at "r"
  refine jv m1' ?_
  walk_at "r"
  refine⟨n,i,A,S,T,rows,rfl,⟨a,s,t,r,rl,m1',fa,sa,ta,hr,hl,fun c hc=>?_⟩,hS,hT,hpl,rO hA J hpl ri,fun j j' e1 e2=>J rows i j j' hpl ri e1 e2,fun y l hp2 k2 pt ray=>?_⟩
  ·refine nn fun nG=>?_
   obtain⟨x,q1,q2⟩:=ra c hc
   refine nG ?_;clear nG
   exact⟨x,q1,q2.low (Nat.zero_le _)⟩
  ·refine bW (k2 _ _ hr) (by exact AQ iN hl hpl) ⟨rfl,?_⟩
   walk_at "r"
   refine⟨⟨aO (by exact fR iN),rfl⟩,?_⟩
   walk_at "r"
   have keepR:∀ (m:Nat) o,hp'[m]?=some o→m≠r→(hp2.set r (.list (rl++[y])))[m]?=some o:=fun m o q e=>by rw[aJ _ (Ne.symm e)];exact k2 _ _ q
   have rowR:∀ {z fc},eX (r+1) hp' z fc→eX (r+1) (hp2.set r (.list (rl++[y]))) z fc:=fun ⟨u,v,e,l1,l2,q1,q2⟩=>⟨u,v,e,l1,l2,keepR _ _ q1 (by exact Ay l1),keepR _ _ q2 (by exact Ay l2)⟩
   have rowN:eX (r+1) (hp2.set r (.list (rl++[y]))) y (da S T rows i (.tup (aM l))):=by
    refine nn fun nG=>?_
    obtain⟨u,v,e,l1,l2,q1,q2⟩:=ray
    refine nG ?_;clear nG
    exact⟨u,v,e,by exact Az rl' l1,by exact Az rl' l2,by rw[aJ _ (by exact eC rl' l1)];exact q1,by rw[aJ _ (by exact eC rl' l2)];exact q2⟩
   have cg:∀ c≤i,∀ path,da S T rows c path=da S T (fun d=>if d=i then da S T rows i (.tup (aM l)) else rows d) c path:=fun c hc path=>tC fun p d hd=>by
    have:=(FL.kid (by exact BA hc hpl) hd).1
    rw[if_neg (by exact BB this hc)]
   refine hK _ _ ⟨_,rl++[y],fun d=>if d=i then da S T rows i (.tup (aM l)) else rows d,rfl,fun m o q e=>keepR _ _ (kp _ _ q e) e,aQ _ (k2 _ _ hr),by simp[hl],fun c hc=>?_,fun c hc=>?_⟩
   ·by_cases e:c=i
    ·subst e
     exact⟨l,pt,by simp only[if_true];exact cg c (Nat.le_refl _) _⟩
    ·refine nn fun nG=>?_
     obtain⟨l',pt',q⟩:=ri c (by exact tN hc e)
     refine nG ?_;clear nG
     refine⟨l',pt',?_⟩
     walk_at "r"
     simp only[if_neg e]
     rw[q];exact cg c (by exact Fe hc) _
   ·by_cases e:c=i
    ·subst e
     refine⟨y,by rw[List.getElem?_append_right (by exact CR hl),hl];simp,?_⟩
     simp only[if_true];exact rowN
    ·refine nn fun nG=>?_
     obtain⟨x,q1,q2⟩:=ra c (by exact tN hc e)
     refine nG ?_;clear nG
     refine⟨x,by rw[List.getElem?_append_left (by exact Ff hc hl e)];exact q1,?_⟩
     simp only[if_neg e];exact rowR q2
 ·intro loc hp' hI
  refine nn fun nG=>?_
  obtain⟨c1,rl,rows,rfl,kp,hr,hl,ri,ra⟩:=hI
  refine nG ?_;clear nG
  rw[List.length_map,List.length_range] at hl ri ra
  have m1':=kp _ _ m1 nr
  walk_at "r"
  refine at_ (m1') ?_
  walk_at "r"
  refine nn fun nG=>?_
  obtain⟨x,q1,q2⟩:=ra (A.fs.length-1) (by exact tW iN)
  refine nG ?_;clear nG
  have e:rl=rl.take (A.fs.length-1)++[x]:=by
   have q3:rl.take (A.fs.length-1+1)=rl.take (A.fs.length-1)++[x]:=by rw[List.take_add_one,q1];rfl
   rw[← q3,List.take_of_length_le (by exact Fg hl)]
  rw[e] at hr
  exact lU hr (hP rows x hp' ri (q2.low (Nat.zero_le _)) kp)
end
noncomputable def Ct {A:FL} (S T:Sd A) (f:AV) (cl:List AV):Prop:=
 (∃ rows,(∀ i<A.fs.length,df S T rows i)∧S.pm (A.fs.length-1)≠none∧T.pm (A.fs.length-1)≠none∧rows (A.fs.length-1)=([f],cl))∨
 ((S.pm (A.fs.length-1)=none∨T.pm (A.fs.length-1)=none)∧(((T.B.root.av=A.root.av∨S.B.root.av=T.B.root.av)∧f=S.B.root.av∧cl=[])∨(¬ (T.B.root.av=A.root.av∨S.B.root.av=T.B.root.av)∧
  ((S.B.root.av=A.root.av∧f=T.B.root.av∧cl=[])∨(S.B.root.av≠A.root.av∧f=S.B.root.av∧cl=[.tup [sS "replaced",.tup []]])))))
inductive iY (as:List AV) (hp:Hp) (P:AV→Hp→Prop):Prop
 | mk (b o t:Fm):as=[b.av,o.av,t.av]→b.av.ok 36=true→o.av.ok 36=true→t.av.ok 36=true→b.size≤12→o.size≤12→t.size≤12→(∀ A B:FL,A.root=b→B.root=o∨B.root=t→∀ f∈A.fs,∀ g∈B.fs,zA f g)→(∀ (A:FL) (S T:Sd A),A.root=b→S.B.root=o→T.B.root=t→MJ S T)→(∀ (A:FL) (S T:Sd A) r f cl hp',A.root=b→S.B.root=o→T.B.root=t→Kp hp hp'→hp'[r]?=some (.list cl)→Ct S T f cl→P (.tup [f,.ref r]) hp')→iY as hp P
section
variable {C:Cx}
theorem bM (h:HK C):aI C 7 (.ref 288) iY:=by
 refine(xt h (si h) (Cq h) (zx h) (d9 h) (fI h) (o6 h)).mono fun as hp P hF=>?_
 refine nn fun nG=>?_
 obtain⟨b,o,t,rfl,ok1,ok2,ok3,z1,z2,z3,cmp,hJ,hP⟩:=hF
 refine nG ?_;clear nG
 unfold mR
 walk_at "r"
 refine⟨b,rfl,ok1,by exact wW z1,fun A ra h1 eA k1 _ fa1=>?_⟩
 refine⟨o,rfl,ok2,by exact wW z2,fun B rb h2 eB k2 _ fb2=>?_⟩
 refine⟨ra,rb,A,B,rfl,fa1.keep k2,fb2,cmp A B eA (.inl eB),fun l1 pm1 ins1 rs h3 k3 _ sa so=>?_⟩
 refine⟨t,rfl,ok3,by exact wW z3,fun B' rb' h4 eB' k4 _ fb4=>?_⟩
 refine⟨ra,rb',A,B',rfl,((fa1.keep k2).keep k3).keep k4,fb4,cmp A B' eA (.inr eB'),fun l2 pm2 ins2 rt h5 k5 _ ta to=>?_⟩
 have k35:=(k3.trans k4).trans k5
 have fa:=((fa1.keep k2).keep k3).keep (k4.trans k5)
 have kp:=(k1.trans k2).trans k35
 have sa:=sa.keep (k4.trans k5)
 have eqs:∃ S T:Sd A,S.B=B∧T.B=B'∧S.At h5 rs∧T.At h5 rt:=⟨⟨B,l1,pm1,ins1,so⟩,⟨B',l2,pm2,ins2,to⟩,rfl,rfl,sa,ta⟩
 clear sa ta so to
 refine nn fun nG=>?_
 obtain⟨S,T,rfl,rfl,sa,ta⟩:=eqs
 refine nG ?_;clear nG
 clear fa1 fb2 fb4 k1 k2 k3 k4 k5 k35
 refine⟨sz,?_⟩
 walk_at "r"
 have L:=aE h5 (.list [.ref rs,.ref rt])
 have kp:=kp.trans (Kp.app h5 [aC.list [.ref rs,.ref rt]])
 have fa:=fa.keep (Kp.app h5 [aC.list [.ref rs,.ref rt]])
 have sa:=cV.keep sa (Kp.app h5 [aC.list [.ref rs,.ref rt]])
 have ta:=cV.keep ta (Kp.app h5 [aC.list [.ref rs,.ref rt]])
 generalize h5.length=rl at L ⊢
 generalize h5++[aC.list [.ref rs,.ref rt]]=h6 at kp fa sa ta L ⊢
 refine nn fun nG=>?_
 obtain⟨f0,c0,s0,p0,l0,g1⟩:=oY fa
 obtain⟨ms,pds,ids,hs1⟩:=dn sa
 obtain⟨mt,pdt,idt,ht1⟩:=dn ta
 refine nG ?_;clear nG
 unfold oX at hs1 ht1
 unfold rC at g1
 have i0:∀ {Q:AV→Hp→Prop},Q (.ref rs) h6→ai (.ref rl) (.int 0) h6 Q:=fun q=>aD (i:=0) L rfl (by decide) q
 have i1:∀ {Q:AV→Hp→Prop},Q (.ref rt) h6→ai (.ref rl) (.int 1) h6 Q:=fun q=>aD (i:=1) L rfl (by decide) q
 have last:(S.pm (A.fs.length-1)=none∨T.pm (A.fs.length-1)=none)→bv t.av b.av h6 (Bc fun b_1 hp1=>if b_1=true then 0≤sizeLine∧2≤sizeLine∧P (AV.tup [o.av,AV.ref (List.length hp1)]) (hp1++[aC.list []]) else bv o.av t.av hp1 (Bc fun b_2 hp1=>if b_2=true then 0≤sizeLine∧2≤sizeLine∧P (AV.tup [o.av,AV.ref (List.length hp1)]) (hp1++[aC.list []]) else bv o.av b.av hp1
   (Bc fun b hp1=>if b=true then 0≤sizeLine∧2≤sizeLine∧P (AV.tup [t.av,AV.ref (List.length hp1)]) (hp1++[aC.list []]) else 0≤sizeLine∧2≤sizeLine∧1≤sizeLine∧2≤sizeLine∧P (AV.tup [o.av,AV.ref (List.length hp1)]) (hp1++[aC.list [AV.tup [AV.str (Str.ofString "replaced"),AV.tup []]]])))):=fun no=>by
  have o1:=aq _ 40 _ (by exact wY) ok1
  have o2:=aq _ 40 _ (by exact wY) ok2
  have o3:=aq _ 40 _ (by exact wY) ok3
  have Z:∀ f cl,Ct S T f cl→P (.tup [f,.ref h6.length]) (h6++[aC.list cl]):=fun f cl m=>hP A S T _ f cl _ eA eB eB' (kp.trans (Kp.app _ _)) (aE _ _) m
  refine bQ o3 o1 ?_
  walk_at "r"
  by_cases e1:t.av=b.av
  ·rw[bZ e1]
   refine⟨sz,?_⟩
   walk_at "r"
   refine⟨sz,?_⟩
   walk_at "r"
   exact Z _ _ (.inr ⟨no,.inl ⟨.inl (by rw[eA,eB'];exact e1),by rw[eB],rfl⟩⟩)
  refine vN (bP e1) ?_
  walk_at "r"
  refine bQ o2 o3 ?_
  walk_at "r"
  by_cases e2:o.av=t.av
  ·rw[bZ e2]
   refine⟨sz,?_⟩
   walk_at "r"
   refine⟨sz,?_⟩
   walk_at "r"
   exact Z _ _ (.inr ⟨no,.inl ⟨.inr (by rw[eB,eB'];exact e2),by rw[eB],rfl⟩⟩)
  refine vN (bP e2) ?_
  walk_at "r"
  refine bQ o2 o1 ?_
  walk_at "r"
  have nn:¬ (T.B.root.av=A.root.av∨S.B.root.av=T.B.root.av):=by rw[eA,eB,eB'];exact fun q=>q.elim e1 e2
  by_cases e3:o.av=b.av
  ·rw[bZ e3]
   refine⟨sz,?_⟩
   walk_at "r"
   refine⟨sz,?_⟩
   walk_at "r"
   exact Z _ _ (.inr ⟨no,.inr ⟨nn,.inl ⟨by rw[eA,eB];exact e3,by rw[eB'],rfl⟩⟩⟩)
  refine vN (bP e3) ?_
  walk_at "r"
  refine⟨sz,?_⟩
  walk_at "r"
  refine⟨sz,?_⟩
  walk_at "r"
  refine⟨sz,?_⟩
  walk_at "r"
  refine⟨sz,?_⟩
  walk_at "r"
  exact Z _ _ (.inr ⟨no,.inr ⟨nn,.inr ⟨by rw[eA,eB];exact e3,by rw[eB],rfl⟩⟩⟩)
 refine i0 ?_
 walk_at "r"
 refine jv (hs1) ?_
 walk_at "r"
 refine jv (g1) ?_
 walk_at "r"
 refine⟨ra,A,rfl,fa,?_⟩
 walk_at "r"
 refine⟨rs,A.fs.length-1,A,S.B,S.l,S.pm,S.ins,rfl,sa,fun j e=>(S.ok.lt _ j e).2,fun e1=>?_,fun j g e1 hg=>?_⟩
 ·walk_at "r"
  exact last (.inl e1)
 rw[g.av_eq]
 walk_at "r"
 refine i1 ?_
 walk_at "r"
 refine jv (ht1) ?_
 walk_at "r"
 refine jv (g1) ?_
 walk_at "r"
 refine⟨ra,A,rfl,fa,?_⟩
 walk_at "r"
 refine⟨rt,A.fs.length-1,A,T.B,T.l,T.pm,T.ins,rfl,ta,fun j e=>(T.ok.lt _ j e).2,fun e2=>?_,fun j' g' e2 hg'=>?_⟩
 ·walk_at "r"
  exact last (.inr e2)
 rw[g'.av_eq]
 walk_at "r"
 refine i0 ?_
 walk_at "r"
 refine i1 ?_
 walk_at "r"
 refine⟨ra,rs,rt,rfl,fun n r h7 k7 hn hr q1 q2=>?_⟩
 have kp7:=kp.trans k7
 unfold vh at q1
 refine jv (q1) ?_
 walk_at "r"
 have hA:A.root.size≤12:=by rw[eA];exact z1
 have J:=hJ A S T eA eB eB'
 refine⟨n,ra,rs,rt,r,A,S,T,rfl,q1,q2,fun hp' k=>?_,S.sm hA (by rw[eB];exact z2),T.sm hA (by rw[eB'];exact z3),hA,J,fun rows x h8 ri rx k8=>?_⟩
 ·have k67:Kp h6 hp':=fun m o q=>k _ _ (k7 _ _ q) (by have:=aR q;exact eC this hr)
  exact⟨fa.keep k67,cV.keep sa k67,cV.keep ta k67⟩
 ·have iN:=A.le
  have k08:Kp hp h8:=fun m o q=>k8 _ _ (kp7 _ _ q) (by have:=aR q;have:=kp.len;exact Fh ‹_› this hr)
  refine nn fun nG=>?_
  obtain⟨u,v,rfl,_,_,x1,x2⟩:=rx
  obtain⟨l,pt,er⟩:=ri (A.fs.length-1) (by exact tW iN)
  refine nG ?_;clear nG
  have em:∃ f cl,rows (A.fs.length-1)=([f],cl):=by
   rw[er];unfold da;rw[e1,e2];exact⟨_,_,rfl⟩
  refine nn fun nG=>?_
  obtain⟨f,cl,em⟩:=em
  refine nG ?_;clear nG
  rw[em] at x1 x2
  walk_at "r"
  refine aD (i:=0) x1 rfl (by decide) ?_
  walk_at "r"
  refine⟨sz,?_⟩
  walk_at "r"
  refine hP A S T v f cl h8 eA eB eB' k08 x2 (.inl ⟨rows,ri,(by rw[e1];exact fun q=>nomatch q),(by rw[e2];exact fun q=>nomatch q),em⟩)
end
noncomputable abbrev KB (s:Nat) (hp hp':Hp):Prop:=∀ (m:Nat) o,hp[m]?=some o→m≠s→hp'[m]?=some o
theorem KB.trans {s:Nat} {a b c:Hp} (x:KB s a b) (y:KB s b c):KB s a c:=fun m o q e=>y m o (x m o q e) e
theorem Kp.kb {s:Nat} {a b:Hp} (x:Kp a b):KB s a b:=fun m o q _=>x m o q
theorem KB.len {s:Nat} {a b:Hp} (k:KB s a b) (hs:s<b.length):a.length≤b.length:=by
 rcases Nat.lt_or_ge b.length a.length with h | h
 ·have:=k b.length _ (gE h) (by exact bo hs)
  rw[List.getElem?_eq_none (Nat.le_refl _)] at this;cases this
 ·exact h
noncomputable def gx (hp:Hp) (s:Nat):Prop:=∃ a b:Int,hp[s]?=some (.list [.int a,.int b])∧0≤b∧b<2 ^ 31
theorem gx.lt {hp:Hp} {s:Nat} (x:gx hp s):s<hp.length:=by obtain⟨a,b,h,_⟩:=x;exact aR h
theorem gx.keep {hp hp':Hp} {s:Nat} (x:gx hp s) (k:Kp hp hp'):gx hp' s:=by obtain⟨a,b,h,r⟩:=x;exact⟨a,b,k _ _ h,r⟩
theorem iZ {a b:Int} (ha:a.natAbs<2 ^ 31) (hb:b.natAbs<2 ^ 31):IntMulOk a b:=by
 exact IntMulOk.of_left (intBits_le_64 (by exact Fi ha) (by exact Fj ha))
inductive yU (as:List AV) (hp:Hp) (P:AV→Hp→Prop):Prop
 | mk (s:Nat) (top:Int):as=[.ref s,.int top]→0<top→top<1000→gx hp s→(∀ d hp',0≤d→d<top→gx hp' s→KB s hp hp'→hp.length≤hp'.length→P (.int d) hp')→yU as hp P
inductive yV (as:List AV) (hp:Hp) (P:AV→Hp→Prop):Prop
 | mk (s t:Nat) (l:List AV):as=[.ref s,.ref t]→hp[t]?=some (.list l)→t≠s→l≠[]→l.length<1000→gx hp s→(∀ x hp',x∈l→gx hp' s→KB s hp hp'→hp.length≤hp'.length→P x hp')→yV as hp P
section
variable {C:Cx}
theorem mu (h:HK C):aI C 1 (.ref 302) yU:=by
 refine(se h).mono fun as hp P hF=>?_
 obtain⟨s,top,rfl,t0,t1,⟨a,b,hs,b0,b1⟩,hP⟩:=hF
 unfold jH
 walk_at "r"
 refine aD (i:=0) hs rfl (by decide) ?_
 walk_at "r"
 by_cases ha:0<a
 ·rw[decide_eq_true ha]
  walk_at "r"
  refine aD (i:=0) hs rfl (by decide) ?_
  walk_at "r"
  refine⟨by exact w5 t0,?_⟩
  walk_at "r"
  refine aD (i:=0) hs rfl (by decide) ?_
  walk_at "r"
  refine⟨⟨by exact w5 t0,by exact Fk t0 t1⟩,mU (i:=0) hs (by simp) (by simp) ?_⟩
  exact hP _ _ (Int.fmod_nonneg_of_pos a t0) (Int.fmod_lt_of_pos a t0) ⟨_,b,aQ _ hs,b0,b1⟩ (fun m o q e=>by rw[aJ _ (Ne.symm e)];exact q) (by simp)
 ·rw[decide_eq_false ha]
  walk_at "r"
  refine aD (i:=1) hs rfl (by decide) ?_
  walk_at "r"
  refine zS.int (iZ (by exact Fn b0 b1) (by decide)) ?_
  walk_at "r"
  refine⟨by exact w6,?_⟩
  walk_at "r"
  refine mU (i:=1) hs (by simp) (by simp) ?_
  walk_at "r"
  have n0:0≤(b * 39373+7).fmod 2147483647:=Int.fmod_nonneg_of_pos _ (by exact tZ)
  have n1:(b * 39373+7).fmod 2147483647<2147483647:=Int.fmod_lt_of_pos _ (by exact tZ)
  generalize (b * 39373+7).fmod 2147483647=c at n0 n1 ⊢
  have hs2:=aQ (.list ([AV.int a,AV.int b].set 1 (.int c))) hs
  refine aD (i:=1) hs2 rfl (by decide) ?_
  walk_at "r"
  refine aD (i:=1) hs2 rfl (by decide) ?_
  walk_at "r"
  refine zS.int (iZ (by exact w7 n0 n1) (by exact w7 n0 n1)) ?_
  walk_at "r"
  refine⟨by exact BC,?_⟩
  walk_at "r"
  refine⟨⟨by exact Fo,by exact Fp⟩,?_⟩
  walk_at "r"
  refine⟨by exact w5 t0,?_⟩
  walk_at "r"
  exact hP _ _ (Int.fmod_nonneg_of_pos _ t0) (Int.fmod_lt_of_pos _ t0) ⟨a,c,hs2,n0,by exact w8 n1⟩ (fun m o q e=>by rw[aJ _ (Ne.symm e)];exact q) (by simp)
theorem yW (h:HK C):aI C 2 (.ref 309) yV:=by
 refine(vJ h (mu h)).mono fun as hp P hF=>?_
 obtain⟨s,t,l,rfl,ht,ne,nl,lz,src,hP⟩:=hF
 unfold kN
 walk_at "r"
 refine bX ht (by exact Fq lz) ?_
 walk_at "r"
 have l0:0<l.length:=by cases l with | nil=>exact absurd rfl nl | cons a b=>simp
 refine⟨s,_,rfl,by exact Fs l0,by exact Ft lz,src,fun d hp' d0 d1 sr kb hl=>?_⟩
 obtain⟨n,rfl⟩:=Int.eq_ofNat_of_zero_le d0
 have nlt:n<l.length:=by exact DX d1
 exact aD (kb _ _ ht ne) (gE nlt) (by exact Fu nlt lz) (hP _ hp' (List.getElem_mem nlt) sr kb hl)
end
theorem uV {n:Nat} {xs:List Int} {ob:Obj} {hp:Hp} {P:AV→Hp→Prop} (hn:hp[n]?=some (.frz xs ob)) (hz:xs.length≤100000) (hP:P (.int xs.length) hp):cr [.ref n] hp P:=
 .frz hn (by exact vl hz) hP
theorem rQ {n:Nat} {xs:List Int} {ob:Obj} {i:Nat} {x:Int} {hp:Hp} {P:AV→Hp→Prop} (hn:hp[n]?=some (.frz xs ob)) (h:xs[i]?=some x) (hi:i<2 ^ 62) (hP:P (.int x) hp):ai (.ref n) (.int i) hp P:=.frz hn (by exact rv) (by simpa using h) (mT hi) hP
inductive Bx (as:List AV) (hp:Hp) (P:AV→Hp→Prop):Prop
 | mk (sc:Nat) (xs:List Int) (ob:Obj):as=[.ref sc]→hp[sc]?=some (.frz xs ob)→xs.length≤1000→(∀ r hp',Kp hp hp'→hp.length≤r→gx hp' r→P (.ref r) hp')→Bx as hp P
theorem tD {sc:Nat} {xs:List Int} {ob:Obj} {hp:Hp} {P:Fl→aX→Hp→Prop} (X:WS) (hs:hp[sc]?=some (.frz xs ob)) (hz:xs.length≤1000) (hX:∀ cell big:Int,X [("script",some (AV.ref sc)),("cell",some (AV.int cell)),("big",some (AV.int big)),("mixed",none),("k",none)] hp P) :
  wS (wQ "cell" (wK (AV.int 0))) (wS (e9 (wB (wX ix (wF cr (wC (wV "script") wN)) (wK (AV.int 0)))) (wS (wQ "cell" (wI (wV "script") (wK (AV.int 0)))) wZ) wZ) (wS (wQ "big" (wV "cell")) (wS (e9 (wB (wX sE (wV "big") (wK (AV.int 0)))) (wS (wQ "big" (wX cI (wX cI (wK (AV.int 0)) (wV "big")) (wK (AV.int 1)))) wZ) wZ) X)))
   [("script",some (AV.ref sc)),("cell",none),("big",none),("mixed",none),("k",none)] hp P:=by
 walk_at "r"
 refine uV hs (by exact ft hz) ?_
 walk_at "r"
 by_cases q:(0:Int)<(xs.length:Int)
 ·rw[decide_eq_true q]
  walk_at "r"
  refine rQ (i:=0) hs (x:=xs[0]) (gE (by exact Fv q)) (by exact nh) ?_
  walk_at "r"
  by_cases q:xs[0]<0
  ·rw[decide_eq_true q]
   walk_at "r"
   exact hX _ _
  ·rw[decide_eq_false q]
   walk_at "r"
   exact hX _ _
 ·rw[decide_eq_false q]
  walk_at "r"
  rw[decide_eq_false (by exact Fw)]
  exact hX _ _
section
variable {C:Cx}
theorem Cu (h:HK C):aI C 1 (.ref 295) Bx:=by
 refine(s9 h).mono fun as hp P hF=>?_
 obtain⟨sc,xs,ob,rfl,hs,hz,hP⟩:=hF
 unfold jG
 dsimp only[e8,ib,ny,lV,je,uI,uJ,List.cons_append,List.nil_append]
 refine tD _ hs hz fun cell big=>?_
 walk_at "r"
 refine⟨by exact BC,?_⟩
 walk_at "r"
 refine uV hs (by exact ft hz) ?_
 walk_at "r"
 obtain⟨m,hm,hmz,e⟩:∃ m:Nat,m≤xs.length∧m≤40∧(if (40:Int)<(xs.length:Int) then (40:Int) else (xs.length:Int))=(m:Int):=by
  by_cases q:(40:Int)<(xs.length:Int)
  ·exact⟨40,by exact Fx q,by exact Fy,by rw[if_pos q];rfl⟩
  ·exact⟨xs.length,by exact CT,by exact Fz q,by rw[if_neg q]⟩
 rw[e]
 refine⟨_,aO (Nat.le_trans hmz (by decide)),?_⟩
 walk_at "r"
 refine bB _ (fun i loc hp'=>∃ (c1:Option AV) (mx:Int),loc=[("script",some (AV.ref sc)),("cell",some (AV.int cell)),("big",some (AV.int big)),("mixed",some (.int mx)),("k",c1)]∧hp'=hp∧0≤mx∧mx<2147483647) ⟨_,_,rfl,rfl,Int.fmod_nonneg_of_pos _ (by exact BD),by have:=Int.fmod_lt_of_pos big (show(0:Int)<2147483629 by exact BD);exact GA this⟩ ?_ ?_
 ·rintro i x loc hp' K hx ⟨c1,mx,rfl,rfl,m0,m1⟩ hK
  rw[List.getElem?_map] at hx
  obtain⟨i',hpx,rfl⟩:=Option.map_eq_some_iff.mp hx
  obtain⟨hpl,e⟩:=List.getElem?_eq_some_iff.mp hpx
  rw[List.length_range] at hpl
  rw[List.getElem_range] at e
  subst e
  have il:i<xs.length:=Nat.lt_of_lt_of_le hpl hm
  refine zS.int (iZ (by exact w7 m0 m1) (by decide)) ?_
  walk_at "r"
  refine rQ hs (x:=xs[i]) (gE il) (Nat.lt_of_lt_of_le il (Nat.le_trans hz (by decide))) ?_
  walk_at "r"
  refine⟨by exact w6,?_⟩
  walk_at "r"
  refine zS.int (iZ (by decide) (Nat.lt_of_lt_of_le hpl (Nat.le_trans hmz (by decide)))) ?_
  walk_at "r"
  refine⟨by exact w6,?_⟩
  walk_at "r"
  refine⟨aO (Nat.le_trans hmz (by decide)),?_⟩
  walk_at "r"
  exact hK _ _ ⟨_,_,rfl,rfl,Int.fmod_nonneg_of_pos _ (by exact tZ),Int.fmod_lt_of_pos _ (by exact tZ)⟩
 ·rintro loc hp' ⟨c1,mx,rfl,rfl,m0,m1⟩
  walk_at "r"
  refine⟨⟨by exact GB,by exact GC,by decide⟩,?_⟩
  walk_at "r"
  by_cases q:big<10 ^ (18:Int).toNat
  ·rw[decide_eq_true q]
   walk_at "r"
   refine⟨sz,?_⟩
   walk_at "r"
   exact hP _ _ (Kp.app _ _) (Nat.le_refl _) ⟨0,mx,aE _ _,m0,by exact w8 m1⟩
  ·rw[decide_eq_false q]
   walk_at "r"
   refine⟨sz,?_⟩
   walk_at "r"
   exact hP _ _ (Kp.app _ _) (Nat.le_refl _) ⟨big,mx,aE _ _,m0,by exact w8 m1⟩
end
noncomputable def kK:Str:=Str.ofString "k"
noncomputable def kM:Str:=Str.ofString "m"
structure DN (f:Fm):Prop where
 okk:PyData.strOk f.k=true
 nt:f.k≠tx
 okl:f.lb.ok 30=true
 okv:PyData.strOk f.v=true
 keys:(f.at_.map (·.1)).Sublist [kK,kM]
 oka:∀ p∈f.at_,PyData.strOk p.2=true
noncomputable def o7 (f:Fm):List AV:=[.str f.k,f.lb,.str f.v,.tup (f.at_.map dF)]
noncomputable def el:Str:=Str.ofString "element"
inductive Bz (as:List AV) (hp:Hp) (P:AV→Hp→Prop):Prop
 | mk (s at':Nat):as=[.ref s,.int at']→gx hp s→(∀ f r hp',DN f→(at'=0→f.k=el)→f.kids=[]→gx hp' s→KB s hp hp'→hp.length≤hp'.length→hp.length≤r→hp'[r]?=some (.list (o7 f))→P (.ref r) hp')→Bz as hp P
theorem iH {a b:Int} {hp:Hp} {P:AV→Hp→Prop} (h:P (.bool (decide (a=b))) hp):bv (.int a) (.int b) hp P:=bQ dH dH (by rw[iV];exact h)
theorem p9 {a b:Int} {hp:Hp} {P:AV→Hp→Prop} (h:P (.bool (!decide (a=b))) hp):ca (.int a) (.int b) hp P:=dw dH dH (by rw[iV];exact h)
theorem eR (s:String) (h:autoParam (PyData.strOk (Str.ofString s)=true) auK):PyData.strOk (Str.ofString s)=true:=h
theorem o8 {s it:Nat} {hp:Hp} {P:List AV→Hp→Prop} (hit:hp[it]?=some (.list [.str kK,.str kM])) (ne:it≠s) (src:gx hp s)
  (hP:∀ (a:List (Str×Str)) hp',(a.map (·.1)).Sublist [kK,kM]→(∀ p∈a,PyData.strOk p.2=true)→gx hp' s→KB s hp hp'→hp.length≤hp'.length→P (a.map dF) hp') :
  eV (hM "key") (wB (wX bv (wF yU (wC (wV "source") (wC (wK (AV.int 3)) wN))) (wK (AV.int 0))))
   (wU (wC (wU (wC (wK (AV.str (Str.ofString ""))) (wC (wV "key") wN))) (wC (wV "key") (wC (wF yV (wC (wV "source") (wC (wL (wC (wK (AV.str (Str.ofString "0"))) (wC (wK (AV.str (Str.ofString "1"))) wN))) wN))) wN))))
   (fun hp2=>aL (.ref it) hp2=some [.str kK,.str kM]∧ag (.ref it) hp2=ag (.ref it) hp) [.str kK,.str kM] [("source",some (.ref s)),("key",none),("name",none),("value",none),("k",none)] hp [] P:=by
 refine di _ (fun i acc loc hp'=>∃ c1 a,loc=[("source",some (.ref s)),("key",c1),("name",none),("value",none),("k",none)]∧acc=a.map dF∧(a.map (·.1)).Sublist ([kK,kM].take i)∧(∀ p∈a,PyData.strOk p.2=true)∧gx hp' s∧KB s hp hp'∧hp.length≤hp'.length)
  ⟨_,[],rfl,rfl,List.Sublist.refl _,(fun _ h=>nomatch h),src,(fun _ _ q _=>q),Nat.le_refl _⟩ ?_ ?_
 ·intro i x acc loc hp' K hx hI
  refine nn fun nG=>?_
  obtain⟨c1,a,rfl,rfl,sub,oka,src,kb,hl⟩:=hI
  refine nG ?_;clear nG
  intro hK
  have hx':[kK,kM][i]?=some (match i with | 0=>kK | _=>kM)∧x=.str (match i with | 0=>kK | _=>kM):=by
   rcases i with _ | _ | i
   ·exact⟨rfl,by injection hx with hx;exact hx.symm⟩
   ·exact⟨rfl,by injection hx with hx;exact hx.symm⟩
   ·simp at hx
  generalize (match i with | 0=>kK | _=>kM)=key at hx'
  obtain⟨hk,rfl⟩:=hx'
  have il:i<2:=(bj hk)
  have tk:[kK,kM].take (i+1)=[kK,kM].take i++[key]:=by rw[List.take_add_one,hk];rfl
  have al:a.length≤2:=by have:=sub.length_le;rw[List.length_map,List.length_take] at this;simp at this;exact GD this
  have sl:=src.lt
  walk_at "r"
  refine⟨s,3,rfl,by exact w9,by exact wa,src,fun d h1 d0 d1 src1 kb1 dL=>iH ?_⟩
  have chk:∀ h2,KB s hp h2→aL (.ref it) h2=some [.str kK,.str kM]∧ag (.ref it) h2=ag (.ref it) hp:=fun h2 k=>⟨af (k _ _ hit ne),by rw[be (k _ _ hit ne),be hit]⟩
  by_cases w:d=0
  ·rw[decide_eq_true w]
   walk_at "r"
   refine⟨sz,?_⟩
   walk_at "r"
   refine⟨sz,?_⟩
   walk_at "r"
   have s1:=src1.lt
   refine⟨s,h1.length,_,rfl,aE _ _,by exact bo s1,by simp,by simp,src1.keep (Kp.app _ _),fun x h2 hx src2 kb2 hl2=>?_⟩
   have kb3:KB s hp h2:=(kb.trans kb1).trans ((Kp.kb (Kp.app h1 _)).trans kb2)
   simp only[List.length_append,List.length_cons,List.length_nil] at hl2
   refine⟨sz,?_⟩
   walk_at "r"
   refine⟨sz (by simp;exact l7 al),?_⟩
   walk_at "r"
   refine⟨chk _ kb3,?_⟩
   walk_at "r"
   obtain⟨v,hv,rfl⟩:∃ v,PyData.strOk v=true∧x=.str v:=by
    simp only[List.mem_cons,List.not_mem_nil,or_false] at hx
    rcases hx with rfl | rfl
    ·exact⟨_,eR "0",rfl⟩
    ·exact⟨_,eR "1",rfl⟩
   refine hK _ _ _ ⟨_,a++[(key,v)],rfl,by simp[dF,aS,em],?_,fun p hp=>?_,src2,kb3,by exact GE hl2 hl dL⟩
   ·rw[tk,List.map_append];exact sub.append (List.Sublist.refl _)
   ·rcases List.mem_append.mp hp with q | q
    ·exact oka p q
    ·simp at q;subst q;exact hv
  ·rw[decide_eq_false w]
   walk_at "r"
   refine⟨chk _ (kb.trans kb1),hK _ _ _ ⟨_,a,rfl,rfl,?_,oka,src1,kb.trans kb1,by exact BE hl dL⟩⟩
   rw[tk];exact sub.trans (List.sublist_append_left _ _)
 ·intro acc loc hp' hI
  refine nn fun nG=>?_
  obtain⟨c1,a,rfl,rfl,sub,oka,src,kb,hl⟩:=hI
  refine nG ?_;clear nG
  exact hP a hp' sub oka src kb hl
section
variable {C:Cx}
theorem Cv (h:HK C):aI C 3 (.ref 314) Bz:=by
 refine(sf h (mu h) (yW h)).mono fun as hp P hF=>?_
 refine nn fun nG=>?_
 obtain⟨s,at',rfl,src,hP⟩:=hF
 refine nG ?_;clear nG
 unfold jI
 have fin:∀ (a:List (Str×Str)) h2 nm,PyData.strOk nm=true→(a.map (·.1)).Sublist [kK,kM]→(∀ p∈a,PyData.strOk p.2=true)→gx h2 s→KB s hp h2→hp.length≤h2.length→3≤sizeLine∧eL [AV.ref h2.length] (h2++[aC.list (a.map dF)]) fun x hp1=>4≤sizeLine∧P (AV.ref hp1.length) (hp1++[aC.list [AV.str (Str.ofString "element"),AV.tup [AV.str nm,AV.str (Str.ofString ""),AV.str nm],AV.str (Str.ofString ""),x]]):=fun a h2 nm ok sub oka src2 kb hl=>by
  have al:a.length≤2:=by have:=sub.length_le;simpa using this
  refine⟨sz,Bj (aE _ _) (sz (by simp;exact l7 al)) ?_⟩
  walk_at "r"
  refine⟨sz,?_⟩
  walk_at "r"
  refine hP (.nd el (.tup [.str nm,.str em,.str nm]) em a []) _ _ ⟨eR "element",(show el≠tx by decide +kernel),?_,eR "",sub,oka⟩ (fun _=>rfl) rfl ((src2.keep (Kp.app _ _)).keep (Kp.app _ _)) (kb.trans (Kp.kb ((Kp.app _ _).trans (Kp.app _ _)))) (by first | omega | (simp;exact AR hl)) (by first | exact g8 hl | (simp;omega)) (rA (by simp))
  have:=eR ""
  simp[oN,oI,oS,oT,oL,oB,oR,oG,fv,fw,Fm.lb,ok,em,this]
 walk_at "r"
 by_cases a0:at'=0
 ·subst a0
  rw[decide_eq_false (by decide)]
  walk_at "r"
  refine iH ?_
  walk_at "r"
  refine iH ?_
  walk_at "r"
  refine vN (by rfl) ?_
  walk_at "r"
  refine vN (by rfl) ?_
  walk_at "r"
  refine⟨sz,?_⟩
  walk_at "r"
  refine⟨_,af (aE _ _),?_⟩
  walk_at "r"
  have sl:=src.lt
  rw[show hO _ _ _=[("source",some (AV.ref s))] from rfl]
  refine o8 (aE _ _) (by exact bo sl) (src.keep (Kp.app _ _)) fun a h2 sub oka src2 kb2 hl2=>?_
  simp only[List.length_append,List.length_cons,List.length_nil] at hl2
  exact fin a h2 _ (eR "r") sub oka src2 ((Kp.kb (Kp.app _ _)).trans kb2) (by exact GF hl2)
 ·rw[decide_eq_true (by exact BF a0)]
  walk_at "r"
  refine⟨s,5,rfl,by exact BG,by exact BH,src,fun d h1 d0 d1 src1 kb1 dL=>?_⟩
  refine iH ?_
  walk_at "r"
  by_cases w0:d=0
  ·rw[decide_eq_true w0]
   walk_at "r"
   refine⟨sz,?_⟩
   walk_at "r"
   refine⟨s,h1.length,_,rfl,aE _ _,by have:=src1.lt;exact bo this,by simp,by simp,src1.keep (Kp.app _ _),fun x h2 hx src2 kb2 hl2=>?_⟩
   obtain⟨v,hv,rfl⟩:∃ v,PyData.strOk v=true∧x=.str v:=by
    simp only[List.mem_cons,List.not_mem_nil,or_false] at hx
    rcases hx with rfl | rfl | rfl
    ·exact⟨_,eR "",rfl⟩
    ·exact⟨_,eR "x",rfl⟩
    ·exact⟨_,eR "y",rfl⟩
   simp only[List.length_append,List.length_cons,List.length_nil] at hl2
   refine⟨sz,?_⟩
   walk_at "r"
   refine⟨sz,?_⟩
   walk_at "r"
   refine hP (.nd (Str.ofString "comment") (.str em) v [] []) _ _ ⟨eR "comment",(show Str.ofString "comment"≠tx by decide +kernel),eR "",hv,List.nil_sublist _,fun _ h=>nomatch h⟩ (fun e=>absurd e a0) rfl (src2.keep (Kp.app _ _)) ((kb1.trans ((Kp.kb (Kp.app h1 _)).trans kb2)).trans (Kp.kb (Kp.app _ _))) (by simp;exact GG hl2 dL) (by exact GH hl2 dL) (aE _ _)
  rw[decide_eq_false w0]
  walk_at "r"
  refine iH ?_
  walk_at "r"
  by_cases w1:d=1
  ·rw[decide_eq_true w1]
   walk_at "r"
   refine⟨sz,?_⟩
   walk_at "r"
   refine⟨s,h1.length,_,rfl,aE _ _,by have:=src1.lt;exact bo this,by simp,by simp,src1.keep (Kp.app _ _),fun x h2 hx src2 kb2 hl2=>?_⟩
   obtain⟨lb,hlb,rfl⟩:∃ v,PyData.strOk v=true∧x=.str v:=by
    simp only[List.mem_cons,List.not_mem_nil,or_false] at hx
    rcases hx with rfl | rfl
    ·exact⟨_,eR "p",rfl⟩
    ·exact⟨_,eR "q",rfl⟩
   simp only[List.length_append,List.length_cons,List.length_nil] at hl2
   refine⟨sz,?_⟩
   walk_at "r"
   refine⟨s,h2.length,_,rfl,aE _ _,by have:=src2.lt;exact bo this,by simp,by simp,src2.keep (Kp.app _ _),fun x h3 hx src3 kb3 hl3=>?_⟩
   obtain⟨v,hv,rfl⟩:∃ v,PyData.strOk v=true∧x=.str v:=by
    simp only[List.mem_cons,List.not_mem_nil,or_false] at hx
    rcases hx with rfl | rfl
    ·exact⟨_,eR "",rfl⟩
    ·exact⟨_,eR "x",rfl⟩
   simp only[List.length_append,List.length_cons,List.length_nil] at hl3
   have kb:KB s hp h3:=(kb1.trans ((Kp.kb (Kp.app h1 _)).trans kb2)).trans ((Kp.kb (Kp.app h2 _)).trans kb3)
   refine⟨sz,?_⟩
   walk_at "r"
   refine⟨sz,?_⟩
   walk_at "r"
   refine hP (.nd (Str.ofString "instruction") (.str lb) v [] []) _ _ ⟨eR "instruction",(show Str.ofString "instruction"≠tx by decide +kernel),hlb,hv,List.nil_sublist _,fun _ h=>nomatch h⟩ (fun e=>absurd e a0) rfl (src3.keep (Kp.app _ _)) (kb.trans (Kp.kb (Kp.app _ _))) (by simp;exact GJ hl3 hl2 dL) (by exact BI hl3 hl2 dL) (aE _ _)
  rw[decide_eq_false w1]
  walk_at "r"
  refine zq (decide_eq_true (by exact BF a0)) ?_
  walk_at "r"
  refine⟨sz,?_⟩
  walk_at "r"
  refine⟨s,h1.length,_,rfl,aE _ _,by have:=src1.lt;exact bo this,by simp,by simp,src1.keep (Kp.app _ _),fun x h2 hx src2 kb2 hl2=>?_⟩
  obtain⟨nm,hnm,rfl⟩:∃ v,PyData.strOk v=true∧x=.str v:=by
   simp only[List.mem_cons,List.not_mem_nil,or_false] at hx
   rcases hx with rfl | rfl
   ·exact⟨_,eR "a",rfl⟩
   ·exact⟨_,eR "b",rfl⟩
  simp only[List.length_append,List.length_cons,List.length_nil] at hl2
  refine⟨sz,?_⟩
  walk_at "r"
  refine⟨_,af (aE _ _),?_⟩
  walk_at "r"
  have sl:=src2.lt
  rw[show hO _ _ _=[("source",some (AV.ref s))] from rfl]
  refine o8 (aE _ _) (by exact bo sl) (src2.keep (Kp.app _ _)) fun a h3 sub oka src3 kb3 hl3=>?_
  simp only[List.length_append,List.length_cons,List.length_nil] at hl3
  exact fin a h3 _ hnm sub oka src3 ((kb1.trans ((Kp.kb (Kp.app h1 _)).trans kb2)).trans ((Kp.kb (Kp.app h2 _)).trans kb3)) (by exact BI hl3 hl2 dL)
end
theorem FL.all {P:Fm→Prop} (F:FL) (h:P F.root) (k:∀ f (p:Nat) g,P f→f.kids[p]?=some g→P g):∀ f∈F.fs,P f:=by
 have main:∀ d i f,F.fs.length-1-i≤d→F.fs[i]?=some f→P f:=by
  intro d
  induction d with
  | zero=>
   intro i f hd hf
   have hl:=(bj hf)
   have:i=F.fs.length-1:=by exact wH hd hl
   subst this
   rw[F.ok.topf] at hf;cases hf;exact h
  | succ d ih=>
   intro i f hd hf
   have hl:=(bj hf)
   by_cases e:i=F.fs.length-1
   ·subst e;rw[F.ok.topf] at hf;cases hf;exact h
   ·refine nn fun nG=>?_
    obtain⟨j,p,y,g,_,_,ij,hy,hg,hk⟩:=F.ok.up i (by exact wJ hl e)
    refine nG ?_;clear nG
    rw[hf] at hg;cases hg
    exact k y p f (ih j y (by exact wO hd ij) hy) hk
 intro f hf
 obtain⟨i,hi⟩:=List.mem_iff_getElem?.mp hf
 exact main _ i f (Nat.le_refl _) hi
theorem FL.topAt (F:FL):F.at (F.fs.length-1)=F.root:=by unfold FL.at;rw[F.ok.topf];rfl
theorem FL.topLt (F:FL):F.fs.length-1<F.fs.length:=by have:=F.le;exact tW this
theorem FL.parent {F:FL} {i:Nat} (h:i<F.fs.length-1):∃ j p,i<j∧j<F.fs.length∧(F.row j)[p]?=some i∧F.pr[i]?=some (some j)∧F.pl[i]?=some p:=by
 refine nn fun nG=>?_
 obtain⟨j,p,y,g,h1,h2,ij,hy,hg,hk⟩:=F.ok.up i h
 refine nG ?_;clear nG
 have hj:=(bj hy)
 have hr:=FL.row_ok hj
 have hp:p<(F.row j).length:=by rw[F.ok.row j y _ hy hr];exact(bj hk)
 obtain⟨a1,a2⟩:=F.ok.at' j _ p _ hr (gE hp)
 have e:=F.ok.inj i _ j p h1 a1 h2 a2
 exact⟨j,p,ij,hj,by rw[gE hp,← e],h1,h2⟩
theorem FL.down {P:Nat→Prop} (F:FL) (top:P (F.fs.length-1)) (step:∀ (i j p:Nat),j<F.fs.length→P j→(F.row j)[p]?=some i→P i):∀ i<F.fs.length,P i:=by
 have main:∀ d i,i<F.fs.length→F.fs.length-1-i≤d→P i:=by
  intro d
  induction d with
  | zero=>
   intro i hi hd
   have:i=F.fs.length-1:=by exact wH hd hi
   rw[this];exact top
  | succ d ih=>
   intro i hi hd
   by_cases e:i=F.fs.length-1
   ·rw[e];exact top
   ·refine nn fun nG=>?_
    obtain⟨j,p,ij,hj,hr,_⟩:=FL.parent (F:=F) (i:=i) (by exact wJ hi e)
    refine nG ?_;clear nG
    exact step i j p hj (ih j hj (by exact wO hd ij)) hr
 exact fun i hi=>main _ i hi (Nat.le_refl _)
theorem FL.kids_eq {F:FL} {i:Nat} (hi:i<F.fs.length):(F.at i).kids=(F.row i).map F.at:=by
 apply List.ext_getElem?
 intro p
 rw[List.getElem?_map]
 by_cases h:p<(F.row i).length
 ·have q:=gE h
  rw[(FL.kid hi q).2.1,q];rfl
 ·rw[List.getElem?_eq_none (by rw[← FL.row_len' hi];exact qE h),List.getElem?_eq_none (by exact qE h)];rfl
theorem i3 {l:List Nat} {p:Nat} (h:p<l.length):l[p]?=some (l.getD p 0):=by rw[List.getD_eq_getElem?_getD,gE h];rfl
theorem FL.kidAt {F:FL} {i p:Nat} (hi:i<F.fs.length) (hp:p<(F.row i).length):(F.row i).getD p 0<i∧(F.at i).kids[p]?=some (F.at ((F.row i).getD p 0))∧(F.row i).getD p 0<F.fs.length:=by
 refine nn fun nG=>?_
 obtain⟨a,b,_,_,c⟩:=FL.kid hi (i3 hp)
 refine nG ?_;clear nG
 exact⟨a,b,c⟩
theorem o9:∀ l:List Fm,(Fm.sizes l:Int)=(l.map fun f=>(f.size:Int)).sum
 | []=>rfl
 | f::r=>by simp[Fm.sizes,o9 r]
theorem FL.szEq (F:FL):∀ i<F.fs.length,F.sz.getD i 0=((F.at i).size:Int):=by
 intro i
 induction i using Nat.strongRecOn with
 | _ i ih=>
  intro hi
  have hz:F.sz[i]?=some (F.sz.getD i 0):=by rw[List.getD_eq_getElem?_getD,gE (by rw[F.ok.l4];exact hi)];rfl
  rw[F.ok.sum i _ _ (FL.row_ok hi) hz,(F.at i).size_eq,FL.kids_eq hi]
  have:(F.row i).map (fun c=>F.sz.getD c 0)=((F.row i).map F.at).map fun f=>(f.size:Int):=by
   rw[List.map_map]
   refine List.map_congr_left fun c hc=>?_
   refine nn fun nG=>?_
   obtain⟨p,hp⟩:=List.mem_iff_getElem?.mp hc
   obtain⟨a,_,_,_,b⟩:=FL.kid hi hp
   refine nG ?_;clear nG
   exact ih c a b
  rw[this]
  push_cast
  rw[o9]
theorem iI {F:FL} {i p:Nat} (hi:i<F.fs.length) (hp:p<(F.row i).length):F.sz.getD ((F.row i).getD p 0) 0=(((F.at ((F.row i).getD p 0))).size:Int):=F.szEq _ (FL.kidAt hi hp).2.2
theorem rR {a b d:Int} {c:Option Int} (ha:0≤a) (hb:0≤b) (hd:0≤d) (hc:∀ k,c=some k→0≤k):0≤gv a b c d:=jm ha hb fun k e=>Int.add_nonneg hd (hc k e)
theorem kU {s s':Nat→Int} {c:Nat→Nat→Option Int} {n m:Nat} (hs:∀ p<n,0≤s p) (hs':∀ q<m,0≤s' q) (hc:∀ p q k,p<n→q<m→c p q=some k→0≤k):∀ p q,p≤n→q≤m→0≤Tb s s' c p q:=by
 intro p
 induction p with
 | zero=>
  intro q
  show _→_→0≤jn s' q
  induction q with
  | zero=>intro _ _;exact Int.le_refl _
  | succ q ih=>
   intro h1 h2
   have a:=ih h1 (by exact aj h2)
   have b:=hs' q (by exact bU h2)
   show 0≤jn s' q+s' q
   exact qG a b
 | succ p ihp=>
  intro q
  show _→_→0≤rF (Tb s s' c p) (s p) s' (c p) q
  have sp:p+1≤n→0≤s p:=fun h=>hs p (by exact bU h)
  induction q with
  | zero=>
   intro h1 h2
   have a:=ihp 0 (by exact aj h1) (by exact kj)
   have:=sp h1
   show 0≤Tb s s' c p 0+s p
   exact qG a this
  | succ q ih=>
   intro h1 h2
   have a:=ih h1 (by exact aj h2)
   have b:=ihp (q+1) (by exact aj h1) h2
   have d:=ihp q (by exact aj h1) (by exact aj h2)
   have e:=hs' q (by exact bU h2)
   have g:=sp h1
   exact rR (by exact qG b g) (by exact qG a e) d fun k hk=>hc p q k (by exact bU h1) (by exact bU h2) hk
theorem zz {s s':Nat→Int} {c:Nat→Nat→Option Int} {n:Nat} (hs:∀ p<n,0≤s p) (hs':∀ q<n,0≤s' q) (hc:∀ p q k,p<n→q<n→c p q=some k→0≤k) (hd:∀ p<n,c p p=some 0):∀ p≤n,Tb s s' c p p=0:=by
 intro p
 induction p with
 | zero=>intro _;rfl
 | succ p ih=>
  intro h
  have z:=ih (by exact aj h)
  have a:=kU hs hs' hc p (p+1) (by exact aj h) (by exact nq h)
  have b:=kU hs hs' hc (p+1) p (by exact nq h) (by exact aj h)
  have e:=hs p (by exact bU h)
  have e':=hs' p (by exact bU h)
  show gv (Tb s s' c p (p+1)+s p) (Tb s s' c (p+1) p+s' p) (c p p) (Tb s s' c p p)=0
  rw[hd p (by exact bU h),z]
  generalize Tb s s' c p (p+1)=x at a ⊢
  generalize Tb s s' c (p+1) p=y at b ⊢
  exact Int.le_antisymm yG (jm (Int.add_nonneg a e) (Int.add_nonneg b e') fun k h=>by cases h;exact Int.le_refl 0)
noncomputable def idl (n:Nat):List St:=(List.range n).map fun p=>.keep p p
theorem ah.idl {f:Nat→Nat→Int} {s:Nat→Int} {c:Nat→Nat→Option Int} {n:Nat} (hd:∀ p<n,c p p=some 0) (hf:∀ p≤n,f p p=0):∀ p≤n,ah f s c p p (Mine.idl p):=by
 intro p
 induction p with
 | zero=>intro _;exact .nil
 | succ p ih=>
  intro h
  have:Mine.idl (p+1)=Mine.idl p++[.keep p p]:=by simp[Mine.idl,List.range_succ]
  rw[this]
  exact .keep (hd p (by exact bU h)) (by rw[hf _ h,hf p (by exact aj h)];rfl) (ih (by exact aj h))
theorem ah.congr {f f':Nat→Nat→Int} {s s':Nat→Int} {c c':Nat→Nat→Option Int} {p q:Nat} {l:List St} (h:ah f s c p q l):(∀ p' q',p'≤p→q'≤q→f p' q'=f' p' q')→(∀ p'<p,s p'=s' p')→(∀ p' q',p'<p→q'<q→c p' q'=c' p' q')→ah f' s' c' p q l:=by
 induction h with
 | nil=>intro _ _ _;exact .nil
 | @keep p q k l hc he _ ih=>
  intro hf hs hh
  exact .keep (by rw[← hh p q (by exact dy) (by exact dy)];exact hc) (by rw[← hf _ _ (Nat.le_refl _) (Nat.le_refl _),← hf p q (by exact jS) (by exact jS)];exact he) (ih (fun a b x y=>hf a b (by exact g8 x) (by exact g8 y)) (fun a x=>hs a (by exact dc x)) fun a b x y=>hh a b (by exact dc x) (by exact dc y))
 | @out p q l n e _ ih=>
  intro hf hs hh
  refine .out (fun k=>n ?_) (by rw[← hf _ _ (Nat.le_refl _) (Nat.le_refl _),← hf p q (by exact jS) (by exact CT),← hs p (by exact dy)];exact e) (ih (fun a b x y=>hf a b (by exact g8 x) (by exact ki y)) (fun a x=>hs a (by exact dc x)) fun a b x y=>hh a b (by exact dc x) (by exact tV y))
  refine nn fun nG=>?_
  obtain⟨p',q',k,h1,h2,h3,h4⟩:=k
  refine nG ?_;clear nG
  cases h1;subst h2
  exact⟨p,q',k,rfl,rfl,by rw[hh p q' (by exact dy) (by exact dy)];exact h3,by rw[hf _ _ (Nat.le_refl _) (Nat.le_refl _),hf p q' (by exact jS) (by exact jS)];exact h4⟩
 | @inn p q l n m _ ih=>
  intro hf hs hh
  refine .inn (fun k=>n ?_) (fun k=>m ?_) (ih (fun a b x y=>hf a b (by exact ki x) (by exact g8 y)) (fun a x=>hs a (by exact tV x)) fun a b x y=>hh a b (by exact tV x) (by exact dc y))
  ·obtain⟨p',q',k,h1,h2,h3,h4⟩:=k
   cases h2;subst h1
   exact⟨p',q,k,rfl,rfl,by rw[hh p' q (by exact dy) (by exact dy)];exact h3,by rw[hf _ _ (Nat.le_refl _) (Nat.le_refl _),hf p' q (by exact jS) (by exact jS)];exact h4⟩
  ·refine nn fun nG=>?_
   obtain⟨p',h1,h4⟩:=k
   refine nG ?_;clear nG
   subst h1
   exact⟨p',rfl,by rw[hf _ _ (Nat.le_refl _) (Nat.le_refl _),hf p' (q+1) (by exact jS) (by exact Hf),hs p' (by exact dy)];exact h4⟩
noncomputable def ay (l:List St) (p:Nat):List Nat:=l.filterMap fun x=>match x with
 | .keep p' q=>if p'=p then some q else none
 | _=>none
theorem b8 (a b:List St) (p:Nat):ay (a++b) p=ay a p++ay b p:=by simp[ay]
noncomputable def gL (l:List St):Nat→List Nat
 | 0=>[]
 | p+1=>gL l p++aW l p++ay l p
theorem kW {l:List St} {x:St} {n:Nat} (h:∀ p<n,aW [x] p=[]∧ay [x] p=[]):∀ p≤n,gL (l++[x]) p=gL l p:=by
 intro p
 induction p with
 | zero=>intro _;rfl
 | succ p ih=>
  intro hp
  unfold gL
  rw[ih (by exact aj hp),bE,b8,(h p (by exact bU hp)).1,(h p (by exact bU hp)).2,List.append_nil,List.append_nil]
theorem gX {f:Nat→Nat→Int} {s:Nat→Int} {c:Nat→Nat→Option Int} {p q:Nat} {l:List St} (h:ah f s c p q l) {p':Nat} (hp:p≤p'):ay l p'=[]:=by
 unfold ay
 rw[List.filterMap_eq_nil_iff]
 intro x hx
 cases x with
 | keep a b=>
  have:=(h.keep_lt a b hx).1
  dsimp only
  rw[if_neg (by exact BB this hp)]
 | out a=>rfl
 | inn a b=>rfl
theorem mv {f:Nat→Nat→Int} {s:Nat→Int} {c:Nat→Nat→Option Int} {p q:Nat} {l:List St} (h:ah f s c p q l) {p':Nat} (hp:p<p'):aW l p'=[]:=by
 unfold aW
 rw[List.filterMap_eq_nil_iff]
 intro x hx
 cases x with
 | keep a b=>rfl
 | out a=>rfl
 | inn a b=>
  have:=(h.inn_le a b hx).1
  dsimp only
  rw[if_neg (by exact Hg this hp)]
theorem ah.gath {f:Nat→Nat→Int} {s:Nat→Int} {c:Nat→Nat→Option Int} {p q:Nat} {l:List St} (h:ah f s c p q l):gL l p++aW l p=List.range q:=by
 induction h with
 | nil=>rfl
 | @keep p q k l hc he h ih=>
  have e1:aW (l++[St.keep p q]) (p+1)=[]:=by rw[bE,mv h (by exact dy)];rfl
  have e2:aW (l++[St.keep p q]) p=aW l p:=by rw[bE];simp[aW]
  have e3:ay (l++[St.keep p q]) p=[q]:=by rw[b8,gX h (Nat.le_refl _)];simp[ay]
  rw[e1,List.append_nil]
  unfold gL
  rw[e2,e3,kW (n:=p) (fun p' hp=>⟨rfl,by simp[ay];exact wh hp⟩) p (Nat.le_refl _),ih,List.range_succ]
 | @out p q l n e h ih=>
  have e1:aW (l++[St.out p]) (p+1)=[]:=by rw[bE,mv h (by exact dy)];rfl
  have e2:aW (l++[St.out p]) p=aW l p:=by rw[bE];simp[aW]
  have e3:ay (l++[St.out p]) p=[]:=by rw[b8,gX h (Nat.le_refl _)];simp[ay]
  rw[e1,List.append_nil]
  unfold gL
  rw[e2,e3,kW (n:=p) (fun p' hp=>⟨rfl,rfl⟩) p (Nat.le_refl _),List.append_nil,ih]
 | @inn p q l n m h ih=>
  have e2:aW (l++[St.inn p q]) p=aW l p++[q]:=by rw[bE];simp[aW]
  rw[e2,kW (n:=p) (fun p' hp=>⟨by simp[aW];exact wh hp,rfl⟩) p (Nat.le_refl _),← List.append_assoc,ih,List.range_succ]
theorem jO {l:List St} {p q:Nat}:q∈ay l p↔St.keep p q∈l:=by
 unfold ay
 rw[List.mem_filterMap]
 constructor
 ·intro hI
  refine nn fun nG=>?_
  obtain⟨x,hx,e⟩:=hI
  refine nG ?_;clear nG
  cases x with
  | keep a b=>
   dsimp only at e
   split at e
   ·cases e;subst_vars;exact hx
   ·cases e
  | out a=>cases e
  | inn a b=>cases e
 ·intro h
  exact⟨_,h,by simp⟩
theorem ah.keepAt_one {f:Nat→Nat→Int} {s:Nat→Int} {c:Nat→Nat→Option Int} {p q:Nat} {l:List St} (h:ah f s c p q l) (p':Nat):ay l p'=[]∨∃ q',ay l p'=[q']:=by
 induction h with
 | nil=>exact .inl rfl
 | @keep p q k l hc he h ih=>
  rw[b8]
  by_cases e:p=p'
  ·subst e;rw[gX h (Nat.le_refl _)];exact .inr ⟨q,by simp[ay]⟩
  ·have:ay [St.keep p q] p'=[]:=by simp[ay,e]
   rw[this,List.append_nil];exact ih
 | @out p q l n e h ih=>rw[b8,show ay [St.out p] p'=[] from rfl,List.append_nil];exact ih
 | @inn p q l n m h ih=>rw[b8,show ay [St.inn p q] p'=[] from rfl,List.append_nil];exact ih
section
variable {A:FL}
noncomputable def Sd.Of (S:Sd A) (i j:Nat) (st:List St):Prop:=ah (a9 A S.B S.l (A.row i) (S.B.row j)) (sA A (A.row i)) (pW S.l (A.row i) (S.B.row j)) (A.row i).length (S.B.row j).length st
theorem Sd.stOf {S:Sd A} {i j:Nat} {st:List St} (hi:i<A.fs.length) (hj:j<S.B.fs.length) (s:S.Of i j st):jN A S.B S.l (i,j) (A.row i) (S.B.row j) st:=⟨FL.row_ok hi,FL.row_ok hj,s⟩
theorem Sd.steps {S:Sd A} {i j:Nat} (h:S.pm i=some j):i<A.fs.length∧j<S.B.fs.length∧∃ st,S.Of i j st:=by
 refine nn fun nG=>?_
 obtain⟨a,b⟩:=S.ok.lt i j h
 obtain⟨ou,th,st,s1,s2,s3⟩:=S.ok.ex i j h
 refine nG ?_;clear nG
 dsimp only at s1 s2
 rw[FL.row_ok a] at s1;cases s1
 rw[FL.row_ok b] at s2;cases s2
 exact⟨a,b,st,s3⟩
theorem Sd.Of.det {S:Sd A} {i j:Nat} {st st':List St} (a:S.Of i j st) (b:S.Of i j st'):st=st':=ah.det a b
theorem Sd.keep {S:Sd A} {i j:Nat} {st:List St} (h:S.pm i=some j) (s:S.Of i j st) {p q:Nat} (k:St.keep p q∈st):S.pm ((A.row i).getD p 0)=some ((S.B.row j).getD q 0):=by
 obtain⟨a,b⟩:=S.ok.lt i j h
 exact S.ok.clo i j _ _ st h (Sd.stOf a b s) ((A.row i).getD p 0,(S.B.row j).getD q 0) (List.mem_map.mpr ⟨(p,q),gF.mpr k,rfl⟩)
theorem Sd.src {S:Sd A} {i p c d:Nat} (hi:i<A.fs.length) (hp:(A.row i)[p]?=some c) (h:S.pm c=some d):∃ j q st,S.pm i=some j∧S.Of i j st∧St.keep p q∈st∧d=(S.B.row j).getD q 0:=by
 refine nn fun nG=>?_
 obtain⟨k1,k2,k3,k4,k5⟩:=FL.kid hi hp
 refine nG ?_;clear nG
 rcases S.ok.src c d h with e | ⟨i',j',ou,th,st,e1,e2,e3⟩
 ·injection e with e;exact(Hh k1 e hi).elim
 ·refine nn fun nG=>?_
  obtain⟨p',q',m1,m2,m3,m4,m5,m6,m7⟩:=pX e2 e3
  refine nG ?_;clear nG
  dsimp only at m2 m3 m4 m5
  rw[k3] at m4;injection m4 with m4;injection m4 with m4
  rw[k4] at m5;injection m5 with m5
  subst m4 m5
  refine nn fun nG=>?_
  obtain⟨a,b⟩:=S.ok.lt _ _ e1
  obtain⟨s1,s2,s3⟩:=e2
  refine nG ?_;clear nG
  dsimp only at s1 s2
  rw[FL.row_ok a] at s1;cases s1
  rw[FL.row_ok b] at s2;cases s2
  refine⟨j',q',st,e1,s3,m1,?_⟩
  rw[List.getD_eq_getElem?_getD,m3];rfl
theorem Sd.kid_none {S:Sd A} {i j p:Nat} {st:List St} (h:S.pm i=some j) (s:S.Of i j st) (hp:p<(A.row i).length) (k:ay st p=[]):S.pm ((A.row i).getD p 0)=none:=by
 obtain⟨a,b⟩:=S.ok.lt i j h
 cases e:S.pm ((A.row i).getD p 0) with
 | none=>rfl
 | some d=>
  refine nn fun nG=>?_
  obtain⟨j',q,st',e1,e2,e3,e4⟩:=Sd.src a (i3 hp) e
  refine nG ?_;clear nG
  rw[h] at e1;cases e1
  have:=e2.det s
  subst this
  have:=jO.mpr e3
  rw[k] at this;cases this
theorem Sd.kid_some {S:Sd A} {i j p q:Nat} {st:List St} (h:S.pm i=some j) (s:S.Of i j st) (k:ay st p=[q]):S.pm ((A.row i).getD p 0)=some ((S.B.row j).getD q 0):=Sd.keep h s (jO.mp (by rw[k];simp))
theorem Sd.kid_dead {S:Sd A} {i p c:Nat} (hi:i<A.fs.length) (h:S.pm i=none) (hp:(A.row i)[p]?=some c):S.pm c=none:=by
 cases e:S.pm c with
 | none=>rfl
 | some d=>
  refine nn fun nG=>?_
  obtain⟨j',q,st',e1,_⟩:=Sd.src hi hp e
  refine nG ?_;clear nG
  rw[h] at e1;cases e1
noncomputable def lH (B:FL) (j q:Nat):AV:=(B.at ((B.row j).getD q 0)).av
theorem Sd.inns {S:Sd A} {i j:Nat} {st:List St} (h:S.pm i=some j) (s:S.Of i j st) (p:Nat):S.ins i p=(aW st p).map (lH S.B j):=by
 obtain⟨a,b⟩:=S.ok.lt i j h
 rw[S.ok.iin i j _ _ st h (Sd.stOf a b s) p]
 unfold fk lH
 refine List.map_congr_left fun q hq=>?_
 have hm:St.inn p q∈st:=by
  unfold aW at hq
  refine nn fun nG=>?_
  obtain⟨x,hx,e⟩:=List.mem_filterMap.mp hq
  refine nG ?_;clear nG
  cases x with
  | keep _ _=>cases e
  | out _=>cases e
  | inn a b=>
   dsimp only at e
   split at e
   ·cases e;subst_vars;exact hx
   ·cases e
 have hl:=(ah.inn_le s p q hm).2
 rw[FL.at_ok (FL.kidAt b hl).2.2]
 rfl
theorem Sd.match {S:Sd A} {i j:Nat} (h:S.pm i=some j):(A.at i).k=(S.B.at j).k∧(A.at i).lb=(S.B.at j).lb:=by
 refine nn fun nG=>?_
 obtain⟨a,b⟩:=S.ok.lt i j h
 obtain⟨c,hc⟩:=S.ok.cst_some h
 refine nG ?_;clear nG
 have:=S.ok.cost.2 i j _ _ _ _ (FL.at_ok a) (FL.at_ok b) (FL.row_ok a) (FL.row_ok b)
 rw[hc] at this
 cases m:yA (A.at i) (S.B.at j) with
 | true=>exact gW.mp m
 | false=>rw[m] at this;simp at this
noncomputable def Sd.exp (E:Sd A) (c:Nat):List AV×List AV:=match E.pm c with
 | some d=>([(E.B.at d).av],[])
 | none=>([],[])
theorem AA {B:FL} {j:Nat} (hj:j<B.fs.length):(List.range (B.row j).length).map (lH B j)=(B.at j).kids.map Fm.av:=by
 rw[FL.kids_eq hj,List.map_map]
 apply List.ext_getElem?
 intro q
 rw[List.getElem?_map,List.getElem?_map]
 by_cases h:q<(B.row j).length
 ·rw[List.getElem?_range h,i3 h]
  rfl
 ·rw[List.getElem?_eq_none (by simp;exact qE h),List.getElem?_eq_none (by exact qE h)]
  rfl
theorem uW {S T E:Sd A} {rows:RW} {i j:Nat} {path:AV} (hj:E.pm i=some j) (hm:∀ p,dJ (S.ins i p) (T.ins i p) path p=(E.ins i p,[])) (hr:∀ (p c:Nat),(A.row i)[p]?=some c→rows c=E.exp c) :
  fM S T rows (A.row i) i path ((A.row i).length+1)=((E.B.at j).kids.map Fm.av,[]):=by
 refine nn fun nG=>?_
 obtain⟨a,b,st,s⟩:=Sd.steps hj
 refine nG ?_;clear nG
 have main:∀ p≤(A.row i).length,fM S T rows (A.row i) i path p=((gL st p).map (lH E.B j),[]):=by
  intro p
  induction p with
  | zero=>intro _;rfl
  | succ p ih=>
   intro hp
   have e1:rows ((A.row i).getD p 0)=((ay st p).map (lH E.B j),[]):=by
    rw[hr p _ (i3 (by exact bU hp))]
    unfold Sd.exp
    rcases ah.keepAt_one s p with e | ⟨q,e⟩
    ·rw[Sd.kid_none hj s (by exact bU hp) e,e];rfl
    ·rw[Sd.kid_some hj s e,e];rfl
   unfold fM gL
   rw[ih (by exact aj hp),hm p,if_pos (by exact bU hp),if_pos (by exact bU hp),e1,Sd.inns hj s p]
   simp
 have g:=ah.gath s
 unfold fM
 rw[main _ (Nat.le_refl _),hm,if_neg (by exact BW),if_neg (by exact BW),Sd.inns hj s]
 simp only[List.append_nil]
 rw[← List.map_append,g,AA b]
structure yX (S T E:Sd A):Prop where
 ins:∀ i p path,i<A.fs.length→dJ (S.ins i p) (T.ins i p) path p=(E.ins i p,[])
 both:∀ i j,E.pm i=some j→∃ j1 j2,S.pm i=some j1∧T.pm i=some j2∧∀ path ch,rK (A.at i) (S.B.at j1) (T.B.at j2) path ch=([.tup [.str (A.at i).k,(A.at i).lb,.str (E.B.at j).v,.tup ((E.B.at j).at_.map dF),.tup ch.1]],ch.2)
 gone:∀ i,i<A.fs.length→E.pm i=none→∀ rows path,da S T rows i path=([],[])
theorem yX.row {S T E:Sd A} (e:yX S T E) {rows:RW} {k:Nat} (hk:k≤A.fs.length) (h:∀ c<k,df S T rows c):∀ c<k,rows c=E.exp c:=by
 intro c
 induction c using Nat.strongRecOn with
 | _ c ih=>
  intro hc
  refine nn fun nG=>?_
  obtain⟨l,_,er⟩:=h c hc
  refine nG ?_;clear nG
  rw[er]
  cases m:E.pm c with
  | none=>rw[e.gone c (by exact tY hc hk) m];unfold Sd.exp;rw[m]
  | some j=>
   refine nn fun nG=>?_
   obtain⟨j1,j2,h1,h2,h3⟩:=e.both c j m
   refine nG ?_;clear nG
   have kids:∀ (p c':Nat),(A.row c)[p]?=some c'→rows c'=E.exp c':=fun p c' hp=>by
    have:=(FL.kid (show c<A.fs.length by exact tY hc hk) hp).1
    exact ih c' this (by exact wT this hc)
   unfold da
   rw[h1,h2]
   dsimp only
   rw[h3,uW m (fun p=>e.ins c p _ (by exact tY hc hk)) kids]
   unfold Sd.exp
   rw[m]
   dsimp only
   rw[(E.B.at j).av_eq,(Sd.match m).1,(Sd.match m).2]
theorem yX.chl {S T E:Sd A} (e:yX S T E) {rows:RW} {i j:Nat} {path:AV} (hi:i<A.fs.length) (hj:E.pm i=some j) (h:∀ c<i,df S T rows c):fM S T rows (A.row i) i path ((A.row i).length+1)=((E.B.at j).kids.map Fm.av,[]):=
 uW hj (fun p=>e.ins i p _ hi) fun p c hp=>e.row (Nat.le_of_lt hi) h c (FL.kid hi hp).1
theorem yX.top {S T E:Sd A} (e:yX S T E) {rows:RW} {f:AV} {cl:List AV} (h:∀ c<A.fs.length,df S T rows c) (ht:rows (A.fs.length-1)=([f],cl)):f=E.B.root.av∧cl=[]:=by
 have q:=e.row (Nat.le_refl _) h (A.fs.length-1) (FL.topLt A)
 rw[ht] at q
 unfold Sd.exp at q
 have t:=E.ok.top
 cases m:E.pm (A.fs.length-1) with
 | none=>rw[m] at q;simp at q
 | some j=>
  rw[m] at q t
  have ej:j=E.B.fs.length-1:=by
   refine nn fun nG=>?_
   obtain⟨c,_,e2⟩:=Option.map_eq_some_iff.mp t.symm
   refine nG ?_;clear nG
   exact e2.symm
  simp only[Prod.mk.injEq,List.cons.injEq,and_true] at q
  rw[ej,FL.topAt] at q
  exact q
end
theorem tE (f g:Fm):0≤oV f g:=Int.add_nonneg (by split <;> decide) (Int.natCast_nonneg _)
theorem yY (f:Fm):oV f f=0:=by unfold oV zu;simp
theorem gY {A B:FL} {l:List (List Int×AV)} (h:eO A B l) {i j:Nat} (hi:i<A.fs.length) (hj:j<B.fs.length):gK l i j=if yA (A.at i) (B.at j)=true then some (oV (A.at i) (B.at j)+a9 A B l (A.row i) (B.row j) (A.row i).length (B.row j).length) else none:=
 h.2 i j _ _ _ _ (FL.at_ok hi) (FL.at_ok hj) (FL.row_ok hi) (FL.row_ok hj)
theorem tG {A B:FL} {l:List (List Int×AV)} (h:eO A B l):∀ i<A.fs.length,∀ j<B.fs.length,∀ k,gK l i j=some k→0≤k:=by
 intro i
 induction i using Nat.strongRecOn with
 | _ i ih=>
  intro hi j hj k hk
  rw[gY h hi hj] at hk
  split at hk
  ·cases hk
   have a:=tE (A.at i) (B.at j)
   have b:0≤a9 A B l (A.row i) (B.row j) (A.row i).length (B.row j).length:=
    kU (fun p hp=>by rw[iI hi hp];exact rv) (fun q hq=>by rw[iI hj hq];exact rv) (fun p q k hp hq hk=>ih _ (FL.kidAt hi hp).1 (FL.kidAt hi hp).2.2 _ (FL.kidAt hj hq).2.2 k hk) _ _ (Nat.le_refl _) (Nat.le_refl _)
   exact qG a b
  ·cases hk
theorem fN {A B:FL} {i j:Nat} (hi:i<A.fs.length) (hj:j<B.fs.length) (e:A.at i=B.at j):(A.row i).length=(B.row j).length∧∀ p<(A.row i).length,A.at ((A.row i).getD p 0)=B.at ((B.row j).getD p 0):=by
 have l:(A.row i).length=(B.row j).length:=by rw[FL.row_len' hi,FL.row_len' hj,e]
 refine⟨l,fun p hp=>?_⟩
 have a:=(FL.kidAt hi hp).2.1
 have b:=(FL.kidAt hj (p:=p) (by exact dz hp l)).2.1
 rw[e,b] at a
 injection a with a
 exact a.symm
theorem mw {A B:FL} {l:List (List Int×AV)} (h:eO A B l):∀ i<A.fs.length,∀ j<B.fs.length,A.at i=B.at j→gK l i j=some 0∧∀ p≤(A.row i).length,a9 A B l (A.row i) (B.row j) p p=0:=by
 intro i
 induction i using Nat.strongRecOn with
 | _ i ih=>
  intro hi j hj e
  obtain⟨l1,l2⟩:=fN hi hj e
  have d:∀ p≤(A.row i).length,a9 A B l (A.row i) (B.row j) p p=0:=
   zz (n:=(A.row i).length) (fun p hp=>by rw[iI hi hp];exact rv) (fun q hq=>by rw[iI hj (by exact dz hq l1)];exact rv) (fun p q k hp hq hk=>tG h _ (FL.kidAt hi hp).2.2 _ (FL.kidAt hj (p:=q) (by exact dz hq l1)).2.2 k hk)
    fun p hp=>(ih _ (FL.kidAt hi hp).1 (FL.kidAt hi hp).2.2 _ (FL.kidAt hj (p:=p) (by exact dz hp l1)).2.2 (l2 p hp)).1
  refine⟨?_,d⟩
  rw[gY h hi hj,if_pos (gW.mpr (by rw[e];exact⟨rfl,rfl⟩)),← l1,d _ (Nat.le_refl _),e,yY]
  rfl
theorem vX {s t s' t':Nat→Int} {c c':Nat→Nat→Option Int} {n m:Nat} (hs:∀ p<n,s p=t p) (hs':∀ q<m,s' q=t' q) (hc:∀ p q,p<n→q<m→c p q=c' p q):∀ p q,p≤n→q≤m→Tb s s' c p q=Tb t t' c' p q:=by
 intro p
 induction p with
 | zero=>
  intro q
  show _→_→jn s' q=jn t' q
  induction q with
  | zero=>intro _ _;rfl
  | succ q ih=>
   intro h1 h2
   show jn s' q+s' q=jn t' q+t' q
   rw[ih h1 (by exact aj h2),hs' q (by exact bU h2)]
 | succ p ihp=>
  intro q
  show _→_→rF (Tb s s' c p) (s p) s' (c p) q=rF (Tb t t' c' p) (t p) t' (c' p) q
  induction q with
  | zero=>
   intro h1 h2
   show Tb s s' c p 0+s p=Tb t t' c' p 0+t p
   rw[ihp 0 (by exact aj h1) (by exact kj),hs p (by exact bU h1)]
  | succ q ih=>
   intro h1 h2
   exact mh (by rw[ihp (q+1) (by exact aj h1) h2,hs p (by exact bU h1)]) (by rw[ih h1 (by exact aj h2),hs' q (by exact bU h2)]) (hc p q (by exact bU h1) (by exact bU h2)) (ihp q (by exact aj h1) (by exact aj h2))
theorem kX {A B B':FL} {l l':List (List Int×AV)} (h:eO A B l) (h':eO A B' l'):∀ i<A.fs.length,∀ j<B.fs.length,∀ j'<B'.fs.length,B.at j=B'.at j'→gK l i j=gK l' i j'∧∀ p q,p≤(A.row i).length→q≤(B.row j).length→a9 A B l (A.row i) (B.row j) p q=a9 A B' l' (A.row i) (B'.row j') p q:=by
 intro i
 induction i using Nat.strongRecOn with
 | _ i ih=>
  intro hi j hj j' hj' e
  obtain⟨l1,l2⟩:=fN hj hj' e
  have d:∀ p q,p≤(A.row i).length→q≤(B.row j).length→a9 A B l (A.row i) (B.row j) p q=a9 A B' l' (A.row i) (B'.row j') p q:=
   vX (fun p hp=>rfl) (fun q hq=>by rw[iI hj hq,iI hj' (by exact dz hq l1),l2 q hq]) fun p q hp hq=>(ih _ (FL.kidAt hi hp).1 (FL.kidAt hi hp).2.2 _ (FL.kidAt hj hq).2.2 _ (FL.kidAt hj' (p:=q) (by exact dz hq l1)).2.2 (l2 q hq)).1
  refine⟨?_,d⟩
  rw[gY h hi hj,gY h' hi hj',e,d _ _ (Nat.le_refl _) (Nat.le_refl _),l1]
section
variable {A:FL}
theorem yZ (n p:Nat):aW (idl n) p=[]:=by
 unfold aW idl
 rw[List.filterMap_eq_nil_iff]
 intro x hx
 refine nn fun nG=>?_
 obtain⟨q,_,rfl⟩:=List.mem_map.mp hx
 refine nG ?_;clear nG
 rfl
theorem AB {n p:Nat} (h:p<n):St.keep p p∈idl n:=List.mem_map.mpr ⟨p,List.mem_range.mpr h,rfl⟩
theorem y0 {S:Sd A} {i j:Nat} (h:S.pm i=some j) (e:S.B.at j=A.at i):S.Of i j (idl (A.row i).length)∧(A.row i).length=(S.B.row j).length∧gK S.l i j=some 0:=by
 refine nn fun nG=>?_
 obtain⟨a,b⟩:=S.ok.lt i j h
 obtain⟨l1,l2⟩:=fN a b e.symm
 obtain⟨z1,z2⟩:=mw S.ok.cost i a j b e.symm
 refine nG ?_;clear nG
 refine⟨?_,l1,z1⟩
 unfold Sd.Of
 rw[← l1]
 exact ah.idl (n:=(A.row i).length) (fun p hp=>(mw S.ok.cost _ (FL.kidAt a hp).2.2 _ (FL.kidAt b (p:=p) (by exact dz hp l1)).2.2 (l2 p hp)).1) z2 _ (Nat.le_refl _)
noncomputable def zB (S:Sd A):Prop:=∀ i<A.fs.length,∃ j,S.pm i=some j∧S.B.at j=A.at i
theorem zB.of {S:Sd A} (h:S.B.root=A.root):zB S:=by
 refine FL.down (P:=fun i=>∃ j,S.pm i=some j∧S.B.at j=A.at i) A ?_ fun i j p hj hP hr=>?_
 ·have e:A.at (A.fs.length-1)=S.B.at (S.B.fs.length-1):=by rw[FL.topAt,FL.topAt,h]
  refine⟨_,?_,e.symm⟩
  rw[S.ok.top,(mw S.ok.cost _ (FL.topLt A) _ (FL.topLt S.B) e).1]
  rfl
 ·refine nn fun nG=>?_
  obtain⟨j',h1,h2⟩:=hP
  obtain⟨a,b⟩:=S.ok.lt _ _ h1
  obtain⟨s,l,_⟩:=y0 h1 h2
  refine nG ?_;clear nG
  have hp:p<(A.row j).length:=(bj hr)
  have k:=Sd.keep h1 s (AB hp)
  have ei:(A.row j).getD p 0=i:=by rw[List.getD_eq_getElem?_getD,hr];rfl
  have q:=(fN a b h2.symm).2 p hp
  rw[ei] at k q
  exact⟨_,k,q.symm⟩
theorem zB.ins {S:Sd A} (h:zB S) {i:Nat} (hi:i<A.fs.length) (p:Nat):S.ins i p=[]:=by
 refine nn fun nG=>?_
 obtain⟨j,h1,h2⟩:=h i hi
 refine nG ?_;clear nG
 rw[Sd.inns h1 (y0 h1 h2).1,yZ];rfl
theorem zB.kept {S:Sd A} (h:zB S) {i j:Nat} (h1:S.pm i=some j) (who:Int) (path:AV):iG S i j who path=([],[]):=by
 refine nn fun nG=>?_
 obtain⟨a,_⟩:=S.ok.lt _ _ h1
 obtain⟨j',h2,h3⟩:=h i a
 refine nG ?_;clear nG
 rw[h1] at h2;cases h2
 unfold iG
 rw[(y0 h1 h3).2.2]
 rfl
noncomputable def vY (S T:Sd A):Prop:=∀ i<A.fs.length,(S.pm i=none∧T.pm i=none)∨∃ j j',S.pm i=some j∧T.pm i=some j'∧S.B.at j=T.B.at j'
theorem uX {S T:Sd A} {i j j':Nat} {st:List St} (h1:S.pm i=some j) (h2:T.pm i=some j') (e:S.B.at j=T.B.at j') (s:S.Of i j st):T.Of i j' st:=by
 refine nn fun nG=>?_
 obtain⟨a,b⟩:=S.ok.lt _ _ h1
 obtain⟨_,b'⟩:=T.ok.lt _ _ h2
 obtain⟨l1,l2⟩:=fN b b' e
 refine nG ?_;clear nG
 have d:=(kX S.ok.cost T.ok.cost i a j b j' b' e).2
 unfold Sd.Of at s ⊢
 rw[← l1]
 exact ah.congr s d (fun _ _=>rfl) fun p q hp hq=>(kX S.ok.cost T.ok.cost _ (FL.kidAt a hp).2.2 _ (FL.kidAt b hq).2.2 _ (FL.kidAt b' (p:=q) (by exact dz hq l1)).2.2 (l2 q hq)).1
theorem vY.of {S T:Sd A} (h:S.B.root=T.B.root):vY S T:=by
 refine FL.down (P:=fun i=>(S.pm i=none∧T.pm i=none)∨∃ j j',S.pm i=some j∧T.pm i=some j'∧S.B.at j=T.B.at j') A ?_ fun i j p hj hP hr=>?_
 ·have e:S.B.at (S.B.fs.length-1)=T.B.at (T.B.fs.length-1):=by rw[FL.topAt,FL.topAt,h]
  have q:=(kX S.ok.cost T.ok.cost _ (FL.topLt A) _ (FL.topLt S.B) _ (FL.topLt T.B) e).1
  rw[S.ok.top,T.ok.top,q]
  cases gK T.l (A.fs.length-1) (T.B.fs.length-1) with
  | none=>exact .inl ⟨rfl,rfl⟩
  | some c=>exact .inr ⟨_,_,rfl,rfl,e⟩
 ·rcases hP with⟨h1,h2⟩ | ⟨j1,j2,h1,h2,e⟩
  ·exact .inl ⟨Sd.kid_dead hj h1 hr,Sd.kid_dead hj h2 hr⟩
  ·refine nn fun nG=>?_
   obtain⟨a,b,st,s⟩:=Sd.steps h1
   obtain⟨_,b'⟩:=T.ok.lt _ _ h2
   refine nG ?_;clear nG
   have s':=uX h1 h2 e s
   have hp:p<(A.row j).length:=(bj hr)
   have ei:(A.row j).getD p 0=i:=by rw[List.getD_eq_getElem?_getD,hr];rfl
   rcases ah.keepAt_one s p with k | ⟨q,k⟩
   ·left
    have x:=Sd.kid_none h1 s hp k
    have y:=Sd.kid_none h2 s' hp k
    rw[ei] at x y
    exact⟨x,y⟩
   ·right
    have x:=Sd.kid_some h1 s k
    have y:=Sd.kid_some h2 s' k
    rw[ei] at x y
    have hq:=(ah.keep_lt s p q (jO.mp (by rw[k];simp))).2.1
    exact⟨_,_,x,y,(fN b b' e).2 q hq⟩
theorem vY.ins {S T:Sd A} (h:vY S T) {i:Nat} (hi:i<A.fs.length) (p:Nat):S.ins i p=T.ins i p:=by
 rcases h i hi with⟨h1,h2⟩ | ⟨j1,j2,h1,h2,e⟩
 ·rw[S.ok.iout i h1,T.ok.iout i h2]
 ·refine nn fun nG=>?_
  obtain⟨a,b,st,s⟩:=Sd.steps h1
  obtain⟨_,b'⟩:=T.ok.lt _ _ h2
  refine nG ?_;clear nG
  have s':=uX h1 h2 e s
  rw[Sd.inns h1 s,Sd.inns h2 s']
  refine List.map_congr_left fun q hq=>?_
  have hm:St.inn p q∈st:=by
   unfold aW at hq
   refine nn fun nG=>?_
   obtain⟨x,hx,e⟩:=List.mem_filterMap.mp hq
   refine nG ?_;clear nG
   cases x with
   | keep _ _=>cases e
   | out _=>cases e
   | inn a b=>
    dsimp only at e
    split at e
    ·cases e;subst_vars;exact hx
    ·cases e
  have hl:=(ah.inn_le s p q hm).2
  unfold lH
  rw[(fN b b' e).2 q hl]
end
inductive dt (P:Fm→Prop):Fm→Prop
 | mk {f:Fm}:P f→(∀ g∈f.kids,dt P g)→dt P f
theorem dt.here {P:Fm→Prop} {f:Fm} (h:dt P f):P f:=by cases h;assumption
theorem dt.kid {P:Fm→Prop} {f g:Fm} {p:Nat} (h:dt P f) (hg:f.kids[p]?=some g):dt P g:=by
 cases h with
 | mk _ k=>exact k _ (List.mem_of_getElem? hg)
theorem dt.fs {P:Fm→Prop} {F:FL} (h:dt P F.root):∀ f∈F.fs,P f:=fun f hf=>(F.all h (fun _ _ _ a b=>a.kid b) f hf).here
theorem oe {x y:Str} {l:List Str} (nd:l.Nodup) (h:∀ k∈l,k=x∨k=y):l=[]∨l=[x]∨l=[y]∨l=[x,y]∨l=[y,x]:=by
 match l,nd,h with
 | [],_,_=>exact .inl rfl
 | [a],_,h=>
  rcases h a (by simp) with rfl | rfl
  ·exact .inr (.inl rfl)
  ·exact .inr (.inr (.inl rfl))
 | [a,b],nd,h=>
  have ne:a≠b:=by simpa using nd
  rcases h a (by simp) with rfl | rfl <;> rcases h b (by simp) with rfl | rfl
  ·exact absurd rfl ne
  ·exact .inr (.inr (.inr (.inl rfl)))
  ·exact .inr (.inr (.inr (.inr rfl)))
  ·exact absurd rfl ne
 | a::b::c::r,nd,h=>
  exfalso
  have n1:a≠b:=fun e=>by subst e;simp at nd
  have n2:a≠c:=fun e=>by subst e;simp at nd
  have n3:b≠c:=fun e=>by subst e;simp at nd
  rcases h a (by simp) with e1 | e1 <;> rcases h b (by simp) with e2 | e2 <;> rcases h c (by simp) with e3 | e3 <;> simp_all
theorem pb {x y:Str} {l:List Str} (nd:l.Nodup) (h:∀ k∈l,k=x∨k=y):l.length≤2:=by
 rcases oe nd h with rfl | rfl | rfl | rfl | rfl <;> simp
structure pz (x y:Str) (f:Fm):Prop where
 nd:(f.at_.map (·.1)).Nodup
 mem:∀ k∈f.at_.map (·.1),k=x∨k=y
theorem pz.len {x y:Str} {f:Fm} (h:pz x y f):f.at_.length≤2:=by have:=pb h.nd h.mem;rwa [List.length_map] at this
theorem my (l:List Str):(mq l).Nodup:=by
 unfold mq
 suffices h:∀ acc:List Str,acc.Nodup→(l.foldl (fun acc k=>if k∈acc then acc else acc++[k]) acc).Nodup from h [] List.nodup_nil
 induction l with
 | nil=>intro acc h;exact h
 | cons k r ih=>
  intro acc h
  refine ih _ ?_
  show(if k∈acc then acc else acc++[k]).Nodup
  split
  ·exact h
  ·rename_i n
   rw[List.nodup_append]
   refine⟨h,by simp,fun a ha b hb e=>?_⟩
   simp at hb
   subst hb e
   exact n ha
theorem y5 {x y:Str} {f g:Fm} (o1:f.av.ok 36=true) (o2:g.av.ok 36=true) (h:pz x y f) (k:pz x y g):zA f g:=by
 refine⟨o1,o2,h.nd,k.nd,pb (x:=x) (y:=y) ?_ fun z hz=>?_,by have:=k.len;exact Aa this⟩
 ·unfold iW
  rw[List.nodup_append]
  refine⟨h.nd,k.nd.filter _,fun a ha b hb e=>?_⟩
  subst e
  have:=(List.mem_filter.mp hb).2
  rw[Option.isNone_iff_eq_none] at this
  exact mc this ha
 ·unfold iW at hz
  rcases List.mem_append.mp hz with q | q
  ·exact h.mem z q
  ·exact k.mem z (List.mem_filter.mp q).1
theorem og {b o t:Fm} {z:Str}:z∈bC b o t↔z∈b.at_.map (·.1)∨z∈o.at_.map (·.1)∨z∈t.at_.map (·.1):=by
 unfold bC
 rw[yS]
 simp only[List.mem_append]
 constructor
 ·rintro((h | h) | h)
  ·exact .inl h
  ·exact .inr (.inl h)
  ·exact .inr (.inr h)
 ·rintro(h | h | h)
  ·exact .inl (.inl h)
  ·exact .inl (.inr h)
  ·exact .inr h
theorem oh {x y:Str} {b o t:Fm} (h:pz x y b) (k:pz x y o) (m:pz x y t):∀ z∈bC b o t,z=x∨z=y:=fun z hz=>by
 rcases og.mp hz with q | q | q
 ·exact h.mem z q
 ·exact k.mem z q
 ·exact m.mem z q
theorem y6 {x y:Str} {b o t:Fm} (o1:b.av.ok 36=true) (o2:o.av.ok 36=true) (o3:t.av.ok 36=true) (h:pz x y b) (k:pz x y o) (m:pz x y t):Im b o t:=
 ⟨o1,o2,o3,h.nd,k.nd,m.nd,by have:=h.len;exact wi this,by have:=k.len;exact wi this,by have:=m.len;exact wi this,pb (my _) (oh h k m)⟩
noncomputable abbrev KS (f:Fm):Prop:=(f.at_.map (·.1)).Sublist [kK,kM]
theorem km:kK≠kM:=by decide +kernel
theorem KS.kin {f:Fm} (h:KS f):pz kK kM f:=⟨h.nodup (by simp[km]),fun k hk=>by simpa using h.subset hk⟩
theorem Cw {x y:Str} {l:List Str} (h:l.Sublist [x,y]):l=[]∨l=[x]∨l=[y]∨l=[x,y]:=by
 cases h with
 | cons _ h=>
  cases h with
  | cons _ h=>cases h;exact .inl rfl
  | cons_cons _ h=>cases h;exact .inr (.inr (.inl rfl))
 | cons_cons _ h=>
  cases h with
  | cons _ h=>cases h;exact .inr (.inl rfl)
  | cons_cons _ h=>cases h;exact .inr (.inr (.inr rfl))
theorem rS:aY [kK,kM]=[kK,kM]∧aY [kM,kK]=[kK,kM]:=by decide +kernel
theorem vZ {l:List Str} (nd:l.Nodup) (h:∀ k∈l,k=kK∨k=kM):(aY l).Sublist [kK,kM]:=by
 rcases oe nd h with rfl | rfl | rfl | rfl | rfl
 ·exact List.nil_sublist _
 ·exact List.Sublist.cons_cons _ (List.nil_sublist _)
 ·exact List.Sublist.cons _ (List.Sublist.refl _)
 ·rw[rS.1];exact List.Sublist.refl _
 ·rw[rS.2];exact List.Sublist.refl _
theorem Cy {a:List (Str×Str)} {l:List Str} (ha:(a.map (·.1)).Sublist [kK,kM]) (hl:l.Sublist [kK,kM]) (sub:∀ k∈a.map (·.1),k∈l):l.filterMap (fun k=>(cO a k).map fun v=>dF (k,v))=a.map dF:=by
 have n:=km
 have n':=km.symm
 match a,ha,sub with
 | [],_,_=>
  show l.filterMap (fun k=>(cO [] k).map fun v=>dF (k,v))=[]
  rw[List.filterMap_eq_nil_iff];exact fun k _=>rfl
 | [(k,v)],ha,sub=>
  have hk:k=kK∨k=kM:=by simpa using ha.subset (show k∈_ by simp)
  have hm:=sub k (by simp)
  rcases hk with rfl | rfl <;> rcases Cw hl with rfl | rfl | rfl | rfl <;> simp_all[cO]
 | [(k,v),(k',v')],ha,sub=>
  have e:=Cw ha
  simp at e
  obtain⟨rfl,rfl⟩:=e
  have h1:=sub kK (by simp)
  have h2:=sub kM (by simp)
  rcases Cw hl with rfl | rfl | rfl | rfl <;> simp_all[cO]
 | a::b::c::r,ha,sub=>have:=ha.length_le;simp at this
theorem y7 {b o t w:Fm} {path:AV} {ch:List AV×List AV} (hv:gw b o t path=(w.v,[])) (ht:∀ k,gH b o t k=cO w.at_ k) (hc:∀ k,fK b o t path k=none) (k1:KS b) (k2:KS o) (k3:KS t) (hw:w=o∨w=t) :
  rK b o t path ch=([.tup [.str b.k,b.lb,.str w.v,.tup (w.at_.map dF),.tup ch.1]],ch.2):=by
 have kw:KS w:=by rcases hw with rfl | rfl <;> assumption
 have e1:jp b o t (aY (bC b o t))=w.at_.map dF:=by
  unfold jp
  simp only[ht]
  refine Cy kw (vZ (my _) (oh k1.kin k2.kin k3.kin)) fun k hk=>?_
  rw[oU,og]
  rcases hw with rfl | rfl
  ·exact .inr (.inl hk)
  ·exact .inr (.inr hk)
 have e2:jq b o t path (aY (bC b o t))=[]:=by unfold jq;rw[List.filterMap_eq_nil_iff];exact fun k _=>hc k
 unfold rK
 rw[e1,e2,hv]
 rfl
theorem Ip {b o:Fm} {path:AV} {ch:List AV×List AV} (k1:KS b) (k2:KS o):rK b o b path ch=([.tup [.str b.k,b.lb,.str o.v,.tup (o.at_.map dF),.tup ch.1]],ch.2):=
 y7 (w:=o) (by unfold gw;rw[if_pos (.inr rfl)]) (fun k=>by
  unfold gH
  by_cases e:cO o.at_ k=cO b.at_ k
  ·rw[if_pos e];exact e.symm
  ·rw[if_neg e]) (fun k=>by unfold fK;rw[if_neg (fun h=>h.2.1 rfl)]) k1 k2 k1 (.inl rfl)
theorem Iq {b o:Fm} {path:AV} {ch:List AV×List AV} (k1:KS b) (k2:KS o):rK b b o path ch=([.tup [.str b.k,b.lb,.str o.v,.tup (o.at_.map dF),.tup ch.1]],ch.2):=
 y7 (w:=o) (by
  unfold gw
  split
  ·rename_i h
   rcases h with h | h
   ·rw[h]
   ·rw[h]
  ·rw[if_pos rfl]) (fun k=>by unfold gH;rw[if_pos rfl]) (fun k=>by unfold fK;rw[if_neg (fun h=>h.1 rfl)]) k1 k1 k2 (.inr rfl)
theorem Ir {b o:Fm} {path:AV} {ch:List AV×List AV} (k1:KS b) (k2:KS o):rK b o o path ch=([.tup [.str b.k,b.lb,.str o.v,.tup (o.at_.map dF),.tup ch.1]],ch.2):=
 y7 (w:=o) (by unfold gw;rw[if_pos (.inl rfl)]) (fun k=>by unfold gH;split <;> rfl) (fun k=>by unfold fK;rw[if_neg (fun h=>h.2.2 rfl)]) k1 k2 k2 (.inl rfl)
section
variable {A:FL}
theorem kY (a:List AV) (path:AV) (p:Nat):dJ a [] path p=(a,[]):=by unfold dJ;rw[if_pos (.inl rfl)]
theorem y8 (a:List AV) (path:AV) (p:Nat):dJ [] a path p=(a,[]):=by
 unfold dJ
 split
 ·rename_i h
  rcases h with h | h
  ·rw[h]
  ·rw[← h]
 ·rw[if_pos rfl]
theorem y9 (a:List AV) (path:AV) (p:Nat):dJ a a path p=(a,[]):=by unfold dJ;rw[if_pos (.inr rfl)]
noncomputable abbrev zC (F:FL):Prop:=∀ i<F.fs.length,KS (F.at i)
theorem Kh {S T:Sd A} (h:zB T) (kA:zC A) (kS:zC S.B):yX S T S:=by
 refine⟨fun i p path hi=>by rw[h.ins hi];exact kY _ _ _,fun i j hj=>?_,fun i hi hn rows path=>?_⟩
 ·obtain⟨a,b⟩:=S.ok.lt _ _ hj
  obtain⟨j2,h1,h2⟩:=h i a
  exact⟨j,j2,hj,h1,fun path ch=>by rw[h2];exact Ip (kA i a) (kS j b)⟩
 ·obtain⟨j2,h1,h2⟩:=h i hi
  unfold da
  rw[hn,h1]
  exact h.kept h1 1 path
theorem Ki {S T:Sd A} (h:zB S) (kA:zC A) (kT:zC T.B):yX S T T:=by
 refine⟨fun i p path hi=>by rw[h.ins hi];exact y8 _ _ _,fun i j hj=>?_,fun i hi hn rows path=>?_⟩
 ·obtain⟨a,b⟩:=T.ok.lt _ _ hj
  obtain⟨j2,h1,h2⟩:=h i a
  exact⟨j2,j,h1,hj,fun path ch=>by rw[h2];exact Iq (kA i a) (kT j b)⟩
 ·obtain⟨j2,h1,h2⟩:=h i hi
  unfold da
  rw[hn,h1]
  exact h.kept h1 2 path
theorem Kj {S T:Sd A} (h:vY S T) (kA:zC A) (kS:zC S.B):yX S T S:=by
 refine⟨fun i p path hi=>by rw[← h.ins hi];exact y9 _ _ _,fun i j hj=>?_,fun i hi hn rows path=>?_⟩
 ·obtain⟨a,b⟩:=S.ok.lt _ _ hj
  rcases h i a with⟨h1,_⟩ | ⟨j1,j2,h1,h2,e⟩
  ·rw[hj] at h1;cases h1
  ·rw[hj] at h1;cases h1
   exact⟨j,j2,hj,h2,fun path ch=>by rw[← e];exact Ir (kA i a) (kS j b)⟩
 ·rcases h i hi with⟨h1,h2⟩ | ⟨j1,j2,h1,_⟩
  ·unfold da;rw[h1,h2]
  ·rw[hn] at h1;cases h1
end
theorem v4 {f:Fm} (h:∀ g∈f.kids,DN g):kR (f.kids.map Fm.av):=by
 intro i x hx
 rw[List.getElem?_map] at hx
 obtain⟨g,hg,rfl⟩:=Option.map_eq_some_iff.mp hx
 have d:=h g (List.mem_of_getElem? hg)
 exact⟨g.k,.str g.v,⟨g.lb,_,_,g.av_eq⟩,d.okk,fun e=>absurd e d.nt⟩
theorem DV {F:FL} (h:dt DN F.root):zC F:=fun i hi=>(h.fs _ (FL.at_mem hi)).keys
theorem Cz {A:FL} {S T E:Sd A} (e:yX S T E) (dA:dt DN A.root) (dS:dt DN S.B.root) (dT:dt DN T.B.root) (dE:dt DN E.B.root):MJ S T:=by
 intro rows i j j' hi hr hj hj'
 have b1:=(S.ok.lt _ _ hj).2
 have b2:=(T.ok.lt _ _ hj').2
 refine⟨y6 (x:=kK) (y:=kM) (A.ok.ok _ (FL.at_mem hi)) (S.B.ok.ok _ (FL.at_mem b1)) (T.B.ok.ok _ (FL.at_mem b2)) (DV dA i hi).kin (DV dS j b1).kin (DV dT j' b2).kin,fun l _=>?_⟩
 cases m:E.pm i with
 | none=>
  exfalso
  have:=e.gone i hi m rows (.tup [])
  unfold da at this
  rw[hj,hj'] at this
  unfold rK at this
  simp at this
 | some k=>
  rw[e.chl hi m hr]
  have b3:=(E.ok.lt _ _ m).2
  refine v4 fun g hg=>?_
  obtain⟨p,hp⟩:=List.mem_iff_getElem?.mp hg
  have q:=E.B.all dE (fun _ _ _ a b=>a.kid b) _ (FL.at_mem b3)
  exact(q.kid hp).here
structure io (f:Fm):Prop where
 all:dt DN f
 ok:f.av.ok 36=true
 size:f.size≤12
inductive LJ (as:List AV) (hp:Hp) (P:AV→Hp→Prop):Prop
 | mk (b o t w:Fm):as=[b.av,o.av,t.av]→io b→io o→io t→((t=b∧w=o)∨(o=b∧w=t)∨(o=t∧w=o))→(∀ r hp',Kp hp hp'→hp'[r]?=some (.list [])→P (.tup [w.av,.ref r]) hp')→LJ as hp P
theorem yb {b o t:Fm} (d1:dt DN b) (d2:dt DN o) (d3:dt DN t):∀ A B:FL,A.root=b→B.root=o∨B.root=t→∀ f∈A.fs,∀ g∈B.fs,zA f g:=by
 intro A B e1 e2 f hf g hg
 subst e1
 have dB:dt DN B.root:=by rcases e2 with e | e <;> (rw[e];assumption)
 exact y5 (x:=kK) (y:=kM) (A.ok.ok _ hf) (B.ok.ok _ hg) (KS.kin (d1.fs _ hf).keys) (KS.kin (dB.fs _ hg).keys)
theorem iJ {as:List AV} {hp:Hp} {P:AV→Hp→Prop} (h:LJ as hp P):iY as hp P:=by
 obtain⟨b,o,t,w,rfl,d1,d2,d3,use,hP⟩:=h
 have eff:∀ (A:FL) (S T:Sd A),A.root=b→S.B.root=o→T.B.root=t→∃ E:Sd A,yX S T E∧E.B.root=w∧dt DN E.B.root:=by
  intro A S T e1 e2 e3
  have kA:zC A:=DV (by rw[e1];exact d1.all)
  have kS:zC S.B:=DV (by rw[e2];exact d2.all)
  have kT:zC T.B:=DV (by rw[e3];exact d3.all)
  rcases use with⟨u,v⟩ | ⟨u,v⟩ | ⟨u,v⟩
  ·exact⟨S,Kh (zB.of (by rw[e1,e3,u])) kA kS,by rw[e2,v],by rw[e2];exact d2.all⟩
  ·exact⟨T,Ki (zB.of (by rw[e1,e2,u])) kA kT,by rw[e3,v],by rw[e3];exact d3.all⟩
  ·exact⟨S,Kj (vY.of (by rw[e2,e3,u])) kA kS,by rw[e2,v],by rw[e2];exact d2.all⟩
 refine⟨b,o,t,rfl,d1.ok,d2.ok,d3.ok,d1.size,d2.size,d3.size,yb d1.all d2.all d3.all,fun A S T e1 e2 e3=>?_,fun A S T r f cl hp' e1 e2 e3 k hr m=>?_⟩
 ·obtain⟨E,e,_,q⟩:=eff A S T e1 e2 e3
  exact Cz e (by rw[e1];exact d1.all) (by rw[e2];exact d2.all) (by rw[e3];exact d3.all) q
 ·obtain⟨E,e,ew,q⟩:=eff A S T e1 e2 e3
  have fin:f=w.av∧cl=[]:=by
   rcases m with⟨rows,m1,_,_,m2⟩ | ⟨_,m⟩
   ·have:=e.top m1 m2
    rw[ew] at this
    exact this
   ·rw[e1,e2,e3] at m
    rcases m with⟨a,rfl,rfl⟩ | ⟨n,⟨a,rfl,rfl⟩ | ⟨a,rfl,rfl⟩⟩
    ·rcases use with⟨rfl,rfl⟩ | ⟨rfl,rfl⟩ | ⟨rfl,rfl⟩
     ·exact⟨rfl,rfl⟩
     ·rcases a with a | a
      ·exact⟨a.symm,rfl⟩
      ·exact⟨a,rfl⟩
     ·exact⟨rfl,rfl⟩
    ·rcases use with⟨rfl,rfl⟩ | ⟨rfl,rfl⟩ | ⟨rfl,rfl⟩
     ·exact absurd (.inl rfl) n
     ·exact⟨rfl,rfl⟩
     ·exact absurd (.inr rfl) n
    ·rcases use with⟨rfl,rfl⟩ | ⟨rfl,rfl⟩ | ⟨rfl,rfl⟩
     ·exact absurd (.inl rfl) n
     ·exact absurd rfl a
     ·exact absurd (.inr rfl) n
  obtain⟨rfl,rfl⟩:=fin
  exact hP r hp' k hr
theorem uY {n:Nat} {x:AV} {k:Nat} {hp:Hp} {P:AV→Hp→Prop} (hn:hp[n]?=some (.list [x])) (hk:k≤100000) (hP:P (.ref hp.length) (hp++[.list (List.replicate k x)])):i9 (.ref n) (.int k) hp P:=by
 have:∀ k:Nat,(List.replicate k [x]).flatten=List.replicate k x:=fun k=>by
  induction k with
  | zero=>rfl
  | succ k ih=>rw[List.replicate_succ,List.replicate_succ,List.flatten_cons,ih];rfl
 refine zS.rep hn (by exact CN) (by exact vl hk) (by simp;exact CL hk) ?_
 rw[Int.toNat_natCast,this];exact hP
noncomputable def DA:Nat→Nat
 | 0=>5
 | 1=>2
 | _=>1
theorem nA {b:Nat}:∀ {l:List Fm},(∀ g∈l,g.size≤b)→Fm.sizes l≤l.length * b
 | [],_=>by simp[Fm.sizes]
 | f::r,h=>by
  have a:=h f (by simp)
  have c:=nA fun g hg=>h g (List.mem_cons_of_mem _ hg)
  simp only[Fm.sizes,List.length_cons,Nat.succ_mul]
  exact GK a c
noncomputable def iK (f:Fm) (gs:List Fm):Fm:=.nd f.k f.lb f.v f.at_ gs
theorem CA (f:Fm) (gs:List Fm):(iK f gs).av=.tup (o7 f++[.tup (gs.map Fm.av)]):=by rw[Fm.av_eq];rfl
theorem Iu {f:Fm} {gs:List Fm} (d:DN f):DN (iK f gs):=⟨d.okk,d.nt,d.okl,d.okv,d.keys,d.oka⟩
theorem Iv {f:Fm} {gs:List Fm} {n:Nat} (d:DN f) (hn:30≤n) (h:∀ g∈gs,g.av.ok n=true):(iK f gs).av.ok (n+2)=true:=by
 rw[CA]
 obtain⟨m,rfl⟩:∃ m,n=m+3:=⟨n-3,by exact GL hn⟩
 simp only[o7,oN,oI,oS,oT,oL,oB,oR,oG,fv,fw,List.cons_append,List.nil_append,List.all_cons,List.all_nil,Bool.and_true,Bool.and_eq_true,List.all_eq_true,List.mem_map]
 refine⟨d.okk,aq _ _ _ (by exact GM hn) d.okl,d.okv,?_,?_⟩
 ·intro _ hI
  refine nn fun nG=>?_
  obtain⟨p,hp,rfl⟩:=hI
  refine nG ?_;clear nG
  have e1:PyData.strOk p.1=true:=by
   have:=d.keys.subset (List.mem_map_of_mem (f:=(·.1)) hp)
   simp at this
   rcases this with e | e <;> rw[e]
   ·exact eR "k"
   ·exact eR "m"
  have e2:=d.oka p hp
  have e3:=eR ""
  simp[dF,aS,oN,oI,oS,oT,oL,oB,oR,oG,fv,fw,e1,e2,em,e3]
 ·intro _ hI
  refine nn fun nG=>?_
  obtain⟨g,hg,rfl⟩:=hI
  refine nG ?_;clear nG
  exact h g hg
inductive tH (as:List AV) (hp:Hp) (P:AV→Hp→Prop):Prop
 | mk (s:Nat):as=[.ref s,.int 3]→gx hp s→(∀ f hp',io f→gx hp' s→KB s hp hp'→hp.length≤hp'.length→P f.av hp')→tH as hp P
structure v5 (hp:Hp) (s nr pr:Nat) (n:Nat) (fs:List Fm) (rs:List Nat) (ps:List Int):Prop where
 ln:hp[nr]?=some (.list (rs.map .ref))
 lp:hp[pr]?=some (.list (ps.map .int))
 z1:fs.length=n
 z2:rs.length=n
 z3:ps.length=n
 nd:∀ f∈fs,DN f
 el0:∃ f,fs[0]?=some f∧f.k=el
 at':∀ (k:Nat) f r,fs[k]?=some f→rs[k]?=some r→hp[r]?=some (.list (o7 f))∧r≠nr∧r≠pr∧r≠s
theorem v5.keep {hp hp':Hp} {s nr pr n:Nat} {fs:List Fm} {rs:List Nat} {ps:List Int} (N:v5 hp s nr pr n fs rs ps) (k:KB s hp hp') (h1:nr≠s) (h2:pr≠s):v5 hp' s nr pr n fs rs ps:=
 ⟨k _ _ N.ln h1,k _ _ N.lp h2,N.z1,N.z2,N.z3,N.nd,N.el0,fun i f r a b=>by
  obtain⟨c,d⟩:=N.at' i f r a b
  exact⟨k _ _ c d.2.2,d⟩⟩
theorem v5.node {hp:Hp} {s nr pr n:Nat} {fs:List Fm} {rs:List Nat} {ps:List Int} (N:v5 hp s nr pr n fs rs ps) {k:Nat} (hk:k<n):∃ f r,fs[k]?=some f∧rs[k]?=some r∧DN f∧(rs.map AV.ref)[k]?=some (.ref r)∧hp[r]?=some (.list (o7 f)):=by
 have h1:k<fs.length:=by rw[N.z1];exact hk
 have h2:k<rs.length:=by rw[N.z2];exact hk
 refine⟨fs[k],rs[k],gE h1,gE h2,N.nd _ (List.getElem_mem h1),by rw[List.getElem?_map,gE h2];rfl,?_⟩
 exact(N.at' k _ _ (gE h1) (gE h2)).1
theorem tI {hp:Hp} {s nr pr n:Nat} {fs:List Fm} {rs:List Nat} {ps:List Int} {chk:Hp→Prop} {P:List AV→Hp→Prop} (N:v5 hp s nr pr n fs rs ps) (hz:n≤100) (n0:0<n) (hc:chk hp) (hP:∀ l:List Int,l≠[]→l.length≤n→P (l.map AV.int) hp) (y1 y2 y3 y4:Option AV) :
  eV (hM "k") (wB (wX bv (wX ai (wX ai (wV "nodes") (wV "k")) (wK (AV.int 0))) (wK (AV.str (Str.ofString "element"))))) (wV "k") chk ((List.range n).map fun (k:Nat)=>AV.int (k:Int))
   [("nodes",some (.ref nr)),("key",y1),("name",y2),("value",y3),("k",y4)] hp [] P:=by
 refine di _ (fun i acc loc hp'=>∃ (y4:Option AV) (l:List Int),loc=[("nodes",some (.ref nr)),("key",y1),("name",y2),("value",y3),("k",y4)]∧hp'=hp∧acc=l.map AV.int∧l.length≤i∧(0<i→l≠[])) ⟨_,[],rfl,rfl,rfl,Nat.le_refl _,fun h=>absurd h (Nat.lt_irrefl _)⟩ ?_ ?_
 ·intro i x acc loc hp' K hx hI
  refine nn fun nG=>?_
  obtain⟨y4,l,rfl,rfl,rfl,hl,hne⟩:=hI
  refine nG ?_;clear nG
  intro hK
  rw[List.getElem?_map] at hx
  refine nn fun nG=>?_
  obtain⟨i',hpx,rfl⟩:=Option.map_eq_some_iff.mp hx
  obtain⟨hpl,e⟩:=List.getElem?_eq_some_iff.mp hpx
  refine nG ?_;clear nG
  rw[List.length_range] at hpl
  rw[List.getElem_range] at e
  subst e
  refine nn fun nG=>?_
  obtain⟨f,r,e1,e2,d,e3,e4⟩:=N.node hpl
  refine nG ?_;clear nG
  walk_at "r"
  refine aD N.ln e3 (by exact t5 hpl hz) ?_
  walk_at "r"
  refine aD (i:=0) e4 (x:=.str f.k) rfl (by exact nh) ?_
  walk_at "r"
  refine bQ (by simp[oN,oI,oS,oT,oL,oB,oR,oG,fv,fw,d.okk]) (by have:=eR "element";simp[oN,oI,oS,oT,oL,oB,oR,oG,fv,fw,this]) ?_
  walk_at "r"
  rw[eZ]
  by_cases w:f.k=Str.ofString "element"
  ·rw[decide_eq_true w]
   walk_at "r"
   refine⟨sz (by simp;exact BJ hl hpl hz),?_⟩
   walk_at "r"
   refine⟨hc,hK _ _ _ ⟨_,l++[(i:Int)],rfl,rfl,by simp,by simp;exact ki hl,fun _=>by simp⟩⟩
  ·rw[decide_eq_false w]
   walk_at "r"
   refine⟨hc,hK _ _ _ ⟨_,l,rfl,rfl,rfl,by exact g8 hl,fun _=>?_⟩⟩
   rcases Nat.eq_zero_or_pos i with h0 | h0
   ·subst h0
    refine nn fun nG=>?_
    obtain⟨g,g1,g2⟩:=N.el0
    refine nG ?_;clear nG
    rw[e1] at g1;cases g1
    exact absurd g2 w
   ·exact hne h0
 ·intro acc loc hp' hI
  refine nn fun nG=>?_
  obtain⟨y4,l,rfl,rfl,rfl,hl,hne⟩:=hI
  refine nG ?_;clear nG
  rw[List.length_map,List.length_range] at hl hne
  exact hP l (hne n0) hl
theorem KB.set {s n:Nat} {a b:Hp} (k:KB s a b) (h:a.length≤n) (o:aC):KB s a (b.set n o):=fun m o' q e=>by
 have:=aR q
 rw[aJ o (by exact jR this h)];exact k m o' q e
theorem gx.set {hp:Hp} {s n:Nat} (x:gx hp s) (h:n≠s) (o:aC):gx (hp.set n o) s:=by
 refine nn fun nG=>?_
 obtain⟨a,b,e,r⟩:=x
 refine nG ?_;clear nG
 exact⟨a,b,by rw[aJ o h];exact e,r⟩
theorem v5.add {hp h3 h4:Hp} {s nr pr n r:Nat} {fs:List Fm} {rs:List Nat} {ps:List Int} {f:Fm} {z:Int} (N:v5 hp s nr pr n fs rs ps) (n1:nr≠pr) (n2:nr≠s) (n3:pr≠s) (k3:KB s hp h3) (k4:KB s (h3.set pr (.list (ps.map AV.int++[.int z]))) h4)
  (hr:h4[r]?=some (.list (o7 f))) (d:DN f) (r1:r≠nr) (r2:r≠pr) (r3:r≠s):v5 (h4.set nr (.list (rs.map AV.ref++[.ref r]))) s nr pr (n+1) (fs++[f]) (rs++[r]) (ps++[z]):=by
 have p3:=k3 _ _ N.lp n3
 have p4:=k4 _ _ (aQ _ p3) n3
 have q3:=k3 _ _ N.ln n2
 have q4:h4[nr]?=some (.list (rs.map AV.ref)):=k4 _ _ (by rw[aJ _ (Ne.symm n1)];exact q3) n2
 refine⟨by rw[aQ _ q4];simp,by rw[aJ _ n1,p4];simp,by simp[N.z1],by simp[N.z2],by simp[N.z3],fun g hg=>?_,?_,fun k g r' a b=>?_⟩
 ·rcases List.mem_append.mp hg with q | q
  ·exact N.nd g q
  ·simp at q;subst q;exact d
 ·refine nn fun nG=>?_
  obtain⟨g,g1,g2⟩:=N.el0
  refine nG ?_;clear nG
  exact⟨g,by rw[List.getElem?_append_left (bj g1)];exact g1,g2⟩
 ·rcases Nat.lt_trichotomy k n with e | e | e
  ·rw[List.getElem?_append_left (by rw[N.z1];exact e)] at a
   rw[List.getElem?_append_left (by rw[N.z2];exact e)] at b
   refine nn fun nG=>?_
   obtain⟨c1,c2,c3,c4⟩:=N.at' k g r' a b
   refine nG ?_;clear nG
   refine⟨?_,c2,c3,c4⟩
   rw[aJ _ (Ne.symm c2)]
   exact k4 _ _ (by rw[aJ _ (Ne.symm c3)];exact k3 _ _ c1 c4) c4
  ·subst e
   rw[← N.z1,List.getElem?_concat_length] at a
   rw[← N.z2,List.getElem?_concat_length] at b
   cases a;cases b
   exact⟨by rw[aJ _ (Ne.symm r1)];exact hr,r1,r2,r3⟩
  ·have:=(bj a)
   simp[N.z1] at this
   exact(GN this e).elim
structure Iw (k:Nat) (g:Fm):Prop where
 all:dt DN g
 ok:g.av.ok (36-2 * k)=true
 size:g.size≤DA k
structure Kk (m lo:Nat) (L:List AV):Prop where
 len:L.length=m+1
 ex:∀ k:Nat,lo≤k→k≤m→∃ g,L[k]?=some (Fm.av g)∧Iw k g
theorem yc {a b:Nat} (h:a≤b):DA b≤DA a:=by
 match a,b,h with
 | 0,0,_=>exact Nat.le_refl _
 | 0,1,_=>decide
 | 0,b+2,_=>show 1≤5;exact GO
 | 1,1,_=>exact Nat.le_refl _
 | 1,b+2,_=>show 1≤2;exact GP
 | a+2,b+2,_=>exact Nat.le_refl _
theorem v6 {hp:Hp} {s nr pr fr m at':Nat} {fs:List Fm} {rs:List Nat} {ps:List Int} {L:List AV} {chk:Hp→Prop} {P:List AV→Hp→Prop} (N:v5 hp s nr pr (m+1) fs rs ps) (hm:m<3) (ha:at'≤m) (hf:hp[fr]?=some (.list L)) (F:Kk m (at'+1) L) (hc:chk hp)
  (hP:∀ gs:List Fm,gs.length≤m-at'→(∀ g∈gs,Iw (at'+1) g)→P (gs.map Fm.av) hp) (y1 y2 y3 y4:Option AV) :
  eV (hM "k") (wB (wX bv (wX ai (wV "parents") (wV "k")) (wV "at"))) (wX ai (wV "forms") (wV "k")) chk ((List.range (m-at')).map fun (k:Nat)=>AV.int ((at':Int)+1+(k:Int)))
   [("parents",some (.ref pr)),("at",some (.int at')),("forms",some (.ref fr)),("key",y1),("name",y2),("value",y3),("k",y4)] hp [] P:=by
 refine di _ (fun i acc loc hp'=>∃ (y4:Option AV) (gs:List Fm),loc=[("parents",some (.ref pr)),("at",some (.int at')),("forms",some (.ref fr)),("key",y1),("name",y2),("value",y3),("k",y4)]∧hp'=hp∧acc=gs.map Fm.av∧gs.length≤i∧∀ g∈gs,Iw (at'+1) g) ⟨_,[],rfl,rfl,rfl,Nat.le_refl _,fun g h=>nomatch h⟩ ?_ ?_
 ·intro i x acc loc hp' K hx hI
  refine nn fun nG=>?_
  obtain⟨y4,gs,rfl,rfl,rfl,hl,hg⟩:=hI
  refine nG ?_;clear nG
  intro hK
  rw[List.getElem?_map] at hx
  refine nn fun nG=>?_
  obtain⟨i',hpx,rfl⟩:=Option.map_eq_some_iff.mp hx
  obtain⟨hpl,e⟩:=List.getElem?_eq_some_iff.mp hpx
  refine nG ?_;clear nG
  rw[List.length_range] at hpl
  rw[List.getElem_range] at e
  subst e
  walk_at "r"
  rw[show(at':Int)+1+(i:Int)=((at'+1+i:Nat):Int) by exact GQ]
  have pl:at'+1+i<ps.length:=by rw[N.z3];exact GR hpl
  refine aD N.lp (x:=.int ps[at'+1+i]) (by rw[List.getElem?_map,gE pl];rfl) (by exact BK hpl hm) ?_
  walk_at "r"
  refine iH ?_
  walk_at "r"
  by_cases w:ps[at'+1+i]=(at':Int)
  ·rw[decide_eq_true w]
   walk_at "r"
   refine nn fun nG=>?_
   obtain⟨g,g1,g2⟩:=F.ex (at'+1+i) (by exact BL) (by exact GS hpl)
   refine nG ?_;clear nG
   refine aD hf g1 (by exact BK hpl hm) ?_
   walk_at "r"
   refine⟨sz (by simp;exact GT hl hpl hm),?_⟩
   walk_at "r"
   refine⟨hc,hK _ _ _ ⟨_,gs++[g],rfl,rfl,by simp,by simp;exact ki hl,fun g' hg'=>?_⟩⟩
   rcases List.mem_append.mp hg' with q | q
   ·exact hg g' q
   ·simp at q;subst q
    exact⟨g2.all,aq _ _ _ (by exact GU) g2.ok,Nat.le_trans g2.size (yc (by exact BL))⟩
  ·rw[decide_eq_false w]
   walk_at "r"
   exact⟨hc,hK _ _ _ ⟨_,gs,rfl,rfl,rfl,by exact g8 hl,hg⟩⟩
 ·intro acc loc hp' hI
  refine nn fun nG=>?_
  obtain⟨y4,gs,rfl,rfl,rfl,hl,hg⟩:=hI
  refine nG ?_;clear nG
  rw[List.length_map,List.length_range] at hl
  exact hP gs hl hg
theorem AC {f:Fm} {gs:List Fm} {m k:Nat} (hm:m<3) (hk:k≤m) (d:DN f) (hl:gs.length≤m-k) (hg:∀ g∈gs,Iw (k+1) g):Iw k (iK f gs):=by
 refine⟨.mk (Iu d) fun g h=>(hg g h).all,?_,?_⟩
 ·have:=Iv (n:=36-2 * (k+1)) d (by exact GV hk hm) fun g h=>(hg g h).ok
  rw[show 36-2 * k=36-2 * (k+1)+2 by exact GW hk hm]
  exact this
 ·rw[Fm.size_eq]
  have a:=nA fun g h=>(hg g h).size
  have b:gs.length * DA (k+1)≤(m-k) * DA (k+1):=Nat.mul_le_mul_right _ hl
  have c:1+(m-k) * DA (k+1)≤DA k:=by
   have:(k=0∨k=1∨k=2)∧(m=0∨m=1∨m=2):=⟨by exact GX hk hm,by exact wb hm⟩
   rcases this with⟨rfl | rfl | rfl,rfl | rfl | rfl⟩ <;> first | decide | omega
  show 1+Fm.sizes gs≤_
  exact GY c a b
section
variable {C:Cx}
theorem AD (h:HK C):aI C 4 (.ref 319) tH:=by
 refine(sg h (Cv h) (mu h) (yW h)).mono fun as hp P hF=>?_
 refine nn fun nG=>?_
 obtain⟨s,rfl,src,hP⟩:=hF
 refine nG ?_;clear nG
 unfold jJ
 walk_at "r"
 refine⟨s,0,rfl,src,fun f0 r0 h1 d0 z0 n0 src1 kb1 dL hr0 g0=>?_⟩
 refine⟨sz,?_⟩
 walk_at "r"
 refine⟨sz,?_⟩
 walk_at "r"
 refine⟨sz,?_⟩
 walk_at "r"
 have sl:=src.lt
 refine⟨s,3,rfl,by exact w9,by exact wa,(src1.keep (Kp.app _ _)).keep (Kp.app _ _),fun d h2 dd0 dd1 src2 kb2 hl2=>?_⟩
 simp only[List.length_append,List.length_cons,List.length_nil] at hl2
 obtain⟨m,rfl⟩:=Int.eq_ofNat_of_zero_le dd0
 have m3:m<3:=by exact GZ dd1
 have N0:v5 h2 s h1.length (h1.length+1) 1 [f0] [r0] [0]:=by
  refine v5.keep (hp:=h1++[aC.list [AV.ref r0]]++[aC.list [AV.int 0]]) ?_ kb2 (by exact jR sl dL) (by exact l8 sl dL)
  refine⟨aB _ (aE _ _),lY _ _ _,rfl,rfl,rfl,fun f hf=>by simp at hf;subst hf;exact d0,⟨f0,rfl,z0 rfl⟩,fun k f r a b=>?_⟩
  have k0:k=0:=by have:=(bj a);simpa using this
  subst k0
  simp at a b
  subst a b
  have:=aR g0
  exact⟨aB _ (aB _ g0),by exact fq this,by exact kh this,by exact jR sl hr0⟩
 have kb02:KB s hp h2:=(kb1.trans (Kp.kb ((Kp.app _ _).trans (Kp.app _ _)))).trans kb2
 walk_at "r"
 have it:∀ hp:Hp,aL (.rng 1 (1+(m:Int)) 1) hp=some ((List.range m).map fun (k:Nat)=>AV.int (1+(k:Int))):=fun hp=>by
  rw[pQ (by exact G0) (by exact G3) (by exact G4) (by exact G5 m3),show(1+(m:Int)-1).toNat=m by exact G6]
 refine⟨_,it _,?_⟩
 walk_at "r"
 refine bB _ (fun i loc hp'=>∃ (c1 c2:Option AV) (fs:List Fm) (rs:List Nat) (ps:List Int),loc=[("source",some (AV.ref s)),("most",some (AV.int 3)),("nodes",some (AV.ref h1.length)),("parents",some (AV.ref (h1.length+1))),("at",c1),("elements",c2),("forms",none),("inner",none)]∧
  v5 hp' s h1.length (h1.length+1) (i+1) fs rs ps∧gx hp' s∧KB s hp hp'∧h2.length≤hp'.length) ⟨_,_,_,_,_,rfl,N0,src2,kb02,Nat.le_refl _⟩ ?_ ?_
 ·intro i x loc hp' K hx hI
  refine nn fun nG=>?_
  obtain⟨c1,c2,fs,rs,ps,rfl,N,src3,kb3,hl3⟩:=hI
  refine nG ?_;clear nG
  intro hK
  rw[List.getElem?_map] at hx
  refine nn fun nG=>?_
  obtain⟨i',hpx,rfl⟩:=Option.map_eq_some_iff.mp hx
  obtain⟨hpl,e⟩:=List.getElem?_eq_some_iff.mp hpx
  refine nG ?_;clear nG
  rw[List.length_range] at hpl
  rw[List.getElem_range] at e
  subst e
  walk_at "r"
  rw[show(1:Int)+(i:Int)=((i+1:Nat):Int) by exact G7]
  refine⟨_,aO (by exact t6 hpl m3),?_⟩
  walk_at "r"
  rw[show hO _ _ _=[("nodes",some (AV.ref h1.length))] from rfl]
  refine tI N (by exact G8 hpl m3) (by exact vq) ⟨aO (by exact t6 hpl m3),rfl⟩ (fun l l0 ll=>?_) _ _ _ _
  have np:(hp'++[aC.list (l.map AV.int)])[h1.length+1]?=some (.list (ps.map AV.int)):=aB _ N.lp
  refine⟨⟨_,_,rfl,np,rfl⟩,?_⟩
  walk_at "r"
  refine⟨s,hp'.length,_,rfl,aE _ _,by have:=src3.lt;exact bo this,by simpa using l0,by simp;exact G9 ll hpl m3,src3.keep (Kp.app _ _),fun x h3 hx src4 kb4 hl4=>?_⟩
  refine nn fun nG=>?_
  obtain⟨z,hz,rfl⟩:=List.mem_map.mp hx
  refine nG ?_;clear nG
  simp only[List.length_append,List.length_cons,List.length_nil] at hl4
  have kb34:KB s hp' h3:=(Kp.kb (Kp.app _ _)).trans kb4
  refine bW (kb4 _ _ np (by exact l8 sl dL)) (by rw[List.length_map,N.z3];exact t6 hpl m3) ⟨rfl,?_⟩
  walk_at "r"
  refine⟨⟨_,_,rfl,by rw[aJ _ (by exact vn)];exact kb34 _ _ N.ln (by exact jR sl dL),rfl⟩,?_⟩
  walk_at "r"
  refine⟨s,i+1,rfl,src4.set (by exact l8 sl dL) _,fun f r h4 d _ _ src5 kb5 hl5 hr5 g5=>?_⟩
  simp only[List.length_set] at hl5 hr5
  have lnn:h4[h1.length]?=some (.list (rs.map AV.ref)):=kb5 _ _ (by rw[aJ _ (by exact vn)];exact kb34 _ _ N.ln (by exact jR sl dL)) (by exact jR sl dL)
  refine bW lnn (by rw[List.length_map,N.z2];exact t6 hpl m3) ⟨rfl,?_⟩
  walk_at "r"
  refine⟨⟨it _,rfl⟩,hK _ _ ⟨_,_,_,_,_,rfl,N.add (h3:=h3) (h4:=h4) (z:=z) (by exact tQ) (by exact jR sl dL) (by exact l8 sl dL) kb34 kb5 g5 d (by exact Ga hl2 hl4 hl3 hr5) (by exact Gb hl2 hl4 hl3 hr5) (by exact Gc dL sl hl2 hl3 hl4 hr5),src5.set (by exact jR sl dL) _,?_,by simp;exact Gd hl4 hl3 hl5⟩⟩
  exact KB.set (((kb3.trans kb34).set (by exact g8 dL) _).trans kb5) (by exact ki dL) _
 ·intro loc hp' hI
  refine nn fun nG=>?_
  obtain⟨c1,c2,fs,rs,ps,rfl,N,src3,kb3,hl3⟩:=hI
  refine nG ?_;clear nG
  rw[List.length_map,List.length_range] at N
  walk_at "r"
  refine⟨sz,?_⟩
  walk_at "r"
  refine⟨sz,?_⟩
  walk_at "r"
  refine bX (aB _ N.ln) (by rw[List.length_map,N.z2];exact qF m3) ?_
  walk_at "r"
  rw[List.length_map,N.z2]
  refine uY (aE _ _) (by exact qF m3) ?_
  walk_at "r"
  try simp only[List.length_append,List.length_cons,List.length_nil]
  refine bX (aB _ (aB _ N.ln)) (by rw[List.length_map,N.z2];exact qF m3) ?_
  walk_at "r"
  rw[List.length_map,N.z2]
  walk_at "r"
  rw[show(((m+1:Nat):Int)-1)=(m:Int) by exact CO]
  have F0:Kk m (m+1) (List.replicate (m+1) (AV.tup [])):=⟨by simp,fun k a b=>absurd a (by exact Ge b)⟩
  have fr0:=aE (hp'++[aC.list [AV.tup []]]) (aC.list (List.replicate (m+1) (AV.tup [])))
  have N2:=(N.keep (Kp.kb (Kp.app hp' [aC.list [AV.tup []]])) (by exact jR sl dL) (by exact l8 sl dL)).keep (Kp.kb (Kp.app _ [aC.list (List.replicate (m+1) (AV.tup []))])) (by exact jR sl dL) (by exact l8 sl dL)
  have src4:=(src3.keep (Kp.app hp' [aC.list [AV.tup []]])).keep (Kp.app _ [aC.list (List.replicate (m+1) (AV.tup []))])
  have kbp:KB s hp' (hp'++[aC.list [AV.tup []]]++[aC.list (List.replicate (m+1) (AV.tup []))]):=Kp.kb ((Kp.app _ _).trans (Kp.app _ _))
  have kb4:KB s hp (hp'++[aC.list [AV.tup []]]++[aC.list (List.replicate (m+1) (AV.tup []))]):=kb3.trans (Kp.kb ((Kp.app _ _).trans (Kp.app _ _)))
  have hl4:hp'.length+2=(hp'++[aC.list [AV.tup []]]++[aC.list (List.replicate (m+1) (AV.tup []))]).length:=by simp
  rw[show(hp'++[aC.list [AV.tup []]]).length=hp'.length+1 by simp] at fr0
  generalize hp'++[aC.list [AV.tup []]]++[aC.list (List.replicate (m+1) (AV.tup []))]=h4 at fr0 N2 src4 kbp kb4 hl4 ⊢
  generalize List.replicate (m+1) (AV.tup [])=L0 at F0 fr0
  have it2:∀ hp:Hp,aL (.rng (m:Int) (-1) (-1)) hp=some ((List.range (m+1)).map fun (k:Nat)=>AV.int ((m:Int)+(k:Int) * (-1))):=fun hp=>by
   have:m=0∨m=1∨m=2:=by exact wb m3
   rcases this with rfl | rfl | rfl <;> rfl
  refine IY.three (by decide) (by decide) ⟨_,it2 _,?_⟩
  walk_at "r"
  refine bB _ (fun i loc hp''=>∃ (c1 c3:Option AV) (L:List AV),loc=[("source",some (AV.ref s)),("most",some (AV.int 3)),("nodes",some (AV.ref h1.length)),("parents",some (AV.ref (h1.length+1))),("at",c1),("elements",c2),("forms",some (AV.ref (hp'.length+1))),("inner",c3)]∧
   hp''[hp'.length+1]?=some (.list L)∧Kk m (m+1-i) L∧KB s hp' hp''∧gx hp'' s∧KB s hp hp''∧hp'.length+2≤hp''.length) ⟨_,_,L0,rfl,fr0,F0,kbp,src4,kb4,Nat.le_of_eq hl4⟩ ?_ ?_
  ·intro i x loc hp'' K hx hI
   refine nn fun nG=>?_
   obtain⟨c1,c3,L,rfl,hf,F,kbq,src5,kb5,hl5⟩:=hI
   refine nG ?_;clear nG
   intro hK
   have N3:=N.keep kbq (by exact jR sl dL) (by exact l8 sl dL)
   rw[List.getElem?_map] at hx
   refine nn fun nG=>?_
   obtain⟨i',hpx,rfl⟩:=Option.map_eq_some_iff.mp hx
   obtain⟨hpl,e⟩:=List.getElem?_eq_some_iff.mp hpx
   refine nG ?_;clear nG
   rw[List.length_range] at hpl
   rw[List.getElem_range] at e
   subst e
   rw[show(m:Int)+(i:Int) * (-1)=((m-i:Nat):Int) by exact Gf hpl]
   have am:m-i≤m:=by exact Gg
   rw[show m+1-i=(m-i)+1 by exact Gh hpl] at F
   have ea:m+1-(i+1)=m-i:=by exact Gi
   rw[ea] at hK
   generalize m-i=a at am F hK ⊢
   walk_at "r"
   refine bX N3.ln (by rw[List.length_map,N3.z2];exact qF m3) ?_
   walk_at "r"
   rw[List.length_map,N3.z2]
   walk_at "r"
   have it3:∀ hp:Hp,aL (.rng ((a:Int)+1) ((m+1:Nat):Int) 1) hp=some ((List.range (m-a)).map fun (k:Nat)=>AV.int ((a:Int)+1+(k:Int))):=fun hp=>by
    rw[pQ (by exact Gj) (by exact Gk am m3) (by exact Gl) (by exact Gm m3),show((((m+1:Nat):Int))-((a:Int)+1)).toNat=m-a by exact Gn]
   refine⟨_,it3 _,?_⟩
   walk_at "r"
   rw[show hO _ _ _=[("parents",some (AV.ref (h1.length+1))),("at",some (AV.int a)),("forms",some (AV.ref (hp'.length+1)))] from rfl]
   refine v6 N3 m3 am hf F ⟨it3 _,rfl⟩ (fun gs gl gp=>?_) _ _ _ _
   refine nn fun nG=>?_
   obtain⟨f,r,e1,e2,d,e3,e4⟩:=N3.node (k:=a) (by exact tU am)
   refine nG ?_;clear nG
   refine Bj (aE _ _) (sz (by simp;exact Go gl m3)) ?_
   walk_at "r"
   refine aD (aB _ N3.ln) e3 (by exact Gp am m3) ?_
   walk_at "r"
   refine Bj (aB [aC.list (gs.map Fm.av)] e4) (sz (by show 4≤100000;exact Gq)) ?_
   walk_at "r"
   refine⟨sz,?_⟩
   walk_at "r"
   refine Add.tup (sz (by show 4+1≤100000;exact Gr)) ?_
   walk_at "r"
   refine mU (aB _ hf) (by rw[F.len];exact tU am) (by rw[F.len];exact qF m3) ?_
   walk_at "r"
   have kk:=Kp.kb (s:=s) (Kp.app hp'' [aC.list (gs.map Fm.av)])
   refine⟨⟨it2 _,rfl⟩,hK _ _ ⟨_,_,_,rfl,aQ _ (aB _ hf),?_,(kbq.trans kk).set (by exact jS) _,(src5.keep (Kp.app _ _)).set (by have:=src3.lt;exact qD this) _,(kb5.trans kk).set (by exact Gs hl2 dL hl3) _,by simp;exact Gu hl5⟩⟩
   refine⟨by rw[List.length_set,F.len],fun k k1 k2=>?_⟩
   rcases Nat.eq_or_lt_of_le k1 with e | e
   ·subst e
    refine⟨iK f gs,?_,AC m3 am d gl gp⟩
    rw[List.getElem?_set_self (by rw[F.len];exact tU k2),CA]
   ·rw[List.getElem?_set_ne (by exact fq e)]
    exact F.ex k (by exact Gv e) k2
  ·intro loc hp'' hI
   refine nn fun nG=>?_
   obtain⟨c1,c3,L,rfl,hf,F,kbq,src5,kb5,hl5⟩:=hI
   refine nG ?_;clear nG
   rw[List.length_map,List.length_range] at F
   refine nn fun nG=>?_
   obtain⟨g,g1,g2⟩:=F.ex 0 (by exact Gw) (by exact kj)
   refine nG ?_;clear nG
   walk_at "r"
   refine aD (i:=0) hf g1 (by exact nh) ?_
   walk_at "r"
   exact hP g hp'' ⟨g2.all,g2.ok,Nat.le_trans g2.size (by decide)⟩ src5 kb5 (by exact Gx hl2 hl5 dL hl3)
end
noncomputable abbrev ae:=Nat×Nat×Nat
noncomputable def jr (r:ae):AV:=.tup [.int r.1,.int r.2.1,.int r.2.2]
noncomputable def qA:Option ae→AV
 | none=>.none
 | some r=>jr r
noncomputable def n8 (r:ae):Prop:=r.1<3∧r.2.1<3∧r.2.2<3
noncomputable def kV:Str:=Str.ofString "v"
noncomputable def pc (n:Nat):Str:=Str.ofString (toString (n:Int))
noncomputable def tS (n:Nat):Str:=Str.ofString "t"++pc n
noncomputable def cS (n:Nat):Str:=Str.ofString "c"++pc n
noncomputable def tF (n:Nat):Fm:=.nd tx (.str em) (tS n) [] []
noncomputable def cF (n:Nat):Fm:=.nd (Str.ofString "comment") (.str em) (cS n) [] []
noncomputable def zD (nm:Str):AV:=.tup [.str nm,.str em,.str nm]
noncomputable def bf (n:Nat):List Fm:=if n=0 then [] else [cF n]
noncomputable def dY (nm:Str) (r:ae):Fm:=.nd el (zD nm) em [(kV,pc r.1)] (tF r.2.1::bf r.2.2)
noncomputable def cH (names:List Str) (rows:List (Option ae)):List Fm:=(names.zip rows).filterMap fun x=>x.2.map (dY x.1)
noncomputable def cZ (names:List Str) (rows:List (Option ae)):Fm:=.nd el (zD (Str.ofString "r")) em [] (cH names rows)
theorem pf {n:Nat} (h:n<3):(pc n).length≤1∧PyData.strOk (pc n)=true:=by
 have:n=0∨n=1∨n=2:=by exact wb h
 rcases this with rfl | rfl | rfl <;> decide +kernel
theorem iL {n:Nat} {hp:Hp} {P:AV→Hp→Prop} (h:n<3) (hP:P (.str (pc n)) hp):nU [.int n] hp P:=⟨by exact Gy h,hP⟩
theorem DB {n:Nat} (h:n<3):(Str.ofString "t").length+(pc n).length≤sizeLine:=by
 have a:=(pf h).1
 have b:(Str.ofString "t").length≤1:=by decide +kernel
 exact sz (by exact wc b a)
theorem Ix {n:Nat} (h:n<3):(Str.ofString "c").length+(pc n).length≤sizeLine:=by
 have a:=(pf h).1
 have b:(Str.ofString "c").length≤1:=by decide +kernel
 exact sz (by exact wc b a)
noncomputable def uZ (hp:Hp) (x:AV) (r:ae):Prop:=x=jr r∨∃ n,x=.ref n∧hp[n]?=some (.list [.int r.1,.int r.2.1,.int r.2.2])
theorem Iy {hp:Hp} {x:AV} {r:ae} {P:AV→Hp→Prop} (h:uZ hp x r) (hP:P (.int r.1) hp):ai x (.int 0) hp P:=by
 rcases h with rfl | ⟨n,rfl,h⟩
 ·unfold jr;exact Ig hP
 ·exact aD (i:=0) h rfl (by decide) hP
theorem Kl {hp:Hp} {x:AV} {r:ae} {P:AV→Hp→Prop} (h:uZ hp x r) (hP:P (.int r.2.1) hp):ai x (.int 1) hp P:=by
 rcases h with rfl | ⟨n,rfl,h⟩
 ·unfold jr;exact Ih hP
 ·exact aD (i:=1) h rfl (by decide) hP
theorem Iz {hp:Hp} {x:AV} {r:ae} {P:AV→Hp→Prop} (h:uZ hp x r) (hP:P (.int r.2.2) hp):ai x (.int 2) hp P:=by
 rcases h with rfl | ⟨n,rfl,h⟩
 ·unfold jr;exact Ii hP
 ·exact aD (i:=2) h rfl (by decide) hP
inductive yd (as:List AV) (hp:Hp) (P:AV→Hp→Prop):Prop
 | mk (nm r x):as=[.str nm,x]→uZ hp x r→n8 r→P (dY nm r).av hp→yd as hp P
inductive JA (as:List AV) (hp:Hp) (P:AV→Hp→Prop):Prop
 | mk (n:Nat):as=[.int n]→n<3→P (.tup [.str kV,.str (pc n)]) hp→JA as hp P
section
variable {C:Cx}
theorem JB (h:HK C):aI C 1 (.ref 345) JA:=by
 refine(lO h).mono fun as hp P hF=>?_
 obtain⟨n,rfl,hn,hP⟩:=hF
 unfold eM
 walk_at "r"
 refine iL hn ?_
 walk_at "r"
 refine⟨sz,?_⟩
 walk_at "r"
 exact hP
theorem u0 (h:HK C):aI C 1 (.ref 326) yd:=by
 refine(qy h).mono fun as hp P hF=>?_
 obtain⟨nm,r,x,rfl,tol,sm,hP⟩:=hF
 obtain⟨a,t,c⟩:=r
 obtain⟨s1,s2,s3⟩:a<3∧t<3∧c<3:=sm
 unfold hZ
 walk_at "r"
 refine Kl tol ?_
 walk_at "r"
 refine iL s2 ?_
 walk_at "r"
 refine Add.str (DB s2) ?_
 walk_at "r"
 repeat ((first | refine⟨sz,?_⟩ | refine Add.tup sz ?_);walk_at "r")
 refine Iz tol ?_
 walk_at "r"
 refine p9 ?_
 by_cases w:c=0
 ·subst w
  walk_at "r"
  refine⟨sz,?_⟩
  walk_at "r"
  refine⟨sz,?_⟩
  walk_at "r"
  refine Iy tol ?_
  walk_at "r"
  refine iL s1 ?_
  walk_at "r"
  refine⟨sz,?_⟩
  walk_at "r"
  refine⟨sz,?_⟩
  walk_at "r"
  refine⟨sz,?_⟩
  walk_at "r"
  exact hP
 ·rw[decide_eq_false (by exact BM w)]
  walk_at "r"
  refine Iz tol ?_
  walk_at "r"
  refine iL s3 ?_
  walk_at "r"
  refine Add.str (Ix s3) ?_
  walk_at "r"
  repeat ((first | refine⟨sz,?_⟩ | refine Add.tup sz ?_);walk_at "r")
  refine Iy tol ?_
  walk_at "r"
  refine iL s1 ?_
  walk_at "r"
  repeat ((first | refine⟨sz,?_⟩ | refine Add.tup sz ?_);walk_at "r")
  unfold dY bf at hP
  rw[if_neg w] at hP
  exact hP
end
theorem gZ {names:List Str} {rows:List (Option ae)} {i:Nat} {n:Str} {r:Option ae} (h1:names[i]?=some n) (h2:rows[i]?=some r):cH (names.take (i+1)) (rows.take (i+1))=cH (names.take i) (rows.take i)++(r.map (dY n)).toList:=by
 have l1:=(bj h1)
 have l2:=(bj h2)
 unfold cH
 rw[List.take_add_one,List.take_add_one,h1,h2,Option.toList_some,Option.toList_some,List.zip_append (by simp;exact Gz l1 l2),List.filterMap_append]
 cases r <;> rfl
structure cw (rows:List (Option ae)):Prop where
 sm:∀ r,some r∈rows→n8 r
inductive ye (as:List AV) (hp:Hp) (P:AV→Hp→Prop):Prop
 | mk (n r:Nat) (names:List Str) (rows:List (Option ae)):as=[.ref n,.ref r]→hp[n]?=some (.list (names.map .str))→hp[r]?=some (.list (rows.map qA))→names.length=rows.length→names.length≤100→cw rows→(∀ hp',Kp hp hp'→P (cZ names rows).av hp')→ye as hp P
inductive rU (as:List AV) (hp:Hp) (P:AV→Hp→Prop):Prop
 | mk (s many:Nat):as=[.ref s,.int many]→many≤100→gx hp s→(∀ rows r hp',List.length rows=many→cw rows→gx hp' s→KB s hp hp'→hp.length≤hp'.length→hp.length≤r→hp'[r]?=some (.list (rows.map qA))→P (.ref r) hp')→rU as hp P
section
variable {C:Cx}
theorem AE (h:HK C):aI C 2 (.ref 331) ye:=by
 refine(qz h (u0 h)).mono fun as hp P hF=>?_
 refine nn fun nG=>?_
 obtain⟨n,r,names,rows,rfl,hn,hr,ln,lz,sm,hP⟩:=hF
 refine nG ?_;clear nG
 unfold iA
 walk_at "r"
 refine bX hn (by rw[List.length_map];exact jU lz) ?_
 walk_at "r"
 rw[List.length_map]
 refine⟨_,aO (by exact jU lz),?_⟩
 walk_at "r"
 rw[show hO _ _ _=[("names",some (AV.ref n)),("rows",some (AV.ref r))] from rfl]
 refine di _ (fun i acc loc hp'=>∃ y,loc=[("names",some (AV.ref n)),("rows",some (AV.ref r)),("key",none),("name",none),("value",none),("k",y)]∧hp'=hp∧acc=(cH (names.take i) (rows.take i)).map Fm.av∧acc.length≤i) ⟨_,rfl,rfl,rfl,Nat.le_refl _⟩ ?_ ?_
 ·intro i x acc loc hp' K hx hI
  refine nn fun nG=>?_
  obtain⟨y,rfl,rfl,ea,al⟩:=hI
  refine nG ?_;clear nG
  intro hK
  rw[List.getElem?_map] at hx
  refine nn fun nG=>?_
  obtain⟨i',hpx,rfl⟩:=Option.map_eq_some_iff.mp hx
  obtain⟨hpl,e⟩:=List.getElem?_eq_some_iff.mp hpx
  refine nG ?_;clear nG
  rw[List.length_range] at hpl
  rw[List.getElem_range] at e
  subst e
  obtain⟨nm,h1⟩:∃ x,names[i]?=some x:=⟨_,gE hpl⟩
  obtain⟨ro,h2⟩:∃ x,rows[i]?=some x:=⟨_,gE (dz hpl ln)⟩
  have sm1:=sm.sm
  have hm:=List.mem_of_getElem? h2
  have ks:=gZ h1 h2
  walk_at "r"
  refine aD hr (x:=qA ro) (by rw[List.getElem?_map,h2];rfl) (by exact t5 hpl lz) ?_
  walk_at "r"
  cases ro with
  | none=>
   unfold qA
   walk_at "r"
   refine⟨aO (by exact jU lz),hK _ _ _ ⟨_,rfl,rfl,?_,by exact g8 al⟩⟩
   rw[ks,ea];simp
  | some ro=>
   unfold qA jr
   walk_at "r"
   refine aD hn (x:=.str nm) (by rw[List.getElem?_map,h1];rfl) (by exact t5 hpl lz) ?_
   walk_at "r"
   refine aD hr (x:=qA (some ro)) (by rw[List.getElem?_map,h2];rfl) (by exact t5 hpl lz) ?_
   walk_at "r"
   refine⟨nm,ro,_,rfl,.inl rfl,sm1 _ hm,sz (by exact BJ al hpl lz),⟨aO (by exact jU lz),rfl⟩,hK _ _ _ ⟨_,rfl,rfl,?_,by simp;exact ki al⟩⟩
   rw[ks,ea];simp
 ·intro acc loc hp' hI
  refine nn fun nG=>?_
  obtain⟨y,rfl,rfl,ea,al⟩:=hI
  refine nG ?_;clear nG
  rw[List.length_map,List.length_range] at ea al
  refine Bj (aE _ _) (sz (by exact HA al lz)) ?_
  walk_at "r"
  refine⟨sz,?_⟩
  walk_at "r"
  refine⟨sz,?_⟩
  walk_at "r"
  refine⟨sz,?_⟩
  walk_at "r"
  rw[List.take_length,show rows.take names.length=rows by rw[ln,List.take_length]] at ea
  have:=hP (hp'++[.list acc]) (Kp.app _ _)
  rw[Fm.av_eq] at this
  rw[ea] at this ⊢
  exact this
theorem v7 (h:HK C):aI C 3 (.ref 338) rU:=by
 refine(nZ h (yW h) (mu h)).mono fun as hp P hF=>?_
 refine nn fun nG=>?_
 obtain⟨s,many,rfl,mz,src,hP⟩:=hF
 refine nG ?_;clear nG
 unfold fg
 walk_at "r"
 have sl:=src.lt
 refine⟨sz,?_⟩
 walk_at "r"
 refine⟨_,aO (by exact jU mz),?_⟩
 walk_at "r"
 refine bB _ (fun i loc hp'=>∃ (c1 c2:Option AV) (rows:List (Option ae)),loc=[("source",some (AV.ref s)),("many",some (AV.int many)),("rows",some (AV.ref hp.length)),("k",c1),("row",c2)]∧rows.length=i∧cw rows∧gx hp' s∧KB s hp hp'∧hp'[hp.length]?=some (.list (rows.map qA))∧hp.length+1≤hp'.length)
  ⟨_,_,[],rfl,rfl,⟨fun r h=>nomatch h⟩,src.keep (Kp.app _ _),Kp.kb (Kp.app _ _),aE _ _,by simp⟩ ?_ ?_
 ·intro i x loc hp' K hx hI
  refine nn fun nG=>?_
  obtain⟨c1,c2,rows,rfl,rl,rs,src1,kb1,hr1,dL⟩:=hI
  refine nG ?_;clear nG
  intro hK
  rw[List.getElem?_map] at hx
  refine nn fun nG=>?_
  obtain⟨i',hpx,rfl⟩:=Option.map_eq_some_iff.mp hx
  obtain⟨hpl,e⟩:=List.getElem?_eq_some_iff.mp hpx
  refine nG ?_;clear nG
  rw[List.length_range] at hpl
  rw[List.getElem_range] at e
  subst e
  walk_at "r"
  have dig:∀ x:AV,x∈[AV.int 0,AV.int 0,AV.int 1,AV.int 2]→∃ n:Nat,n<3∧x=.int n:=fun x hx=>by
   simp only[List.mem_cons,List.not_mem_nil,or_false] at hx
   rcases hx with rfl | rfl | rfl | rfl
   ·exact⟨0,by exact jV,rfl⟩
   ·exact⟨0,by exact jV,rfl⟩
   ·exact⟨1,by exact HB,rfl⟩
   ·exact⟨2,by exact HC,rfl⟩
  have s1:=src1.lt
  refine⟨sz,?_⟩
  walk_at "r"
  refine⟨s,hp'.length,_,rfl,aE _ _,by exact bo s1,by simp,by simp,src1.keep (Kp.app _ _),fun x1 h1 hx1 src2 kb2 hl2=>?_⟩
  simp only[List.length_append,List.length_cons,List.length_nil] at hl2
  refine⟨sz,?_⟩
  walk_at "r"
  refine⟨s,h1.length,_,rfl,aE _ _,by exact HD hl2 s1,by simp,by simp,src2.keep (Kp.app _ _),fun x2 h2 hx2 src3 kb3 hl3=>?_⟩
  simp only[List.length_append,List.length_cons,List.length_nil] at hl3
  refine⟨sz,?_⟩
  walk_at "r"
  refine⟨s,h2.length,_,rfl,aE _ _,by exact HE hl3 hl2 s1,by simp,by simp,src3.keep (Kp.app _ _),fun x3 h3 hx3 src4 kb4 hl4=>?_⟩
  simp only[List.length_append,List.length_cons,List.length_nil] at hl4
  refine nn fun nG=>?_
  obtain⟨a,ha,rfl⟩:=dig x1 hx1
  obtain⟨b,hb,rfl⟩:=dig x2 hx2
  obtain⟨c,hc,rfl⟩:=dig x3 hx3
  refine nG ?_;clear nG
  have kb5:KB s hp' h3:=((Kp.kb (Kp.app _ _)).trans kb2).trans (((Kp.kb (Kp.app _ _)).trans kb3).trans ((Kp.kb (Kp.app _ _)).trans kb4))
  refine⟨sz,?_⟩
  walk_at "r"
  have lst:=kb5 _ _ hr1 (by exact bo sl)
  refine⟨⟨_,_,rfl,lst,rfl⟩,?_⟩
  walk_at "r"
  refine⟨s,5,rfl,by exact BG,by exact BH,src4,fun d h4 d0 d1 src5 kb6 hl6=>iH ?_⟩
  have lst4:=kb6 _ _ lst (by exact bo sl)
  have fin:∀ o:Option ae,(∀ r,o=some r→n8 r)→∀ (c2:AV),aV [.ref hp.length,qA o] h4 fun a hp1=>a=AV.none∧(aL (AV.rng 0 (many:Int) 1) hp1=some ((List.range many).map fun (k:Nat)=>AV.int (k:Int))∧ag (AV.rng 0 (many:Int) 1) hp1=ag (AV.rng 0 (many:Int) 1) (hp++[aC.list []]))∧
    K [("source",some (AV.ref s)),("many",some (AV.int many)),("rows",some (AV.ref hp.length)),("k",some (AV.int i)),("row",some c2)] hp1:=fun o ho c2=>by
   refine bW lst4 (by rw[List.length_map];exact HF rl hpl mz) ⟨rfl,?_⟩
   walk_at "r"
   refine⟨⟨aO (by exact jU mz),rfl⟩,hK _ _ ⟨_,_,rows++[o],rfl,by simp[rl],⟨fun r hr=>?_⟩,src5.set (by exact bo sl) _,((kb1.trans kb5).trans kb6).set (Nat.le_refl _) _,?_,by simp;exact HG dL hl2 hl3 hl4 hl6⟩⟩
   ·rcases List.mem_append.mp hr with q | q
    ·exact rs.sm r q
    ·simp at q;exact ho r q.symm
   ·rw[aQ _ lst4];simp
  by_cases w:d=0
  ·rw[decide_eq_true w]
   walk_at "r"
   exact fin none (fun r h=>nomatch h) _
  ·rw[decide_eq_false w]
   walk_at "r"
   exact fin (some (a,b,c)) (fun r h=>by cases h;exact⟨ha,hb,hc⟩) _
 ·intro loc hp' hI
  refine nn fun nG=>?_
  obtain⟨c1,c2,rows,rfl,rl,rs,src1,kb1,hr1,dL⟩:=hI
  refine nG ?_;clear nG
  rw[List.length_map,List.length_range] at rl
  walk_at "r"
  exact hP rows hp.length hp' rl rs src1 kb1 (by exact aj dL) (Nat.le_refl _) hr1
end
noncomputable def cW (a b:Nat):Nat:=if a=0 then b else a
noncomputable abbrev fO (a b:Nat):Prop:=a≠b∧a≠0∧b≠0
noncomputable def pg (a b:Nat):List Fm:=if fO a b then [cF a,cF b] else bf (cW a b)
noncomputable def yf (nm:Str) (o t:ae):Fm:=.nd el (zD nm) em [(kV,pc (cW o.1 t.1))] (tF (cW o.2.1 t.2.1)::pg o.2.2 t.2.2)
noncomputable def CB (n:Nat):AV:=.tup [.str kV,.str (pc n)]
noncomputable def kZ (at':Nat) (o t:ae):List AV:=if fO o.1 t.1 then [.tup [sS "attribute",.tup [.int at'],aS kV,CB o.1,CB t.1]] else []
noncomputable def n9 (at':Nat) (o t:ae):List AV:=if fO o.2.1 t.2.1 then [.tup [sS "value",.tup [.int at',.int 0],.str (tS o.2.1),.str (tS t.2.1)]] else []
noncomputable def rV (at':Nat) (o t:ae):List AV:=
 kZ at' o t++n9 at' o t++
 (if fO o.2.2 t.2.2 then [.tup [sS "inserted",.tup [.int at'],.int 1]] else [])
theorem g7 {a b c:Nat} (h1:a<c) (h2:b<c):cW a b<c:=by unfold cW;split <;> assumption
noncomputable def gone (nm:Str) (at':Nat) (r:ae) (who:Int):List AV×List AV:=if r=(0,0,0) then ([],[]) else ([(dY nm r).av],[.tup [sS "deleted",.tup [.int at'],.int who]])
noncomputable def rW (nm:Str) (at':Nat):Option ae→Option ae→List AV×List AV
 | none,none=>([],[])
 | none,some r=>gone nm at' r 1
 | some r,none=>gone nm at' r 2
 | some o,some t=>([(yf nm o t).av],rV at' o t)
inductive JC (as:List AV) (hp:Hp) (P:AV→Hp→Prop):Prop
 | mk (nm:Str) (at':Nat) (o t:Option ae):as=[.str nm,.int at',qA o,qA t]→cw [o,t]→(∀ r u v hp',Kp hp hp'→hp'[r]?=some (.list [.ref u,.ref v])→hp'[u]?=some (.list (rW nm at' o t).1)→hp'[v]?=some (.list (rW nm at' o t).2)→P (.ref r) hp')→JC as hp P
theorem dK {hp:Hp} {a b c:aC}:(hp++[a]++[b]++[c])[hp.length]?=some a∧(hp++[a]++[b]++[c])[hp.length+1]?=some b∧(hp++[a]++[b]++[c])[hp.length+2]?=some c:=by
 refine⟨?_,?_,?_⟩ <;> simp[List.getElem?_append_right]
theorem LK {r:ae} {hp:Hp} {P:AV→Hp→Prop} (h:P (.bool (decide (r=(0,0,0)))) hp):bv (.tup [.int r.1,.int r.2.1,.int r.2.2]) (.tup [.int 0,.int 0,.int 0]) hp P:=by
 refine bQ (by simp[oN,oI,oS,oT,oL,oB,oR,oG,fv,fw]) (by simp[oN,oI,oS,oT,oL,oB,oR,oG,fv,fw]) ?_
 walk_at "r"
 have e:lP (.tup [.int r.1,.int r.2.1,.int r.2.2]) (.tup [.int 0,.int 0,.int 0])=decide (r=(0,0,0)):=by
  obtain⟨a,b,c⟩:=r
  by_cases w:(a,b,c)=(0,0,0)
  ·rw[decide_eq_true w,bZ]
   simp only[Prod.mk.injEq] at w
   obtain⟨rfl,rfl,rfl⟩:=w
   rfl
  ·rw[decide_eq_false w,bP]
   intro q
   apply w
   simp only[AV.tup.injEq,List.cons.injEq,AV.int.injEq,and_true] at q
   simp only[Prod.mk.injEq]
   exact HI q
 rw[e];exact h
theorem cp {X R:WS} {loc:aX} {hp:Hp} {P:Fl→aX→Hp→Prop} (Q:aX→Hp→Prop) (hx:∀ K:Fl→aX→Hp→Prop,(∀ loc' hp',Q loc' hp'→K .next loc' hp')→X loc hp K) (hr:∀ loc' hp',Q loc' hp'→tl R loc' hp' P):wS X R loc hp P:=
 hx _ fun loc' hp' q=>hr loc' hp' q
theorem ph {k:Int} {a b:Nat} {loc:aX} {hp:Hp} {P:Bool→Hp→Prop} (h1:∀ Q:AV→Hp→Prop,Q (.int a) hp→wI (wV "one") (wK (.int k)) loc hp Q) (h2:∀ Q:AV→Hp→Prop,Q (.int b) hp→wI (wV "other") (wK (.int k)) loc hp Q) (hP:P (decide (fO a b)) hp) :
  dC (wB (wX ca (wI (wV "one") (wK (.int k))) (wI (wV "other") (wK (.int k))))) (dC (wB (wX ca (wI (wV "one") (wK (.int k))) (wK (.int 0)))) (dC (wB (wX ca (wI (wV "other") (wK (.int k))) (wK (.int 0)))) cX)) loc hp P:=by
 unfold dC wB
 refine h1 _ (h2 _ (p9 ?_))
 by_cases w:(a:Int)=(b:Int)
 ·have e:decide (fO a b)=false:=decide_eq_false fun q=>q.1 (by exact Ap w)
  rw[e] at hP
  rw[decide_eq_true w]
  exact hP
 ·rw[decide_eq_false w]
  refine h1 _ (p9 ?_)
  by_cases w2:(a:Int)=0
  ·have e:decide (fO a b)=false:=decide_eq_false fun q=>q.2.1 (by exact BN w2)
   rw[e] at hP
   rw[decide_eq_true w2]
   exact hP
  ·rw[decide_eq_false w2]
   refine h2 _ (p9 ?_)
   by_cases w3:(b:Int)=0
   ·have e:decide (fO a b)=false:=decide_eq_false fun q=>q.2.2 (by exact BN w3)
    rw[e] at hP
    rw[decide_eq_true w3]
    exact hP
   ·have e:decide (fO a b)=true:=decide_eq_true ⟨by exact HJ w,by exact BO w2,by exact BO w3⟩
    rw[e] at hP
    rw[decide_eq_false w3]
    exact hP
noncomputable abbrev qB (r:ae):AV:=.tup [.int r.1,.int r.2.1,.int r.2.2]
noncomputable def Km:WE:=jX (wB (wX bv (wX ai (wV "one") (wV "k")) (wK (AV.int 0)))) (wX ai (wV "other") (wV "k")) (wX ai (wV "one") (wV "k"))
noncomputable abbrev CC (o t:ae) (k:Option AV):aX:=[("one",some (qB o)),("other",some (qB t)),("key",none),("name",none),("value",none),("k",k)]
theorem tJ {o t:ae} {j:Int} {a b:Nat} {hp:Hp} {P:AV→Hp→Prop} (h1:∀ Q:AV→Hp→Prop,Q (.int a) hp→ai (qB o) (.int j) hp Q) (h2:∀ Q:AV→Hp→Prop,Q (.int b) hp→ai (qB t) (.int j) hp Q) (hP:P (.int (cW a b)) hp):Km (CC o t (some (.int j))) hp P:=by
 unfold Km
 walk_at "r"
 refine h1 _ ?_
 walk_at "r"
 refine iH ?_
 walk_at "r"
 unfold cW at hP
 by_cases w:a=0
 ·refine zq (decide_eq_true (by exact HL w)) (h2 _ ?_)
  rw[if_pos w] at hP;exact hP
 ·refine vN (decide_eq_false (by exact BM w)) (h1 _ ?_)
  rw[if_neg w] at hP;exact hP
theorem v8 {o t:ae} {chk:Hp→Prop} {hp:Hp} {P:List AV→Hp→Prop} (hc:chk hp) (hP:P [.int (cW o.1 t.1),.int (cW o.2.1 t.2.1),.int (cW o.2.2 t.2.2)] hp) :
  eV (hM "k") cX Km chk [.int 0,.int 1,.int 2] (CC o t none) hp [] P:=by
 have s0:(0:Nat)≤sizeLine:=Nat.zero_le _
 refine tJ (a:=o.1) (b:=t.1) (fun Q q=>Ig q) (fun Q q=>Ig q) ⟨s0,hc,?_⟩
 refine tJ (a:=o.2.1) (b:=t.2.1) (fun Q q=>Ih q) (fun Q q=>Ih q) ⟨sz,hc,?_⟩
 exact tJ (a:=o.2.2) (b:=t.2.2) (fun Q q=>Ii q) (fun Q q=>Ii q) ⟨sz,hc,hP⟩
section
variable {C:Cx}
theorem JD (h:HK C):aI C 2 (.ref 350) JC:=by
 refine(mS h (u0 h) (JB h)).mono fun as hp P hF=>?_
 obtain⟨nm,at',o,t,rfl,sm,hP⟩:=hF
 have sm1:=sm.sm
 unfold fG
 rcases o with _ | o
 ·rcases t with _ | t
  ·unfold qA
   walk_at "r"
   refine⟨sz,?_⟩
   walk_at "r"
   refine⟨sz,?_⟩
   walk_at "r"
   refine⟨sz,?_⟩
   walk_at "r"
   exact hP _ _ _ _ ((Kp.app _ _).trans ((Kp.app _ _).trans (Kp.app _ _))) dK.2.2 dK.1 dK.2.1
  ·have s3:=sm1 t (by simp)
   unfold qA
   walk_at "r"
   unfold jr
   walk_at "r"
   refine⟨sz,?_⟩
   walk_at "r"
   refine LK ?_
   walk_at "r"
   by_cases w:t=(0,0,0)
   ·have eg:rW nm at' none (some t)=([],[]):=if_pos w
    rw[eg] at hP
    rw[decide_eq_true w]
    walk_at "r"
    refine⟨sz,?_⟩
    walk_at "r"
    refine⟨sz,?_⟩
    walk_at "r"
    refine⟨sz,?_⟩
    walk_at "r"
    exact hP _ _ _ _ ((Kp.app _ _).trans ((Kp.app _ _).trans (Kp.app _ _))) dK.2.2 dK.1 dK.2.1
   ·have eg:rW nm at' none (some t)=([(dY nm t).av],[.tup [sS "deleted",.tup [.int at'],.int 1]]):=if_neg w
    rw[eg] at hP
    rw[decide_eq_false w]
    walk_at "r"
    refine⟨nm,t,_,rfl,.inl rfl,s3,?_⟩
    walk_at "r"
    refine⟨sz,?_⟩
    walk_at "r"
    refine⟨sz,?_⟩
    walk_at "r"
    refine⟨sz,?_⟩
    walk_at "r"
    refine⟨sz,?_⟩
    walk_at "r"
    refine⟨sz,?_⟩
    walk_at "r"
    exact hP _ _ _ _ ((Kp.app _ _).trans ((Kp.app _ _).trans (Kp.app _ _))) dK.2.2 dK.1 dK.2.1
 ·rcases t with _ | t
  ·have s3:=sm1 o (by simp)
   unfold qA
   walk_at "r"
   unfold jr
   walk_at "r"
   refine⟨sz,?_⟩
   walk_at "r"
   refine LK ?_
   walk_at "r"
   by_cases w:o=(0,0,0)
   ·have eg:rW nm at' (some o) none=([],[]):=if_pos w
    rw[eg] at hP
    rw[decide_eq_true w]
    walk_at "r"
    refine⟨sz,?_⟩
    walk_at "r"
    refine⟨sz,?_⟩
    walk_at "r"
    refine⟨sz,?_⟩
    walk_at "r"
    exact hP _ _ _ _ ((Kp.app _ _).trans ((Kp.app _ _).trans (Kp.app _ _))) dK.2.2 dK.1 dK.2.1
   ·have eg:rW nm at' (some o) none=([(dY nm o).av],[.tup [sS "deleted",.tup [.int at'],.int 2]]):=if_neg w
    rw[eg] at hP
    rw[decide_eq_false w]
    walk_at "r"
    refine⟨nm,o,_,rfl,.inl rfl,s3,?_⟩
    walk_at "r"
    refine⟨sz,?_⟩
    walk_at "r"
    refine⟨sz,?_⟩
    walk_at "r"
    refine⟨sz,?_⟩
    walk_at "r"
    refine⟨sz,?_⟩
    walk_at "r"
    refine⟨sz,?_⟩
    walk_at "r"
    exact hP _ _ _ _ ((Kp.app _ _).trans ((Kp.app _ _).trans (Kp.app _ _))) dK.2.2 dK.1 dK.2.1
  ·have s1:=sm1 o (by simp)
   have s2:=sm1 t (by simp)
   have eg:rW nm at' (some o) (some t)=([(yf nm o t).av],rV at' o t):=rfl
   rw[eg] at hP
   unfold qA jr
   dsimp only[e8,ib,ny,lV,je,uI,uJ,List.cons_append,List.nil_append]
   refine cp (fun loc' hp'=>loc'=[("name",some (.str nm)),("at",some (.int at')),("one",some (qB o)),("other",some (qB t)),("kept",none),("clashes",none),("told",none),("form",none)]∧hp'=hp) (fun K hK=>?_) ?_
   ·walk_at "r"
    exact hK _ _ ⟨rfl,rfl⟩
   rintro _ h0 ⟨rfl,e0⟩
   rw[e0]
   clear e0 h0
   refine ic ?_
   refine cp (fun loc' h1=>∃ cl tr:Nat,loc'=[("name",some (.str nm)),("at",some (.int at')),("one",some (qB o)),("other",some (qB t)),("kept",none),("clashes",some (.ref cl)),("told",some (.ref tr)),("form",none)]∧Kp hp h1∧hp.length≤cl∧cl≠tr∧hp.length≤tr∧
    h1[cl]?=some (.list [])∧h1[tr]?=some (.list [.int (cW o.1 t.1:Nat),.int (cW o.2.1 t.2.1:Nat),.int (cW o.2.2 t.2.2:Nat)])) (fun K hK=>?_) ?_
   ·walk_at "r"
    refine⟨sz,?_⟩
    walk_at "r"
    refine⟨_,aO (n:=3) (by exact BP),?_⟩
    walk_at "r"
    rw[show hO _ _ _=[("one",some (qB o)),("other",some (qB t))] from rfl]
    refine v8 ⟨aO (n:=3) (by exact BP),rfl⟩ ?_
    refine⟨sz,?_⟩
    walk_at "r"
    exact hK _ _ ⟨hp.length,_,rfl,(Kp.app _ _).trans (Kp.app _ _),Nat.le_refl _,by simp,by simp,aB _ (aE _ _),rA (by simp)⟩
   rintro _ h1 ⟨cl,tr,rfl,k1,c1,c2,c3,g1,g2⟩
   refine ic ?_
   refine cp (fun loc' h2=>loc'=[("name",some (.str nm)),("at",some (.int at')),("one",some (qB o)),("other",some (qB t)),("kept",none),("clashes",some (.ref cl)),("told",some (.ref tr)),("form",none)]∧KB cl h1 h2∧h2[cl]?=some (.list (kZ at' o t))) (fun K hK=>?_) ?_
   ·unfold e9
    refine ph (a:=o.1) (b:=t.1) (fun Q q=>by walk_at "r";exact q) (fun Q q=>by walk_at "r";exact q) ?_
    unfold kZ at hK
    by_cases w:fO o.1 t.1
    ·rw[if_pos w] at hK
     rw[decide_eq_true w]
     walk_at "r"
     refine⟨⟨_,_,rfl,g1,rfl⟩,?_⟩
     walk_at "r"
     repeat ((first | refine⟨sz,?_⟩ | refine Add.tup sz ?_);walk_at "r")
     refine⟨o.1,rfl,s1.1,?_⟩
     walk_at "r"
     refine⟨t.1,rfl,s2.1,?_⟩
     walk_at "r"
     refine⟨sz,bW g1 (by simp) ⟨rfl,?_⟩⟩
     walk_at "r"
     exact hK _ _ ⟨rfl,fun m ob q e=>by rw[aJ _ (Ne.symm e)];exact q,aQ _ g1⟩
    ·rw[if_neg w] at hK
     rw[decide_eq_false w]
     walk_at "r"
     exact hK _ _ ⟨rfl,fun m ob q e=>q,g1⟩
   rintro _ h2 ⟨rfl,k2,g3⟩
   refine ic ?_
   refine cp (fun loc' h3=>loc'=[("name",some (.str nm)),("at",some (.int at')),("one",some (qB o)),("other",some (qB t)),("kept",none),("clashes",some (.ref cl)),("told",some (.ref tr)),("form",none)]∧KB cl h1 h3∧h3[cl]?=some (.list (kZ at' o t++n9 at' o t))) (fun K hK=>?_) ?_
   ·unfold e9
    refine ph (a:=o.2.1) (b:=t.2.1) (fun Q q=>by walk_at "r";exact q) (fun Q q=>by walk_at "r";exact q) ?_
    unfold n9 at hK
    by_cases w:fO o.2.1 t.2.1
    ·rw[if_pos w] at hK
     rw[decide_eq_true w]
     walk_at "r"
     refine⟨⟨_,_,rfl,g3,rfl⟩,?_⟩
     walk_at "r"
     repeat ((first | refine⟨sz,?_⟩ | refine Add.tup sz ?_);walk_at "r")
     refine iL s1.2.1 ?_
     walk_at "r"
     refine Add.str (DB s1.2.1) ?_
     walk_at "r"
     refine iL s2.2.1 ?_
     walk_at "r"
     refine Add.str (DB s2.2.1) ?_
     walk_at "r"
     refine⟨sz,bW g3 (by unfold kZ;split <;> simp) ⟨rfl,?_⟩⟩
     walk_at "r"
     exact hK _ _ ⟨rfl,fun m ob q e=>by rw[aJ _ (Ne.symm e)];exact k2 _ _ q e,aQ _ g3⟩
    ·rw[if_neg w] at hK
     rw[decide_eq_false w]
     walk_at "r"
     exact hK _ _ ⟨rfl,k2,by rw[List.append_nil];exact g3⟩
   rintro _ h3 ⟨rfl,k3,g4⟩
   refine ic ?_
   refine cp (fun loc' h3'=>loc'=[("name",some (.str nm)),("at",some (.int at')),("one",some (qB o)),("other",some (qB t)),("kept",none),("clashes",some (.ref cl)),("told",some (.ref tr)),("form",some (dY nm (cW o.1 t.1,cW o.2.1 t.2.1,cW o.2.2 t.2.2)).av)]∧h3'=h3) (fun K hK=>?_) ?_
   ·walk_at "r"
    exact⟨nm,(cW o.1 t.1,cW o.2.1 t.2.1,cW o.2.2 t.2.2),_,rfl,.inr ⟨tr,rfl,k3 _ _ g2 (Ne.symm c2)⟩,⟨g7 s1.1 s2.1,g7 s1.2.1 s2.2.1,g7 s1.2.2 s2.2.2⟩,hK _ _ ⟨rfl,rfl⟩⟩
   rintro _ h3' ⟨rfl,e3⟩
   rw[e3]
   clear e3 h3'
   have lz:(kZ at' o t++n9 at' o t).length≤100000:=by
    have a:(kZ at' o t).length≤1:=by unfold kZ;split <;> simp
    have b:(n9 at' o t).length≤1:=by unfold n9;split <;> simp
    rw[List.length_append];exact wc a b
   refine ic ?_
   refine cp (fun loc' h5=>loc'=[("name",some (.str nm)),("at",some (.int at')),("one",some (qB o)),("other",some (qB t)),("kept",none),("clashes",some (.ref cl)),("told",some (.ref tr)),("form",some (yf nm o t).av)]∧KB cl h1 h5∧h5[cl]?=some (.list (rV at' o t))) (fun K hK=>?_) ?_
   ·unfold e9
    refine ph (a:=o.2.2) (b:=t.2.2) (fun Q q=>by walk_at "r";exact q) (fun Q q=>by walk_at "r";exact q) ?_
    unfold rV yf pg at hK
    rw[Fm.av_eq]
    by_cases w:fO o.2.2 t.2.2
    ·rw[if_pos w] at hK
     rw[decide_eq_true w]
     have hk:cW o.2.2 t.2.2=o.2.2:=by unfold cW;rw[if_neg w.2.1]
     rw[hk]
     walk_at "r"
     refine⟨⟨_,_,rfl,g4,rfl⟩,?_⟩
     walk_at "r"
     repeat ((first | refine⟨sz,?_⟩ | refine Add.tup sz ?_);walk_at "r")
     refine bW g4 lz ⟨rfl,?_⟩
     walk_at "r"
     have hkk:(dY nm (cW o.1 t.1,cW o.2.1 t.2.1,o.2.2)).kids=[tF (cW o.2.1 t.2.1),cF o.2.2]:=by
      show tF (cW o.2.1 t.2.1)::bf o.2.2=_
      unfold bf
      rw[if_neg w.2.1]
     rw[hkk]
     refine⟨by exact HM,sz,by decide,?_⟩
     walk_at "r"
     refine iL s2.2.2 ?_
     walk_at "r"
     refine Add.str (Ix s2.2.2) ?_
     walk_at "r"
     repeat ((first | refine⟨sz,?_⟩ | refine Add.tup sz ?_);walk_at "r")
     refine hK _ _ ⟨rfl,fun m ob q e=>by rw[aJ _ (Ne.symm e)];exact k3 _ _ q e,?_⟩
     rw[if_pos w]
     exact aQ _ g4
    ·rw[if_neg w] at hK
     rw[decide_eq_false w]
     walk_at "r"
     refine hK _ _ ⟨?_,k3,by rw[if_neg w,List.append_nil];exact g4⟩
     rw[← Fm.av_eq]
     rfl
   rintro _ h5 ⟨rfl,k5,g5⟩
   walk_at "r"
   have cl5:=aR g5
   refine⟨sz,?_⟩
   walk_at "r"
   refine⟨sz,?_⟩
   walk_at "r"
   have kp:Kp hp h5:=fun m ob q=>k5 _ _ (k1 _ _ q) (by have:=aR q;exact eC this c1)
   have e1:=aE (h5++[aC.list [(yf nm o t).av]]) (aC.list [AV.ref h5.length,AV.ref cl])
   rw[show(h5++[aC.list [(yf nm o t).av]]).length=h5.length+1 by simp] at e1
   exact hP _ _ _ _ (kp.trans ((Kp.app _ _).trans (Kp.app _ _))) e1 (aB _ (aE _ _)) (aB _ (aB _ g5))
end
section
variable {s s':Nat→Int} {c:Nat→Nat→Option Int}
theorem v9 (p q:Nat):Tb s s' c (p+1) q≤Tb s s' c p q+s p:=by
 cases q with
 | zero=>exact Int.le_refl _
 | succ q=>exact lX.1
theorem vc (p q:Nat):Tb s s' c p (q+1)≤Tb s s' c p q+s' q:=by
 cases p with
 | zero=>exact Int.le_refl _
 | succ p=>exact lX.2
theorem yg {p q:Nat} (h:∀ p'<p,c p' q=none):∀ p'≤p,Tb s s' c p' (q+1)=Tb s s' c p' q+s' q:=by
 intro p'
 induction p' with
 | zero=>intro _;rfl
 | succ p' ih=>
  intro hp
  have a:=ih (by exact aj hp)
  have b:=v9 (s:=s) (s':=s') (c:=c) p' q
  show gv (Tb s s' c p' (q+1)+s p') (Tb s s' c (p'+1) q+s' q) (c p' q) (Tb s s' c p' q)=_
  rw[h p' (by exact bU hp),a]
  generalize Tb s s' c (p'+1) q=x at b ⊢
  generalize Tb s s' c p' q=y at b ⊢
  exact Int.le_antisymm lX.2 (jm (by rw[Int.add_right_comm];exact Int.add_le_add_right b _) (Int.le_refl _) fun k h=>nomatch h)
theorem yh {p q:Nat} (h:∀ q'<q,c p q'=none):∀ q'≤q,Tb s s' c (p+1) q'=Tb s s' c p q'+s p:=by
 intro q'
 induction q' with
 | zero=>intro _;rfl
 | succ q' ih=>
  intro hp
  have a:=ih (by exact aj hp)
  have b:=vc (s:=s) (s':=s') (c:=c) p q'
  show gv (Tb s s' c p (q'+1)+s p) (Tb s s' c (p+1) q'+s' q') (c p q') (Tb s s' c p q')=_
  rw[h q' (by exact bU hp),a]
  generalize Tb s s' c p (q'+1)=x at b ⊢
  generalize Tb s s' c p q'=y at b ⊢
  exact Int.le_antisymm lX.1 (jm (Int.le_refl _) (by rw[Int.add_right_comm];exact Int.add_le_add_right b _) fun k h=>nomatch h)
theorem u7 {p q:Nat} {k:Int} (h1:∀ p'<p,c p' q=none) (h2:∀ q'<q,c p q'=none) (hk:c p q=some k) (le:k≤s p+s' q):Tb s s' c (p+1) (q+1)=Tb s s' c p q+k:=by
 have a:=yg (s:=s) (s':=s') h1 p (Nat.le_refl _)
 have b:=yh (s:=s) (s':=s') h2 q (Nat.le_refl _)
 show gv (Tb s s' c p (q+1)+s p) (Tb s s' c (p+1) q+s' q) (c p q) (Tb s s' c p q)=_
 rw[hk,a,b]
 generalize Tb s s' c p q=y
 exact Int.le_antisymm yG (jm (by rw[Int.add_right_comm,Int.add_assoc];exact Int.add_le_add_left le y) (by rw[Int.add_assoc];exact Int.add_le_add_left le y) fun x e=>by cases e;exact Int.le_refl _)
inductive na:Nat→Nat→List St→Prop
 | nil:na 0 0 []
 | keep {p q k l}:(∀ p'<p,c p' q=none)→(∀ q'<q,c p q'=none)→c p q=some k→k≤s p+s' q→na p q l→na (p+1) (q+1) (l++[.keep p q])
 | out {p q l}:(∀ q'<q,c p q'=none)→na p q l→na (p+1) q (l++[.out p])
theorem na.steps {p q:Nat} {l:List St} (h:na (s:=s) (s':=s') (c:=c) p q l):ah (Tb s s' c) s c p q l:=by
 induction h with
 | nil=>exact .nil
 | @keep p q k l h1 h2 hk le _ ih=>exact .keep hk (u7 h1 h2 hk le) ih
 | @out p q l h1 _ ih=>
  refine .out (fun k=>?_) (yh h1 q (Nat.le_refl _)) ih
  obtain⟨p',q',k,e1,e2,e3,_⟩:=k
  cases e1
  subst e2
  rw[h1 q' (by exact dy)] at e3
  cases e3
theorem na.inns {p q:Nat} {l:List St} (h:na (s:=s) (s':=s') (c:=c) p q l) (p':Nat):aW l p'=[]:=by
 induction h with
 | nil=>rfl
 | keep _ _ _ _ _ ih=>rw[bE,ih];rfl
 | out _ _ ih=>rw[bE,ih];rfl
end
theorem js:∀ a<3,∀ b<3,pc a=pc b→a=b:=by decide +kernel
theorem pi:∀ a<3,∀ b<3,tS a=tS b→a=b:=by decide +kernel
theorem DC:∀ a<3,∀ b<3,cS a=cS b→a=b:=by decide +kernel
theorem rX:∀ a<3,PyData.strOk (tS a)=true∧tS a≠em:=by decide +kernel
theorem JE:∀ a<3,PyData.strOk (cS a)=true:=by decide +kernel
noncomputable def b1 (n:Nat):Int:=if n=0 then 0 else 1
noncomputable def nB (r:ae):Int:=b1 r.1+b1 r.2.1+b1 r.2.2
theorem nE (n:Nat):0≤b1 n∧b1 n≤1:=by unfold b1;split <;> decide
theorem rY {r:ae}:0<nB r↔r≠(0,0,0):=by
 obtain⟨a,b,c⟩:=r
 have z:∀ n,b1 n≤0→n=0:=fun n h=>Classical.byContradiction fun k=>absurd (show(1:Int)≤0 from(if_neg k:b1 n=1)▸h) (by decide)
 refine⟨fun h e=>by cases e;exact absurd h (by decide),fun h=>Int.not_le.mp fun e=>h ?_⟩
 have ha:=(nE a).1
 have hb:=(nE b).1
 have hc:=(nE c).1
 have eb:=Int.le_trans (Int.le_add_of_nonneg_right hc) e
 rw[z a (Int.le_trans (Int.le_add_of_nonneg_right hb) eb),z b (Int.le_trans (Int.le_add_of_nonneg_left ha) eb),z c (Int.le_trans (Int.le_add_of_nonneg_left (Int.add_nonneg ha hb)) e)]
theorem pj {a b:Str}:zD a=zD b↔a=b:=by
 unfold zD
 simp only[AV.tup.injEq,List.cons.injEq,AV.str.injEq,true_and,and_true]
 exact⟨fun h=>h.1,fun h=>⟨h,h⟩⟩
noncomputable abbrev z3:ae:=(0,0,0)
theorem JF {f g:Fm} {a b:Str} (hf:f.at_=[(kV,a)]) (hg:g.at_=[(kV,b)]):zu f g=if a=b then 0 else 1:=by
 unfold zu iW
 rw[hf,hg]
 by_cases w:a=b
 ·subst w;rw[if_pos rfl];simp
 ·rw[if_neg w]
  simp[cO,aY,w]
theorem JG {f g:Fm} (hf:f.at_=[]) (hg:g.at_=[]):zu f g=0:=by
 unfold zu iW
 rw[hf,hg]
 rfl
theorem yi {nm nm':Str} {r:ae} (h:n8 r):oV (dY nm z3) (dY nm' r)=b1 r.1:=by
 unfold oV
 rw[JF (a:=pc 0) (b:=pc r.1) rfl rfl,if_pos (show(dY nm z3).v=(dY nm' r).v from rfl)]
 unfold b1
 by_cases w:r.1=0
 ·rw[if_pos w,w,if_pos rfl];rfl
 ·rw[if_neg w,if_neg fun e=>w (js 0 (by exact jV) r.1 h.1 e).symm];rfl
theorem JH {n:Nat} (h:n<3):oV (tF 0) (tF n)=b1 n:=by
 unfold oV
 rw[JG rfl rfl]
 unfold b1
 show(if tS 0=tS n then (0:Int) else 1)+((0:Nat):Int)=_
 by_cases w:n=0
 ·rw[if_pos w,w,if_pos rfl];rfl
 ·rw[if_neg w,if_neg fun e=>w (pi 0 (by exact jV) n h e).symm];rfl
section
variable {A B:FL} {l:List (List Int×AV)}
theorem JI (h:eO A B l) {i j n:Nat} (hi:i<A.fs.length) (hj:j<B.fs.length) (e1:A.at i=tF 0) (e2:B.at j=tF n) (hn:n<3):gK l i j=some (b1 n):=by
 have l1:(A.row i).length=0:=by rw[FL.row_len' hi,e1];rfl
 have l2:(B.row j).length=0:=by rw[FL.row_len' hj,e2];rfl
 rw[gY h hi hj,e1,e2,if_pos (show yA (tF 0) (tF n)=true from gW.mpr ⟨rfl,rfl⟩),JH hn,l1,l2]
 show some (b1 n+0)=_
 rw[Int.add_zero]
theorem yj (h:eO A B l) {i j:Nat} (hi:i<A.fs.length) (hj:j<B.fs.length) (e:¬ ((A.at i).k=(B.at j).k∧(A.at i).lb=(B.at j).lb)):gK l i j=none:=by
 rw[gY h hi hj,if_neg fun q=>e (gW.mp q)]
theorem JJ (n m:Nat):(tF n).k≠(cF m).k:=by
 show tx≠Str.ofString "comment"
 decide +kernel
theorem lZ (h:eO A B l) {i j:Nat} {nm:Str} {r:ae} (hi:i<A.fs.length) (hj:j<B.fs.length) (e1:A.at i=dY nm z3) (e2:B.at j=dY nm r) (hr:n8 r) :
  gK l i j=some (nB r)∧(A.row i).length=1∧(B.row j).length=1+(bf r.2.2).length∧A.at ((A.row i).getD 0 0)=tF 0∧B.at ((B.row j).getD 0 0)=tF r.2.1∧(r.2.2≠0→B.at ((B.row j).getD 1 0)=cF r.2.2)∧
   ah (a9 A B l (A.row i) (B.row j)) (sA A (A.row i)) (pW l (A.row i) (B.row j)) (A.row i).length (B.row j).length (if r.2.2=0 then [.keep 0 0] else [.keep 0 0,.inn 1 1]):=by
 have l1:(A.row i).length=1:=by rw[FL.row_len' hi,e1];rfl
 have l2:(B.row j).length=1+(bf r.2.2).length:=by rw[FL.row_len' hj,e2];show(_::bf r.2.2).length=_;rw[List.length_cons];exact Hi
 have a0:=FL.kidAt hi (p:=0) (by exact nu l1)
 have b0:=FL.kidAt hj (p:=0) (by exact BX l2)
 have at0:A.at ((A.row i).getD 0 0)=tF 0:=by
  have:=a0.2.1
  rw[e1] at this
  injection this with this
  exact this.symm
 have bt0:B.at ((B.row j).getD 0 0)=tF r.2.1:=by
  have:=b0.2.1
  rw[e2] at this
  injection this with this
  exact this.symm
 have c00:pW l (A.row i) (B.row j) 0 0=some (b1 r.2.1):=JI h a0.2.2 b0.2.2 at0 bt0 hr.2.1
 have s0:sA A (A.row i) 0=1:=by
  show A.sz.getD ((A.row i).getD 0 0) 0=1
  rw[iI hi (by exact nu l1),at0];rfl
 have t0:sA B (B.row j) 0=1:=by
  show B.sz.getD ((B.row j).getD 0 0) 0=1
  rw[iI hj (by exact BX l2),bt0];rfl
 have bl:=nE r.2.1
 have f11:a9 A B l (A.row i) (B.row j) 1 1=a9 A B l (A.row i) (B.row j) 0 0+b1 r.2.1:=
  u7 (s:=sA A (A.row i)) (s':=sA B (B.row j)) (c:=pW l (A.row i) (B.row j)) (fun p' hp=>absurd hp (Nat.not_lt_zero _)) (fun p' hp=>absurd hp (Nat.not_lt_zero _)) c00 (by rw[s0,t0];exact Hj bl)
 have f00:a9 A B l (A.row i) (B.row j) 0 0=0:=rfl
 have st1:ah (a9 A B l (A.row i) (B.row j)) (sA A (A.row i)) (pW l (A.row i) (B.row j)) 1 1 [.keep 0 0]:=.keep c00 f11 .nil
 have lb:(A.at i).k=(B.at j).k∧(A.at i).lb=(B.at j).lb:=by rw[e1,e2];exact⟨rfl,rfl⟩
 by_cases w:r.2.2=0
 ·have l3:(B.row j).length=1:=by rw[l2,w];rfl
  refine⟨?_,l1,l2,at0,bt0,fun n=>absurd w n,?_⟩
  ·rw[gY h hi hj,if_pos (gW.mpr lb),l1,l3,f11,f00,e1,e2,yi hr]
   unfold nB
   rw[w]
   show some _=some _
   congr 1
   show _=_+0
   exact Hk
  ·rw[if_pos w,l1,l3];exact st1
 ·have l3:(B.row j).length=2:=by rw[l2];unfold bf;rw[if_neg w];rfl
  have b2:=FL.kidAt hj (p:=1) (by exact BZ l3)
  have bt1:B.at ((B.row j).getD 1 0)=cF r.2.2:=by
   have:=b2.2.1
   rw[e2] at this
   have e3:(dY nm r).kids[1]?=some (cF r.2.2):=by
    show(tF r.2.1::bf r.2.2)[1]?=_
    unfold bf;rw[if_neg w];rfl
   rw[e3] at this
   injection this with this
   exact this.symm
  have c01:pW l (A.row i) (B.row j) 0 1=none:=yj h a0.2.2 b2.2.2 (by rw[at0,bt1];exact fun q=>JJ _ _ q.1)
  have t1:sA B (B.row j) 1=1:=by
   show B.sz.getD ((B.row j).getD 1 0) 0=1
   rw[iI hj (by exact BZ l3),bt1];rfl
  have f12:a9 A B l (A.row i) (B.row j) 1 2=a9 A B l (A.row i) (B.row j) 1 1+sA B (B.row j) 1:=
   yg (s:=sA A (A.row i)) (s':=sA B (B.row j)) (c:=pW l (A.row i) (B.row j)) (p:=1) (q:=1) (fun p' hp=>by cases (Hl hp);exact c01) 1 (Nat.le_refl _)
  have f02:a9 A B l (A.row i) (B.row j) 0 2=2:=by
   show jn (sA B (B.row j)) 2=2
   show(0+sA B (B.row j) 0)+sA B (B.row j) 1=2
   rw[t0,t1];rfl
  refine⟨?_,l1,l2,at0,bt0,fun _=>bt1,?_⟩
  ·rw[gY h hi hj,if_pos (gW.mpr lb),l1,l3,f12,f11,f00,t1,e1,e2,yi hr]
   unfold nB
   have:b1 r.2.2=1:=by unfold b1;rw[if_neg w]
   rw[this]
   congr 1
   exact Hm
  ·rw[if_neg w,l1,l3]
   refine .inn (l:=[.keep 0 0]) (fun k=>?_) (fun k=>?_) st1
   ·obtain⟨p',q',k,x1,x2,x3,_⟩:=k
    cases x1;cases x2
    rw[c01] at x3;cases x3
   ·obtain⟨p',x1,x2⟩:=k
    cases x1
    rw[f12,f11,f00,t1,f02,s0] at x2
    exact Hn x2 bl
end
noncomputable def qn (names:List Str) (rows:List (Option ae)) (p:Nat):Nat:=(cH (names.take p) (rows.take p)).length
theorem rZ {names:List Str} {rows:List (Option ae)} (hl:names.length=rows.length) (k:Nat):cH names rows=cH (names.take k) (rows.take k)++cH (names.drop k) (rows.drop k):=by
 unfold cH
 rw[← List.filterMap_append,← List.zip_append (by simp[hl]),List.take_append_drop,List.take_append_drop]
theorem u8 {names:List Str} {rows:List (Option ae)} {p:Nat} {nm:Str} {r:ae} (h1:names[p]?=some nm) (h2:rows[p]?=some (some r)):qn names rows (p+1)=qn names rows p+1:=by
 unfold qn;rw[gZ h1 h2];simp
theorem u9 {names:List Str} {rows:List (Option ae)} {p:Nat} {nm:Str} (h1:names[p]?=some nm) (h2:rows[p]?=some none):qn names rows (p+1)=qn names rows p:=by
 unfold qn;rw[gZ h1 h2];simp
theorem yk {names:List Str} {rows:List (Option ae)} {p:Nat} {nm:Str} {r:ae} (hl:names.length=rows.length) (h1:names[p]?=some nm) (h2:rows[p]?=some (some r)):(cH names rows)[qn names rows p]?=some (dY nm r):=by
 rw[rZ hl (p+1),gZ h1 h2]
 unfold qn
 simp
theorem JK {names:List Str} {rows:List (Option ae)} (hl:names.length=rows.length):∀ p≤names.length,∀ q'<qn names rows p,∃ p' nm r,p'<p∧names[p']?=some nm∧rows[p']?=some (some r)∧(cH names rows)[q']?=some (dY nm r):=by
 intro p
 induction p with
 | zero=>intro _ q' h;unfold qn cH at h;simp at h
 | succ p ih=>
  intro hp q' h
  obtain⟨nm,h1⟩:∃ x,names[p]?=some x:=⟨_,gE (bU hp)⟩
  obtain⟨ro,h2⟩:∃ x,rows[p]?=some x:=⟨_,gE (t7 hp hl)⟩
  cases ro with
  | none=>
   rw[u9 h1 h2] at h
   refine nn fun nG=>?_
   obtain⟨p',nm',r',a,b⟩:=ih (by exact aj hp) q' h
   refine nG ?_;clear nG
   exact⟨p',nm',r',by exact dc a,b⟩
  | some r=>
   rw[u8 h1 h2] at h
   rcases Nat.lt_or_ge q' (qn names rows p) with e | e
   ·refine nn fun nG=>?_
    obtain⟨p',nm',r',a,b⟩:=ih (by exact aj hp) q' e
    refine nG ?_;clear nG
    exact⟨p',nm',r',by exact dc a,b⟩
   ·have:q'=qn names rows p:=by exact wj h e
    subst this
    exact⟨p,nm,r,by exact dy,h1,h2,yk hl h1 h2⟩
noncomputable def eJ (n:Nat):List (Option ae):=List.replicate n (some z3)
theorem r8 (names:List Str):cH names (eJ names.length)=names.map fun n=>dY n z3:=by
 unfold cH eJ
 induction names with
 | nil=>rfl
 | cons a r ih=>rw[List.length_cons,List.replicate_succ,List.zip_cons_cons,List.filterMap_cons];simp only[Option.map_some,List.map_cons];rw[ih]
theorem r9 {names:List Str} (nd:names.Nodup) {p p':Nat} {a b:Str} (h1:names[p]?=some a) (h2:names[p']?=some b) (h:p'<p):a≠b:=by
 refine nn fun nG=>?_
 obtain⟨l1,e1⟩:=List.getElem?_eq_some_iff.mp h1
 obtain⟨l2,e2⟩:=List.getElem?_eq_some_iff.mp h2
 refine nG ?_;clear nG
 intro e
 rw[← e1,← e2] at e
 exact(List.pairwise_iff_getElem.mp nd) p' p l2 l1 h e.symm
theorem ua (nm:Str) (r:ae):2≤(dY nm r).size:=by
 rw[Fm.size_eq]
 show 2≤1+Fm.sizes (tF r.2.1::bf r.2.2)
 have:(tF r.2.1).size=1:=rfl
 simp only[Fm.sizes]
 exact Hq this
theorem AF (r:ae):nB r≤3:=by
 have a:=nE r.1
 have b:=nE r.2.1
 have c:=nE r.2.2
 unfold nB;exact Hr a b c
section
variable {A:FL}
noncomputable abbrev FL.tp (F:FL):Nat:=F.fs.length-1
structure Pl (S:Sd A) (names:List Str) (rows:List (Option ae)):Prop where
 top:S.pm A.tp=some S.B.tp
 ins:∀ p,S.ins A.tp p=[]
 kept:∀ (p:Nat) nm r,names[p]?=some nm→rows[p]?=some (some r)→∃ d,S.pm ((A.row A.tp).getD p 0)=some d∧S.B.at d=dY nm r
 out:∀ p:Nat,rows[p]?=some none→S.pm ((A.row A.tp).getD p 0)=none
theorem jt {names:List Str} (e:A.root=cZ names (eJ names.length)):(A.row A.tp).length=names.length∧∀ (p:Nat) nm,names[p]?=some nm→A.at ((A.row A.tp).getD p 0)=dY nm z3:=by
 have ek:(A.at A.tp).kids=names.map fun n=>dY n z3:=by rw[FL.topAt,e];exact r8 names
 have l:(A.row A.tp).length=names.length:=by rw[FL.row_len' (FL.topLt A),ek,List.length_map]
 refine⟨l,fun p nm h=>?_⟩
 have hp:=(bj h)
 have:=(FL.kidAt (FL.topLt A) (p:=p) (by rw[l];exact hp)).2.1
 rw[ek,List.getElem?_map,h] at this
 injection this with this
 exact this.symm
theorem ym {B:FL} {names:List Str} {rows:List (Option ae)} (e:B.root=cZ names rows):(B.row B.tp).length=(cH names rows).length∧∀ (q:Nat) f,(cH names rows)[q]?=some f→q<(B.row B.tp).length∧B.at ((B.row B.tp).getD q 0)=f:=by
 have ek:(B.at B.tp).kids=cH names rows:=by rw[FL.topAt,e];rfl
 have l:(B.row B.tp).length=(cH names rows).length:=by rw[FL.row_len' (FL.topLt B),ek]
 refine⟨l,fun q f h=>?_⟩
 have hq:=(bj h)
 have:=(FL.kidAt (FL.topLt B) (p:=q) (by rw[l];exact hq)).2.1
 rw[ek,h] at this
 injection this with this
 exact⟨by rw[l];exact hq,this.symm⟩
theorem Pl.of {S:Sd A} {names:List Str} {rows:List (Option ae)} (nd:names.Nodup) (hl:names.length=rows.length) (sm:cw rows) (eA:A.root=cZ names (eJ names.length)) (eB:S.B.root=cZ names rows):Pl S names rows:=by
 refine nn fun nG=>?_
 obtain⟨lA,atA⟩:=jt eA
 obtain⟨lB,atB⟩:=ym eB
 refine nG ?_;clear nG
 have top:S.pm A.tp=some S.B.tp:=by
  rw[S.ok.top,gY S.ok.cost (FL.topLt A) (FL.topLt S.B),if_pos (gW.mpr (by rw[FL.topAt,FL.topAt,eA,eB];exact⟨rfl,rfl⟩))]
  rfl
 have same:∀ (p q:Nat) nm r,names[p]?=some nm→(cH names rows)[q]?=some (dY nm r)→n8 r→pW S.l (A.row A.tp) (S.B.row S.B.tp) p q=some (nB r)∧nB r≤sA A (A.row A.tp) p+sA S.B (S.B.row S.B.tp) q:=fun p q nm r h1 h2 h3=>by
  have hp:=(bj h1)
  obtain⟨hq,e2⟩:=atB q _ h2
  have e1:=atA p nm h1
  have a:=FL.kidAt (FL.topLt A) (p:=p) (by rw[lA];exact hp)
  have b:=FL.kidAt (FL.topLt S.B) hq
  refine⟨(lZ S.ok.cost a.2.2 b.2.2 e1 e2 h3).1,?_⟩
  have x1:sA A (A.row A.tp) p=((dY nm z3).size:Int):=by
   show A.sz.getD ((A.row A.tp).getD p 0) 0=_
   rw[iI (FL.topLt A) (by rw[lA];exact hp),e1]
  have x2:sA S.B (S.B.row S.B.tp) q=((dY nm r).size:Int):=by
   show S.B.sz.getD ((S.B.row S.B.tp).getD q 0) 0=_
   rw[iI (FL.topLt S.B) hq,e2]
  have y1:=ua nm z3
  have y2:=ua nm r
  have y3:=AF r
  rw[x1,x2];exact Hs y1 y2 y3
 have diff:∀ (p q:Nat) nm nm' r,names[p]?=some nm→(cH names rows)[q]?=some (dY nm' r)→nm≠nm'→pW S.l (A.row A.tp) (S.B.row S.B.tp) p q=none:=fun p q nm nm' r h1 h2 h3=>by
  have hp:=(bj h1)
  obtain⟨hq,e2⟩:=atB q _ h2
  have e1:=atA p nm h1
  have a:=FL.kidAt (FL.topLt A) (p:=p) (by rw[lA];exact hp)
  have b:=FL.kidAt (FL.topLt S.B) hq
  exact yj S.ok.cost a.2.2 b.2.2 (by rw[e1,e2];exact fun x=>h3 (pj.mp x.2))
 have plan:∀ p≤names.length,∃ l,na (s:=sA A (A.row A.tp)) (s':=sA S.B (S.B.row S.B.tp)) (c:=pW S.l (A.row A.tp) (S.B.row S.B.tp)) p (qn names rows p) l∧
   ∀ p'<p,(∀ r,rows[p']?=some (some r)→ay l p'=[qn names rows p'])∧(rows[p']?=some none→ay l p'=[]):=by
  intro p
  induction p with
  | zero=>intro _;exact⟨[],.nil,fun p' h=>absurd h (Nat.not_lt_zero _)⟩
  | succ p ih=>
   intro hp
   refine nn fun nG=>?_
   obtain⟨l,pl,hk⟩:=ih (by exact aj hp)
   refine nG ?_;clear nG
   obtain⟨nm,h1⟩:∃ x,names[p]?=some x:=⟨_,gE (bU hp)⟩
   obtain⟨ro,h2⟩:∃ x,rows[p]?=some x:=⟨_,gE (t7 hp hl)⟩
   have hm:=List.mem_of_getElem? h2
   have left:∀ q'<qn names rows p,pW S.l (A.row A.tp) (S.B.row S.B.tp) p q'=none:=fun q' hq=>by
    refine nn fun nG=>?_
    obtain⟨p',nm',r',a,b,c,d⟩:=JK hl p (by exact aj hp) q' hq
    refine nG ?_;clear nG
    exact diff p q' nm nm' r' h1 d (r9 nd h1 b a)
   have kb:=gX pl.steps (Nat.le_refl p)
   cases ro with
   | none=>
    rw[u9 h1 h2]
    refine⟨_,.out left pl,fun p' hp'=>?_⟩
    rw[b8,show ay [St.out p] p'=[] from rfl,List.append_nil]
    rcases Nat.lt_or_ge p' p with e | e
    ·exact hk p' e
    ·have:p'=p:=by exact wj hp' e
     subst this
     rw[kb]
     exact⟨fun r q=>(by rw[h2] at q;cases q),fun _=>rfl⟩
   | some r=>
    rw[u8 h1 h2]
    have at1:=yk hl h1 h2
    obtain⟨c1,c2⟩:=same p (qn names rows p) nm r h1 at1 (sm.sm r hm)
    refine⟨_,.keep (fun p' hp'=>?_) left c1 c2 pl,fun p' hp'=>?_⟩
    ·have h3:=gE (show p'<names.length by exact Hu hp hp')
     exact diff p' _ _ nm r h3 at1 (r9 nd h1 h3 hp').symm
    ·rw[b8]
     rcases Nat.lt_or_ge p' p with e | e
     ·have:ay [St.keep p (qn names rows p)] p'=[]:=by simp[ay];exact wh e
      rw[this,List.append_nil]
      exact hk p' e
     ·have:p'=p:=by exact wj hp' e
      subst this
      rw[kb]
      refine⟨fun r q=>by simp[ay],fun q=>?_⟩
      rw[h2] at q
      cases q
 refine nn fun nG=>?_
 obtain⟨l,pl,hk⟩:=plan names.length (Nat.le_refl _)
 refine nG ?_;clear nG
 have qe:qn names rows names.length=(S.B.row S.B.tp).length:=by
  rw[lB]
  unfold qn
  rw[List.take_length,show rows.take names.length=rows by rw[hl,List.take_length]]
 have of:S.Of A.tp S.B.tp l:=by
  unfold Sd.Of
  rw[lA,← qe]
  exact pl.steps
 refine⟨top,fun p=>?_,fun p nm r h1 h2=>?_,fun p h2=>?_⟩
 ·rw[Sd.inns top of,pl.inns];rfl
 ·have hp:=(bj h1)
  exact⟨_,Sd.kid_some top of ((hk p hp).1 r h2),(atB _ _ (yk hl h1 h2)).2⟩
 ·have hp:=(bj h2)
  exact Sd.kid_none top of (by rw[lA];exact bt hp hl) ((hk p (by exact bt hp hl)).2 h2)
structure Ch (S:Sd A) (c:Nat) (nm:Str) (r:ae) (d j:Nat):Prop where
 pm:S.pm c=some d
 at':S.B.at d=dY nm r
 cost:gK S.l c d=some (nB r)
 ins0:S.ins c 0=[]
 ins1:S.ins c 1=(bf r.2.2).map Fm.av
 tpm:S.pm ((A.row c).getD 0 0)=some j
 tat:S.B.at j=tF r.2.1
 tins:S.ins ((A.row c).getD 0 0) 0=[]
theorem Ch.of {S:Sd A} {c d:Nat} {nm:Str} {r:ae} (h:S.pm c=some d) (e1:A.at c=dY nm z3) (e2:S.B.at d=dY nm r) (hr:n8 r):∃ j,Ch S c nm r d j:=by
 refine nn fun nG=>?_
 obtain⟨a,b⟩:=S.ok.lt _ _ h
 obtain⟨x1,x2,x3,x4,x5,x6,x7⟩:=lZ S.ok.cost a b e1 e2 hr
 refine nG ?_;clear nG
 have of:S.Of c d (if r.2.2=0 then [.keep 0 0] else [.keep 0 0,.inn 1 1]):=x7
 have k0:ay (if r.2.2=0 then [St.keep 0 0] else [St.keep 0 0,St.inn 1 1]) 0=[0]:=by split <;> rfl
 have tpm:=Sd.kid_some h of k0
 refine⟨_,h,e2,x1,?_,?_,tpm,x5,?_⟩
 ·rw[Sd.inns h of]
  have:aW (if r.2.2=0 then [St.keep 0 0] else [St.keep 0 0,St.inn 1 1]) 0=[]:=by split <;> rfl
  rw[this];rfl
 ·rw[Sd.inns h of]
  by_cases w:r.2.2=0
  ·rw[if_pos w]
   unfold bf
   rw[if_pos w]
   rfl
  ·rw[if_neg w]
   unfold bf
   rw[if_neg w]
   show [lH S.B d 1]=[_]
   unfold lH
   rw[x6 w]
 ·refine nn fun nG=>?_
  obtain⟨a',b',st,s⟩:=Sd.steps tpm
  refine nG ?_;clear nG
  have l1:(A.row ((A.row c).getD 0 0)).length=0:=by rw[FL.row_len' a',x4];rfl
  have l2:(S.B.row ((S.B.row d).getD 0 0)).length=0:=by rw[FL.row_len' b',x5];rfl
  rw[Sd.inns tpm s]
  have:st=[]:=by
   unfold Sd.Of at s
   rw[l1,l2] at s
   cases s
   rfl
  rw[this];rfl
end
theorem rc {A:FL} {i:Nat} {l:List Nat} (h:bT A i l):(i=A.tp∧l=[])∨∃ j q l',A.pr[i]?=some (some j)∧A.pl[i]?=some q∧bT A j l'∧l=l'++[q]:=by
 cases h with
 | top=>exact .inl ⟨rfl,rfl⟩
 | step a b c=>exact .inr ⟨_,_,_,a,b,c,rfl⟩
theorem yn {A:FL} {l:List Nat} (h:bT A A.tp l):l=[]:=by
 rcases rc h with⟨_,e⟩ | ⟨j,q,l',a,_⟩
 ·exact e
 ·rw[A.ok.topp] at a;cases a
theorem rd {A:FL} {i p:Nat} {l:List Nat} (hi:i<A.fs.length) (hp:p<(A.row i).length) (h:bT A ((A.row i).getD p 0) l):∃ l',bT A i l'∧l=l'++[p]:=by
 refine nn fun nG=>?_
 obtain⟨k1,k2,k3,k4,k5⟩:=FL.kid hi (i3 hp)
 refine nG ?_;clear nG
 rcases rc h with⟨e,_⟩ | ⟨j,q,l',a,b,c,d⟩
 ·rw[e,A.ok.topp] at k3;cases k3
 ·rw[k3] at a
  rw[k4] at b
  cases a;cases b
  exact⟨l',c,d⟩
theorem oj (a:Nat):cW a a=a:=by unfold cW;split <;> exact Hv
theorem om (a:Nat):cW a 0=a:=by unfold cW;split;exact Eq.symm ‹_›;rfl
theorem JL {a b:Nat} (ha:a<3) (hb:b<3) (path:AV):rK (tF 0) (tF a) (tF b) path ([],[])=([(tF (cW a b)).av],if fO a b then [.tup [sS "value",path,.str (tS a),.str (tS b)]] else []):=by
 have e:gw (tF 0) (tF a) (tF b) path=(tS (cW a b),if fO a b then [.tup [sS "value",path,.str (tS a),.str (tS b)]] else []):=by
  unfold gw
  show(if tS a=tS b∨tS b=tS 0 then (tS a,[]) else if tS a=tS 0 then (tS b,[]) else (tS a,[AV.tup [sS "value",path,.str (tS a),.str (tS b)]]))=_
  by_cases h1:tS a=tS b∨tS b=tS 0
  ·rw[if_pos h1]
   rcases h1 with h | h
   ·have:=pi a ha b hb h
    subst this
    rw[oj,if_neg fun c=>c.1 rfl]
   ·have:=pi b hb 0 (by exact jV) h
    subst this
    rw[om,if_neg fun c=>c.2.2 rfl]
  ·rw[if_neg h1]
   have n1:a≠b:=fun e=>h1 (.inl (by rw[e]))
   have n2:b≠0:=fun e=>h1 (.inr (by rw[e]))
   by_cases h2:tS a=tS 0
   ·have:=pi a ha 0 (by exact jV) h2
    subst this
    rw[if_pos rfl,if_neg fun c=>c.2.1 rfl]
    rfl
   ·have n3:a≠0:=fun e=>h2 (by rw[e])
    rw[if_neg h2,if_pos ⟨n1,n3,n2⟩]
    unfold cW
    rw[if_neg n3]
 unfold rK
 rw[e]
 show(_,_++[]++[])=_
 rw[List.append_nil,List.append_nil,Fm.av_eq]
 rfl
theorem DD {a b:Nat} (ha:a<3) (hb:b<3) (path:AV):dJ ((bf a).map Fm.av) ((bf b).map Fm.av) path 1=((pg a b).map Fm.av,if fO a b then [.tup [sS "inserted",path,.int 1]] else []):=by
 unfold pg
 by_cases h1:b=0
 ·subst h1
  rw[show(bf 0).map Fm.av=[] from rfl,kY,if_neg fun c=>c.2.2 rfl,if_neg fun c=>c.2.2 rfl,om]
 by_cases h2:a=b
 ·subst h2
  rw[y9,if_neg fun c=>c.1 rfl,if_neg fun c=>c.1 rfl,oj]
 by_cases h3:a=0
 ·subst h3
  rw[show(bf 0).map Fm.av=[] from rfl,y8,if_neg fun c=>c.2.1 rfl,if_neg fun c=>c.2.1 rfl]
  rfl
 ·have c:fO a b:=⟨h2,h3,h1⟩
  rw[if_pos c,if_pos c]
  have ka:bf a=[cF a]:=by unfold bf;rw[if_neg h3]
  have kb:bf b=[cF b]:=by unfold bf;rw[if_neg h1]
  rw[ka,kb]
  unfold dJ
  rw[if_neg,if_neg]
  ·rfl
  ·simp
  ·rintro(h | h)
   ·simp at h
   ·simp only[List.map_cons,List.map_nil,List.cons.injEq,and_true] at h
    rw[Fm.av_eq,Fm.av_eq] at h
    simp only[AV.tup.injEq,List.cons.injEq,AV.str.injEq] at h
    exact h2 (DC a ha b hb h.2.2.1)
theorem AG (nm:Str) (b o t:ae):aY (bC (dY nm b) (dY nm o) (dY nm t))=[kV]:=by
 unfold bC mq
 show aY (List.foldl _ [] [kV,kV,kV])=_
 simp[aY]
theorem JM {nm:Str} {o t:ae} {p:Nat} {ch:List AV×List AV} (ho:n8 o) (ht:n8 t) (h1:ch.1=(tF (cW o.2.1 t.2.1)::pg o.2.2 t.2.2).map Fm.av):rK (dY nm z3) (dY nm o) (dY nm t) (.tup [.int p]) ch=([(yf nm o t).av],kZ p o t++ch.2):=by
 have ev:gw (dY nm z3) (dY nm o) (dY nm t) (.tup [.int p])=(em,[]):=by unfold gw;rw[if_pos (.inl rfl)];rfl
 have a1:∀ r:ae,cO (dY nm r).at_ kV=some (pc r.1):=fun r=>by show cO [(kV,pc r.1)] kV=_;simp[cO]
 have ef:jp (dY nm z3) (dY nm o) (dY nm t) [kV]=[dF (kV,pc (cW o.1 t.1))]:=by
  unfold jp gH
  rw[List.filterMap_cons,a1,a1,a1]
  by_cases w:o.1=0
  ·rw[w,if_pos rfl]
   rfl
  ·rw[if_neg fun e=>w (js o.1 ho.1 0 (by exact jV) (Option.some.inj e))]
   unfold cW
   rw[if_neg w]
   rfl
 have ec:jq (dY nm z3) (dY nm o) (dY nm t) (.tup [.int p]) [kV]=kZ p o t:=by
  unfold jq
  have tl:∀ r:ae,eQ (dY nm r).at_ kV=CB r.1:=fun r=>by unfold eQ;rw[a1];rfl
  have:fK (dY nm z3) (dY nm o) (dY nm t) (.tup [.int p]) kV=if fO o.1 t.1 then some (.tup [sS "attribute",.tup [.int p],aS kV,CB o.1,CB t.1]) else none:=by
   unfold fK
   rw[a1,a1,a1,tl,tl]
   by_cases w:fO o.1 t.1
   ·rw[if_pos w,if_pos]
    exact⟨fun e=>w.2.1 (js o.1 ho.1 0 (by exact jV) (Option.some.inj e)),fun e=>w.2.2 (js t.1 ht.1 0 (by exact jV) (Option.some.inj e)),fun e=>w.1 (js o.1 ho.1 t.1 ht.1 (Option.some.inj e))⟩
   ·rw[if_neg w,if_neg]
    intro hI
    refine nn fun nG=>?_
    obtain⟨x,y,z⟩:=hI
    refine nG ?_;clear nG
    exact w ⟨fun e=>z (by rw[e]),fun e=>x (by rw[e]),fun e=>y (by rw[e])⟩
  rw[List.filterMap_cons,this]
  unfold kZ
  by_cases w:fO o.1 t.1
  ·rw[if_pos w,if_pos w];rfl
  ·rw[if_neg w,if_neg w];rfl
 unfold rK
 rw[ev,AG,ef,ec,h1,(yf nm o t).av_eq]
 rfl
section
variable {A:FL} {S T:Sd A} {rows:RW}
theorem CD {i:Nat} {path:AV} (hl:(A.row i).length=0) (h1:S.ins i 0=[]) (h2:T.ins i 0=[]):fM S T rows (A.row i) i path ((A.row i).length+1)=([],[]):=by
 rw[hl]
 unfold fM
 rw[h1,h2,kY,hl]
 rfl
theorem JN {c p d d' j j':Nat} {nm:Str} {o t:ae} (hc:c<A.fs.length) (e1:A.at c=dY nm z3) (so:n8 o) (st:n8 t) (hS:Ch S c nm o d j) (hT:Ch T c nm t d' j') (hp:∀ l,bT A c l→l=[p]) (hr:df S T rows ((A.row c).getD 0 0)) :
  rows ((A.row c).getD 0 0)=([(tF (cW o.2.1 t.2.1)).av],n9 p o t):=by
 refine nn fun nG=>?_
 obtain⟨a,b⟩:=S.ok.lt _ _ hS.pm
 obtain⟨l1,l2,l3,l4,_⟩:=(lZ S.ok.cost a b e1 hS.at' so).2
 obtain⟨l,pt,er⟩:=hr
 obtain⟨l',pt',rfl⟩:=rd hc (by exact nu l1) pt
 refine nG ?_;clear nG
 have:=hp l' pt'
 subst this
 have ti:=(FL.kidAt hc (p:=0) (by exact nu l1)).2.2
 rw[er]
 unfold da
 rw[hS.tpm,hT.tpm]
 dsimp only
 rw[CD (by rw[FL.row_len' ti,l3];rfl) hS.tins hT.tins,l3,hS.tat,hT.tat,JL so.2.1 st.2.1]
 rfl
theorem CE {c p d d' j j':Nat} {nm:Str} {o t:ae} {path:AV} (hc:c<A.fs.length) (e1:A.at c=dY nm z3) (so:n8 o) (st:n8 t) (hS:Ch S c nm o d j) (hT:Ch T c nm t d' j') (hp:∀ l,bT A c l→l=[p]) (hr:df S T rows ((A.row c).getD 0 0)) :
  fM S T rows (A.row c) c path ((A.row c).length+1)=((tF (cW o.2.1 t.2.1)::pg o.2.2 t.2.2).map Fm.av,n9 p o t++if fO o.2.2 t.2.2 then [.tup [sS "inserted",path,.int 1]] else []):=by
 obtain⟨a,b⟩:=S.ok.lt _ _ hS.pm
 have l1:(A.row c).length=1:=(lZ S.ok.cost a b e1 hS.at' so).2.1
 have rt:=JN hc e1 so st hS hT hp hr
 rw[l1]
 simp only[fM,l1,show((0:Nat)<1)=True from eq_true Nat.zero_lt_one,show((0+1:Nat)<1)=False from eq_false (by exact Hw),if_true,if_false,reduceIte,rt,hS.ins0,hT.ins0,Nat.zero_add,hS.ins1,hT.ins1,kY,DD so.2.2 st.2.2]
 simp
theorem JO {c p d d' j j':Nat} {nm:Str} {o t:ae} (hc:c<A.fs.length) (e1:A.at c=dY nm z3) (so:n8 o) (st:n8 t) (hS:Ch S c nm o d j) (hT:Ch T c nm t d' j') (hp:∀ l,bT A c l→l=[p]) (hr:df S T rows ((A.row c).getD 0 0)) (hr2:df S T rows c) :
  rows c=rW nm p (some o) (some t):=by
 refine nn fun nG=>?_
 obtain⟨l,pt,er⟩:=hr2
 refine nG ?_;clear nG
 have:=hp l pt
 subst this
 rw[er]
 unfold da
 rw[hS.pm,hT.pm]
 dsimp only
 rw[e1,hS.at',hT.at']
 show rK _ _ _ (.tup [.int p]) _=_
 rw[CE hc e1 so st hS hT hp hr,JM so st rfl]
 show(_,_)=(_,_)
 rw[← List.append_assoc]
 rfl
theorem yo {c d:Nat} {nm:Str} {r:ae} {who:Int} {p:Nat} {U:Sd A} (h:gK U.l c d=some (nB r)) (e:U.B.at d=dY nm r):iG U c d who (.tup [.int p])=gone nm p r who:=by
 unfold iG gone
 rw[h,e]
 show(if 0<nB r then _ else _)=_
 by_cases w:r=(0,0,0)
 ·rw[if_pos w,if_neg (fun q=>rY.mp q w)]
 ·rw[if_neg w,if_pos (rY.mpr w)]
theorem AH {c p:Nat} {nm:Str} {ro rt:Option ae} (hc:c<A.fs.length) (e1:A.at c=dY nm z3) (sm:cw [ro,rt]) (hS:∀ r,ro=some r→∃ d,S.pm c=some d∧S.B.at d=dY nm r) (hT:∀ r,rt=some r→∃ d,T.pm c=some d∧T.B.at d=dY nm r)
  (nS:ro=none→S.pm c=none) (nT:rt=none→T.pm c=none) (hp:∀ l,bT A c l→l=[p]) (hr:df S T rows ((A.row c).getD 0 0)) (hr2:df S T rows c):rows c=rW nm p ro rt:=by
 cases ro with
 | none=>
  have x:=nS rfl
  cases rt with
  | none=>
   refine nn fun nG=>?_
   obtain⟨l,pt,er⟩:=hr2
   refine nG ?_;clear nG
   rw[er];unfold da;rw[x,nT rfl];rfl
  | some t=>
   refine nn fun nG=>?_
   obtain⟨d,y1,y2⟩:=hT t rfl
   obtain⟨j,ch⟩:=Ch.of y1 e1 y2 (sm.sm t (by simp))
   obtain⟨l,pt,er⟩:=hr2
   refine nG ?_;clear nG
   have:=hp l pt
   subst this
   rw[er];unfold da;rw[x,y1]
   exact yo ch.cost ch.at'
 | some o=>
  refine nn fun nG=>?_
  obtain⟨d,x1,x2⟩:=hS o rfl
  obtain⟨j,ch⟩:=Ch.of x1 e1 x2 (sm.sm o (by simp))
  refine nG ?_;clear nG
  cases rt with
  | none=>
   refine nn fun nG=>?_
   obtain⟨l,pt,er⟩:=hr2
   refine nG ?_;clear nG
   have:=hp l pt
   subst this
   rw[er];unfold da;rw[x1,nT rfl]
   exact yo ch.cost ch.at'
  | some t=>
   refine nn fun nG=>?_
   obtain⟨d',y1,y2⟩:=hT t rfl
   obtain⟨j',ch'⟩:=Ch.of y1 e1 y2 (sm.sm t (by simp))
   refine nG ?_;clear nG
   exact JO hc e1 (sm.sm o (by simp)) (sm.sm t (by simp)) ch ch' hp hr hr2
end
noncomputable def fm (names:List Str) (o t:List (Option ae)):Nat→List AV×List AV
 | 0=>([],[])
 | p+1=>((fm names o t p).1++(rW (names.getD p em) p (o.getD p none) (t.getD p none)).1,(fm names o t p).2++(rW (names.getD p em) p (o.getD p none) (t.getD p none)).2)
structure dX (A:FL) (S T:Sd A) (names:List Str) (o t:List (Option ae)):Prop where
 nd:names.Nodup
 lo:names.length=o.length
 lt:names.length=t.length
 so:cw o
 st:cw t
 eA:A.root=cZ names (eJ names.length)
 eS:S.B.root=cZ names o
 eT:T.B.root=cZ names t
section
variable {A:FL} {S T:Sd A} {names:List Str} {o t:List (Option ae)}
theorem dX.pS (h:dX A S T names o t):Pl S names o:=Pl.of h.nd h.lo h.so h.eA h.eS
theorem dX.pT (h:dX A S T names o t):Pl T names t:=Pl.of h.nd h.lt h.st h.eA h.eT
theorem dX.kid (h:dX A S T names o t) {p:Nat} (hp:p<names.length):(A.row A.tp).getD p 0<A.fs.length∧(A.row A.tp).getD p 0<A.tp∧A.at ((A.row A.tp).getD p 0)=dY (names.getD p em) z3∧(∀ l,bT A ((A.row A.tp).getD p 0) l→l=[p])∧(A.row ((A.row A.tp).getD p 0)).length=1∧
  A.at ((A.row ((A.row A.tp).getD p 0)).getD 0 0)=tF 0∧(A.row ((A.row A.tp).getD p 0)).getD 0 0<(A.row A.tp).getD p 0:=by
 obtain⟨l,e⟩:=jt h.eA
 have hl:p<(A.row A.tp).length:=by rw[l];exact hp
 refine nn fun nG=>?_
 obtain⟨k1,k2,k3⟩:=FL.kidAt (FL.topLt A) hl
 refine nG ?_;clear nG
 have e1:=e p (names.getD p em) (by rw[List.getD_eq_getElem?_getD,gE hp];rfl)
 have l1:(A.row ((A.row A.tp).getD p 0)).length=1:=by rw[FL.row_len' k3,e1];rfl
 obtain⟨m1,m2,m3⟩:=FL.kidAt k3 (p:=0) (by show 0<(A.row ((A.row A.tp).getD p 0)).length;exact nu l1)
 rw[e1] at m2
 injection m2 with m2
 refine⟨k3,k1,e1,fun l pt=>?_,l1,m2.symm,m1⟩
 refine nn fun nG=>?_
 obtain⟨l',pt',e⟩:=rd (FL.topLt A) hl pt
 refine nG ?_;clear nG
 rw[yn pt'] at e
 exact e
theorem fn {l:List (Option ae)} {p:Nat} (h:p<l.length):l[p]?=some (l.getD p none):=by rw[List.getD_eq_getElem?_getD,gE h];rfl
theorem pk {l:List Str} {p:Nat} (h:p<l.length):l[p]?=some (l.getD p em):=by rw[List.getD_eq_getElem?_getD,gE h];rfl
theorem dX.sm (h:dX A S T names o t) {p:Nat} (hp:p<names.length):cw [o.getD p none,t.getD p none]:=⟨fun r hr=>by
 simp only[List.mem_cons,List.not_mem_nil,or_false] at hr
 rcases hr with e | e
 ·exact h.so.sm r (List.mem_of_getElem? (i:=p) (by rw[fn (by rw[← h.lo];exact hp),e]))
 ·exact h.st.sm r (List.mem_of_getElem? (i:=p) (by rw[fn (by rw[← h.lt];exact hp),e]))⟩
theorem dX.row (h:dX A S T names o t) {rows:RW} {p:Nat} (hp:p<names.length) (hr:∀ c≤(A.row A.tp).getD p 0,df S T rows c):rows ((A.row A.tp).getD p 0)=rW (names.getD p em) p (o.getD p none) (t.getD p none):=by
 refine nn fun nG=>?_
 obtain⟨k1,k2,k3,k4,k5,k6,k7⟩:=h.kid hp
 refine nG ?_;clear nG
 have ho:=fn (l:=o) (p:=p) (by rw[← h.lo];exact hp)
 have ht:=fn (l:=t) (p:=p) (by rw[← h.lt];exact hp)
 have hn:=pk hp
 exact AH k1 k3 (h.sm hp) (fun r e=>h.pS.kept p _ r hn (by rw[ho,e])) (fun r e=>h.pT.kept p _ r hn (by rw[ht,e])) (fun e=>h.pS.out p (by rw[ho,e])) (fun e=>h.pT.out p (by rw[ht,e])) k4 (hr _ (by exact Hx k7)) (hr _ (Nat.le_refl _))
theorem dX.chl (h:dX A S T names o t) {rows:RW} {path:AV} (hr:∀ c<A.tp,df S T rows c):fM S T rows (A.row A.tp) A.tp path ((A.row A.tp).length+1)=fm names o t names.length:=by
 obtain⟨l,e⟩:=jt h.eA
 have main:∀ p≤names.length,fM S T rows (A.row A.tp) A.tp path p=fm names o t p:=by
  intro p
  induction p with
  | zero=>intro _;rfl
  | succ p ih=>
   intro hp
   have r:=h.row (rows:=rows) (p:=p) (by exact bU hp) fun c hc=>hr c (by have:=(h.kid (p:=p) (by exact bU hp)).2.1;exact BA hc this)
   unfold fM fm
   rw[ih (by exact aj hp),h.pS.ins,h.pT.ins,kY,l,r]
   have:p<names.length:=by exact bU hp
   simp[this]
 unfold fM
 rw[l,main _ (Nat.le_refl _),h.pS.ins,h.pT.ins,kY]
 simp
theorem dX.nodes (h:dX A S T names o t):∀ i<A.fs.length,i=A.tp∨(∃ p,p<names.length∧i=(A.row A.tp).getD p 0)∨∃ p,p<names.length∧i=(A.row ((A.row A.tp).getD p 0)).getD 0 0:=by
 obtain⟨l,e⟩:=jt h.eA
 refine FL.down (P:=fun i=>i=A.tp∨(∃ p,p<names.length∧i=(A.row A.tp).getD p 0)∨∃ p,p<names.length∧i=(A.row ((A.row A.tp).getD p 0)).getD 0 0) A (.inl rfl) fun i j p hj hP hr=>?_
 have ei:i=(A.row j).getD p 0:=by rw[List.getD_eq_getElem?_getD,hr];rfl
 have hp:=(bj hr)
 rcases hP with rfl | ⟨q,hq,rfl⟩ | ⟨q,hq,rfl⟩
 ·exact .inr (.inl ⟨p,by rw[← l];exact hp,ei⟩)
 ·have:=(h.kid hq).2.2.2.2.1
  have p0:p=0:=by exact Hy hp this
  subst p0
  exact .inr (.inr ⟨q,hq,ei⟩)
 ·exfalso
  rw[FL.row_len' hj,(h.kid hq).2.2.2.2.2.1] at hp
  exact Nat.not_lt_zero _ hp
end
theorem oq {k:Str} {lb:AV} {v:Str} {a:List (Str×Str)} {ks:List Fm} {n:Nat} (hk:PyData.strOk k=true) (hl:lb.ok (n+1)=true) (hv:PyData.strOk v=true) (ha:∀ p∈a,PyData.strOk p.1=true∧PyData.strOk p.2=true) (hn:2≤n) (hg:∀ g∈ks,g.av.ok n=true):(Fm.nd k lb v a ks).av.ok (n+2)=true:=by
 rw[Fm.av_eq]
 obtain⟨m,rfl⟩:∃ m,n=m+2:=⟨n-2,by exact Hz hn⟩
 simp only[oN,oI,oS,oT,oL,oB,oR,oG,fv,fw,List.all_cons,List.all_nil,Bool.and_true,Bool.and_eq_true,List.all_eq_true,List.mem_map]
 refine⟨hk,hl,hv,?_,?_⟩
 ·rintro _ ⟨p,hp,rfl⟩
  obtain⟨e1,e2⟩:=ha p hp
  have e3:=eR ""
  simp[dF,aS,oN,oI,oS,oT,oL,oB,oR,oG,fv,fw,e1,e2,em,e3]
 ·intro _ hI
  refine nn fun nG=>?_
  obtain⟨g,hg',rfl⟩:=hI
  refine nG ?_;clear nG
  exact hg g hg'
theorem pn {n:Nat} (h:n<3):PyData.strOk (pc n)=true:=(pf h).2
theorem Kn:PyData.strOk kV=true:=eR "v"
theorem CF {n:Nat} (h:n<3):(tF n).av.ok 4=true:=oq (n:=2) (eR "text") (eR "") (rX n h).1 (fun p h=>nomatch h) (by exact wg) fun g h=>nomatch h
theorem yp {n:Nat} (h:n<3):(cF n).av.ok 4=true:=oq (n:=2) (eR "comment") (eR "") (JE n h) (fun p h=>nomatch h) (by exact wg) fun g h=>nomatch h
theorem kc {nm:Str} (h:PyData.strOk nm=true) {n:Nat}:(zD nm).ok (n+1)=true:=by
 have:=eR ""
 simp[zD,oN,oI,oS,oT,oL,oB,oR,oG,fv,fw,h,em,this]
theorem re {n:Nat} (h:n<3):∀ g∈bf n,g.av.ok 4=true:=fun g hg=>by
 unfold bf at hg
 split at hg
 ·cases hg
 ·simp at hg;subst hg;exact yp h
theorem yq {nm:Str} {r:ae} (h:PyData.strOk nm=true) (s:n8 r):(dY nm r).av.ok 6=true:=
 oq (n:=4) (eR "element") (kc h) (eR "") (fun p hp=>by simp at hp;subst hp;exact⟨Kn,pn s.1⟩) (by exact B9) fun g hg=>by
  rcases List.mem_cons.mp hg with rfl | hg
  ·exact CF s.2.1
  ·exact re s.2.2 g hg
theorem DE {nm:Str} {o t:ae} (h:PyData.strOk nm=true) (s:n8 o) (s':n8 t):(yf nm o t).av.ok 6=true:=
 oq (n:=4) (eR "element") (kc h) (eR "") (fun p hp=>by simp at hp;subst hp;exact⟨Kn,pn (g7 s.1 s'.1)⟩) (by exact B9) fun g hg=>by
  rcases List.mem_cons.mp hg with rfl | hg
  ·exact CF (g7 s.2.1 s'.2.1)
  ·unfold pg at hg
   split at hg
   ·simp at hg
    rcases hg with rfl | rfl
    ·exact yp s.2.2
    ·exact yp s'.2.2
   ·exact re (g7 s.2.2 s'.2.2) g hg
theorem kg {names:List Str} {rows:List (Option ae)} {g:Fm} (h:g∈cH names rows):∃ nm r,nm∈names∧some r∈rows∧g=dY nm r:=by
 unfold cH at h
 refine nn fun nG=>?_
 obtain⟨⟨a,b⟩,hx,e⟩:=List.mem_filterMap.mp h
 refine nG ?_;clear nG
 cases b with
 | none=>cases e
 | some r=>
  simp only[Option.map_some,Option.some.injEq] at e
  exact⟨a,r,(List.of_mem_zip hx).1,(List.of_mem_zip hx).2,e.symm⟩
theorem nF {names:List Str} {rows:List (Option ae)} (h:∀ nm∈names,PyData.strOk nm=true) (s:cw rows):(cZ names rows).av.ok 8=true:=
 oq (n:=6) (eR "element") (kc (eR "r")) (eR "") (fun p hp=>nomatch hp) (by exact IA) fun g hg=>by
  refine nn fun nG=>?_
  obtain⟨nm,r,a,b,rfl⟩:=kg hg
  refine nG ?_;clear nG
  exact yq (h nm a) (s.sm r b)
theorem yr (nm:Str) (r:ae):(dY nm r).size≤3:=by
 rw[Fm.size_eq]
 show 1+Fm.sizes (tF r.2.1::bf r.2.2)≤3
 have a:(tF r.2.1).size=1:=rfl
 have b:Fm.sizes (bf r.2.2)≤1:=by
  unfold bf
  split
  ·exact Nat.zero_le _
  ·exact Nat.le_refl _
 simp only[Fm.sizes]
 exact IB a b
theorem jP {names:List Str} {rows:List (Option ae)} (h:names.length≤3):(cZ names rows).size≤12:=by
 rw[Fm.size_eq]
 show 1+Fm.sizes (cH names rows)≤12
 have a:=nA (b:=3) (l:=cH names rows) fun g hg=>by obtain⟨nm,r,_,_,rfl⟩:=kg hg;exact yr nm r
 have b:(cH names rows).length≤names.length:=by
  unfold cH
  refine Nat.le_trans (List.length_filterMap_le _ _) ?_
  rw[List.length_zip];exact IC
 exact ID a b h
theorem gI (names:List Str) (rows:List (Option ae)):dt (pz kV kV) (cZ names rows):=by
 have e0:∀ f:Fm,f.at_=[]→pz kV kV f:=fun f e=>⟨by rw[e];exact List.nodup_nil,fun k hk=>by rw[e] at hk;cases hk⟩
 refine .mk (e0 _ rfl) fun g hg=>?_
 refine nn fun nG=>?_
 obtain⟨nm,r,_,_,rfl⟩:=kg hg
 refine nG ?_;clear nG
 refine .mk ⟨by show [kV].Nodup;simp,fun k hk=>by
  have:k∈[kV]:=hk
  simp at this;exact .inl this⟩ fun g hg=>?_
 rcases List.mem_cons.mp hg with rfl | hg
 ·exact .mk (e0 _ rfl) fun g hg=>nomatch hg
 ·unfold bf at hg
  split at hg
  ·cases hg
  ·simp at hg;subst hg
   exact .mk (e0 _ rfl) fun g hg=>nomatch hg
theorem yt:kR []:=fun i x h=>by simp at h
theorem tK (f:Fm):mZ f.av f.k (.str f.v):=⟨f.lb,_,_,f.av_eq⟩
theorem DF {a:Nat} {l:List Fm} (ha:a<3) (h:∀ g∈l,∃ n,g=cF n):kR ((tF a::l).map Fm.av):=by
 intro i x hx
 rw[List.getElem?_map] at hx
 refine nn fun nG=>?_
 obtain⟨g,hg,rfl⟩:=Option.map_eq_some_iff.mp hx
 refine nG ?_;clear nG
 cases i with
 | zero=>
  injection hg with hg
  subst hg
  exact⟨tx,.str (tS a),tK _,eR "text",fun _=>⟨rfl,tS a,rfl,(rX a ha).1,(rX a ha).2⟩⟩
 | succ i=>
  obtain⟨n,rfl⟩:=h g (List.mem_of_getElem? (by simpa using hg))
  exact⟨Str.ofString "comment",.str (cS n),tK _,eR "comment",fun e=>absurd e (by decide +kernel)⟩
theorem yu {a b:Nat}:∀ g∈pg a b,∃ n,g=cF n:=fun g hg=>by
 unfold pg bf at hg
 split at hg
 ·simp at hg
  rcases hg with rfl | rfl
  ·exact⟨_,rfl⟩
  ·exact⟨_,rfl⟩
 ·split at hg
  ·cases hg
  ·simp at hg;subst hg;exact⟨_,rfl⟩
theorem AI {f:Fm} (h:f.k=el):∃ k v,mZ f.av k v∧PyData.strOk k=true∧(k=tx→False):=⟨f.k,.str f.v,tK f,by rw[h];exact eR "element",by rw[h];decide +kernel⟩
theorem AJ {nm:Str} {p:Nat} {o t:Option ae}:∀ x∈(rW nm p o t).1,∃ f:Fm,x=f.av∧f.k=el:=fun x hx=>by
 cases o with
 | none=>
  cases t with
  | none=>cases hx
  | some t=>
   change x∈(gone nm p t 1).1 at hx
   unfold gone at hx
   split at hx
   ·cases hx
   ·simp at hx;exact⟨_,hx,rfl⟩
 | some o=>
  cases t with
  | none=>
   change x∈(gone nm p o 2).1 at hx
   unfold gone at hx
   split at hx
   ·cases hx
   ·simp at hx;exact⟨_,hx,rfl⟩
  | some t=>
   change x∈[(yf nm o t).av] at hx
   simp at hx;exact⟨_,hx,rfl⟩
theorem rf {names:List Str} {o t:List (Option ae)}:∀ n,∀ x∈(fm names o t n).1,∃ f:Fm,x=f.av∧f.k=el
 | 0,x,h=>nomatch h
 | n+1,x,h=>by
  unfold fm at h
  rcases List.mem_append.mp h with h | h
  ·exact rf n x h
  ·exact AJ x h
theorem dX.mj {A:FL} {S T:Sd A} {names:List Str} {o t:List (Option ae)} (h:dX A S T names o t):MJ S T:=by
 intro rows i j j' hi hr hj hj'
 have b1:=(S.ok.lt _ _ hj).2
 have b2:=(T.ok.lt _ _ hj').2
 have kA:∀ f∈A.fs,pz kV kV f:=dt.fs (by rw[h.eA];exact gI _ _)
 have kS:∀ f∈S.B.fs,pz kV kV f:=dt.fs (by rw[h.eS];exact gI _ _)
 have kT:∀ f∈T.B.fs,pz kV kV f:=dt.fs (by rw[h.eT];exact gI _ _)
 refine⟨y6 (A.ok.ok _ (FL.at_mem hi)) (S.B.ok.ok _ (FL.at_mem b1)) (T.B.ok.ok _ (FL.at_mem b2)) (kA _ (FL.at_mem hi)) (kS _ (FL.at_mem b1)) (kT _ (FL.at_mem b2)),fun l pt=>?_⟩
 have both:∀ p,p<names.length→S.pm ((A.row A.tp).getD p 0)≠none→T.pm ((A.row A.tp).getD p 0)≠none→∃ ro rt d d' k k',n8 ro∧n8 rt∧Ch S ((A.row A.tp).getD p 0) (names.getD p em) ro d k∧Ch T ((A.row A.tp).getD p 0) (names.getD p em) rt d' k':=fun p hp n1 n2=>by
  refine nn fun nG=>?_
  obtain⟨k1,k2,k3,k4,k5,k6,k7⟩:=h.kid hp
  refine nG ?_;clear nG
  have ho:=fn (l:=o) (p:=p) (by rw[← h.lo];exact hp)
  have ht:=fn (l:=t) (p:=p) (by rw[← h.lt];exact hp)
  have hn:=pk hp
  have sm:=h.sm hp
  cases eo:o.getD p none with
  | none=>exact absurd (h.pS.out p (by rw[ho,eo])) n1
  | some ro=>
   cases et:t.getD p none with
   | none=>exact absurd (h.pT.out p (by rw[ht,et])) n2
   | some rt=>
    rw[eo,et] at sm
    refine nn fun nG=>?_
    obtain⟨d,x1,x2⟩:=h.pS.kept p _ ro hn (by rw[ho,eo])
    obtain⟨d',y1,y2⟩:=h.pT.kept p _ rt hn (by rw[ht,et])
    obtain⟨k,c1⟩:=Ch.of x1 k3 x2 (sm.sm ro (by simp))
    obtain⟨k',c2⟩:=Ch.of y1 k3 y2 (sm.sm rt (by simp))
    refine nG ?_;clear nG
    exact⟨ro,rt,d,d',k,k',sm.sm ro (by simp),sm.sm rt (by simp),c1,c2⟩
 rcases h.nodes i hi with rfl | ⟨p,hp,rfl⟩ | ⟨p,hp,rfl⟩
 ·rw[h.chl hr]
  intro i x hx
  refine nn fun nG=>?_
  obtain⟨f,rfl,e⟩:=rf _ x (List.mem_of_getElem? hx)
  obtain⟨k,v,a,b,c⟩:=AI e
  refine nG ?_;clear nG
  exact⟨k,v,a,b,fun q=>(c q).elim⟩
 ·refine nn fun nG=>?_
  obtain⟨k1,k2,k3,k4,k5,k6,k7⟩:=h.kid hp
  refine nG ?_;clear nG
  obtain⟨ro,rt,d,d',k,k',s1,s2,c1,c2⟩:=both p hp (by rw[hj];exact fun q=>nomatch q) (by rw[hj'];exact fun q=>nomatch q)
  rw[CE k1 k3 s1 s2 c1 c2 k4 (hr _ k7)]
  exact DF (g7 s1.2.1 s2.2.1) yu
 ·refine nn fun nG=>?_
  obtain⟨k1,k2,k3,k4,k5,k6,k7⟩:=h.kid hp
  refine nG ?_;clear nG
  have hp0:=i3 (l:=A.row ((A.row A.tp).getD p 0)) (p:=0) (by exact nu k5)
  obtain⟨ro,rt,d,d',k,k',s1,s2,c1,c2⟩:=both p hp (fun e=>by rw[Sd.kid_dead k1 e hp0] at hj;cases hj) (fun e=>by rw[Sd.kid_dead k1 e hp0] at hj';cases hj')
  rw[CD (by rw[FL.row_len' hi,k6];rfl) c1.tins c2.tins]
  exact yt
noncomputable def rg (l:List AV):AV:=.tup [.str el,zD (Str.ofString "r"),.str em,.tup [],.tup l]
theorem dX.res {A:FL} {S T:Sd A} {names:List Str} {o t:List (Option ae)} (h:dX A S T names o t) {f:AV} {cl:List AV} (m:Ct S T f cl):f=rg (fm names o t names.length).1∧cl=(fm names o t names.length).2:=by
 rcases m with⟨rows,m1,m2,m3,m4⟩ | ⟨m,_⟩
 ·refine nn fun nG=>?_
  obtain⟨l,pt,er⟩:=m1 A.tp (FL.topLt A)
  refine nG ?_;clear nG
  change rows A.tp=_ at m4
  rw[m4] at er
  unfold da at er
  rw[h.pS.top,h.pT.top] at er
  dsimp only at er
  rw[h.chl fun c hc=>m1 c (Nat.lt_trans hc (FL.topLt A)),FL.topAt,FL.topAt,FL.topAt,h.eA,h.eS,h.eT] at er
  have e:∀ ch,rK (cZ names (eJ names.length)) (cZ names o) (cZ names t) (.tup (aM l)) ch=([rg ch.1],ch.2):=fun ch=>by
   have ev:gw (cZ names (eJ names.length)) (cZ names o) (cZ names t) (.tup (aM l))=(em,[]):=by unfold gw;rw[if_pos (.inl rfl)];rfl
   unfold rK
   rw[ev]
   rfl
  rw[e] at er
  simp only[Prod.mk.injEq,List.cons.injEq,and_true] at er
  exact er
 ·rcases m with m | m
  ·rw[show S.pm (A.fs.length-1)=some S.B.tp from h.pS.top] at m;cases m
  ·rw[show T.pm (A.fs.length-1)=some T.B.tp from h.pT.top] at m;cases m
inductive LL (as:List AV) (hp:Hp) (P:AV→Hp→Prop):Prop
 | mk (names:List Str) (o t:List (Option ae)):as=[(cZ names (eJ names.length)).av,(cZ names o).av,(cZ names t).av]→names.Nodup→(∀ nm∈names,PyData.strOk nm=true)→names.length≤3→names.length=o.length→names.length=t.length→cw o→cw t→(∀ r hp',Kp hp hp'→hp'[r]?=some (.list (fm names o t names.length).2)→P (.tup [rg (fm names o t names.length).1,.ref r]) hp')→LL as hp P
theorem nH (n:Nat):cw (eJ n):=⟨fun r hr=>by
 unfold eJ at hr
 have:=(List.mem_replicate.mp hr).2
 cases this
 exact⟨by decide,by decide,by decide⟩⟩
theorem tL {as:List AV} {hp:Hp} {P:AV→Hp→Prop} (h:LL as hp P):iY as hp P:=by
 refine nn fun nG=>?_
 obtain⟨names,o,t,rfl,nd,ok,nz,lo,lt,so,st,hP⟩:=h
 refine nG ?_;clear nG
 refine⟨_,_,_,rfl,aq 8 36 _ (by exact wk) (nF ok (nH _)),aq 8 36 _ (by exact wk) (nF ok so),aq 8 36 _ (by exact wk) (nF ok st),jP nz,jP nz,jP nz,?_,fun A S T e1 e2 e3=>?_,fun A S T r f cl hp' e1 e2 e3 k hr m=>?_⟩
 ·intro A B e1 e2 f hf g hg
  have kA:pz kV kV f:=dt.fs (F:=A) (by rw[e1];exact gI _ _) f hf
  have kB:pz kV kV g:=dt.fs (F:=B) (by rcases e2 with e | e <;> (rw[e];exact gI _ _)) g hg
  exact y5 (A.ok.ok _ hf) (B.ok.ok _ hg) kA kB
 ·exact dX.mj ⟨nd,lo,lt,so,st,e1,e2,e3⟩
 ·obtain⟨rfl,rfl⟩:=dX.res ⟨nd,lo,lt,so,st,e1,e2,e3⟩ m
  exact hP r hp' k hr
theorem ju {f:AV} {l:List AV} {r:Nat} {hp:Hp} (hf:f.ok 39=true) (hr:hp[r]?=some (.list l)):(AV.tup [f,.ref r]).flat hp=.tup [f,.lst l]:=by
 show AV.tup [f.flat hp,IO r hp[r]?]=_
 rw[jf 39 f hp hf,hr];rfl
theorem pq {f:AV} {l:List AV} (hf:f.ok 39=true) (hl:∀ x∈l,x.ok 38=true):(AV.tup [f,.lst l]).ok 40=true:=by
 simp only[oN,oI,oS,oT,oL,oB,oR,oG,fv,fw,List.all_cons,List.all_nil,Bool.and_true,Bool.and_eq_true,List.all_eq_true]
 exact⟨hf,hl⟩
theorem yv {f:AV} {l:List AV} {r r':Nat} {hp:Hp} {P:AV→Hp→Prop} (hf:f.ok 39=true) (hl:∀ x∈l,x.ok 38=true) (hr:hp[r]?=some (.list l)) (hr':hp[r']?=some (.list l)) (h:P (.bool true) hp):bv (.tup [f,.ref r]) (.tup [f,.ref r']) hp P:=by
 rw[jg,ju hf hr,ju hf hr',bZ rfl]
 exact⟨pq hf hl,pq hf hl,h⟩
theorem DG {f:AV} {l:List AV} {r r':Nat} {hp:Hp} {P:AV→Hp→Prop} (hf:f.ok 39=true) (hl:∀ x∈l,x.ok 38=true) (hr:hp[r]?=some (.list l)) (hr':hp[r']?=some (.list l)) (h:P (.bool false) hp):ca (.tup [f,.ref r]) (.tup [f,.ref r']) hp P:=by
 rw[mV,ju hf hr,ju hf hr',bZ rfl]
 exact⟨pq hf hl,pq hf hl,h⟩
theorem ub (s:String) (h:autoParam (PyData.strOk (Str.ofString s)=true) auK) {n:Nat}:(sS s).ok n=true:=by
 unfold sS;simp only[oN,oI,oS,oT,oL,oB,oR,oG,fv,fw];exact h
theorem AK {nm:Str} {p:Nat} {o t:Option ae} (sm:cw [o,t]):∀ x∈(rW nm p o t).2,x.ok 38=true:=fun x hx=>by
 have g:∀ r (w:Int),x∈(gone nm p r w).2→x.ok 38=true:=fun r w h=>by
  unfold gone at h
  split at h
  ·cases h
  ·simp at h
   subst h
   have:=ub "deleted" (n:=37)
   simp[oN,oI,oS,oT,oL,oB,oR,oG,fv,fw,this]
 cases o with
 | none=>
  cases t with
  | none=>cases hx
  | some t=>exact g t 1 hx
 | some o=>
  cases t with
  | none=>exact g o 2 hx
  | some t=>
   have s1:=sm.sm o (by simp)
   have s2:=sm.sm t (by simp)
   change x∈rV p o t at hx
   unfold rV kZ n9 at hx
   rcases List.mem_append.mp hx with h | h
   ·rcases List.mem_append.mp h with h | h
    ·split at h
     ·simp at h
      subst h
      have a:=ub "attribute" (n:=37)
      have b:=pn s1.1
      have c:=pn s2.1
      have d:=Kn
      have e:=eR ""
      simp[oN,oI,oS,oT,oL,oB,oR,oG,fv,fw,a,aS,CB,em,b,c,d,e]
     ·cases h
    ·split at h
     ·simp at h
      subst h
      have a:=ub "value" (n:=37)
      have b:=(rX _ s1.2.1).1
      have c:=(rX _ s2.2.1).1
      simp[oN,oI,oS,oT,oL,oB,oR,oG,fv,fw,a,b,c]
     ·cases h
   ·split at h
    ·simp at h
     subst h
     have a:=ub "inserted" (n:=37)
     simp[oN,oI,oS,oT,oL,oB,oR,oG,fv,fw,a]
    ·cases h
theorem AL {nm:Str} {p:Nat} {o t:Option ae} (hn:PyData.strOk nm=true) (sm:cw [o,t]):∀ x∈(rW nm p o t).1,x.ok 36=true:=fun x hx=>by
 have g:∀ r (w:Int),n8 r→x∈(gone nm p r w).1→x.ok 36=true:=fun r w s h=>by
  unfold gone at h
  split at h
  ·cases h
  ·simp at h
   subst h
   exact aq 6 36 _ (by exact BQ) (yq hn s)
 cases o with
 | none=>
  cases t with
  | none=>cases hx
  | some t=>exact g t 1 (sm.sm t (by simp)) hx
 | some o=>
  cases t with
  | none=>exact g o 2 (sm.sm o (by simp)) hx
  | some t=>
   change x∈[(yf nm o t).av] at hx
   simp at hx
   subst hx
   exact aq 6 36 _ (by exact BQ) (DE hn (sm.sm o (by simp)) (sm.sm t (by simp)))
theorem CG {o t:List (Option ae)} {p:Nat} (so:cw o) (st:cw t) (h1:p<o.length) (h2:p<t.length):cw [o.getD p none,t.getD p none]:=⟨fun r hr=>by
 simp only[List.mem_cons,List.not_mem_nil,or_false] at hr
 rcases hr with e | e
 ·exact so.sm r (List.mem_of_getElem? (i:=p) (by rw[fn h1,e]))
 ·exact st.sm r (List.mem_of_getElem? (i:=p) (by rw[fn h2,e]))⟩
theorem AM {names:List Str} {o t:List (Option ae)} (hn:∀ nm∈names,PyData.strOk nm=true) (so:cw o) (st:cw t) (l1:names.length=o.length) (l2:names.length=t.length):∀ p≤names.length,(∀ x∈(fm names o t p).1,x.ok 36=true)∧∀ x∈(fm names o t p).2,x.ok 38=true:=by
 intro p
 induction p with
 | zero=>intro _;exact⟨fun x h=>(nomatch h),fun x h=>(nomatch h)⟩
 | succ p ih=>
  intro hp
  obtain⟨a,b⟩:=ih (by exact aj hp)
  have sm:=CG (p:=p) so st (by exact t7 hp l1) (by exact t7 hp l2)
  have nm:=hn _ (List.mem_of_getElem? (pk (l:=names) (p:=p) (by exact bU hp)))
  unfold fm
  refine⟨fun x h=>?_,fun x h=>?_⟩
  ·rcases List.mem_append.mp h with h | h
   ·exact a x h
   ·exact AL nm sm x h
  ·rcases List.mem_append.mp h with h | h
   ·exact b x h
   ·exact AK sm x h
theorem DH {l:List AV} (h:∀ x∈l,x.ok 36=true):(rg l).ok 39=true:=by
 unfold rg
 simp only[oN,oI,oS,oT,oL,oB,oR,oG,fv,fw,List.all_cons,List.all_nil,Bool.and_true,Bool.and_eq_true,List.all_eq_true]
 refine⟨eR "element",kc (eR "r"),eR "",trivial,fun x hx=>aq 36 37 _ (by exact HN) (h x hx)⟩
theorem uc {nm:Str} {p:Nat} {o t:Option ae}:(rW nm p o t).1.length≤1∧(rW nm p o t).2.length≤3:=by
 have g:∀ r (w:Int),(gone nm p r w).1.length≤1∧(gone nm p r w).2.length≤3:=fun r w=>by unfold gone;split <;> simp
 cases o with
 | none=>
  cases t with
  | none=>exact⟨Nat.zero_le _,Nat.zero_le _⟩
  | some t=>exact g t 1
 | some o=>
  cases t with
  | none=>exact g o 2
  | some t=>
   refine⟨Nat.le_refl _,?_⟩
   walk_at "r"
   show(rV p o t).length≤3
   unfold rV kZ n9
   simp only[List.length_append]
   have f:∀ (c:Prop) [Decidable c] (x:AV),(if c then [x] else []).length≤1:=fun c _ x=>by split <;> simp
   have a:=f (fO o.1 t.1) (.tup [sS "attribute",.tup [.int p],aS kV,CB o.1,CB t.1])
   have b:=f (fO o.2.1 t.2.1) (.tup [sS "value",.tup [.int p,.int 0],.str (tS o.2.1),.str (tS t.2.1)])
   have c:=f (fO o.2.2 t.2.2) (.tup [sS "inserted",.tup [.int p],.int 1])
   exact HO a b c
theorem nJ {names:List Str} {o t:List (Option ae)}:∀ p,(fm names o t p).1.length≤p∧(fm names o t p).2.length≤3 * p
 | 0=>⟨Nat.le_refl _,Nat.le_refl _⟩
 | p+1=>by
  refine nn fun nG=>?_
  obtain⟨a,b⟩:=nJ (names:=names) (o:=o) (t:=t) p
  obtain⟨c,d⟩:=uc (nm:=names.getD p em) (p:=p) (o:=o.getD p none) (t:=t.getD p none)
  refine nG ?_;clear nG
  unfold fm
  simp only[List.length_append]
  exact HP a c b d
inductive nK (as:List AV) (hp:Hp) (P:AV→Hp→Prop):Prop
 | mk (s:Nat):as=[.ref s]→gx hp s→(∀ hp',gx hp' s→KB s hp hp'→hp.length≤hp'.length→P (.bool true) hp')→nK as hp P
noncomputable def JX:List Str:=[Str.ofString "a",Str.ofString "b",Str.ofString "c"]
theorem DJ:JX.Nodup:=by decide +kernel
theorem DK:∀ nm∈JX,PyData.strOk nm=true:=by decide +kernel
structure Ls (hp:Hp) (s n:Nat) (l:List AV):Prop where
 ne:n≠s
 at':hp[n]?=some (.list l)
theorem Ls.keep {hp hp':Hp} {s n:Nat} {l:List AV} (x:Ls hp s n l) (k:KB s hp hp'):Ls hp' s n l:=⟨x.ne,k _ _ x.at' x.ne⟩
section
variable {C:Cx}
theorem ve (h:HK C):aI C 8 (.ref 357) nK:=by
 refine(n7 h (mu h) (v7 h) (AE h) (JD h) (bM h)).mono fun as hp P hF=>?_
 refine nn fun nG=>?_
 obtain⟨s,rfl,src,hP⟩:=hF
 refine nG ?_;clear nG
 have sl:=src.lt
 unfold fh
 dsimp only[e8,ib,ny,lV,je,uI,uJ,List.cons_append,List.nil_append]
 refine cp (fun loc' h1=>∃ (n:Nat) (names:List Str),loc'=[("source",some (.ref s)),("names",some (.ref n)),("one",none),("other",none),("base",none),("forms",none),("clashes",none),("at",none),("more",none),("due",none)]∧Ls h1 s n (names.map AV.str)∧names.Nodup∧(∀ nm∈names,PyData.strOk nm=true)∧names.length≤3∧gx h1 s∧KB s hp h1∧hp.length≤h1.length) (fun K hK=>?_) ?_
 ·walk_at "r"
  refine⟨sz,?_⟩
  walk_at "r"
  refine⟨s,3,rfl,by exact w9,by exact wa,src.keep (Kp.app _ _),fun d h1 d0 d1 src1 kb1 dL=>?_⟩
  obtain⟨m,rfl⟩:=Int.eq_ofNat_of_zero_le d0
  have e1:h1[hp.length]?=some (.list (JX.map AV.str)):=kb1 _ _ (aE _ _) (by exact bo sl)
  simp only[List.length_append,List.length_cons,List.length_nil] at dL
  refine Ic ?_
  dsimp only
  refine⟨by exact HQ,?_⟩
  rw[e1]
  refine⟨sz (by decide),?_⟩
  walk_at "r"
  refine⟨by show(1:Int)+m≤3;exact HS d1,hK _ _ ⟨_,JX.take (1+m),rfl,⟨by have:=src1.lt;exact bo this,?_⟩,DJ.sublist (List.take_sublist _ _),fun nm hm=>DK nm (List.mem_of_mem_take hm),by rw[List.length_take];show min (1+m) 3≤3;exact HT,src1.keep (Kp.app _ _),((Kp.kb (Kp.app _ _)).trans kb1).trans (Kp.kb (Kp.app _ _)),by simp;exact HU dL⟩⟩
  rw[aE,List.map_take]
  rw[show((1:Int)+(m:Int)).toNat=1+m by exact HV]
 intro _ h1 hI
 refine nn fun nG=>?_
 obtain⟨n,names,rfl,ln,nd,nok,nz,src1,kb1,dL⟩:=hI
 refine nG ?_;clear nG
 have lnl:(names.map AV.str).length=names.length:=List.length_map ..
 refine ic ?_
 refine cp (fun loc' h2=>∃ (ro rt:Nat) (o t:List (Option ae)),loc'=[("source",some (.ref s)),("names",some (.ref n)),("one",some (.ref ro)),("other",some (.ref rt)),("base",none),("forms",none),("clashes",none),("at",none),("more",none),("due",none)]∧Ls h2 s ro (o.map qA)∧Ls h2 s rt (t.map qA)∧names.length=o.length∧names.length=t.length∧cw o∧cw t∧gx h2 s∧KB s h1 h2∧h1.length≤h2.length) (fun K hK=>?_) ?_
 ·walk_at "r"
  have s1:=src1.lt
  refine bX ln.at' (by exact t8 lnl nz) ?_
  walk_at "r"
  refine⟨s,_,rfl,by exact BR lnl nz,src1,fun o ro h2 ol ok src2 kb2 hl2 hr ho=>?_⟩
  refine bX (ln.keep kb2).at' (by exact t8 lnl nz) ?_
  walk_at "r"
  refine⟨s,_,rfl,by exact BR lnl nz,src2,fun t rt h3 tl tk src3 kb3 hl3 hr' ht=>?_⟩
  refine⟨sz,?_⟩
  walk_at "r"
  exact hK _ _ ⟨ro,rt,o,t,rfl,Ls.keep ⟨by exact jR s1 hr,ho⟩ kb3,⟨by exact HW s1 hl2 hr',ht⟩,by exact BS ol lnl,by exact BS tl lnl,ok,tk,src3,kb2.trans kb3,by exact BE hl2 hl3⟩
 intro _ h2 hI
 refine nn fun nG=>?_
 obtain⟨ro,rt,o,t,rfl,lo,lt,ol,tl,so,st,src2,kb2,hl2⟩:=hI
 refine nG ?_;clear nG
 have ln2:=ln.keep kb2
 refine ic ?_
 refine cp (fun loc' h3=>loc'=[("source",some (.ref s)),("names",some (.ref n)),("one",some (.ref ro)),("other",some (.ref rt)),("base",some ((cZ names (eJ names.length)).av)),("forms",none),("clashes",none),("at",none),("more",none),("due",none)]∧Kp h2 h3) (fun K hK=>?_) ?_
 ·walk_at "r"
  refine⟨sz,?_⟩
  walk_at "r"
  refine⟨sz,?_⟩
  walk_at "r"
  refine bX (aB _ ln2.at') (by exact t8 lnl nz) ?_
  walk_at "r"
  rw[lnl]
  refine uY (aE _ _) (by exact wd nz) ?_
  walk_at "r"
  refine⟨n,_,names,eJ names.length,rfl,aB _ (aB _ ln2.at'),?_,by simp[eJ],by exact we nz,nH _,fun h3 k3=>hK _ _ ⟨rfl,(Kp.app _ _).trans ((Kp.app _ _).trans k3)⟩⟩
  rw[rA (by simp)]
  unfold eJ
  rw[List.map_replicate]
  rfl
 rintro _ h3 ⟨rfl,k3⟩
 refine ic ?_
 refine cp (fun loc' h4=>∃ (f c:Nat),loc'=[("source",some (.ref s)),("names",some (.ref n)),("one",some (.ref ro)),("other",some (.ref rt)),("base",some ((cZ names (eJ names.length)).av)),("forms",some (.ref f)),("clashes",some (.ref c)),("at",none),("more",none),("due",none)]∧Kp h3 h4∧h4[f]?=some (.list [])∧h4[c]?=some (.list [])) (fun K hK=>?_) ?_
 ·walk_at "r"
  refine⟨sz,?_⟩
  walk_at "r"
  refine⟨sz,?_⟩
  walk_at "r"
  refine⟨sz,?_⟩
  walk_at "r"
  exact hK _ _ ⟨_,_,rfl,(Kp.app _ _).trans (Kp.app _ _),aB _ (aE _ _),lY _ _ _⟩
 intro _ h4 hI
 refine nn fun nG=>?_
 obtain⟨f0,c0,rfl,k4,gf0,gc0⟩:=hI
 refine nG ?_;clear nG
 have k34:=k3.trans k4
 refine ic ?_
 refine cp (fun loc' h5=>∃ (f c:Nat) (c1 c2:Option AV),loc'=[("source",some (.ref s)),("names",some (.ref n)),("one",some (.ref ro)),("other",some (.ref rt)),("base",some ((cZ names (eJ names.length)).av)),("forms",some (.ref f)),("clashes",some (.ref c)),("at",c1),("more",c2),("due",none)]∧Kp h4 h5∧h5[f]?=some (.list (fm names o t names.length).1)∧h5[c]?=some (.list (fm names o t names.length).2)) (fun K hK=>?_) ?_
 ·walk_at "r"
  refine bX (k34 _ _ ln2.at') (by exact t8 lnl nz) ?_
  walk_at "r"
  rw[lnl]
  refine⟨_,aO (by exact wd nz),?_⟩
  walk_at "r"
  refine bB _ (fun i loc' h5=>∃ (f c:Nat) (c1 c2:Option AV),loc'=[("source",some (.ref s)),("names",some (.ref n)),("one",some (.ref ro)),("other",some (.ref rt)),("base",some ((cZ names (eJ names.length)).av)),("forms",some (.ref f)),("clashes",some (.ref c)),("at",c1),("more",c2),("due",none)]∧Kp h4 h5∧h5[f]?=some (.list (fm names o t i).1)∧h5[c]?=some (.list (fm names o t i).2)) ⟨f0,c0,none,none,rfl,Kp.refl _,gf0,gc0⟩ ?_ ?_
  ·intro i x loc' h5 K' hx hI
   refine nn fun nG=>?_
   obtain⟨f,c,c1,c2,rfl,k5,gf,gc⟩:=hI
   refine nG ?_;clear nG
   intro hK'
   rw[List.getElem?_map] at hx
   refine nn fun nG=>?_
   obtain⟨i',hpx,rfl⟩:=Option.map_eq_some_iff.mp hx
   obtain⟨hpl,e⟩:=List.getElem?_eq_some_iff.mp hpx
   refine nG ?_;clear nG
   rw[List.length_range] at hpl
   rw[List.getElem_range] at e
   subst e
   have kk:=k34.trans k5
   walk_at "r"
   refine aD (kk _ _ ln2.at') (x:=.str (names.getD i em)) (by rw[List.getElem?_map,pk hpl];rfl) (by exact wf hpl nz) ?_
   walk_at "r"
   refine aD (kk _ _ lo.at') (x:=qA (o.getD i none)) (by rw[List.getElem?_map,fn (by exact dz hpl ol)];rfl) (by exact wf hpl nz) ?_
   walk_at "r"
   refine aD (kk _ _ lt.at') (x:=qA (t.getD i none)) (by rw[List.getElem?_map,fn (by exact dz hpl tl)];rfl) (by exact wf hpl nz) ?_
   walk_at "r"
   refine⟨_,_,_,_,rfl,CG so st (by exact dz hpl ol) (by exact dz hpl tl),fun r u v h6 k6 hr hu hv=>?_⟩
   walk_at "r"
   refine aD (i:=0) hr rfl (by decide) ?_
   walk_at "r"
   refine nn fun nG=>?_
   obtain⟨l1,l2⟩:=nJ (names:=names) (o:=o) (t:=t) i
   obtain⟨l3,l4⟩:=uc (nm:=names.getD i em) (p:=i) (o:=o.getD i none) (t:=t.getD i none)
   refine nG ?_;clear nG
   refine gh (k6 _ _ gf) hu rfl (sz (by rw[List.length_append];exact HX l1 l3 hpl nz)) ?_
   walk_at "r"
   refine aD (i:=1) (aB _ hr) rfl (by decide) ?_
   walk_at "r"
   refine gh (aB _ (k6 _ _ gc)) (aB _ hv) rfl (sz (by rw[List.length_append];exact HY l2 l4 hpl nz)) ?_
   walk_at "r"
   refine⟨sz,?_⟩
   walk_at "r"
   exact⟨⟨aO (by exact wd nz),rfl⟩,hK' _ _ ⟨_,_,_,_,rfl,(k5.trans k6).trans ((Kp.app _ _).trans (Kp.app _ _)),aB _ (aE _ _),rA (by simp)⟩⟩
  ·intro loc' h5 hI
   refine nn fun nG=>?_
   obtain⟨f,c,c1,c2,rfl,k5,gf,gc⟩:=hI
   refine nG ?_;clear nG
   rw[List.length_map,List.length_range] at gf gc
   exact hK _ _ ⟨f,c,c1,c2,rfl,k5,gf,gc⟩
 rintro _ h5 ⟨f,c,c1,c2,rfl,k5,gf,gc⟩
 refine nn fun nG=>?_
 obtain⟨l1,l2⟩:=nJ (names:=names) (o:=o) (t:=t) names.length
 obtain⟨o1,o2⟩:=AM nok so st ol tl names.length (Nat.le_refl _)
 refine nG ?_;clear nG
 walk_at "r"
 refine⟨sz,?_⟩
 walk_at "r"
 refine⟨sz,?_⟩
 walk_at "r"
 refine Bj gf (sz (by exact HZ l1 nz)) ?_
 walk_at "r"
 refine⟨sz,?_⟩
 walk_at "r"
 have kk:=k34.trans k5
 refine⟨n,ro,names,o,rfl,kk _ _ ln2.at',kk _ _ lo.at',ol,by exact we nz,so,fun h6 k6=>?_⟩
 have kk6:=kk.trans k6
 refine⟨n,rt,names,t,rfl,kk6 _ _ ln2.at',kk6 _ _ lt.at',tl,by exact we nz,st,fun h7 k7=>?_⟩
 refine tL ⟨names,o,t,rfl,nd,nok,nz,ol,tl,so,st,fun r h8 k8 hr=>?_⟩
 have k58:=(k6.trans k7).trans k8
 refine⟨sz,?_⟩
 walk_at "r"
 refine yv (DH o1) o2 hr (k58 _ _ gc) ?_
 walk_at "r"
 have k28:=(k34.trans k5).trans k58
 exact hP h8 (src2.keep k28) ((kb1.trans kb2).trans (Kp.kb k28)) (by have:=k28.len;exact H9 dL hl2 this)
end
noncomputable def bF (nm:String):Fm:=.nd el (zD (Str.ofString nm)) em [] []
theorem JP {nm:String} (h:PyData.strOk (Str.ofString nm)=true):DN (bF nm):=⟨eR "element",(show el≠tx by decide +kernel),kc h,eR "",List.nil_sublist _,fun p hp=>nomatch hp⟩
theorem gJ {nm:String} (h:PyData.strOk (Str.ofString nm)=true):io (bF nm):=⟨.mk (JP h) fun g hg=>(nomatch hg),aq 4 36 _ (by exact Ha) (oq (n:=2) (eR "element") (kc h) (eR "") (fun p hp=>nomatch hp) (by exact wg) fun g hg=>nomatch hg),(by show 1≤12;exact Hb)⟩
inductive CH (as:List AV) (hp:Hp) (P:AV→Hp→Prop):Prop
 | mk (a b c:String):as=[(bF a).av,(bF b).av,(bF c).av]→Str.ofString a≠Str.ofString b→Str.ofString a≠Str.ofString c→Str.ofString b≠Str.ofString c→io (bF a)→io (bF b)→io (bF c)→(∀ r hp',Kp hp hp'→hp'[r]?=some (.list [.tup [sS "replaced",.tup []]])→P (.tup [(bF b).av,.ref r]) hp')→CH as hp P
theorem yw {a b:String} (h:Str.ofString a≠Str.ofString b):(bF a).av≠(bF b).av:=fun e=>by
 rw[Fm.av_eq,Fm.av_eq] at e
 simp only[AV.tup.injEq,List.cons.injEq] at e
 exact h (pj.mp e.2.1)
theorem AN {as:List AV} {hp:Hp} {P:AV→Hp→Prop} (h:CH as hp P):iY as hp P:=by
 obtain⟨a,b,c,rfl,n1,n2,n3,d1,d2,d3,hP⟩:=h
 have no:∀ (A:FL) (S:Sd A) (x y:String),A.root=bF x→S.B.root=bF y→Str.ofString x≠Str.ofString y→∀ i,S.pm i=none:=fun A S x y e1 e2 ne i=>by
  cases m:S.pm i with
  | none=>rfl
  | some j=>
   obtain⟨l1,l2⟩:=S.ok.lt _ _ m
   have s1:A.fs.length≤1:=by have:=A.ok.small;rw[e1] at this;exact this
   have s2:S.B.fs.length≤1:=by have:=S.B.ok.small;rw[e2] at this;exact this
   have i0:i=A.fs.length-1:=by exact BU l1 s1
   have j0:j=S.B.fs.length-1:=by exact BU l2 s2
   subst i0 j0
   have:=(Sd.match m).2
   rw[FL.topAt,FL.topAt,e1,e2] at this
   exact absurd (pj.mp this) ne
 refine⟨bF a,bF b,bF c,rfl,d1.ok,d2.ok,d3.ok,d1.size,d2.size,d3.size,yb d1.all d2.all d3.all,fun A S T e1 e2 e3=>?_,fun A S T r f cl hp' e1 e2 e3 k hr m=>?_⟩
 ·intro rows i j j' hi hr hj
  rw[no A S a b e1 e2 n1 i] at hj;cases hj
 ·rcases m with⟨rows,m1,m2,_⟩ | ⟨_,m⟩
  ·exact absurd (no A S a b e1 e2 n1 _) m2
  ·rw[e1,e2,e3] at m
   rcases m with⟨x | x,_⟩ | ⟨_,⟨x,_⟩ | ⟨x,rfl,rfl⟩⟩
   ·exact absurd x.symm (yw n2)
   ·exact absurd x (yw n3)
   ·exact absurd x.symm (yw n1)
   ·exact hP r hp' k hr
noncomputable def ud (f_law_planted:WF) (bM:WF) (f_law_form:WF):WS:=
 wS (e9 (zT (wB (wF f_law_planted (wC (wV "source") wN)))) (wS (wR (wK (AV.bool false))) wZ) wZ) (wS (wQ "bare" (fX ["key","name","value","k"] (nN [lo ".0",lo "name"] []) (nN [lo "script",lo "source",lo "bare",lo "base",lo "one",gi "_law_pool",gi "_law_planted_right",gi "merged",gi "_law_form"] [fa "script",fa "source",fa "name",fa "bare",fa "base",fa "one"]) (hM "name") (wL (wC (wK (AV.str (Str.ofString "r"))) (wC (wK (AV.str (Str.ofString "q"))) (wC (wK (AV.str (Str.ofString "s"))) wN)))) cX (wU (wC (wK (AV.str (Str.ofString "element"))) (wC (wU (wC (wV "name") (wC (wK (AV.str (Str.ofString ""))) (wC (wV "name") wN)))) (wC (wK (AV.str (Str.ofString ""))) (wC (wU wN) (wC (wU wN) wN)))))))) (wS (e9 (wB (wX ca (wF bM (wC (wI (wV "bare") (wK (AV.int 0))) (wC (wI (wV "bare") (wK (AV.int 1))) (wC (wI (wV "bare") (wK (AV.int 2))) wN)))) (wU (wC (wI (wV "bare") (wK (AV.int 1))) (wC (wL (wC (wU (wC (wK (AV.str (Str.ofString "replaced"))) (wC (wU wN) wN))) wN)) wN))))) (wS (wR (wK (AV.bool false))) wZ) wZ) (wS (e9 (pw (wB (wX ca (wF bM (wC (wI (wV "bare") (wK (AV.int 0))) (wC (wI (wV "bare") (wK (AV.int 1))) (wC (wI (wV "bare") (wK (AV.int 0))) wN)))) (wU (wC (wI (wV "bare") (wK (AV.int 1))) (wC (wL wN) wN))))) (pw (wB (wX ca (wF bM (wC (wI (wV "bare") (wK (AV.int 0))) (wC (wI (wV "bare") (wK (AV.int 0))) (wC (wI (wV "bare") (wK (AV.int 1))) wN)))) (wU (wC (wI (wV "bare") (wK (AV.int 1))) (wC (wL wN) wN))))) fe)) (wS (wR (wK (AV.bool false))) wZ) wZ) (wS (cv ["base","one"] (wU (wC (wF f_law_form (wC (wV "source") (wC (wK (AV.int 3)) wN))) (wC (wF f_law_form (wC (wV "source") (wC (wK (AV.int 3)) wN))) wN)))) (wS (e9 (pw (wB (wX ca (wF bM (wC (wV "base") (wC (wV "one") (wC (wV "base") wN)))) (wU (wC (wV "one") (wC (wL wN) wN))))) (pw (wB (wX ca (wF bM (wC (wV "base") (wC (wV "base") (wC (wV "one") wN)))) (wU (wC (wV "one") (wC (wL wN) wN))))) fe)) (wS (wR (wK (AV.bool false))) wZ) wZ) (wS (wR (wX bv (wF bM (wC (wV "base") (wC (wV "one") (wC (wV "one") wN)))) (wU (wC (wV "one") (wC (wL wN) wN))))) wZ))))))
noncomputable abbrev pu (bare base one:Option AV):aX:=[("script",none),("source",some (.ref 0)),("bare",bare),("base",base),("one",one)]
theorem iM {f:AV} {r:Nat} {hp:Hp} {P:AV→Hp→Prop} {l:List AV} (hf:f.ok 36=true) (hl:∀ x∈l,x.ok 38=true) (hr:hp[r]?=some (.list l)) (h:P (.bool false) (hp++[.list l])):ca (.tup [f,.ref r]) (.tup [f,.ref hp.length]) (hp++[.list l]) P:=
 DG (aq 36 39 _ (by exact tX) hf) hl (aB _ hr) (aE _ _) h
theorem rh:∀ x∈([]:List AV),x.ok 38=true:=fun x h=>nomatch h
theorem AO {hp:Hp} {P:Fl→aX→Hp→Prop} (src:gx hp 0) (hP:∀ loc hp',P (.ret (.bool true)) loc hp'):ud nK iY tH (pu none none none) hp P:=by
 unfold ud
 refine cp (fun loc' h1=>loc'=pu none none none∧gx h1 0) (fun K hK=>?_) ?_
 ·walk_at "r"
  refine⟨0,rfl,src,fun h1 src1 _ _=>?_⟩
  walk_at "r"
  exact hK _ _ ⟨rfl,src1⟩
 rintro _ h1 ⟨rfl,src1⟩
 have okr:=eR "r"
 have okq:=eR "q"
 have oks:=eR "s"
 refine cp (fun loc' h2=>∃ n,loc'=pu (some (.ref n)) none none∧h2[n]?=some (.list [(bF "r").av,(bF "q").av,(bF "s").av])∧gx h2 0∧n≠0) (fun K hK=>?_) ?_
 ·walk_at "r"
  refine⟨sz,?_⟩
  walk_at "r"
  refine⟨_,af (aE _ _),?_⟩
  walk_at "r"
  rw[show hO _ _ _=[] from rfl]
  have s1:=src1.lt
  simp only[eV]
  walk_at "r"
  have it:aL (AV.ref h1.length) (h1++[aC.list [AV.str (Str.ofString "r"),AV.str (Str.ofString "q"),AV.str (Str.ofString "s")]])=some [AV.str (Str.ofString "r"),AV.str (Str.ofString "q"),AV.str (Str.ofString "s")]:=af (aE _ _)
  refine⟨sz,?_⟩
  walk_at "r"
  refine⟨sz,?_⟩
  walk_at "r"
  refine⟨sz,?_⟩
  walk_at "r"
  refine⟨sz,?_⟩
  walk_at "r"
  refine⟨sz,?_⟩
  walk_at "r"
  refine⟨it,sz,sz,sz,sz,sz,it,sz,sz,sz,sz,sz,it,hK _ _ ⟨_,rfl,?_,(src1.keep (Kp.app _ _)).keep (Kp.app _ _),by exact Hc⟩⟩
  exact lY _ _ _
 rintro _ h2 ⟨n,rfl,g2,src2,n0⟩
 refine cp (fun loc' h3=>loc'=pu (some (.ref n)) none none∧KB 0 h2 h3∧gx h3 0) (fun K hK=>?_) ?_
 ·walk_at "r"
  refine aD (i:=0) g2 rfl (by decide) ?_
  walk_at "r"
  refine aD (i:=1) g2 rfl (by decide) ?_
  walk_at "r"
  refine aD (i:=2) g2 rfl (by decide) ?_
  walk_at "r"
  refine AN ⟨"r","q","s",rfl,by decide +kernel,by decide +kernel,by decide +kernel,gJ okr,gJ okq,gJ oks,fun r h3 k3 hr=>?_⟩
  refine aD (i:=1) (k3 _ _ g2) rfl (by decide) ?_
  walk_at "r"
  refine⟨sz,?_⟩
  walk_at "r"
  refine⟨sz,?_⟩
  walk_at "r"
  refine⟨sz,?_⟩
  walk_at "r"
  refine⟨sz,?_⟩
  walk_at "r"
  refine iM (gJ okq).ok (fun x hx=>?_) hr ?_
  walk_at "r"
  ·simp at hx
   subst hx
   have:=eR "replaced"
   simp[oN,oI,oS,oT,oL,oB,oR,oG,fv,fw,this]
  ·walk_at "r"
   exact hK _ _ ⟨rfl,(Kp.kb k3).trans (Kp.kb (Kp.app _ _)),(src2.keep k3).keep (Kp.app _ _)⟩
 rintro _ h3 ⟨rfl,k3,src3⟩
 have g3:=k3 _ _ g2 n0
 have dr:=gJ okr
 have dq:=gJ okq
 refine cp (fun loc' h4=>loc'=pu (some (.ref n)) none none∧gx h4 0) (fun K hK=>?_) ?_
 ·walk_at "r"
  refine aD (i:=0) g3 rfl (by decide) ?_
  walk_at "r"
  refine aD (i:=1) g3 rfl (by decide) ?_
  walk_at "r"
  refine aD (i:=0) g3 rfl (by decide) ?_
  walk_at "r"
  refine iJ ⟨bF "r",bF "q",bF "r",bF "q",rfl,dr,dq,dr,.inl ⟨rfl,rfl⟩,fun r h4 k4 hr=>?_⟩
  refine aD (i:=1) (k4 _ _ g3) rfl (by decide) ?_
  walk_at "r"
  refine⟨sz,?_⟩
  walk_at "r"
  refine⟨sz,?_⟩
  walk_at "r"
  refine iM dq.ok rh hr ?_
  walk_at "r"
  have g4:=aB [aC.list []] (k4 _ _ g3)
  refine aD (i:=0) g4 rfl (by decide) ?_
  walk_at "r"
  refine aD (i:=0) g4 rfl (by decide) ?_
  walk_at "r"
  refine aD (i:=1) g4 rfl (by decide) ?_
  walk_at "r"
  refine iJ ⟨bF "r",bF "r",bF "q",bF "q",rfl,dr,dr,dq,.inr (.inl ⟨rfl,rfl⟩),fun r h5 k5 hr=>?_⟩
  refine aD (i:=1) (k5 _ _ g4) rfl (by decide) ?_
  walk_at "r"
  refine⟨sz,?_⟩
  walk_at "r"
  refine⟨sz,?_⟩
  walk_at "r"
  refine iM dq.ok rh hr ?_
  walk_at "r"
  exact hK _ _ ⟨rfl,(((src3.keep k4).keep (Kp.app _ _)).keep k5).keep (Kp.app _ _)⟩
 rintro _ h4 ⟨rfl,src4⟩
 refine cp (fun loc' h5=>∃ b o,loc'=pu (some (.ref n)) (some (Fm.av b)) (some (Fm.av o))∧io b∧io o) (fun K hK=>?_) ?_
 ·walk_at "r"
  refine⟨0,rfl,src4,fun b h5 db src5 _ _=>⟨0,rfl,src5,fun o h6 d6 src6 _ _=>?_⟩⟩
  refine⟨sz,?_⟩
  walk_at "r"
  exact hK _ _ ⟨b,o,rfl,db,d6⟩
 rintro _ h5 ⟨b,o,rfl,db,d6⟩
 refine cp (fun loc' h6=>loc'=pu (some (.ref n)) (some (Fm.av b)) (some (Fm.av o))) (fun K hK=>?_) ?_
 ·walk_at "r"
  refine iJ ⟨b,o,b,o,rfl,db,d6,db,.inl ⟨rfl,rfl⟩,fun r h6 k6 hr=>?_⟩
  refine⟨sz,?_⟩
  walk_at "r"
  refine⟨sz,?_⟩
  walk_at "r"
  refine iM d6.ok rh hr ?_
  walk_at "r"
  refine iJ ⟨b,b,o,o,rfl,db,db,d6,.inr (.inl ⟨rfl,rfl⟩),fun r h7 k7 hr=>?_⟩
  refine⟨sz,?_⟩
  walk_at "r"
  refine⟨sz,?_⟩
  walk_at "r"
  refine iM d6.ok rh hr ?_
  walk_at "r"
  exact hK _ _ rfl
 rintro _ h6 rfl
 walk_at "r"
 refine iJ ⟨b,o,o,o,rfl,db,d6,d6,.inr (.inr ⟨rfl,rfl⟩),fun r h7 k7 hr=>?_⟩
 refine⟨sz,?_⟩
 walk_at "r"
 refine⟨sz,?_⟩
 walk_at "r"
 refine yv (aq 36 39 _ (by exact tX) d6.ok) rh (aB _ hr) (aE _ _) ?_
 walk_at "r"
 exact hP _ _
theorem nM {α β:Type} [BEq α] [LawfulBEq α]:∀ {l:List (α×β)} {x:α} {y:β},l.lookup x=some y→(x,y)∈l
 | [],x,y,h=>by cases h
 | (a,b)::r,x,y,h=>by
  rw[List.lookup_cons] at h
  split at h
  ·rename_i e
   have:=eq_of_beq e
   subst this
   cases h
   exact .head _
  ·exact .tail _ (nM h)
theorem yx {C:Cx} (h:HK C) {A:Around} {a:Addr} {vals:List Value} {xs:List Int} {name:Str} {scope:Scope} {fa:Addr} {cd:Value} {s:Shared} {m:Str→Option Value} {rest:List Stmt} {p1 p2 p3 p4 p5:Pos}
  {Q:Flow→Shared→Prop} {E:Value→Shared→Prop} {W:WS} (hL:C.h₀.IsList a vals.toArray) (hI:IntsAre vals xs) (hz:xs.length≤1000) (F:Fr C.h₀ C.h₀.objs.size s.heap m) (hm:m (Str.ofString "script")=some (.ref a)) (rm:c8 8 A)
  (hk:scope.kind=.function) (l1:scope.names.lookup (Str.ofString "script")=some .local) (l2:scope.names.lookup (Str.ofString "source")=some .local) (l3:scope.names.lookup (Str.ofString "_law_pool")=some .globalImplicit) (nc:(scope.names.all fun x=>x.2 != .cell)=true)
  (hs:∀ env,swapsWith (.Call (.Name (Str.ofString "_law_pool") p2) [.Name (Str.ofString "script") p3] [] p4) (some (.Name (Str.ofString "source") p1)) p5.line env=pure false)
  (hss:SS C 8 scope rest W) (hW:∀ hp,gx hp 0→W (pu none none none) hp fun f _ _=>f=.ret (.bool true))
  (hQ:∀ h' tk,(∀ b o,C.h₀.get? b=some o→h'.get? b=some o)→Q (.ret (.bool true)) { s with heap:=h',toks:=tk }) :
  wpAny C.M A (execs (.Assign [.Name (Str.ofString "source") p1] (.Call (.Name (Str.ofString "_law_pool") p2) [.Name (Str.ofString "script") p3] [] p4) p5::rest) (envOf name scope C.h₀.objs.size fa cd)) Q E s:=by
 have hL':s.heap.IsList a vals.toArray:=by obtain⟨o,x,y⟩:=hL;exact⟨o,F.keep _ _ x,y⟩
 refine nn fun nG=>?_
 obtain⟨oL,es,ep,hoL,hdL,hsk,hfind⟩:=id F.ns
 refine nG ?_;clear nG
 have nL:C.h₀.get? C.h₀.objs.size=none:=wl _
 have big:sysModules<C.h₀.objs.size:=by
  refine nn fun nG=>?_
  obtain⟨o,es,ep,ho,_⟩:=C.T.g
  refine nG ?_;clear nG
  exact Nat.lt_trans (by decide) (Heap.lt_size ho)
 have H0:HR C [(a,C.h₀.objs.size)] [.frz xs oL] s.heap:={
  keep:=F.keep
  len:=rfl
  obj:=fun n p o x y=>by
   cases n with
   | zero=>
    simp only[List.getElem?_cons_zero,Option.some.injEq] at x y
    subst x y
    exact⟨⟨vals,hL,hL',hI⟩,hoL,es,ep,hdL⟩
   | succ n=>simp at x
  apart:=fun n k p q x y z=>by
   have a1:=(bj x)
   have a2:=(bj y)
   simp only[List.length_cons,List.length_nil] at a1 a2
   exact BV a1 a2
  new:=fun p hp=>by
   have:=List.mem_singleton.mp hp
   subst this;exact nL
  big:=fun p hp=>by
   have:=List.mem_singleton.mp hp
   subst this;exact big }
 refine wpAny_execs_cons (wpAny_Assign_Name (Call_Name rfl (tq (I3 h (by rfl)) hk (by rw[Env.kindOf];exact l3) rfl rfl F.keep (by decide) (gP (oM h (f:=.ref 295) (by rfl)) (by rfl) ?_))) (hs _))
 rw[du (by rfl)]
 refine Calls.spliced_cons ?_
 refine wpAny_Name (wpAny_loadName_local hk l1 F.ns hm ?_) (by decide)
 refine Calls.spliced_nil ?_
 refine⟨C.X.keeps F.keep,?_⟩
 refine(Cu h).call A [(a,C.h₀.objs.size)] [.frz xs oL] s [.ref 0] [.ref a] _ _ (fun v hp'=>∃ r,v=.ref r∧Kp [.frz xs oL] hp'∧1≤r∧gx hp' r) (rm.le (by exact Hd)) H0 (.cons (VR.ref (n:=0) (p:=(a,C.h₀.objs.size)) rfl) .nil) ⟨0,xs,oL,rfl,rfl,hz,fun r hp' k hr src=>⟨r,rfl,k,hr,src⟩⟩ ?_
 rintro v d ρ' hp' h' tk' ⟨r,rfl,k,hr,b,c,g,c0,c1⟩ st H' V
 refine nn fun nG=>?_
 obtain⟨p,hp1,rfl,O⟩:=H'.at g V
 obtain⟨pe,vs,j,hv,hvs⟩:=O
 refine nG ?_;clear nG
 have z0:ρ'[0]?=some (a,C.h₀.objs.size):=by
  obtain⟨t,ht⟩:=st.pre
  rw[← ht];rfl
 have O0:=H'.obj 0 _ _ z0 (k 0 _ rfl)
 have hL2:h'.get? C.h₀.objs.size=some oL:=O0.2.1
 have H2:HR C [p] [.list [.int b,.int c]] h':={
  keep:=H'.keep
  len:=rfl
  obj:=fun n q o x y=>by
   cases n with
   | zero=>
    simp only[List.getElem?_cons_zero,Option.some.injEq] at x y
    subst x y
    refine⟨pe,vs,j,hv,?_⟩
    generalize vs.toList=l at hvs ⊢
    cases hvs.two with
    | mk u w=>
     refine nn fun nG=>?_
     obtain⟨t,rfl⟩:=u.inv
     obtain⟨t',rfl⟩:=w.inv
     refine nG ?_;clear nG
     exact .cons (.int _ _) (.cons (.int _ _) .nil)
   | succ n=>simp at x
  apart:=fun n k p q x y z=>by
   have a1:=(bj x)
   have a2:=(bj y)
   simp only[List.length_cons,List.length_nil] at a1 a2
   exact BV a1 a2
  new:=fun q hq=>by
   have:=List.mem_singleton.mp hq
   subst this;exact H'.new _ (List.mem_of_getElem? hp1)
  big:=fun q hq=>by
   have:=List.mem_singleton.mp hq
   subst this;exact H'.big _ (List.mem_of_getElem? hp1) }
 have lnone:∀ x,getL [("script",none),("source",none),("bare",none),("base",none),("one",none)] x=none:=fun x=>by
  unfold getL
  simp only[List.lookup]
  repeat' split
  all_goals rfl
 have ncell:∀ x,(envOf name scope C.h₀.objs.size fa cd).kindOf x≠some .cell:=fun x e=>by
  rw[Env.kindOf] at e
  have:=nM (l:=scope.names) e
  have:=List.all_eq_true.mp nc _ this
  simp at this
 have F2:FR C (envOf name scope C.h₀.objs.size fa cd) [p] [("script",none),("source",none),("bare",none),("base",none),("one",none)] h':={
  kind:=hk
  glob:=rfl
  bi:=rfl
  ns:=⟨m,⟨oL,es,ep,hL2,hdL,hsk,hfind⟩,fun x d e=>by rw[lnone] at e;cases e⟩
  cell:=fun x hx=>absurd hx (ncell x)
  cellv:=fun x d e=>by rw[lnone] at e;cases e
  apL:=fun q hq e=>by
   have:=List.mem_singleton.mp hq
   subst this
   have:=H'.apart r 0 _ _ hp1 z0 e
   exact He hr this
  newL:=nL
  newC:=fun x c e=>by cases e
  injC:=fun x y c e=>by cases e }
 refine j3 (s:={ s with heap:=h',toks:=tk' }) H2 F2 (VR.ref (n:=0) (p:=p) rfl) (.inl (by rw[Env.kindOf];exact l2)) fun h3 tk3 H3 F3 _ _ _=>?_
 refine hss A _ [p] (pu none none none) [.list [.int b,.int c]] { s with heap:=h3,toks:=tk3 } Q E (fun f _ _=>f=.ret (.bool true)) rfl rm H3 F3 (hW _ ⟨b,c,rfl,c0,c1⟩) ?_
 rintro f d ρ4 loc4 hp4 h4 tk4 rfl st4 H4 F4 R4
 cases R4 with
 | ret R4=>cases R4.inv;exact hQ h4 tk4 H4.keep
theorem rj (env:Env):c8 8 (callerA.deeper env):=by
 refine⟨rfl,?_,?_,?_⟩
 ·show 1+claimMargin+1+6 * 8+6≤recursionLimit
  decide
 ·show 4+3+60 * 8+200≤cLine
  decide
 ·show(some [env]:Option (List Env))≠none
  exact fun q=>nomatch q
theorem DM {prog:Program} {w:World} {h₀:Heap} {mg mb:Str→Option Value} {pv:Program} {loose:List Str} {mean:ExcName→Option Value} (X:(KK w.params).In h₀) (T:Top pv loose mean mg mb h₀)
  {a:Addr} {vals:List Value} {xs:List Int} {name:Str} {scope:Scope} {fa:Addr} {cd:Value} {s:Shared} {m:Str→Option Value} {rest:List Stmt} {p1 p2 p3 p4 p5:Pos}
  {Q:Flow→Shared→Prop} {E:Value→Shared→Prop} (hL:h₀.IsList a vals.toArray) (hI:IntsAre vals xs) (hz:xs.length≤1000) (F:Fr h₀ h₀.objs.size s.heap m) (hm:m (Str.ofString "script")=some (.ref a))
  (hk:scope.kind=.function) (l1:scope.names.lookup (Str.ofString "script")=some .local) (l2:scope.names.lookup (Str.ofString "source")=some .local) (l3:scope.names.lookup (Str.ofString "_law_pool")=some .globalImplicit) (nc:(scope.names.all fun x=>x.2 != .cell)=true)
  (hs:∀ env,swapsWith (.Call (.Name (Str.ofString "_law_pool") p2) [.Name (Str.ofString "script") p3] [] p4) (some (.Name (Str.ofString "source") p1)) p5.line env=pure false)
  (hss:∀ {C:Cx} {f_law_planted:WF} {bM:WF} {f_law_form:WF} (h:HK C) (g_law_planted:aI C 8 (.ref 357) f_law_planted) (g_merged:aI C 7 (.ref 288) bM) (g_law_form:aI C 4 (.ref 319) f_law_form),SS C 8 scope rest (ud f_law_planted bM f_law_form))
  (hQ:∀ h' tk,(∀ b o,h₀.get? b=some o→h'.get? b=some o)→Q (.ret (.bool true)) { s with heap:=h',toks:=tk }) :
  wpAny (model prog w) (callerA.deeper (envOf name scope h₀.objs.size fa cd)) (execs (.Assign [.Name (Str.ofString "source") p1] (.Call (.Name (Str.ofString "_law_pool") p2) [.Name (Str.ofString "script") p3] [] p4) p5::rest) (envOf name scope h₀.objs.size fa cd)) Q E s:=
 yx (C:=⟨prog,w,KK w.params,h₀,mg,mb,pv,loose,mean,X,T⟩) rfl hL hI hz F hm (rj _) hk l1 l2 l3 nc hs (hss rfl (ve rfl) (bM rfl) (AD rfl)) (fun hp src=>AO src fun _ _=>rfl) hQ
end Mine
open PySem PySem.W PyProof.Rows PySem.Calls
set_option maxHeartbeats 8000000
open Mine PySem.Challenge in
theorem PySem.Challenge.cw_nu0064_01_holds : PySem.Challenge.rw_nu0064_01.Holds := by
 refine holds_law KW fun sd=>?_
 refine holds_open (q:=vw) (loose:=[]) (XP:=XL vw []) (YP:=Hook.says HH) dL (Hook.of HH) (Hook.keeps HH) (fun s e=>xl_of s (Bool.and_eq_true_iff.mp e).1) XL.keeps (by rfl) (by rfl) (by rfl) (fun s e=>recFacts_of (Bool.and_eq_true_iff.mp e).2) rfl sd (by decide +kernel) ⟨rfl,rfl,rfl,rfl,rfl,by decide +kernel⟩ ?hw ?hc
 case hw=>w_witness2
 case hc=>
  intro w s0 s₁ mg mb G Y fa o pm cd doc dV kV ho hd hcd hD hmg hg args vals as hpre hlay hrd hwl hlo
  have KX:=kIn_of Y
  have X:=(Ground.X G).1
  have V:=(Ground.X G).2
  refine Ground.open G ?_
  intro T B D TE TW
  try (refine guard_noD D (by decide +kernel) ?_;clear D)
  obtain⟨_,_,M⟩:=bmod_of_top T
  have TA:=at_of_top T
  try (obtain⟨_,_,he,B0⟩:=based_of_top T rfl hmg ho hd;have he':cd=_:=he;subst he';clear he)
  clear hmg
  wrow_args hpre hlay hrd hwl hlo
  refine enter_call ?_
  w_top on
  try refine codeAny_mono ?_ (fun _ _ g=>GoodW.toG g)
  have K0:=below_caller (Top.heap T)
  w_call any ho hd hcd hD T F
  clear hd TA
  k_drop
  refine DM KX ‹Top _ _ _ _ _ _› ‹Heap.IsList _ _ _› ‹IntsAre _ _› (by omega) ‹Fr _ _ _ _› (by rfl) rfl rfl rfl rfl (by rfl) (by intro _;rfl) ?hss ?hQ
  case hQ=>
   intro h' tk keep
   have ge:=‹Shared.gens _=#[]›
   show GoodW _ _ _ _ _ (.ok (.ret (.bool true))) _
   refine⟨.inl ⟨.bool true,_,_,rfl,raisesW_false ?_,.bool true,?_,fun _=>⟨List.nodup_nil,fun a ha=>nomatch ha⟩⟩,keep,rfl,ge⟩
   ·wrow_none_raised
   ·wrow_post
  case hss=>
   intro C f_law_planted bM f_law_form h g_law_planted g_merged g_law_form
   unfold ud
   refine aP ?_ ?_
   walk_at "d"
   refine wq ?_
   refine lg ?_
   refine aK "_law_planted_right" h g_law_planted ?_
   walk_at "d"
   exact jW
   walk_at "d"
   refine jC ["key","name","value","k"] ?_ ?_ ?_ ?_
   walk_at "d"
   exact ao
   exact kF
   walk_at "d"
   refine aG cP ?_ ?_
   refine aK "merged" h g_merged ?_
   walk_at "d"
   exact jW
   walk_at "d"
   refine eU ?_ ?_
   refine aG cP ?_ ?_
   refine aK "merged" h g_merged ?_
   walk_at "d"
   refine eU ?_ ?_
   refine aG cP ?_ ?_
   refine aK "merged" h g_merged ?_
   walk_at "d"
   exact dM
   walk_at "d"
   exact jW
   walk_at "d"
   refine bV (xs:=["base","one"]) ?_
   walk_at "d"
   refine aK "_law_form" h g_law_form ?_
   walk_at "d"
   walk_at "d"
   refine aK "_law_form" h g_law_form ?_
   walk_at "d"
   walk_at "d"
   refine eU ?_ ?_
   refine aG cP ?_ ?_
   refine aK "merged" h g_merged ?_
   walk_at "d"
   refine eU ?_ ?_
   refine aG cP ?_ ?_
   refine aK "merged" h g_merged ?_
   walk_at "d"
   exact dM
   walk_at "d"
   exact jW
   walk_at "d"
   refine jx bz ?_ ?_
   refine aK "merged" h g_merged ?_
   walk_at "d"
