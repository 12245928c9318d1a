import PyProof.Rows.All
import Wide.All
import OpenK.AllK
import Wide.FinOn
import PySem.Challenge.RW_nn0143_01
set_option linter.unusedVariables false
set_option genSizeOf false
set_option bootstrap.genMatcherCode false
set_option backward.match.sparseCases false
set_option tactic.hygienic false
set_option genInjectivity false
set_option maxRecDepth 100000
noncomputable section
namespace Pap
abbrev aaw:=@Nat.le_trans
abbrev aax:=@Nat.lt_of_lt_of_le
abbrev aay:=@Option.some.inj
abbrev aaz:=@Nat.lt_of_le_of_lt
abbrev aaA:=@Nat.lt_trans
abbrev aaB:=@List.length_map
abbrev aaC:=@Nat.lt_succ_self
abbrev aaD:=@List.length_append
abbrev aaE:=@Bool.false_ne_true
abbrev aaF:=@Nat.le_refl
abbrev aaG:=@List.mem_map
abbrev aaH:=@List.mem_cons
abbrev aaI:=@Nat.le_of_lt
abbrev aaJ:=@Nat.ne_of_lt
abbrev aaK:=@List.mem_singleton
abbrev aaL:=@List.map_append
abbrev aaM:=@Nat.le_add_right
abbrev aaN:=@Nat.ne_of_gt
abbrev aaO:=@List.mem_of_getElem?
abbrev aaP:=@Nat.not_lt
abbrev aaQ:=@Nat.add_le_add
abbrev aaR:=@List.getElem?_eq_getElem
abbrev aaS:=@Nat.le_of_eq
abbrev aaT:=@List.mem_append_right
abbrev aaU:=@List.not_mem_nil
abbrev aaV:=@Bool.and_eq_true_iff
abbrev aaW:=@List.append_assoc
abbrev aaX:=@List.all_eq_true
abbrev aaY:=@List.append_nil
abbrev aaZ:=@List.getElem?_eq_some_iff
abbrev aa0:=@Int.natCast_nonneg
abbrev aa1:=@Nat.succ_le_succ
abbrev aa2:=@List.length_cons
abbrev aa3:=@List.mem_append_left
abbrev aa4:=@List.map_cons
abbrev aa5:=@List.map_map
abbrev aa6:=@List.mem_append
abbrev aa7:=@Option.isSome_iff_exists
abbrev aa8:=@List.nodup_cons
abbrev aa9:=@Nat.add_assoc
abbrev aba:=@Nat.le_succ
abbrev abb:=@Nat.add_le_add_right
abbrev abc:=@List.getElem?_map
abbrev abd:=@Int.le_trans
abbrev abe:=@List.length_singleton
abbrev abf:=@List.cons.inj
abbrev abg:=@Nat.add_comm
abbrev abh:=@Array.getElem?_toList
abbrev abi:=@List.mem_map_of_mem
abbrev abj:=@Nat.add_le_add_left
abbrev abk:=@List.mem_filter
abbrev abl:=@Nat.lt_add_of_pos_right
abbrev abm:=@Ne.symm
abbrev abn:=@Nat.le_add_left
abbrev abo:=@List.getElem?_of_mem
abbrev abp:=@Nat.zero_le
abbrev abq:=@List.map_congr_left
abbrev abr:=@Nat.add_lt_add_left
abbrev abt:=@Nat.mul_le_mul_left
abbrev abu:=@List.pairwise_singleton
abbrev abv:=@Nat.succ_lt_succ
abbrev abw:=@List.nodup_append
abbrev abx:=@Nat.le_succ_of_le
abbrev aby:=@List.map_id
abbrev abz:=@List.getElem?_append_left
abbrev abA:=@Int.ofNat_lt
abbrev abB:=@List.mem_filterMap
abbrev abC:=@Nat.succ_ne_zero
abbrev abD:=@List.range'_succ
abbrev abE:=@Nat.zero_add
section
open PySem
theorem sR {α:Type} [LT α] {a b c:α} (h:a < b) (e:b=c):a < c:=e▸h
theorem Rn {α:Type} [LT α] {a b c:α} (e:a=b) (h:b < c):a < c:=e▸h
theorem M3 {a b:Int} (h:a<=b) (n:a≠b):a < b:=Int.lt_iff_le_and_ne.mpr ⟨h,n⟩
theorem SU (n:Nat):1+n=n+1:=abg 1 n
theorem wV {a b:Nat} (h:a<=b):(a:Int)<=b:=Int.ofNat_le.mpr h
theorem OE {a b:Nat} (h:(a:Int)<=b):a<=b:=Int.ofNat_le.mp h
theorem MT {a b:Nat} (h:a < b):(a:Int) < b:=abA.mpr h
theorem HJ {a b:Nat} (h:(a:Int) < b):a < b:=abA.mp h
theorem Kc {a b:Nat} (h:a=b):(a:Int)=b:=congrArg Int.ofNat h
theorem qk {a b:Nat} (h:(a:Int)=b):a=b:=Int.ofNat.inj h
theorem zF {a b c d:Nat} (h:c<=d) (n:¬c+(b+1)<=d+a):a<=b:=aaP.mp λx=>n (aaQ h x)
theorem zt {k a:Int} {b:Nat} (h:k<=a) (g:a < k+b):(a - k).toNat < b:=(Int.toNat_lt (Int.sub_nonneg_of_le h)).mpr (Int.sub_left_lt_of_lt_add g)
theorem zu {k a:Int} (h:k<=a):k+((a - k).toNat:Int)=a:=(congrArg (k+·) (Int.toNat_of_nonneg (Int.sub_nonneg_of_le h))).trans ((Int.add_comm _ _).trans (Int.sub_add_cancel a k))
theorem zv {a:Int} (h:1<=a):((a - 1).toNat:Int)+1=a:=(Int.add_comm _ _).trans (zu h)
theorem zr {a:Int} {b:Nat} (h:a<=b):a < 1+b:=Int.lt_of_le_of_lt h (Int.lt_add_of_pos_left _ (by decide))
theorem zw {a:Int} {b c:Nat} (h1:(c:Int)+1=a) (h2:c < b):1<=a/\a<=(b:Int):=h1▸⟨Int.le_add_of_nonneg_left (aa0 c),abA.mpr h2⟩
theorem zy {a b:Nat} {c:Int} (h1:(a:Int)=(b:Int)+1 - c) (h2:c<=(b:Int)):0 < a:=Int.natCast_pos.mp (sR (Int.sub_pos_of_lt (Int.lt_add_one_of_le h2)) h1.symm)
theorem zq {i j n:Nat} (h:i < n) (e:i+j=n):j - 1 < j/\i+1+(j - 1)=n:=
 have p:0 < j:=Nat.pos_of_lt_add_right (sR h e.symm)
 ⟨Nat.sub_lt p Nat.one_pos,(aa9 i 1 (j - 1)).trans ((congrArg (i+·) (Nat.add_sub_cancel' p)).trans e)⟩
theorem zs {a:Int} {b:Nat}:a+((b+1:Nat):Int)=a+1+b:=(congrArg (a+·) (Int.add_comm (b:Int) 1)).trans (Int.add_assoc a 1 b).symm
theorem zg (b c:Nat):(b:Int) < b+1+c:=MT (b:=b+1+c) (aax (aaC b) (aaM _ _))
theorem zo {a:Int} {b:Nat} (h:¬a<=2+(b:Int)):3+(b:Int)<=a:=abd (Int.le_of_eq (Int.add_right_comm 2 1 b)) (Int.not_le.mp h)
theorem z5 {a:Nat} {b:Int} (h:5+(a:Int)<=b):5<=b:=abd (Int.le_add_of_nonneg_right (aa0 a)) h
theorem Xz (a b:Int):a+b - a=b:=(congrArg (· - a) (Int.add_comm a b)).trans (Int.add_sub_cancel b a)
theorem Yl (a b c:Int):a - b - c=a - c - b:=(Int.sub_sub a b c).trans ((congrArg (a - ·) (Int.add_comm b c)).trans (Int.sub_sub a c b).symm)
theorem U7 {a:Nat} {b:Nat}:((2+a+b:Nat):Int)+1=3+(a:Int)+(b:Int):=Kc (a:=2+a+b+1) (b:=3+a+b) (by simp+arith)
theorem Uy {a:Nat} {b:Nat} {c:Nat} (h1:b < c):1<=(a:Int)+1+(b:Int)/\(a:Int)+1+(b:Int)<=((a+c:Nat):Int):=⟨wV (a:=1) (b:=a+1+b) (aaw (abn 1 _) (aaM _ _)),wV (a:=a+1+b) (aaw (aaS (Nat.add_right_comm _ 1 _)) (abr h1 _))⟩
theorem Up {a:Nat} {b:Nat} {c:Nat} {d:Nat} (h1:a < b):1<=3+(a:Int)/\3+(a:Int)<=((2+b+c+d:Nat):Int):=⟨wV (a:=1) (b:=3+a) (aaw (by decide) (aaM 3 _)),wV (a:=3+a) (zF h1 (by simp+arith))⟩
theorem Vf {a:Nat} {b:Nat} {c:Nat} (h1:b < c):3+(a:Int)+(b:Int)<=((2+a+c:Nat):Int):=wV (a:=3+a+b) (b:=2+a+c) (zF h1 (by simp+arith))
theorem SD {a:Nat} {b:Nat} {c:Nat} (h1:c < a):¬3+(a:Int)+(b:Int)=3+(c:Int):=λe=>aaN (aax (abr h1 3) (aaM _ _)) (qk (a:=3+a+b) (b:=3+c) e)
theorem Sh {a:Nat} {b:Nat} {c:Nat} (h1:¬b < c):3+(a:Int)+(b:Int)=((2+a+c:Nat):Int)+1+((b - c:Nat):Int):=Kc (a:=3+a+b) (b:=2+a+c+1+(b - c)) ((congrArg (3+a+·) (Nat.add_sub_of_le (aaP.mp h1)).symm).trans (by simp+arith))
theorem S4 {a:Nat} {b:Nat} {c:Nat} {d:Nat} (h1:a < b):¬3+(a:Int)=((2+b+c:Nat):Int)+1+((d - c:Nat):Int):=λe=>aaJ (zF h1 (by simp+arith)) (qk (a:=3+a) (b:=2+b+c+1+(d - c)) e)
theorem Un {a:Nat} {b:Nat} {c:Nat} {d:Nat} (h1:d < b) (h2:a < d+1):3+(a:Int)<=((2+b+c:Nat):Int):=wV (a:=3+a) (zF (aaQ h1 h2) (by simp+arith))
theorem Sj {a:Nat}:((2+a:Nat):Int)+1=3+(a:Int):=Kc (a:=2+a+1) (b:=3+a) (Nat.add_right_comm 2 _ 1)
theorem Sw {a:Nat}:3+(a:Int)=(0:Int)+1+((2+a:Nat):Int):=Kc (a:=3+a) (b:=0+1+(2+a)) (aa9 1 2 _)
theorem UP {a:Nat} {b:Nat} {c:Nat} {d:Nat} (h1:a < c) (h2:b=2+c+d):3+(a:Int)<=(b:Int):=wV (a:=3+a) (zF (aaQ h1 (aaS h2.symm)) (by simp+arith))
theorem Tv {a:Nat} {b:Nat}:3+(a:Int)+(b:Int)=((2+a+b:Nat):Int)+1:=Kc (a:=3+a+b) (b:=2+a+b+1) (by simp+arith)
theorem Qi {a:Nat} (h1:3+(a:Int)=2):False:=absurd (qk (a:=3+a) (b:=2) h1) (aaN (aax (by decide) (aaM 3 _)))
theorem O6 {a:Int} {b:Nat} {c:Nat} {d:Nat} (h1:1<=a) (h2:a<=(d:Int)) (h3:¬a<=2+(b:Int)) (h4:d=2+b+c):(a - 3 - (b:Int)).toNat < c:=Rn (congrArg Int.toNat (Int.sub_sub _ 3 _)) (zt (zo h3) (Int.lt_of_le_of_lt h2 (MT (b:=3+b+c) (zF (aaS h4) (by simp+arith)))))
theorem Ou {a:Nat} {b:Int} (h1:¬b<=2+(a:Int)):3+(a:Int)+(((b - 3 - (a:Int)).toNat:Nat):Int)=b:=(congrArg (λx:Int=>3+(a:Int)+x.toNat) (Int.sub_sub _ 3 _)).trans (zu (zo h1))
theorem Pz {a:Nat}:((4+a:Nat):Int)+1=5+(a:Int):=Kc (a:=4+a+1) (b:=5+a) (Nat.add_right_comm 4 _ 1)
theorem Oe {a:Nat} {b:Int} {c:Nat} {d:Nat} (h1:5+(d:Int)=b) (h2:a<=d) (h3:d < a+c):5+(a:Int)<=b/\b < 5+(a:Int)+(c:Int):=h1▸⟨Int.add_le_add_left (wV h2) 5,MT (a:=5+d) (b:=5+a+c) (sR (abr h3 5) (aa9 5 _ _).symm)⟩
theorem OM {a:Nat} {b:Nat} {c:Nat} (h1:(c:Int) - 1=(b:Int)) (h2:a+4*c<=24):a+4*b<=20:=zF (aaQ (abt 4 (aaS (qk (b:=b+1) (Int.sub_eq_iff_eq_add.mp h1)).symm)) h2) (by simp+arith)
theorem N5 {a:Int} {b:Nat} {c:Nat} {d:Nat} (h1:b=c+d) (h2:5+(c:Int)<=a) (h3:a < 5+(c:Int)+(d:Int)):a < 5+(b:Int):=sR h3 (Kc (a:=5+c+d) (b:=5+b) ((aa9 5 _ _).trans (congrArg (5+·) h1.symm)))
theorem O1 {a:Nat} {b:Nat} {c:Int} (h1:5+(b:Int)<=c) (h2:c < 5+(b:Int)+(a:Int)):1<=a:=Nat.pos_of_lt_add_right (HJ (a:=5+b) (b:=5+b+a) (Int.lt_of_le_of_lt h1 h2))
theorem NY {a:Int} {b:Nat} {c:Nat} (h1:a=4+1+(b:Int)) (h2:a<=(c:Int)) (h3:c=4):False:=absurd (aaw (OE (a:=4+1+b) (abd (Int.le_of_eq h1.symm) h2)) (aaS h3)) (by simp+arith)
theorem Qh {a:Int} {b:Int} {c:Nat} (h1:¬5<=a) (h2:b=a) (h3:(c:Int)+1=b) (h4:4<=c):False:=h1 (abd (wV (a:=5) (b:=c+1) (aa1 h4)) (Int.le_of_eq (h3.trans h2)))
theorem Po {a:Nat} (h1:5+(a:Int)<=(4:Int)):False:=absurd (OE (a:=5+a) (b:=4) h1) (by simp+arith)
theorem PG {a:Nat} {b:Nat} (h1:b < a):(a:Int) - 1 - (b:Int)=((a - 1 - b:Nat):Int):=((Int.ofNat_sub (Nat.le_sub_one_of_lt h1)).trans (congrArg (· - (b:Int)) (Int.ofNat_sub (aaz (abp _) h1)))).symm
theorem N3 {a:Nat} {b:Nat} (h1:b < a):(a:Int) - 1 - ((b+1:Nat):Int)=((a - 1 - b:Nat):Int) - 1:=(Int.sub_sub _ _ 1).symm.trans (congrArg (· - 1) ((Int.ofNat_sub (Nat.le_sub_one_of_lt h1)).trans (congrArg (· - (b:Int)) (Int.ofNat_sub (aaz (abp _) h1)))).symm)
theorem nn {α:Type} {x:α} (h:none=some x):False:=nomatch h
theorem me {p0:Prop} {p1:Prop} {p2:Prop} {p3:Prop} {b:Prop} (h:p0/\p1/\p2/\p3) (f:p0->p1->p2->p3->b):b:=h.elim λh0 h=>h.elim λh1 h=>h.elim λh2 h=>f h0 h1 h2 h
theorem xD {p0:Prop} {p1:Prop} {p2:Prop} {b:Prop} (h:p0/\p1/\p2) (f:p0->p1->p2->b):b:=h.elim λh0 h=>h.elim λh1 h=>f h0 h1 h
theorem Bp {p0:Prop} {α0:Sort _} {p2:α0->Prop} {p3:α0->Prop} {α1:Sort _} {p5:α0->α1->Prop} {p6:α0->α1->Prop} {p7:α0->α1->Prop} {b:Prop} (h:p0/\∃a0,p2 a0/\p3 a0/\∃a1,p5 a0 a1/\p6 a0 a1/\p7 a0 a1) (f:p0->∀a0,p2 a0->p3 a0->∀a1,p5 a0 a1->p6 a0 a1->p7 a0 a1->b):b:=h.elim λh0 h=>h.elim λa0 h=>h.elim λh2 h=>h.elim λh3 h=>h.elim λa1 h=>h.elim λh5 h=>h.elim λh6 h=>f h0 a0 h2 h3 a1 h5 h6 h
theorem yB {p0:Prop} {α0:Sort _} {p2:α0->Prop} {p3:α0->Prop} {p4:α0->Prop} {b:Prop} (h:p0/\∃a0,p2 a0/\p3 a0/\p4 a0) (f:p0->∀a0,p2 a0->p3 a0->p4 a0->b):b:=h.elim λh0 h=>h.elim λa0 h=>h.elim λh2 h=>h.elim λh3 h=>f h0 a0 h2 h3 h
theorem fV {p0:Prop} {α0:Sort _} {α1:Sort _} {p3:α0->α1->Prop} {b:Prop} (h:p0/\∃a0,∃a1,p3 a0 a1) (f:p0->∀a0,∀a1,p3 a0 a1->b):b:=h.elim λh0 h=>h.elim λa0 h=>h.elim λa1 h=>f h0 a0 a1 h
theorem qj {p0:Prop} {p1:Prop} {b:Prop} (h:p0/\p1) (f:p0->p1->b):b:=h.elim λh0 h=>f h0 h
theorem XC {p0:Prop} {β1:Sort _} {l1:β1} {r1:β1} {b:Prop} (h:p0/\l1=r1) (f:p0->r1=l1->b):b:=h.elim λh0 h=>f h0 h.symm
theorem jd {α0:Sort _} {p1:α0->Prop} {p2:α0->Prop} {p3:α0->Prop} {p4:α0->Prop} {b:Prop} (h:∃a0,p1 a0/\p2 a0/\p3 a0/\p4 a0) (f:∀a0,p1 a0->p2 a0->p3 a0->p4 a0->b):b:=h.elim λa0 h=>h.elim λh1 h=>h.elim λh2 h=>h.elim λh3 h=>f a0 h1 h2 h3 h
theorem Ap {α0:Sort _} {p1:α0->Prop} {p2:α0->Prop} {α1:Sort _} {p4:α0->α1->Prop} {p5:α0->α1->Prop} {b:Prop} (h:∃a0,p1 a0/\p2 a0/\∃a1,p4 a0 a1/\p5 a0 a1) (f:∀a0,p1 a0->p2 a0->∀a1,p4 a0 a1->p5 a0 a1->b):b:=h.elim λa0 h=>h.elim λh1 h=>h.elim λh2 h=>h.elim λa1 h=>h.elim λh4 h=>f a0 h1 h2 a1 h4 h
theorem ju {α0:Sort _} {p1:α0->Prop} {p2:α0->Prop} {α1:Sort _} {p4:α0->α1->Prop} {b:Prop} (h:∃a0,p1 a0/\p2 a0/\∃a1,p4 a0 a1) (f:∀a0,p1 a0->p2 a0->∀a1,p4 a0 a1->b):b:=h.elim λa0 h=>h.elim λh1 h=>h.elim λh2 h=>h.elim λa1 h=>f a0 h1 h2 a1 h
theorem cV {α0:Sort _} {p1:α0->Prop} {p2:α0->Prop} {p3:α0->Prop} {b:Prop} (h:∃a0,p1 a0/\p2 a0/\p3 a0) (f:∀a0,p1 a0->p2 a0->p3 a0->b):b:=h.elim λa0 h=>h.elim λh1 h=>h.elim λh2 h=>f a0 h1 h2 h
theorem aw {α0:Sort _} {p1:α0->Prop} {p2:α0->Prop} {b:Prop} (h:∃a0,p1 a0/\p2 a0) (f:∀a0,p1 a0->p2 a0->b):b:=h.elim λa0 h=>h.elim λh1 h=>f a0 h1 h
theorem EY {α0:Sort _} {α1:Sort _} {p2:α0->α1->Prop} {p3:α0->α1->Prop} {p4:α0->α1->Prop} {p5:α0->α1->Prop} {p6:α0->α1->Prop} {b:Prop} (h:∃a0,∃a1,p2 a0 a1/\p3 a0 a1/\p4 a0 a1/\p5 a0 a1/\p6 a0 a1) (f:∀a0,∀a1,p2 a0 a1->p3 a0 a1->p4 a0 a1->p5 a0 a1->p6 a0 a1->b):b:=h.elim λa0 h=>h.elim λa1 h=>h.elim λh2 h=>h.elim λh3 h=>h.elim λh4 h=>h.elim λh5 h=>f a0 a1 h2 h3 h4 h5 h
theorem tj {α0:Sort _} {α1:Sort _} {p2:α0->α1->Prop} {p3:α0->α1->Prop} {p4:α0->α1->Prop} {p5:α0->α1->Prop} {b:Prop} (h:∃a0,∃a1,p2 a0 a1/\p3 a0 a1/\p4 a0 a1/\p5 a0 a1) (f:∀a0,∀a1,p2 a0 a1->p3 a0 a1->p4 a0 a1->p5 a0 a1->b):b:=h.elim λa0 h=>h.elim λa1 h=>h.elim λh2 h=>h.elim λh3 h=>h.elim λh4 h=>f a0 a1 h2 h3 h4 h
theorem aS {α0:Sort _} {α1:Sort _} {p2:α0->α1->Prop} {p3:α0->α1->Prop} {p4:α0->α1->Prop} {b:Prop} (h:∃a0,∃a1,p2 a0 a1/\p3 a0 a1/\p4 a0 a1) (f:∀a0,∀a1,p2 a0 a1->p3 a0 a1->p4 a0 a1->b):b:=h.elim λa0 h=>h.elim λa1 h=>h.elim λh2 h=>h.elim λh3 h=>f a0 a1 h2 h3 h
theorem cZ {α0:Sort _} {α1:Sort _} {p2:α0->α1->Prop} {p3:α0->α1->Prop} {b:Prop} (h:∃a0,∃a1,p2 a0 a1/\p3 a0 a1) (f:∀a0,∀a1,p2 a0 a1->p3 a0 a1->b):b:=h.elim λa0 h=>h.elim λa1 h=>h.elim λh2 h=>f a0 a1 h2 h
theorem Js {α0:Sort _} {α1:Sort _} {p2:α0->α1->Prop} {β3:Sort _} {l3:α0->α1->β3} {r3:α0->α1->β3} {b:Prop} (h:∃a0,∃a1,p2 a0 a1/\l3 a0 a1=r3 a0 a1) (f:∀a0,∀a1,p2 a0 a1->r3 a0 a1=l3 a0 a1->b):b:=h.elim λa0 h=>h.elim λa1 h=>h.elim λh2 h=>f a0 a1 h2 h.symm
theorem sL {α0:Sort _} {α1:Sort _} {α2:Sort _} {p3:α0->α1->α2->Prop} {p4:α0->α1->α2->Prop} {p5:α0->α1->α2->Prop} {p6:α0->α1->α2->Prop} {p7:α0->α1->α2->Prop} {p8:α0->α1->α2->Prop} {p9:α0->α1->α2->Prop} {QD:α0->α1->α2->Prop} {b:Prop} (h:∃a0,∃a1,∃a2,p3 a0 a1 a2/\p4 a0 a1 a2/\p5 a0 a1 a2/\p6 a0 a1 a2/\p7 a0 a1 a2/\p8 a0 a1 a2/\p9 a0 a1 a2/\QD a0 a1 a2) (f:∀a0,∀a1,∀a2,p3 a0 a1 a2->p4 a0 a1 a2->p5 a0 a1 a2->p6 a0 a1 a2->p7 a0 a1 a2->p8 a0 a1 a2->p9 a0 a1 a2->QD a0 a1 a2->b):b:=h.elim λa0 h=>h.elim λa1 h=>h.elim λa2 h=>h.elim λh3 h=>h.elim λh4 h=>h.elim λh5 h=>h.elim λh6 h=>h.elim λh7 h=>h.elim λh8 h=>h.elim λh9 h=>f a0 a1 a2 h3 h4 h5 h6 h7 h8 h9 h
theorem jr {α0:Sort _} {α1:Sort _} {α2:Sort _} {p3:α0->α1->α2->Prop} {p4:α0->α1->α2->Prop} {p5:α0->α1->α2->Prop} {p6:α0->α1->α2->Prop} {p7:α0->α1->α2->Prop} {p8:α0->α1->α2->Prop} {b:Prop} (h:∃a0,∃a1,∃a2,p3 a0 a1 a2/\p4 a0 a1 a2/\p5 a0 a1 a2/\p6 a0 a1 a2/\p7 a0 a1 a2/\p8 a0 a1 a2) (f:∀a0,∀a1,∀a2,p3 a0 a1 a2->p4 a0 a1 a2->p5 a0 a1 a2->p6 a0 a1 a2->p7 a0 a1 a2->p8 a0 a1 a2->b):b:=h.elim λa0 h=>h.elim λa1 h=>h.elim λa2 h=>h.elim λh3 h=>h.elim λh4 h=>h.elim λh5 h=>h.elim λh6 h=>h.elim λh7 h=>f a0 a1 a2 h3 h4 h5 h6 h7 h
theorem Cc {α0:Sort _} {α1:Sort _} {α2:Sort _} {p3:α0->α1->α2->Prop} {p4:α0->α1->α2->Prop} {p5:α0->α1->α2->Prop} {p6:α0->α1->α2->Prop} {p7:α0->α1->α2->Prop} {b:Prop} (h:∃a0,∃a1,∃a2,p3 a0 a1 a2/\p4 a0 a1 a2/\p5 a0 a1 a2/\p6 a0 a1 a2/\p7 a0 a1 a2) (f:∀a0,∀a1,∀a2,p3 a0 a1 a2->p4 a0 a1 a2->p5 a0 a1 a2->p6 a0 a1 a2->p7 a0 a1 a2->b):b:=h.elim λa0 h=>h.elim λa1 h=>h.elim λa2 h=>h.elim λh3 h=>h.elim λh4 h=>h.elim λh5 h=>h.elim λh6 h=>f a0 a1 a2 h3 h4 h5 h6 h
theorem iS {α0:Sort _} {α1:Sort _} {α2:Sort _} {p3:α0->α1->α2->Prop} {p4:α0->α1->α2->Prop} {p5:α0->α1->α2->Prop} {b:Prop} (h:∃a0,∃a1,∃a2,p3 a0 a1 a2/\p4 a0 a1 a2/\p5 a0 a1 a2) (f:∀a0,∀a1,∀a2,p3 a0 a1 a2->p4 a0 a1 a2->p5 a0 a1 a2->b):b:=h.elim λa0 h=>h.elim λa1 h=>h.elim λa2 h=>h.elim λh3 h=>h.elim λh4 h=>f a0 a1 a2 h3 h4 h
theorem Hy {α0:Sort _} {α1:Sort _} {α2:Sort _} {p3:α0->α1->α2->Prop} {p4:α0->α1->α2->Prop} {β5:Sort _} {l5:α0->α1->α2->β5} {r5:α0->α1->α2->β5} {b:Prop} (h:∃a0,∃a1,∃a2,p3 a0 a1 a2/\p4 a0 a1 a2/\l5 a0 a1 a2=r5 a0 a1 a2) (f:∀a0,∀a1,∀a2,p3 a0 a1 a2->p4 a0 a1 a2->r5 a0 a1 a2=l5 a0 a1 a2->b):b:=h.elim λa0 h=>h.elim λa1 h=>h.elim λa2 h=>h.elim λh3 h=>h.elim λh4 h=>f a0 a1 a2 h3 h4 h.symm
theorem sg {α0:Sort _} {α1:Sort _} {α2:Sort _} {p3:α0->α1->α2->Prop} {p4:α0->α1->α2->Prop} {b:Prop} (h:∃a0,∃a1,∃a2,p3 a0 a1 a2/\p4 a0 a1 a2) (f:∀a0,∀a1,∀a2,p3 a0 a1 a2->p4 a0 a1 a2->b):b:=h.elim λa0 h=>h.elim λa1 h=>h.elim λa2 h=>h.elim λh3 h=>f a0 a1 a2 h3 h
theorem vD {α0:Sort _} {α1:Sort _} {α2:Sort _} {α3:Sort _} {p4:α0->α1->α2->α3->Prop} {p5:α0->α1->α2->α3->Prop} {p6:α0->α1->α2->α3->Prop} {b:Prop} (h:∃a0,∃a1,∃a2,∃a3,p4 a0 a1 a2 a3/\p5 a0 a1 a2 a3/\p6 a0 a1 a2 a3) (f:∀a0,∀a1,∀a2,∀a3,p4 a0 a1 a2 a3->p5 a0 a1 a2 a3->p6 a0 a1 a2 a3->b):b:=h.elim λa0 h=>h.elim λa1 h=>h.elim λa2 h=>h.elim λa3 h=>h.elim λh4 h=>h.elim λh5 h=>f a0 a1 a2 a3 h4 h5 h
theorem yT {α0:Sort _} {α1:Sort _} {α2:Sort _} {α3:Sort _} {α4:Sort _} {p5:α0->α1->α2->α3->α4->Prop} {p6:α0->α1->α2->α3->α4->Prop} {p7:α0->α1->α2->α3->α4->Prop} {p8:α0->α1->α2->α3->α4->Prop} {b:Prop} (h:∃a0,∃a1,∃a2,∃a3,∃a4,p5 a0 a1 a2 a3 a4/\p6 a0 a1 a2 a3 a4/\p7 a0 a1 a2 a3 a4/\p8 a0 a1 a2 a3 a4) (f:∀a0,∀a1,∀a2,∀a3,∀a4,p5 a0 a1 a2 a3 a4->p6 a0 a1 a2 a3 a4->p7 a0 a1 a2 a3 a4->p8 a0 a1 a2 a3 a4->b):b:=h.elim λa0 h=>h.elim λa1 h=>h.elim λa2 h=>h.elim λa3 h=>h.elim λa4 h=>h.elim λh5 h=>h.elim λh6 h=>h.elim λh7 h=>f a0 a1 a2 a3 a4 h5 h6 h7 h
theorem iE {α0:Sort _} {α1:Sort _} {α2:Sort _} {α3:Sort _} {α4:Sort _} {α5:Sort _} {p6:α0->α1->α2->α3->α4->α5->Prop} {b:Prop} (h:∃a0,∃a1,∃a2,∃a3,∃a4,∃a5,p6 a0 a1 a2 a3 a4 a5) (f:∀a0,∀a1,∀a2,∀a3,∀a4,∀a5,p6 a0 a1 a2 a3 a4 a5->b):b:=h.elim λa0 h=>h.elim λa1 h=>h.elim λa2 h=>h.elim λa3 h=>h.elim λa4 h=>h.elim λa5 h=>f a0 a1 a2 a3 a4 a5 h
theorem kq {α0:Sort _} {α1:Sort _} {α2:Sort _} {α3:Sort _} {α4:Sort _} {p5:α0->α1->α2->α3->α4->Prop} {b:Prop} (h:∃a0,∃a1,∃a2,∃a3,∃a4,p5 a0 a1 a2 a3 a4) (f:∀a0,∀a1,∀a2,∀a3,∀a4,p5 a0 a1 a2 a3 a4->b):b:=h.elim λa0 h=>h.elim λa1 h=>h.elim λa2 h=>h.elim λa3 h=>h.elim λa4 h=>f a0 a1 a2 a3 a4 h
theorem bG {α0:Sort _} {α1:Sort _} {α2:Sort _} {α3:Sort _} {p4:α0->α1->α2->α3->Prop} {b:Prop} (h:∃a0,∃a1,∃a2,∃a3,p4 a0 a1 a2 a3) (f:∀a0,∀a1,∀a2,∀a3,p4 a0 a1 a2 a3->b):b:=h.elim λa0 h=>h.elim λa1 h=>h.elim λa2 h=>h.elim λa3 h=>f a0 a1 a2 a3 h
theorem wK {α0:Sort _} {α1:Sort _} {α2:Sort _} {β3:Sort _} {l3:α0->α1->α2->β3} {r3:α0->α1->α2->β3} {p6:α0->α1->α2->Prop} {p7:α0->α1->α2->Prop} {α3:Sort _} {p9:α0->α1->α2->α3->Prop} {QD:α0->α1->α2->α3->Prop} {Wa:α0->α1->α2->α3->Prop} {b:Prop} (h:∃a0,∃a1,∃a2,(l3 a0 a1 a2=r3 a0 a1 a2)/\p6 a0 a1 a2/\p7 a0 a1 a2/\∃a3,p9 a0 a1 a2 a3/\QD a0 a1 a2 a3/\Wa a0 a1 a2 a3) (f:∀a0,∀a1,∀a2,r3 a0 a1 a2=l3 a0 a1 a2->p6 a0 a1 a2->p7 a0 a1 a2->∀a3,p9 a0 a1 a2 a3->QD a0 a1 a2 a3->Wa a0 a1 a2 a3->b):b:=h.elim λa0 h=>h.elim λa1 h=>h.elim λa2 h=>h.elim λh3 h=>h.elim λh6 h=>h.elim λh7 h=>h.elim λa3 h=>h.elim λh9 h=>h.elim λM8 h=>f a0 a1 a2 h3.symm h6 h7 a3 h9 M8 h
theorem bj {α0:Sort _} {α1:Sort _} {α2:Sort _} {p3:α0->α1->α2->Prop} {b:Prop} (h:∃a0,∃a1,∃a2,p3 a0 a1 a2) (f:∀a0,∀a1,∀a2,p3 a0 a1 a2->b):b:=h.elim λa0 h=>h.elim λa1 h=>h.elim λa2 h=>f a0 a1 a2 h
theorem IC {α0:Sort _} {α1:Sort _} {β2:Sort _} {l2:α0->α1->β2} {r2:α0->α1->β2} {p5:α0->α1->Prop} {p6:α0->α1->Prop} {p7:α0->α1->Prop} {b:Prop} (h:∃a0,∃a1,(l2 a0 a1=r2 a0 a1)/\p5 a0 a1/\p6 a0 a1/\p7 a0 a1) (f:∀a0,∀a1,r2 a0 a1=l2 a0 a1->p5 a0 a1->p6 a0 a1->p7 a0 a1->b):b:=h.elim λa0 h=>h.elim λa1 h=>h.elim λh2 h=>h.elim λh5 h=>h.elim λh6 h=>f a0 a1 h2.symm h5 h6 h
theorem cf {α0:Sort _} {α1:Sort _} {β2:Sort _} {l2:α0->α1->β2} {r2:α0->α1->β2} {p5:α0->α1->Prop} {p6:α0->α1->Prop} {b:Prop} (h:∃a0,∃a1,(l2 a0 a1=r2 a0 a1)/\p5 a0 a1/\p6 a0 a1) (f:∀a0,∀a1,r2 a0 a1=l2 a0 a1->p5 a0 a1->p6 a0 a1->b):b:=h.elim λa0 h=>h.elim λa1 h=>h.elim λh2 h=>h.elim λh5 h=>f a0 a1 h2.symm h5 h
theorem J1 {α0:Sort _} {α1:Sort _} {β2:Sort _} {l2:α0->α1->β2} {r2:α0->α1->β2} {p5:α0->α1->Prop} {b:Prop} (h:∃a0,∃a1,(l2 a0 a1=r2 a0 a1)/\p5 a0 a1) (f:∀a0,∀a1,r2 a0 a1=l2 a0 a1->p5 a0 a1->b):b:=h.elim λa0 h=>h.elim λa1 h=>h.elim λh2 h=>f a0 a1 h2.symm h
theorem aq {α0:Sort _} {α1:Sort _} {p2:α0->α1->Prop} {b:Prop} (h:∃a0,∃a1,p2 a0 a1) (f:∀a0,∀a1,p2 a0 a1->b):b:=h.elim λa0 h=>h.elim λa1 h=>f a0 a1 h
theorem O2 {α0:Sort _} {α1:Sort _} {β2:Sort _} {l2:α0->α1->β2} {r2:α0->α1->β2} {b:Prop} (h:∃a0,∃a1,l2 a0 a1=r2 a0 a1) (f:∀a0,∀a1,r2 a0 a1=l2 a0 a1->b):b:=h.elim λa0 h=>h.elim λa1 h=>f a0 a1 h.symm
theorem Dt {α0:Sort _} {β1:Sort _} {l1:α0->β1} {r1:α0->β1} {p4:α0->Prop} {p5:α0->Prop} {b:Prop} (h:∃a0,(l1 a0=r1 a0)/\p4 a0/\p5 a0) (f:∀a0,r1 a0=l1 a0->p4 a0->p5 a0->b):b:=h.elim λa0 h=>h.elim λh1 h=>h.elim λh4 h=>f a0 h1.symm h4 h
theorem bU {α0:Sort _} {β1:Sort _} {l1:α0->β1} {r1:α0->β1} {p4:α0->Prop} {b:Prop} (h:∃a0,(l1 a0=r1 a0)/\p4 a0) (f:∀a0,r1 a0=l1 a0->p4 a0->b):b:=h.elim λa0 h=>h.elim λh1 h=>f a0 h1.symm h
theorem ug {α0:Sort _} {p1:α0->Prop} {b:Prop} (h:∃a0,p1 a0) (f:∀a0,p1 a0->b):b:=h.elim λa0 h=>f a0 h
theorem wW {α0:Sort _} {β1:Sort _} {l1:α0->β1} {r1:α0->β1} {b:Prop} (h:∃a0,l1 a0=r1 a0) (f:∀a0,r1 a0=l1 a0->b):b:=h.elim λa0 h=>f a0 h.symm
theorem OJ {β0:Sort _} {l0:β0} {r0:β0} {p3:Prop} {p4:Prop} {b:Prop} (h:(l0=r0)/\p3/\p4) (f:r0=l0->p3->p4->b):b:=h.elim λh0 h=>h.elim λh3 h=>f h0.symm h3 h
theorem Kk {β0:Sort _} {l0:β0} {r0:β0} {α0:Sort _} {β4:Sort _} {l4:α0->β4} {r4:α0->β4} {p7:α0->Prop} {p8:α0->Prop} {b:Prop} (h:(l0=r0)/\∃a0,(l4 a0=r4 a0)/\p7 a0/\p8 a0) (f:r0=l0->∀a0,r4 a0=l4 a0->p7 a0->p8 a0->b):b:=h.elim λh0 h=>h.elim λa0 h=>h.elim λh4 h=>h.elim λh7 h=>f h0.symm a0 h4.symm h7 h
theorem bI {α0:Sort _} {α1:Sort _} {p:α0->α1->Prop} (a0:α0) (a1:α1) (h:p a0 a1):∃a0,∃a1,p a0 a1:=⟨a0,a1,h⟩
theorem c9 {α0:Sort _} {α1:Sort _} {α2:Sort _} {p:α0->α1->α2->Prop} (a0:α0) (a1:α1) (a2:α2) (h:p a0 a1 a2):∃a0,∃a1,∃a2,p a0 a1 a2:=⟨a0,a1,a2,h⟩
theorem j8 {α0:Sort _} {α1:Sort _} {α2:Sort _} {α3:Sort _} {p:α0->α1->α2->α3->Prop} (a0:α0) (a1:α1) (a2:α2) (a3:α3) (h:p a0 a1 a2 a3):∃a0,∃a1,∃a2,∃a3,p a0 a1 a2 a3:=⟨a0,a1,a2,a3,h⟩
theorem pH {α0:Sort _} {α1:Sort _} {α2:Sort _} {α3:Sort _} {α4:Sort _} {p:α0->α1->α2->α3->α4->Prop} (a0:α0) (a1:α1) (a2:α2) (a3:α3) (a4:α4) (h:p a0 a1 a2 a3 a4):∃a0,∃a1,∃a2,∃a3,∃a4,p a0 a1 a2 a3 a4:=⟨a0,a1,a2,a3,a4,h⟩
theorem Az {α0:Sort _} {α1:Sort _} {α2:Sort _} {α3:Sort _} {α4:Sort _} {α5:Sort _} {p:α0->α1->α2->α3->α4->α5->Prop} (a0:α0) (a1:α1) (a2:α2) (a3:α3) (a4:α4) (a5:α5) (h:p a0 a1 a2 a3 a4 a5):∃a0,∃a1,∃a2,∃a3,∃a4,∃a5,p a0 a1 a2 a3 a4 a5:=⟨a0,a1,a2,a3,a4,a5,h⟩
theorem uS {α0:Sort _} {α1:Sort _} {α2:Sort _} {α3:Sort _} {α4:Sort _} {α5:Sort _} {α6:Sort _} {p:α0->α1->α2->α3->α4->α5->α6->Prop} (a0:α0) (a1:α1) (a2:α2) (a3:α3) (a4:α4) (a5:α5) (a6:α6) (h:p a0 a1 a2 a3 a4 a5 a6):∃a0,∃a1,∃a2,∃a3,∃a4,∃a5,∃a6,p a0 a1 a2 a3 a4 a5 a6:=⟨a0,a1,a2,a3,a4,a5,a6,h⟩
set_option genInjectivity true in
inductive AV where
 | unset | none
 | bool (b:Bool)
 | int (i:Int)
 | str (s:String)
 | bytes (b:List UInt8)
 | tup (xs:List AV)
 | ref (a:Nat)
inductive AO where
 | no (xs:List AV)
 | list (xs:List AV)
 | dict (es:List (AV × AV))
 | inst (c:String) (fs:List (String × AV))
structure HP where
 n:Nat
 g:Nat->AO
 t:Nat->Nat
noncomputable def HP.set (H:HP) (a:Nat) (o:AO):HP:=⟨H.n,λb=>bif Nat.beq b a then o else H.g b,λb=>bif Nat.beq b a then H.t b+1 else H.t b⟩
noncomputable def HP.push (H:HP) (o:AO):HP:=⟨H.n+1,λb=>bif Nat.beq b H.n then o else H.g b,H.t⟩
noncomputable abbrev Loc:=String->AV
noncomputable def Loc.upd (loc:Loc) (x:String) (v:AV):Loc:=λy=>bif y==x then v else loc y
noncomputable def Loc.new:Loc:=λzz=>.unset
inductive IK where
 | plain | aE | rev
inductive Tg where
 | nm (x:String)
 | tup (xs:List String)
inductive xo where
 | add | sub | mul | fdiv | mod
inductive k8 where
 | eq | ne | lt | le | gt | isIn | cK
inductive Fl where
 | next | brk | cont
 | ret (v:AV)
mutual
noncomputable def iY:AV->AV->Bool
 | .unset,b=>match b with | .unset=>true | _=>false
 | .none,b=>match b with | .none=>true | _=>false
 | .bool i,b=>match b with | .bool j=>i==j | _=>false
 | .int i,b=>match b with | .int j=>decide (i=j) | _=>false
 | .str i,b=>match b with | .str j=>decide (i=j) | _=>false
 | .bytes i,b=>match b with | .bytes j=>decide (i=j) | _=>false
 | .tup xs,b=>match b with | .tup ys=>Hz xs ys | _=>false
 | .ref i,b=>match b with | .ref j=>Nat.beq i j | _=>false
noncomputable def Hz:List AV->List AV->Bool
 | [],b=>match b with | []=>true | _::_=>false
 | x::xs,b=>match b with | y::ys=>iY x y&&Hz xs ys | []=>false
end
mutual
noncomputable def AV.plain:AV->Nat->Bool
 | .none,_ | .int _,_ | .str _,_ | .bytes _,_=>true
 | .tup xs,n=>match n with
  | n+1=>AV.d9 xs n
  | 0=>false
 | .unset,_ | .bool _,_ | .ref _,_=>false
noncomputable def AV.d9:List AV->Nat->Bool
 | [],_=>true
 | v::r,n=>v.plain n&&AV.d9 r n
end
noncomputable def eH:Nat:=60
noncomputable def lim:Nat:=1000000
noncomputable def getD (k:AV):List (AV × AV)->Option AV
 | []=>.none
 | e::r=>bif iY e.1 k then some e.2 else getD k r
noncomputable def bT (k v:AV):List (AV × AV)->List (AV × AV)
 | []=>[(k,v)]
 | e::r=>bif iY e.1 k then (e.1,v)::r else e::bT k v r
noncomputable def vo (k:AV):List (AV × AV)->List (AV × AV)
 | []=>[]
 | e::r=>bif iY e.1 k then r else e::vo k r
noncomputable def uc (n:String):List (String × AV)->Option AV
 | []=>.none
 | (m,v)::r=>bif m==n then some v else uc n r
noncomputable def wq (n:String) (v:AV):List (String × AV)->List (String × AV)
 | []=>[(n,v)]
 | (m,w)::r=>bif m==n then (m,v)::r else (m,w)::wq n v r
noncomputable def AV.isNone:AV->Bool
 | .none=>true
 | _=>false
noncomputable def AV.qd:AV->Bool
 | .int _=>true
 | _=>false
noncomputable def AV.pR:AV->Bool
 | .str _=>true
 | _=>false
noncomputable def kk:AV->Nat
 | .str _=>1
 | .int _=>2
 | .tup xs=>bif xs.all AV.qd then 3 else 0
 | _=>0
noncomputable def bB (k:AV) (es:List (AV × AV)):Prop:=kk k≠0/\∀e∈es,kk e.1=kk k
noncomputable def sC (ks:List AV):Prop:=∀a∈ks,kk a≠0/\∀b∈ks,kk b=kk a
noncomputable abbrev KV:=AV->HP->Prop
noncomputable abbrev KL:=List AV->HP->Prop
noncomputable abbrev KB:=Bool->HP->Prop
noncomputable abbrev KS:=Fl->Loc->HP->Prop
noncomputable abbrev PX:=Loc->HP->KV->Prop
noncomputable abbrev RX:=Loc->HP->KL->Prop
noncomputable abbrev PC:=Loc->HP->KB->Prop
noncomputable abbrev PS:=Loc->HP->KS->Prop
structure ob (o:AO) (F:AO->Prop):Prop where mk::
 run:F o
noncomputable def qc (b:Bool) (F:Bool->Prop):Prop:=match b with
 | true=>F true
 | false=>F false
noncomputable def opt {α:Type} (o:Option α) (F:α->Prop):Prop:=match o with
 | some v=>F v
 | .none=>False
noncomputable def gd (b:Bool) (P:Prop):Prop:=match b with
 | true=>P
 | false=>False
structure nw (o:AO) (H:HP) (Q:KV):Prop where mk::
 run:Q (.ref H.n) (H.push o)
structure upd (a:Nat) (o:AO) (H:HP) (F:HP->Prop):Prop where mk::
 run:F (H.set a o)
noncomputable def jE (v:AV) (F:Int->Prop):Prop:=match v with
 | .int i=>F i
 | _=>False
noncomputable def SW (v:AV) (F:String->Prop):Prop:=match v with
 | .str i=>F i
 | _=>False
noncomputable def UY (v:AV) (F:List AV->Prop):Prop:=match v with
 | .tup i=>F i
 | _=>False
noncomputable def uo (v:AV) (F:Nat->Prop):Prop:=match v with
 | .ref i=>F i
 | _=>False
noncomputable def y9 (o:AO) (F:List AV->Prop):Prop:=match o with
 | .list xs=>F xs
 | _=>False
noncomputable def Uv (o:AO) (F:List (AV × AV)->Prop):Prop:=match o with
 | .dict xs=>F xs
 | _=>False
noncomputable def TA (o:AO) (F:String->List (String × AV)->Prop):Prop:=match o with
 | .inst c xs=>F c xs
 | _=>False
noncomputable def a1 (vs:List AV) (F:AV->Prop):Prop:=match vs with
 | v::r=>(match r with
  | []=>F v
  | _::_=>False)
 | []=>False
noncomputable def a2 (vs:List AV) (F:AV->AV->Prop):Prop:=match vs with
 | v::r=>a1 r (F v)
 | []=>False
noncomputable def qt:Int->Bool
 | .ofNat _=>true
 | .negSucc _=>false
noncomputable def Nw:Int->Bool
 | .ofNat n=>Nat.ble n lim
 | .negSucc _=>false
noncomputable def KQ (vs:List AV) (P:Prop):Prop:=gd (Nat.ble vs.length lim) P
noncomputable def DP (v:AV) (H:HP) (Q:KV):Prop:=match v with
 | .unset=>False
 | .none=>Q .none H
 | .bool b=>Q (.bool b) H
 | .int i=>Q (.int i) H
 | .str s=>Q (.str s) H
 | .bytes b=>Q (.bytes b) H
 | .tup xs=>Q (.tup xs) H
 | .ref a=>Q (.ref a) H
noncomputable def kB (Q:KB) (H:HP) (t:Bool):Prop:=Q t H
noncomputable def UJ (H:HP) (Q:KB) (o:AO):Prop:=y9 o λxs=>qc (!xs.isEmpty) (kB Q H)
noncomputable def cR (v:AV) (H:HP) (Q:KB):Prop:=match v with
 | .none=>Q false H
 | .bool b=>qc b (kB Q H)
 | .ref a=>ob (H.g a) (UJ H Q)
 | _=>False
noncomputable def U2 (xs:List AV) (H:HP) (Q:KV) (o:AO):Prop:=y9 o λys=>xs.length+ys.length<=lim/\nw (.list (xs++ys)) H Q
noncomputable def UC (b:AV) (H:HP) (Q:KV) (o:AO):Prop:=y9 o λxs=>uo b λy=>ob (H.g y) (U2 xs H Q)
noncomputable def T2 (a b:AV) (H:HP) (Q:KV):Prop:=match a with
 | .int i=>jE b λj=>Q (.int (i+j)) H
 | .tup xs=>UY b λys=>xs.length+ys.length<=lim/\Q (.tup (xs++ys)) H
 | .ref x=>ob (H.g x) (UC b H Q)
 | _=>False
noncomputable def big (i:Int):Prop:= -1000000000 < i/\i < 1000000000
noncomputable def Qf (o:xo) (a b:AV) (H:HP) (Q:KV):Prop:=match o with
 | .add=>T2 a b H Q
 | .sub=>jE a λi=>jE b λj=>Q (.int (i - j)) H
 | .mul=>jE a λi=>jE b λj=>(big j\/big i)/\Q (.int (i*j)) H
 | .fdiv=>jE a λi=>jE b λj=>(0 < j/\j < 1000000)/\Q (.int (i.fdiv j)) H
 | .mod=>jE a λi=>jE b λj=>0 < j/\Q (.int (i.fmod j)) H
noncomputable def eq4 (xs ys:List AV) (Q:Bool->Prop):Prop:=((xs=ys/\AV.d9 xs eH=true)/\Q true)\/(xs.length≠ys.length/\Q false)
noncomputable def eq3 (xs:List AV) (Q:Bool->Prop) (o:AO):Prop:=y9 o λys=>eq4 xs ys Q
noncomputable def eq1 (b:AV) (H:HP) (Q:Bool->Prop) (o:AO):Prop:=y9 o λxs=>uo b λy=>ob (H.g y) (eq3 xs Q)
noncomputable def ML (a b:AV) (H:HP) (Q:Bool->Prop):Prop:=match a with
 | .int i=>jE b λj=>qc (decide (i=j)) Q
 | .str s=>SW b λt=>qc (decide (s=t)) Q
 | .tup xs=>UY b λys=>(xs=ys/\AV.d9 xs eH=true)/\Q true
 | .ref x=>ob (H.g x) (eq1 b H Q)
 | _=>False
noncomputable def in1 (k:AV) (Q:Bool->Prop) (o:AO):Prop:=Uv o λes=>bB k es/\qc (getD k es).isSome Q
noncomputable def U9 (k d:AV) (H:HP) (Q:Bool->Prop):Prop:=match d with
 | .ref a=>ob (H.g a) (in1 k Q)
 | .tup xs=>gd (k.pR&&xs.all AV.pR) (qc (xs.any (iY k)) Q)
 | _=>False
noncomputable def kN (Q:Bool->Prop) (t:Bool):Prop:=Q (!t)
noncomputable def Lq (o:k8) (a b:AV) (H:HP) (Q:Bool->Prop):Prop:=match o with
 | .eq=>ML a b H Q
 | .ne=>ML a b H (kN Q)
 | .isIn=>U9 a b H Q
 | .cK=>U9 a b H (kN Q)
 | .lt=>jE a λi=>jE b λj=>qc (decide (i < j)) Q
 | .le=>jE a λi=>jE b λj=>qc (decide (i<=j)) Q
 | .gt=>jE a λi=>jE b λj=>qc (decide (j < i)) Q
noncomputable def UQ (n:String) (Q:AV->Prop) (o:AO):Prop:=TA o λzz fs=>opt (uc n fs) Q
noncomputable def NM (v:AV) (n:String) (H:HP) (Q:AV->Prop):Prop:=uo v λa=>ob (H.g a) (UQ n Q)
noncomputable def SS:Int->Bool
 | .ofNat n=>Nat.blt n 1000000
 | .negSucc _=>false
noncomputable def GB (i:AV) (Q:AV->Prop) (o:AO):Prop:=match o with
 | .list xs=>jE i λk=>gd (qt k) (opt xs[k.toNat]? Q)
 | .dict es=>bB i es/\opt (getD i es) Q
 | _=>False
noncomputable def Oq (v i:AV) (H:HP) (Q:AV->Prop):Prop:=match v with
 | .tup xs=>jE i λk=>gd (SS k) (opt xs[k.toNat]? Q)
 | .ref a=>ob (H.g a) (GB i Q)
 | _=>False
noncomputable def Oi (k:Int) (H:HP) (Q:KV) (o:AO):Prop:=match o with
 | .list xs=>gd (qt k) (nw (.list (xs.take k.toNat)) H Q)
 | .no xs=>gd (qt k) (nw (.list (xs.take k.toNat)) H Q)
 | _=>False
noncomputable def Qa (v n:AV) (H:HP) (Q:KV):Prop:=uo v λa=>jE n λk=>ob (H.g a) (Oi k H Q)
noncomputable def OB (k:Int) (H:HP) (Q:KV) (o:AO):Prop:=y9 o λxs=>gd (qt k) (nw (.list (xs.drop k.toNat)) H Q)
noncomputable def Oz (v n:AV) (H:HP) (Q:KV):Prop:=uo v λa=>jE n λk=>ob (H.g a) (OB k H Q)
noncomputable def xT (c d:String):Bool:=c==d||(c=="Shelf"&&d=="Lookup")||(c=="TreeFault"&&d=="PaperError")
noncomputable def Ox (c:String) (Q:Bool->Prop) (o:AO):Prop:=match o with
 | .list _=>Q (c=="list")
 | .dict _=>Q (c=="dict")
 | .inst d _=>Q (xT d c)
 | .no _=>False
noncomputable def Dy (v:AV) (c:String) (H:HP) (Q:Bool->Prop):Prop:=match v with
 | .none | .str _ | .bytes _ | .tup _=>Q false
 | .bool _=>Q (c=="bool"||c=="int")
 | .int _=>Q (c=="int")
 | .ref a=>ob (H.g a) (Ox c Q)
 | .unset=>False
noncomputable def qg (a b:AV):Bool:=match a with
 | .int i=>(match b with | .int j=>decide (i < j) | _=>false)
 | .str s=>(match b with | .str t=>decide (s.toList.map Char.toNat < t.toList.map Char.toNat) | _=>false)
 | _=>false
noncomputable def xB (x:AV):List AV->List AV
 | []=>[x]
 | y::r=>bif qg y x then y::xB x r else x::y::r
noncomputable def bt:List AV->List AV
 | []=>[]
 | x::r=>xB x (bt r)
noncomputable def uJ (xs:List AV) (H:HP) (Q:KV):Prop:=(xs.all AV.qd=true\/xs.all AV.pR=true)/\xs.length < 64/\nw (.list (bt xs)) H Q
noncomputable def Mr (v:AV):Option (AV × AV):=match v with
 | .tup xs=>(match xs with
  | [k,u]=>some (k,u)
  | _=>.none)
 | _=>.none
noncomputable def dG:List AV->Option (List (AV × AV))
 | []=>some []
 | v::r=>(Mr v).bind λp=>(dG r).map (p::·)
noncomputable def cW (ps:List (AV × AV)):List (AV × AV):=ps.foldl (λes p=>bT p.1 p.2 es) []
noncomputable def aN (a b:Int):List AV:=(List.range (b - a).toNat).map λ(i:Nat)=>AV.int (a+(i:Int))
noncomputable abbrev PP:=AV->HP->KV->Prop
noncomputable def TO (H:HP) (Q:KV) (o:AO):Prop:=match o with
 | .list xs=>Q (.int xs.length) H
 | .dict es=>Q (.int es.length) H
 | _=>False
noncomputable def QI:PP:=λv H Q=>match v with
 | .tup xs=>xs.length<=lim/\Q (.int xs.length) H
 | .ref a=>ob (H.g a) (TO H Q)
 | _=>False
noncomputable def Nu:PP:=λv H Q=>jE v λi=>Q (.int i.natAbs) H
noncomputable def IR (H:HP) (Q:KV) (o:AO):Prop:=match o with
 | .list xs=>uJ xs H Q
 | .dict es=>uJ (es.map (·.1)) H Q
 | _=>False
noncomputable def jQ:PP:=λv H Q=>uo v λa=>ob (H.g a) (IR H Q)
noncomputable def Lg (H:HP) (Q:KV) (o:AO):Prop:=y9 o λxs=>Q (.tup xs) H
noncomputable def D5:PP:=λv H Q=>uo v λa=>ob (H.g a) (Lg H Q)
noncomputable def PV (H:HP) (Q:KV) (o:AO):Prop:=y9 o λxs=>nw (.list xs) H Q
noncomputable def JH:PP:=λv H Q=>uo v λa=>ob (H.g a) (PV H Q)
noncomputable def Qs (H:HP) (Q:KV) (o:AO):Prop:=match o with
 | .list xs=>opt (dG xs) λps=>sC (ps.map (·.1))/\nw (.dict (cW ps)) H Q
 | .dict es=>(∀e∈es,kk e.1=1)/\nw (.dict es) H Q
 | _=>False
noncomputable def vP:PP:=λv H Q=>uo v λa=>ob (H.g a) (Qs H Q)
noncomputable def E9:PP:=λv H Q=>match v with
 | .bytes b=>Q (.bytes b) H
 | _=>False
noncomputable def QP (u v:AV) (H:HP) (Q:KV):Prop:=jE u λi=>jE v λj=>Q (.int (if j < i then j else i)) H
noncomputable def Ps (u v:AV) (H:HP) (Q:KV):Prop:=jE u λi=>jE v λj=>Q (.int (if j > i then j else i)) H
noncomputable def yk (u v:AV) (H:HP) (Q:KV):Prop:=jE u λa=>jE v λb=>(0<=a/\a<=b/\b<=lim)/\nw (.list (aN a b)) H Q
noncomputable def PJ:List (String × PP):=[("len",QI),("abs",Nu),("sorted",jQ),("tuple",D5),("list",JH),("dict",vP),("bytes",E9)]
noncomputable def Lf:List (String × (AV->PP)):=[("min",QP),("max",Ps),("listrange",yk)]
noncomputable abbrev aj:=String->List AV->HP->KV->Prop
noncomputable def Ka (Γ:aj) (p:String) (vs:List AV) (H:HP) (Q:KV):Prop:=match PJ.lookup p with
 | some f=>a1 vs λv=>f v H Q
 | .none=>(match Lf.lookup p with
  | some f=>a2 vs λu v=>f u v H Q
  | .none=>Γ p vs H Q)
noncomputable def aa:List ((String × String) × String):=[
 (("Reference","pair"),"Reference.pair"),
 (("Shelf","fetch"),"Lookup.fetch"),(("Shelf","get"),"Lookup.get"),
 (("Shelf","put"),"Shelf.put"),(("Shelf","add"),"Shelf.add"),(("Shelf","numbers"),"Shelf.numbers"),(("Shelf","root"),"Shelf.root"),(("Shelf","told"),"Shelf.told"),
 (("Collector","reserve"),"Collector.reserve"),(("Collector","take_needed"),"Collector.take_needed"),(("Collector","lay"),"Collector.lay")]
noncomputable def Fi:List (String × String):=[("Name","Name.__init__"),("Stream","Stream.__init__"),("Reference","Reference.__init__"),("Shelf","Lookup.__init__"),
 ("Page","Page.__init__"),("Spot","Spot.__init__"),("Collector","Collector.__init__")]
noncomputable def UD (a:Nat) (xs:List AV) (H:HP) (Q:KV) (o:AO):Prop:=y9 o λys=>xs.length+ys.length<=lim/\upd a (.list (xs++ys)) H (Q .none)
noncomputable def Vb (a:Nat) (xs:List AV) (H:HP) (Q:KV) (o:AO):Prop:=y9 o λys=>xs.length+ys.length<=lim/\upd a (.list (xs++ys.reverse)) H (Q .none)
noncomputable def Zk (a:Nat) (m:String) (vs:List AV) (H:HP) (Q:KV) (o:AO):Prop:=y9 o λxs=>match m with
 | "append"=>a1 vs λv=>xs.length < lim/\upd a (.list (xs++[v])) H (Q .none)
 | "extend"=>a1 vs λv=>uo v λb=>a≠b/\ob (H.g b) (UD a xs H Q)
 | "pop"=>(match vs with
  | []=>opt xs.getLast? λv=>upd a (.list xs.dropLast) H (Q v)
  | _::_=>False)
 | _=>False
noncomputable def C8 (o:Option AV) (d:AV) (F:AV->Prop):Prop:=match o with
 | some v=>F v
 | .none=>F d
noncomputable def kU (Q:KV) (H:HP) (u:AV):Prop:=Q u H
noncomputable def ZL (a:Nat) (m:String) (vs:List AV) (H:HP) (Q:KV) (o:AO):Prop:=Uv o λes=>match m with
 | "get"=>(match vs with
  | k::r=>bB k es/\(match r with
   | []=>C8 (getD k es) .none (kU Q H)
   | d::r=>(match r with
    | []=>C8 (getD k es) d (kU Q H)
    | _::_=>False))
  | []=>False)
 | "pop"=>a1 vs λk=>SW k λs=>bB (.str s) es/\opt (getD (.str s) es) λv=>upd a (.dict (vo (.str s) es)) H (Q v)
 | _=>False
noncomputable def Gn (a:Nat) (m:String) (Q:KV) (vs:List AV) (H:HP):Prop:=ob (H.g a) (Zk a m vs H Q)
noncomputable def Lu (a:Nat) (m:String) (Q:KV) (vs:List AV) (H:HP):Prop:=ob (H.g a) (ZL a m vs H Q)
noncomputable def Vx (Γ:aj) (a:Nat) (q:String) (Q:KV) (vs:List AV) (H:HP):Prop:=Γ q (.ref a::vs) H Q
noncomputable def Ks (m:String) (P:Prop):Prop:=match m with
 | "append"=>P
 | "extend"=>P
 | "pop"=>P
 | _=>False
noncomputable def LN (m:String) (P:Prop):Prop:=match m with
 | "get"=>P
 | "pop"=>P
 | _=>False
noncomputable def Pm (Γ:aj) (as:RX) (m:String) (loc:Loc) (Q:KV) (H:HP) (a:Nat) (o:AO):Prop:=match o with
 | .list _=>Ks m (as loc H (Gn a m Q))
 | .dict _=>LN m (as loc H (Lu a m Q))
 | .inst c fs=>(match uc m fs with
  | some _=>False
  | .none=>opt (aa.lookup (c,m)) λq=>as loc H (Vx Γ a q Q))
 | .no _=>False
noncomputable def QW (Γ:aj) (as:RX) (m:String) (loc:Loc) (Q:KV) (v:AV) (H:HP):Prop:=uo v λa=>ob (H.g a) (Pm Γ as m loc Q H a)
noncomputable def Zw (a b:Nat) (H:HP) (Q:KV) (o:AO):Prop:=y9 o λxs=>a≠b/\ob (H.g b) (Vb a xs H Q)
noncomputable def QV (a:Nat) (Q:KV) (u:AV) (H:HP):Prop:=uo u λb=>ob (H.g a) (Zw a b H Q)
noncomputable def XG (r:PX) (loc:Loc) (Q:KV) (H:HP) (a:Nat) (o:AO):Prop:=y9 o λzz=>r loc H (QV a Q)
noncomputable def Uh (r:PX) (loc:Loc) (Q:KV) (v:AV) (H:HP):Prop:=uo v λa=>ob (H.g a) (XG r loc Q H a)
noncomputable def VK (a:Nat) (Q:KV) (u:AV) (H:HP):Prop:=u= .none/\Q (.ref a) H
noncomputable def sE (Γ:aj) (c:String) (vs:List AV) (H:HP) (Q:KV):Prop:=opt (Fi.lookup c) λq=>Γ q (.ref H.n::vs) (H.push (.inst c [])) (VK H.n Q)
noncomputable def Ht:List (String × AV):=[("MOST_HOPS",.int 30),("INHERITED",.tup [.str "Resources",.str "MediaBox",.str "CropBox",.str "Rotate"]),("PLACES_OF_FILES",.tup [.str "Size",.str "Prev",.str "XRefStm"])]
inductive Src where
 | tup (xs:List AV) | obj (a:Nat) | rev (a:Nat) | Gm (n:Int)
noncomputable def ft:AO->Option (List AV)
 | .list xs=>some xs
 | .dict es=>bif es.all (λe=>kk e.1==1) then some (es.map (·.1)) else .none
 | _=>.none
noncomputable def mB:AO->Option (List AV)
 | .list xs=>some xs.reverse
 | _=>.none
noncomputable def Src.vals:Src->HP->Option (List AV)
 | .tup xs,_=>some xs
 | .obj a,H=>ft (H.g a)
 | .rev a,H=>mB (H.g a)
 | .Gm n,_=>some (aN 0 n)
noncomputable def jB (n:Nat):AO->Nat
 | .dict _=>n+1
 | _=>0
noncomputable def Src.gU:Src->HP->Nat
 | .obj a,H=>jB (H.t a) (H.g a)
 | _,_=>0
noncomputable def cy (z:Src) (all:List AV) (n:Nat) (H:HP):Prop:=z.vals H=some all/\z.gU H=n
noncomputable def L7 (ik:IK) (vs:List AV) (F:Src->Prop):Prop:=match ik with
 | .plain=>a1 vs λv=>(match v with
  | .tup xs=>F (.tup xs)
  | .ref a=>F (.obj a)
  | _=>False)
 | .rev=>a1 vs λv=>uo v λa=>F (.rev a)
 | .aE=>a1 vs λv=>jE v λn=>gd (Nw n) (F (.Gm n))
noncomputable def eu:List String->List AV->Loc->Option Loc
 | [],vs,loc=>(match vs with
  | []=>some loc
  | _::_=>.none)
 | x::xs,vs,loc=>(match vs with
  | v::vs=>eu xs vs (loc.upd x v)
  | []=>.none)
noncomputable def fT (tg:Tg) (v:AV) (loc:Loc):Option Loc:=match tg with
 | .nm x=>some (loc.upd x v)
 | .tup xs=>(match v with
   | .tup vs=>eu xs vs loc
   | _=>.none)
noncomputable abbrev PI:=HP->List AV->KL->Prop
noncomputable def Xq (src:HP->Prop) (r:PI) (acc:List AV) (Q:KL) (x:AV) (H:HP):Prop:=src H/\acc.length < lim/\r H (acc++[x]) Q
noncomputable def Zy (src:HP->Prop) (r:PI) (acc:List AV) (Q:KL) (H:HP):Prop:=src H/\r H acc Q
noncomputable def ZJ (elt:PX) (C:KV) (N:HP->Prop) (loc:Loc) (b:Bool) (H:HP):Prop:=match b with
 | true=>elt loc H C
 | false=>N H
noncomputable def Wi (elt:PX) (cs:PC) (C:KV) (N:HP->Prop) (H:HP) (loc:Loc):Prop:=cs loc H (ZJ elt C N loc)
noncomputable def i9 (elt:PX) (cs:PC) (tg:Tg) (src:HP->Prop) (loc:Loc):List AV->PI
 | [],H,acc,Q=>Q acc H
 | v::vs,H,acc,Q=>opt (fT tg v loc) (Wi elt cs (Xq src (i9 elt cs tg src loc vs) acc Q) (Zy src (i9 elt cs tg src loc vs) acc Q) H)
noncomputable def SC (src:HP->Prop) (r:PS) (Q:KS) (fl:Fl) (loc:Loc) (H:HP):Prop:=match fl with
 | .next=>src H/\r loc H Q
 | .cont=>src H/\r loc H Q
 | .brk=>Q .next loc H
 | .ret v=>Q (.ret v) loc H
noncomputable def M2 (body:PS) (H:HP) (Q:KS) (loc:Loc):Prop:=body loc H Q
noncomputable def lG (body:PS) (tg:Tg) (src:HP->Prop):List AV->PS
 | [],loc,H,Q=>Q .next loc H
 | v::vs,loc,H,Q=>opt (fT tg v loc) (M2 body H (SC src (lG body tg src vs) Q))
noncomputable def U5 (Q:KV) (vs:List AV) (H:HP):Prop:=KQ vs (Q (.tup vs) H)
noncomputable def q8 (Q:KV) (vs:List AV) (H:HP):Prop:=KQ vs (nw (.list vs) H Q)
noncomputable def C1 (ks:List String) (Q:KV) (vv:List AV) (H:HP):Prop:=nw (.dict (cW ((ks.map .str).zip vv))) H Q
noncomputable def P5 (o:xo) (v:AV) (Q:KV) (u:AV) (H:HP):Prop:=Qf o v u H Q
noncomputable def Us (b:PX) (o:xo) (loc:Loc) (Q:KV) (v:AV) (H:HP):Prop:=b loc H (P5 o v Q)
noncomputable def Oc (Q:KV) (H:HP) (t:Bool):Prop:=Q (.bool t) H
noncomputable def JN (o:k8) (v:AV) (Q:KV) (u:AV) (H:HP):Prop:=Lq o v u H (Oc Q H)
noncomputable def Tu (b:PX) (o:k8) (loc:Loc) (Q:KV) (v:AV) (H:HP):Prop:=b loc H (JN o v Q)
noncomputable def TS (c:PX) (o2:k8) (loc:Loc) (u:AV) (H:HP) (Q:KV) (t:Bool):Prop:=match t with
 | true=>c loc H (JN o2 u Q)
 | false=>Q (.bool false) H
noncomputable def T4 (c:PX) (o1 o2:k8) (loc:Loc) (v:AV) (Q:KV) (u:AV) (H:HP):Prop:=Lq o1 v u H (TS c o2 loc u H Q)
noncomputable def XA (b c:PX) (o1 o2:k8) (loc:Loc) (Q:KV) (v:AV) (H:HP):Prop:=b loc H (T4 c o1 o2 loc v Q)
noncomputable def kT (F:KB) (v:AV) (H:HP):Prop:=cR v H F
noncomputable def Ll (Q:KV) (t:Bool) (H:HP):Prop:=Q (.bool (!t)) H
noncomputable def Dm (b:PX) (loc:Loc) (Q:KV) (v:AV) (t:Bool) (H:HP):Prop:=match t with
 | true=>b loc H Q
 | false=>Q v H
noncomputable def Td (b:PX) (loc:Loc) (Q:KV) (v:AV) (H:HP):Prop:=cR v H (Dm b loc Q v)
noncomputable def Gb (b:PX) (loc:Loc) (Q:KV) (v:AV) (t:Bool) (H:HP):Prop:=match t with
 | true=>Q v H
 | false=>b loc H Q
noncomputable def R5 (b:PX) (loc:Loc) (Q:KV) (v:AV) (H:HP):Prop:=cR v H (Gb b loc Q v)
noncomputable def XP (b c:PX):PX:=λloc H Q=>b loc H (R5 c loc Q)
noncomputable def OC (a b:PX) (loc:Loc) (Q:KV) (t:Bool) (H:HP):Prop:=match t with
 | true=>a loc H Q
 | false=>b loc H Q
noncomputable def Vh (Q:KV) (v:AV) (H:HP):Prop:=qc v.isNone (Oc Q H)
noncomputable def TQ (Q:KV) (v:AV) (H:HP):Prop:=qc (!v.isNone) (Oc Q H)
noncomputable def U4 (n:String) (Q:KV) (v:AV) (H:HP):Prop:=NM v n H (kU Q H)
noncomputable def QR (v:AV) (Q:KV) (u:AV) (H:HP):Prop:=Oq v u H (kU Q H)
noncomputable def T9 (i:PX) (loc:Loc) (Q:KV) (v:AV) (H:HP):Prop:=i loc H (QR v Q)
noncomputable def Uj (v:AV) (Q:KV) (u:AV) (H:HP):Prop:=Qa v u H Q
noncomputable def Zu (i:PX) (loc:Loc) (Q:KV) (v:AV) (H:HP):Prop:=i loc H (Uj v Q)
noncomputable def TU (v:AV) (Q:KV) (u:AV) (H:HP):Prop:=Oz v u H Q
noncomputable def ZE (i:PX) (loc:Loc) (Q:KV) (v:AV) (H:HP):Prop:=i loc H (TU v Q)
noncomputable def NH (Γ:aj) (f:String) (Q:KV) (vs:List AV) (H:HP):Prop:=Γ f vs H Q
noncomputable def Ur (Γ:aj) (c:String) (Q:KV) (vs:List AV) (H:HP):Prop:=sE Γ c vs H Q
noncomputable def OZ (c:String) (Q:KV) (v:AV) (H:HP):Prop:=Dy v c H (Oc Q H)
noncomputable def JQ (Γ:aj) (p:String) (Q:KV) (vs:List AV) (H:HP):Prop:=Ka Γ p vs H Q
noncomputable def Y7 (v:AV) (Q:KL) (vs:List AV) (H:HP):Prop:=Q (v::vs) H
noncomputable def Fy (r:RX) (loc:Loc) (Q:KL) (v:AV) (H:HP):Prop:=r loc H (Y7 v Q)
noncomputable def QE (r:PC) (loc:Loc) (Q:KB) (b:Bool) (H:HP):Prop:=match b with
 | true=>r loc H Q
 | false=>Q false H
noncomputable def Lp (Q:KV) (xs:List AV) (H:HP):Prop:=nw (.list xs) H Q
noncomputable def Om (elt:PX) (tg:Tg) (ifs:PC) (loc:Loc) (Q:KV) (H:HP) (z:Src) (all:List AV):Prop:=i9 elt ifs tg (cy z all (z.gU H)) loc all H [] (Lp Q)
noncomputable def QO (elt:PX) (tg:Tg) (ifs:PC) (loc:Loc) (Q:KV) (H:HP) (z:Src):Prop:=opt (z.vals H) (Om elt tg ifs loc Q H z)
noncomputable def fb (elt:PX) (tg:Tg) (ik:IK) (ifs:PC) (loc:Loc) (Q:KV) (vs:List AV) (H:HP):Prop:=L7 ik vs (QO elt tg ifs loc Q H)
noncomputable def SE (loc:Loc) (Q:KS) (v:AV) (H:HP):Prop:=Q (.ret v) loc H
noncomputable def EC (loc:Loc) (Q:KS) (_:AV) (H:HP):Prop:=Q .next loc H
noncomputable def UM (x:String) (loc:Loc) (Q:KS) (v:AV) (H:HP):Prop:=Q .next (loc.upd x v) H
noncomputable def LM (Q:KS) (H:HP) (loc:Loc):Prop:=Q .next loc H
noncomputable def Oy (xs:List String) (loc:Loc) (Q:KS) (v:AV) (H:HP):Prop:=opt (fT (.tup xs) v loc) (LM Q H)
noncomputable def NZ (a:Nat) (n:String) (v:AV) (H:HP) (F:HP->Prop) (o:AO):Prop:=TA o λc fs=>gd (Nat.blt fs.length 100) (upd a (.inst c (wq n v fs)) H F)
noncomputable def TM (n:String) (v:AV) (loc:Loc) (Q:KS) (u:AV) (H:HP):Prop:=uo u λa=>ob (H.g a) (NZ a n v H (Q .next loc))
noncomputable def Y1 (o:PX) (n:String) (loc:Loc) (Q:KS) (v:AV) (H:HP):Prop:=o loc H (TM n v loc Q)
noncomputable def u6 (a:Nat) (k v:AV) (H:HP) (F:HP->Prop) (o:AO):Prop:=match o with
 | .dict es=>bB k es/\es.length < lim/\upd a (.dict (bT k v es)) H F
 | .list xs=>jE k λj=>gd (qt j) (j.toNat < xs.length/\upd a (.list (xs.set j.toNat v)) H F)
 | _=>False
noncomputable def Um (u v:AV) (loc:Loc) (Q:KS) (k:AV) (H:HP):Prop:=uo u λa=>ob (H.g a) (u6 a k v H (Q .next loc))
noncomputable def T8 (i:PX) (loc:Loc) (Q:KS) (v u:AV) (H:HP):Prop:=i loc H (Um u v loc Q)
noncomputable def YO (o i:PX) (loc:Loc) (Q:KS) (v:AV) (H:HP):Prop:=o loc H (T8 i loc Q v)
noncomputable def WP (a b:PS) (loc:Loc) (Q:KS) (t:Bool) (H:HP):Prop:=match t with
 | true=>a loc H Q
 | false=>b loc H Q
noncomputable def R7 (tg:Tg) (b:PS) (loc:Loc) (Q:KS) (H:HP) (z:Src) (all:List AV):Prop:=lG b tg (cy z all (z.gU H)) all loc H Q
noncomputable def Sd (tg:Tg) (b:PS) (loc:Loc) (Q:KS) (H:HP) (z:Src):Prop:=opt (z.vals H) (R7 tg b loc Q H z)
noncomputable def xJ (tg:Tg) (ik:IK) (b:PS) (loc:Loc) (Q:KS) (vs:List AV) (H:HP):Prop:=L7 ik vs (Sd tg b loc Q H)
noncomputable def NE (r:PS) (Q:KS) (fl:Fl) (loc:Loc) (H:HP):Prop:=match fl with
 | .next=>r loc H Q
 | .brk=>Q .brk loc H
 | .cont=>Q .cont loc H
 | .ret v=>Q (.ret v) loc H
noncomputable def Sg (J:Loc->HP->Prop) (Q:KS) (fl:Fl) (loc:Loc) (H:HP):Prop:=match fl with
 | .next=>J loc H
 | .cont=>J loc H
 | .brk=>Q .next loc H
 | .ret v=>Q (.ret v) loc H
noncomputable def Nr (b:PS) (C Q:KS) (loc:Loc) (t:Bool) (H:HP):Prop:=match t with
 | true=>b loc H C
 | false=>Q .next loc H
noncomputable def XJ (I:Nat->Loc->HP->Prop) (n:Nat) (loc:Loc) (H:HP):Prop:=∃m,m < n/\I m loc H
noncomputable def R3 (c:PX) (b:PS) (loc:Loc) (H:HP) (Q:KS):Prop:=∃(I:Nat->Loc->HP->Prop) (n:Nat),I n loc H/\∀n loc H,I n loc H->c loc H (kT (Nr b (Sg (XJ I n) Q) Q loc))
noncomputable def X:=aj->PX
noncomputable def XL:=aj->RX
noncomputable def S:=aj->PS
noncomputable def SL:=aj->PS
namespace X
noncomputable def none:X:=λzz zz H Q=>Q .none H
noncomputable def bool (b:Bool):X:=λzz zz H Q=>Q (.bool b) H
noncomputable def int (i:Int):X:=λzz zz H Q=>Q (.int i) H
noncomputable def neg (i:Int):X:=λzz zz H Q=>Q (.int (-i)) H
noncomputable def str (s:String):X:=λzz zz H Q=>Q (.str s) H
noncomputable def bytes (b:List UInt8):X:=λzz zz H Q=>Q (.bytes b) H
noncomputable def loc (x:String):X:=λzz loc H Q=>DP (loc x) H Q
noncomputable def glob (x:String):X:=λzz zz H Q=>opt (Ht.lookup x) (kU Q H)
noncomputable def tup (es:XL):X:=λΓ loc H Q=>es Γ loc H (U5 Q)
noncomputable def list (es:XL):X:=λΓ loc H Q=>es Γ loc H (q8 Q)
noncomputable def dict (ks:List String) (es:XL):X:=λΓ loc H Q=>es Γ loc H (C1 ks Q)
noncomputable def bin (o:xo) (a b:X):X:=λΓ loc H Q=>a Γ loc H (Us (b Γ) o loc Q)
noncomputable def cmp (o:k8) (a b:X):X:=λΓ loc H Q=>a Γ loc H (Tu (b Γ) o loc Q)
noncomputable def GX (o1 o2:k8) (a b c:X):X:=λΓ loc H Q=>a Γ loc H (XA (b Γ) (c Γ) o1 o2 loc Q)
noncomputable def not (a:X):X:=λΓ loc H Q=>a Γ loc H (kT (Ll Q))
noncomputable def and (a b:X):X:=λΓ loc H Q=>a Γ loc H (Td (b Γ) loc Q)
noncomputable def or (a b:X):X:=λΓ loc H Q=>a Γ loc H (R5 (b Γ) loc Q)
noncomputable def or3 (a b c:X):X:=λΓ loc H Q=>a Γ loc H (R5 (XP (b Γ) (c Γ)) loc Q)
noncomputable def ite (t a b:X):X:=λΓ loc H Q=>t Γ loc H (kT (OC (a Γ) (b Γ) loc Q))
noncomputable def isNone (a:X):X:=λΓ loc H Q=>a Γ loc H (Vh Q)
noncomputable def bL (a:X):X:=λΓ loc H Q=>a Γ loc H (TQ Q)
noncomputable def fld (e:X) (n:String):X:=λΓ loc H Q=>e Γ loc H (U4 n Q)
noncomputable def idx (e i:X):X:=λΓ loc H Q=>e Γ loc H (T9 (i Γ) loc Q)
noncomputable def yY (e i:X):X:=λΓ loc H Q=>e Γ loc H (Zu (i Γ) loc Q)
noncomputable def Aw (e i:X):X:=λΓ loc H Q=>e Γ loc H (ZE (i Γ) loc Q)
noncomputable def call (f:String) (es:XL):X:=λΓ loc H Q=>es Γ loc H (NH Γ f Q)
noncomputable def new (c:String) (es:XL):X:=λΓ loc H Q=>es Γ loc H (Ur Γ c Q)
noncomputable def ay (e:X) (m:String) (es:XL):X:=λΓ loc H Q=>e Γ loc H (QW Γ (es Γ) m loc Q)
noncomputable def yd (e r:X):X:=λΓ loc H Q=>e Γ loc H (Uh (r Γ) loc Q)
noncomputable def isin (e:X) (c:String):X:=λΓ loc H Q=>e Γ loc H (OZ c Q)
noncomputable def prim (p:String) (es:XL):X:=λΓ loc H Q=>es Γ loc H (JQ Γ p Q)
noncomputable def aC (elt:X) (tg:Tg) (ik:IK) (iV:XL) (ifs:aj->PC):X:=λΓ loc H Q=>iV Γ loc H (fb (elt Γ) tg ik (ifs Γ) loc Q)
noncomputable def yes:aj->PC:=λzz zz H Q=>Q true H
noncomputable def bM (c:X) (r:aj->PC):aj->PC:=λΓ loc H Q=>c Γ loc H (kT (QE (r Γ) loc Q))
end X
namespace XL
noncomputable def nil:XL:=λzz zz H Q=>Q [] H
noncomputable def cons (e:X) (r:XL):XL:=λΓ loc H Q=>e Γ loc H (Fy (r Γ) loc Q)
noncomputable def o (e:X):XL:=cons e nil
end XL
namespace S
noncomputable def set (x:String) (e:X):S:=λΓ loc H Q=>e Γ loc H (UM x loc Q)
noncomputable def dQ (o:X) (n:String) (e:X):S:=λΓ loc H Q=>e Γ loc H (Y1 (o Γ) n loc Q)
noncomputable def b3 (o i e:X):S:=λΓ loc H Q=>e Γ loc H (YO (o Γ) (i Γ) loc Q)
noncomputable def bR (xs:List String) (e:X):S:=λΓ loc H Q=>e Γ loc H (Oy xs loc Q)
noncomputable def expr (e:X):S:=λΓ loc H Q=>e Γ loc H (EC loc Q)
noncomputable def bA (c:X) (a b:SL):S:=λΓ loc H Q=>c Γ loc H (kT (WP (a Γ) (b Γ) loc Q))
noncomputable def iq (c:X) (b:SL):S:=λΓ loc H Q=>R3 (c Γ) (b Γ) loc H Q
noncomputable def bX (tg:Tg) (ik:IK) (iV:XL) (b:SL):S:=λΓ loc H Q=>iV Γ loc H (xJ tg ik (b Γ) loc Q)
noncomputable def ret (e:X):S:=λΓ loc H Q=>e Γ loc H (SE loc Q)
noncomputable def cont:S:=λzz loc H Q=>Q .cont loc H
noncomputable def brk:S:=λzz loc H Q=>Q .brk loc H
noncomputable def raise (_:String) (_:X):S:=λzz zz zz zz=>False
end S
namespace SL
noncomputable def nil:SL:=λzz loc H Q=>Q .next loc H
noncomputable def cons (s:S) (r:SL):SL:=λΓ loc H Q=>s Γ loc H (NE (r Γ) Q)
noncomputable def o (s:S):SL:=cons s nil
end SL
noncomputable def oy:SL:=(.o (.dQ (.loc "self") "text" (.loc "text")))
noncomputable def lI:SL:=(.cons (.dQ (.loc "self") "head" (.loc "head")) (.o (.dQ (.loc "self") "octets" (.loc "octets"))))
noncomputable def iW:SL:=(.cons (.dQ (.loc "self") "number" (.loc "number")) (.o (.dQ (.loc "self") "generation" (.loc "generation"))))
noncomputable def km:SL:=(.o (.ret (.tup (.cons (.fld (.loc "self") "number") (.o (.fld (.loc "self") "generation"))))))
noncomputable def yL:SL:=(.cons (.bA (.isNone (.loc "value")) (.o (.ret (.str "null"))) .nil) (.cons (.bA (.isin (.loc "value") "bool") (.o (.ret (.str "truth"))) .nil) (.cons (.bA (.isin (.loc "value") "int") (.o (.ret (.str "int"))) .nil) (.cons (.bA (.isin (.loc "value") "Decimal") (.o (.ret (.str "real"))) .nil) (.cons (.bA (.isin (.loc "value") "Name") (.o (.ret (.str "name"))) .nil) (.cons (.bA (.isin (.loc "value") "String") (.o (.ret (.str "string"))) .nil) (.cons (.bA (.isin (.loc "value") "list") (.o (.ret (.str "array"))) .nil) (.cons (.bA (.isin (.loc "value") "dict") (.o (.ret (.str "dict"))) .nil) (.cons (.bA (.isin (.loc "value") "Stream") (.o (.ret (.str "stream"))) .nil) (.cons (.bA (.isin (.loc "value") "Reference") (.o (.ret (.str "ref"))) .nil) (.o (.raise "PaperError" (.str "no object")))))))))))))
noncomputable def qy:SL:=(.cons (.bA (.cmp .eq (.loc "kind") (.str "null")) (.o (.ret (.tup (.o (.str "null"))))) .nil) (.cons (.bA (.cmp .eq (.loc "kind") (.str "truth")) (.o (.ret (.tup (.cons (.str "truth") (.o (.ite (.loc "value") (.int 1) (.int 0))))))) .nil) (.cons (.bA (.cmp .eq (.loc "kind") (.str "int")) (.o (.ret (.tup (.cons (.str "int") (.o (.loc "value")))))) .nil) (.cons (.bA (.cmp .eq (.loc "kind") (.str "real")) (.o (.ret (.tup (.cons (.str "real") (.cons (.fld (.loc "value") "top") (.o (.fld (.loc "value") "places"))))))) .nil) (.cons (.bA (.cmp .eq (.loc "kind") (.str "name")) (.o (.ret (.tup (.cons (.str "name") (.o (.fld (.loc "value") "text")))))) .nil) (.cons (.bA (.cmp .eq (.loc "kind") (.str "string")) (.o (.ret (.tup (.cons (.str "string") (.o (.prim "bytes" (.o (.fld (.loc "value") "octets")))))))) .nil) (.o (.ret (.tup (.cons (.str "ref") (.cons (.fld (.loc "value") "number") (.o (.fld (.loc "value") "generation")))))))))))))
noncomputable def HK:SL:=(.cons (.set "kind" (.call "kind_of" (.o (.loc "value")))) (.cons (.bA (.cmp .eq (.loc "kind") (.str "array")) (.o (.ret (.bin .add (.tup (.o (.str "array"))) (.prim "tuple" (.o (.aC (.call "told_objects" (.o (.loc "part"))) (.nm "part") .plain (.o (.loc "value")) X.yes)))))) .nil) (.cons (.bA (.cmp .eq (.loc "kind") (.str "dict")) (.o (.ret (.bin .add (.tup (.o (.str "dict"))) (.prim "tuple" (.o (.aC (.tup (.cons (.loc "key") (.o (.call "told_objects" (.o (.idx (.loc "value") (.loc "key"))))))) (.nm "key") .plain (.o (.prim "sorted" (.o (.loc "value")))) (X.bM (.bL (.idx (.loc "value") (.loc "key"))) X.yes))))))) .nil) (.cons (.bA (.cmp .eq (.loc "kind") (.str "stream")) (.o (.ret (.tup (.cons (.str "stream") (.cons (.call "told_objects" (.o (.fld (.loc "value") "head"))) (.o (.prim "bytes" (.o (.fld (.loc "value") "octets"))))))))) .nil) (.o (.ret (.call "told_plain" (.cons (.loc "kind") (.o (.loc "value"))))))))))
noncomputable def vn:SL:=(.cons (.set "kind" (.call "kind_of" (.o (.loc "value")))) (.cons (.bA (.cmp .eq (.loc "kind") (.str "array")) (.o (.ret (.prim "list" (.o (.loc "value"))))) .nil) (.cons (.bA (.cmp .eq (.loc "kind") (.str "dict")) (.o (.ret (.aC (.idx (.loc "value") (.loc "key")) (.nm "key") .plain (.o (.prim "sorted" (.o (.loc "value")))) X.yes))) .nil) (.cons (.bA (.cmp .eq (.loc "kind") (.str "stream")) (.o (.ret (.call "parts_of" (.o (.fld (.loc "value") "head"))))) .nil) (.o (.ret (.list .nil)))))))
noncomputable def lV:SL:=(.cons (.set "found" (.list .nil)) (.cons (.set "seen" (.dict [] .nil)) (.cons (.set "line" (.list (.o (.loc "value")))) (.cons (.iq (.loc "line") (.cons (.set "here" (.ay (.loc "line") "pop" .nil)) (.o (.bA (.isin (.loc "here") "Reference") (.o (.bA (.cmp .cK (.ay (.loc "here") "pair" .nil) (.loc "seen")) (.cons (.b3 (.loc "seen") (.ay (.loc "here") "pair" .nil) (.bool true)) (.o (.expr (.ay (.loc "found") "append" (.o (.ay (.loc "here") "pair" .nil)))))) .nil)) (.o (.expr (.yd (.loc "line") (.call "parts_of" (.o (.loc "here")))))))))) (.o (.ret (.loc "found")))))))
noncomputable def qz:SL:=(.cons (.set "kind" (.call "kind_of" (.o (.loc "value")))) (.cons (.bA (.cmp .eq (.loc "kind") (.str "ref")) (.cons (.bA (.cmp .cK (.ay (.loc "value") "pair" .nil) (.loc "table")) (.o (.ret .none)) .nil) (.cons (.bR ["number","generation"] (.idx (.loc "table") (.ay (.loc "value") "pair" .nil))) (.o (.ret (.new "Reference" (.cons (.loc "number") (.o (.loc "generation")))))))) .nil) (.cons (.bA (.cmp .eq (.loc "kind") (.str "array")) (.o (.ret (.aC (.call "renumbered" (.cons (.loc "part") (.o (.loc "table")))) (.nm "part") .plain (.o (.loc "value")) X.yes))) .nil) (.cons (.bA (.cmp .eq (.loc "kind") (.str "dict")) (.cons (.set "found" (.aC (.tup (.cons (.loc "key") (.o (.call "renumbered" (.cons (.idx (.loc "value") (.loc "key")) (.o (.loc "table"))))))) (.nm "key") .plain (.o (.loc "value")) X.yes)) (.o (.ret (.prim "dict" (.o (.aC (.loc "pair") (.nm "pair") .plain (.o (.loc "found")) (X.bM (.bL (.idx (.loc "pair") (.int 1))) X.yes))))))) .nil) (.cons (.bA (.cmp .eq (.loc "kind") (.str "stream")) (.o (.ret (.new "Stream" (.cons (.call "renumbered" (.cons (.fld (.loc "value") "head") (.o (.loc "table")))) (.o (.fld (.loc "value") "octets")))))) .nil) (.o (.ret (.loc "value"))))))))
noncomputable def gu:SL:=(.cons (.dQ (.loc "self") "table" (.ite (.isNone (.loc "table")) (.dict [] .nil) (.loc "table"))) (.o (.dQ (.loc "self") "trailer" (.ite (.isNone (.loc "trailer")) (.dict [] .nil) (.loc "trailer")))))
noncomputable def mT:SL:=(.cons (.set "here" (.loc "value")) (.cons (.bX (.nm "hop") .aE (.o (.glob "MOST_HOPS")) (.cons (.bA (.not (.isin (.loc "here") "Reference")) (.o (.ret (.loc "here"))) .nil) (.cons (.bR ["generation","found"] (.ay (.fld (.loc "self") "table") "get" (.cons (.fld (.loc "here") "number") (.o (.tup (.cons (.neg 1) (.o .none))))))) (.cons (.bA (.cmp .ne (.loc "generation") (.fld (.loc "here") "generation")) (.o (.ret .none)) .nil) (.o (.set "here" (.loc "found"))))))) (.o (.ret (.ite (.isin (.loc "here") "Reference") .none (.loc "here"))))))
noncomputable def qD:SL:=(.o (.ret (.ay (.loc "self") "fetch" (.o (.ay (.loc "head") "get" (.o (.loc "key")))))))
noncomputable def tR:SL:=(.o (.b3 (.fld (.loc "self") "table") (.loc "number") (.tup (.cons (.loc "generation") (.o (.loc "value"))))))
noncomputable def tY:SL:=(.cons (.set "number" (.int 1)) (.cons (.iq (.cmp .isIn (.loc "number") (.fld (.loc "self") "table")) (.o (.set "number" (.bin .add (.loc "number") (.int 1))))) (.cons (.b3 (.fld (.loc "self") "table") (.loc "number") (.tup (.cons (.int 0) (.o (.loc "value"))))) (.o (.ret (.new "Reference" (.cons (.loc "number") (.o (.int 0)))))))))
noncomputable def lP:SL:=(.o (.ret (.prim "sorted" (.o (.fld (.loc "self") "table")))))
noncomputable def qF:SL:=(.cons (.set "found" (.ay (.loc "self") "get" (.cons (.fld (.loc "self") "trailer") (.o (.str "Root"))))) (.o (.ret (.ite (.isin (.loc "found") "dict") (.loc "found") (.dict [] .nil)))))
noncomputable def qG:SL:=(.cons (.set "rows" (.prim "tuple" (.o (.aC (.tup (.cons (.loc "number") (.cons (.idx (.idx (.fld (.loc "self") "table") (.loc "number")) (.int 0)) (.o (.call "told_objects" (.o (.idx (.idx (.fld (.loc "self") "table") (.loc "number")) (.int 1)))))))) (.nm "number") .plain (.o (.ay (.loc "self") "numbers" .nil)) X.yes)))) (.o (.ret (.tup (.cons (.loc "rows") (.o (.call "told_objects" (.o (.fld (.loc "self") "trailer")))))))))
noncomputable def pT:SL:=(.cons (.dQ (.loc "self") "reference" (.loc "reference")) (.o (.dQ (.loc "self") "fields" (.loc "fields"))))
noncomputable def oh:SL:=(.cons (.dQ (.loc "self") "reference" (.loc "reference")) (.cons (.dQ (.loc "self") "head" (.loc "head")) (.cons (.dQ (.loc "self") "above" (.loc "above")) (.cons (.dQ (.loc "self") "inherited" (.loc "inherited")) (.o (.dQ (.loc "self") "is_page" (.loc "is_page")))))))
noncomputable def xL:SL:=(.cons (.set "here" (.loc "value")) (.cons (.set "seen" (.dict [] .nil)) (.cons (.iq (.and (.isin (.loc "here") "Reference") (.cmp .cK (.fld (.loc "here") "number") (.loc "seen"))) (.cons (.b3 (.loc "seen") (.fld (.loc "here") "number") (.bool true)) (.cons (.bR ["generation","found"] (.ay (.fld (.loc "shelf") "table") "get" (.cons (.fld (.loc "here") "number") (.o (.tup (.cons (.neg 1) (.o .none))))))) (.cons (.bA (.cmp .ne (.loc "generation") (.fld (.loc "here") "generation")) (.o .brk) .nil) (.cons (.bA (.not (.isin (.loc "found") "Reference")) (.o (.ret (.loc "here"))) .nil) (.o (.set "here" (.loc "found")))))))) (.o (.raise "TreeFault" (.str "a node of the pages is missing"))))))
noncomputable def xm:SL:=(.cons (.set "kind" (.ay (.loc "shelf") "get" (.cons (.loc "head") (.o (.str "Type"))))) (.cons (.bA (.and (.isin (.loc "kind") "Name") (.cmp .isIn (.fld (.loc "kind") "text") (.tup (.cons (.str "Pages") (.o (.str "Page")))))) (.o (.ret (.cmp .eq (.fld (.loc "kind") "text") (.str "Pages")))) .nil) (.o (.ret (.bL (.ay (.loc "shelf") "get" (.cons (.loc "head") (.o (.str "Kids")))))))))
noncomputable def yq:SL:=(.cons (.set "kids" (.ay (.loc "shelf") "get" (.cons (.loc "head") (.o (.str "Kids"))))) (.cons (.bA (.not (.isin (.loc "kids") "list")) (.o (.raise "TreeFault" (.str "a node of the pages without kids"))) .nil) (.o (.ret (.loc "kids")))))
noncomputable def LU:SL:=(.cons (.set "reference" (.call "home_of" (.cons (.loc "shelf") (.o (.loc "value"))))) (.cons (.set "head" (.ay (.loc "shelf") "fetch" (.o (.loc "reference")))) (.cons (.bA (.not (.isin (.loc "head") "dict")) (.o (.raise "TreeFault" (.str "a node of the pages is no dict"))) .nil) (.cons (.set "given" (.prim "dict" (.o (.loc "inherited")))) (.cons (.bX (.nm "key") .plain (.o (.glob "INHERITED")) (.o (.bA (.bL (.ay (.loc "shelf") "get" (.cons (.loc "head") (.o (.loc "key"))))) (.o (.b3 (.loc "given") (.loc "key") (.idx (.loc "head") (.loc "key")))) .nil))) (.o (.ret (.new "Spot" (.cons (.loc "reference") (.cons (.loc "head") (.cons (.loc "above") (.cons (.loc "given") (.o (.not (.call "is_node" (.cons (.loc "shelf") (.o (.loc "head"))))))))))))))))))
noncomputable def C0:SL:=(.cons (.set "found" (.list .nil)) (.cons (.set "seen" (.dict [] .nil)) (.cons (.set "line" (.list (.o (.tup (.cons (.ay (.ay (.loc "shelf") "root" .nil) "get" (.o (.str "Pages"))) (.cons (.tup .nil) (.o (.dict [] .nil)))))))) (.cons (.iq (.loc "line") (.cons (.bR ["value","above","inherited"] (.ay (.loc "line") "pop" .nil)) (.cons (.set "spot" (.call "met" (.cons (.loc "shelf") (.cons (.loc "value") (.cons (.loc "above") (.o (.loc "inherited"))))))) (.cons (.bA (.or (.cmp .isIn (.fld (.fld (.loc "spot") "reference") "number") (.loc "seen")) (.and (.cmp .eq (.loc "found") (.list .nil)) (.fld (.loc "spot") "is_page"))) (.o (.raise "TreeFault" (.str "a node of the pages stands twice, or the root is a page"))) .nil) (.cons (.b3 (.loc "seen") (.fld (.fld (.loc "spot") "reference") "number") (.bool true)) (.cons (.expr (.ay (.loc "found") "append" (.o (.loc "spot")))) (.o (.bA (.not (.fld (.loc "spot") "is_page")) (.o (.bX (.nm "kid") .rev (.o (.call "kids_of" (.cons (.loc "shelf") (.o (.fld (.loc "spot") "head"))))) (.o (.expr (.ay (.loc "line") "append" (.o (.tup (.cons (.loc "kid") (.cons (.bin .add (.loc "above") (.tup (.o (.fld (.loc "spot") "reference")))) (.o (.fld (.loc "spot") "inherited"))))))))))) .nil)))))))) (.o (.ret (.loc "found")))))))
noncomputable def tL:SL:=(.cons (.set "found" (.prim "dict" (.o (.fld (.loc "spot") "head")))) (.cons (.bX (.nm "key") .plain (.o (.glob "INHERITED")) (.o (.bA (.and (.cmp .isIn (.loc "key") (.fld (.loc "spot") "inherited")) (.isNone (.ay (.loc "shelf") "get" (.cons (.fld (.loc "spot") "head") (.o (.loc "key")))))) (.o (.b3 (.loc "found") (.loc "key") (.idx (.fld (.loc "spot") "inherited") (.loc "key")))) .nil))) (.o (.ret (.loc "found")))))
noncomputable def qo:SL:=(.o (.ret (.aC (.loc "spot") (.nm "spot") .plain (.o (.call "spots" (.o (.loc "shelf")))) (X.bM (.fld (.loc "spot") "is_page") X.yes))))
noncomputable def EM:SL:=(.o (.ret (.aC (.new "Page" (.cons (.fld (.loc "spot") "reference") (.o (.call "fields_of" (.cons (.loc "shelf") (.o (.loc "spot"))))))) (.nm "spot") .plain (.o (.call "page_spots" (.o (.loc "shelf")))) X.yes)))
noncomputable def vI:SL:=(.cons (.bR ["number","generation"] (.loc "pair")) (.o (.ret (.and (.cmp .isIn (.loc "number") (.fld (.loc "shelf") "table")) (.cmp .eq (.idx (.idx (.fld (.loc "shelf") "table") (.loc "number")) (.int 0)) (.loc "generation"))))))
noncomputable def k6:SL:=(.o (.ret (.prim "dict" (.o (.aC (.tup (.cons (.loc "key") (.o (.idx (.fld (.loc "shelf") "trailer") (.loc "key"))))) (.nm "key") .plain (.o (.fld (.loc "shelf") "trailer")) (X.bM (.cmp .cK (.loc "key") (.glob "PLACES_OF_FILES")) X.yes))))))
noncomputable def Hq:SL:=(.cons (.set "found" (.aC (.loc "pair") (.nm "pair") .plain (.o (.call "references_in" (.o (.loc "value")))) (X.bM (.call "is_there" (.cons (.loc "shelf") (.o (.loc "pair")))) X.yes))) (.cons (.set "seen" (.prim "dict" (.o (.aC (.tup (.cons (.loc "pair") (.o (.bool true)))) (.nm "pair") .plain (.o (.loc "found")) X.yes)))) (.cons (.set "at" (.int 0)) (.cons (.iq (.cmp .lt (.loc "at") (.prim "len" (.o (.loc "found")))) (.cons (.bX (.nm "pair") .plain (.o (.call "references_in" (.o (.idx (.idx (.fld (.loc "shelf") "table") (.idx (.idx (.loc "found") (.loc "at")) (.int 0))) (.int 1))))) (.o (.bA (.and (.cmp .cK (.loc "pair") (.loc "seen")) (.call "is_there" (.cons (.loc "shelf") (.o (.loc "pair"))))) (.cons (.b3 (.loc "seen") (.loc "pair") (.bool true)) (.o (.expr (.ay (.loc "found") "append" (.o (.loc "pair")))))) .nil))) (.o (.set "at" (.bin .add (.loc "at") (.int 1)))))) (.o (.ret (.loc "found")))))))
noncomputable def yo:SL:=(.o (.ret (.prim "sorted" (.o (.aC (.idx (.loc "pair") (.int 0)) (.nm "pair") .plain (.o (.call "walk" (.cons (.loc "shelf") (.o (.loc "value"))))) X.yes)))))
noncomputable def sZ:SL:=(.cons (.set "found" (.prim "dict" (.o (.aC (.tup (.cons (.loc "number") (.o (.bool true)))) (.nm "number") .plain (.o (.call "reached" (.cons (.loc "shelf") (.o (.call "plain_trailer" (.o (.loc "shelf"))))))) X.yes)))) (.o (.ret (.aC (.loc "number") (.nm "number") .plain (.o (.ay (.loc "shelf") "numbers" .nil)) (X.bM (.cmp .cK (.loc "number") (.loc "found")) X.yes)))))
noncomputable def j7:SL:=(.cons (.set "found" (.prim "dict" (.o (.aC (.tup (.cons (.fld (.fld (.loc "spot") "reference") "number") (.o (.bool true)))) (.nm "spot") .plain (.o (.call "spots" (.o (.loc "shelf")))) X.yes)))) (.cons (.set "root" (.ay (.fld (.loc "shelf") "trailer") "get" (.o (.str "Root")))) (.cons (.bA (.isin (.loc "root") "Reference") (.o (.b3 (.loc "found") (.fld (.loc "root") "number") (.bool true))) .nil) (.o (.ret (.loc "found"))))))
noncomputable def iX:SL:=(.cons (.dQ (.loc "self") "shelf" (.loc "shelf")) (.cons (.dQ (.loc "self") "made" (.loc "made")) (.cons (.dQ (.loc "self") "table" (.dict [] .nil)) (.o (.dQ (.loc "self") "barred" (.call "barred_numbers" (.o (.loc "shelf"))))))))
noncomputable def iD:SL:=(.cons (.set "reference" (.ay (.fld (.loc "self") "made") "add" (.o .none))) (.cons (.bA (.cmp .cK (.ay (.fld (.loc "page") "reference") "pair" .nil) (.fld (.loc "self") "table")) (.o (.b3 (.fld (.loc "self") "table") (.ay (.fld (.loc "page") "reference") "pair" .nil) (.ay (.loc "reference") "pair" .nil))) .nil) (.o (.ret (.loc "reference")))))
noncomputable def fO:SL:=(.cons (.set "line" (.call "references_in" (.o (.loc "value")))) (.cons (.set "fresh" (.list .nil)) (.cons (.set "at" (.int 0)) (.cons (.iq (.cmp .lt (.loc "at") (.prim "len" (.o (.loc "line")))) (.cons (.set "pair" (.idx (.loc "line") (.loc "at"))) (.cons (.set "at" (.bin .add (.loc "at") (.int 1))) (.cons (.bA (.or (.cmp .isIn (.loc "pair") (.fld (.loc "self") "table")) (.not (.call "is_there" (.cons (.fld (.loc "self") "shelf") (.o (.loc "pair")))))) (.o .cont) .nil) (.cons (.bA (.cmp .isIn (.idx (.loc "pair") (.int 0)) (.fld (.loc "self") "barred")) (.o .cont) .nil) (.cons (.b3 (.fld (.loc "self") "table") (.loc "pair") (.ay (.ay (.fld (.loc "self") "made") "add" (.o .none)) "pair" .nil)) (.cons (.expr (.ay (.loc "fresh") "append" (.o (.loc "pair")))) (.o (.expr (.ay (.loc "line") "extend" (.o (.call "references_in" (.o (.idx (.idx (.fld (.fld (.loc "self") "shelf") "table") (.idx (.loc "pair") (.int 0))) (.int 1))))))))))))))) (.o (.ret (.loc "fresh")))))))
noncomputable def lU:SL:=(.o (.bX (.nm "pair") .plain (.o (.loc "fresh")) (.o (.expr (.ay (.fld (.loc "self") "made") "put" (.cons (.idx (.idx (.fld (.loc "self") "table") (.loc "pair")) (.int 0)) (.cons (.int 0) (.o (.call "renumbered" (.cons (.idx (.idx (.fld (.fld (.loc "self") "shelf") "table") (.idx (.loc "pair") (.int 0))) (.int 1)) (.o (.fld (.loc "self") "table"))))))))))))
noncomputable def tQ:SL:=(.cons (.set "fields" (.prim "dict" (.o (.aC (.tup (.cons (.loc "key") (.o (.idx (.fld (.loc "page") "fields") (.loc "key"))))) (.nm "key") .plain (.o (.fld (.loc "page") "fields")) (X.bM (.cmp .ne (.loc "key") (.str "Parent")) X.yes))))) (.cons (.b3 (.loc "fields") (.str "Type") (.new "Name" (.o (.str "Page")))) (.o (.ret (.loc "fields")))))
noncomputable def s9:SL:=(.cons (.set "made" (.new "Shelf" .nil)) (.cons (.set "root" (.ay (.loc "made") "add" (.o .none))) (.cons (.set "parent" (.ay (.loc "made") "add" (.o .none))) (.cons (.set "collectors" (.aC (.new "Collector" (.cons (.loc "shelf") (.o (.loc "made")))) (.nm "shelf") .plain (.o (.loc "shelves")) X.yes)) (.cons (.set "kids" (.aC (.ay (.idx (.loc "collectors") (.loc "at")) "reserve" (.o (.loc "page"))) (.tup ["at","page"]) .plain (.o (.loc "places")) X.yes)) (.cons (.bX (.nm "spot") .aE (.o (.prim "len" (.o (.loc "places")))) (.cons (.bR ["at","page"] (.idx (.loc "places") (.loc "spot"))) (.cons (.set "collector" (.idx (.loc "collectors") (.loc "at"))) (.cons (.set "fields" (.call "bare_page" (.o (.loc "page")))) (.cons (.expr (.ay (.loc "collector") "lay" (.o (.ay (.loc "collector") "take_needed" (.o (.loc "fields")))))) (.cons (.set "laid" (.call "renumbered" (.cons (.loc "fields") (.o (.fld (.loc "collector") "table"))))) (.cons (.b3 (.loc "laid") (.str "Parent") (.loc "parent")) (.o (.expr (.ay (.loc "made") "put" (.cons (.fld (.idx (.loc "kids") (.loc "spot")) "number") (.cons (.int 0) (.o (.loc "laid")))))))))))))) (.cons (.expr (.ay (.loc "made") "put" (.cons (.fld (.loc "parent") "number") (.cons (.int 0) (.o (.dict ["Type","Kids","Count"] (.cons (.new "Name" (.o (.str "Pages"))) (.cons (.prim "list" (.o (.loc "kids"))) (.o (.prim "len" (.o (.loc "kids")))))))))))) (.cons (.expr (.ay (.loc "made") "put" (.cons (.fld (.loc "root") "number") (.cons (.int 0) (.o (.dict ["Type","Pages"] (.cons (.new "Name" (.o (.str "Catalog"))) (.o (.loc "parent"))))))))) (.cons (.dQ (.loc "made") "trailer" (.dict ["Root"] (.o (.loc "root")))) (.o (.ret (.loc "made"))))))))))))
noncomputable def BA:SL:=(.cons (.set "places" (.list .nil)) (.cons (.bX (.nm "at") .aE (.o (.prim "len" (.o (.loc "shelves")))) (.o (.bX (.nm "page") .plain (.o (.call "pages" (.o (.idx (.loc "shelves") (.loc "at"))))) (.o (.expr (.ay (.loc "places") "append" (.o (.tup (.cons (.loc "at") (.o (.loc "page"))))))))))) (.o (.ret (.call "assembled" (.cons (.loc "shelves") (.o (.loc "places"))))))))
noncomputable def io:SL:=(.cons (.set "row" (.call "pages" (.o (.loc "shelf")))) (.cons (.bA (.cmp .ne (.aC (.loc "index") (.nm "index") .plain (.o (.loc "indexes")) (X.bM (.not (.GX .le .lt (.int 0) (.loc "index") (.prim "len" (.o (.loc "row"))))) X.yes)) (.list .nil)) (.o (.raise "TreeFault" (.str "no such page"))) .nil) (.o (.ret (.call "assembled" (.cons (.list (.o (.loc "shelf"))) (.o (.aC (.tup (.cons (.int 0) (.o (.idx (.loc "row") (.loc "index"))))) (.nm "index") .plain (.o (.loc "indexes")) X.yes))))))))
noncomputable def vM:SL:=(.cons (.set "count" (.prim "len" (.o (.call "pages" (.o (.loc "shelf")))))) (.cons (.set "found" (.list .nil)) (.cons (.set "first" (.int 0)) (.cons (.bX (.nm "size") .plain (.o (.bin .add (.prim "list" (.o (.loc "sizes"))) (.list (.o (.loc "count"))))) (.cons (.set "behind" (.prim "min" (.cons (.bin .add (.loc "first") (.prim "max" (.cons (.loc "size") (.o (.int 0))))) (.o (.loc "count"))))) (.cons (.bA (.cmp .gt (.loc "behind") (.loc "first")) (.o (.expr (.ay (.loc "found") "append" (.o (.call "split_pages" (.cons (.loc "shelf") (.o (.prim "listrange" (.cons (.loc "first") (.o (.loc "behind"))))))))))) .nil) (.o (.set "first" (.loc "behind")))))) (.o (.ret (.loc "found")))))))
noncomputable def wJ:SL:=(.cons (.set "number" (.int 0)) (.cons (.bX (.nm "cell") .plain (.o (.yY (.loc "script") (.int 24))) (.o (.set "number" (.bin .add (.bin .add (.bin .add (.bin .mul (.loc "number") (.int 1000003)) (.bin .mul (.int 2) (.prim "abs" (.o (.loc "cell"))))) (.ite (.cmp .lt (.loc "cell") (.int 0)) (.int 1) (.int 0))) (.int 1))))) (.o (.ret (.list (.cons (.loc "number") (.o (.int 0))))))))
noncomputable def tT:SL:=(.cons (.b3 (.loc "pen") (.int 1) (.bin .add (.idx (.loc "pen") (.int 1)) (.int 1))) (.cons (.bA (.cmp .gt (.idx (.loc "pen") (.int 0)) (.int 0)) (.cons (.set "digit" (.bin .mod (.idx (.loc "pen") (.int 0)) (.loc "many"))) (.cons (.b3 (.loc "pen") (.int 0) (.bin .fdiv (.idx (.loc "pen") (.int 0)) (.loc "many"))) (.o (.ret (.loc "digit"))))) .nil) (.o (.ret (.bin .mod (.bin .add (.bin .mul (.idx (.loc "pen") (.int 1)) (.idx (.loc "pen") (.int 1))) (.int 1)) (.loc "many"))))))
noncomputable def tz:SL:=(.cons (.bA (.cmp .eq (.call "_law_draw" (.cons (.loc "pen") (.o (.int 3)))) (.int 0)) (.o (.b3 (.loc "head") (.str "Rotate") (.bin .mul (.int 90) (.call "_law_draw" (.cons (.loc "pen") (.o (.int 4))))))) .nil) (.cons (.bA (.cmp .eq (.call "_law_draw" (.cons (.loc "pen") (.o (.int 3)))) (.int 0)) (.o (.b3 (.loc "head") (.str "Resources") (.idx (.loc "own") (.call "_law_draw" (.cons (.loc "pen") (.o (.int 2))))))) .nil) (.cons (.bA (.cmp .eq (.call "_law_draw" (.cons (.loc "pen") (.o (.int 4)))) (.int 0)) (.o (.b3 (.loc "head") (.idx (.tup (.cons (.str "MediaBox") (.o (.str "CropBox")))) (.call "_law_draw" (.cons (.loc "pen") (.o (.int 2))))) (.list (.cons (.int 0) (.cons (.int 0) (.cons (.bin .add (.int 1) (.call "_law_draw" (.cons (.loc "pen") (.o (.int 9))))) (.o (.int 7)))))))) .nil) (.o (.ret (.loc "head"))))))
noncomputable def sf:SL:=(.cons (.set "head" (.call "_law_fill" (.cons (.loc "pen") (.cons (.loc "shelf") (.cons (.loc "own") (.o (.dict ["Type","Parent","Contents"] (.cons (.new "Name" (.o (.str "Page"))) (.cons (.loc "parent") (.o (.idx (.loc "own") (.bin .add (.int 2) (.call "_law_draw" (.cons (.loc "pen") (.o (.int 2)))))))))))))))) (.cons (.b3 (.loc "head") (.str "Mark") (.prim "len" (.o (.loc "rows")))) (.cons (.bA (.cmp .eq (.call "_law_draw" (.cons (.loc "pen") (.o (.int 4)))) (.int 0)) (.o (.expr (.ay (.loc "head") "pop" (.o (.str "Type"))))) .nil) (.cons (.set "reference" (.ay (.loc "shelf") "add" (.o (.loc "head")))) (.cons (.expr (.ay (.loc "rows") "append" (.o (.tup (.cons (.loc "reference") (.o (.prim "dict" (.o (.bin .add (.aC (.tup (.cons (.loc "key") (.o (.idx (.loc "given") (.loc "key"))))) (.nm "key") .plain (.o (.loc "given")) (X.bM (.cmp .cK (.loc "key") (.loc "head")) X.yes)) (.aC (.tup (.cons (.loc "key") (.o (.idx (.loc "head") (.loc "key"))))) (.nm "key") .plain (.o (.loc "head")) X.yes)))))))))) (.o (.ret (.loc "reference"))))))))
noncomputable def tv:SL:=(.cons (.set "head" (.call "_law_fill" (.cons (.loc "pen") (.cons (.loc "shelf") (.cons (.loc "own") (.o (.dict ["Type"] (.o (.new "Name" (.o (.str "Pages"))))))))))) (.cons (.bA (.bL (.loc "parent")) (.o (.b3 (.loc "head") (.str "Parent") (.loc "parent"))) .nil) (.cons (.set "reference" (.ay (.loc "shelf") "add" (.o (.loc "head")))) (.cons (.set "below" (.prim "dict" (.o (.bin .add (.aC (.tup (.cons (.loc "key") (.o (.idx (.loc "given") (.loc "key"))))) (.nm "key") .plain (.o (.loc "given")) X.yes) (.aC (.tup (.cons (.loc "key") (.o (.idx (.loc "head") (.loc "key"))))) (.nm "key") .plain (.o (.tup (.cons (.str "Rotate") (.cons (.str "Resources") (.cons (.str "MediaBox") (.o (.str "CropBox"))))))) (X.bM (.cmp .isIn (.loc "key") (.loc "head")) X.yes)))))) (.cons (.set "count" (.prim "len" (.o (.loc "rows")))) (.cons (.set "kids" (.list .nil)) (.cons (.bX (.nm "turn") .aE (.o (.bin .add (.int 1) (.call "_law_draw" (.cons (.loc "pen") (.o (.int 2)))))) (.o (.bA (.and (.cmp .gt (.loc "deep") (.int 0)) (.cmp .eq (.call "_law_draw" (.cons (.loc "pen") (.o (.int 2)))) (.int 0))) (.o (.expr (.ay (.loc "kids") "append" (.o (.call "_law_node" (.cons (.loc "pen") (.cons (.loc "shelf") (.cons (.loc "own") (.cons (.loc "reference") (.cons (.loc "below") (.cons (.bin .sub (.loc "deep") (.int 1)) (.o (.loc "rows"))))))))))))) (.o (.expr (.ay (.loc "kids") "append" (.o (.call "_law_page" (.cons (.loc "pen") (.cons (.loc "shelf") (.cons (.loc "own") (.cons (.loc "reference") (.cons (.loc "below") (.o (.loc "rows"))))))))))))))) (.cons (.b3 (.loc "head") (.str "Kids") (.loc "kids")) (.cons (.b3 (.loc "head") (.str "Count") (.bin .sub (.prim "len" (.o (.loc "rows"))) (.loc "count"))) (.o (.ret (.loc "reference"))))))))))))
noncomputable def k7:SL:=(.cons (.set "shelf" (.new "Shelf" .nil)) (.cons (.set "own" (.list (.cons (.ay (.loc "shelf") "add" (.o (.dict ["Font"] (.o (.int 1))))) (.cons (.ay (.loc "shelf") "add" (.o (.dict ["Font"] (.o (.int 2))))) (.cons (.ay (.loc "shelf") "add" (.o (.new "Stream" (.cons (.dict [] .nil) (.o (.bytes [113,32,81])))))) (.o (.ay (.loc "shelf") "add" (.o (.new "Stream" (.cons (.dict ["A"] (.o (.int 1))) (.o (.bytes [102])))))))))))) (.cons (.set "rows" (.list .nil)) (.cons (.set "root" (.call "_law_node" (.cons (.loc "pen") (.cons (.loc "shelf") (.cons (.loc "own") (.cons .none (.cons (.dict [] .nil) (.cons (.int 1) (.o (.loc "rows")))))))))) (.cons (.dQ (.loc "shelf") "trailer" (.dict ["Root","Size"] (.cons (.ay (.loc "shelf") "add" (.o (.dict ["Type","Pages"] (.cons (.new "Name" (.o (.str "Catalog"))) (.o (.loc "root")))))) (.o (.int 40))))) (.cons (.bX (.tup ["reference","fields"]) .plain (.o (.loc "rows")) (.o (.bA (.cmp .eq (.call "_law_draw" (.cons (.loc "pen") (.o (.int 2)))) (.int 0)) (.cons (.set "peer" (.idx (.idx (.loc "rows") (.call "_law_draw" (.cons (.loc "pen") (.o (.prim "len" (.o (.loc "rows"))))))) (.int 0))) (.cons (.b3 (.loc "fields") (.str "Peer") (.loc "peer")) (.o (.b3 (.idx (.idx (.fld (.loc "shelf") "table") (.fld (.loc "reference") "number")) (.int 1)) (.str "Peer") (.loc "peer"))))) .nil))) (.o (.ret (.tup (.cons (.loc "shelf") (.o (.loc "rows"))))))))))))
noncomputable def k9:SL:=(.cons (.bA (.isin (.loc "value") "Reference") (.cons (.set "found" (.ay (.loc "shelf") "fetch" (.o (.loc "value")))) (.o (.ret (.tup (.cons (.str "to") (.cons (.ite (.isin (.loc "found") "Stream") (.call "told_objects" (.o (.fld (.loc "found") "head"))) (.call "told_objects" (.o (.loc "found")))) (.o (.ite (.isin (.loc "found") "Stream") (.fld (.loc "found") "octets") (.bytes []))))))))) .nil) (.o (.ret (.call "told_objects" (.o (.loc "value"))))))
noncomputable def j5:SL:=(.cons (.set "keys" (.aC (.loc "key") (.nm "key") .plain (.o (.prim "sorted" (.o (.loc "fields")))) (X.bM (.cmp .cK (.loc "key") (.tup (.cons (.str "Parent") (.cons (.str "Peer") (.o (.str "Type")))))) X.yes))) (.cons (.bA (.cmp .ne (.aC (.loc "key") (.nm "key") .plain (.o (.prim "sorted" (.o (.fld (.loc "page") "fields")))) (X.bM (.cmp .cK (.loc "key") (.tup (.cons (.str "Parent") (.cons (.str "Peer") (.o (.str "Type")))))) X.yes)) (.loc "keys")) (.o (.ret (.bool false))) .nil) (.cons (.bA (.cmp .ne (.call "told_objects" (.o (.idx (.fld (.loc "page") "fields") (.str "Type")))) (.tup (.cons (.str "name") (.o (.str "Page"))))) (.o (.ret (.bool false))) .nil) (.cons (.bX (.nm "key") .plain (.o (.loc "keys")) (.o (.bA (.cmp .ne (.call "_law_unfolded" (.cons (.loc "made") (.o (.idx (.fld (.loc "page") "fields") (.loc "key"))))) (.call "_law_unfolded" (.cons (.loc "shelf") (.o (.idx (.loc "fields") (.loc "key")))))) (.o (.ret (.bool false))) .nil))) (.cons (.set "peer" (.ite (.cmp .isIn (.str "Peer") (.loc "fields")) (.fld (.idx (.loc "fields") (.str "Peer")) "number") (.neg 1))) (.cons (.bA (.cmp .cK (.loc "peer") (.loc "places")) (.o (.ret (.cmp .cK (.str "Peer") (.fld (.loc "page") "fields")))) .nil) (.o (.ret (.and (.cmp .isIn (.str "Peer") (.fld (.loc "page") "fields")) (.cmp .eq (.ay (.idx (.fld (.loc "page") "fields") (.str "Peer")) "pair" .nil) (.idx (.loc "places") (.loc "peer"))))))))))))
noncomputable def jV:SL:=(.cons (.set "row" (.call "pages" (.o (.loc "made")))) (.cons (.set "node" (.ay (.loc "made") "get" (.cons (.ay (.loc "made") "root" .nil) (.o (.str "Pages"))))) (.cons (.bA (.or3 (.cmp .ne (.prim "len" (.o (.loc "row"))) (.prim "len" (.o (.loc "wanted")))) (.cmp .ne (.prim "sorted" (.o (.ay (.loc "made") "root" .nil))) (.list (.cons (.str "Pages") (.o (.str "Type"))))) (.cmp .ne (.prim "sorted" (.o (.fld (.loc "made") "trailer"))) (.list (.o (.str "Root"))))) (.o (.ret (.bool false))) .nil) (.cons (.bA (.or3 (.cmp .ne (.prim "sorted" (.o (.loc "node"))) (.list (.cons (.str "Count") (.cons (.str "Kids") (.o (.str "Type")))))) (.cmp .ne (.idx (.loc "node") (.str "Count")) (.prim "len" (.o (.loc "row")))) (.cmp .ne (.call "unreached" (.o (.loc "made"))) (.list .nil))) (.o (.ret (.bool false))) .nil) (.cons (.bA (.cmp .ne (.aC (.ay (.loc "kid") "pair" .nil) (.nm "kid") .plain (.o (.idx (.loc "node") (.str "Kids"))) X.yes) (.aC (.ay (.fld (.loc "page") "reference") "pair" .nil) (.nm "page") .plain (.o (.loc "row")) X.yes)) (.o (.ret (.bool false))) .nil) (.cons (.set "places" (.list (.cons (.dict [] .nil) (.o (.dict [] .nil))))) (.cons (.bX (.nm "at") .aE (.o (.prim "len" (.o (.loc "row")))) (.cons (.bR ["which","shelf","reference","fields"] (.idx (.loc "wanted") (.loc "at"))) (.o (.bA (.cmp .cK (.fld (.loc "reference") "number") (.idx (.loc "places") (.loc "which"))) (.o (.b3 (.idx (.loc "places") (.loc "which")) (.fld (.loc "reference") "number") (.ay (.fld (.idx (.loc "row") (.loc "at")) "reference") "pair" .nil))) .nil)))) (.cons (.bX (.nm "at") .aE (.o (.prim "len" (.o (.loc "row")))) (.cons (.bR ["which","shelf","reference","fields"] (.idx (.loc "wanted") (.loc "at"))) (.cons (.bA (.cmp .ne (.ay (.idx (.fld (.idx (.loc "row") (.loc "at")) "fields") (.str "Parent")) "pair" .nil) (.ay (.idx (.ay (.loc "made") "root" .nil) (.str "Pages")) "pair" .nil)) (.o (.ret (.bool false))) .nil) (.o (.bA (.not (.call "_law_page_fits" (.cons (.loc "made") (.cons (.idx (.loc "row") (.loc "at")) (.cons (.loc "shelf") (.cons (.loc "fields") (.o (.idx (.loc "places") (.loc "which"))))))))) (.o (.ret (.bool false))) .nil))))) (.cons (.set "contents" (.prim "dict" (.o (.aC (.tup (.cons (.prim "repr" (.o (.call "_law_unfolded" (.cons (.loc "made") (.o (.idx (.fld (.loc "page") "fields") (.str "Contents"))))))) (.o (.bool true)))) (.nm "page") .plain (.o (.loc "row")) X.yes)))) (.cons (.set "numbers" (.prim "dict" (.o (.aC (.tup (.cons (.fld (.idx (.fld (.loc "page") "fields") (.str "Contents")) "number") (.o (.bool true)))) (.nm "page") .plain (.o (.loc "row")) X.yes)))) (.o (.ret (.or (.cmp .ne (.prim "len" (.o (.prim "dict" (.o (.aC (.tup (.cons (.idx (.loc "shelf_at") (.int 0)) (.o (.bool true)))) (.nm "shelf_at") .plain (.o (.loc "wanted")) X.yes))))) (.int 1)) (.cmp .eq (.prim "len" (.o (.loc "numbers"))) (.prim "len" (.o (.loc "contents")))))))))))))))))
noncomputable def Ko:SL:=(.cons (.set "pen" (.call "_law_pen" (.o (.loc "script")))) (.cons (.set "documents" (.aC (.call "_law_document" (.o (.loc "pen"))) (.nm "turn") .aE (.o (.bin .add (.int 1) (.call "_law_draw" (.cons (.loc "pen") (.o (.int 2)))))) X.yes)) (.cons (.set "kept" (.aC (.ay (.loc "shelf") "told" .nil) (.tup ["shelf","rows"]) .plain (.o (.loc "documents")) X.yes)) (.cons (.set "every" (.list .nil)) (.cons (.bX (.nm "which") .aE (.o (.prim "len" (.o (.loc "documents")))) (.cons (.bR ["shelf","rows"] (.idx (.loc "documents") (.loc "which"))) (.o (.set "every" (.bin .add (.loc "every") (.aC (.tup (.cons (.loc "which") (.cons (.loc "shelf") (.cons (.loc "reference") (.o (.loc "fields")))))) (.tup ["reference","fields"]) .plain (.o (.loc "rows")) X.yes)))))) (.cons (.bA (.not (.call "_law_made_fits" (.cons (.call "merged" (.o (.aC (.loc "shelf") (.tup ["shelf","rows"]) .plain (.o (.loc "documents")) X.yes))) (.o (.loc "every"))))) (.o (.ret (.bool false))) .nil) (.cons (.bR ["shelf","rows"] (.idx (.loc "documents") (.int 0))) (.cons (.set "indexes" (.aC (.call "_law_draw" (.cons (.loc "pen") (.o (.prim "len" (.o (.loc "rows")))))) (.nm "turn") .aE (.o (.call "_law_draw" (.cons (.loc "pen") (.o (.int 4))))) X.yes)) (.cons (.set "wanted" (.aC (.tup (.cons (.int 0) (.cons (.loc "shelf") (.cons (.idx (.idx (.loc "rows") (.loc "index")) (.int 0)) (.o (.idx (.idx (.loc "rows") (.loc "index")) (.int 1))))))) (.nm "index") .plain (.o (.loc "indexes")) X.yes)) (.cons (.bA (.not (.call "_law_made_fits" (.cons (.call "split_pages" (.cons (.loc "shelf") (.o (.loc "indexes")))) (.o (.loc "wanted"))))) (.o (.ret (.bool false))) .nil) (.cons (.set "sizes" (.aC (.bin .sub (.call "_law_draw" (.cons (.loc "pen") (.o (.int 4)))) (.int 1)) (.nm "turn") .aE (.o (.int 2)) X.yes)) (.cons (.set "parts" (.call "cut_into" (.cons (.loc "shelf") (.o (.loc "sizes"))))) (.cons (.set "left" (.aC (.tup (.cons (.int 0) (.cons (.loc "shelf") (.cons (.loc "reference") (.o (.loc "fields")))))) (.tup ["reference","fields"]) .plain (.o (.loc "rows")) X.yes)) (.cons (.set "due" (.list .nil)) (.cons (.bX (.nm "size") .plain (.o (.bin .add (.loc "sizes") (.list (.o (.prim "len" (.o (.loc "rows"))))))) (.cons (.set "many" (.prim "max" (.cons (.loc "size") (.o (.int 0))))) (.cons (.bA (.cmp .ne (.yY (.loc "left") (.loc "many")) (.list .nil)) (.o (.expr (.ay (.loc "due") "append" (.o (.yY (.loc "left") (.loc "many")))))) .nil) (.o (.set "left" (.Aw (.loc "left") (.loc "many"))))))) (.cons (.bA (.or (.cmp .ne (.prim "len" (.o (.loc "parts"))) (.prim "len" (.o (.loc "due")))) (.cmp .ne (.aC (.loc "at") (.nm "at") .aE (.o (.prim "len" (.o (.loc "due")))) (X.bM (.not (.call "_law_made_fits" (.cons (.idx (.loc "parts") (.loc "at")) (.o (.idx (.loc "due") (.loc "at")))))) X.yes)) (.list .nil))) (.o (.ret (.bool false))) .nil) (.cons (.bA (.or (.not (.call "_law_raises" (.cons (.loc "shelf") (.o (.list (.cons (.int 0) (.o (.prim "len" (.o (.loc "rows")))))))))) (.not (.call "_law_raises" (.cons (.loc "shelf") (.o (.list (.o (.neg 1)))))))) (.o (.ret (.bool false))) .nil) (.o (.ret (.cmp .eq (.aC (.ay (.loc "shelf") "told" .nil) (.tup ["shelf","rows"]) .plain (.o (.loc "documents")) X.yes) (.loc "kept")))))))))))))))))))))
noncomputable def eU:List (String × List String × SL):=[
 ("Name.__init__",["self","text"],oy),
 ("Stream.__init__",["self","head","octets"],lI),
 ("Reference.__init__",["self","number","generation"],iW),
 ("Reference.pair",["self"],km),
 ("kind_of",["value"],yL),
 ("told_plain",["kind","value"],qy),
 ("told",["value"],HK),
 ("parts_of",["value"],vn),
 ("references_in",["value"],lV),
 ("renumbered",["value","table"],qz),
 ("Lookup.__init__",["self","table","trailer"],gu),
 ("Lookup.fetch",["self","value"],mT),
 ("Lookup.get",["self","head","key"],qD),
 ("Shelf.put",["self","number","generation","value"],tR),
 ("Shelf.add",["self","value"],tY),
 ("Shelf.numbers",["self"],lP),
 ("Shelf.root",["self"],qF),
 ("Shelf.told",["self"],qG),
 ("Page.__init__",["self","reference","fields"],pT),
 ("Spot.__init__",["self","reference","head","above","inherited","is_page"],oh),
 ("home_of",["shelf","value"],xL),
 ("is_node",["shelf","head"],xm),
 ("kids_of",["shelf","head"],yq),
 ("met",["shelf","value","above","inherited"],LU),
 ("spots",["shelf"],C0),
 ("fields_of",["shelf","spot"],tL),
 ("page_spots",["shelf"],qo),
 ("pages",["shelf"],EM),
 ("is_there",["shelf","pair"],vI),
 ("plain_trailer",["shelf"],k6),
 ("walk",["shelf","value"],Hq),
 ("reached",["shelf","value"],yo),
 ("unreached",["shelf"],sZ),
 ("barred_numbers",["shelf"],j7),
 ("Collector.__init__",["self","shelf","made"],iX),
 ("Collector.reserve",["self","page"],iD),
 ("Collector.take_needed",["self","value"],fO),
 ("Collector.lay",["self","fresh"],lU),
 ("bare_page",["page"],tQ),
 ("assembled",["shelves","places"],s9),
 ("merged",["shelves"],BA),
 ("split_pages",["shelf","indexes"],io),
 ("cut_into",["shelf","sizes"],vM),
 ("_law_pen",["script"],wJ),
 ("_law_draw",["pen","many"],tT),
 ("_law_fill",["pen","shelf","own","head"],tz),
 ("_law_page",["pen","shelf","own","parent","given","rows"],sf),
 ("_law_node",["pen","shelf","own","parent","given","deep","rows"],tv),
 ("_law_document",["pen"],k7),
 ("_law_unfolded",["shelf","value"],k9),
 ("_law_page_fits",["made","page","shelf","fields","places"],j5),
 ("_law_made_fits",["made","wanted"],jV),
 ("law",["script"],Ko)]
noncomputable def eF (Q:KV):KS:=λfl zz H'=>match fl with
 | .ret v=>Q v H'
 | .next=>Q .none H'
 | .brk=>False
 | .cont=>False
noncomputable def vA:AV:= .tup [.str "to",.tup [.str "dict"],.bytes [113,32,81]]
noncomputable def vB:AV:= .tup [.str "to",.tup [.str "dict",.tup [.str "A",.tup [.str "int",.int 1]]],.bytes [102]]
noncomputable def tA:String:="('to', ('dict',), b'q Q')"
noncomputable def tB:String:="('to', ('dict', ('A', ('int', 1))), b'f')"
noncomputable def rq:X:= .cmp .ne (.aC (.loc "index") (.nm "index") .plain (.o (.loc "indexes")) (X.bM (.not (.GX .le .lt (.int 0) (.loc "index") (.prim "len" (.o (.loc "row"))))) X.yes)) (.list .nil)
structure aQ (G:Nat->aj):Prop where
 fn:∀{k:Nat} {key:String} {ps:List String} {ir:SL} {as:List AV} {H:HP} {Q:KV} {loc:Loc},(key,ps,ir)∈eU->key≠"Lookup.__init__"->eu ps as Loc.new=some loc->
  ir (G k) loc H (eF Q)->G (k+1) key as H Q
 init:∀{k:Nat} {v:AV} {H:HP} {Q:KV},gu (G k) (((Loc.new.upd "self" v).upd "table" .none).upd "trailer" .none) H (eF Q)->G (k+1) "Lookup.__init__" [v] H Q
 told:∀{k:Nat} {as:List AV} {H:HP} {Q:KV},G k "told" as H Q->G k "told_objects" as H Q
 rA:∀{k:Nat} {H:HP} {Q:KV},Q (.str tA) H->G k "repr" [vA] H Q
 rB:∀{k:Nat} {H:HP} {Q:KV},Q (.str tB) H->G k "repr" [vB] H Q
theorem aQ.run {G:Nat->aj} (m:aQ G) {k:Nat} {as:List AV} {H:HP} {Q:KV} (i:Nat) {e:String × List String × SL} {loc:Loc} (g:eU[i]? =some e) (hn:(e.1=="Lookup.__init__")=false) (hl:eu e.2.1 as Loc.new=some loc)
  (h:e.2.2 (G k) loc H (eF Q)):G (k+1) e.1 as H Q:=m.fn (aaO g) (λq=>by rw [q] at hn;cases hn) hl h
section
variable {Γ:aj} {loc:Loc} {H:HP} {Q:KV} {QS:KS} {FB:Bool->Prop} {FO:AO->Prop} {FH:HP->Prop}
theorem te (b:Bool):qc b FB=FB b:=match b with
 | true | false=>rfl
theorem ad {o o':AO} (e:o=o') (h:FO o'):ob o FO:=⟨e▸h⟩
theorem dE {α:Type} {o:Option α} {v:α} {F:α->Prop} (e:o=some v) (h:F v):opt o F:=e▸h
theorem qX {b t:Bool} (e:b=t) (h:FB t):qc b FB:=(te b).mpr (e▸h)
theorem Rs {b:Bool} (h:FB b):qc b FB:=(te b).mpr h
theorem MR {p:Prop} [d:Decidable p] (e:p) (h:FB true):qc (decide p) FB:=qX (decide_eq_true e) h
theorem wtf {p:Prop} [d:Decidable p] (e:¬p) (h:FB false):qc (decide p) FB:=qX (decide_eq_false e) h
theorem Fu {b:Bool} (h1:b=true->FB true) (h2:b=false->FB false):qc b FB:=match b,h1,h2 with
 | true,h1,_=>h1 rfl
 | false,_,h2=>h2 rfl
theorem yC {p:Prop} [d:Decidable p] (h1:p->FB true) (h2:¬p->FB false):qc (decide p) FB:=Fu (λe=>h1 (of_decide_eq_true e)) λe=>h2 (of_decide_eq_false e)
theorem Lr {b:Bool} {P:Prop} (e:b=true) (h:P):gd b P:=e▸h
theorem Tj {o:Option AV} {v d:AV} {F:AV->Prop} (e:o=some v) (h:F v):C8 o d F:=e▸h
theorem ZV {o:Option AV} {d:AV} {F:AV->Prop} (e:o= .none) (h:F d):C8 o d F:=e▸h
theorem mJ {v:AV} (e:v≠ .unset) (h:Q v H):DP v H Q:=match v,e,h with
 | .unset,e,_=>absurd rfl e
 | .none,_,h | .bool _,_,h | .int _,_,h | .str _,_,h | .bytes _,_,h | .tup _,_,h | .ref _,_,h=>h
theorem ak {x:String} {v:AV} (e:loc x=v) (h:DP v H Q):DP (loc x) H Q:=e▸h
end
inductive L2 {α β:Type} (r:α->β->Prop):List α->List β->Prop
 | nil:L2 r [] []
 | cons {a:α} {b:β} {l:List α} {m:List β}:r a b->L2 r l m->L2 r (a::l) (b::m)
section
variable {α β γ:Type} {r q:α->β->Prop}
theorem L2.imp (f:∀a b,r a b->q a b) {l:List α} {m:List β} (h:L2 r l m):L2 q l m:=h.rec .nil λa zz b=>.cons (f _ _ a) b
theorem L2.inv {a:α} {b:β} {l:List α} {m:List β} (h:L2 r (a::l) (b::m)):r a b/\L2 r l m:=by cases h with | cons x y=>exact ⟨x,y⟩
theorem L2.aW {b:β} {l:List α} {m:List β} (h:L2 r l (b::m)):∃a l',l=a::l'/\r a b/\L2 r l' m:=by cases h with | cons x y=>exact (bI _ _ ⟨rfl,x,y⟩)
theorem L2.df {l:List α} (h:L2 r l []):l=[]:=by cases h;rfl
theorem L2.len {l:List α} {m:List β} (h:L2 r l m):l.length=m.length:=h.rec rfl λzz zz b=>congrArg (· +1) b
theorem L2.append {l l':List α} {m m':List β} (h:L2 r l m) (g:L2 r l' m'):L2 r (l++l') (m++m'):=h.rec g λa zz b=>.cons a b
theorem L2.snoc {l:List α} {m:List β} {a:α} {b:β} (h:L2 r l m) (x:r a b):L2 r (l++[a]) (m++[b]):=h.append (.cons x .nil)
theorem L2.get {l:List α} {m:List β} (h:L2 r l m) {i:Nat} {b:β} (e:m[i]? =some b):∃a,l[i]? =some a/\r a b:=by
 induction h generalizing i with
 | nil=>cases e
 | cons x _ ih=>match i,e with
  | 0,e=>exact ⟨_,rfl,aay e▸x⟩
  | _+1,e=>exact ih e
theorem L2.flip {l:List α} {m:List β} (h:L2 r l m):L2 (λb a=>r a b) m l:=h.rec .nil λa zz b=>.cons a b
theorem L2.Nc {l:List α} {m:List β} (h:L2 r l m) {i:Nat} {a:α} (e:l[i]? =some a):∃b,m[i]? =some b/\r a b:=h.flip.get e
theorem L2.mem {l:List α} {m:List β} (h:L2 r l m) {a:α} (g:a∈l):∃b,b∈m/\r a b:=
 let ⟨_,e⟩:=List.mem_iff_getElem?.mp g
 let ⟨b,e2,x⟩:=h.Nc e
 ⟨b,aaO e2,x⟩
theorem L2.Hr {l:List α} {m:List β} (h:L2 r l m) {b:β} (g:b∈m):∃a,a∈l/\r a b:=h.flip.mem g
end
noncomputable def AO.fixed:AO->Bool
 | .inst c _=>!(c=="Shelf")
 | _=>false
structure ai (S:Nat->Prop) (H H':HP):Prop where
 le:H.n<=H'.n
 same:∀a,a < H.n->¬S a->H'.g a=H.g a/\H'.t a=H.t a
 inst:∀a o,a < H.n->H.g a=o->o.fixed=true->H'.g a=o
noncomputable def aJ:Nat->Prop:=λzz=>False
noncomputable def atS (a:Nat):Nat->Prop:=λx=>x=a
section
variable {S S':Nat->Prop} {H H' bz:HP} {o o':AO} {a b:Nat}
theorem oN (h:a≠b):Nat.beq a b=false:=Bool.eq_false_iff.mpr λq=>h (Nat.eq_of_beq_eq_true q)
theorem hO:Nat.beq a a=true:=Nat.beq_refl a
theorem Vi:(H.push o).n=H.n+1:=rfl
theorem dw:(H.push o).g H.n=o:=by show (bif _ then _ else _)=_;rw [hO];rfl
theorem m9 (h:a < H.n):(H.push o).g a=H.g a:=by show (bif _ then _ else _)=_;rw [oN (aaJ h)];rfl
theorem bo:(H.set a o).g a=o:=by show (bif _ then _ else _)=_;rw [hO];rfl
theorem d5 (h:b≠a):(H.set a o).g b=H.g b:=by show (bif _ then _ else _)=_;rw [oN h];rfl
theorem DZ (h:b≠a):(H.set a o).t b=H.t b:=by show (bif _ then _ else _)=_;rw [oN h];rfl
theorem ai.refl:ai S H H:=⟨aaF _,λzz zz zz=>⟨rfl,rfl⟩,λzz zz zz e zz=>e⟩
theorem ai.trans (x:ai S H H') (y:ai S' H' bz) (hs:∀a,a < H.n->S' a->S a):ai S H bz:=
 ⟨aaw x.le y.le,λa ha hn=>
  have h1:=x.same a ha hn
  have h2:=y.same a (aax ha x.le) λq=>hn (hs a ha q)
  ⟨h2.1.trans h1.1,h2.2.trans h1.2⟩,λa o ha e hc=>y.inst a o (aax ha x.le) (x.inst a o ha e hc) hc⟩
theorem ai.tr (x:ai S H H') (y:ai S H' bz):ai S H bz:=x.trans y λzz zz q=>q
theorem ai.tn (x:ai S H H') (y:ai aJ H' bz):ai S H bz:=x.trans y λzz zz q=>q.elim
theorem ai.weak (x:ai S H H') (hs:∀a,a < H.n->S a->S' a):ai S' H H':=⟨x.le,λa ha hn=>x.same a ha λq=>hn (hs a ha q),x.inst⟩
theorem ai.no (x:ai aJ H H'):ai S H H':=x.weak λzz zz q=>q.elim
theorem ai.lt (x:ai S H H') (h:a < H.n):a < H'.n:=aax h x.le
theorem ai.at (x:ai S H H') (h:a < H.n) (hn:¬S a) (e:H.g a=o):H'.g a=o:=(x.same a h hn).1.trans e
theorem ai.fix (x:ai S H H') (h:a < H.n) (e:H.g a=o) (hc:o.fixed=true):H'.g a=o:=x.inst a o h e hc
theorem ai.ne (x:ai (atS b) H H') (h:a < H.n) (e:H.g a=o) (n:a≠b):H'.g a=o:=x.at h n e
theorem ai.keep (x:ai aJ H H') (h:a < H.n) (e:H.g a=o):H'.g a=o:=x.at h id e
theorem ai.push:ai S H (H.push o):=⟨aba _,λzz ha zz=>⟨m9 ha,rfl⟩,λzz zz ha e zz=>(m9 ha).trans e⟩
theorem ai.set (e:H.g a=o') (hf:o'.fixed=false):ai (atS a) H (H.set a o):=
 ⟨aaF _,λzz zz hn=>⟨d5 hn,DZ hn⟩,λb x hb e' hc=>(d5 λq=>by rw [q,e] at e';rw [e',hc] at hf;cases hf).trans e'⟩
end
section
variable {H:HP} {Q:KV} {F:HP->Prop} {o o':AO} {a:Nat}
theorem cN (k:∀H',ai aJ H H'->H'.n=H.n+1->H'.g H.n=o->Q (.ref H.n) H'):nw o H Q:=⟨k _ .push rfl dw⟩
theorem m6 (e:H.g a=o') (k:∀H',ai (atS a) H H'->H'.n=H.n->H'.g a=o->F H') (hf:o'.fixed=false:=by exact rfl):upd a o H F:=⟨k _ (.set e hf) rfl bo⟩
end
inductive At where
 | none | int (i:Int) | name (s:String) | ref (n:Int)
inductive Va where
 | at (a:At) | arr (xs:List At)
noncomputable abbrev Di:=List (String × Va)
inductive Ob where
 | null | dict (d:Di) | stream (d:Di) (b:List UInt8)
noncomputable def z0 (s:String):AO:= .inst "Name" [("text",.str s)]
noncomputable def cJ (n:Int):AO:= .inst "Reference" [("number",.int n),("generation",.int 0)]
noncomputable def ip (t:Nat) (r:AV):AO:= .inst "Shelf" [("table",.ref t),("trailer",r)]
noncomputable def nG (h:Nat) (b:List UInt8):AO:= .inst "Stream" [("head",.ref h),("octets",.bytes b)]
noncomputable def j4 (H:HP) (v:AV) (o:AO):Prop:=∃a,v= .ref a/\a < H.n/\H.g a=o
noncomputable def RA (H:HP) (v:AV):At->Prop
 | .none=>v= .none
 | .int i=>v= .int i
 | .name s=>j4 H v (z0 s)
 | .ref n=>j4 H v (cJ n)
noncomputable def KG (P:Nat->Prop) (H:HP) (v:AV) (r:List AV->Prop):Prop:=∃a vs,v= .ref a/\(a < H.n/\P a)/\H.g a= .list vs/\r vs
noncomputable def RV (P:Nat->Prop) (H:HP) (v:AV):Va->Prop
 | .at a=>RA H v a
 | .arr xs=>KG P H v λvs=>L2 (RA H) vs xs
noncomputable def RE (P:Nat->Prop) (H:HP) (e:AV × AV) (x:String × Va):Prop:=e.1= .str x.1/\RV P H e.2 x.2
structure RD (P:Nat->Prop) (H:HP) (a:Nat) (d:Di):Prop where
 lt:a < H.n
 zone:P a
 ex:∃es,H.g a= .dict es/\L2 (RE P H) es d
 nd:(d.map (·.1)).Nodup
noncomputable def RO (P:Nat->Prop) (H:HP) (v:AV):Ob->Prop
 | .null=>v= .none
 | .dict d=>∃a,v= .ref a/\RD P H a d
 | .stream d b=>∃a h,v= .ref a/\(a < H.n/\H.g a=nG h b)/\RD P H h d
noncomputable def RT (P:Nat->Prop) (H:HP) (e:AV × AV) (x:Int × Ob):Prop:=e.1= .int x.1/\∃u,e.2= .tup [.int 0,u]/\RO P H u x.2
structure RS (P:Nat->Prop) (H:HP) (a t:Nat) (tab:List (Int × Ob)) (tr:Di):Prop where
 lt:a < H.n
 ma:t < H.n
 ins:∃r,H.g a=ip t (.ref r)/\RD P H r tr
 tb:∃es,H.g t= .dict es/\L2 (RT P H) es tab
 num:tab.map (·.1)=(List.range tab.length).map λ(i:Nat)=>(i:Int)+1
 len:tab.length < 64
section
variable {P P' S:Nat->Prop} {H H':HP}
theorem j4.mono (f:ai S H H') {v:AV} {o:AO} (hc:o.fixed=true) (r:j4 H v o):j4 H' v o:=r.imp λzz r=>⟨r.1,f.lt r.2.1,f.fix r.2.1 r.2.2 hc⟩
theorem RA.mono (f:ai S H H') {v:AV}:∀{x:At},RA H v x->RA H' v x
 | .none,r | .int _,r=>r
 | .name _,r | .ref _,r=>j4.mono f rfl r
noncomputable abbrev cX (S P P':Nat->Prop) (H:HP):Prop:=∀a,a < H.n->P a->¬S a/\P' a
theorem RV.mono (f:ai S H H') (hp:cX S P P' H) {v:AV}:∀{x:Va},RV P H v x->RV P' H' v x
 | .at _,r=>RA.mono f r
 | .arr _,⟨a,vs,e,z,g,l⟩=>(bI a vs ⟨e,⟨f.lt z.1,(hp a z.1 z.2).2⟩,f.at z.1 (hp a z.1 z.2).1 g,l.imp λzz zz r=>r.mono f⟩)
theorem RE.mono (f:ai S H H') (hp:cX S P P' H) {v:AV × AV} {x:String × Va} (r:RE P H v x):RE P' H' v x:=⟨r.1,r.2.mono f hp⟩
theorem RD.mono (f:ai S H H') (hp:cX S P P' H) {a:Nat} {d:Di} (r:RD P H a d):RD P' H' a d:=
 have z:=hp a r.lt r.zone
 ⟨f.lt r.lt,z.2,r.ex.imp λzz e=>⟨f.at r.lt z.1 e.1,e.2.imp λzz zz q=>q.mono f hp⟩,r.nd⟩
theorem RO.mono (f:ai S H H') (hp:cX S P P' H) {v:AV}:∀{x:Ob},RO P H v x->RO P' H' v x
 | .null,r=>r
 | .dict _,r=>r.imp λzz r=>⟨r.1,r.2.mono f hp⟩
 | .stream _ _,⟨a,h,e,g,r⟩=>(bI a h ⟨e,⟨f.lt g.1,f.fix g.1 g.2 rfl⟩,r.mono f hp⟩)
theorem RT.mono (f:ai S H H') (hp:cX S P P' H) {v:AV × AV} {x:Int × Ob} (r:RT P H v x):RT P' H' v x:=⟨r.1,r.2.imp λzz q=>⟨q.1,q.2.mono f hp⟩⟩
theorem RS.mono (f:ai S H H') (hp:cX S P P' H) {a t:Nat} {tab:List (Int × Ob)} {tr:Di} (ha:¬S a) (ht:¬S t) (r:RS P H a t tab tr):RS P' H' a t tab tr:=
 ⟨f.lt r.lt,f.lt r.ma,r.ins.imp λzz e=>⟨f.at r.lt ha e.1,e.2.mono f hp⟩,r.tb.imp λzz e=>⟨f.at r.ma ht e.1,e.2.imp λzz zz q=>q.mono f hp⟩,r.num,r.len⟩
theorem aV:cX aJ P P H:=λzz zz h=>⟨id,h⟩
theorem RV.mn (f:ai aJ H H') {v:AV} {x:Va} (r:RV P H v x):RV P H' v x:=r.mono f aV
theorem RD.mn (f:ai aJ H H') {a:Nat} {d:Di} (r:RD P H a d):RD P H' a d:=r.mono f aV
theorem RO.mn (f:ai aJ H H') {v:AV} {x:Ob} (r:RO P H v x):RO P H' v x:=r.mono f aV
theorem RS.mn (f:ai aJ H H') {a t:Nat} {tab:List (Int × Ob)} {tr:Di} (r:RS P H a t tab tr):RS P H' a t tab tr:=r.mono f aV id id
noncomputable def look (k:String):Di->Option Va
 | []=>.none
 | e::r=>bif e.1==k then some e.2 else look k r
noncomputable def ah (n:Int):List (Int × Ob)->Option Ob
 | []=>.none
 | e::r=>bif decide (e.1=n) then some e.2 else ah n r
theorem aY {k:String} {v:Va} {r:Di}:look k ((k,v)::r)=some v:=by show (bif _ then _ else _)=_;rw [beq_self_eq_true];rfl
theorem aK {k j:String} {v:Va} {r:Di} (h:j≠k):look k ((j,v)::r)=look k r:=by show (bif _ then _ else _)=_;rw [beq_eq_false_iff_ne.mpr h];rfl
noncomputable def mK {α β:Type} (r:α->β->Prop) (x:Option α) (y:Option β):Prop:=match y with
 | .none=>x= .none
 | some b=>∃a,x=some a/\r a b
theorem fZ {k:String} {es:List (AV × AV)} {d:Di} (h:L2 (RE P H) es d):mK (RV P H) (getD (.str k) es) (look k d):=h.rec rfl λ{e x zz zz} r zz ih=>by
 show mK _ (bif iY e.1 _ then _ else _) (bif _ then _ else _)
 rw [r.1]
 show mK _ (bif decide (x.1=k) then _ else _) (bif decide (x.1=k) then _ else _)
 exact match decide (x.1=k) with
  | true=>⟨_,rfl,r.2⟩
  | false=>ih
theorem gL {n:Int} {es:List (AV × AV)} {d:List (Int × Ob)} (h:L2 (RT P H) es d):mK (λv ob=>∃u,v= .tup [.int 0,u]/\RO P H u ob) (getD (.int n) es) (ah n d):=h.rec rfl λ{e x zz zz} r zz ih=>by
 show mK _ (bif iY e.1 _ then _ else _) (bif _ then _ else _)
 rw [r.1]
 show mK _ (bif decide (x.1=n) then _ else _) (bif decide (x.1=n) then _ else _)
 exact match decide (x.1=n) with
  | true=>⟨_,rfl,r.2⟩
  | false=>ih
theorem dm {k:String} {es:List (AV × AV)} {d:Di} (h:L2 (RE P H) es d):bB (.str k) es:=⟨Nat.one_ne_zero,λzz he=>let ⟨_,_,r⟩:=h.mem he;r.1▸rfl⟩
theorem fi {n:Int} {es:List (AV × AV)} {d:List (Int × Ob)} (h:L2 (RT P H) es d):bB (.int n) es:=⟨abC 1,λzz he=>let ⟨_,_,r⟩:=h.mem he;r.1▸rfl⟩
end
section
variable {G:Nat->aj} {H:HP} {Q:KV} {k:Nat} {P:Nat->Prop} {a:Nat}
theorem lA (m:aQ G) (h:Q (.str "null") H):G (k+1) "kind_of" [.none] H Q:=m.run 4 rfl rfl rfl h
theorem om (m:aQ G) {i:Int} (h:Q (.str "int") H):G (k+1) "kind_of" [.int i] H Q:=m.run 4 rfl rfl rfl h
theorem lK (m:aQ G) {xs:List AV} (e:H.g a= .list xs) (h:Q (.str "array") H):G (k+1) "kind_of" [.ref a] H Q:=by
 refine m.run 4 rfl rfl rfl ?_
 exact ad e (ad e (ad e (ad e (ad e (ad e h)))))
theorem lH (m:aQ G) {xs:List (AV × AV)} (e:H.g a= .dict xs) (h:Q (.str "dict") H):G (k+1) "kind_of" [.ref a] H Q:=by
 refine m.run 4 rfl rfl rfl ?_
 exact ad e (ad e (ad e (ad e (ad e (ad e (ad e h))))))
theorem lB (m:aQ G) {s:String} (e:H.g a=z0 s) (h:Q (.str "name") H):G (k+1) "kind_of" [.ref a] H Q:=by
 refine m.run 4 rfl rfl rfl ?_
 exact ad e (ad e (ad e (ad e h)))
theorem iy (m:aQ G) {hd:Nat} {b:List UInt8} (e:H.g a=nG hd b) (h:Q (.str "stream") H):G (k+1) "kind_of" [.ref a] H Q:=by
 refine m.run 4 rfl rfl rfl ?_
 exact ad e (ad e (ad e (ad e (ad e (ad e (ad e (ad e h)))))))
theorem vb (m:aQ G) {n:Int} (e:H.g a=cJ n) (h:Q (.str "ref") H):G (k+1) "kind_of" [.ref a] H Q:=by
 refine m.run 4 rfl rfl rfl ?_
 exact ad e (ad e (ad e (ad e (ad e (ad e (ad e (ad e (ad e h))))))))
theorem RA.set {v:AV} {x:At} (r:RA H v x):v≠ .unset:=λq=>by
 subst q
 cases x with
 | none=>cases r
 | int=>cases r
 | name=>exact r.elim λzz r=>nomatch r.1
 | ref=>exact r.elim λzz r=>nomatch r.1
theorem RV.set {v:AV} {x:Va} (r:RV P H v x):v≠ .unset:=λq=>by
 cases x with
 | «at»=>exact RA.set r q
 | arr=>exact aq r λzz zz r=>nomatch q.symm.trans r.1
theorem mK.some {α β:Type} {r:α->β->Prop} {x:Option α} {y:Option β} {b:β} (h:mK r x y) (e:y=some b):∃a,x=some a/\r a b:=by rw [e] at h;exact h
theorem mK.none {α β:Type} {r:α->β->Prop} {x:Option α} {y:Option β} (h:mK r x y) (e:y= .none):x= .none:=by rw [e] at h;exact h
theorem mK.isSome {α β:Type} {r:α->β->Prop} {x:Option α} {y:Option β} (h:mK r x y):x.isSome=y.isSome:=by
 cases y with
 | none=>rw [h.none rfl];rfl
 | some b=>exact h.elim λzz q=>q.1▸rfl
theorem RD.at {d:Di} (rd:RD P H a d) {FO:AO->Prop} (k:∀es,H.g a= .dict es->L2 (RE P H) es d->FO (.dict es)):ob (H.g a) FO:=rd.ex.elim λes e=>ad e.1 (k es e.1 e.2)
theorem RD.idx {d:Di} (rd:RD P H a d) {key:String} {va:Va} (hl:look key d=some va) {F:AV->Prop} (k:∀u,RV P H u va->F u):ob (H.g a) (GB (.str key) F):=
 rd.at λzz zz l=>⟨dm l,((fZ l).some hl).elim λu q=>dE q.1 (k u q.2)⟩
theorem RD.isin {d:Di} (rd:RD P H a d) {key:String} {F:Bool->Prop} (k:F (look key d).isSome):ob (H.g a) (in1 (.str key) F):=
 rd.at λzz zz l=>⟨dm l,qX (fZ l).isSome k⟩
theorem RD.Uk {d:Di} (rd:RD P H a d) {key:String} (hl:look key d= .none) (k:Q .none H):Lu a "get" Q [.str key] H:=
 rd.at λzz zz l=>⟨dm l,ZV ((fZ l).none hl) k⟩
theorem RD.IA {d:Di} (rd:RD P H a d) {key:String} {va:Va} (hl:look key d=some va) (k:∀u,RV P H u va->Q u H):Lu a "get" Q [.str key] H:=
 rd.at λzz zz l=>⟨dm l,((fZ l).some hl).elim λu q=>Tj q.1 (k u q.2)⟩
theorem cP (m:aQ G) {n:Int} (e:H.g a=cJ n) (h:Q (.tup [.int n,.int 0]) H):G (k+1) "Reference.pair" [.ref a] H Q:=m.run 3 rfl rfl rfl (ad e (ad e h))
structure eA (H:HP) (v:AV):Prop where
 set:v≠ .unset
 isin:∀F:Bool->Prop,F false->Dy v "Reference" H F
theorem eA.none:eA H .none:=⟨nofun,λzz h=>h⟩
theorem eA.int {i:Int}:eA H (.int i):=⟨nofun,λzz h=>h⟩
theorem eA.list {xs:List AV} (e:H.g a= .list xs):eA H (.ref a):=⟨nofun,λzz h=>ad e h⟩
theorem eA.dict {xs:List (AV × AV)} (e:H.g a= .dict xs):eA H (.ref a):=⟨nofun,λzz h=>ad e h⟩
theorem eA.stream {hd:Nat} {b:List UInt8} (e:H.g a=nG hd b):eA H (.ref a):=⟨nofun,λzz h=>ad e h⟩
theorem eA.name {s:String} (e:H.g a=z0 s):eA H (.ref a):=⟨nofun,λzz h=>ad e h⟩
theorem RO.noRef {v:AV}:∀{ob:Ob},RO P H v ob->eA H v
 | .null,r=>r▸ .none
 | .dict _,r=>r.elim λzz r=>r.1▸r.2.ex.elim λzz e=>.dict e.1
 | .stream _ _,r=>aq r λzz zz r=>r.1▸ .stream r.2.1.2
noncomputable def Va.isRef:Va->Bool
 | .at (.ref _)=>true
 | _=>false
theorem RV.noRef {v:AV}:∀{x:Va},RV P H v x->x.isRef=false->eA H v:=by
 intro x r h
 cases x with
 | «at» a=>cases a with
  | none=>exact Eq.symm r▸ .none
  | int _=>exact Eq.symm r▸ .int
  | name _=>exact r.elim λzz r=>r.1▸ .name r.2.2
  | ref _=>exact (aaE h.symm).elim
 | arr _=>exact aq r λzz zz r=>r.1▸ .list r.2.2.1
theorem i6 (m:aQ G) {s v:AV} (n:eA H v) (h:Q v H):G (k+1) "Lookup.fetch" [s,v] H Q:=by
 refine m.run 11 rfl rfl rfl (mJ n.set ?_)
 exact mJ n.set (n.isin _ (mJ n.set h))
theorem hY (m:aQ G) {s t:Nat} {tab:List (Int × Ob)} {tr:Di} {n:Int} {o:Ob} (rs:RS P H s t tab tr) (ha:H.g a=cJ n) (hl:ah n tab=some o) (h:∀u,RO P H u o->Q u H):G (k+1) "Lookup.fetch" [.ref s,.ref a] H Q:=by
 refine rs.ins.elim λr e1=>rs.tb.elim λes e2=>((gL e2.2).some hl).elim λv q=>q.2.elim λu w=>?_
 have nr:=w.2.noRef
 refine m.run 11 rfl rfl rfl (ad ha (ad e1.1 (ad e2.1 (ad ha (ad e2.1 ⟨fi e2.2,Tj (q.1.trans (congrArg some w.1)) ?_⟩)))))
 exact ad ha (mJ nr.set ⟨⟨rfl,rfl⟩,mJ nr.set (nr.isin _ (mJ nr.set (h u w.2)))⟩)
end
theorem L2.wm {α β:Type} {r:α->β->Prop} {l:List α} {m:List β} (h:L2 r l m):L2 (λa b=>r a b/\b∈m) l m:=h.rec .nil λa zz b=>.cons ⟨a,.head _⟩ (b.imp λzz zz q=>⟨q.1,.tail _ q.2⟩)
theorem L2.map_eq {α β γ:Type} {f:α->γ} {g:β->γ} {r:α->β->Prop} (Ty:∀a b,r a b->f a=g b) {l:List α} {m:List β} (h:L2 r l m):l.map f=m.map g:=h.rec rfl λa zz b=>congr (congrArg List.cons (Ty _ _ a)) b
theorem L2.yc {α β γ:Type} {r:α->γ->Prop} {f:β->γ} {l:List α} {m:List β} (h:L2 (λa b=>r a (f b)) l m):L2 r l (m.map f):=h.rec .nil λa zz b=>.cons a b
theorem L2.mR {α β γ:Type} {r:γ->β->Prop} {f:α->γ} {l:List α} {m:List β} (h:L2 (λa b=>r (f a) b) l m):L2 r (l.map f) m:=h.rec .nil λa zz b=>.cons a b
theorem L2.rev {α β:Type} {r:α->β->Prop} {l:List α} {m:List β} (h:L2 r l m):L2 r l.reverse m.reverse:=h.rec .nil λa zz b=>by rw [List.reverse_cons,List.reverse_cons];exact b.snoc a
theorem L2.diag {α:Type} {r:α->α->Prop}:∀{l:List α},(∀x∈l,r x x)->L2 r l l
 | [],_=>.nil
 | _::_,h=>.cons (h _ (.head _)) (L2.diag λy hy=>h y (.tail _ hy))
section
variable {G:Nat->aj} {H H0:HP} {Q:KV} {QL:KL} {k a:Nat} {P S:Nat->Prop} {loc:Loc} {elt:PX} {cs:PC} {tg:Tg} {src:HP->Prop}
noncomputable abbrev Gj (elt:PX) (cs:PC) (tg:Tg) (loc:Loc) (v:AV) (H:HP) (C:KV) (N:HP->Prop):Prop:=opt (fT tg v loc) (Wi elt cs C N H)
theorem lD (I:List AV->List AV->HP->Prop) (step:∀v vs acc H (C:KV) (N:HP->Prop),I (v::vs) acc H->(∀x H',src H'->acc.length < lim->I vs (acc++[x]) H'->C x H')->(∀H',src H'->I vs acc H'->N H')->Gj elt cs tg loc v H C N) (vs:List AV):
  ∀acc H,I vs acc H->(∀acc H,I [] acc H->QL acc H)->i9 elt cs tg src loc vs H acc QL:=by
 induction vs with
 | nil=>exact λacc H h hQ=>hQ acc H h
 | cons v vs ih=>exact λacc H h hQ=>step v vs acc H _ _ h (λx H' s l h'=>⟨s,l,ih _ _ h' hQ⟩) λH' s h'=>⟨s,ih _ _ h' hQ⟩
theorem AY {β:Type} {r:AV->β->Prop} (f:β->AV) (p:β->Bool) {vs:List AV} {ws:List β} (Fr:∀H',ai S H0 H'->src H')
  (step:∀v w H' (C:KV) (N:HP->Prop),r v w->ai S H0 H'->(p w=true->∀bz,ai S H0 bz->C (f w) bz)->(p w=false->∀bz,ai S H0 bz->N bz)->Gj elt cs tg loc v H' C N)
  (hr:L2 r vs ws):∀acc H,acc.length+vs.length<=lim->ai S H0 H->(∀H',ai S H0 H'->QL (acc++(ws.filter p).map f) H')->i9 elt cs tg src loc vs H acc QL:=by
 induction hr with
 | nil=>exact λacc H zz hf hQ=>(aaY acc).subst (motive:=λx=>QL x H) (hQ H hf)
 | cons rv _ ih=>
  exact λacc H hl hf hQ=>step _ _ H _ _ rv hf
   (λe bz G9=>⟨Fr _ G9,aax (abl (Nat.succ_pos _)) hl,ih _ _ (by rw [aaD,aa9,abg (List.length [_])];exact hl) G9 λH3 f3=>by have:=hQ H3 f3;rwa [List.filter_cons_of_pos e,aa4,List.append_cons] at this⟩)
   λe bz G9=>⟨Fr _ G9,ih _ _ (Nat.le_of_succ_le hl) G9 λH3 f3=>by have:=hQ H3 f3;rwa [List.filter_cons_of_neg ((e)▸aaE)] at this⟩
theorem rN {α:Type} (l:List α):l.filter (λzz=>true)=l:=List.filter_eq_self.mpr λzz zz=>rfl
noncomputable def Sn (a:Nat) (xs:List AV) (H:HP):HP->Prop:=cy (.obj a) xs ((Src.obj a).gU H)
theorem bC {H':HP} {n:Nat} {all:List AV} (f:ai S H H') (ha:a < H.n) (hs:¬S a) (h:cy (.obj a) all n H):cy (.obj a) all n H':=by
 have q:=f.same a ha hs
 show ft _=_/\jB _ _=_
 rw [q.1,q.2];exact h
noncomputable abbrev pP (Q:KV) (H:HP) (S:Nat->Prop) (xs:List AV):Prop:=∀H' a',ai S H H'->H.n<=a'->a' < H'.n->H'.g a'= .list xs->Q (.ref a') H'
theorem G3 {xs:List AV} (h:pP Q H S xs) {H':HP} (f:ai S H H'):Lp Q xs H':=cN λH2 f2 n2 e2=>h H2 _ (f.tn f2) f.le (by rw [n2];exact aaC _) e2
theorem eJ {β:Type} {r:AV->β->Prop} {xs:List AV} {ws:List β} (e:ft (H.g a)=some xs) (la:a < H.n) (f:β->AV) (p:β->Bool) (hr:L2 r xs ws) (hl:xs.length<=lim)
  (step:∀v w H' (C:KV) (N:HP->Prop),r v w->ai aJ H H'->(p w=true->∀bz,ai aJ H bz->C (f w) bz)->(p w=false->∀bz,ai aJ H bz->N bz)->Gj elt cs tg loc v H' C N)
  (h:pP Q H aJ ((ws.filter p).map f)):fb elt tg .plain cs loc Q [.ref a] H:=
 dE e (AY f p (λH' f'=>bC f' la id ⟨e,rfl⟩) step hr [] H (by rwa [List.length_nil,abE]) .refl λH' f'=>G3 h f')
theorem dS {β:Type} {r:AV->β->Prop} {xs:List AV} {ws:List β} (e:ft (H.g a)=some xs) (la:a < H.n) (f:β->AV) (hr:L2 r xs ws) (hl:xs.length<=lim)
  (step:∀v w H' (C:KV) (N:HP->Prop),r v w->ai aJ H H'->(∀bz,ai aJ H bz->C (f w) bz)->Gj elt cs tg loc v H' C N)
  (h:pP Q H aJ (ws.map f)):fb elt tg .plain cs loc Q [.ref a] H:=
 eJ e la f (λzz=>true) hr hl (λv w H' C N rv f' y zz=>step v w H' C N rv f' (y rfl)) (by rwa [rN])
theorem aH {xs:List AV} (e:H.g a= .list xs):ft (H.g a)=some xs:=e▸rfl
noncomputable def V7 (C:KS) (src:HP->Prop) (I:List AV->Loc->HP->Prop) (vs:List AV):Prop:=∀loc' H',src H'->I vs loc' H'->C .next loc' H'
noncomputable def R9 (C QS:KS):Prop:=∀v loc' H',QS (.ret v) loc' H'->C (.ret v) loc' H'
theorem NI {body:PS} {QS:KS} (I:List AV->Loc->HP->Prop) (step:∀v vs loc H (C:KS),I (v::vs) loc H->V7 C src I vs->R9 C QS->opt (fT tg v loc) (M2 body H C)) (vs:List AV):
  ∀loc H,I vs loc H->(∀loc H,I [] loc H->QS .next loc H)->lG body tg src vs loc H QS:=by
 induction vs with
 | nil=>exact λloc H h hQ=>hQ loc H h
 | cons v vs ih=>exact λloc H h hQ=>step v vs loc H _ h (λloc' H' s h'=>⟨s,ih _ _ h' hQ⟩) λzz zz zz q=>q
theorem EB {body:PS} {QS:KS} (I:List AV->Loc->HP->Prop) (step:∀v vs loc H (C:KS),I (v::vs) loc H->V7 C src I vs->opt (fT tg v loc) (M2 body H C)) (vs:List AV) (loc:Loc) (H:HP) (h:I vs loc H) (hQ:∀loc H,I [] loc H->QS .next loc H):lG body tg src vs loc H QS:=
 NI I (λv vs loc H C h n zz=>step v vs loc H C h n) vs loc H h hQ
theorem Me {α σ:Type} {body:PS} {QS:KS} (enc:α->AV) (J:σ->Loc->HP->Prop) (F:σ->α->σ) (hs:∀{st loc H},J st loc H->src H) (l:List α) (step:∀a,a∈l->∀st loc H (C:KS),J st loc H->(∀loc' H',J (F st a) loc' H'->C .next loc' H')->opt (fT tg (enc a) loc) (M2 body H C)):
  ∀{st:σ} {loc:Loc} {H:HP},J st loc H->(∀loc' H',J (l.foldl F st) loc' H'->QS .next loc' H')->∀{vs:List AV},vs=l.map enc->lG body tg src vs loc H QS:=by
 induction l with
 | nil=>exact λj hQ vs e=>e▸hQ _ _ j
 | cons a l ih=>exact λj hQ vs e=>e▸step a (.head _) _ _ _ _ j λloc' H' j'=>⟨hs j',ih (λb hb=>step b (.tail _ hb)) j' hQ rfl⟩
noncomputable def nZ:At->AV
 | .none=>.tup [.str "null"]
 | .int i=>.tup [.str "int",.int i]
 | .name s=>.tup [.str "name",.str s]
 | .ref n=>.tup [.str "ref",.int n,.int 0]
noncomputable def mI:Va->AV
 | .at a=>nZ a
 | .arr xs=>.tup (.str "array"::xs.map nZ)
noncomputable def JB (v:AV):String:=match v with
 | .str s=>s
 | _=>""
noncomputable def Aj (d:Di) (key:AV):AV:= .tup [key,((look (JB key) d).map mI).getD .none]
noncomputable def bH (d:Di):List AV:=d.map λx=>.str x.1
noncomputable def mG (d:Di):AV:= .tup (.str "dict"::(bt (bH d)).map (Aj d))
noncomputable def sd:Ob->AV
 | .null=>.tup [.str "null"]
 | .dict d=>mG d
 | .stream d b=>.tup [.str "stream",mG d,.bytes b]
theorem hW (m:aQ G) {v:AV} {x:At} (r:RA H v x) (h:Q (nZ x) H):G (k+2) "told" [v] H Q:=by
 cases x with
 | none=>subst r;exact m.run 6 rfl rfl rfl (lA m (m.run 5 rfl rfl rfl h))
 | int i=>subst r;exact m.run 6 rfl rfl rfl (om m (m.run 5 rfl rfl rfl h))
 | name s=>exact r.elim λa r=>r.1▸m.run 6 rfl rfl rfl (lB m r.2.2 (m.run 5 rfl rfl rfl (ad r.2.2 h)))
 | ref n=>exact r.elim λa r=>r.1▸m.run 6 rfl rfl rfl (vb m r.2.2 (m.run 5 rfl rfl rfl (ad r.2.2 (ad r.2.2 h))))
noncomputable def xG:Va->Prop
 | .at _=>True
 | .arr xs=>xs.length < 1000
theorem ie {n:Nat} (h:n < 1000):n < lim:=aaA h (by decide)
theorem vy (m:aQ G) {v:AV} {x:Va} (r:RV P H v x) (hl:xG x) (h:∀H',ai aJ H H'->Q (mI x) H'):G (k+3) "told" [v] H Q:=by
 cases x with
 | «at» x=>exact hW m r (h H .refl)
 | arr xs=>
  refine aq r λa vs r=>r.1▸m.run 6 rfl rfl rfl (lK m r.2.2.1 ?_)
  have ll:vs.length < lim:=r.2.2.2.len▸ie hl
  refine dS (aH r.2.2.1) r.2.1.1 nZ r.2.2.2 (aaI ll) (λv w H' C N rv f y=>mJ rv.set (m.told (hW m (rv.mono f) (y _ f)))) λH' a' f zz zz e=>?_
  exact ad e ⟨by rw [aaB,<-r.2.2.2.len,abg];exact ll,h _ f⟩
theorem uR {x y:AV}:∀{l:List AV},x∈xB y l ↔ x=y\/x∈l
 | []=>aaH
 | z::l=>by
  show x∈(bif _ then _ else _) ↔ _
  cases qg z y with
  | true=>show x∈z::_ ↔ _;rw [aaH,uR,aaH];exact or_left_comm
  | false=>exact aaH
theorem bO {x:AV}:∀{xs:List AV},x∈bt xs ↔ x∈xs
 | []=>.rfl
 | y::r=>by rw [aaH,<-bO (xs:=r)];exact uR
theorem vq {y:AV}:∀{l:List AV},(xB y l).length=l.length+1
 | []=>rfl
 | z::l=>by
  show (bif _ then _ else _:List AV).length=_
  cases qg z y with
  | true=>exact congrArg (· +1) vq
  | false=>rfl
theorem dD:∀{xs:List AV},(bt xs).length=xs.length
 | []=>rfl
 | y::r=>vq.trans (congrArg (· +1) dD)
theorem jW {es:List (AV × AV)} {d:Di} (l:L2 (RE P H) es d):es.map (·.1)=bH d:=l.map_eq λzz zz r=>r.1
theorem kg {key:String} {v:Va}:∀{d:Di},(key,v)∈d->∃v,look key d=some v
 | e::r,h=>by
  show ∃v,(bif _ then _ else _)=_
  rcases aaH.mp h with q | q
  .subst q;rw [beq_self_eq_true];exact ⟨_,rfl⟩
  .cases e.1==key with
   | true=>exact ⟨_,rfl⟩
   | false=>exact kg q
theorem cB {key:String} {v:Va}:∀{d:Di},look key d=some v->(key,v)∈d
 | (j,w)::r,h=>by
  have h:(bif j==key then some w else look key r)=some v:=h
  cases q:j==key with
  | true=>rw [q] at h;obtain rfl:=aay h;obtain rfl:=eq_of_beq q;exact .head _
  | false=>rw [q] at h;exact .tail _ (cB h)
theorem dq {d:Di} {x:AV} (h:x∈bH d):∃s va,x= .str s/\look s d=some va:=(aaG.mp h).elim λy q=>(kg (key:=y.1) (v:=y.2) q.1).imp' (λzz=>y.1) λva e=>⟨va,q.2.symm,e⟩
theorem Gz (d:Di):(bH d).all AV.pR=true:=aaX.mpr λx h=>(aaG.mp h).elim λy q=>q.2▸rfl
theorem RD.sorted {d:Di} (rd:RD P H a d) (hl:d.length < 64) (h:pP Q H aJ (bt (bH d))):jQ (.ref a) H Q:=
 rd.at λes zz l=>by
  show uJ (es.map (·.1)) H Q
  rw [jW l]
  exact ⟨.inr (Gz d),by rw [bH,aaB];exact hl,G3 h .refl⟩
noncomputable def eI (d:Di):Prop:=d.length < 64/\∀x∈d,x.2≠ .at .none/\xG x.2
theorem RV.bL {v:AV} {x:Va} (r:RV P H v x) (h:x≠ .at .none):v.isNone=false:=by
 cases x with
 | «at» x=>cases x with
  | none=>exact absurd rfl h
  | int=>subst r;rfl
  | name=>exact r.elim λzz r=>r.1▸rfl
  | ref=>exact r.elim λzz r=>r.1▸rfl
 | arr=>exact aq r λzz zz r=>r.1▸rfl
theorem gJ {n:Nat} (h:n < 64):n < lim:=aaA h (by decide)
theorem ij (m:aQ G) {d:Di} (rd:RD P H a d) (ok:eI d) (h:∀H',ai aJ H H'->Q (mG d) H'):G (k+4) "told" [.ref a] H Q:=by
 refine rd.ex.elim λes l=>m.run 6 rfl rfl rfl (lH m l.1 (rd.sorted ok.1 λH1 b f1 zz lb eb=>?_))
 have ln:(bt (bH d)).length < lim:=by rw [dD,bH,aaB];exact gJ ok.1
 refine dS (aH eb) lb (Aj d) (L2.diag (r:=λx y=>x=y) λzz zz=>rfl).wm (aaI ln) (λv w H' C N rv f y=>?_) λH' a' f zz zz e=>?_
 .obtain rfl:=rv.1
  refine aq (dq (bO.mp rv.2)) λs va r=>?_
  obtain rfl:=r.1
  have V6:=rd.mn (f1.tr f)
  have RC:=ok.2 _ (cB r.2)
  refine V6.idx r.2 λu ru=>qX (congrArg Bool.not (ru.bL RC.1)) ?_
  refine V6.idx r.2 λu ru=>m.told (vy m ru RC.2 λbz f2=>?_)
  have:=y bz (f.tr f2)
  have e:Aj d (.str s)= .tup [.str s,mI va]:=by show AV.tup [_,((look s d).map mI).getD .none]=_;rw [r.2];rfl
  rw [e] at this
  exact this
 .exact ad e ⟨by rw [aaB,abg];exact ln,h _ (f1.tr f)⟩
end
theorem Fn (a:AV):∀b,iY a b=true->a=b:=AV.rec (motive_1:=λa=>∀b,iY a b=true->a=b) (motive_2:=λxs=>∀ys,Hz xs ys=true->xs=ys)
 (λb h=>by cases b<;>first | rfl | exact absurd h aaE)
 (λb h=>by cases b<;>first | rfl | exact absurd h aaE)
 (λi b h=>by cases b<;>first | exact congrArg _ (eq_of_beq h) | exact absurd h aaE)
 (λi b h=>by cases b<;>first | exact congrArg _ (of_decide_eq_true h) | exact absurd h aaE)
 (λi b h=>by cases b<;>first | exact congrArg _ (of_decide_eq_true h) | exact absurd h aaE)
 (λi b h=>by cases b<;>first | exact congrArg _ (of_decide_eq_true h) | exact absurd h aaE)
 (λxs ih b h=>by cases b<;>first | exact congrArg _ (ih _ h) | exact absurd h aaE)
 (λi b h=>by cases b<;>first | exact congrArg _ (Nat.eq_of_beq_eq_true h) | exact absurd h aaE)
 (λys h=>by cases ys<;>first | rfl | exact absurd h aaE)
 (λx xs ih Y6 ys h=>by
  cases ys with
  | nil=>exact absurd h aaE
  | cons y ys=>
   have h:=(Bool.and_eq_true _ _).mp h
   rw [ih _ h.1,Y6 _ h.2]) a
theorem jP (a:AV):iY a a=true:=AV.rec (motive_1:=λa=>iY a a=true) (motive_2:=λxs=>Hz xs xs=true) rfl rfl (λi=>beq_self_eq_true i) (λzz=>decide_eq_true rfl) (λzz=>decide_eq_true rfl) (λzz=>decide_eq_true rfl) (λzz h=>h) (λi=>Nat.beq_refl i) rfl
 (λzz zz h1 h2=>(Bool.and_eq_true _ _).mpr ⟨h1,h2⟩) a
theorem yg {a b:AV} (h:a≠b):iY a b=false:=Bool.eq_false_iff.mpr λq=>h (Fn a b q)
instance:DecidableEq AV:=λa b=>match h:iY a b with
 | true=>.isTrue (Fn a b h)
 | false=>.isFalse λq=>by rw [q,jP] at h;cases h
section
variable {k k' v w:AV} {es fs:List (AV × AV)}
theorem qR:getD k ((k,v)::es)=some v:=by show (bif _ then _ else _)=_;rw [jP];rfl
theorem lR (h:k'≠k):getD k ((k',v)::es)=getD k es:=by show (bif _ then _ else _)=_;rw [yg h];rfl
theorem lS:bT k v ((k,w)::es)=(k,v)::es:=by show (bif _ then _ else _)=_;rw [jP];rfl
theorem iN (h:k'≠k):bT k v ((k',w)::es)=(k',w)::bT k v es:=by show (bif _ then _ else _)=_;rw [yg h];rfl
theorem getD_some:(getD k es).isSome=true ↔ k∈es.map (·.1):=by
 induction es with
 | nil=>exact ⟨nofun,λh=>(aaU h).elim⟩
 | cons e r ih=>
  by_cases q:e.1=k
  .subst q;exact iff_of_true (congrArg Option.isSome qR) (.head _)
  .rw [show getD k (e::r)=_ from lR q,ih,aa4,aaH]
   exact ⟨.inr,λh=>h.resolve_left λe=>q e.symm⟩
theorem C2 {e:AV × AV} {r:List (AV × AV)} (q:e.1=k):k∈(e::r).map (·.1):=q▸ .head _
theorem MU (h:k ∉ es.map (·.1)):getD k es= .none:=Option.not_isSome_iff_eq_none.mp λq=>h (getD_some.mp q)
theorem dY (h:k ∉ es.map (·.1)):bT k v es=es++[(k,v)]:=by
 induction es with
 | nil=>rfl
 | cons e r ih=>exact (iN λq=>h (C2 q)).trans (congrArg _ (ih λq=>h (.tail _ q)))
theorem FG (h:k ∉ es.map (·.1)):getD k (es++fs)=getD k fs:=by
 induction es with
 | nil=>rfl
 | cons e r ih=>exact (lR λq=>h (C2 q)).trans (ih λq=>h (.tail _ q))
end
noncomputable def dO (m:Nat):List AV:=(List.range m).map λ(i:Nat)=>AV.int ((i:Int)+1)
theorem oX {m:Nat} {n:Int}:AV.int n∈dO m ↔ 1<=n/\n<=m:=by
 refine aaG.trans ⟨λt0=>aw t0 λi h e=>?_,λh=>⟨(n - 1).toNat,List.mem_range.mpr ?_,congrArg AV.int ?_⟩⟩
 .cases e;rw [List.mem_range] at h;exact zw rfl h
 .exact zt h.1 (zr h.2)
 .exact zv h.1
theorem iw {es:List (AV × AV)} {m:Nat} (h:es.map (·.1)=dO m) (n:Int):bB (.int n) es:=⟨abC 1,λe he=>
 have:e.1∈dO m:=h▸abi he
 (aaG.mp this).elim λi q=>q.2▸rfl⟩
theorem Df {xs:List AV} (h:xs.Pairwise λa b=>qg b a=false):bt xs=xs:=by
 induction h with
 | nil=>rfl
 | @cons x l h _ ih=>
  show xB x (bt l)=_
  rw [ih]
  cases l with
  | nil=>rfl
  | cons y l=>show (bif qg y x then _ else _)=_;rw [h y (.head _)];rfl
theorem xW (m:Nat):bt (dO m)=dO m:=Df (List.pairwise_map.mpr (List.pairwise_lt_range.imp λh=>decide_eq_false (λe=>Nat.lt_asymm h (HJ (Int.lt_of_add_lt_add_right e)))))
theorem oC (m:Nat):(dO m).length=m:=by rw [dO,aaB,List.length_range]
theorem Mp (m:Nat):(dO m).all AV.qd=true:=aaX.mpr λx h=>(aaG.mp h).elim λy q=>q.2▸rfl
theorem lL {tab:List (Int × Ob)} {w:Int × Ob} (nd:(tab.map (·.1)).Nodup) (h:w∈tab):ah w.1 tab=some w.2:=by
 induction tab with
 | nil=>cases h
 | cons e r ih=>
  have nd:=aa8.mp nd
  show (bif decide (e.1=w.1) then some e.2 else ah w.1 r)=_
  rcases aaH.mp h with q | q
  .rw [q,decide_eq_true rfl];rfl
  .rw [decide_eq_false λz:e.1=w.1=>nd.1 (aaG.mpr ⟨w,q,z.symm⟩)];exact ih nd.2 q
theorem bp {n:Int} {o:Ob} {tab:List (Int × Ob)} (h:ah n tab=some o):(n,o)∈tab:=by
 induction tab with
 | nil=>cases h
 | cons e r ih=>
  have h:(bif decide (e.1=n) then some e.2 else ah n r)=some o:=h
  by_cases q:e.1=n
  .rw [decide_eq_true q] at h;obtain rfl:=aay h;exact (q)▸ .head _
  .rw [decide_eq_false q] at h;exact .tail _ (ih h)
noncomputable def de:Ob->Prop
 | .null=>True
 | .dict d | .stream d _=>eI d
noncomputable def EN (tab:List (Int × Ob)) (tr:Di):AV:= .tup [.tup (tab.map λw=>.tup [.int w.1,.int 0,sd w.2]),mG tr]
section
variable {G:Nat->aj} {H H0:HP} {Q:KV} {QL:KL} {QS:KS} {k a:Nat} {P S:Nat->Prop} {loc:Loc} {c:PX} {b:PS}
noncomputable def Ss (C:KS) (I:Nat->Loc->HP->Prop) (j:Nat) (fl:Fl):Prop:=∀i loc' H',i < j->I i loc' H'->C fl loc' H'
noncomputable def Wc (C QS:KS):Prop:=(∀v loc' H',QS (.ret v) loc' H'->C (.ret v) loc' H')/\∀loc' H',QS .next loc' H'->C .brk loc' H'
theorem KJ (I:Nat->Loc->HP->Prop) (n:Nat) (h:I n loc H) (step:∀j loc H (C:KS),I j loc H->Ss C I j .next->Ss C I j .cont->Wc C QS->c loc H (kT (Nr b C QS loc))):R3 c b loc H QS:=
 (bI I n ⟨h,λj loc H h=>step j loc H _ h (λi zz zz l h=>⟨i,l,h⟩) (λi zz zz l h=>⟨i,l,h⟩) ⟨λzz zz zz h=>h,λzz zz h=>h⟩⟩)
theorem Q7 (I:Nat->Loc->HP->Prop) (n:Nat) (h:I n loc H) (step:∀j loc H (C:KS),I j loc H->Ss C I j .next->c loc H (kT (Nr b C QS loc))):R3 c b loc H QS:=KJ I n h λj loc H C h n zz zz=>step j loc H C h n
theorem Px (step:∀C:KS,Wc C QS->c loc H (kT (Nr b C QS loc))):R3 c b loc H QS:=KJ (λzz loc' H'=>loc'=loc/\H'=H) 0 ⟨rfl,rfl⟩ λj loc' H' C e zz zz x=>by rw [e.1,e.2];exact step C x
theorem ai.re {H':HP} (f:ai aJ H H') {o:AO} (h:H.n<=a):ai aJ H (H'.set a o):=
 ⟨f.le,λzz hb zz=>have n:=aaJ (aax hb h);⟨(d5 n).trans (f.same _ hb id).1,(DZ n).trans (f.same _ hb id).2⟩,λzz zz hb e hc=>(d5 (aaJ (aax hb h))).trans (f.inst _ _ hb e hc)⟩
noncomputable abbrev yl (Q:KV) (H:HP) (o:AO):Prop:=∀H',ai aJ H H'->H'.n=H.n+1->H'.g H.n=o->Q (.ref H.n) H'
theorem gc (m:aQ G) {s:String} (h:yl Q H (z0 s)):sE (G (k+1)) "Name" [.str s] H Q:=by
 refine m.run 0 rfl rfl rfl (ad dw (upd.mk ?_))
 exact ⟨rfl,h _ (ai.push.re (aaF _)) rfl bo⟩
theorem tU (m:aQ G) {i:Nat} {c x y q:String} {v w:AV} (hq:Fi.lookup c=some q) (hi:eU[i]? =some (q,["self",x,y],.cons (.dQ (.loc "self") x (.loc x)) (.o (.dQ (.loc "self") y (.loc y))))) (hn:((y==x)=false/\(x==y)=false)/\((q=="Lookup.__init__")=false/\(("self"==x)=false/\("self"==y)=false))) (hv:v≠ .unset) (hw:w≠ .unset) (h:yl Q H (.inst c [(x,v),(y,w)])):sE (G (k+1)) c [v,w] H Q:=by
 refine dE hq (m.run i hi hn.2.1 rfl ?_)
 have ls:(((Loc.new.upd "self" (.ref H.n)).upd x v).upd y w) "self"= .ref H.n:=by
  show (bif "self"==y then w else bif "self"==x then v else _)=_
  rw [hn.2.2.2,hn.2.2.1];rfl
 have lx:(((Loc.new.upd "self" (.ref H.n)).upd x v).upd y w) x=v:=by
  show (bif x==y then w else bif x==x then v else _)=_
  rw [hn.1.2,beq_self_eq_true];rfl
 have ly:(((Loc.new.upd "self" (.ref H.n)).upd x v).upd y w) y=w:=by
  show (bif y==y then w else _)=_
  rw [beq_self_eq_true];rfl
 refine ak lx (mJ hv (ak ls (ad dw (upd.mk ?_))))
 refine ak ly (mJ hw (ak ls (ad bo (upd.mk ?_))))
 refine ⟨rfl,h _ ((ai.push.re (aaF _)).re (aaF _)) rfl (bo.trans ?_)⟩
 show AO.inst c ((bif x==y then _ else _))=_
 rw [hn.1.2];rfl
theorem jy (m:aQ G) {hd:Nat} {b:List UInt8} (h:yl Q H (nG hd b)):sE (G (k+1)) "Stream" [.ref hd,.bytes b] H Q:=tU m (i:=1) rfl rfl ⟨⟨rfl,rfl⟩,rfl,rfl,rfl⟩ nofun nofun h
theorem Aa (m:aQ G) {n:Int} (h:yl Q H (cJ n)):sE (G (k+1)) "Reference" [.int n,.int 0] H Q:=tU m (i:=2) rfl rfl ⟨⟨rfl,rfl⟩,rfl,rfl,rfl⟩ nofun nofun h
theorem Pv (m:aQ G) {s t:Nat} {r v:AV} {n:Int} {es:List (AV × AV)} (hv:v≠ .unset) (hs:H.g s=ip t r) (ht:H.g t= .dict es) (kf:bB (.int n) es) (hl:es.length < lim)
  (h:∀H',ai (atS t) H H'->H'.n=H.n->H'.g t= .dict (bT (.int n) (.tup [.int 0,v]) es)->Q .none H'):G (k+1) "Shelf.put" [.ref s,.int n,.int 0,v] H Q:=
 m.run 13 rfl rfl rfl (mJ hv (ad hs (ad ht ⟨kf,hl,m6 ht h⟩)))
theorem DX (m:aQ G) {s t:Nat} {r v:AV} {es:List (AV × AV)} (hv:v≠ .unset) (hs:H.g s=ip t r) (ht:H.g t= .dict es) (hn:es.map (·.1)=dO es.length) (hl:es.length < 64)
  (h:∀H',ai (atS t) H H'->H'.n=H.n+1->H'.g t= .dict (es++[(.int ((es.length:Int)+1),.tup [.int 0,v])])->H'.g H.n=cJ ((es.length:Int)+1)->Q (.ref H.n) H') (lt:t < H.n):G (k+2) "Shelf.add" [.ref s,v] H Q:=by
 refine m.run 14 rfl rfl rfl (Q7 (λj loc H'=>H'=H/\(loc "self"= .ref s/\loc "value"=v)/\∃n:Int,loc "number"= .int n/\1<=n/\n<=es.length+1/\(j:Int)=es.length+1 - n) es.length ⟨rfl,⟨rfl,rfl⟩,1,rfl,by decide,Int.le_add_of_nonneg_left (aa0 _),(Int.add_sub_cancel _ 1).symm⟩ ?_)
 rintro j loc _ C ⟨rfl,⟨l1,l2⟩,n,l3,h1,h2,h3⟩ hC
 refine ak l3 (ak l1 (ad hs (ad ht ⟨iw hn n,Fu (λe=>?_) λe=>?_⟩)))
 .have:=(oX.mp (hn▸getD_some.mp e)).2
  exact ak l3 (hC (j - 1) _ _ (Nat.sub_lt (zy h3 this) Nat.one_pos) ⟨rfl,⟨l1,l2⟩,n+1,rfl,abd h1 (Int.le_add_of_nonneg_right (by decide)),Int.add_le_add_right this 1,(Int.ofNat_sub (zy h3 this)).trans ((congrArg (· - 1) h3).trans (Int.sub_sub _ _ 1))⟩)
 .have en:n=es.length+1:=by
   have:¬(1<=n/\n<=es.length):=λq=>(Bool.eq_false_iff.mp e) (getD_some.mpr (hn▸oX.mpr q))
   exact Int.le_antisymm (Int.le_of_sub_nonneg (h3▸aa0 _)) (Int.not_le.mp λx=>this ⟨h1,x⟩)
  subst en
  refine ak l2 (mJ hv (ak l1 (ad hs (ak l3 (ad ht ⟨iw hn _,gJ hl,?_⟩)))))
  rw [dY λq=>(Bool.eq_false_iff.mp e) (getD_some.mpr q)]
  refine m6 ht λH1 f1 n1 e1=>ak l3 (Aa m ?_)
  rw [yl,n1]
  exact λH2 f2 n2 e2=>h H2 (f1.tn f2) n2 (f2.keep (n1▸lt) e1) e2
theorem RS.nums {s t:Nat} {tab:List (Int × Ob)} {tr:Di} (r:RS P H s t tab tr) {es:List (AV × AV)} (l:L2 (RT P H) es tab):es.map (·.1)=dO tab.length:=by
 rw [l.map_eq (g:=λw=>AV.int w.1) λzz zz r=>r.1,show (tab.map λx=>AV.int x.1)=(tab.map (·.1)).map AV.int from aa5.symm,r.num,aa5]
 rfl
theorem RS.nd {s t:Nat} {tab:List (Int × Ob)} {tr:Di} (r:RS P H s t tab tr):(tab.map (·.1)).Nodup:=r.num▸List.Pairwise.map _ (λa b (h:a < b)=>(λe=>aaJ h (qk ((Int.add_left_inj 1).mp e)))) List.pairwise_lt_range
theorem rR (m:aQ G) {s t:Nat} {tab:List (Int × Ob)} {tr:Di} (r:RS P H s t tab tr) (h:pP Q H aJ (dO tab.length)):G (k+1) "Shelf.numbers" [.ref s] H Q:=
 r.ins.elim λzz e1=>r.tb.elim λes e=>m.run 15 rfl rfl rfl (ad e1.1 (ad e.1 (by
  show uJ (es.map (·.1)) H _
  rw [r.nums e.2]
  refine ⟨.inl (Mp _),oC _▸r.len,?_⟩
  rw [xW]
  exact G3 h .refl)))
theorem RO.dict {v:AV} {d:Di} (r:RO P H v (.dict d)) {F:AV->Prop} (h:∀a,RD P H a d->F (.ref a)):F v:=r.elim λa r=>r.1▸h a r.2
theorem sr (m:aQ G) {s t d:Nat} {tab:List (Int × Ob)} {tr dd:Di} {key:String} {n:Int} {o:Ob} (rs:RS P H s t tab tr) (rd:RD P H d dd) (hk:look key dd=some (.at (.ref n))) (hl:ah n tab=some o) (h:∀u,RO P H u o->Q u H):G (k+2) "Lookup.get" [.ref s,.ref d,.str key] H Q:=
 rs.ins.elim λzz e=>rd.ex.elim λzz e2=>m.run 12 rfl rfl rfl (ad e.1 (ad e2.1 (rd.IA hk λu ru=>ru.elim λb q=>q.1▸hY m rs q.2.2 hl h)))
theorem nK (m:aQ G) {s t d:Nat} {tab:List (Int × Ob)} {tr dd:Di} {key:String} {va:Va} (rs:RS P H s t tab tr) (rd:RD P H d dd) (hk:look key dd=some va) (nr:va.isRef=false) (h:∀u,RV P H u va->Q u H):G (k+2) "Lookup.get" [.ref s,.ref d,.str key] H Q:=
 rs.ins.elim λzz e=>rd.ex.elim λzz e2=>m.run 12 rfl rfl rfl (ad e.1 (ad e2.1 (rd.IA hk λu ru=>i6 m (ru.noRef nr) (h u ru))))
theorem xY (m:aQ G) {s t d:Nat} {tab:List (Int × Ob)} {tr dd:Di} {key:String} (rs:RS P H s t tab tr) (rd:RD P H d dd) (hk:look key dd= .none) (h:Q .none H):G (k+2) "Lookup.get" [.ref s,.ref d,.str key] H Q:=
 rs.ins.elim λzz e=>rd.ex.elim λzz e2=>m.run 12 rfl rfl rfl (ad e.1 (ad e2.1 (rd.Uk hk (i6 m .none h))))
theorem sK (m:aQ G) {s t:Nat} {tab:List (Int × Ob)} {tr:Di} {n:Int} {d:Di} (r:RS P H s t tab tr) (h1:look "Root" tr=some (.at (.ref n))) (h2:ah n tab=some (.dict d)) (h:∀a,RD P H a d->Q (.ref a) H):G (k+3) "Shelf.root" [.ref s] H Q:=
 r.ins.elim λzz e=>m.run 16 rfl rfl rfl (ad e.1 (ad e.1 (sr m r e.2 h1 h2 λu ru=>ru.elim λa q=>q.1▸q.2.at λzz zz zz=>h a q.2)))
end
theorem fm {α:Type} {p:α->Prop}:∀x∈([]:List α),p x:=λzz h=>(aaU h).elim
theorem zR {α β:Type} {n:α} {p:β->Prop}:n∈([]:List α) ↔ ∃x∈([]:List β),p x:=iff_of_false aaU λh=>h.elim λzz h=>aaU h.1
theorem AG {tab:List (Int × Ob)} (h:tab.map (·.1)=(List.range tab.length).map λ(i:Nat)=>(i:Int)+1):L2 (λv (w:Int × Ob)=>v=AV.int w.1) (dO tab.length) tab:=by
 have:dO tab.length=(tab.map (·.1)).map AV.int:=by rw [h,aa5];rfl
 rw [this,aa5]
 exact L2.mR (r:=λv (w:Int × Ob)=>v=AV.int w.1) (L2.diag λzz zz=>rfl)
section
variable {G:Nat->aj} {H H0 H':HP} {Q:KV} {QB:KB} {k a n:Nat} {P S:Nat->Prop} {loc:Loc}
noncomputable def bw (n:Nat):Nat->Prop:=λa=>n<=a
noncomputable def js (P:Nat->Prop) (n:Nat):Nat->Prop:=λa=>P a/\a < n
theorem kF:cX (bw n) (js P n) (js P n) H:=λzz zz h=>⟨Nat.not_le.mpr h.2,h⟩
theorem ai.new (x:ai aJ H0 H) (f:ai (bw H0.n) H H'):ai aJ H0 H':=x.trans f λzz ha h=>(Nat.not_le.mpr ha h).elim
theorem ai.own (f:ai (atS a) H H') (h:n<=a):ai (bw n) H H':=f.weak λx zz e=>(show x=a from e)▸h
theorem PT {vs:List AV} {u:AV} (e:H.g a= .list (vs++[u])) (h:∀H',ai (atS a) H H'->H'.n=H.n->H'.g a= .list vs->Q u H'):Gn a "pop" Q [] H:=
 ad e (dE (List.getLast?_concat ..) (m6 e λH' f n e'=>h H' f n (e'.trans (congrArg AO.list List.dropLast_concat))))
theorem Bc {vs:List AV} {u:AV} (e:H.g a= .list vs) (hl:vs.length < lim) (h:∀H',ai (atS a) H H'->H'.n=H.n->H'.g a= .list (vs++[u])->Q .none H'):Gn a "append" Q [u] H:=ad e ⟨hl,m6 e h⟩
theorem WK {vs:List AV} {u:AV} (e:H.g a= .list (vs++[u])) (h:QB true H):cR (.ref a) H QB:=ad e (qX (t:=true) (by cases vs<;>rfl) h)
theorem L2.JV {α β:Type} {r:α->β->Prop} {l:List α} {m:List β} (h:L2 r l m):∀{C:Prop},(l=[]->m=[]->C)->(∀l0 a m0 b,l=l0++[a]->m=m0++[b]->L2 r l0 m0->r a b->C)->C:=h.rec (λh0 zz=>h0 rfl rfl)
 λx zz ih zz h1=>ih (λe1 e2=>h1 [] _ [] _ (congrArg _ e1) (congrArg _ e2) .nil x) λzz zz zz zz e1 e2 q z=>h1 (_::_) _ (_::_) _ (congrArg _ e1) (congrArg _ e2) (.cons x q) z
theorem ED (m:aQ G) {v:AV} {o:Ob} (r:RO P H v o) (ok:de o) (h:∀H',ai aJ H H'->Q (sd o) H'):G (k+5) "told" [v] H Q:=by
 cases o with
 | null=>exact hW (x:= .none) m r (h _ .refl)
 | dict d=>exact r.elim λa r=>r.1▸ij m r.2 ok h
 | stream d b=>
  exact aq r λa hd r=>r.1▸m.run 6 rfl rfl rfl (iy m r.2.1.2 (ad r.2.1.2 (m.told (ij m r.2.2 ok λH' f=>ad (f.fix r.2.1.1 r.2.1.2 rfl) (h H' f)))))
theorem RS.entry {s t:Nat} {tab:List (Int × Ob)} {tr:Di} (r:RS P H s t tab tr) {i:Int} {o:Ob} (hl:ah i tab=some o) {F:AV->Prop} (h:∀u,RO P H u o->F (.tup [.int 0,u])):ob (H.g t) (GB (.int i) F):=
 r.tb.elim λes e=>ad e.1 ⟨fi e.2,((gL e.2).some hl).elim λv q=>q.2.elim λu w=>dE (q.1.trans (congrArg some w.1)) (h u w.2)⟩
theorem tp (m:aQ G) {s t:Nat} {tab:List (Int × Ob)} {tr:Di} (r:RS P H s t tab tr) (ok:∀w∈tab,de w.2) (Lo:de (.dict tr)) (h:∀H',ai aJ H H'->Q (EN tab tr) H'):G (k+7) "Shelf.told" [.ref s] H Q:=by
 refine m.run 17 rfl rfl rfl (r.ins.elim λzz e1=>ad e1.1 (rR m r λH1 b f1 zz lb eb=>?_))
 refine dS (aH eb) lb (λw=>.tup [.int w.1,.int 0,sd w.2]) (AG r.num).wm (by rw [oC];exact aaI (gJ r.len)) (λv w H' C N rv f y=>?_) λH' b f zz zz eb=>?_
 .obtain rfl:=rv.1
  have r':=r.mn (f1.tr f)
  have hl:=lL r.nd rv.2
  exact r'.ins.elim λzz e=>ad e.1 (r'.entry hl λu ru=>ad e.1 (r'.entry hl λu ru=>m.told (ED m ru (ok _ rv.2) λH2 f2=>y H2 (f.tr f2))))
 .have r':=r.mn (f1.tr f)
  exact ad eb (r'.ins.elim λzz e=>ad e.1 (m.told (ij m e.2 Lo λH2 f2=>h H2 ((f1.tr f).tr f2))))
noncomputable def mL:At->Option Int
 | .ref n=>some n
 | _=>.none
noncomputable def gS:Va->List Int
 | .at a=>(mL a).toList
 | .arr xs=>xs.filterMap mL
noncomputable def cM (d:Di):List Int:=d.flatMap λx=>gS x.2
noncomputable def lX:Ob->List Int
 | .null=>[]
 | .dict d | .stream d _=>cM d
inductive Item where
 | va (x:Va) | ob (o:Ob)
noncomputable def Item.refs:Item->List Int
 | .va x=>gS x
 | .ob o=>lX o
noncomputable def Yd:Va->Nat
 | .at _=>1
 | .arr xs=>1+xs.length
noncomputable def YZ:Ob->Nat
 | .null=>1
 | .dict d | .stream d _=>1+d.length*1000
noncomputable def Item.wt:Item->Nat
 | .va x=>Yd x
 | .ob o=>YZ o
noncomputable def Item.Ok:Item->Prop
 | .va x=>xG x
 | .ob o=>de o
noncomputable def Item.isRef:Item->Bool
 | .va x=>x.isRef
 | .ob _=>false
noncomputable def RI (P:Nat->Prop) (H:HP) (v:AV):Item->Prop
 | .va x=>RV P H v x
 | .ob o=>RO P H v o
theorem RI.mono {P':Nat->Prop} (f:ai S H H') (hp:cX S P P' H) {v:AV} {x:Item} (r:RI P H v x):RI P' H' v x:=by
 cases x with
 | va=>exact RV.mono f hp r
 | ob=>exact RO.mono f hp r
theorem RI.set {v:AV} {x:Item} (r:RI P H v x):v≠ .unset:=by
 cases x with
 | va=>exact RV.set r
 | ob=>exact (RO.noRef r).set
theorem RI.noRef {v:AV} {x:Item} (r:RI P H v x) (h:x.isRef=false):eA H v:=by
 cases x with
 | va=>exact RV.noRef r h
 | ob=>exact RO.noRef r
noncomputable def Mw (d:Di) (key:AV):Item:= .va ((look (JB key) d).getD (.at .none))
noncomputable def fR (d:Di):List Item:=(bt (bH d)).map (Mw d)
noncomputable def Item.parts:Item->List Item
 | .va (.at _)=>[]
 | .va (.arr xs)=>xs.map λx=>.va (.at x)
 | .ob .null=>[]
 | .ob (.dict d) | .ob (.stream d _)=>fR d
noncomputable def nO (P:Nat->Prop) (H:HP) (Q:KV) (l:List Item):Prop:=∀H' a' vs,ai aJ H H'->H.n<=a'->a' < H'.n->H'.g a'= .list vs->L2 (RI P H') vs l->Q (.ref a') H'
theorem sj {vs:List AV} {l:List Item} (h:nO P H Q l) (f:ai aJ H H') (r:L2 (RI P H') vs l):nw (.list vs) H' Q:=
 cN λH2 f2 n2 e2=>h H2 _ vs (f.tr f2) f.le ((n2)▸aaC _) e2 (r.imp λzz zz q=>q.mono f2 aV)
theorem zj (m:aQ G) {d:Di} (r:RD P H a d) (ok:eI d) (h:nO P H Q (fR d)):G (k+2) "parts_of" [.ref a] H Q:=by
 refine r.ex.elim λes l=>m.run 7 rfl rfl rfl (lH m l.1 (r.sorted ok.1 λH1 b f1 zz lb eb=>dE (aH eb) ?_))
 have ln:(bt (bH d)).length < lim:=by rw [dD,bH,aaB];exact gJ ok.1
 refine lD (λvs acc H'=>ai aJ H1 H'/\∃done,bt (bH d)=done++vs/\L2 (RI P H') acc (done.map (Mw d))) ?_ _ _ _ ⟨.refl,[],rfl,.nil⟩ λacc H' q=>q.2.elim λdone e=>sj h (f1.tr q.1) (by rw [fR,e.1,aaY];exact e.2)
 refine λv vs acc H' C N q hC zz=>q.2.elim λdone e=>aq (dq (bO.mp (e.1▸aaT _ (.head _)))) λs va z=>?_
 obtain rfl:=z.1
 refine (r.mn (f1.tr q.1)).idx z.2 λu ru=>hC u H' (bC q.1 lb id ⟨aH eb,rfl⟩) ?_ ⟨q.1,done++[.str s],by rw [e.1,aaW];rfl,?_⟩
 .rw [e.2.len,aaB]
  rw [e.1,aaD] at ln
  exact aaz (aaM ..) ln
 .rw [aaL]
  exact e.2.snoc (show RV P H' u ((look s d).getD _) by rw [z.2];exact ru)
theorem wr (m:aQ G) {v:AV} {x:At} (r:RA H v x) (hn:mL x= .none) (h:nw (.list []) H Q):G (k+2) "parts_of" [v] H Q:=by
 cases x with
 | none=>subst r;exact m.run 7 rfl rfl rfl (lA m h)
 | int i=>subst r;exact m.run 7 rfl rfl rfl (om m h)
 | name s=>exact r.elim λa r=>r.1▸m.run 7 rfl rfl rfl (lB m r.2.2 h)
 | ref n=>cases hn
theorem Im (m:aQ G) {v:AV} {x:Va} (r:RV P H v x) (nr:x.isRef=false) (h:nO P H Q (Item.va x).parts):G (k+2) "parts_of" [v] H Q:=by
 cases x with
 | «at» x=>exact wr m r (by cases x<;>first | rfl | cases nr) (sj h .refl .nil)
 | arr xs=>exact aq r λa vs r=>r.1▸m.run 7 rfl rfl rfl (lK m r.2.2.1 (ad r.2.2.1 (sj h .refl (L2.yc r.2.2.2))))
theorem HL (m:aQ G) {v:AV} {o:Ob} (r:RO P H v o) (ok:de o) (h:nO P H Q (Item.ob o).parts):G (k+3) "parts_of" [v] H Q:=by
 cases o with
 | null=>exact wr m (x:= .none) r rfl (sj h .refl .nil)
 | dict d=>exact r.elim λa r=>r.1▸zj m r.2 ok h
 | stream d b=>exact aq r λa hd r=>r.1▸m.run 7 rfl rfl rfl (iy m r.2.1.2 (ad r.2.1.2 (zj m r.2.2 ok h)))
theorem Ia (m:aQ G) {v:AV} {it:Item} (r:RI P H v it) (ok:it.Ok) (nr:it.isRef=false) (h:nO P H Q it.parts):G (k+3) "parts_of" [v] H Q:=by
 cases it with
 | va x=>exact Im m r nr h
 | ob o=>exact HL m r ok h
end
noncomputable def qh (l:List Item):Nat:=(l.map Item.wt).sum
theorem DE (it:Item):1<=it.wt:=by
 rcases it with (_ | _) | (_ | _ | _)<;>first | exact aaF _ | exact aaM ..
theorem vN {it:Item} {l:List Item}:qh (it::l)=it.wt+qh l:=rfl
theorem nF (l l':List Item):qh (l++l')=qh l+qh l':=by rw [qh,aaL,List.sum_append];rfl
theorem zI (l:List Item):qh l.reverse=qh l:=by rw [qh,List.map_reverse,List.sum_reverse];rfl
theorem Ms {c:Nat} {l:List Item} (h:∀it∈l,it.wt<=c):qh l<=l.length*c:=by
 induction l with
 | nil=>exact abp _
 | cons it r ih=>rw [aa2,Nat.succ_mul,abg];exact aaQ (h it (.head _)) (ih λx hx=>h x (.tail _ hx))
theorem CF {l:List Item}:l.length<=qh l:=by
 induction l with
 | nil=>exact aaF _
 | cons it r ih=>rw [vN,aa2,abg];exact aaQ (DE it) ih
theorem LR (xs:List At):qh (xs.map λx=>Item.va (.at x))=xs.length:=by
 induction xs with
 | nil=>rfl
 | cons x r ih=>rw [aa4,vN,ih,abg];rfl
theorem xQ (d:Di):(fR d).length=d.length:=by rw [fR,aaB,dD,bH,aaB]
theorem oW {d:Di} {it:Item} (h:it∈fR d):∃s va,it= .va va/\look s d=some va:=
 (aaG.mp h).elim λw q=>aq (dq (bO.mp q.1)) λs va z=>(bI s va ⟨by rw [<-q.2,z.1];show Item.va ((look s d).getD _)=_;rw [z.2];rfl,z.2⟩)
theorem NX {it:Item} (ok:it.Ok):it.wt < 70000:=by
 rcases it with (_ | xs) | (_ | d | ⟨d,b⟩)
 .show 1 < _;decide
 .have:xs.length < 1000:=ok;show 1+_ < _;exact aax (abr this 1) (by decide)
 .show 1 < _;decide
 .have:d.length < 64:=ok.1;show 1+_ < _;exact zF (Nat.mul_le_mul_right 1000 this) (by simp+arith)
 .have:d.length < 64:=ok.1;show 1+_ < _;exact zF (Nat.mul_le_mul_right 1000 this) (by simp+arith)
theorem EJ {it:Item} (ok:it.Ok):qh it.parts < it.wt/\∀x∈it.parts,x.Ok:=by
 have dd:∀d,eI d->qh (fR d) < 1+d.length*1000/\∀x∈fR d,x.Ok:=λd ok=>by
  have h:∀x∈fR d,x.Ok/\x.wt<=1000:=λx hx=>aq (oW hx) λs va q=>by
   have:=(ok.2 _ (cB q.2)).2
   rw [q.1]
   refine ⟨this,?_⟩
   cases va with
   | «at»=>show 1<=1000;decide
   | arr xs=>have:xs.length < 1000:=this;show 1+_<=_;exact aaw (aaS (SU _)) this
  have:=Ms λx hx=>(h x hx).2
  rw [xQ] at this
  exact ⟨aaz this (Nat.lt_add_of_pos_left Nat.one_pos),λx hx=>(h x hx).1⟩
 rcases it with (_ | xs) | (_ | d | ⟨d,b⟩)
 .exact ⟨Nat.zero_lt_one,fm⟩
 .refine ⟨by show qh (xs.map _) < 1+_;rw [LR];exact Nat.lt_add_of_pos_left Nat.one_pos,λx hx=>(aaG.mp hx).elim λy q=>q.2▸trivial⟩
 .exact ⟨Nat.zero_lt_one,fm⟩
 .exact dd d ok
 .exact dd d ok
theorem cg {key:String} {va:Va} {d:Di} (nd:(d.map (·.1)).Nodup) (h:(key,va)∈d):look key d=some va:=by
 induction d with
 | nil=>cases h
 | cons x t ih=>
  have nd:=aa8.mp nd
  refine (aaH.mp h).elim (λe=>?_) λe=>?_
  .exact (e)▸aY
  .exact (aK λq=>nd.1 (aaG.mpr ⟨_,e,q.symm⟩)).trans (ih nd.2 e)
theorem E7 {d:Di} (nd:(d.map (·.1)).Nodup) (n:Int):n∈cM d ↔ ∃it∈fR d,n∈it.refs:=by
 refine List.mem_flatMap.trans ⟨λt1=>aw t1 λx hx h=>⟨Mw d (.str x.1),abi (bO.mpr (abi (f:=λx:String × Va=>AV.str x.1) hx)),?_⟩,λt0=>aw t0 λit hi h=>aq (oW hi) λs va q=>⟨_,cB q.2,by rw [q.1] at h;exact h⟩⟩
 show n∈gS ((look x.1 d).getD _)
 exact (cg nd (va:=x.2) hx)▸h
noncomputable def Item.nd:Item->Prop
 | .ob (.dict d) | .ob (.stream d _)=>(d.map (·.1)).Nodup
 | _=>True
theorem RI.nd {P:Nat->Prop} {H:HP} {v:AV} {it:Item} (r:RI P H v it):it.nd:=by
 rcases it with x | (_ | d | ⟨d,b⟩)
 .trivial
 .trivial
 .exact Exists.elim r λzz r=>r.2.nd
 .exact aq r λzz zz r=>r.2.2.nd
theorem xf {it:Item} (nd:it.nd) (nr:it.isRef=false) (n:Int):n∈it.refs ↔ ∃x∈it.parts,n∈x.refs:=by
 rcases it with (x | xs) | (_ | d | ⟨d,b⟩)
 .cases x with
  | ref=>cases nr
  | _=>exact zR
 .refine abB.trans ⟨λt1=>aw t1 λx hx h=>⟨.va (.at x),abi hx,Option.mem_toList.mpr h⟩,λt0=>aw t0 λit hi h=>(aaG.mp hi).elim λx q=>⟨x,q.1,?_⟩⟩
  replace h:=(q.2).symm▸h
  exact Option.mem_toList.mp h
 .exact zR
 .exact E7 nd n
 .exact E7 nd n
noncomputable def pr (n:Int):AV:= .tup [.int n,.int 0]
theorem Fs {a b:Int} (h:pr a=pr b):a=b:=AV.int.inj (abf (AV.tup.inj h)).1
noncomputable def gW (ns:List Int):List (AV × AV):=ns.map λn=>(pr n,.bool true)
theorem gq {ns:List Int} {n:Int}:pr n∈(gW ns).map (·.1) ↔ n∈ns:=by
 rw [gW,aa5]
 exact ⟨λh=>(aaG.mp h).elim λx q=>Fs q.2▸q.1,λh=>aaG.mpr ⟨n,h,rfl⟩⟩
theorem bP {α:Type} {ns:List α} {f:α->Int} {g:α->AV} {n:Int}:bB (pr n) (ns.map λx=>(pr (f x),g x)):=⟨abC 2,λe he=>(aaG.mp he).elim λx q=>q.2▸rfl⟩
theorem rF {ns:List Int} {n:Int} (h:n ∉ ns):bT (pr n) (.bool true) (gW ns)=gW (ns++[n]):=(dY λq=>h (gq.mp q)).trans (by rw [gW,gW,aaL];rfl)
theorem WN {α:Type} {a:α} {p:α->Prop}:(∃x∈[a],p x) ↔ p a:=⟨λh=>h.elim λx h=>aaK.mp h.1▸h.2,λq=>⟨a,.head _,q⟩⟩
theorem V0 {α:Type} {p:α->Prop} {q:Prop}:(q\/∃x∈([]:List α),p x) ↔ q:=or_iff_left λh=>h.elim λzz h=>aaU h.1
theorem qK {R ns ui:List Int} {iV ext:List Item} {iu:Item} (h:∀n,n∈R ↔ n∈ns\/∃x∈iV++[iu],n∈x.refs) (e:∀n,(n∈ns\/n∈iu.refs) ↔ (n∈ui\/∃x∈ext,n∈x.refs)) (n:Int):n∈R ↔ n∈ui\/∃x∈iV++ext,n∈x.refs:=by
 have s:∀l:List Item,(∃x∈iV++l,n∈x.refs) ↔ (∃x∈iV,n∈x.refs)\/∃x∈l,n∈x.refs:=λl=>by simp only [List.mem_append,or_and_right,exists_or]
 rw [h,s,s,or_left_comm,or_left_comm (a:=n∈ui),<-e,WN]
structure Jv (P:Nat->Prop) (H:HP) (qx:Item) (fa sa la:Nat) (ns:List Int) (iV:List Item) (vs:List AV) (H':HP):Prop where
 aD:ai aJ H H'
 lt:fa < H'.n/\sa < H'.n/\la < H'.n
 g1:H'.g fa= .list (ns.map pr)
 g2:H'.g sa= .dict (gW ns)
 g3:H'.g la= .list vs
 l:L2 (RI (js P H.n) H') vs iV
 b:ns.length+qh iV<=qx.wt
 nd:ns.Nodup
 ok:∀x∈iV,x.Ok
 refs:∀n,n∈qx.refs ↔ n∈ns\/∃x∈iV,n∈x.refs
noncomputable def Sb (P:Nat->Prop) (H:HP) (qx:Item) (fa sa la:Nat) (j:Nat) (loc:Loc) (H':HP):Prop:=(loc "found"= .ref fa/\loc "seen"= .ref sa/\loc "line"= .ref la)/\∃ns iV vs,qh iV=j/\Jv P H qx fa sa la ns iV vs H'
section
variable {G:Nat->aj} {H:HP} {Q:KV} {k:Nat} {P:Nat->Prop}
noncomputable def OY (it:Item) (H:HP) (Q:KV):Prop:=∀(H':HP) (a:Nat) (ns:List Int),ai aJ H H'->H.n<=a->a < H'.n->H'.g a= .list (ns.map pr)->ns.Nodup->ns.length < 70000->(∀n,n∈ns ↔ n∈it.refs)->Q (.ref a) H'
theorem iM (m:aQ G) {v:AV} {it:Item} (r:RI P H v it) (ok:it.Ok) (h:OY it H Q):G (k+4) "references_in" [v] H Q:=by
 have hw:=NX ok
 refine m.run 8 rfl rfl rfl (cN λH1 f1 n1 e1=>cN λH2 f2 n2 e2=>mJ (v:=v) r.set (cN λH3 f3 n3 e3=>?_))
 have m8:=(f1.tr f2).tr f3
 have qM:H.n < H1.n:=n1▸aaC _
 have wU:H1.n < H2.n:=n2▸aaC _
 have JU:H2.n < H3.n:=n3▸aaC _
 have l1:=aaI qM
 have l2:=aaw l1 (aaI wU)
 refine Q7 (Sb P H it H.n H1.n H2.n) _ ⟨⟨rfl,rfl,rfl⟩,[],[it],[v],rfl,⟨m8,⟨aaA qM (aaA wU JU),aaA wU JU,JU⟩,f3.keep (aaA qM wU) (f2.keep qM e1),f3.keep wU e2,e3,.cons (r.mono m8 λa ha hp=>⟨id,hp,ha⟩) .nil,by rw [List.length_nil,abE];exact aaF _,.nil,λx hx=>aaK.mp hx▸ok,λn=>by rw [WN];exact ⟨.inr,λq=>q.resolve_left aaU⟩⟩⟩ ?_
 refine λj loc H' C I hN=>bj I.2 λns iV vs q=>ak I.1.2.2 ?_
 have t:=q.2
 have VI:ns.length < 70000:=aaz (aaw (aaM ..) t.b) hw
 have WS:ns.length < lim:=aaA VI (by decide)
 refine t.l.JV (λe1 e2=>?_) λRM u tJ iu e1 e2 l0 ru=>?_
 .replace t:=(e1)▸t
  exact ad t.g3 (ak I.1.1 (h H' H.n ns t.aD (aaF _) t.lt.1 t.g1 t.nd VI λn=>(V0.symm.trans (e2▸(t.refs n).symm))))
 rw [e1,e2] at t
 have wj:qh tJ+iu.wt=j:=by rw [<-q.1,e2,nF];rfl
 have tb:=t.b
 rw [nF,show qh [iu]=iu.wt from rfl] at tb
 have wp:=DE iu
 refine WK t.g3 (ak I.1.2.2 (ad t.g3 (PT t.g3 λH4 f4 n4 e4=>?_)))
 have t1:=f4.ne t.lt.1 t.g1 (aaJ (aaA qM wU))
 have t2:=f4.ne t.lt.2.1 t.g2 (aaJ wU)
 have Rp:=f4.own l2
 have M1:=ru.mono Rp kF
 have l4:=l0.imp λzz zz r=>RI.mono Rp kF r
 have VN:=λx hx=>t.ok x (aa3 [iu] hx)
 have nv:H.n < H4.n/\H1.n < H4.n/\H2.n < H4.n:=n4▸t.lt
 refine mJ M1.set ?_
 cases hr:iu.isRef with
 | false=>
  have po:=EJ (t.ok iu (aaT _ (.head _)))
  refine (M1.noRef hr).isin _ (ak I.1.2.2 (ad e4 (mJ M1.set (Ia m M1 (t.ok iu (aaT _ (.head _))) hr λH5 a' vs' f5 h1 h2 h3 h4=>?_))))
  have e5:=f5.keep nv.2.2 e4
  refine ad e5 ⟨aaJ (aax nv.2.2 h1),ad h3 ⟨?_,m6 e5 λH6 f6 n6 e6=>?_⟩⟩
  .have:= @CF tJ;have:= @CF iu.parts;rw [l4.len,h4.len]
   have:lim=1000000:=rfl
   exact aaw (aaQ (by assumption) (aaw (by assumption) (aaI po.1))) (aaw (abn _ _) (aaw tb (aaw (aaI hw) (le_of_le_of_eq (by decide) this.symm))))
  .have Wm:=f6.own l2
   have IV:=f5.no.trans Wm λzz zz h=>h
   refine hN (qh (tJ++iu.parts.reverse)) _ _ (by rw [nF,zI];exact sR (abr po.1 _) wj) ⟨⟨I.1.1,I.1.2.1,I.1.2.2⟩,ns,tJ++iu.parts.reverse,_,rfl,(t.aD.new Rp).new IV,⟨n6▸f5.lt nv.1,n6▸f5.lt nv.2.1,n6▸f5.lt nv.2.2⟩,f6.ne (f5.lt nv.1) (f5.keep nv.1 t1) (aaJ (aaA qM wU)),f6.ne (f5.lt nv.2.1) (f5.keep nv.2.1 t2) (aaJ wU),e6,(l4.imp λzz zz r=>RI.mono IV kF r).append (h4.rev.imp λzz zz r=>RI.mono Wm kF r),by rw [nF,zI];exact aaw (abj (abj (aaI po.1) _) _) tb,t.nd,λx hx=>(aa6.mp hx).elim (VN x) λhx=>po.2 x (List.mem_reverse.mp hx),qK t.refs λn=>or_congr .rfl ((xf M1.nd hr n).trans ?_)⟩
   simp only [List.mem_reverse]
 | true=>
  cases iu with
  | ob o=>exact absurd hr aaE
  | va x=>cases x with
   | arr xs=>exact absurd hr aaE
   | «at» x=>cases x with
    | ref n=>
     refine M1.elim λb z=>?_
     obtain rfl:=z.1
     have eb:=z.2.2
     refine ad eb (ad eb (cP m eb (ak I.1.2.1 (ad t2 ⟨bP,?_⟩))))
     have Ju:∀H5 ui,ai (bw H.n) H4 H5->H5.n=H4.n->H5.g H.n= .list (ui.map pr)->H5.g H1.n= .dict (gW ui)->H5.g H2.n= .list RM->ui.length<=ns.length+1->ui.Nodup->(∀n',(n'∈ns\/n'∈[n]) ↔ n'∈ui)->Jv P H it H.n H1.n H2.n ui tJ RM H5:=λH5 ui f5 n5 g1 g2 g3 hl hd hm=>
      ⟨(t.aD.new Rp).new f5,n5▸nv,g1,g2,g3,l4.imp λzz zz r=>RI.mono f5 kF r,zF (aaQ tb (aaQ wp hl)) (by simp+arith),hd,VN,λn'=>by
       have:=qK (ext:=[]) t.refs (λn'=>(hm n').trans V0.symm) n'
       rwa [aaY] at this⟩
     refine Fu (λs=>hN (qh tJ) _ _ (sR (abl wp) wj) ⟨⟨I.1.1,I.1.2.1,I.1.2.2⟩,ns,tJ,RM,rfl,Ju H4 ns .refl rfl t1 t2 e4 (aba _) t.nd λn'=>or_iff_left_of_imp λq=>aaK.mp q▸gq.mp (getD_some.mp s)⟩) λs=>?_
     have hn:n ∉ ns:=λq=>(Bool.eq_false_iff.mp s) (getD_some.mpr (gq.mpr q))
     refine ak I.1.2.1 (ad eb (cP m eb (ad t2 ⟨bP,by rw [gW,aaB];exact WS,m6 t2 λH5 f5 n5 e5=>?_⟩)))
     have VQ:=f5.fix z.2.1 eb rfl
     have g5:=f5.ne nv.1 t1 (aaJ qM)
     refine ak I.1.1 (ad g5 (ad VQ (cP m VQ (Bc g5 (by rw [aaB];exact WS) λH6 f6 n6 e6=>?_))))
     refine hN (qh tJ) _ _ (sR (abl wp) wj) ⟨⟨I.1.1,I.1.2.1,I.1.2.2⟩,ns++[n],tJ,RM,rfl,Ju H6 _ ((f5.own l1).tr (f6.own (aaF _))) (n6.trans n5) (e6.trans (by rw [aaL];rfl)) (f6.ne (n5▸nv.2.1) (e5.trans (congrArg AO.dict (rF hn))) (aaN qM)) (f6.ne (n5▸nv.2.2) (f5.ne nv.2.2 e4 (aaN wU)) (aaN (aaA qM wU))) (by rw [aaD];exact aaF _) ?_ λn'=>aa6.symm⟩
     exact abw.mpr ⟨t.nd,abu _ n,λx hx y hy e=>hn (aaK.mp hy▸e▸hx)⟩
    | _=>exact absurd hr aaE
end
section
variable {G:Nat->aj} {H H0 H':HP} {Q:KV} {QL:KL} {k a tc:Nat} {P S:Nat->Prop} {loc:Loc} {elt:PX} {cs:PC} {tg:Tg} {src:HP->Prop}
theorem rz {β γ:Type} {r:AV->β->Prop} {q:HP->AV->γ->Prop} (f:β->γ) (p:β->Bool) {vs:List AV} {ws:List β} (tr:∀{H' bz},ai S H0 H'->ai S H' bz->ai S H0 bz) (qm:∀H' bz v c,ai S H' bz->q H' v c->q bz v c) (Fr:∀H',ai S H0 H'->src H')
  (step:∀v w H' (C:KV) (N:HP->Prop),r v w->ai S H0 H'->(p w=true->∀bz u,ai S H' bz->q bz u (f w)->C u bz)->(p w=false->N H')->Gj elt cs tg loc v H' C N)
  (hr:L2 r vs ws):∀acc ds H,acc.length+vs.length<=lim->ai S H0 H->L2 (q H) acc ds->(∀H' xZ,ai S H0 H'->L2 (q H') xZ (ds++(ws.filter p).map f)->QL xZ H')->i9 elt cs tg src loc vs H acc QL:=by
 induction hr with
 | nil=>exact λacc ds H zz hf hq hQ=>hQ H acc hf (by rw [List.filter_nil,List.map_nil,aaY];exact hq)
 | cons rv _ ih=>
  exact λacc ds H hl hf hq hQ=>step _ _ H _ _ rv hf
   (λe bz u G9 hu=>⟨Fr _ (tr hf G9),aax (abl (Nat.succ_pos _)) hl,ih _ (ds++[f _]) _ (by rw [aaD,aa9,abg (List.length [_])];exact hl) (tr hf G9) ((hq.imp λzz zz z=>qm _ _ _ _ G9 z).snoc hu) λH3 xZ f3 h3=>hQ H3 xZ f3 (by rwa [List.filter_cons_of_pos e,aa4,List.append_cons])⟩)
   λe=>⟨Fr _ hf,ih _ ds _ (Nat.le_of_succ_le hl) hf hq λH3 xZ f3 h3=>hQ H3 xZ f3 (by rwa [List.filter_cons_of_neg ((e)▸aaE)])⟩
noncomputable def tm {γ:Type} (q:HP->AV->γ->Prop) (Q:KV) (H:HP) (S:Nat->Prop) (l:List γ):Prop:=∀H' a' vs,ai S H H'->H.n<=a'->a' < H'.n->H'.g a'= .list vs->L2 (q H') vs l->Q (.ref a') H'
theorem OS {γ:Type} {q:HP->AV->γ->Prop} {vs:List AV} {l:List γ} (h:tm q Q H S l) (qm:∀H' bz v c,ai aJ H' bz->q H' v c->q bz v c) (f:ai S H H') (r:L2 (q H') vs l):nw (.list vs) H' Q:=
 cN λH2 f2 n2 e2=>h H2 _ vs (f.tn f2) f.le ((n2)▸aaC _) e2 (r.imp λzz zz z=>qm _ _ _ _ f2 z)
theorem dB {β γ:Type} {r:AV->β->Prop} {q:HP->AV->γ->Prop} {xs:List AV} {ws:List β} (e:ft (H.g a)=some xs) (la:a < H.n) (f:β->γ) (p:β->Bool) (qm:∀H' bz v c,ai aJ H' bz->q H' v c->q bz v c) (hr:L2 r xs ws) (hl:xs.length<=lim)
  (step:∀v w H' (C:KV) (N:HP->Prop),r v w->ai aJ H H'->(p w=true->∀bz u,ai aJ H' bz->q bz u (f w)->C u bz)->(p w=false->N H')->Gj elt cs tg loc v H' C N)
  (h:tm q Q H aJ ((ws.filter p).map f)):fb elt tg .plain cs loc Q [.ref a] H:=
 dE e (rz f p .tr qm (λH' f'=>bC f' la id ⟨e,rfl⟩) step hr [] [] H (by rwa [List.length_nil,abE]) .refl .nil λH' acc f' l=>OS h qm f' l)
theorem cG {β γ:Type} {r:AV->β->Prop} {q:HP->AV->γ->Prop} {xs:List AV} {ws:List β} (e:ft (H.g a)=some xs) (la:a < H.n) (f:β->γ) (qm:∀H' bz v c,ai aJ H' bz->q H' v c->q bz v c) (hr:L2 r xs ws) (hl:xs.length<=lim)
  (step:∀v w H' (C:KV) (N:HP->Prop),r v w->ai aJ H H'->(∀bz u,ai aJ H' bz->q bz u (f w)->C u bz)->Gj elt cs tg loc v H' C N)
  (h:tm q Q H aJ (ws.map f)):fb elt tg .plain cs loc Q [.ref a] H:=
 dB e la f (λzz=>true) qm hr hl (λv w H' C N rv f' y zz=>step v w H' C N rv f' (y rfl)) (by rwa [rN])
noncomputable def fH (P:Nat->Prop) (H:HP) (v:AV) (x:String × Va):Prop:=∃u,v= .tup [.str x.1,u]/\RV P H u x.2
theorem fH.mn (f:ai aJ H H') {v:AV} {x:String × Va} (r:fH P H v x):fH P H' v x:=r.imp λzz q=>⟨q.1,q.2.mn f⟩
theorem kR {ps:List (AV × AV)}:∀{es:List (AV × AV)},((es++ps).map (·.1)).Nodup->ps.foldl (λes p=>bT p.1 p.2 es) es=es++ps:=by
 induction ps with
 | nil=>exact λzz=>(aaY _).symm
 | cons p ps ih=>
  intro es nd
  rw [List.append_cons] at nd
  have:p.1 ∉ es.map (·.1):=λq=>by
   rw [aaL,aaL] at nd
   exact (abw.mp (abw.mp nd).1).2.2 _ q _ (.head _) rfl
  show List.foldl _ (bT _ _ _) _=_
  rw [dY this,ih nd,<-List.append_cons]
theorem vh {vs:List AV} {d:Di} (l:L2 (fH P H) vs d):∃es,dG vs=some es/\L2 (RE P H) es d:=l.rec ⟨[],rfl,.nil⟩ λ{v x zz zz} r zz ih=>r.elim λu q=>ih.elim λes z=>⟨(.str x.1,u)::es,by rw [q.1];show Option.map _ (dG _)=_;rw [z.1];rfl,.cons ⟨rfl,q.2⟩ z.2⟩
theorem y8 {es:List (AV × AV)} {d:Di} (l:L2 (RE P H) es d) (nd:(d.map (·.1)).Nodup):(es.map (·.1)).Nodup:=by
 rw [jW l]
 have:bH d=(d.map (·.1)).map AV.str:=aa5.symm
 rw [this]
 exact nd.map _ λzz zz h e=>h (AV.str.inj e)
theorem RD.fresh {es:List (AV × AV)} {d:Di} (lt:a < H.n) (z:P a) (e:H.g a= .dict es) (l:L2 (RE P H) es d) (nd:(d.map (·.1)).Nodup):RD P H a d:=⟨lt,z,⟨es,e,l⟩,nd⟩
noncomputable def vR (P:Nat->Prop) (Q:KV) (H:HP) (d:Di):Prop:=∀H' a',ai aJ H H'->H.n<=a'->RD P H' a' d->Q (.ref a') H'
theorem iL {vs:List AV} {d:Di} (e:H.g a= .list vs) (l:L2 (fH P H) vs d) (nd:(d.map (·.1)).Nodup) (z:P H.n) (h:vR P Q H d):vP (.ref a) H Q:=by
 refine (vh l).elim λes q=>ad e (dE q.1 ⟨?_,?_⟩)
 .rw [jW q.2]
  exact λx hx=>(aaG.mp hx).elim λzz z=>⟨z.2▸Nat.one_ne_zero,λy hy=>(aaG.mp hy).elim λzz w=>w.2▸z.2▸rfl⟩
 .rw [cW,kR (es:=[]) (y8 q.2 nd)]
  exact cN λH' f n e'=>h H' _ f (aaF _) (.fresh (n▸aaC _) z e' (q.2.imp λzz zz r=>r.mono f aV) nd)
noncomputable def ae (n:Int):List (Int × Int)->Option Int
 | []=>.none
 | e::r=>bif decide (e.1=n) then some e.2 else ae n r
noncomputable def dt (tbl:List (Int × Int)):List (AV × AV):=tbl.map λx=>(pr x.1,pr x.2)
theorem nQ {n:Int} {tbl:List (Int × Int)}:getD (pr n) (dt tbl)=(ae n tbl).map pr:=by
 induction tbl with
 | nil=>rfl
 | cons e r ih=>
  show (bif iY (pr e.1) (pr n) then _ else _)=Option.map _ (bif _ then _ else _)
  have:iY (pr e.1) (pr n)=decide (e.1=n):=by
   show (decide (e.1=n)&&(decide ((0:Int)=0)&&true))=_
   exact Bool.and_true _
  rw [this]
  cases decide (e.1=n) with
  | true=>rfl
  | false=>exact ih
noncomputable def nL (tbl:List (Int × Int)):At->At
 | .ref n=>((ae n tbl).map .ref).getD .none
 | a=>a
noncomputable def ii (tbl:List (Int × Int)):Va->Va
 | .at a=>.at (nL tbl a)
 | .arr xs=>.arr (xs.map (nL tbl))
noncomputable def Va.nul:Va->Bool
 | .at .none=>true
 | _=>false
noncomputable def ji (tbl:List (Int × Int)) (d:Di):Di:=(d.map λx=>(x.1,ii tbl x.2)).filter λx=>!x.2.nul
noncomputable def Cl (tbl:List (Int × Int)):Ob->Ob
 | .null=>.null
 | .dict d=>.dict (ji tbl d)
 | .stream d b=>.stream (ji tbl d) b
theorem GM (m:aQ G) {tbl:List (Int × Int)} {n:Int} (e:H.g a=cJ n) (ht:H.g tc= .dict (dt tbl)) (h:∀H' v',ai aJ H H'->RA H' v' (nL tbl (.ref n))->Q v' H'):G (k+2) "renumbered" [.ref a,.ref tc] H Q:=by
 refine m.run 9 rfl rfl rfl (vb m e (ad e (cP m e (ad ht ⟨bP,?_⟩))))
 have g:= @nQ n tbl
 have h:∀H' v',ai aJ H H'->RA H' v' (((ae n tbl).map .ref).getD .none)->Q v' H':=h
 cases hl:ae n tbl with
 | none=>rw [hl] at g h;exact qX (congrArg Option.isSome g) (h H .none .refl rfl)
 | some n'=>
  rw [hl] at g h
  exact qX (congrArg Option.isSome g) (ad e (cP m e (ad ht ⟨bP,dE g (Aa m λH1 f1 n1 e1=>h H1 _ f1 ⟨_,rfl,n1▸aaC _,e1⟩)⟩)))
theorem tK (m:aQ G) {v:AV} {x:At} {tbl:List (Int × Int)} (r:RA H v x) (ht:H.g tc= .dict (dt tbl)) (h:∀H' v',ai aJ H H'->RA H' v' (nL tbl x)->Q v' H'):G (k+2) "renumbered" [v,.ref tc] H Q:=by
 cases x with
 | none=>subst r;exact m.run 9 rfl rfl rfl (lA m (h H _ .refl rfl))
 | int i=>subst r;exact m.run 9 rfl rfl rfl (om m (h H _ .refl rfl))
 | name s=>exact r.elim λa q=>q.1▸m.run 9 rfl rfl rfl (lB m q.2.2 (h H _ .refl ⟨a,rfl,q.2⟩))
 | ref n=>exact r.elim λa q=>q.1▸GM m q.2.2 ht h
theorem Hv (m:aQ G) {v:AV} {x:Va} {tbl:List (Int × Int)} (r:RV P H v x) (ok:xG x) (KP:tc < H.n) (ht:H.g tc= .dict (dt tbl)) (h:∀H' v',ai aJ H H'->RV (bw H.n) H' v' (ii tbl x)->Q v' H'):G (k+3) "renumbered" [v,.ref tc] H Q:=by
 cases x with
 | «at» x=>exact tK m r ht h
 | arr xs=>
  refine aq r λa vs r=>r.1▸m.run 9 rfl rfl rfl (lK m r.2.2.1 ?_)
  refine cG (q:=RA) (aH r.2.2.1) r.2.1.1 (nL tbl) (λzz zz zz zz f z=>z.mono f) r.2.2.2 (r.2.2.2.len▸aaI (ie ok)) (λv w H' C N rv f y=>mJ rv.set (tK m (rv.mono f) (f.keep KP ht) y)) λH' a' vs f le lt e l=>h _ _ f (bI a' vs ⟨rfl,⟨lt,le⟩,e,l⟩)
theorem RV.isNone {v:AV} {x:Va} (r:RV P H v x):v.isNone=x.nul:=by
 cases x with
 | «at» x=>cases x with
  | none=>subst r;rfl
  | _=>exact RV.bL (P:=P) (x:= .at _) r nofun
 | arr=>exact r.bL nofun
theorem r7 {d:Di} {es:List (AV × AV)} (e:H.g a= .dict es) (l:L2 (RE P H) es d):ft (H.g a)=some (bH d):=by
 rw [e]
 show (bif es.all _ then some (es.map (·.1)) else _)=_
 rw [aaX.mpr λx hx=>(l.mem hx).elim λzz q=>q.2.1▸rfl,jW l];rfl
theorem ga {d:Di}:L2 (λv (x:String × Va)=>v=AV.str x.1/\x∈d) (bH d) d:=L2.mR (r:=λv (x:String × Va)=>v=AV.str x.1/\x∈d) (L2.diag λzz hx=>⟨rfl,hx⟩)
theorem dz {d:Di}:(bH d).length=d.length:=aaB _
theorem sM (m:aQ G) {d:Di} {tbl:List (Int × Int)} (r:RD P H a d) (ok:eI d) (KP:tc < H.n) (ht:H.g tc= .dict (dt tbl)) (h:vR (bw H.n) Q H (ji tbl d)):G (k+4) "renumbered" [.ref a,.ref tc] H Q:=by
 refine r.ex.elim λes l=>m.run 9 rfl rfl rfl (lH m l.1 ?_)
 have ld:=aaI (gJ ok.1)
 refine cG (q:=fH (bw H.n)) (r7 l.1 l.2) r.lt (λx:String × Va=>(x.1,ii tbl x.2)) (λzz zz zz zz f z=>z.mn f) ga (dz▸ld) (λv x H' C N rv f y=>?_) λH1 b vs f1 le lt e1 l1=>?_
 .obtain rfl:=rv.1
  exact (r.mn f).idx (cg r.nd rv.2) λu ru=>Hv m ru (ok.2 _ rv.2).2 (f.lt KP) (f.keep KP ht) λH2 v' f2 r2=>y _ _ f2 ⟨v',rfl,r2.mono (.refl:ai aJ _ _) λzz zz h=>⟨id,aaw f.le h⟩⟩
 .refine dB (q:=fH (bw H.n)) (aH e1) lt id (λx=>!x.2.nul) (λzz zz zz zz f z=>z.mn f) l1 (by rw [l1.len,aaB];exact ld) (λv x H' C N rv f y n=>?_) λH2 b2 Jj f2 qw lg e2 l2=>?_
  .refine rv.elim λu q=>?_
   obtain rfl:=q.1
   refine Fu (λe=>?_) λe=>n (by rw [<-e,q.2.isNone])
   refine mJ (v:= .tup _) nofun (y (by rw [<-e,q.2.isNone]) _ _ .refl ⟨u,rfl,q.2.mn f⟩)
  .rw [aby] at l2
   exact iL e2 l2 (((List.filter_sublist.map _).trans (by rw [aa5];exact .refl _)).nodup r.nd) (f1.tr f2).le λH3 c f3 BP rd=>h H3 c ((f1.tr f2).tr f3) (aaw (f1.tr f2).le BP) rd
theorem Jb (m:aQ G) {v:AV} {o:Ob} {tbl:List (Int × Int)} (r:RO P H v o) (ok:de o) (KP:tc < H.n) (ht:H.g tc= .dict (dt tbl)) (h:∀H' v',ai aJ H H'->RO (bw H.n) H' v' (Cl tbl o)->Q v' H'):G (k+6) "renumbered" [v,.ref tc] H Q:=by
 cases o with
 | null=>exact tK m (x:= .none) r ht h
 | dict d=>exact r.elim λa q=>q.1▸sM m q.2 ok KP ht λH' a' f zz rd=>h _ _ f ⟨a',rfl,rd⟩
 | stream d b=>
  refine aq r λa hd q=>q.1▸m.run 9 rfl rfl rfl (iy m q.2.1.2 (ad q.2.1.2 (sM m q.2.2 ok KP ht λH' a' f zz rd=>?_)))
  exact ad (f.fix q.2.1.1 q.2.1.2 rfl) (jy m λH1 f1 n1 e1=>h H1 _ (f.tr f1) (bI _ a' ⟨rfl,⟨n1▸aaC _,e1⟩,rd.mn f1⟩))
end
noncomputable def cH (k:String) (v:Va):Di->Di
 | []=>[(k,v)]
 | e::r=>bif e.1==k then (e.1,v)::r else e::cH k v r
section
variable {k k':String} {v w:Va} {d:Di}
theorem kz:cH k v ((k,w)::d)=(k,v)::d:=by show (bif _ then _ else _)=_;rw [beq_self_eq_true];rfl
theorem kD (h:k'≠k):cH k v ((k',w)::d)=(k',w)::cH k v d:=by show (bif _ then _ else _)=_;rw [beq_eq_false_iff_ne.mpr h];rfl
theorem az:look k' (cH k v d)=if k=k' then some v else look k' d:=by
 induction d with
 | nil=>
  by_cases q:k=k'
  .rw [q,if_pos rfl];exact aY
  .rw [if_neg q];exact aK q
 | cons e r ih=>
  obtain ⟨j,w⟩:=e
  by_cases q:j=k
  .rw [q,kz]
   by_cases q2:k=k'
   .rw [q2,if_pos rfl,aY]
   .rw [if_neg q2,aK q2,aK q2]
  .rw [kD q]
   by_cases q2:j=k'
   .rw [q2,aY,if_neg λz=>q (q2.trans z.symm),aY]
   .rw [aK q2,ih,aK q2]
theorem AL {x:String}:x∈(cH k v d).map (·.1) ↔ x=k\/x∈d.map (·.1):=by
 induction d with
 | nil=>exact aaH
 | cons e r ih=>
  obtain ⟨j,w⟩:=e
  by_cases q:j=k
  .rw [q,kz];exact ⟨.inr,λh=>h.elim (λz=>z▸ .head _) id⟩
  .rw [kD q,aa4,aaH,ih,aa4,aaH];exact or_left_comm
theorem dc (h:(d.map (·.1)).Nodup):((cH k v d).map (·.1)).Nodup:=by
 induction d with
 | nil=>exact abu _ _
 | cons e r ih=>
  obtain ⟨j,w⟩:=e
  by_cases q:j=k
  .rw [q,kz];rwa [q] at h
  .have h:=aa8.mp h
   rw [kD q]
   exact aa8.mpr ⟨λz=>(AL.mp z).elim q h.1,ih h.2⟩
theorem b7:(cH k v d).length<=d.length+1:=by
 induction d with
 | nil=>exact aaF _
 | cons e r ih=>
  show (bif _ then _ else _:Di).length<=_
  cases e.1==k with
  | true=>exact aba _
  | false=>exact aa1 ih
end
structure aX where
 n:Int
 d:Di
 aR:Di
 pg:Bool
noncomputable def zY (b hd:Nat) (ab:AV) (ih:Nat) (pg:Bool):AO:= .inst "Spot" [("reference",.ref b),("head",.ref hd),("above",ab),("inherited",.ref ih),("is_page",.bool pg)]
noncomputable def ax:List String:=["Resources","MediaBox","CropBox","Rotate"]
noncomputable def fh (d:Di) (aR:Di) (key:String):Di:=((look key d).map λva=>cH key va aR).getD aR
noncomputable def cI (d aR:Di):Di:=ax.foldl (fh d) aR
noncomputable def Jk (tab:List (Int × Ob)):Va->Prop
 | .at .none=>False
 | .at (.ref n)=>∃o,ah n tab=some o/\o≠ .null
 | _=>True
noncomputable def rY (tab:List (Int × Ob)) (d:Di):Prop:=∀key∈ax,∀va,look key d=some va->Jk tab va
noncomputable def xH (d:Di) (b:Bool):Prop:=(look "Type" d=some (.at (.name "Pages"))/\b=true)\/(look "Type" d=some (.at (.name "Page"))/\b=false)\/(look "Type" d= .none/\look "Kids" d= .none/\b=false)
noncomputable def bh (P:Nat->Prop) (n:Nat):Nat->Prop:=λx=>P x\/n<=x
section
variable {G:Nat->aj} {H H0 H':HP} {Q:KV} {QS:KS} {k a s t:Nat} {P S:Nat->Prop} {loc:Loc} {tab:List (Int × Ob)} {tr d:Di}
theorem ai.up (x:ai aJ H0 H) (f:ai (atS a) H H') (h:H0.n<=a):ai aJ H0 H':=x.new (f.own h)
theorem RD.fG (P':Nat->Prop) (r:RD P H a d) (h:∀x,x < H.n->P x->P' x):RD P' H a d:=r.mono (.refl:ai aJ H H) λx hx z=>⟨id,h x hx z⟩
theorem RV.fG {P':Nat->Prop} {v:AV} {x:Va} (r:RV P H v x) (h:∀x,x < H.n->P x->P' x):RV P' H v x:=r.mono (.refl:ai aJ H H) λx hx z=>⟨id,h x hx z⟩
theorem Al {key:String} {u:AV} {va:Va} (hu:RV P H u va) {es:List (AV × AV)} (l:L2 (RE P H) es d):L2 (RE P H) (bT (.str key) u es) (cH key va d):=l.rec (.cons ⟨rfl,hu⟩ .nil) λ{e x zz zz} r l ih=>by
 show L2 _ (bif iY e.1 _ then _ else _) (bif x.1==key then _ else _)
 rw [r.1]
 show L2 _ (bif decide (x.1=key) then (AV.str x.1,u)::_ else _) (bif decide (x.1=key) then _ else _)
 exact match decide (x.1=key) with
  | true=>.cons ⟨rfl,hu⟩ l
  | false=>.cons r ih
theorem RV.upd {es:List (AV × AV)} (f:ai (atS a) H H') (e:H.g a= .dict es) {v:AV} {x:Va} (r:RV P H v x):RV P H' v x:=by
 cases x with
 | «at» x=>exact RA.mono f r
 | arr xs=>exact aq r λb vs r=>(bI b vs ⟨r.1,⟨f.lt r.2.1.1,r.2.1.2⟩,f.ne r.2.1.1 r.2.2.1 (λz=>nomatch (z▸r.2.2.1).symm.trans e),r.2.2.2.imp λzz zz r=>r.mono f⟩)
theorem RD.set (r:RD P H a d) {key:String} {u:AV} {va:Va} (hu:RV P H u va) (hl:d.length < lim) {F:HP->Prop} (k:∀H',ai (atS a) H H'->H'.n=H.n->RD P H' a (cH key va d)->F H'):ob (H.g a) (u6 a (.str key) u H F):=
 r.at λes e l=>⟨dm l,l.len▸hl,m6 e λH' f n e'=>k H' f n ⟨n▸r.lt,r.zone,⟨_,e',(Al hu l).imp λzz zz q=>⟨q.1,q.2.upd f e⟩⟩,dc r.nd⟩⟩
theorem RO.bL {v:AV} {o:Ob} (r:RO P H v o) (h:o≠ .null):v.isNone=false:=by
 cases o with
 | null=>exact absurd rfl h
 | dict=>exact r.elim λzz r=>r.1▸rfl
 | stream=>exact aq r λzz zz r=>r.1▸rfl
theorem zA (m:aQ G) {b:Nat} {key:String} (rs:RS P H s t tab tr) (rd:RD P H b d) (hs:∀va,look key d=some va->Jk tab va) (h:∀v,v.isNone=(look key d).isNone->Q v H):G (k+2) "Lookup.get" [.ref s,.ref b,.str key] H Q:=by
 cases hk:look key d with
 | none=>exact xY m rs rd hk (h _ (hk▸rfl))
 | some va=>
  have z:=hs va hk
  replace h:=(hk)▸h
  have val:va.isRef=false->va≠ .at .none->G (k+2) "Lookup.get" [.ref s,.ref b,.str key] H Q:=λe n=>nK m rs rd hk e λu ru=>h u (ru.bL n)
  cases va with
  | arr=>exact val rfl nofun
  | «at» x=>cases x with
   | none=>exact z.elim
   | ref n=>exact z.elim λo z=>sr m rs rd hk z.1 λu ru=>h u (ru.bL z.2)
   | int=>exact val rfl nofun
   | name=>exact val rfl nofun
theorem D3 (m:aQ G) {b hd ih:Nat} {ab:AV} {pg:Bool} (m4:ab≠ .unset) (h:yl Q H (zY b hd ab ih pg)):sE (G (k+1)) "Spot" [.ref b,.ref hd,ab,.ref ih,.bool pg] H Q:=by
 refine m.run 19 rfl rfl rfl (ad dw (upd.mk (ad bo (upd.mk (mJ (v:=ab) m4 (ad bo (upd.mk (ad bo (upd.mk (ad bo (upd.mk ?_)))))))))))
 exact ⟨rfl,h _ (((((ai.push.re (aaF _)).re (aaF _)).re (aaF _)).re (aaF _)).re (aaF _)) rfl bo⟩
theorem Bm (m:aQ G) {b:Nat} {n:Int} {o:Ob} (rs:RS P H s t tab tr) (hb:b < H.n) (e:H.g b=cJ n) (hl:ah n tab=some o) (h:∀H',ai aJ H H'->Q (.ref b) H'):G (k+1) "home_of" [.ref s,.ref b] H Q:=by
 refine m.run 20 rfl rfl rfl (cN λH1 f1 n1 e1=>Px λC hx=>?_)
 have eb:=f1.fix hb e rfl
 refine ad eb (ad eb (ad e1 ⟨⟨abC 1,fm⟩,ad eb (ad e1 ⟨⟨abC 1,fm⟩,(show 0 < lim by decide),m6 e1 λH2 f2 n2 e2=>?_⟩)⟩))
 have f:=f1.up f2 (aaF _)
 have eb:=f.fix hb e rfl
 have rs:=rs.mn f
 refine rs.ins.elim λr e1=>rs.tb.elim λes e2=>((gL e2.2).some hl).elim λv q=>q.2.elim λu w=>?_
 have nr:=w.2.noRef
 exact ad e1.1 (ad e2.1 (ad eb (ad e2.1 ⟨fi e2.2,Tj (q.1.trans (congrArg some w.1)) (ad eb (mJ nr.set (nr.isin _ (hx.1 _ _ _ (h _ f)))))⟩)))
theorem A8 (m:aQ G) {b:Bool} (rs:RS P H s t tab tr) (rd:RD P H a d) (hn:xH d b) (h:Q (.bool b) H):G (k+3) "is_node" [.ref s,.ref a] H Q:=by
 refine rs.ins.elim λzz e=>m.run 21 rfl rfl rfl (ad e.1 ?_)
 rcases hn with ⟨q,rfl⟩ | ⟨q,rfl⟩ | ⟨q,q2,rfl⟩
 .exact nK m rs rd q rfl λu ru=>ru.elim λb z=>z.1▸ad z.2.2 (ad z.2.2 (ad z.2.2 h))
 .exact nK m rs rd q rfl λu ru=>ru.elim λb z=>z.1▸ad z.2.2 (ad z.2.2 (ad z.2.2 h))
 .exact xY m rs rd q (ad e.1 (xY m rs rd q2 h))
theorem A4 (m:aQ G) {xs:List At} (rs:RS P H s t tab tr) (rd:RD P H a d) (hx:look "Kids" d=some (.arr xs)) (h:∀ka,RV P H (.ref ka) (.arr xs)->Q (.ref ka) H):G (k+3) "kids_of" [.ref s,.ref a] H Q:=by
 refine rs.ins.elim λzz e=>m.run 22 rfl rfl rfl (ad e.1 (nK m rs rd hx rfl λu ru=>aq ru λka vs r=>?_))
 obtain rfl:=r.1
 exact ad r.2.2.1 (h ka (bI ka vs ⟨rfl,r.2⟩))
noncomputable def TP (P:Nat->Prop) (H:HP) (Q:KV) (b:Nat) (ab:AV) (nd:Bool) (d aR:Di):Prop:=∀H' a hd ih,ai aJ H H'->H.n<=a->a < H'.n->H'.g a=zY b hd ab ih (!nd)->RD P H' hd d->RD (bh P H.n) H' ih (cI d aR)->Q (.ref a) H'
noncomputable def qp (x:String) (loc loc':Loc):Prop:=∀y,(y==x)=false->loc' y=loc y
theorem qp.upd {x:String} {loc loc':Loc} {v:AV} (h:qp x loc loc'):qp x loc (loc'.upd x v):=λy hy=>by rw [<-h y hy];show (bif _ then _ else _)=_;rw [hy];rfl
theorem qQ {body:PS} {src:HP->Prop} {Z:Nat->Prop} {H1:HP} {g:Nat} {loc0:Loc} (F:Di->String->Di) (hs:∀H',src H') (hF:∀d key,(F d key).length<=d.length+1)
  (step:∀key cur loc' H' (C:KS),key∈ax->ai aJ H1 H'->RD Z H' g cur->cur.length < lim->qp "key" loc0 loc'->(∀bz,ai aJ H1 bz->RD Z bz g (F cur key)->C .next (loc'.upd "key" (.str key)) bz)->body (loc'.upd "key" (.str key)) H' C) (rest:List String):
  ∀{cur:Di} {loc:Loc} {H:HP},(∀key∈rest,key∈ax)->cur.length+rest.length<=104->ai aJ H1 H->RD Z H g cur->qp "key" loc0 loc->(∀loc' H',ai aJ H1 H'->RD Z H' g (rest.foldl F cur)->qp "key" loc0 loc'->QS .next loc' H')->∀{vs:List AV},vs=rest.map .str->lG body (.nm "key") src vs loc H QS:=by
 induction rest with
 | nil=>exact λzz zz f r l hQ vs e=>e▸hQ _ _ f r l
 | cons key rest ih=>
  exact λhm hl f r l hQ vs e=>e▸step key _ _ _ _ (hm _ (.head _)) f r (aaz (aaw (aaM ..) hl) (by decide)) l λbz f' r'=>⟨hs _,ih (λx hx=>hm x (.tail _ hx)) (aaw (abb (hF _ _) _) (by rwa [aa9,abg 1])) f' r' l.upd hQ rfl⟩
theorem Dn {d:Di} (i:Di) (key:String):(fh d i key).length<=i.length+1:=by
 unfold fh
 cases look key d with
 | none=>exact aba _
 | some va=>exact b7
theorem OL (m:aQ G) {b ia:Nat} {aR:Di} {n:Int} {nd:Bool} {ab:AV} (rs:RS P H s t tab tr) (hb:b < H.n) (e:H.g b=cJ n) (hl:ah n tab=some (.dict d)) (ri:RD P H ia aR) (hn:xH d nd) (hi:rY tab d) (m4:ab≠ .unset) (Qv:aR.length<=100)
  (h:TP P H Q b ab nd d aR):G (k+4) "met" [.ref s,.ref b,ab,.ref ia] H Q:=by
 refine m.run 23 rfl rfl rfl (Bm m rs hb e hl λH1 f1=>?_)
 have Cm:=rs.mn f1
 refine Cm.ins.elim λzz es=>ad es.1 (hY m Cm (f1.fix hb e rfl) hl λu ru=>ru.elim λhd ru=>?_)
 obtain rfl:=ru.1
 have rd:=ru.2
 refine rd.at λzz zz zz=>(ri.mn f1).at λis ei li=>⟨λx hx=>(li.mem hx).elim λzz q=>q.2.1▸rfl,cN λH2 f2 n2 e2=>?_⟩
 refine qQ (Z:=bh P H.n) (H1:=H1) (g:=H1.n) (fh d) (λzz=>And.intro rfl rfl) Dn (λkey cur loc' H3 C hk f3 r3 hl l nx=>?_) ax (cur:=aR) (λzz h=>h) (abb Qv 4) f2 ⟨(n2▸aaC _),.inr f1.le,⟨is,e2,li.imp λzz zz r=>r.mono f2 λzz zz h=>⟨id,.inl h⟩⟩,ri.nd⟩ (λzz zz=>rfl) (λloc' H3 f3 r3 l=>?_) rfl
 .have FF:=Cm.mn f3
  have OW:=rd.mn f3
  refine ak (v:= .ref s) (l "shelf" rfl) (FF.ins.elim λzz RQ=>ad RQ.1 (ak (v:= .ref hd) (l "head" rfl) (zA m FF OW (hi key hk) λw hw=>?_)))
  unfold fh at nx
  cases wM:look key d with
  | none=>
   rw [wM] at hw nx
   exact qX (congrArg Bool.not hw) (nx _ f3 r3)
  | some va=>
   rw [wM] at hw nx
   exact qX (congrArg Bool.not hw) (ak (v:= .ref hd) (l "head" rfl) (OW.idx wM λu ru=>ak (v:= .ref H1.n) (l "given" rfl) (r3.set (ru.fG λzz zz h=>.inl h) hl λH4 f4 n4 r4=>nx _ (f3.up f4 (aaF _)) r4)))
 .have FF:=Cm.mn f3
  have OW:=rd.mn f3
  exact ak (v:= .ref b) (l "reference" rfl) (ak (v:= .ref hd) (l "head" rfl) (ak (v:=ab) (l "above" rfl) (mJ m4 (ak (v:= .ref H1.n) (l "given" rfl) (ak (v:= .ref s) (l "shelf" rfl) (ak (v:= .ref hd) (l "head" rfl) (A8 m FF OW hn (Rs (D3 m m4 λH4 f4 n4 e4=>h H4 _ hd H1.n ((f1.tr f3).tr f4) (aaw f1.le f3.le) (n4▸aaC _) e4 (OW.mn f4) (r3.mn f4))))))))))
end
noncomputable def Kt (x:aX) (ns:List Int):Prop:=(x.pg=true/\ns=[])\/(x.pg=false/\look "Kids" x.d=some (.arr (ns.map At.ref)))
structure Vs (tab:List (Int × Ob)) (x:aX) (aR:Di) (ns:List Int):Prop where
 tb:ah x.n tab=some (.dict x.d)
 nd:xH x.d (!x.pg)
 ok:rY tab x.d
 len:aR.length < 90
 aR:x.aR=cI x.d aR
 kids:Kt x ns
noncomputable def Wk (tab:List (Int × Ob)):List (Int × Di)->List aX->Prop
 | st,[]=>st=[]
 | st,x::sp=>∃aR ja ns,st=(x.n,aR)::ja/\Vs tab x aR ns/\Wk tab (ns.map (λn=>(n,x.aR))++ja) sp
structure Tree (tab:List (Int × Ob)) (tr:Di) (sp:List aX):Prop where
 ex:∃cn cd r,(look "Root" tr=some (.at (.ref cn))/\ah cn tab=some (.dict cd))/\look "Pages" cd=some (.at (.ref r))/\Wk tab [(r,[])] sp
 nd:(sp.map (·.n)).Nodup
 len:sp.length < 1000
 hd:∀x E8,sp=x::E8->x.pg=false
theorem Wk.len {tab:List (Int × Ob)} {sp:List aX}:∀{st:List (Int × Di)},Wk tab st sp->st.length<=sp.length:=by
 induction sp with
 | nil=>exact λh=>h▸aaF _
 | cons x sp ih=>
  exact λh=>bj h λaR ja ns h=>h.1▸aa1 (aaw (by rw [aaD];exact abn ..) (ih h.2.2))
section
variable {G:Nat->aj} {H H0 H':HP} {Q:KV} {QS:KS} {k a s t:Nat} {P P' S:Nat->Prop} {loc:Loc} {tab:List (Int × Ob)} {tr d:Di}
structure YI (P:Nat->Prop) (H:HP) (m b:Nat) (ab:List AV) (ia:Nat) (x:Int × Di):Prop where
 lt:b < H.n
 at_:H.g b=cJ x.1
 rd:RD P H ia x.2
 len:ab.length<=m
noncomputable def Gx (P:Nat->Prop) (H:HP) (m:Nat) (v:AV) (x:Int × Di):Prop:=∃b ab ia,v= .tup [.ref b,.tup ab,.ref ia]/\YI P H m b ab ia x
theorem Gx.mono {m m':Nat} (f:ai S H H') (hp:cX S P P' H) (hm:m<=m') {v:AV} {x:Int × Di} (r:Gx P H m v x):Gx P' H' m' v x:=
 r.imp λzz r=>r.imp λzz r=>r.imp λzz r=>⟨r.1,f.lt r.2.lt,f.fix r.2.lt r.2.at_ rfl,r.2.rd.mono f hp,aaw r.2.len hm⟩
structure J0 (P:Nat->Prop) (H:HP) (a b hd:Nat) (ab:AV) (ih:Nat) (x:aX):Prop where
 lt:a < H.n
 at_:H.g a=zY b hd ab ih x.pg
 Jn:b < H.n
 Go:H.g b=cJ x.n
 rd:RD P H hd x.d
 ri:RD P H ih x.aR
theorem J0.mono (f:ai S H H') (hp:cX S P P' H) {b hd ih:Nat} {ab:AV} {x:aX} (r:J0 P H a b hd ab ih x):J0 P' H' a b hd ab ih x:=⟨f.lt r.lt,f.fix r.lt r.at_ rfl,f.lt r.Jn,f.fix r.Jn r.Go rfl,r.rd.mono f hp,r.ri.mono f hp⟩
noncomputable def fj (P:Nat->Prop) (H:HP) (v:AV) (x:aX):Prop:=∃a b hd ab ih,v= .ref a/\J0 P H a b hd ab ih x
theorem fj.mono (f:ai S H H') (hp:cX S P P' H) {v:AV} {x:aX} (r:fj P H v x):fj P' H' v x:=r.imp λzz r=>r.imp λzz r=>r.imp λzz r=>r.imp λzz r=>r.imp λzz r=>⟨r.1,r.2.mono f hp⟩
theorem A5 {n:Nat} {all:List AV} (f:ai S H H') (ha:a < H.n) (hs:¬S a) (h:cy (.rev a) all n H):cy (.rev a) all n H':=by
 show mB _=_/\_
 exact ((f.same a ha hs).1)▸h
theorem L2.EL {α β γ:Type} {r:α->γ->Prop} {f:β->γ} {m:List β}:∀{l:List α},L2 r l (m.map f)->L2 (λa b=>r a (f b)) l m:=by
 induction m with
 | nil=>exact λh=>h.df▸ .nil
 | cons b m ih=>exact λh=>aq h.aW λa l' q=>q.1▸ .cons q.2.1 (ih q.2.2)
structure Dx where
 Z:Nat->Prop
 H:HP
 la:Nat
 a:Nat
 b:Nat
 hd:Nat
 ab:List AV
 ih:Nat
 x:aX
 M:Nat
 target:List (Int × Di)
 loc:Loc
structure P8 (c:Dx):Prop where
 sp:J0 c.Z c.H c.a c.b c.hd (.tup c.ab) c.ih c.x
 lla:c.la < c.H.n
 TY:∀x,c.Z x->x≠c.la
 hM:c.ab.length < c.M/\c.M < 2000/\c.target.length < 3000
 l1:c.loc "spot"= .ref c.a
 l2:c.loc "line"= .ref c.la
 l3:c.loc "above"= .tup c.ab
structure S0 (c:Dx) (rest:List Int) (ls:List AV) (cur:List (Int × Di)) (vs:List AV) (loc:Loc) (H':HP):Prop where
 aD:ai (atS c.la) c.H H'
 gl:H'.g c.la= .list ls
 rl:L2 (Gx c.Z H' c.M) ls cur
 rv:L2 (λv n=>j4 c.H v (cJ n)) vs rest
 eq:cur++rest.map (λn=>(n,c.x.aR))=c.target
 lo:∀x,(x=="kid")=false->loc x=c.loc x
noncomputable def Sv (c:Dx) (vs:List AV) (loc:Loc) (H':HP):Prop:=∃rest ls cur,S0 c rest ls cur vs loc H'
noncomputable def Uc (c:Dx) (QS:KS):Prop:=∀loc' H' ls,ai (atS c.la) c.H H'->H'.g c.la= .list ls->L2 (Gx c.Z H' c.M) ls c.target->(∀x,(x=="kid")=false->loc' x=c.loc x)->QS .next loc' H'
theorem BB (m:aQ G) (c:Dx) (ok:P8 c) (rs:RS c.Z c.H s t tab tr) {ns:List Int} (hx:look "Kids" c.x.d=some (.arr (ns.map At.ref))) (l0:c.loc "shelf"= .ref s) {ls:List AV} {cur:List (Int × Di)} (hl:c.H.g c.la= .list ls) (rl:L2 (Gx c.Z c.H c.M) ls cur) (ht:cur++ns.reverse.map (λn=>(n,c.x.aR))=c.target)
  (h:Uc c QS):Pap.S.bX (.nm "kid") .rev (.o (.call "kids_of" (.cons (.loc "shelf") (.o (.fld (.loc "spot") "head"))))) (.o (.expr (.ay (.loc "line") "append" (.o (.tup (.cons (.loc "kid") (.cons (.bin .add (.loc "above") (.tup (.o (.fld (.loc "spot") "reference")))) (.o (.fld (.loc "spot") "inherited"))))))))) (G (k+3)) c.loc c.H QS:=by
 have sp:=ok.sp
 refine ak l0 (ak ok.l1 (ad sp.at_ (A4 m rs sp.rd hx λka rk=>aq rk λka' vs r=>?_)))
 cases r.1
 have rk:=r.2
 refine dE (v:=vs.reverse) (by show mB (c.H.g ka)=_;rw [rk.2.1];rfl) (EB (Sv c) ?_ _ _ _ (c9 ns.reverse ls cur ⟨.refl,hl,rl,rk.2.2.EL.rev,ht,λzz zz=>rfl⟩) λloc' H' I=>bj I λrest ls cur q=>?_)
 .refine λv vs' loc' H' C I hN=>bj I λrest ls cur q=>?_
  cases rest with
  | nil=>cases q.rv
  | cons n rest=>
  have rv:=q.rv.inv
  refine rv.1.elim λb w=>?_
  obtain rfl:=w.1
  have ea:=q.aD.fix sp.lt sp.at_ rfl
  refine ak ((q.lo _ rfl).trans ok.l2) (ad q.gl (ak ((q.lo _ rfl).trans ok.l3) (ak ((q.lo _ rfl).trans ok.l1) (ad ea ⟨aaw (Nat.succ_le_of_lt ok.hM.1) (aaw (aaI ok.hM.2.1) (by decide)),ak ((q.lo _ rfl).trans ok.l1) (ad ea (Bc q.gl (q.rl.len▸aaA (aaz (aaw (aaM ..) (aaS (by rw [<-aaD,q.eq]))) ok.hM.2.2) (by decide)) λH2 f2 n2 e2=>?_))⟩))))
  have f:=q.aD.tr f2
  refine hN _ _ (A5 f rk.1.1 (ok.TY _ rk.1.2) ⟨by show mB (c.H.g ka)=_;rw [rk.2.1];rfl,rfl⟩) (c9 rest _ (cur++[(n,c.x.aR)]) ⟨f,e2,(q.rl.imp λzz zz r=>Gx.mono f2 (λx zz z=>⟨ok.TY x z,z⟩) (aaF _) r).snoc (c9 b _ c.ih ⟨rfl,f.lt w.2.1,f.fix w.2.1 w.2.2 rfl,sp.ri.mono f (λx zz z=>⟨ok.TY x z,z⟩),?_⟩),rv.2,?_,λx hx=>?_⟩)
  .rw [aaD];exact ok.hM.1
  .have:=q.eq;rwa [aa4,List.append_cons] at this
  .exact Eq.trans (by show (bif x=="kid" then _ else _)=_;rw [hx];rfl) (q.lo x hx)
 .cases rest with
  | cons=>cases q.rv
  | nil=>
  have:=q.eq
  rw [List.map_nil,aaY] at this
  exact h _ _ ls q.aD q.gl (this▸q.rl) q.lo
structure jN where
 P:Nat->Prop
 H:HP
 s:Nat
 t:Nat
 tab:List (Int × Ob)
 tr:Di
 f:Nat
 e:Nat
 l:Nat
 sp:List aX
noncomputable def xq (c:jN):Nat->Prop:=λx=>x=c.f\/x=c.e\/x=c.l
noncomputable def eX (c:jN):Nat->Prop:=λx=>(c.P x/\x < c.H.n)\/(c.H.n<=x/\¬xq c x)
structure jg (c:jN):Prop where
 rs:RS c.P c.H c.s c.t c.tab c.tr
 nd:(c.sp.map (·.n)).Nodup
 len:c.sp.length < 1000
 hd:∀x sp,c.sp=x::sp->x.pg=false
 lf:c.H.n<=c.f
 OT:c.f < c.e
 GQ:c.e < c.l
noncomputable def mE (ns:List Int):List (AV × AV):=ns.map λn=>(.int n,.bool true)
structure Ov (c:jN) (done sp:List aX) (vs ls:List AV) (st:List (Int × Di)) (loc:Loc) (H':HP):Prop where
 aD:ai aJ c.H H'
 lt:c.l < H'.n
 l0:loc "shelf"= .ref c.s
 l1:loc "found"= .ref c.f
 l2:loc "seen"= .ref c.e
 l3:loc "line"= .ref c.l
 eq:c.sp=done++sp
 wk:Wk c.tab st sp
 gf:H'.g c.f= .list vs
 rf:L2 (fj (eX c) H') vs done
 ge:H'.g c.e= .dict (mE (done.map (·.n)))
 gl:H'.g c.l= .list ls
 rl:L2 (Gx (eX c) H' done.length) ls st.reverse
noncomputable def Jq (c:jN) (j:Nat) (loc:Loc) (H':HP):Prop:=∃done sp vs ls st,sp.length=j/\Ov c done sp vs ls st loc H'
section
variable {c:jN}
theorem jg.mW (ok:jg c):c.f < c.l:=aaA ok.OT ok.GQ
theorem ic (ok:jg c) {x:Nat} (h:eX c x):¬xq c x:=λq=>h.elim (λh=>q.elim (λe=>Nat.not_le.mpr h.2 (e▸ok.lf)) λq=>q.elim (λe=>Nat.not_le.mpr h.2 (e▸aaw ok.lf (aaI ok.OT))) λe=>Nat.not_le.mpr h.2 (e▸aaw ok.lf (aaI ok.mW))) λh=>h.2 q
theorem Fh (ok:jg c) {H:HP}:cX (xq c) (eX c) (eX c) H:=λzz zz h=>⟨ic ok h,h⟩
theorem Mk (ok:jg c) {S:Nat->Prop} {H H':HP} (x:ai aJ c.H H) (f:ai S H H') (h:∀a,S a->xq c a):ai aJ c.H H':=x.trans f λzz ha q=>(h _ q).elim (λe=>Nat.not_le.mpr ha (e▸ok.lf)) λq=>q.elim (λe=>Nat.not_le.mpr ha (e▸aaw ok.lf (aaI ok.OT))) λe=>Nat.not_le.mpr ha (e▸aaw ok.lf (aaI ok.mW))
theorem u9 {ns:List Int} {n:Int}:bB (.int n) (mE ns):=⟨abC 1,λe he=>(aaG.mp he).elim λx q=>q.2▸rfl⟩
theorem u8 {ns:List Int} {n:Int}:AV.int n∈(mE ns).map (·.1) ↔ n∈ns:=by
 rw [mE,aa5]
 exact ⟨λh=>(aaG.mp h).elim λx q=>AV.int.inj q.2▸q.1,λh=>aaG.mpr ⟨n,h,rfl⟩⟩
end
noncomputable def ES (P:Nat->Prop) (H:HP) (Q:KV) (sp:List aX):Prop:=∀H' a vs,ai aJ H H'->H.n<=a->a < H'.n->H'.g a= .list vs->L2 (fj (bh P H.n) H') vs sp->Q (.ref a) H'
end
section
variable {G:Nat->aj} {H H0 H':HP} {Q:KV} {QS:KS} {k a s t:Nat} {P P' S:Nat->Prop} {loc:Loc} {tab:List (Int × Ob)} {tr d:Di} {c:jN}
structure NV (c:jN) (done sp:List aX) (ja:List (Int × Di)) (x:aX) (a:Nat) (ls0:List AV) (loc:Loc) (H':HP):Prop where
 aD:ai aJ c.H H'
 lt:c.l < H'.n
 l0:loc "shelf"= .ref c.s
 l1:loc "found"= .ref c.f
 l2:loc "seen"= .ref c.e
 l3:loc "line"= .ref c.l
 ls:loc "spot"= .ref a
 eq:c.sp=(done++[x])++sp
 ex:∃vs b hd ab ih,H'.g c.f= .list vs/\L2 (fj (eX c) H') vs (done++[x])/\(ab.length<=done.length/\loc "above"= .tup ab)/\J0 (eX c) H' a b hd (.tup ab) ih x
 ge:H'.g c.e= .dict (mE ((done++[x]).map (·.n)))
 gl:H'.g c.l= .list ls0
 rl:L2 (Gx (eX c) H' (done.length+1)) ls0 ja.reverse
theorem yO (m:aQ G) (ok:jg c) {done sp:List aX} {ja:List (Int × Di)} {x:aX} {ls0:List AV} {aR:Di} {ns:List Int} (I:NV c done sp ja x a ls0 loc H') (w:Vs c.tab x aR ns) (wk:Wk c.tab (ns.map (λn=>(n,x.aR))++ja) sp)
  {C:KS} (hN:∀loc' H',Jq c sp.length loc' H'->C .next loc' H'):SL.o (.bA (.not (.fld (.loc "spot") "is_page")) (.o (.bX (.nm "kid") .rev (.o (.call "kids_of" (.cons (.loc "shelf") (.o (.fld (.loc "spot") "head"))))) (.o (.expr (.ay (.loc "line") "append" (.o (.tup (.cons (.loc "kid") (.cons (.bin .add (.loc "above") (.tup (.o (.fld (.loc "spot") "reference")))) (.o (.fld (.loc "spot") "inherited"))))))))))) .nil) (G (k+3)) loc H' C:=by
 refine kq I.ex λvs b hd ab ih q=>?_
 have V1:=q.2.2.2
 have dl:(done++[x]).length=done.length+1:=aaD
 refine ak I.ls (ad V1.at_ ?_)
 have hk:=w.kids
 cases hp:x.pg with
 | true=>
  have e:ns=[]:=hk.elim (λz=>z.2) λz=>nomatch hp.symm.trans z.1
  rw [e] at wk
  exact hN _ _ (pH (done++[x]) sp vs ls0 ja ⟨rfl,I.aD,I.lt,I.l0,I.l1,I.l2,I.l3,I.eq,wk,q.1,q.2.1,I.ge,I.gl,dl▸I.rl⟩)
 | false=>
  have e:=hk.elim (λz=>nomatch hp.symm.trans z.1) λz=>z.2
  have h1:=congrArg List.length I.eq
  rw [aaD,dl] at h1
  have h3:=ok.len
  refine BB m ⟨eX c,H',c.l,a,b,hd,ab,ih,x,done.length+1,(ns.map (λn=>(n,x.aR))++ja).reverse,loc⟩ ⟨V1,I.lt,λy hy e=>ic ok hy (.inr (.inr e)),⟨Nat.lt_succ_of_le q.2.2.1.1,by show done.length+1 < 2000;exact aaz (aaM _ _) (aaA (Rn h1.symm h3) (by decide:1000 < 2000)),by show List.length (List.reverse _) < 3000;rw [List.length_reverse];exact aaz (aaw wk.len (aaw (abn _ _) (aaS h1.symm))) (aaA h3 (by decide))⟩,I.ls,I.l3,q.2.2.1.2⟩
   (ok.rs.mono I.aD (λy hy z=>⟨id,.inl ⟨z,hy⟩⟩) id id) e I.l0 I.gl I.rl (show (ns.map (λn=>(n,x.aR))++ja).reverse=ja.reverse++ns.reverse.map λn=>(n,x.aR) from by rw [List.reverse_append,List.map_reverse]).symm λloc' H2 ls f g r l=>?_
  refine hN _ _ (pH (done++[x]) sp vs ls _ ⟨rfl,Mk ok I.aD f λy e=>.inr (.inr e),f.lt I.lt,(l _ rfl).trans I.l0,(l _ rfl).trans I.l1,(l _ rfl).trans I.l2,(l _ rfl).trans I.l3,I.eq,wk,f.ne (aaA ok.mW I.lt) q.1 (aaJ ok.mW),q.2.1.imp λzz zz r=>fj.mono f (λy zz z=>⟨λe=>ic ok z (.inr (.inr e)),z⟩) r,f.ne (aaA ok.GQ I.lt) I.ge (aaJ ok.GQ),g,dl▸r⟩)
theorem zx (m:aQ G) {sp:List aX} (rs:RS P H s t tab tr) (T:Tree tab tr sp) (hQ:ES P H Q sp):G (k+5) "spots" [.ref s] H Q:=by
 refine bj T.ex λcn cd r z=>?_
 have wk:=z.2.2
 refine m.run 24 rfl rfl rfl (cN λH1 f1 n1 e1=>cN λH2 f2 n2 e2=>?_)
 have pL:=f1.tr f2
 have M6:=rs.mn pL
 refine M6.ins.elim λzz es=>ad es.1 (sK m M6 z.1.1 z.1.2 λca M4=>M4.at λzz zz zz=>M4.IA z.2.1 λu ru=>ru.elim λb w=>?_)
 rw [w.1]
 refine cN λH3 f3 n3 e3=>cN λH4 f4 n4 e4=>?_
 have qM:H.n < H1.n:=n1▸aaC _
 have wU:H1.n < H2.n:=n2▸aaC _
 have JU:H2.n < H3.n:=n3▸aaC _
 have WO:H3.n < H4.n:=n4▸aaC _
 have OU:=f3.tr f4
 refine (λ(c:jN) (e:c=⟨P,H,s,t,tab,tr,H.n,H1.n,H3.n,sp⟩)=>?_) _ rfl
 have ok:jg c:=e▸⟨rs,T.nd,T.len,T.hd,aaF _,qM,aaA wU JU⟩
 have hQ:ES c.P c.H Q c.sp:=e▸hQ
 refine Q7 (Jq c) sp.length (e▸(pH ([]) sp ([]) ([.tup [.ref b,.tup [],.ref H2.n]]) ([(r,[])]) ⟨rfl,pL.tr OU,WO,rfl,rfl,rfl,rfl,rfl,wk,(f2.tr OU).keep qM e1,.nil,OU.keep wU e2,e4,.cons (c9 b ([]) H2.n ⟨rfl,OU.lt w.2.1,OU.fix w.2.1 w.2.2 rfl,⟨aaA JU WO,.inr ⟨pL.le,λq=>q.elim (λq=>aaN (aaA qM wU) q) λq=>q.elim (λq=>aaN wU q) λq=>aaJ JU q⟩,⟨[],f4.keep JU e3,.nil⟩,.nil⟩,aaF _⟩) .nil⟩)) ?_
 clear e wk rs M6 T z
 refine λj loc H' C I hN=>kq I λdone sp vs ls st q=>?_
 have I:=q.2
 refine ak I.l3 ?_
 cases sp with
 | nil=>
  have e:st=[]:=I.wk
  have el:ls=[]:=by have:=I.rl;rw [e] at this;exact this.df
  have eq:=I.eq
  rw [aaY] at eq
  exact ad (I.gl.trans (congrArg AO.list el)) (ak I.l1 (hQ _ _ vs I.aD ok.lf (aaA ok.mW I.lt) I.gf (eq▸I.rf.imp λzz zz r=>fj.mono (.refl:ai aJ _ _) (λy zz z=>⟨id,z.elim (λz=>.inl z.1) λz=>.inr z.1⟩) r)))
 | cons x sp=>
 refine bj I.wk λaR ja ns w=>?_
 have w1:=w.2.1
 have rl:=I.rl
 rw [w.1,List.reverse_cons] at rl
 refine rl.JV (λzz e=>nomatch (List.append_eq_nil_iff.mp e).2) λls0 u ye y e1 e2 r0 ru=>?_
 have e3:=List.append_inj' e2 rfl
 rw [<-e3.1] at r0
 rw [<-(abf e3.2).1] at ru
 refine bj ru λb ab ia q=>?_
 have gl:=I.gl
 rw [e1,q.1] at gl
 refine WK gl (ak I.l3 (ad gl (PT gl λH2 f2 n2 e2=>?_)))
 have LW:=Mk ok I.aD f2 λy e=>.inr (.inr e)
 have M6:RS (eX c) H2 c.s c.t c.tab c.tr:=ok.rs.mono LW (λy hy z=>⟨id,.inl ⟨z,hy⟩⟩) id id
 have dl:done.length+(sp.length+1) < 1000:=by have:=ok.len;rwa [I.eq,aaD] at this
 refine ak I.l0 (OL m M6 (f2.lt q.2.lt) (f2.fix q.2.lt q.2.at_ rfl) w1.tb (q.2.rd.mono f2 (λy zz z=>⟨λe=>ic ok z (.inr (.inr e)),z⟩)) w1.nd w1.ok nofun (aaI (aaA w1.len (by decide))) λH3 a hd ih f3 h1 h2 h3 h4 h5=>?_)
 have FF:=M6.mn f3
 have k3:cX aJ (eX c) (eX c) H2:=aV
 have Bj:c.l < H3.n:=f3.lt (n2▸I.lt)
 have ne1:=aaJ ok.mW
 have ne2:=aaJ ok.GQ
 have Qe:=f3.keep (n2▸aaA ok.mW I.lt) (f2.ne (aaA ok.mW I.lt) I.gf ne1)
 have WD:=f3.keep (n2▸aaA ok.GQ I.lt) (f2.ne (aaA ok.GQ I.lt) I.ge ne2)
 have R4:=f3.fix (f2.lt q.2.lt) (f2.fix q.2.lt q.2.at_ rfl) rfl
 have nd:=ok.nd
 rw [I.eq,aaL,abw] at nd
 have fresh:x.n ∉ done.map (·.n):=λz=>nd.2.2 _ z _ (.head _) rfl
 refine ad h3 (ad R4 (ak I.l2 (ad WD ⟨u9,qX (t:=false) (Bool.eq_false_iff.mpr λz=>fresh (u8.mp (getD_some.mp z))) (ak I.l1 (cN λH4 f4 n4 e4=>ad (f4.keep (aaA ok.mW Bj) Qe) (ad e4 ?_)))⟩)))
 have vl:=I.rf.len
 have nv:c.l < H4.n:=f4.lt Bj
 have Xb:=f4.fix h2 h3 rfl
 have Wu:=f4.keep (aaA ok.GQ Bj) WD
 have rest:SL.cons (.b3 (.loc "seen") (.fld (.fld (.loc "spot") "reference") "number") (.bool true)) (.cons (.expr (.ay (.loc "found") "append" (.o (.loc "spot")))) (.o (.bA (.not (.fld (.loc "spot") "is_page")) (.o (.bX (.nm "kid") .rev (.o (.call "kids_of" (.cons (.loc "shelf") (.o (.fld (.loc "spot") "head"))))) (.o (.expr (.ay (.loc "line") "append" (.o (.tup (.cons (.loc "kid") (.cons (.bin .add (.loc "above") (.tup (.o (.fld (.loc "spot") "reference")))) (.o (.fld (.loc "spot") "inherited"))))))))))) .nil))) (G (k+4)) ((((loc.upd "value" (.ref b)).upd "above" (.tup ab)).upd "inherited" (.ref ia)).upd "spot" (.ref a)) H4 C:=by
  refine ak I.l2 (ad Xb (ad (f4.fix (f3.lt (f2.lt q.2.lt)) R4 rfl) (ad Wu ⟨u9,by rw [mE,aaB,aaB];exact aaA (aaz (aaM ..) dl) (by decide),m6 Wu λH5 f5 n5 e5=>?_⟩)))
  have Vw:=f5.ne (aaA ok.mW nv) (f4.keep (aaA ok.mW Bj) Qe) (aaJ ok.OT)
  refine ak I.l1 (ad Vw (Bc Vw (vl▸aaA (aaz (aaM ..) dl) (by decide)) λH6 f6 n6 e6=>?_))
  have Ub:ai (xq c) H4 H6:=(f5.weak λzz zz e=>.inr (.inl e)).trans f6 λzz zz e=>.inl e
  have Kf:ai (xq c) H3 H6:=f4.no.trans Ub λzz zz e=>e
  have MD:ai (xq c) H' H6:=(f2.weak λzz zz e=>.inr (.inr e)).trans (f3.no.trans Kf λzz zz e=>e) λzz zz e=>e
  have zw:∀y,bh (eX c) H2.n y->eX c y:=λy z=>z.elim id λz=>.inr ⟨aaw LW.le z,λq=>q.elim (λe=>aaP.mpr z (e▸n2▸aaA ok.mW I.lt)) λq=>q.elim (λe=>aaP.mpr z (e▸n2▸aaA ok.GQ I.lt)) λe=>aaP.mpr z (e▸n2▸I.lt)⟩
  have sb:J0 (eX c) H6 a b hd (.tup ab) ih x:=⟨Kf.lt h2,by have:=Kf.fix h2 h3 rfl;rwa [Bool.not_not] at this,Kf.lt (f3.lt (f2.lt q.2.lt)),Kf.fix (f3.lt (f2.lt q.2.lt)) R4 rfl,h4.mono Kf (Fh ok),w1.aR▸h5.mono Kf λy hy z=>⟨ic ok (zw y z),zw y z⟩⟩
  .refine yO (k:=k+1) (a:=a) (ls0:=ls0) (done:=done) (loc:=(((loc.upd "value" (.ref b)).upd "above" (.tup ab)).upd "inherited" (.ref ia)).upd "spot" (.ref a)) (H':=H6) m ok ?_ w1 w.2.2 λloc' H' J=>hN _ _ _ (by exact ((show List.length (x::sp)=j from (by assumption:_/\_).1))▸aaC _) J
   refine ⟨Mk ok ((LW.tr f3).tr f4) Ub λzz e=>e,(Ub.lt nv),I.l0,I.l1,I.l2,I.l3,rfl,by rw [I.eq,aaW];rfl,(pH _ b hd ab ih ⟨e6,(I.rf.imp λzz zz r=>fj.mono MD (Fh ok) r).snoc (pH a b hd _ ih ⟨rfl,sb⟩),⟨q.2.len,rfl⟩,sb⟩),(f6.ne (n5▸aaA ok.GQ nv) e5 (aaN ok.OT)).trans (congrArg AO.dict ?_),f6.ne (n5▸nv) (f5.ne nv (f4.keep Bj (f3.keep (n2▸I.lt) e2)) (abm ne2)) (abm ne1),r0.imp λzz zz r=>Gx.mono MD (Fh ok) (aba _) r⟩
   rw [dY λz=>fresh (u8.mp z),mE,mE,aaL,aaL];rfl
 by_cases Tc:done=[]
 .have ev:vs=[]:=List.eq_nil_of_length_eq_zero (by rw [vl,Tc];rfl)
  exact .inl ⟨⟨ev,by rw [ev];rfl⟩,ad (o':=zY b hd (.tup ab) ih false) (Xb.trans (by rw [ok.hd x sp (by rw [I.eq,Tc];rfl)];rfl)) rest⟩
 .exact .inr ⟨λz=>Tc (List.eq_nil_of_length_eq_zero (vl▸z)),rest⟩
end
noncomputable def dK (d aR f:Di) (key:String):Di:=match look key d with
 | some _=>f
 | .none=>((look key aR).map λva=>cH key va f).getD f
noncomputable def iK (d aR:Di):Di:=ax.foldl (dK d aR) d
noncomputable def ar (sp:List aX):List (Int × Di):=(sp.filter (·.pg)).map λx=>(x.n,iK x.d x.aR)
theorem wI {d aR:Di} (i:Di) (key:String):(dK d aR i key).length<=i.length+1:=by
 unfold dK
 cases look key d with
 | some _=>exact aba _
 | none=>cases look key aR with
  | none=>exact aba _
  | some va=>exact b7
theorem Wk.all {tab:List (Int × Ob)} {sp:List aX}:∀{st:List (Int × Di)},Wk tab st sp->∀x∈sp,ah x.n tab=some (.dict x.d)/\rY tab x.d:=by
 induction sp with
 | nil=>exact λzz=>fm
 | cons y sp ih=>exact λw x hx=>bj w λaR ja ns w=>(aaH.mp hx).elim (λe=>e▸⟨w.2.1.tb,w.2.1.ok⟩) (ih w.2.2 x)
section
variable {G:Nat->aj} {H H0 H':HP} {Q:KV} {QS:KS} {k a s t:Nat} {P P' S:Nat->Prop} {loc:Loc} {tab:List (Int × Ob)} {tr d:Di} {sp:List aX}
noncomputable def zB (b f:Nat):AO:= .inst "Page" [("reference",.ref b),("fields",.ref f)]
structure Ke (P:Nat->Prop) (H:HP) (a b f:Nat) (pg:Int × Di):Prop where
 lt:a < H.n
 at_:H.g a=zB b f
 Jn:b < H.n
 Go:H.g b=cJ pg.1
 rf:RD P H f pg.2
noncomputable def dV (P:Nat->Prop) (H:HP) (v:AV) (pg:Int × Di):Prop:=∃a b f,v= .ref a/\Ke P H a b f pg
theorem Ke.mono (f:ai S H H') (hp:cX S P P' H) {b fa:Nat} {pg:Int × Di} (r:Ke P H a b fa pg):Ke P' H' a b fa pg:=⟨f.lt r.lt,f.fix r.lt r.at_ rfl,f.lt r.Jn,f.fix r.Jn r.Go rfl,r.rf.mono f hp⟩
theorem dV.mono (f:ai S H H') (hp:cX S P P' H) {v:AV} {pg:Int × Di} (r:dV P H v pg):dV P' H' v pg:=r.imp λzz r=>r.imp λzz r=>r.imp λzz r=>⟨r.1,r.2.mono f hp⟩
theorem A0 {n n':Nat} (h:n<=n') {x:Nat}:bh (bh P n) n' x->bh P n x:=λz=>z.elim id λq=>.inr (aaw h q)
theorem Fw (m:aQ G) {b f:Nat} (h:yl Q H (zB b f)):sE (G (k+1)) "Page" [.ref b,.ref f] H Q:=tU m (i:=18) rfl rfl ⟨⟨rfl,rfl⟩,rfl,rfl,rfl⟩ nofun nofun h
theorem BV (r:RD P H a d) (z:P H.n) (h:∀H',ai aJ H H'->H'.n=H.n+1->RD P H' H.n d->Q (.ref H.n) H'):vP (.ref a) H Q:=
 r.at λes e l=>⟨λx hx=>(l.mem hx).elim λzz q=>q.2.1▸rfl,cN λH' f n e'=>h H' f n (.fresh (n▸aaC _) z e' (l.imp λzz zz r=>r.mono f aV) r.nd)⟩
theorem wi (m:aQ G) {b hd ih:Nat} {ab:AV} {x:aX} (rs:RS P H s t tab tr) (sb:J0 P H a b hd ab ih x) (hi:rY tab x.d) (hl:x.d.length < 64)
  (h:vR (bh P H.n) Q H (iK x.d x.aR)):G (k+3) "fields_of" [.ref s,.ref a] H Q:=by
 refine m.run 25 rfl rfl rfl (ad sb.at_ (BV (sb.rd.fG (bh P H.n) λzz zz h=>.inl h) (.inr (aaF _)) λH1 f1 n1 r1=>?_))
 refine qQ (Z:=bh P H.n) (H1:=H) (g:=H.n) (dK x.d x.aR) (λzz=>And.intro rfl rfl) wI (λkey cur loc' H3 C hk f3 r3 hl l nx=>?_) ax (cur:=x.d) (λzz h=>h) (aaw (abb (aaI hl) 4) (by decide)) f1 r1 (λzz zz=>rfl) (λloc' H3 f3 r3 l=>ak (v:= .ref H.n) (l "found" rfl) (h H3 _ f3 (aaF _) r3)) rfl
 have FF:=rs.mn f3
 have MH:=sb.mono f3 aV
 refine ak (v:= .ref a) (l "spot" rfl) (ad MH.at_ (MH.ri.isin ?_))
 unfold dK at nx
 cases S7:look key x.aR with
 | none=>
  refine nx _ f3 ?_
  rw [S7]
  cases look key x.d<;>exact r3
 | some va=>
  refine ak (v:= .ref s) (l "shelf" rfl) (FF.ins.elim λzz es=>ad es.1 (ak (v:= .ref a) (l "spot" rfl) (ad MH.at_ (zA m FF MH.rd (hi key hk) λw hw=>qX hw ?_))))
  cases Wo:look key x.d with
  | some vd=>exact nx _ f3 ((Wo)▸r3)
  | none=>
   refine ak (v:= .ref a) (l "spot" rfl) (ad MH.at_ (MH.ri.idx S7 λu ru=>ak (v:= .ref H.n) (l "found" rfl) (r3.set (ru.fG λzz zz h=>.inl h) hl λH4 f4 n4 r4=>nx _ (f3.up f4 (aaF _)) ?_)))
   rw [Wo,S7];exact r4
theorem ti (m:aQ G) (rs:RS P H s t tab tr) (T:Tree tab tr sp) (h:tm (fj (bh P H.n)) Q H aJ (sp.filter (·.pg))):G (k+6) "page_spots" [.ref s] H Q:=by
 refine m.run 26 rfl rfl rfl (zx m rs T λH1 b vs f1 h1 h2 h3 h4=>dB (q:=fj (bh P H.n)) (aH h3) h2 id (λx=>x.pg) (λzz zz zz zz f z=>fj.mono f aV z) h4 (h4.len▸aaI (ie T.len)) (λv x H2 C N rv f y n=>?_) λH2 c Jj f2 qw lg e2 l2=>h H2 c Jj (f1.tr f2) (aaw f1.le qw) lg e2 (by rw [aby] at l2;exact l2))
 have rv:=fj.mono f aV rv
 refine kq rv λa b hd ab ih q=>?_
 exact q.1▸ad q.2.at_ (Fu (λe=>y e H2 _ .refl (q.1▸rv)) n)
noncomputable def Ls (P:Nat->Prop) (H:HP) (Q:KV) (sp:List aX):Prop:=tm (dV (bh P H.n)) Q H aJ (ar sp)
theorem jJ (m:aQ G) (rs:RS P H s t tab tr) (T:Tree tab tr sp) (ok:∀w∈tab,de w.2) (h:Ls P H Q sp):G (k+7) "pages" [.ref s] H Q:=by
 refine m.run 27 rfl rfl rfl (ti m rs T λH1 b vs f1 Mi h2 h3 h4=>cG (q:=dV (bh P H.n)) (aH h3) h2 (λx:aX=>(x.n,iK x.d x.aR)) (λzz zz zz zz f z=>dV.mono f aV z) h4.wm (h4.len▸aaI (ie (aaz (List.length_filter_le ..) T.len))) (λv x H2 C N rv f y=>?_) λH2 c Jj f2 qw lg e2 l2=>h H2 c Jj (f1.tr f2) (aaw f1.le qw) lg e2 l2)
 have qw:=aaw f1.le f.le
 refine kq (fj.mono f aV rv.1) λa b hd ab ih q=>bj T.ex λzz zz zz z=>?_
 have w:=z.2.2.all x (abk.mp rv.2).1
 have sb:=q.2
 refine q.1▸ad sb.at_ (wi m (rs.mono (f1.tr f) (λzz zz h=>⟨id,.inl h⟩) id id) sb w.2 (show eI x.d from ok _ (bp w.1)).1 λH3 fa f3 BP r3=>Fw m λH4 f4 n4 e4=>?_)
 have Co:=f3.tr f4
 exact y H4 _ Co (c9 _ b fa ⟨rfl,n4▸aaC _,e4,Co.lt sb.Jn,Co.fix sb.Jn sb.Go rfl,(r3.mn f4).fG _ λzz zz=>A0 qw⟩)
end
noncomputable def aM (tab:List (Int × Ob)) (n:Int):Bool:=(ah n tab).isSome
noncomputable def HS:List String:=["Size","Prev","XRefStm"]
noncomputable def WC (s:String):Bool:=(HS.map AV.str).any (iY (.str s))
noncomputable def sx (tr:Di):Di:=tr.filter λx=>!WC x.1
noncomputable def b8 (ks:List AV):List (AV × AV):=cW (ks.map λv=>(v,AV.bool true))
theorem fY (ks:List AV) (k:AV):b8 (ks++[k])=bT k (.bool true) (b8 ks):=by delta b8 cW;rw [aaL,List.foldl_append];rfl
theorem nU {k v k':AV} {es:List (AV × AV)}:k'∈(bT k v es).map (·.1) ↔ k'=k\/k'∈es.map (·.1):=by
 induction es with
 | nil=>exact aaH
 | cons e r ih=>
  by_cases q:e.1=k
  .rw [show bT k v (e::r)=(k,v)::r from q▸lS,aa4,aaH,aa4,aaH,q];exact ⟨.inr,λh=>h.elim .inl id⟩
  .rw [show bT k v (e::r)=_ from iN q,aa4,aaH,ih,aa4,aaH];exact or_left_comm
theorem zi {k v:AV} {es:List (AV × AV)} (h:(es.map (·.1)).Nodup):((bT k v es).map (·.1)).Nodup:=by
 induction es with
 | nil=>exact abu _ _
 | cons e r ih=>
  by_cases q:e.1=k
  .rw [show bT k v (e::r)=(k,v)::r from q▸lS];exact (show (k::r.map (·.1)).Nodup from q▸h)
  .have h:=aa8.mp h
   rw [show bT k v (e::r)=_ from iN q]
   exact aa8.mpr ⟨λz=>(nU.mp z).elim q h.1,ih h.2⟩
theorem f0 {α:Type} {p:List α->Prop} (h0:p []) (h1:∀l a,p l->p (l++[a])) (l:List α):p l:=by
 have:∀l:List α,p l.reverse:=λl=>by
  induction l with
  | nil=>exact h0
  | cons a l ih=>rw [List.reverse_cons];exact h1 _ _ ih
 exact List.reverse_reverse l▸this l.reverse
theorem cr (ks:List AV):∀k,k∈(b8 ks).map (·.1) ↔ k∈ks:=f0 (p:=λks=>∀k,k∈(b8 ks).map (·.1) ↔ k∈ks) (λk=>.rfl) (λl a ih k=>by rw [fY,nU,ih,aa6,aaK];exact or_comm) ks
theorem Cg (ks:List AV):((b8 ks).map (·.1)).Nodup:=f0 (p:=λks=>((b8 ks).map (·.1)).Nodup) List.Pairwise.nil (λl a ih=>by rw [fY];exact zi ih) ks
theorem A2 (ks:List AV):(b8 ks).length<=ks.length:=aaB (as:=b8 ks) (·.1)▸(Cg ks).length_le_of_subset λk hk=>(cr ks k).mp hk
theorem C5 {ks:List AV} (h:ks.Nodup):b8 ks=ks.map λv=>(v,AV.bool true):=kR (es:=[]) (by rw [List.nil_append,aa5];exact (aby ks).symm▸h)
theorem jI {ks:List AV} {k:AV} (h0:kk k≠0) (h:∀x∈ks,kk x=kk k):bB k (b8 ks):=⟨h0,λe he=>h _ ((cr ks e.1).mp (abi he))⟩
theorem BZ {ns:List Int} (h:ns.Nodup):b8 (ns.map pr)=gW ns:=(C5 (h.map _ λzz zz q e=>q (Fs e))).trans aa5
theorem kQ {β:Type} {ws:List β} {f:β->AV} {n:Nat} (h:∀w,kk (f w)=n) (h0:n≠0):sC (ws.map f):=λx hx=>(aaG.mp hx).elim λw q=>q.2▸⟨h w▸h0,λy hy=>(aaG.mp hy).elim λv z=>z.2▸(h v).trans (h w).symm⟩
theorem u5 (ks:List AV):dG (ks.map λv=>AV.tup [v,.bool true])=some (ks.map λv=>(v,.bool true)):=by
 induction ks with
 | nil=>rfl
 | cons k r ih=>show Option.map _ (dG _)=_;rw [ih];rfl
section
variable {G:Nat->aj} {H H0 H':HP} {Q:KV} {QS:KS} {k a s t:Nat} {P P' S:Nat->Prop} {loc loc':Loc} {tab:List (Int × Ob)} {tr d:Di} {Γ:aj} {elt:PX} {cs:PC} {tg:Tg}
theorem dA {β:Type} {r:AV->β->Prop} {xs:List AV} {ws:List β} (e:ft (H.g a)=some xs) (la:a < H.n) (f:β->AV) (hr:L2 r xs ws) (hl:xs.length<=lim) (fit:sC (ws.map f))
  (step:∀v w H' (C:KV) (N:HP->Prop),r v w->ai aJ H H'->(∀bz,ai aJ H bz->C (.tup [f w,.bool true]) bz)->Gj elt cs tg loc v H' C N)
  (h:∀H' a',ai aJ H H'->H.n<=a'->a' < H'.n->H'.g a'= .dict (b8 (ws.map f))->Q (.ref a') H'):fb elt tg .plain cs loc (Fy (XL.nil Γ) loc' (JQ Γ "dict" Q)) [.ref a] H:=
 dS e la (λw=>.tup [f w,.bool true]) hr hl step λH1 b f1 zz zz e1=>ad (e1.trans (congrArg AO.list (aa5 (f:=f) (g:=λv=>AV.tup [v,.bool true])).symm)) (dE (u5 _) ⟨by rw [aa5];exact (aby (ws.map f)).symm▸fit,cN λH2 f2 n2 e2=>h H2 _ (f1.tr f2) f1.le (n2▸aaC _) e2⟩)
theorem jD (m:aQ G) {n:Int} (rs:RS P H s t tab tr) (h:Q (.bool (aM tab n)) H):G (k+1) "is_there" [.ref s,pr n] H Q:=by
 refine rs.ins.elim λr e1=>rs.tb.elim λes e2=>m.run 28 rfl rfl rfl (ad e1.1 (ad e2.1 ⟨fi e2.2,qX (gL (n:=n) e2.2).isSome ?_⟩))
 unfold aM at h
 cases hl:ah n tab with
 | none=>rw [hl] at h;exact h
 | some o=>rw [hl] at h;exact ad e1.1 (rs.entry hl λu zz=>h)
theorem m5 (m:aQ G) (rs:RS P H s t tab tr) (hl:tr.length < 64) (h:vR (bh P H.n) Q H (sx tr)):G (k+1) "plain_trailer" [.ref s] H Q:=by
 refine rs.ins.elim λr e1=>e1.2.ex.elim λes l=>m.run 29 rfl rfl rfl (ad e1.1 ?_)
 refine dB (q:=fH (bh P H.n)) (r7 l.1 l.2) e1.2.lt id (λx=>!WC x.1) (λzz zz zz zz f z=>z.mn f) ga (dz▸aaI (gJ hl)) (λv x H' C N rv f y n=>?_) λH1 b vs f1 Mi qg e2 l1=>?_
 .obtain rfl:=rv.1
  have q:=e1.2.mn f
  refine Rs (Fu (λe=>?_) n)
  exact ad (f.keep rs.lt e1.1) (q.idx (cg q.nd rv.2) λu ru=>y e _ _ .refl ⟨u,rfl,ru.fG λzz zz h=>.inl h⟩)
 .rw [aby] at l1
  exact iL e2 l1 ((List.filter_sublist.map _).nodup e1.2.nd) (.inr f1.le) λH3 c f3 BP rd=>h H3 c (f1.tr f3) (aaw f1.le BP) rd
end
structure Rh (tab:List (Int × Ob)) (base:List Int) (C:List Int):Prop where
 nd:C.Nodup
 sub:∀n∈C,aM tab n=true
 base:∀n∈base,aM tab n=true->n∈C
 step:∀m∈C,∀o,ah m tab=some o->∀n∈lX o,aM tab n=true->n∈C
theorem eM {tab:List (Int × Ob)} {C:List Int} (nd:C.Nodup) (h:∀n∈C,aM tab n=true):C.length<=tab.length:=
 aaB (as:=tab) (·.1)▸nd.length_le_of_subset λn hn=>(aa7.mp (h n hn)).elim λo e=>aaG.mpr ⟨_,bp e,rfl⟩
structure Lj where
 P:Nat->Prop
 H:HP
 s:Nat
 t:Nat
 tab:List (Int × Ob)
 tr:Di
 f:Nat
 e:Nat
structure Lb (c:Lj):Prop where
 rs:RS c.P c.H c.s c.t c.tab c.tr
 lf:c.H.n<=c.f
 fe:c.f < c.e
structure ON (c:Lj) (cs:List Int) (H:HP):Prop where
 aD:ai aJ c.H H
 lt:c.e < H.n
 gf:H.g c.f= .list (cs.map pr)
 ge:H.g c.e= .dict (gW cs)
 nd:cs.Nodup
 sub:∀n∈cs,aM c.tab n=true
noncomputable def GA (c:Lj):Nat->Prop:=λx=>x=c.f\/x=c.e
section
variable {G:Nat->aj} {H H0 H':HP} {Q:KV} {QS:KS} {k a s t:Nat} {P P' S:Nat->Prop} {loc loc0:Loc} {tab:List (Int × Ob)} {tr d:Di} {c:Lj} {cs:List Int}
theorem ON.len (ok:Lb c) (w:ON c cs H):cs.length < 64:=aaz (eM w.nd w.sub) ok.rs.len
noncomputable def JZ:SL:= .o (.bA (.and (.cmp .cK (.loc "pair") (.loc "seen")) (.call "is_there" (.cons (.loc "shelf") (.o (.loc "pair"))))) (.cons (.b3 (.loc "seen") (.loc "pair") (.bool true)) (.o (.expr (.ay (.loc "found") "append" (.o (.loc "pair")))))) .nil)
theorem xN (m:aQ G) (ok:Lb c) {H1:HP} {src:HP->Prop} (hs:∀H',ai (GA c) H1 H'->src H') (l0:loc0 "shelf"= .ref c.s) (l1:loc0 "found"= .ref c.f) (l2:loc0 "seen"= .ref c.e) (refs:List Int):
  ∀{cs:List Int} {loc:Loc} {H':HP},ai (GA c) H1 H'->ON c cs H'->qp "pair" loc0 loc->(∀ex loc' bz,ON c (cs++ex) bz->(∀n∈refs,aM c.tab n=true->n∈cs++ex)->qp "pair" loc0 loc'->QS .next loc' bz)->∀{vs:List AV},vs=refs.map pr->lG (JZ (G (k+1))) (.nm "pair") src vs loc H' QS:=by
 induction refs with
 | nil=>exact λzz w l hQ vs e=>e▸hQ [] _ _ ((aaY _).symm▸w) fm l
 | cons n refs ih=>
  intro cs loc H' f w l hQ vs e
  rw [e]
  have next:(n∈cs\/aM c.tab n=false)->SC src (lG (JZ (G (k+1))) (.nm "pair") src (refs.map pr)) QS .next (loc.upd "pair" (pr n)) H':=λh=>⟨hs _ f,ih f w l.upd (λex loc' bz w' g l'=>hQ ex loc' bz w' (λx hx ht=>(aaH.mp hx).elim (λz=>h.elim (λq=>aa3 _ (z▸q)) λq=>nomatch (z▸ht).symm.trans q) λz=>g x z ht) l') rfl⟩
  refine ak (v:= .ref c.e) ((l _ rfl).trans l2) (ad w.ge ⟨bP,Fu (λe=>next (.inl (gq.mp (getD_some.mp e)))) λe=>?_⟩)
  have hn:n ∉ cs:=λq=>(Bool.eq_false_iff.mp e) (getD_some.mpr (gq.mpr q))
  refine ak (v:= .ref c.s) ((l _ rfl).trans l0) (jD m (ok.rs.mn w.aD) (Fu (λht=>?_) λht=>next (.inr ht)))
  have ll:=gJ (w.len ok)
  refine ak (v:= .ref c.e) ((l _ rfl).trans l2) (ad w.ge ⟨bP,by rw [gW,aaB];exact ll,m6 w.ge λH2 f2 n2 e2=>?_⟩)
  have WB:=f2.ne (aaA ok.fe w.lt) w.gf (aaJ ok.fe)
  refine ak (v:= .ref c.f) ((l _ rfl).trans l1) (ad WB (Bc WB (by rw [aaB];exact ll) λH3 f3 n3 e3=>?_))
  have m8:ai (GA c) H1 H3:=(f.trans f2 λzz zz q=>.inr q).trans f3 λzz zz q=>.inl q
  refine ⟨hs _ m8,ih m8 (cs:=cs++[n]) ⟨(w.aD.up f2 (aaw ok.lf (aaI ok.fe))).up f3 ok.lf,by rw [n3,n2];exact w.lt,e3.trans (by rw [aaL];rfl),f3.ne (n2▸w.lt) (e2.trans (congrArg AO.dict (rF hn))) (aaN ok.fe),abw.mpr ⟨w.nd,abu _ _,λx hx y hy e=>hn (aaK.mp hy▸e▸hx)⟩,λx hx=>(aa6.mp hx).elim (w.sub x) λq=>aaK.mp q▸ht⟩ l.upd (λex loc' bz w' g l'=>?_) rfl⟩
  rw [aaW] at w' g
  exact hQ _ loc' bz w' (λx hx ht=>(aaH.mp hx).elim (λz=>aaT _ (aa3 _ (aaK.mpr z))) λz=>g x z ht) l'
noncomputable def JT (tab:List (Int × Ob)) (base:List Int) (H:HP) (Q:KV):Prop:=∀(H':HP) (a:Nat) (ns:List Int),ai aJ H H'->H.n<=a->a < H'.n->H'.g a= .list (ns.map pr)->Rh tab base ns->Q (.ref a) H'
structure Yq (c:Lj) (base cs:List Int) (i j:Nat) (loc:Loc) (H:HP):Prop where
 w:ON c cs H
 l0:loc "shelf"= .ref c.s
 l1:loc "found"= .ref c.f
 l2:loc "seen"= .ref c.e
 l3:loc "at"= .int i
 le:i<=cs.length
 eq:i+j=c.tab.length
 base:∀n∈base,aM c.tab n=true->n∈cs
 step:∀q x,q < i->cs[q]? =some x->∀o,ah x c.tab=some o->∀n∈lX o,aM c.tab n=true->n∈cs
noncomputable def Zg (c:Lj) (base:List Int) (j:Nat) (loc:Loc) (H:HP):Prop:=∃cs i,Yq c base cs i j loc H
theorem DG {ns:List Int}:L2 (λv n=>v=pr n) (ns.map pr) ns:=L2.mR (r:=λv n=>v=pr n) (L2.diag λzz zz=>rfl)
theorem LX (m:aQ G) (rs:RS P H s t tab tr) (ok:∀w∈tab,de w.2) (rd:RD P H a d) (P0:eI d) (h:JT tab (cM d) H Q):G (k+5) "walk" [.ref s,.ref a] H Q:=by
 refine m.run 30 rfl rfl rfl (iM m (it:= .ob (.dict d)) ⟨a,rfl,rd⟩ P0 λH1 ra refs f1 h1 h2 h3 AN hlen Cd=>?_)
 have rl:(refs.map pr).length<=lim:=by rw [aaB];exact aaI (aaA hlen (by decide))
 refine eJ (aH h3) h2 pr (λn=>aM tab n) DG rl (λv n H' C N rv f y no=>?_) λH2 fa f2 qw lg e2=>?_
 .subst rv
  refine jD m (rs.mn (f1.tr f)) (Fu (λe=>y e H' f) λe=>no e H' f)
 have fS:=f1.tr f2
 have Fv:∀n∈refs.filter λn=>aM tab n,aM tab n=true:=λn hn=>(abk.mp hn).2
 have M7:=AN.filter λn=>aM tab n
 have zV:∀n∈cM d,aM tab n=true->n∈refs.filter λn=>aM tab n:=λn hn ht=>abk.mpr ⟨(Cd n).mpr hn,ht⟩
 revert e2 Fv M7 zV
 generalize refs.filter (λn=>aM tab n)=ns
 intro e2 Fv M7 zV
 refine dA (aH e2) lg pr DG (by rw [aaB];exact aaI (gJ (aaz (eM M7 Fv) rs.len))) (kQ (λzz=>rfl) (by decide:(3:Nat)≠0)) (λv n H' C N rv f y=>by subst rv;exact y H' f) λH3 ea f3 BP Bj e3=>?_
 rw [BZ M7] at e3
 refine (λ(c:Lj) (e:c=⟨P,H,s,t,tab,tr,fa,ea⟩)=>?_) _ rfl
 have L6:Lb c:=e▸⟨rs,aaw f1.le qw,aax lg BP⟩
 have h:JT c.tab (cM d) c.H Q:=e▸h
 have ok:∀w∈c.tab,de w.2:=e▸ok
 refine Q7 (Zg c (cM d)) tab.length (e▸(bI ns 0 ⟨⟨fS.tr f3,Bj,f3.keep lg e2,e3,M7,Fv⟩,rfl,rfl,rfl,rfl,abp _,abE _,zV,λq x hq=>absurd hq (Nat.not_lt_zero _)⟩)) ?_
 clear e rs rl hlen Cd AN h3 fS zV M7 e2 e3 Fv
 refine λj loc H' C I hN=>aq I λcs i I=>?_
 have w:=I.w
 refine ak I.l3 (ak I.l1 (ad w.gf ?_))
 have cl:(cs.map pr).length=cs.length:=aaB _
 have bi:∀n:Nat,((i:Int) < (n:Int)) ↔ i < n:=λn=>abA
 refine yC (λsX=>?_) λj3=>?_
 .rw [cl,bi] at sX
  obtain ⟨x,hx⟩:∃x,cs[i]? =some x:=⟨cs[i],aaR sX⟩
  obtain ⟨o,ho⟩:=aa7.mp (w.sub x (aaO hx))
  have rs:=L6.rs.mn w.aD
  refine ak I.l0 (rs.ins.elim λzz e1=>ad e1.1 (ak I.l1 (ak I.l3 (ad w.gf ?_))))
  refine dE (v:=pr x) (by rw [Int.toNat_natCast,abc,hx];rfl) (rs.entry ho λu ru=>iM m (it:= .ob o) ru (ok _ (bp ho)) λH2 ra rf f2 g1 g2 g3 zz zz gm=>dE (aH g3) ?_)
  refine xN m L6 (loc0:=loc) (λbz f=>bC f g2 (λq=>(show ∀y,GA c y->y≠ra from λy hy e=>hy.elim (λq=>aaJ (aax (aaA L6.fe w.lt) g1) (q▸e)) λq=>aaJ (aax w.lt g1) (q▸e)) ra q rfl) ⟨aH g3,rfl⟩) I.l0 I.l1 I.l2 rf .refl ⟨w.aD.tr f2,f2.lt w.lt,f2.keep (aaA L6.fe w.lt) w.gf,f2.keep w.lt w.ge,w.nd,w.sub⟩ (λzz zz=>rfl) (λex loc' H3 w3 hc l=>?_) rfl
  have yS:=w3.len L6
  refine ak ((l _ rfl).trans I.l3) (hN (j - 1) _ _ ?_ (bI (cs++ex) (i+1) ⟨w3,(l _ rfl).trans I.l0,(l _ rfl).trans I.l1,(l _ rfl).trans I.l2,rfl,?_,?_,λn hn ht=>aa3 _ (I.base n hn ht),λq y hq hy o' Pg n hn ht=>?_⟩))
  .have:=I.eq;have:=eM w.nd w.sub;exact (zq (aax sX this) (by assumption)).1
  .rw [aaD];exact aaw sX (aaM _ _)
  .have:=I.eq;have:=eM w.nd w.sub;exact (zq (aax sX this) (by assumption)).2
  .by_cases z:q < i
   .rw [abz (aaA z sX)] at hy
    exact aa3 _ (I.step q y z hy o' Pg n hn ht)
   .have z:q=i:=Nat.le_antisymm (Nat.le_of_lt_succ hq) (aaP.mp z)
    rw [z,abz sX,hx] at hy
    rw [<-aay hy,ho] at Pg
    exact hc n ((gm n).mpr (aay Pg▸hn)) ht
 .rw [cl,bi] at j3
  refine ak I.l1 (h H' _ cs w.aD L6.lf (aaA L6.fe w.lt) w.gf ⟨w.nd,w.sub,I.base,λx hx o ho n hn ht=>(abo hx).elim λq hq=>?_⟩)
  exact I.step q x (aax ((aaZ.mp hq).1) (aaP.mp j3)) hq o ho n hn ht
end
section
variable {G:Nat->aj} {H H0 H':HP} {Q:KV} {QS:KS} {k a s t:Nat} {P P' S:Nat->Prop} {tab:List (Int × Ob)} {tr d:Di}
theorem xj {xs:List AV} (e:H.g a= .list xs) (hs:xs.all AV.qd=true\/xs.all AV.pR=true) (hl:xs.length < 64) (h:pP Q H aJ (bt xs)):jQ (.ref a) H Q:=ad e ⟨hs,hl,G3 h .refl⟩
theorem Bt (m:aQ G) (rs:RS P H s t tab tr) (ok:∀w∈tab,de w.2) (rd:RD P H a d) (P0:eI d)
  (h:∀ns:List Int,Rh tab (cM d) ns->pP Q H aJ (bt (ns.map AV.int))):G (k+6) "reached" [.ref s,.ref a] H Q:=by
 refine m.run 31 rfl rfl rfl (LX m rs ok rd P0 λH1 ra ns f1 Mi qg e1 uh=>?_)
 have hl:=aaz (eM uh.nd uh.sub) rs.len
 refine dS (aH e1) qg AV.int DG (by rw [aaB];exact aaI (gJ hl)) (λv n H' C N rv f y=>by subst rv;exact y H' f) λH2 b f2 qw lg e2=>?_
 exact xj e2 (.inl (aaX.mpr λx hx=>(aaG.mp hx).elim λzz q=>q.2▸rfl)) (by rw [aaB];exact hl) λH3 c f3 BP Bj e3=>h ns uh H3 c ((f1.tr f2).tr f3) (aaw (f1.tr f2).le BP) Bj e3
theorem wS (m:aQ G) (rs:RS P H s t tab tr) (ok:∀w∈tab,de w.2) (Lo:eI tr) (UV:∀C,Rh tab (cM (sx tr)) C->∀n,aM tab n=true->n∈C) (h:pP Q H aJ []):G (k+7) "unreached" [.ref s] H Q:=by
 refine m.run 32 rfl rfl rfl (m5 m rs Lo.1 λH1 ta f1 zz Zr=>?_)
 refine Bt m (rs.mono f1 (λzz zz h=>⟨id,.inl h⟩) id id) ok Zr ⟨aaz (List.length_filter_le ..) Lo.1,λx hx=>Lo.2 x (abk.mp hx).1⟩ λns uh H2 ra f2 qw lg e2=>?_
 have Pu:∀x∈bt (ns.map AV.int),∃n,x= .int n:=λx hx=>(aaG.mp (bO.mp hx)).elim λn q=>⟨n,q.2.symm⟩
 have k2:∀x∈bt (ns.map AV.int),kk x=2:=λx hx=>(Pu x hx).elim λzz e=>e▸rfl
 refine dA (ws:=bt (ns.map AV.int)) (aH e2) lg id (L2.diag (r:=λx y=>x=y) λzz zz=>rfl).wm (by rw [dD,aaB];exact aaI (gJ (aaz (eM uh.nd uh.sub) rs.len))) (by rw [aby];exact λx hx=>⟨(k2 x hx).symm▸(by decide:(2:Nat)≠0),λy hy=>(k2 y hy).trans (k2 x hx).symm⟩) (λv n H' C N rv f y=>by obtain rfl:=rv.1;exact mJ (v:=v) ((Pu v rv.2).elim λzz e=>e▸nofun) (y H' f)) λH3 ea f3 BP Bj e3=>?_
 rw [aby] at e3
 have JJ:=(f1.tr f2).tr f3
 have FF:=rs.mn JJ
 refine FF.ins.elim λzz es=>ad es.1 (rR m FF λH4 b f4 Ta nv e4=>?_)
 refine eJ (aH e4) nv (λw:Int × Ob=>AV.int w.1) (λzz=>false) (AG rs.num).wm (by rw [oC];exact aaI (gJ rs.len)) (λv w H' C N rv f zz no=>?_) λH5 c f5 Kv SB e5=>?_
 .obtain rfl:=rv.1
  have TJ:=UV ns uh w.1 (by unfold aM;rw [lL rs.nd rv.2];rfl)
  exact ad ((f4.tr f).keep Bj e3) ⟨jI (abC 1) k2,qX (getD_some.mpr ((cr _ _).mpr (bO.mpr (abi TJ)))) (no rfl H' f)⟩
 .exact h H5 c ((JJ.tr f4).tr f5) (aaw (JJ.tr f4).le Kv) SB (e5.trans ((List.filter_eq_nil_iff.mpr λzz zz=>aaE).symm▸rfl))
end
noncomputable def bR (q:Int) (o:Ob):List (Int × Ob)->List (Int × Ob)
 | []=>[(q,o)]
 | e::r=>bif decide (e.1=q) then (e.1,o)::r else e::bR q o r
section
variable {q n:Int} {o w:Ob} {tab b:List (Int × Ob)}
theorem fq:ah n ((n,o)::tab)=some o:=by show (bif _ then _ else _)=_;rw [decide_eq_true rfl];rfl
theorem dW (h:q≠n):ah n ((q,o)::tab)=ah n tab:=by show (bif _ then _ else _)=_;rw [decide_eq_false h];rfl
theorem uf:bR q o ((q,w)::tab)=(q,o)::tab:=by show (bif _ then _ else _)=_;rw [decide_eq_true rfl];rfl
theorem tV (h:n≠q):bR q o ((n,w)::tab)=(n,w)::bR q o tab:=by show (bif _ then _ else _)=_;rw [decide_eq_false h];rfl
theorem cA:ah n (bR q o tab)=if q=n then some o else ah n tab:=by
 induction tab with
 | nil=>
  by_cases h:q=n
  .rw [h,if_pos rfl];exact fq
  .rw [if_neg h];exact dW h
 | cons e r ih=>
  obtain ⟨j,w⟩:=e
  by_cases h:j=q
  .rw [h,uf]
   by_cases h2:q=n
   .rw [h2,if_pos rfl,fq]
   .rw [if_neg h2,dW h2,dW h2]
  .rw [tV h]
   by_cases h2:j=n
   .rw [h2,fq,if_neg λz=>h (h2.trans z.symm),fq]
   .rw [dW h2,ih,dW h2]
theorem eR (h:q∈tab.map (·.1)):(bR q o tab).map (·.1)=tab.map (·.1):=by
 induction tab with
 | nil=>cases h
 | cons e r ih=>
  obtain ⟨j,w⟩:=e
  by_cases z:j=q
  .rw [z,uf];rfl
  .rw [tV z,aa4,ih ((aaH.mp h).resolve_left λx=>z x.symm)];rfl
theorem o8 (h:n ∉ tab.map (·.1)):ah n tab= .none:=match e:ah n tab with
 | .none=>rfl
 | some _=>absurd (aaG.mpr ⟨_,bp e,rfl⟩) h
theorem lM:ah n (tab++b)=(ah n tab).orElse λzz=>ah n b:=by
 induction tab with
 | nil=>rfl
 | cons e r ih=>
  obtain ⟨j,w⟩:=e
  by_cases z:j=n
  .rw [z,List.cons_append,fq,fq];rfl
  .rw [List.cons_append,dW z,dW z,ih]
theorem bD (h:tab.map (·.1)=(List.range tab.length).map λ(i:Nat)=>(i:Int)+1):q∈tab.map (·.1) ↔ 1<=q/\q<=tab.length:=by
 rw [h,aaG]
 refine ⟨λh=>h.elim λi h=>?_,λh=>⟨(q - 1).toNat,List.mem_range.mpr ?_,?_⟩⟩
 .have:=List.mem_range.mp h.1;exact zw h.2 this
 .exact zt h.1 (zr h.2)
 .exact zv h.1
end
structure MS (Z:Nat->Prop) (H:HP) (ms mt:Nat) (aa:List (Int × Ob)):Prop where
 lt:ms < H.n
 ma:mt < H.n
 ins:∃r,H.g ms=ip mt r
 tb:∃es,H.g mt= .dict es/\L2 (RT Z H) es aa
 num:aa.map (·.1)=(List.range aa.length).map λ(i:Nat)=>(i:Int)+1
 len:aa.length < 64
section
variable {P P' S:Nat->Prop} {H H':HP}
theorem MS.mono (f:ai S H H') (hp:cX S P P' H) {a t:Nat} {tab:List (Int × Ob)} (ha:¬S a) (ht:¬S t) (r:MS P H a t tab):MS P' H' a t tab:=
 ⟨f.lt r.lt,f.lt r.ma,r.ins.imp λzz e=>f.at r.lt ha e,r.tb.imp λzz e=>⟨f.at r.ma ht e.1,e.2.imp λzz zz q=>q.mono f hp⟩,r.num,r.len⟩
theorem Ay {es:List (AV × AV)} {tab:List (Int × Ob)} (l:L2 (RT P H) es tab) (num:tab.map (·.1)=(List.range tab.length).map λ(i:Nat)=>(i:Int)+1):es.map (·.1)=dO es.length:=by
 rw [l.map_eq (g:=λw=>AV.int w.1) λzz zz r=>r.1,show (tab.map λx=>AV.int x.1)=(tab.map (·.1)).map AV.int from aa5.symm,num,aa5,l.len];rfl
theorem Ig {q:Int} {v:AV} {o:Ob} (hv:RO P H v o) {es:List (AV × AV)} {tab:List (Int × Ob)} (l:L2 (RT P H) es tab):L2 (RT P H) (bT (.int q) (.tup [.int 0,v]) es) (bR q o tab):=l.rec (.cons ⟨rfl,v,rfl,hv⟩ .nil) λ{e x zz zz} r l ih=>by
 show L2 _ (bif iY e.1 _ then _ else _) (bif _ then _ else _)
 rw [r.1]
 show L2 _ (bif decide (x.1=q) then (AV.int x.1,_)::_ else _) (bif decide (x.1=q) then _ else _)
 exact match decide (x.1=q) with
  | true=>.cons ⟨rfl,v,rfl,hv⟩ l
  | false=>.cons r ih
end
noncomputable def pq (H:HP) (b:Nat) (bs:Int->Bool):Prop:=b < H.n/\∃es,H.g b= .dict es/\∀n,bB (.int n) es/\(getD (.int n) es).isSome=bs n
theorem pq.mono {S:Nat->Prop} {H H':HP} (f:ai S H H') {b:Nat} {bs:Int->Bool} (hb:¬S b) (r:pq H b bs):pq H' b bs:=⟨f.lt r.1,r.2.imp λzz q=>⟨f.at r.1 hb q.1,q.2⟩⟩
noncomputable def D8 (sp:List aX) (c:Int) (n:Int):Bool:=decide (n∈sp.map (·.n)\/n=c)
noncomputable def vk (s ms ct b:Nat):AO:= .inst "Collector" [("shelf",.ref s),("made",.ref ms),("table",.ref ct),("barred",.ref b)]
noncomputable def hU (n q:Int) (tbl:List (Int × Int)):List (Int × Int):=bif (ae n tbl).isSome then tbl else tbl++[(n,q)]
section
variable {G:Nat->aj} {H H0 H':HP} {Q:KV} {k s t ms mt:Nat} {P S Z:Nat->Prop} {tab aa:List (Int × Ob)} {tr:Di} {sp:List aX}
theorem qZ {a:Nat} (h:∀x,Z x->x≠a):cX (atS a) Z Z H:=λx zz z=>⟨h x z,z⟩
theorem ub (m:aQ G) (hZ:∀x,Z x->x≠mt) (x5:ms≠mt) (r:MS Z H ms mt aa) (hl:aa.length+1 < 64)
  (h:∀H' rr,ai (atS mt) H H'->H.n<=rr->rr < H'.n->H'.g rr=cJ ((aa.length:Int)+1)->MS Z H' ms mt (aa++[((aa.length:Int)+1,.null)])->Q (.ref rr) H'):G (k+2) "Shelf.add" [.ref ms,.none] H Q:=by
 refine r.ins.elim λq e=>r.tb.elim λes e2=>DX m nofun e e2.1 (Ay e2.2 r.num) (e2.2.len▸r.len) (λH' f n et er=>?_) r.ma
 rw [e2.2.len] at et er
 refine h H' _ f (aaF _) (n▸aaC _) er ⟨f.lt r.lt,f.lt r.ma,⟨q,f.ne r.lt e x5⟩,⟨_,et,(e2.2.imp λzz zz r=>RT.mono f (qZ hZ) r).snoc ⟨rfl,.none,rfl,rfl⟩⟩,?_,by rwa [aaD]⟩
 rw [aaL,r.num,aaD,abe,List.range_succ,aaL];rfl
theorem sY (m:aQ G) {q:Int} {v:AV} {o:Ob} (hZ:∀x,Z x->x≠mt) (x5:ms≠mt) (r:MS Z H ms mt aa) (hq:1<=q/\q<=aa.length) (rv:RO Z H v o)
  (h:∀H',ai (atS mt) H H'->H'.n=H.n->MS Z H' ms mt (bR q o aa)->Q .none H'):G (k+1) "Shelf.put" [.ref ms,.int q,.int 0,v] H Q:=by
 refine r.ins.elim λtr e=>r.tb.elim λes e2=>Pv m rv.noRef.set e e2.1 (fi e2.2) (gJ (e2.2.len▸r.len)) λH' f n e'=>?_
 have hk:(bR q o aa).map (·.1)=aa.map (·.1):=eR ((bD r.num).mpr hq)
 have hl:(bR q o aa).length=aa.length:=aaB (as:=aa) (·.1)▸hk▸(aaB _).symm
 exact h H' f n ⟨f.lt r.lt,f.lt r.ma,⟨tr,f.ne r.lt e x5⟩,⟨_,e',(Ig rv e2.2).imp λzz zz r=>RT.mono f (qZ hZ) r⟩,hk.trans (hl▸r.num),hl▸r.len⟩
theorem F1 (m:aQ G) {c:Int} (rs:RS P H s t tab tr) (T:Tree tab tr sp) (Fj:look "Root" tr=some (.at (.ref c))) (h:∀H' b,ai aJ H H'->H.n<=b->pq H' b (D8 sp c)->Q (.ref b) H'):G (k+6) "barred_numbers" [.ref s] H Q:=by
 refine m.run 33 rfl rfl rfl (zx m rs T λH1 a vs f1 h1 h2 h3 h4=>?_)
 refine dA (aH h3) h2 (λx:aX=>.int x.n) h4 (h4.len▸aaI (ie T.len)) (kQ (λzz=>rfl) (by decide:(2:Nat)≠0)) (λv x H' C N rv f y=>?_) λH2 b f2 qw lg e2=>?_
 .exact kq (fj.mono f aV rv) λa b hd ab ih q=>q.1▸ad q.2.at_ (ad q.2.Go (y H' f))
 have fS:=f1.tr f2
 have ki:∀ks:List Int,∀n,bB (.int n) (b8 (ks.map AV.int)):=λks n=>jI (abC 1) λx hx=>(aaG.mp hx).elim λzz q=>q.2▸rfl
 have hm:(sp.map λx=>AV.int x.n)=(sp.map (·.n)).map AV.int:=aa5.symm
 rw [hm] at e2
 refine (rs.mn fS).ins.elim λr' e1=>ad e1.1 (e1.2.at λzz zz zz=>e1.2.IA Fj λu ru=>ru.elim λrb w=>?_)
 refine w.1▸ad w.2.2 (ad w.2.2 (ad e2 ⟨ki _ _,aaz (A2 _) (by rw [aaB,aaB];exact ie T.len),m6 e2 λH3 f3 n3 e3=>?_⟩))
 rw [<-fY,show (sp.map (·.n)).map AV.int++[AV.int c]=(sp.map (·.n)++[c]).map AV.int from by rw [aaL];rfl] at e3
 refine h H3 b (fS.up f3 (aaw f1.le qw)) (aaw f1.le qw) ⟨n3▸lg,_,e3,λn=>⟨ki _ n,Bool.eq_iff_iff.mpr (getD_some.trans ((cr _ _).trans ?_))⟩⟩
 rw [aaG]
 exact ⟨λz=>z.elim λx z=>decide_eq_true (AV.int.inj z.2▸(aa6.mp z.1).imp id aaK.mp),λz=>⟨n,aa6.mpr ((of_decide_eq_true z).imp id aaK.mpr),rfl⟩⟩
end
noncomputable def gj:List Int->Int->List (Int × Int)
 | [],_=>[]
 | n::r,q=>(n,q)::gj r (q+1)
theorem BT {fr:List Int} {n:Int}:∀{q:Int},gj (fr++[n]) q=gj fr q++[(n,q+fr.length)]:=by
 induction fr with
 | nil=>exact λ{q}=>(by rw [List.length_nil,Int.natCast_zero,Int.add_zero];rfl)
 | cons x r ih=>exact λ{q}=>(by show (x,q)::gj (r++[n]) (q+1)=_;rw [ih,aa2,Int.natCast_add,Int.add_assoc,Int.add_comm 1];rfl)
noncomputable def cu (L m:Nat):List (Int × Ob):=(List.range m).map λ(i:Nat)=>((L:Int)+1+i,.null)
theorem pu {L m:Nat}:cu L (m+1)=cu L m++[((L:Int)+1+m,.null)]:=by unfold cu;rw [List.range_succ,aaL];rfl
theorem eO {L m:Nat}:(cu L m).length=m:=by rw [cu,aaB,List.length_range]
theorem Fo {a b:List (Int × Int)}:dt (a++b)=dt a++dt b:=aaL ..
theorem vG {a:List (Int × Int)}:(dt a).length=a.length:=aaB _
theorem jT {n:Int} {tbl:List (Int × Int)}:(getD (pr n) (dt tbl)).isSome=(ae n tbl).isSome:=by rw [nQ];exact Option.isSome_map
theorem uW {n q:Int} {tbl:List (Int × Int)} (h:ae n tbl= .none):bT (pr n) (pr q) (dt tbl)=dt (tbl++[(n,q)]):=(dY λhm=>by
 have:=getD_some.mpr hm
 rw [jT,h] at this;exact absurd this aaE).trans (by rw [Fo];rfl)
theorem dI {n q:Int} {r:List (Int × Int)}:ae n ((n,q)::r)=some q:=by show (bif _ then _ else _)=_;rw [decide_eq_true rfl];rfl
theorem dJ {n j q:Int} {r:List (Int × Int)} (h:j≠n):ae n ((j,q)::r)=ae n r:=by show (bif _ then _ else _)=_;rw [decide_eq_false h];rfl
theorem cc {n:Int} {a b:List (Int × Int)}:ae n (a++b)=(ae n a).orElse λzz=>ae n b:=by
 induction a with
 | nil=>rfl
 | cons e r ih=>
  obtain ⟨j,w⟩:=e
  by_cases z:j=n
  .rw [z,List.cons_append,dI,dI];rfl
  .rw [List.cons_append,dJ z,dJ z,ih]
theorem je {n:Int} {fr:List Int}:∀{q:Int},(ae n (gj fr q)).isSome=decide (n∈fr):=by
 induction fr with
 | nil=>exact (decide_eq_false aaU).symm
 | cons x r ih=>
  intro q
  show (ae n ((x,q)::_)).isSome=_
  by_cases e:x=n
  .rw [e,dI];exact (decide_eq_true (.head _)).symm
  .rw [dJ e,ih]
   exact decide_eq_decide.mpr ⟨.tail _,λh=>(aaH.mp h).resolve_left (abm e)⟩
section
variable {G:Nat->aj} {H H0 H':HP} {Q:KV} {k s t ms mt ct:Nat} {P S Z:Nat->Prop} {tab aa:List (Int × Ob)} {tr:Di} {sp:List aX}
theorem CT (m:aQ G) {c:Int} (rs:RS P H s t tab tr) (T:Tree tab tr sp) (Fj:look "Root" tr=some (.at (.ref c)))
  (h:∀H' ct b,ai aJ H H'->H.n < ct/\ct < b->H'.g H.n=vk s ms ct b->H'.g ct= .dict []->pq H' b (D8 sp c)->Q (.ref H.n) H'):sE (G (k+7)) "Collector" [.ref s,.ref ms] H Q:=by
 refine m.run 34 rfl rfl rfl (ad dw (upd.mk (ad bo (upd.mk (cN λH1 f1 n1 e1=>?_)))))
 have n0:H.n < H1.n:=n1▸aax (aaC _) (aba _)
 refine ad (f1.at (aaC H.n) id (bo (H:=(H.push _).set H.n _) (a:=H.n))) ⟨?_⟩
 have f2:=(((ai.push.re (aaF _)).re (aaF _)).tr (f1.weak λzz zz q=>q)).re (o:= .inst "Collector" [("shelf",.ref s),("made",.ref ms),("table",.ref (H.n+1))]) (aaF _)
 refine F1 m (rs.mn f2) T Fj λH3 b f3 hb rb=>?_
 have nc:H.n+1 < H1.n:=n1▸aaC _
 refine ad (f3.keep (a:=H.n) n0 bo) ⟨⟨rfl,h _ (H.n+1) b ((f2.tr f3).re (aaF _)) ⟨aaC _,aax nc hb⟩ bo ((d5 (aaN (aaC _))).trans (f3.keep nc ((d5 (aaN (aaC _))).trans e1))) ⟨rb.1,rb.2.imp λzz q=>⟨(d5 (aaN (aax n0 hb))).trans q.1,q.2⟩⟩⟩⟩
noncomputable def mY (mt ct:Nat):Nat->Prop:=λx=>x=mt\/x=ct
structure pO where
 c:Nat
 s:Nat
 ms:Nat
 ct:Nat
 b:Nat
 mt:Nat
 Z:Nat->Prop
structure Ml (C:pO) (H:HP) (aa:List (Int × Ob)) (tbl:List (Int × Int)):Prop where
 lt:C.c < H.n
 at_:H.g C.c=vk C.s C.ms C.ct C.b
 Gv:C.ct < H.n
 tb:H.g C.ct= .dict (dt tbl)
 tl:tbl.length < 1000
 ms:MS C.Z H C.ms C.mt aa
 ml:aa.length+1 < 64
structure sw (C:pO):Prop where
 zm:∀x,C.Z x->x≠C.mt
 zc:∀x,C.Z x->x≠C.ct
 d1:C.ms≠C.mt
 d2:C.ms≠C.ct
 d3:C.mt≠C.ct
theorem Bi (m:aQ G) {C:pO} (ok:sw C) {p pb f:Nat} {n:Int} {tbl:List (Int × Int)} (A:Ml C H aa tbl) (hp:p < H.n) (ep:H.g p=zB pb f) (Zb:pb < H.n) (YG:H.g pb=cJ n)
  (h:∀H' rr,ai (mY C.mt C.ct) H H'->H.n<=rr->rr < H'.n->H'.g rr=cJ ((aa.length:Int)+1)->MS C.Z H' C.ms C.mt (aa++[((aa.length:Int)+1,.null)])->H'.g C.ct= .dict (dt (hU n ((aa.length:Int)+1) tbl))->Q (.ref rr) H'):G (k+3) "Collector.reserve" [.ref C.c,.ref p] H Q:=by
 refine A.ms.ins.elim λtr e1=>m.run 35 rfl rfl rfl (ad A.at_ (ad e1 (ub m ok.zm ok.d1 A.ms A.ml λH1 rr f1 h1 h2 h3 h4=>?_)))
 have N9:=f1.fix hp ep rfl
 have G2:=f1.fix Zb YG rfl
 have ea:=f1.fix A.lt A.at_ rfl
 have et:=f1.ne A.Gv A.tb (abm ok.d3)
 refine ad N9 (ad G2 (cP m G2 (ad ea (ad et ⟨bP,qX jT ?_⟩))))
 unfold hU at h
 cases hl:ae n tbl with
 | some q=>
  rw [hl] at h
  exact h H1 rr (f1.weak λzz zz h=>.inl h) h1 h2 h3 h4 et
 | none=>
  replace h:=(hl)▸h
  refine ad h3 (cP m h3 (ad ea (ad N9 (ad G2 (cP m G2 (ad et ⟨bP,by rw [vG];exact ie A.tl,m6 et λH2 f2 n2 e2=>?_⟩))))))
  exact h H2 rr ((f1.weak λzz zz h=>.inl h).trans f2 λzz zz h=>.inr h) h1 (f2.lt h2) (f2.fix h2 h3 rfl) (h4.mono f2 (qZ ok.zc) ok.d2 ok.d3) (e2.trans (congrArg AO.dict (uW hl)))
end
theorem ph {α:Type} {l:List α} (h:l.Nodup) {i:Nat} {x:α} (e:l[i]? =some x):x ∉ l.take i:=λhx=>by
 have:=List.take_append_drop i l▸h
 have e2:x∈l.drop i:=aaO (i:=0) (by rw [List.getElem?_drop];exact e)
 exact (abw.mp this).2.2 x hx x e2 rfl
theorem jf {α:Type} {l:List α} {i:Nat} {x:α} (e:l[i]? =some x):l.take (i+1)=l.take i++[x]:=by rw [List.take_add_one,e];rfl
theorem DR {l:List Int}:∀{q:Int},(gj l q).length=l.length:=by
 induction l with
 | nil=>exact rfl
 | cons a l ih=>exact congrArg (· +1) ih
theorem ai.Iw {S:Nat->Prop} {H0 H H':HP} {a:Nat} (x:ai S H0 H) (f:ai (atS a) H H') (h:H0.n<=a):ai S H0 H':=x.trans f λb hb e=>(aaP.mpr h ((show b=a from e)▸hb)).elim
structure xU where
 C:pO
 P:Nat->Prop
 H:HP
 t:Nat
 tab:List (Int × Ob)
 tr:Di
 la:Nat
 fa:Nat
 ns:List Int
 aa:List (Int × Ob)
 tbl:List (Int × Int)
 bs:Int->Bool
noncomputable def xU.good (T:xU) (n:Int):Prop:=ae n T.tbl= .none/\aM T.tab n=true/\T.bs n=false
noncomputable def xU.mu (T:xU):Nat->Prop:=mY T.C.mt T.C.ct
noncomputable def xU.wL (T:xU) (fr:List Int):List (Int × Int):=T.tbl++gj fr ((T.aa.length:Int)+1)
structure VY (C:pO) (P:Nat->Prop) (H:HP) (t:Nat) (tab:List (Int × Ob)) (tr:Di) (aa:List (Int × Ob)) (tbl:List (Int × Int)) (bs:Int->Bool):Prop where
 ok:sw C
 rs:RS P H C.s t tab tr
 rb:pq H C.b bs
 zP:∀x,P x->¬mY C.mt C.ct x
 zs:¬mY C.mt C.ct C.s
 zt:¬mY C.mt C.ct t
 zb:¬mY C.mt C.ct C.b
 lt:C.c < H.n
 at_:H.g C.c=vk C.s C.ms C.ct C.b
 Gv:C.ct < H.n
 tb:H.g C.ct= .dict (dt tbl)
 tl:tbl.length < 900
 ms:MS C.Z H C.ms C.mt aa
 obs:∀w∈tab,de w.2
 free:∀n o,ah n tab=some o->bs n=false->lX o=[]
 room:∀fr:List Int,fr.Nodup->(∀n∈fr,ae n tbl= .none/\aM tab n=true/\bs n=false)->aa.length+fr.length < 64
structure Mz (T:xU):Prop extends VY T.C T.P T.H T.t T.tab T.tr T.aa T.tbl T.bs where
 Q4:T.H.n<=T.la
 lf:T.la < T.fa
 nd:T.ns.Nodup
 nl:T.ns.length < 70000
structure YE (T:xU) (fr:List Int) (i:Nat) (loc:Loc) (H:HP):Prop where
 aD:ai T.mu T.H H
 lt:T.fa < H.n
 l0:loc "self"= .ref T.C.c
 l1:loc "line"= .ref T.la
 l2:loc "fresh"= .ref T.fa
 l3:loc "at"= .int i
 line:H.g T.la= .list (T.ns.map pr)
 gf:H.g T.fa= .list (fr.map pr)
 ms:MS (js T.C.Z T.H.n) H T.C.ms T.C.mt (T.aa++cu T.aa.length fr.length)
 ct:H.g T.C.ct= .dict (dt (T.wL fr))
 nd:fr.Nodup
 mem:∀n,n∈fr ↔ n∈T.ns.take i/\T.good n
noncomputable def ZU (T:xU) (j:Nat) (loc:Loc) (H:HP):Prop:=∃fr i,i+j=T.ns.length/\YE T fr i loc H
section
variable {G:Nat->aj} {H H0 H':HP} {Q:KV} {k:Nat} {P S Z:Nat->Prop} {T:xU}
theorem Mz.out (ok:Mz T) {a:Nat} (h:T.H.n<=a):¬T.mu a:=λq=>q.elim (λe=>aaP.mpr h (e▸ok.ms.ma)) λe=>aaP.mpr h (e▸ok.Gv)
noncomputable def Jw (C:pO) (H:HP) (tab aa:List (Int × Ob)) (tbl:List (Int × Int)) (bs:Int->Bool) (d:Di) (Q:KV):Prop:=∀(H':HP) (fa:Nat) (fr:List Int),ai (mY C.mt C.ct) H H'->H.n<=fa->fa < H'.n->H'.g fa= .list (fr.map pr)->MS C.Z H' C.ms C.mt (aa++cu aa.length fr.length)->H'.g C.ct= .dict (dt (tbl++gj fr ((aa.length:Int)+1)))->fr.Nodup->
 (∀n,n∈fr ↔ n∈cM d/\ae n tbl= .none/\aM tab n=true/\bs n=false)->Q (.ref fa) H'
theorem KC (m:aQ G) {C:pO} {t v:Nat} {tab aa:List (Int × Ob)} {tr d:Di} {tbl:List (Int × Int)} {bs:Int->Bool} {Z0:Nat->Prop} (B:VY C P H t tab tr aa tbl bs) (rv:RD Z0 H v d) (P0:eI d) (h:Jw C H tab aa tbl bs d Q):G (k+6) "Collector.take_needed" [.ref C.c,.ref v] H Q:=by
 refine m.run 36 rfl rfl rfl (iM m (it:= .ob (.dict d)) ⟨v,rfl,rv⟩ P0 λH1 la ns f1 h1 h2 h3 AN hlen Cd=>cN λH2 f2 n2 e2=>?_)
 have fS:=f1.tr f2
 refine (λ(T:xU) (e:T=⟨C,P,H,t,tab,tr,la,H1.n,ns,aa,tbl,bs⟩)=>?_) _ rfl
 have ok:Mz T:=e▸⟨B,h1,h2,AN,hlen⟩
 refine KJ (ZU T) ns.length (e▸(bI ([]) 0 ⟨abE _,fS.no,n2▸aaC _,rfl,rfl,rfl,rfl,f2.keep h2 h3,e2,by rw [List.length_nil,show cu aa.length 0=[] from rfl,aaY];exact B.ms.mono fS (λa ha z=>⟨id,z,ha⟩) id id,by show H2.g C.ct= .dict (dt (tbl++[]));rw [aaY];exact fS.keep B.Gv B.tb,.nil,λn=>⟨λq=>(aaU q).elim,λq=>(aaU q.1).elim⟩⟩)) ?_
 have h:Jw T.C T.H T.tab T.aa T.tbl T.bs d Q:=e▸h
 have Cd:∀n,n∈T.ns ↔ n∈cM d:=e▸Cd
 clear e B rv f1 f2 fS h1 h2 h3 AN hlen n2 e2
 refine λj loc H' K I hN hC zz=>aq I λfr i q=>?_
 have I:=q.2
 have Wy:T.la≠T.fa:=aaJ ok.lf
 have Ra:=aaw ok.Q4 (aaI ok.lf)
 have Tt:=aaA ok.lf I.lt
 refine ak I.l3 (ak I.l1 (ad I.line (yC (λsX=>?_) λj3=>?_)))
 .rw [aaB,abA] at sX
  obtain ⟨n,hn⟩:∃n,T.ns[i]? =some n:=⟨T.ns[i],aaR sX⟩
  have Wp:=jf hn
  have hj:j - 1 < j/\i+1+(j - 1)=T.ns.length:=zq sX q.1
  have ec:=I.aD.fix ok.lt ok.at_ rfl
  have kr:cX T.mu T.P T.P T.H:=λx zz z=>⟨ok.zP x z,z⟩
  have Vv:n ∉ fr:=λz=>(ph ok.nd hn) ((I.mem n).mp z).1
  have skip:¬T.good n->K .cont ((loc.upd "pair" (pr n)).upd "at" (.int ((i:Int)+1))) H':=λno=>
   hC (j - 1) _ _ hj.1 ⟨fr,i+1,hj.2,I.aD,I.lt,I.l0,I.l1,I.l2,rfl,I.line,I.gf,I.ms,I.ct,I.nd,λn'=>by
    rw [I.mem,Wp,aa6,aaK]
    exact ⟨λz=>⟨.inl z.1,z.2⟩,λz=>⟨z.1.resolve_right λe=>no (e▸z.2),z.2⟩⟩⟩
  have gd:(getD (pr n) (dt (T.wL fr))).isSome=(ae n T.tbl).isSome:=by
   rw [jT,xU.wL,cc]
   cases ae n T.tbl with
   | some _=>rfl
   | none=>exact je.trans (decide_eq_false Vv)
  refine ak I.l1 (ak I.l3 (ad I.line (dE (v:=pr n) (by rw [Int.toNat_natCast,abc,hn];rfl) (ak I.l3 (ak I.l0 (ad ec (ad I.ct ⟨bP,qX gd ?_⟩)))))))
  cases wM:ae n T.tbl with
  | some x=>exact skip λz=>nomatch wM.symm.trans z.1
  | none=>
  refine ak I.l0 (ad ec (jD m (ok.rs.mono I.aD kr ok.zs ok.zt) ?_))
  cases ht:aM T.tab n with
  | false=>exact skip λz=>nomatch ht.symm.trans z.2.1
  | true=>
  refine ak I.l0 (ad ec ((ok.rb.mono I.aD ok.zb).2.elim λZ8 eb=>ad eb.1 ⟨(eb.2 n).1,qX (eb.2 n).2 ?_⟩))
  cases hb:T.bs n with
  | true=>exact skip λz=>nomatch hb.symm.trans z.2.2
  | false=>
  have good:∀x∈fr++[n],T.good x:=λx hx=>(aa6.mp hx).elim (λz=>((I.mem x).mp z).2) λz=>aaK.mp z▸⟨wM,ht,hb⟩
  have V4:(fr++[n]).Nodup:=abw.mpr ⟨I.nd,abu _ _,λx hx y hy e=>Vv (aaK.mp hy▸e▸hx)⟩
  have room:=ok.room (fr++[n]) V4 good
  rw [aaD,abe] at room
  have LZ:(T.aa++cu T.aa.length fr.length).length=T.aa.length+fr.length:=by rw [aaD,eO]
  have Vn:fr.length < 64:=aaz (aaw (abn ..) (aba _)) room
  have nmu:∀{a:Nat},T.H.n<=a->a≠T.C.mt/\a≠T.C.ct:=λh=>⟨λe=>ok.out h (.inl e),λe=>ok.out h (.inr e)⟩
  refine ak I.l0 (ad ec (I.ms.ins.elim λX6 UO=>ad UO (ub m (λx z=>ok.ok.zm x z.1) ok.ok.d1 I.ms ((LZ)▸room) λH2 rr g1 g2 g3 g4 g5=>ad g4 (cP m g4 (ak I.l0 (ad (g1.fix (I.aD.lt ok.lt) ec rfl) ?_))))))
  rw [LZ] at g4 g5
  have Jz:=g1.ne (I.aD.lt ok.Gv) I.ct (abm ok.ok.d3)
  have ZN:ae n (T.wL fr)= .none:=Option.not_isSome_iff_eq_none.mp λq=>by rw [<-jT,gd,wM] at q;exact absurd q aaE
  refine ad Jz ⟨bP,by rw [vG,xU.wL,aaD,DR];exact aaA (Nat.add_lt_add ok.tl Vn) (by decide),m6 Jz λH3 f3 n3 e3=>?_⟩
  have e3:H3.g T.C.ct= .dict (dt (T.wL (fr++[n]))):=e3.trans (congrArg AO.dict (by rw [LZ];refine (uW ZN).trans (congrArg dt ?_);rw [xU.wL,xU.wL,BT,aaW,Int.natCast_add,Int.add_right_comm]))
  have Ca:ai T.mu H' H3:=(g1.weak λzz zz e=>Or.inl e).trans f3 λzz zz e=>.inr e
  have Qe:=Ca.at I.lt (ok.out Ra) I.gf
  refine ak I.l2 (ad Qe (Bc Qe (by rw [aaB];exact gJ Vn) λH4 f4 n4 e4=>?_))
  have SK:ai T.mu T.H H4:=(I.aD.tr Ca).Iw f4 Ra
  have JG:=f4.ne (Ca.lt Tt) (Ca.at Tt (ok.out ok.Q4) I.line) Wy
  obtain ⟨o,ho⟩:=aa7.mp (show (ah n T.tab).isSome=true from ht)
  have VC:=ok.rs.mono SK kr ok.zs ok.zt
  refine ak I.l1 (ad JG (ak I.l0 (ad (SK.fix ok.lt ok.at_ rfl) (VC.ins.elim λzz e5=>ad e5.1 (VC.entry ho λu ru=>iM m (it:= .ob o) ru (ok.obs _ (bp ho)) λH5 a9 Yx p1 p2 p3 p4 p5 p6 p7=>?_)))))
  have e9:Yx=[]:=List.eq_nil_iff_forall_not_mem.mpr λx hx=>by
   have:x∈lX o:=(p7 x).mp hx
   rw [ok.free n o ho hb] at this;exact (aaU this).elim
  rw [e9] at p4
  have l4:T.la < H4.n:=f4.lt (Ca.lt Tt)
  have Jy:=p1.keep l4 JG
  refine ad Jy ⟨aaJ (aax l4 p2),ad p4 ⟨by rw [aaB];exact aaI (aaA ok.nl (by decide)),m6 Jy λH6 f6 n6 e6=>?_⟩⟩
  have IV:ai (bw T.H.n) H3 H6:=((f4.own Ra).tn p1).trans (f6.own ok.Q4) λzz zz e=>e
  have nw:∀a,bw T.H.n a->¬T.mu a:=λa h=>ok.out h
  refine hN (j - 1) _ _ hj.1 (bI (fr++[n]) (i+1) ⟨hj.2,(SK.tn p1).Iw f6 ok.Q4,n6▸p1.lt (f4.lt (Ca.lt I.lt)),I.l0,I.l1,I.l2,rfl,e6.trans (congrArg AO.list (aaY _)),f6.ne (p1.lt (f4.lt (Ca.lt I.lt))) (p1.keep (f4.lt (Ca.lt I.lt)) (e4.trans (by rw [aaL];rfl))) (abm Wy),?_,IV.at (f3.lt (g1.lt (I.aD.lt ok.Gv))) (λz=>aaP.mpr z ok.Gv) e3,V4,λn'=>?_⟩)
  .have:=(g5.mono f3 (λx zz z=>⟨ok.ok.zc x z.1,z⟩) ok.ok.d2 ok.ok.d3).mono IV (P':=js T.C.Z T.H.n) (λx zz z=>⟨Nat.not_le.mpr z.2,z⟩) (Nat.not_le.mpr ok.ms.lt) (Nat.not_le.mpr ok.ms.ma)
   rw [aaD,abe,pu,<-aaW]
   rwa [Int.natCast_add,Int.add_right_comm] at this
  .rw [Wp,aa6,aa6,aaK,I.mem]
   exact ⟨λz=>z.elim (λz=>⟨.inl z.1,z.2⟩) λz=>⟨.inr z,z▸⟨wM,ht,hb⟩⟩,λz=>z.1.elim (λw=>.inl ⟨w,z.2⟩) .inr⟩
 .rw [aaB,abA] at j3
  have hm:=I.mem
  replace hm:=(List.take_of_length_le (aaP.mp j3))▸hm
  exact ak I.l2 (h H' _ fr I.aD Ra I.lt I.gf (I.ms.mono (.refl:ai aJ H' H') (λzz zz z=>⟨id,z.1⟩) id id) I.ct I.nd λn=>(hm n).trans (and_congr (Cd n) .rfl))
end
noncomputable def ue (tbl:List (Int × Int)) (tab M:List (Int × Ob)) (n:Int):List (Int × Ob):=match ae n tbl with
 | some q=>((ah n tab).map λo=>bR q (Cl tbl o) M).getD M
 | .none=>M
noncomputable def wA (tbl:List (Int × Int)) (tab:List (Int × Ob)) (l:List Int) (M:List (Int × Ob)):List (Int × Ob):=l.foldl (ue tbl tab) M
theorem kI {tbl:List (Int × Int)} {tab M:List (Int × Ob)} {n q:Int} {o:Ob} (h1:ae n tbl=some q) (h2:ah n tab=some o):ue tbl tab M n=bR q (Cl tbl o) M:=by unfold ue;rw [h1,h2];rfl
theorem AW {tbl:List (Int × Int)} {tab:List (Int × Ob)} {L l:List Int}:∀{M:List (Int × Ob)},M.map (·.1)=L->(∀n∈l,∀q,ae n tbl=some q->q∈L)->(wA tbl tab l M).map (·.1)=L:=by
 induction l with
 | nil=>exact λh zz=>h
 | cons n r ih=>
  refine λh hq=>ih ?_ λx hx=>hq x (.tail _ hx)
  unfold ue
  cases e1:ae n tbl with
  | none=>exact h
  | some q=>cases ah n tab with
   | none=>exact h
   | some o=>exact (eR ((h)▸hq n (.head _) q e1)).trans h
noncomputable def gp (d:Di):Di:=cH "Type" (.at (.name "Page")) (d.filter λx=>!decide (x.1="Parent"))
theorem jR (d:Di):(gp d).length<=d.length+1:=aaw b7 (aa1 (List.length_filter_le ..))
section
variable {G:Nat->aj} {H H0 H':HP} {Q:KV} {QS:KS} {k s t c ms ct b mt fa:Nat} {P S Z:Nat->Prop} {tab aa:List (Int × Ob)} {tr d:Di} {tbl:List (Int × Int)}
structure Tp (P Z:Nat->Prop) (H:HP) (c s t ms ct b mt:Nat) (tab aa:List (Int × Ob)) (tr:Di) (tbl:List (Int × Int)):Prop where
 rs:RS P H s t tab tr
 obs:∀w∈tab,de w.2
 lt:c < H.n
 at_:H.g c=vk s ms ct b
 Gv:ct < H.n
 tb:H.g ct= .dict (dt tbl)
 zP:∀x,P x->x≠mt
 zs:s≠mt
 zt:t≠mt
 zZ:∀x,Z x->x≠mt
 zN:∀x,H.n<=x->Z x
 d1:ms≠mt
 d3:ct≠mt
 ms:MS Z H ms mt aa
structure TV (Z:Nat->Prop) (H:HP) (c ms mt:Nat) (aa M:List (Int × Ob)) (loc:Loc) (H':HP):Prop where
 l0:loc "self"= .ref c
 keys:M.map (·.1)=aa.map (·.1)
 aD:ai (atS mt) H H'
 ms:MS Z H' ms mt M
theorem Qr (m:aQ G) {fr:List Int} (B:Tp P Z H c s t ms ct b mt tab aa tr tbl) (Yf:fa < H.n) (d4:fa≠mt) (ef:H.g fa= .list (fr.map pr))
  (hq:∀n∈fr,∃q o,ae n tbl=some q/\(1<=q/\q<=aa.length)/\ah n tab=some o) (h:∀H',ai (atS mt) H H'->MS Z H' ms mt (wA tbl tab fr aa)->Q .none H'):G (k+8) "Collector.lay" [.ref c,.ref fa] H Q:=by
 refine m.run 37 rfl rfl rfl (dE (aH ef) (Me pr (TV Z H c ms mt aa) (ue tbl tab) (λI=>bC I.aD Yf d4 ⟨aH ef,rfl⟩) fr (λn hn M loc H' C I hN=>aq (hq n hn) λq o z=>?_) ⟨rfl,rfl,.refl,B.ms⟩ (λloc' H' I=>h H' I.aD I.ms) rfl))
 have f:=I.aD
 have ec:=f.fix B.lt B.at_ rfl
 have et:=f.ne B.Gv B.tb B.d3
 have VP:=B.rs.mono f (qZ B.zP) B.zs B.zt
 refine ak I.l0 (ad ec (I.ms.ins.elim λX6 UO=>ad UO (ak I.l0 (ad ec (ad et ⟨bP,dE (v:=pr q) (nQ.trans (congrArg (Option.map pr) z.1)) (ak I.l0 (ad ec (VP.ins.elim λzz e5=>ad e5.1 (VP.entry z.2.2 λu ru=>ak I.l0 (ad ec ?_)))))⟩)))))
 refine Jb m ru (B.obs _ (bp z.2.2)) (f.lt B.Gv) et λH2 v' f2 rv=>?_
 have ml:M.length=aa.length:=by have:=congrArg List.length I.keys;rwa [aaB,aaB] at this
 refine sY m B.zZ B.d1 (I.ms.mono f2 aV id id) ⟨z.2.1.1,ml▸z.2.1.2⟩ (rv.mono (.refl:ai aJ H2 H2) λa zz ha=>⟨id,B.zN a (aaw f.le ha)⟩) λH3 f3 zz My=>hN _ _ ⟨I.l0,?_,(f.tn f2).tr f3,(kI z.1 z.2.2).symm▸My⟩
 exact (kI z.1 z.2.2)▸(eR (I.keys▸(bD B.ms.num).mpr z.2.1)).trans I.keys
theorem Mu (m:aQ G) {p pb f:Nat} (hp:p < H.n) (ep:H.g p=zB pb f) (rd:RD P H f d) (hl:d.length < 64) (h:vR (bh P H.n) Q H (gp d)):G (k+2) "bare_page" [.ref p] H Q:=by
 refine rd.ex.elim λes l=>m.run 38 rfl rfl rfl (ad ep ?_)
 refine dB (q:=fH (bh P H.n)) (r7 l.1 l.2) rd.lt id (λx=>!decide (x.1="Parent")) (λzz zz zz zz f z=>z.mn f) ga (dz▸aaI (gJ hl)) (λv x H' C N rv f y n=>?_) λH1 b vs f1 Mi qg e2 l1=>?_
 .obtain rfl:=rv.1
  have q:=rd.mn f
  exact Rs (Fu (λe=>ad (f.fix hp ep rfl) (q.idx (cg q.nd rv.2) λu ru=>y e _ _ .refl ⟨u,rfl,ru.fG λzz zz h=>.inl h⟩)) n)
 .rw [aby] at l1
  refine iL e2 l1 ((List.filter_sublist.map _).nodup rd.nd) (.inr f1.le) λH3 c f3 BP r3=>gc m λH4 f4 n4 e4=>?_
  have le:H.n<=c:=aaw f1.le BP
  refine (r3.mn f4).set (va:= .at (.name "Page")) ⟨_,rfl,n4▸aaC _,e4⟩ (aaz (List.length_filter_le ..) (gJ hl)) λH5 f5 n5 r5=>?_
  exact h H5 c (((f1.tr f3).tr f4).up f5 le) le r5
end
structure Doc where
 tab:List (Int × Ob)
 tr:Di
 c:Int
 sp:List aX
noncomputable def Doc.bs (D:Doc):Int->Bool:=D8 D.sp D.c
structure DocOk (D:Doc):Prop where
 tree:Tree D.tab D.tr D.sp
 root:look "Root" D.tr=some (.at (.ref D.c))
 ok:∀w∈D.tab,de w.2
 Lo:eI D.tr
 free:∀n o,ah n D.tab=some o->D.bs n=false->lX o=[]
 YL:∀fr:List Int,fr.Nodup->(∀n∈fr,aM D.tab n=true/\D.bs n=false)->fr.length<=4
noncomputable abbrev Pl:=List (Nat × (Int × Di))
noncomputable def cw (pl:Pl):List (Nat × Int):=pl.map λx=>(x.1,x.2.1)
noncomputable def KU (i:Nat) (a:List (Int × Int) × Int) (x:Nat × Int):List (Int × Int) × Int:=(if x.1=i then hU x.2 a.2 a.1 else a.1,a.2+1)
noncomputable def fJ (i:Nat) (ws:List (Nat × Int)):List (Int × Int):=(ws.foldl (KU i) ([],3)).1
theorem P9 {i:Nat} {ws:List (Nat × Int)}:∀{a:List (Int × Int) × Int},(ws.foldl (KU i) a).2=a.2+ws.length:=by
 induction ws with
 | nil=>exact (Int.add_zero _).symm
 | cons x ws ih=>exact ih.trans (by show _+1+(_:Int)=_;rw [aa2,Int.natCast_add,Int.add_assoc,Int.add_comm 1];rfl)
theorem fX {i:Nat} {x:Nat × Int} {ws:List (Nat × Int)}:fJ i (ws++[x])=if x.1=i then hU x.2 (3+ws.length) (fJ i ws) else fJ i ws:=by
 unfold fJ
 rw [List.foldl_append]
 show (if x.1=i then hU x.2 (ws.foldl (KU i) ([],3)).2 _ else _)=_
 rw [P9]
theorem jl {n m q:Int} {tbl:List (Int × Int)}:ae m (hU n q tbl)=if ae n tbl= .none/\n=m then some q else ae m tbl:=by
 unfold hU
 cases h:ae n tbl with
 | some x=>exact (if_neg λz=>nomatch z.1).symm
 | none=>
  show ae m (tbl++[(n,q)])=_
  rw [cc]
  by_cases e:n=m
  .rw [if_pos ⟨rfl,e⟩,<-e,h,dI];rfl
  .rw [if_neg λz=>e z.2,dJ e];cases ae m tbl<;>rfl
theorem FI {i:Nat} {m q:Int} (ws:List (Nat × Int)):ae m (fJ i ws)=some q->∃j:Nat,ws[j]? =some (i,m)/\q=3+j:=by
 refine f0 (p:=λws=>ae m (fJ i ws)=some q->∃j:Nat,ws[j]? =some (i,m)/\q=3+j) (λh=>nomatch h) (λl a ih h=>?_) ws
 have old:ae m (fJ i l)=some q->∃j:Nat,(l++[a])[j]? =some (i,m)/\q=3+j:=λh=>(ih h).imp λj z=>⟨by rw [abz (aaZ.mp z.1).1];exact z.1,z.2⟩
 rw [fX] at h
 by_cases e:a.1=i
 .rw [if_pos e,jl] at h
  refine (Classical.em (ae a.2 (fJ i l)= .none/\a.2=m)).elim (λe2=>?_) λe2=>?_
  .rw [if_pos e2] at h
   exact ⟨l.length,by rw [List.getElem?_concat_length,<-e,<-e2.2],(aay h).symm⟩
  .rw [if_neg e2] at h;exact old h
 .rw [if_neg e] at h;exact old h
theorem RN {i:Nat} {m:Int} (ws:List (Nat × Int)):(i,m)∈ws->(ae m (fJ i ws)).isSome=true:=by
 refine f0 (p:=λws=>(i,m)∈ws->(ae m (fJ i ws)).isSome=true) (λh=>(aaU h).elim) (λl a ih h=>?_) ws
 have keep:(ae m (fJ i l)).isSome=true->(ae m (fJ i (l++[a]))).isSome=true:=λh=>by
  rw [fX]
  by_cases e:a.1=i
  .rw [if_pos e,jl]
   by_cases e2:ae a.2 (fJ i l)= .none/\a.2=m
   .rw [if_pos e2];rfl
   .rw [if_neg e2];exact h
  .rw [if_neg e];exact h
 refine (aa6.mp h).elim (λh=>keep (ih h)) λh=>?_
 cases q:ae m (fJ i l) with
 | some x=>exact keep (q▸rfl)
 | none=>
  rw [<-aaK.mp h,fX,if_pos rfl,jl,if_pos ⟨q,rfl⟩];rfl
theorem Bx {m q:Int} {l:List (Int × Int)} (h:ae m l=some q):(m,q)∈l:=by
 induction l with
 | nil=>cases h
 | cons e r ih=>
  obtain ⟨j,w⟩:=e
  by_cases z:j=m
  .rw [z,dI] at h;rw [z,aay h];exact .head _
  .rw [dJ z] at h;exact .tail _ (ih h)
theorem Qd {m q:Int} {l:List (Int × Int)} (nd:(l.map (·.1)).Nodup) (h:(m,q)∈l):ae m l=some q:=by
 induction l with
 | nil=>cases h
 | cons e r ih=>
  have nd:=aa8.mp nd
  refine (aaH.mp h).elim (λz=>z▸dI) λz=>?_
  exact (dJ λx=>nd.1 (aaG.mpr ⟨_,z,x.symm⟩)).trans (ih nd.2 z)
theorem Na {l:List Int}:∀{q:Int},(gj l q).map (·.1)=l:=by
 induction l with
 | nil=>exact rfl
 | cons a l ih=>exact congrArg _ ih
theorem vS {l:List Int}:∀{q:Int} {x:Int × Int},x∈gj l q->q<=x.2/\x.2 < q+l.length:=by
 induction l with
 | nil=>exact λh=>(aaU h).elim
 | cons a l ih=>
  intro q x h
  rw [aa2]
  refine (aaH.mp h).elim (λe=>e▸ ?_) λe=>?_
  .show q<=q/\q < q+(l.length+1:Nat);exact ⟨Int.le_refl _,Int.lt_add_of_pos_right _ (Int.natCast_pos.mpr (Nat.succ_pos _))⟩
  .have:=ih e;exact ⟨Int.le_of_lt this.1,sR this.2 zs.symm⟩
theorem Ma {l:List Int}:∀{q:Int},((gj l q).map (·.2)).Nodup:=by
 induction l with
 | nil=>exact List.Pairwise.nil
 | cons a l ih=>exact λ{q}=>aa8.mpr ⟨λh=>(aaG.mp h).elim λx z=>by have:=vS z.1;have e:x.2=q:=z.2;exact Int.ne_of_lt this.1 e.symm,ih⟩
theorem PL {l:List Int}:∀{q p:Int},q<=p->p < q+l.length->∃n∈l,(n,p)∈gj l q:=by
 induction l with
 | nil=>intro q p h1 h2;exact absurd h1 (Int.not_le.mpr (sR h2 (Int.add_zero q)))
 | cons a l ih=>
  intro q p h1 h2
  by_cases e:p=q
  .exact e▸⟨a,.head _,.head _⟩
  .rw [aa2] at h2
   exact (ih (q:=q+1) (p:=p) (M3 h1 (abm e)) (sR h2 zs)).imp λn z=>⟨.tail _ z.1,.tail _ z.2⟩
theorem rm {tbl:List (Int × Int)} {a:At} (h:mL a= .none):nL tbl a=a:=by
 cases a with
 | ref n=>cases h
 | _=>rfl
theorem rQ {tbl:List (Int × Int)} {v:Va} (h:gS v=[]):ii tbl v=v:=by
 cases v with
 | «at» a=>exact congrArg _ (rm (by cases q:mL a with | none=>rfl | some x=>rw [show gS (.at a)=(mL a).toList from rfl,q] at h;exact nomatch h))
 | arr xs=>exact congrArg _ ((abq (g:=id) λa ha=>rm (a:=a) (by
   cases q:mL a with
   | none=>rfl
   | some x=>
    have:x∈xs.filterMap mL:=abB.mpr ⟨a,ha,q⟩
    rw [show xs.filterMap mL=[] from h] at this
    exact (aaU this).elim)).trans (aby _))
theorem zQ {v:Va}:v.nul=true ↔ v= .at .none:=by
 cases v with
 | «at» a=>cases a with
  | none=>exact ⟨λzz=>rfl,λzz=>rfl⟩
  | _=>exact ⟨nofun,nofun⟩
 | arr xs=>exact ⟨nofun,nofun⟩
theorem rG {tbl:List (Int × Int)} {d:Di} (h:cM d=[]) (nn:∀x∈d,x.2≠ .at .none):ji tbl d=d:=by
 unfold ji
 rw [(abq λx hx=>by rw [rQ (List.flatMap_eq_nil_iff.mp h x hx)];rfl:(d.map λx=>(x.1,ii tbl x.2))=d.map id),aby]
 exact List.filter_eq_self.mpr λx hx=>congrArg Bool.not (Bool.eq_false_iff.mpr λq=>nn x hx (zQ.mp q))
theorem rI {tbl:List (Int × Int)} {o:Ob} (h:lX o=[]) (ok:de o):Cl tbl o=o:=by
 cases o with
 | null=>rfl
 | dict d=>exact congrArg _ (rG h λx hx=>(ok.2 x hx).1)
 | stream d b=>exact congrArg (Ob.stream · b) (rG h λx hx=>(ok.2 x hx).1)
section
variable {tbl:List (Int × Int)} {tab:List (Int × Ob)} {q n:Int} {o:Ob} {w:Int × Ob} {l:List Int}
theorem iP {M:List (Int × Ob)} (h:ae n tbl= .none\/ah n tab= .none):ue tbl tab M n=M:=by
 unfold ue
 cases e:ae n tbl with
 | none=>rfl
 | some q=>rw [h.resolve_left λz=>nomatch e.symm.trans z];rfl
theorem oY:∀{M:List (Int × Ob)},(∀n∈l,ae n tbl≠some q)->ah q (wA tbl tab l M)=ah q M:=by
 induction l with
 | nil=>exact λzz=>rfl
 | cons m r ih=>
  refine λ{M} h=>(ih λn hn=>h n (.tail _ hn)).trans ?_
  cases e1:ae m tbl with
  | none=>rw [iP (.inl e1)]
  | some p=>cases e2:ah m tab with
   | none=>rw [iP (.inr e2)]
   | some o=>rw [kI e1 e2,cA,if_neg λe:p=q=>h m (.head _) (e▸e1)]
theorem Fk (h1:ae n tbl=some q) (h2:ah n tab=some o):∀{M:List (Int × Ob)},l.Nodup->n∈l->(∀m∈l,ae m tbl=some q->m=n)->ah q (wA tbl tab l M)=some (Cl tbl o):=by
 induction l with
 | nil=>exact λzz h=>(aaU h).elim
 | cons m r ih=>
  intro M nd hn hu
  refine (Classical.em (n∈r)).elim (λe=>?_) λe=>?_
  .exact ih (aa8.mp nd).2 e λx hx=>hu x (.tail _ hx)
  .have e':n=m:=(aaH.mp hn).resolve_right e
   exact (oY λx hx hq=>e (hu x (.tail _ hx) hq▸hx)).trans (by rw [<-e',kI h1 h2,cA,if_pos rfl])
theorem pz (h:w∈bR q o tab):w.2=o\/w∈tab:=by
 induction tab with
 | nil=>exact .inl (aaK.mp h▸rfl)
 | cons e r ih=>
  obtain ⟨j,v⟩:=e
  by_cases z:j=q
  .rw [z,uf] at h;exact (aaH.mp h).imp (λx:w=(q,o)=>x▸rfl) (.tail _)
  .rw [tV z] at h;exact (aaH.mp h).elim (λx=>.inr (x▸ .head _)) λx=>(ih x).imp id (.tail _)
theorem Dd:∀{M:List (Int × Ob)},w∈wA tbl tab l M->w∈M\/∃n o,n∈l/\ah n tab=some o/\w.2=Cl tbl o:=by
 induction l with
 | nil=>exact .inl
 | cons m r ih=>
  intro M h
  refine (ih h).elim (λh=>?_) λh=>.inr (h.imp λn z=>z.imp λo z=>⟨.tail _ z.1,z.2⟩)
  cases e1:ae m tbl with
  | none=>rw [iP (.inl e1)] at h;exact .inl h
  | some p=>cases e2:ah m tab with
   | none=>rw [iP (.inr e2)] at h;exact .inl h
   | some o=>rw [kI e1 e2] at h;exact (pz h).elim (λz=>.inr (bI m o ⟨.head _,e2,z⟩)) .inl
end
noncomputable def eE (i:Nat):List (Nat × Int)->Int->List (Int × Int)
 | [],_=>[]
 | x::r,q=>if x.1=i then (x.2,q)::eE i r (q+1) else eE i r (q+1)
section
variable {i i':Nat} {m p q:Int} {E F:List (Nat × Int)} {fr:List Int}
theorem HF {q:Int} {n:Nat}:q+1+n=q+(n+1:Nat):=by rw [Int.natCast_add,Int.add_assoc,Int.add_comm 1];rfl
theorem rJ:∀{q:Int},eE i (E++F) q=eE i E q++eE i F (q+E.length):=by
 induction E with
 | nil=>exact λ{q}=>by rw [List.nil_append,List.length_nil,Int.natCast_zero,Int.add_zero];rfl
 | cons x E ih=>
  intro q
  show (if x.1=i then _::eE i (E++F) (q+1) else eE i (E++F) (q+1))=(if x.1=i then _ else _)++_
  rw [ih,aa2,HF]
  by_cases e:x.1=i
  .rw [if_pos e,if_pos e];rfl
  .rw [if_neg e,if_neg e]
theorem qU:∀{q:Int},eE i (fr.map λn=>(i,n)) q=gj fr q:=by
 induction fr with
 | nil=>exact rfl
 | cons n fr ih=>exact (if_pos rfl).trans (congrArg _ ih)
theorem yJ (h:i≠i'):∀{q:Int},eE i' (fr.map λn=>(i,n)) q=[]:=by
 induction fr with
 | nil=>exact rfl
 | cons n fr ih=>exact (if_neg h).trans ih
theorem uQ:∀{q:Int},ae m (eE i E q)=some p->∃k:Nat,E[k]? =some (i,m)/\p=q+k:=by
 induction E with
 | nil=>exact λh=>nomatch h
 | cons x E ih=>
  intro q h
  have old:ae m (eE i E (q+1))=some p->∃k:Nat,(x::E)[k]? =some (i,m)/\p=q+k:=λh=>(ih h).elim λk z=>⟨k+1,z.1,z.2.trans HF⟩
  have h:ae m (if x.1=i then _ else _)=some p:=h
  by_cases e:x.1=i
  .rw [if_pos e] at h
   by_cases e2:x.2=m
   .rw [e2,dI] at h
    exact ⟨0,by rw [<-e,<-e2];rfl,(aay h).symm.trans (Int.add_zero q).symm⟩
   .rw [dJ e2] at h;exact old h
  .rw [if_neg e] at h;exact old h
theorem iT:∀{q:Int} {k:Nat},E.Nodup->E[k]? =some (i,m)->ae m (eE i E q)=some (q+k):=by
 induction E with
 | nil=>exact λzz h=>nomatch h
 | cons x E ih=>
  intro q k nd h
  have nd:=aa8.mp nd
  show ae m (if x.1=i then _ else _)=_
  cases k with
  | zero=>
   obtain rfl:=aay h
   exact (congrArg _ (if_pos rfl)).trans (dI.trans (congrArg _ (Int.add_zero q).symm))
  | succ k=>
   have old:=(ih (q:=q+1) nd.2 h).trans (congrArg _ HF)
   by_cases e:x.1=i
   .rw [if_pos e,dJ λe2=>nd.1 (by rw [show x=(i,m) from Prod.ext e e2];exact aaO (show E[k]? =_ from h))]
    exact old
   .rw [if_neg e];exact old
end
noncomputable def bN (pl:Pl) (E:List (Nat × Int)) (i:Nat):List (Int × Int):=fJ i (cw pl)++eE i E (3+(pl.length:Int))
theorem uX {k:String} {v:Va} {x:String × Va} {l:Di} (h:x∈cH k v l):x.2=v\/x∈l:=by
 induction l with
 | nil=>exact .inl (aaK.mp h▸rfl)
 | cons e l ih=>
  obtain ⟨j,w⟩:=e
  by_cases z:j=k
  .rw [z,kz] at h;exact (aaH.mp h).imp (λe:x=(k,v)=>e▸rfl) (.tail _)
  .rw [kD z] at h;exact (aaH.mp h).elim (λe=>.inr (e▸ .head _)) λe=>(ih e).imp id (.tail _)
noncomputable def dR (tb:List (Int × Int)) (d:Di):Di:=cH "Parent" (.at (.ref 2)) (ji tb (gp d))
theorem tG {d:Di} (ok:eI d):∀x∈gp d,x.2≠ .at .none/\xG x.2:=λx hx=>(uX hx).elim (λe=>e▸⟨nofun,trivial⟩) λe=>ok.2 x (abk.mp e).1
theorem y6 {tb:List (Int × Int)} {d:Di}:(ji tb d).length<=d.length:=aaw (List.length_filter_le ..) (aaS (aaB _))
theorem I5 {tb:List (Int × Int)} {d:Di} (ok:eI d) (hl:d.length < 60):eI (dR tb d):=by
 refine ⟨aaz (aaw b7 (aa1 (aaw y6 (jR d)))) (aax (Nat.add_lt_add_right hl 2) (by decide)),λx hx=>(uX hx).elim (λe=>e▸⟨nofun,trivial⟩) λe=>?_⟩
 have e:=abk.mp e
 refine ⟨λq=>(by rw [q] at e;exact Bool.noConfusion e.2),?_⟩
 refine (aaG.mp e.1).elim λy z=>?_
 have:=(tG ok y z.1).2
 rw [<-z.2]
 revert this
 cases y.2 with
 | «at» a=>exact id
 | arr ys=>exact λh=>aaz (aaS (aaB _)) h
theorem oB {tb MP:List (Int × Int)} {a:At} (h:∀n,mL a=some n->ae n tb=ae n MP):nL tb a=nL MP a:=by
 cases a with
 | ref n=>show ((ae n tb).map _).getD _=_;rw [h n rfl];rfl
 | _=>rfl
theorem ym {tb MP:List (Int × Int)} {d:Di} (h:∀n∈cM d,ae n tb=ae n MP):ji tb d=ji MP d:=by
 refine congrArg _ (abq λx hx=>congrArg (Prod.mk x.1) ?_)
 have h:∀n∈gS x.2,ae n tb=ae n MP:=λn hn=>h n (List.mem_flatMap.mpr ⟨x,hx,hn⟩)
 revert h
 cases x.2 with
 | «at» a=>exact λh=>congrArg _ (oB λn e=>h n (Option.mem_toList.mpr e))
 | arr ys=>exact λh=>congrArg _ (abq λa ha=>oB λn e=>h n (abB.mpr ⟨a,ha,e⟩))
structure Ent (docs:List Doc) (pl:Pl) (j:Nat) (aa:List (Int × Ob)) (k i:Nat) (n:Int) (D:Doc) (o:Ob):Prop where
 doc:docs[i]? =some D
 src:ah n D.tab=some o
 bs:D.bs n=false
 at_:ah (3+(pl.length:Int)+k) aa=some o
 why:∃(j':Nat) (n':Int) (d:Di),j' < j/\pl[j']? =some (i,(n',d))/\n∈cM (gp d)
structure di (docs:List Doc) (pl:Pl) (j:Nat) (aa:List (Int × Ob)) (E:List (Nat × Int)):Prop where
 num:aa.map (·.1)=(List.range aa.length).map λ(i:Nat)=>(i:Int)+1
 len:aa.length=2+pl.length+E.length
 nd:E.Nodup
 ents:∀k i n,E[k]? =some (i,n)->∃D o,Ent docs pl j aa k i n D o
 done:∀(j' i:Nat) (n:Int) (d:Di),j' < j->pl[j']? =some (i,(n,d))->ah (3+(j':Int)) aa=some (.dict (dR (bN pl E i) d))/\∀D,docs[i]? =some D->∀m∈cM (gp d),aM D.tab m=true->D.bs m=false->(ae m (bN pl E i)).isSome=true
 Jp:∀w∈aa,de w.2
theorem oU {pl:Pl} {E:List (Nat × Int)} {i:Nat} {fr:List Int}:bN pl (E++fr.map λn=>(i,n)) i=bN pl E i++gj fr (3+(pl.length:Int)+E.length):=by unfold bN;rw [rJ,qU,aaW]
theorem rZ {pl:Pl} {E:List (Nat × Int)} {i i':Nat} {fr:List Int} (h:i≠i'):bN pl (E++fr.map λn=>(i,n)) i'=bN pl E i':=by unfold bN;rw [rJ,yJ h,aaY]
theorem yE {a b:List (Int × Int)} {m:Int} (h:(ae m a).isSome=true\/ae m b= .none):ae m (a++b)=ae m a:=by
 rw [cc]
 cases e:ae m a with
 | some x=>rfl
 | none=>exact h.elim (λz=>by rw [e] at z;exact absurd z aaE) id
theorem Jg {fr:List Int} {q m:Int} (h:m ∉ fr):ae m (gj fr q)= .none:=Option.not_isSome_iff_eq_none.mp λz=>h (of_decide_eq_true (je.symm.trans z))
theorem qI {tab b:List (Int × Ob)} {q:Int} (h:∀w∈b,w.1≠q):ah q (tab++b)=ah q tab:=by
 rw [lM]
 cases e:ah q tab with
 | some x=>rfl
 | none=>exact o8 λz=>(aaG.mp z).elim λw z=>h w z.1 z.2
theorem v7 {N:Nat} {q:Int}:q∈(List.range N).map (λ(i:Nat)=>(i:Int)+1) ↔ 1<=q/\q<=N:=by
 refine aaG.trans ⟨λh=>h.elim λi h=>?_,λh=>⟨(q - 1).toNat,List.mem_range.mpr ?_,?_⟩⟩
 .have:=List.mem_range.mp h.1;exact zw h.2 this
 .exact zt h.1 (zr h.2)
 .exact zv h.1
theorem yW {aa:List (Int × Ob)} {n:Nat} (h:aa.map (·.1)=(List.range aa.length).map λ(i:Nat)=>(i:Int)+1):(aa++cu aa.length n).map (·.1)=(List.range (aa.length+n)).map λ(i:Nat)=>(i:Int)+1:=by
 rw [aaL,h,List.range_add,aaL,cu,aa5,aa5]
 exact congrArg _ (abq λx zz=>by show (aa.length:Int)+1+x=((aa.length+x:Nat):Int)+1;exact Int.add_right_comm _ 1 _)
theorem di.step {docs:List Doc} {pl:Pl} {j i:Nat} {n:Int} {d:Di} {D:Doc} {aa:List (Int × Ob)} {E:List (Nat × Int)} {fr:List Int} (st:di docs pl j aa E) (dk:DocOk D) (hj:pl[j]? =some (i,(n,d))) (hD:docs[i]? =some D) (ok:eI d) (hl:d.length < 60)
  (nd:fr.Nodup) (qi:∀m,m∈fr ↔ m∈cM (gp d)/\ae m (bN pl E i)= .none/\aM D.tab m=true/\D.bs m=false):
  di docs pl (j+1) (bR (3+(j:Int)) (.dict (dR (bN pl E i++gj fr ((aa.length:Int)+1)) d)) (wA (bN pl E i++gj fr ((aa.length:Int)+1)) D.tab fr (aa++cu aa.length fr.length))) (E++fr.map λn=>(i,n)):=by
 have QY:j < pl.length:=(aaZ.mp hj).1
 have hq:(aa.length:Int)+1=3+(pl.length:Int)+E.length:=by exact (st.len)▸U7
 have eb:bN pl E i++gj fr ((aa.length:Int)+1)=bN pl (E++fr.map λn=>(i,n)) i:=by rw [oU,hq]
 rw [eb]
 have Bb:∀(k:Nat) (m:Int),fr[k]? =some m->ae m (bN pl (E++fr.map λn=>(i,n)) i)=some ((aa.length:Int)+1+k):=λk m hm=>by
  rw [<-eb,cc,((qi m).mp (aaO hm)).2.1]
  show ae m (gj _ _)=_
  rw [<-qU (i:=i)]
  exact iT (nd.map _ λzz zz h e=>h (Prod.mk.inj e).2) (by rw [abc,hm];rfl)
 have inj:∀a b p,a∈fr->b∈fr->ae a (bN pl (E++fr.map λn=>(i,n)) i)=some p->ae b (bN pl (E++fr.map λn=>(i,n)) i)=some p->a=b:=λa b p ha hb h1 h2=>(abo ha).elim λk hk=>(abo hb).elim λl hl=>by
  rw [Bb k a hk] at h1;rw [Bb l b hl] at h2
  have:k=l:=by have:=aay (h1.trans h2.symm);exact qk (Int.add_left_cancel this)
  rw [this,hl] at hk;exact (aay hk).symm
 have keys:=AW (tbl:=bN pl (E++fr.map λn=>(i,n)) i) (tab:=D.tab) (yW (n:=fr.length) st.num) λm hm q hq=>(abo hm).elim λk hk=>by
  rw [Bb k m hk] at hq
  have:=(aaZ.mp hk).1
  rw [<-aay hq,v7];exact Uy this
 have JC:=(eR (q:=3+(j:Int)) (o:= .dict (dR (bN pl (E++fr.map λn=>(i,n)) i) d)) (by rw [keys,v7,st.len];exact Up QY)).trans keys
 have yS:=congrArg List.length JC
 rw [aaB,aaB,List.length_range] at yS
 have other:∀q:Int,q<=aa.length->q≠3+(j:Int)->∀{o},ah q aa=o->ah q (bR (3+(j:Int)) (.dict (dR (bN pl (E++fr.map λn=>(i,n)) i) d)) (wA (bN pl (E++fr.map λn=>(i,n)) i) D.tab fr (aa++cu aa.length fr.length)))=o:=λq h1 h2 o ho=>by
  rw [cA,if_neg (abm h2),oY λm hm hq=>(abo hm).elim λk hk=>by rw [Bb k m hk] at hq;have:=aay hq;exact Int.not_le.mpr (sR (zg _ _) this) h1,qI (b:=cu aa.length fr.length) λw hw=>(aaG.mp hw).elim λx z=>by have:(aa.length:Int)+1+x=w.1:=congrArg Prod.fst z.2;exact Int.ne_of_gt (Int.lt_of_le_of_lt h1 (sR (zg _ _) this))]
  exact ho
 have same:∀i' m,(ae m (bN pl E i')).isSome=true\/i≠i'\/m ∉ fr->ae m (bN pl (E++fr.map λn=>(i,n)) i')=ae m (bN pl E i'):=λi' m h=>by
  by_cases e:i=i'
  .subst e
   rw [oU]
   exact yE (h.imp id λz=>Jg (Or.resolve_left z λw=>w rfl))
  .rw [rZ e]
 refine ⟨JC.trans (yS.symm▸rfl),by rw [yS,aaD,aaB,st.len,aa9],abw.mpr ⟨st.nd,nd.map _ λzz zz h e=>h (Prod.mk.inj e).2,λx hx y hy e=>?_⟩,λk i' m hk=>?_,λj' i' n' d' VX Vl=>?_,λw hw=>?_⟩
 .refine (aaG.mp hy).elim λm z=>(abo hx).elim λk hk=>?_
  have h0:=((qi m).mp z.1).2.1
  rw [e,<-z.2] at hk
  have h1:=iT (q:=3+(pl.length:Int)) st.nd hk
  unfold bN at h0
  replace h0:=(cc)▸h0
  cases q:ae m (fJ i (cw pl))<;>replace h0:=(q)▸h0
  .exact nomatch h1.symm.trans h0
  .cases h0
 .by_cases zD:k < E.length
  .rw [abz zD] at hk
   exact (st.ents k i' m hk).imp λD' z=>z.imp λo z=>⟨z.doc,z.src,z.bs,other _ (by rw [st.len];exact Vf zD) (SD QY) z.at_,z.why.imp λj' w=>w.imp λzz w=>w.imp λzz w=>⟨Nat.lt_succ_of_lt w.1,w.2⟩⟩
  .rw [List.getElem?_append_right (aaP.mp zD),abc] at hk
   cases hm:fr[k - E.length]? with
   | none=>rw [hm] at hk;exact nomatch hk
   | some m'=>
    replace hk:=(hm)▸hk
    cases aay hk
    have TD:=aaO hm
    have h1:=(qi m).mp TD
    obtain ⟨o,ho⟩:=aa7.mp (show (ah m D.tab).isSome=true from h1.2.2.1)
    have lk:=Bb _ m hm
    refine (bI D o ⟨hD,ho,h1.2.2.2,?_,j,n,d,aaC _,hj,h1.1⟩)
    rw [(show 3+(pl.length:Int)+k=(aa.length:Int)+1+(k - E.length:Nat) from by exact (st.len)▸Sh zD),cA,if_neg ((st.len)▸S4 QY),Fk lk ho nd TD λx hx hq=>inj _ _ _ hx TD hq lk,rI (dk.free m o ho h1.2.2.2) (dk.ok _ (bp ho))]
 .by_cases ej:j'=j
  .rw [ej] at Vl ⊢
   cases aay (hj.symm.trans Vl)
   refine ⟨by rw [cA,if_pos rfl],λD' MQ m hm ht hb=>?_⟩
   cases aay (hD.symm.trans MQ)
   by_cases q:m∈fr
   .exact (abo q).elim λk hk=>Bb k m hk▸rfl
   .rw [same i m (.inr (.inr q))]
    exact Option.isSome_iff_ne_none.mpr λh=>q ((qi m).mpr ⟨hm,h,ht,hb⟩)
  .have z:=st.done j' i' n' d' (Nat.lt_of_le_of_ne (Nat.le_of_lt_succ VX) ej) Vl
   have eqs:∀m∈cM (gp d'),ae m (bN pl (E++fr.map λn=>(i,n)) i')=ae m (bN pl E i'):=λm hm=>same i' m (by
    by_cases e:i=i'
    .by_cases q:m∈fr
     .have w:=((qi m).mp q).2.2
      exact .inl (z.2 D (e▸hD) m hm w.1 w.2)
     .exact .inr (.inr q)
    .exact .inr (.inl e))
   refine ⟨other _ (by rw [st.len];exact Un QY VX) (λe=>ej (qk (Int.add_left_cancel e))) (z.1.trans (congrArg (λx=>some (Ob.dict (cH _ _ x))) (ym λm hm=>(eqs m hm).symm))),λD' MQ m hm ht hb=>?_⟩
   rw [eqs m hm];exact z.2 D' MQ m hm ht hb
 .refine (pz hw).elim (λe=>e▸I5 ok hl) λe=>(Dd e).elim (λe=>(aa6.mp e).elim (st.Jp w) λe=>(aaG.mp e).elim λx z=>z.2▸trivial) λz=>aq z λm o z=>?_
  rw [z.2.2,rI (dk.free m o z.2.1 ((qi m).mp z.1).2.2.2) (dk.ok _ (bp z.2.1))]
  exact dk.ok _ (bp z.2.1)
noncomputable def OF (docs:List Doc) (F:List (Nat × Int)):Prop:=F.Nodup/\∀x∈F,∃D,docs[x.1]? =some D/\aM D.tab x.2=true/\D.bs x.2=false
theorem zW {docs:List Doc} (uI:∀D∈docs,DocOk D) (n:Nat):∀{F:List (Nat × Int)},OF docs F->(∀x∈F,x.1 < n)->F.length<=4*n:=by
 induction n with
 | zero=>exact λ{F} zz h=>match F,h with
  | [],_=>aaF _
  | x::_,h=>absurd (h x (.head _)) (Nat.not_lt_zero _)
 | succ n ih=>
  intro F c h
  have h1:=ih (F:=F.filter λx=>decide ¬decide (x.1=n)=true) ⟨c.1.filter _,λx hx=>c.2 x (abk.mp hx).1⟩ λx hx=>by
   have z:=abk.mp hx
   have:=h x z.1
   have w:=of_decide_eq_true z.2
   rw [decide_eq_true_iff] at w
   exact Nat.lt_of_le_of_ne (Nat.le_of_lt_succ this) w
  have h2:(F.filter λx=>decide (x.1=n)).length<=4:=by
   cases e:F.filter λx=>decide (x.1=n) with
   | nil=>exact abp _
   | cons y r=>
    rw [<-e]
    have m:∀x∈F.filter λx=>decide (x.1=n),x∈F/\x.1=n:=λx hx=>(abk.mp hx).imp id of_decide_eq_true
    have y1:=m y (e▸ .head _)
    refine (c.2 y y1.1).elim λD z=>?_
    have:=(uI D (aaO z.1)).YL ((F.filter λx=>decide (x.1=n)).map (·.2)) (List.pairwise_map.mpr ((c.1.filter _).imp_of_mem λ{a b} ha hb ne e=>ne (Prod.ext ((m a ha).2.trans (m b hb).2.symm) e))) λk hk=>(aaG.mp hk).elim λx w=>(c.2 x (m x w.1).1).elim λD' v=>by
     rw [(m x w.1).2,<-y1.2,z.1] at v
     rw [<-w.2,aay v.1];exact v.2
    rwa [aaB] at this
  have:=List.length_eq_countP_add_countP (λx:Nat × Int=>decide (x.1=n)) (l:=F)
  rw [List.countP_eq_length_filter,List.countP_eq_length_filter] at this
  exact zF (aaQ h1 (aaQ h2 (aaS this))) (by simp+arith)
theorem di.Uw {docs:List Doc} {pl:Pl} {j:Nat} {aa:List (Int × Ob)} {E:List (Nat × Int)} (st:di docs pl j aa E):OF docs E:=⟨st.nd,λx hx=>(abo hx).elim λk hk=>aq (st.ents k x.1 x.2 hk) λD o z=>⟨D,z.doc,by unfold aM;rw [z.src];rfl,z.bs⟩⟩
theorem OF.lt {docs:List Doc} {F:List (Nat × Int)} (c:OF docs F):∀x∈F,x.1 < docs.length:=λx hx=>(c.2 x hx).elim λzz z=>(aaZ.mp z.1).1
theorem di.room {docs:List Doc} {pl:Pl} {j i:Nat} {D:Doc} {aa:List (Int × Ob)} {E:List (Nat × Int)} (st:di docs pl j aa E) (uI:∀D∈docs,DocOk D) (nV:pl.length+4*docs.length<=60) (hD:docs[i]? =some D) {fr:List Int} (nd:fr.Nodup)
  (qi:∀n∈fr,ae n (bN pl E i)= .none/\aM D.tab n=true/\D.bs n=false):aa.length+fr.length < 64:=by
 have c:OF docs (E++fr.map λn=>(i,n)):=⟨abw.mpr ⟨st.nd,nd.map _ λzz zz h e=>h (Prod.mk.inj e).2,λx hx y hy e=>(aaG.mp hy).elim λm z=>(abo hx).elim λk hk=>by
   have h0:=(qi m z.1).1
   rw [e,<-z.2] at hk
   unfold bN at h0
   replace h0:=(cc)▸h0
   cases q:ae m (fJ i (cw pl))<;>replace h0:=(q)▸h0
   .exact nomatch (iT (q:=3+(pl.length:Int)) st.nd hk).symm.trans h0
   .cases h0⟩,λx hx=>(aa6.mp hx).elim (st.Uw.2 x) λh=>(aaG.mp h).elim λm z=>z.2▸⟨D,hD,(qi m z.1).2⟩⟩
 have:=zW uI _ c c.lt
 rw [aaD,aaB] at this
 have:=st.len
 exact zF (aaQ nV (aaQ (by assumption) (aaS this))) (by simp+arith)
theorem s6 {i:Nat} {ws:List (Nat × Int)}:(fJ i ws).length<=ws.length:=by
 refine f0 (p:=λws=>(fJ i ws).length<=ws.length) (aaF _) (λl a ih=>?_) ws
 rw [fX,aaD]
 by_cases e:a.1=i
 .rw [if_pos e]
  unfold hU
  cases (ae a.2 (fJ i l)).isSome with
  | true=>exact abx ih
  | false=>exact aaw (aaS aaD) (aa1 ih)
 .rw [if_neg e];exact abx ih
theorem BL {i:Nat} {E:List (Nat × Int)}:∀{q:Int},(eE i E q).length<=E.length:=by
 induction E with
 | nil=>exact aaF _
 | cons x E ih=>
  intro q
  show List.length (if x.1=i then _ else _)<=_
  by_cases e:x.1=i
  .rw [if_pos e];exact aa1 ih
  .rw [if_neg e];exact abx ih
theorem di.tbl {docs:List Doc} {pl:Pl} {j i:Nat} {aa:List (Int × Ob)} {E:List (Nat × Int)} (st:di docs pl j aa E) (uI:∀D∈docs,DocOk D) (nV:pl.length+4*docs.length<=60):(bN pl E i).length < 900:=by
 have h2:= @s6 i (cw pl)
 unfold bN
 rw [cw,aaB] at h2
 rw [aaD,cw]
 exact aaz (aaw (aaQ h2 (aaw (@BL i E (3+(pl.length:Int))) (zW uI _ st.Uw st.Uw.lt))) nV) (by decide)
theorem BN {m:Nat}:(cu 0 m).map (·.1)=(List.range (cu 0 m).length).map λ(i:Nat)=>(i:Int)+1:=by
 rw [eO,cu,aa5]
 exact abq λx zz=>by show (0:Int)+1+x=x+1;exact Int.add_comm 1 _
theorem di.init {docs:List Doc} {pl:Pl}:di docs pl 0 (cu 0 (2+pl.length)) [] where
 num:=BN
 len:=eO
 nd:= .nil
 ents _ _ _ h:=nomatch h
 done _ _ _ _ h:=absurd h (Nat.not_lt_zero _)
 Jp w hw:=(aaG.mp hw).elim λx z=>z.2▸trivial
structure CI where
 c:Nat
 s:Nat
 t:Nat
 ct:Nat
 b:Nat
structure BC (P:Nat->Prop) (H:HP) (ms lo hi:Nat) (x:CI) (D:Doc):Prop where
 lc:x.c < H.n
 at_:H.g x.c=vk x.s ms x.ct x.b
 W2:lo<=x.ct
 Jz:x.ct < x.b
 ls:x.s < hi
 lt:x.t < hi
 rs:RS P H x.s x.t D.tab D.tr
 bar:pq H x.b D.bs
theorem BC.mono {P P' S:Nat->Prop} {H H':HP} {ms lo hi:Nat} (f:ai S H H') (hp:cX S P P' H) (hS:∀a,S a->hi<=a) {x:CI} {D:Doc} (hb:¬S x.b) (r:BC P H ms lo hi x D):BC P' H' ms lo hi x D:=
 ⟨f.lt r.lc,f.fix r.lc r.at_ rfl,r.W2,r.Jz,r.ls,r.lt,r.rs.mono f hp (λq=>absurd (hS _ q) (Nat.not_le.mpr r.ls)) (λq=>absurd (hS _ q) (Nat.not_le.mpr r.lt)),r.bar.mono f hb⟩
noncomputable def Pc (P:Nat->Prop) (H:HP) (hi:Nat) (v:AV) (D:Doc):Prop:=∃s t,v= .ref s/\(s < hi/\t < hi)/\RS P H s t D.tab D.tr
theorem qW {G:Nat->aj} (m:aQ G) {k:Nat} {H:HP} {Q:KV} (h:∀H' t r,ai aJ H H'->(H.n < t/\t < r/\r < H'.n)->H'.g H.n=ip t (.ref r)->H'.g t= .dict []->H'.g r= .dict []->Q (.ref H.n) H'):sE (G (k+1)) "Shelf" [] H Q:=by
 refine m.init (cN λH1 f1 n1 e1=>ad (f1.keep (aaC _) dw) ⟨?_⟩)
 have l1:H.n < H1.n:=n1▸aax (aaC _) (aba _)
 have l2:H.n+1 < H1.n:=n1▸aaC _
 refine cN λH2 f4 n2 e2=>?_
 refine ad (f4.keep l1 bo) ⟨⟨rfl,h _ (H.n+1) H1.n (((((ai.push (S:=aJ) (o:= .inst "Shelf" [])).tr f1).re (o:= .inst "Shelf" [("table",.ref (H.n+1))]) (aaF _)).tr f4).re (aaF _)) ⟨aaC _,l2,(show H2.n=H1.n+1 from n2)▸aaC _⟩ bo ((d5 (aaN (aaC _))).trans (f4.keep l2 ((d5 (aaN (aaC _))).trans e1))) ((d5 (aaN l1)).trans e2)⟩⟩
structure WU (P:Nat->Prop) (H:HP) (ms lo hi:Nat) (gx:List CI) (docs:List Doc):Prop where
 co:L2 (BC P H ms lo hi) gx docs
 pw:gx.Pairwise λx y=>x.b < y.ct
noncomputable def LO (x:CI):AV:= .ref x.c
section
variable {G:Nat->aj} {H H0 H':HP} {Q:KV} {k:Nat} {P P' S Z:Nat->Prop} {loc:Loc} {docs:List Doc} {gx:List CI} {ms lo hi:Nat}
structure Te (P:Nat->Prop) (H:HP) (ms lo hi:Nat) (docs dd rest:List Doc) (gx:List CI) (vs acc:List AV) (H':HP):Prop where
 eq:docs=dd++rest
 rv:L2 (Pc P H hi) vs rest
 aD:ai aJ H H'
 acc:acc=gx.map LO
 co:L2 (BC (js P H.n) H' ms lo hi) gx dd
 pw:gx.Pairwise λx y=>x.b < y.ct
 tb:∀x∈gx,H'.g x.ct= .dict []/\x.b < H'.n/\H.n<=x.ct
noncomputable def Mg (P:Nat->Prop) (H:HP) (Q:KV) (ms lo hi:Nat) (docs:List Doc):Prop:=∀H' cl gx,ai aJ H H'->(H.n<=cl/\cl < H'.n)->H'.g cl= .list (gx.map LO)->WU (js P H.n) H' ms lo hi gx docs->(∀x∈gx,H'.g x.ct= .dict []/\H.n<=x.ct)->Q (.ref cl) H'
theorem Bn (m:aQ G) {shl:Nat} {ss:List AV} (uI:∀D∈docs,DocOk D) (Cq:shl < H.n) (es:H.g shl= .list ss) (hs:L2 (Pc P H hi) ss docs) (hlen:docs.length < 1000) (Op:lo<=H.n) (l1:loc "made"= .ref ms) (h:Mg P H Q ms lo hi docs):
  fb (X.new "Collector" (.cons (.loc "shelf") (.o (.loc "made"))) (G (k+7))) (.nm "shelf") .plain (X.yes (G (k+7))) loc Q [.ref shl] H:=by
 refine dE (aH es) (lD (λvs acc H'=>∃dd rest gx,Te P H ms lo hi docs dd rest gx vs acc H') (λv vs acc H' C N I hC zz=>bj I λdd rest gx I=>?_) _ _ _ (c9 ([]) docs ([]) ⟨rfl,hs,.refl,rfl,.nil,.nil,λzz h=>(aaU h).elim⟩) λacc H' I=>bj I λdd rest gx I=>?_)
 .cases rest with
  | nil=>exact nomatch (I.rv)
  | cons D rest=>
  refine aq I.rv.inv.1 λs t z=>?_
  obtain rfl:=z.1
  have f:=I.aD
  have rs:RS (js P H.n) H' s t D.tab D.tr:=z.2.2.mono f (λa ha h=>⟨id,h,ha⟩) id id
  have dk:=uI D (I.eq▸aaT _ (.head _))
  refine ak (v:= .ref ms) l1 (CT m rs dk.tree dk.root λH2 ct b f2 h1 h3 h4 h5=>hC _ _ (bC (f.tr f2) Cq id ⟨aH es,rfl⟩) ?_ (c9 (dd++[D]) rest (gx++[⟨H'.n,s,t,ct,b⟩]) ⟨by rw [I.eq,aaW];rfl,I.rv.inv.2,f.tr f2,by rw [I.acc,aaL];rfl,?_,?_,λx hx=>?_⟩))
  .rw [I.acc,aaB,I.co.len]
   have:=hlen
   rw [I.eq,aaD] at this
   exact ie (aaz (aaM ..) this)
  .exact (I.co.imp λx D' r=>r.mono f2 aV (λzz q=>q.elim) id).snoc ⟨aaA h1.1 (aaA h1.2 h5.1),h3,aaw Op (aaw f.le (aaI h1.1)),h1.2,z.2.1.1,z.2.1.2,rs.mn f2,h5⟩
  .exact List.pairwise_append.mpr ⟨I.pw,abu _ _,λx hx y hy=>aaK.mp hy▸aaA (I.tb x hx).2.1 h1.1⟩
  .refine (aa6.mp hx).elim (λq=>?_) λq=>aaK.mp q▸⟨h4,h5.1,aaw f.le (aaI h1.1)⟩
   have w:=I.tb x q
   exact (I.co.mem q).elim λD' r=>⟨f2.keep (aaA r.2.Jz w.2.1) w.1,f2.lt w.2.1,w.2.2⟩
 .have e:rest=[]:=by cases rest with
   | nil=>rfl
   | cons=>exact nomatch (I.rv)
  have eq:=I.eq
  rw [e,aaY] at eq
  refine cN λH2 f2 n2 e2=>h H2 _ gx (I.aD.tr f2) ⟨I.aD.le,n2▸aaC _⟩ (e2.trans (congrArg AO.list I.acc)) ⟨eq▸I.co.imp λx D' r=>r.mono f2 aV (λzz q=>q.elim) id,I.pw⟩ λx hx=>?_
  have w:=I.tb x hx
  exact (I.co.mem hx).elim λD' r=>⟨f2.keep (aaA r.2.Jz w.2.1) w.1,w.2.2⟩
end
noncomputable def GP (P:Nat->Prop) (H:HP) (v:AV) (x:Nat × (Int × Di)):Prop:=∃p pb f,v= .tup [.int x.1,.ref p]/\Ke P H p pb f x.2
theorem GP.mono {P P' S:Nat->Prop} {H H':HP} (f:ai S H H') (hp:cX S P P' H) {v:AV} {x:Nat × (Int × Di)} (r:GP P H v x):GP P' H' v x:=r.imp λzz r=>r.imp λzz r=>r.imp λzz r=>⟨r.1,r.2.mono f hp⟩
theorem L2.at {α β:Type} {r:α->β->Prop} {l:List α} {m:List β} (h:L2 r l m) {i:Nat} {a:α} {b:β} (e1:l[i]? =some a) (e2:m[i]? =some b):r a b:=(h.get e2).elim λx z=>aay (z.1.symm.trans e1)▸z.2
theorem yw {gx:List CI} (hp:gx.Pairwise (λx y=>x.b < y.ct)) (h:∀x∈gx,x.ct < x.b) {i j:Nat} {x y:CI} (hi:gx[i]? =some x) (hj:gx[j]? =some y):x.b≠y.ct/\(i≠j->x.ct≠y.ct):=by
 have ⟨h1,e1⟩:=aaZ.mp hi
 have ⟨h2,e2⟩:=aaZ.mp hj
 have hx:=h x (aaO hi)
 have hy:=h y (aaO hj)
 have pw:=λi j h1 h2 q=>List.pairwise_iff_getElem.mp hp i j h1 h2 q
 rcases Nat.lt_trichotomy i j with q | q | q
 .have:=pw i j h1 h2 q
  rw [e1,e2] at this
  exact ⟨aaJ this,λzz=>aaJ (aaA hx this)⟩
 .rw [q,hj] at hi
  obtain rfl:=aay hi
  exact ⟨aaN hy,λz=>absurd q z⟩
 .have:=pw j i h2 h1 q
  rw [e1,e2] at this
  exact ⟨aaN (aaA hy (aaA this hx)),λzz=>aaN (aaA hy this)⟩
structure AsC where
 P:Nat->Prop
 H:HP
 ms:Nat
 mt:Nat
 cl:Nat
 vu:Nat
 lo:Nat
 N0:Nat
 docs:List Doc
 gx:List CI
 ps:List AV
 pl:Pl
noncomputable def gY (c:AsC):Nat->Prop:=λx=>x=c.mt\/∃ci∈c.gx,x=ci.ct
structure fw (c:AsC):Prop where
 RH:c.cl < c.H.n
 MN:c.H.g c.cl= .list (c.gx.map LO)
 ci:WU c.P c.H c.ms c.lo c.N0 c.gx c.docs
 VB:c.mt < c.lo
 x5:c.ms < c.mt
 hN:c.N0<=c.ms
 RY:¬gY c c.cl
 Q0:¬gY c c.vu
 Je:c.mt < c.H.n
 Q5:c.vu < c.H.n
 Kq:c.H.g c.vu= .list c.ps
 wZ:L2 (GP c.P c.H) c.ps c.pl
 gy:c.pl.length<=60
 Gc:∀x∈c.pl,x.1 < c.docs.length
 hP:∀x,c.P x->x < c.N0
section
variable {c:AsC} {H H':HP}
theorem fw.R2 (ok:fw c):∀x∈c.gx,x.ct < x.b:=λx hx=>(ok.ci.co.mem hx).elim λD r=>r.2.Jz
theorem fw.mc (ok:fw c):∀x∈c.gx,c.mt < x.ct:=λx hx=>(ok.ci.co.mem hx).elim λD r=>aax ok.VB r.2.W2
theorem fw.ze (ok:fw c):∀x∈c.gx,x.ct < c.H.n:=λx hx=>(ok.ci.co.mem hx).elim λD r=>aaA r.2.Jz r.2.bar.1
theorem fw.Q8 (ok:fw c):∀a,gY c a->c.N0<=a:=λa q=>q.elim (λq=>q▸aaw ok.hN (aaI ok.x5)) λq=>q.elim λy q=>q.2▸aaw (aaw ok.hN (aaI ok.x5)) (aaI (ok.mc y q.1))
theorem fw.O5 (ok:fw c):∀a,gY c a->a < c.H.n:=λa q=>q.elim (λq=>q▸ok.Je) λq=>q.elim λy q=>q.2▸ok.ze y q.1
theorem fw.keep (ok:fw c) {H:HP}:cX (gY c) c.P c.P H:=λa zz ha=>⟨λq=>Nat.not_le.mpr (ok.hP a ha) (ok.Q8 a q),ha⟩
theorem fw.bar (ok:fw c) {x:CI} (hx:x∈c.gx):¬gY c x.b:=λq=>q.elim (λq=>aaN (aaA (ok.mc x hx) (ok.R2 x hx)) q) λq=>q.elim λy q=>(abo hx).elim λi hi=>(abo q.1).elim λj hj=>(yw ok.ci.pw ok.R2 hi hj).1 q.2
theorem fw.co (ok:fw c) (f:ai (gY c) c.H H) {i:Nat} {x:CI} {D:Doc} (hx:c.gx[i]? =some x) (hD:c.docs[i]? =some D):BC c.P H c.ms c.lo c.N0 x D:=(ok.ci.co.at hx hD).mono f ok.keep ok.Q8 (ok.bar (aaO hx))
end
noncomputable def KA (c:AsC) (H:HP) (T:Nat->List (Int × Int)):Prop:=∀i x,c.gx[i]? =some x->H.g x.ct= .dict (dt (T i))
noncomputable def LG (H:HP) (v:AV) (q:Int):Prop:=j4 H v (cJ q)
noncomputable def c0 (n:Nat):List Int:=(List.range n).map λ(i:Nat)=>(3:Int)+i
structure SR (c:AsC) (dp rest:Pl) (vs acc:List AV) (H:HP):Prop where
 eq:c.pl=dp++rest
 rv:L2 (GP c.P c.H) vs rest
 aD:ai (gY c) c.H H
 acc:L2 (LG H) acc (c0 dp.length)
 ms:MS (bw c.H.n) H c.ms c.mt (cu 0 (2+dp.length))
 tb:KA c H λi=>fJ i (cw dp)
noncomputable def Pd (c:AsC) (Q:KV):Prop:=∀H' kl ks,ai (gY c) c.H H'->(c.H.n<=kl/\kl < H'.n)->H'.g kl= .list ks->L2 (LG H') ks (c0 c.pl.length)->MS (bw c.H.n) H' c.ms c.mt (cu 0 (2+c.pl.length))->KA c H' (λi=>fJ i (cw c.pl))->Q (.ref kl) H'
theorem gI {n:Nat}:(c0 n).length=n:=by rw [c0,aaB,List.length_range]
theorem Be {G:Nat->aj} {k:Nat} {loc:Loc} {Q:KV} (m:aQ G) {c:AsC} (ok:fw c) (r:MS (bw c.H.n) c.H c.ms c.mt (cu 0 2)) (Sp:∀x∈c.gx,c.H.g x.ct= .dict []) (l0:loc "collectors"= .ref c.cl) (h:Pd c Q):
  fb (X.ay (.idx (.loc "collectors") (.loc "at")) "reserve" (.o (.loc "page")) (G (k+3))) (.tup ["at","page"]) .plain (X.yes (G (k+3))) loc Q [.ref c.vu] c.H:=by
 refine dE (aH ok.Kq) (lD (λvs acc H'=>∃dp rest,SR c dp rest vs acc H') (λv vs acc H' C N I hC zz=>aq I λdp rest I=>?_) _ _ _ (bI ([]) c.pl ⟨rfl,ok.wZ,.refl,.nil,r,λi x hx=>Sp x (aaO hx)⟩) λacc H' I=>aq I λdp rest I=>?_)
 .cases rest with
  | nil=>exact nomatch (I.rv)
  | cons w rest=>
  obtain ⟨i,n,d⟩:=w
  refine bj I.rv.inv.1 λp pb f z=>?_
  obtain rfl:=z.1
  have hi:i < c.docs.length:=ok.Gc (i,(n,d)) (I.eq▸aaT _ (.head _))
  have hD:c.docs[i]? =some c.docs[i]:=aaR hi
  refine (ok.ci.co.get hD).elim λx hx=>?_
  have hx:=hx.1
  have DM:=aaO hx
  have co:=ok.co I.aD hx hD
  have pg:=z.2.mono I.aD ok.keep
  have dl:dp.length < c.pl.length:=by rw [I.eq,aaD];exact abl (Nat.succ_pos _)
  have Vc:=aax dl ok.gy
  refine ak (v:= .ref c.cl) l0 (ad (I.aD.at ok.RH ok.RY ok.MN) (dE (v:=AV.ref x.c) (by rw [Int.toNat_natCast,abc,hx];rfl) (ad co.at_ (Bi m (show sw ⟨x.c,x.s,c.ms,x.ct,x.b,c.mt,bw c.H.n⟩ from ⟨λy hy=>aaN (aax ok.Je hy),λy hy=>aaN (aax (ok.ze x DM) hy),aaJ ok.x5,aaJ (aaA ok.x5 (ok.mc x DM)),aaJ (ok.mc x DM)⟩) ⟨co.lc,co.at_,I.aD.lt (ok.ze x DM),I.tb i x hx,aaz s6 (by rw [cw,aaB];exact aaA Vc (by decide)),I.ms,by rw [eO];exact aax (abv (abr Vc 2)) (by decide)⟩ pg.lt pg.at_ pg.Jn pg.Go λH2 rr f2 h1 h2 h3 h4 h5=>?_))))
  have fS:=I.aD.tr (f2.weak λa zz q=>q.imp id λq=>⟨x,DM,q⟩)
  have num:((cu 0 (2+dp.length)).length:Int)+1=3+(dp.length:Int):=by exact (eO)▸Sj
  rw [num] at h3 h4 h5
  refine hC _ _ (bC fS ok.Q5 ok.Q0 ⟨aH ok.Kq,rfl⟩) (by rw [I.acc.len,gI];exact aaA Vc (by decide)) (bI (dp++[(i,(n,d))]) rest ⟨by rw [I.eq,aaW];rfl,I.rv.inv.2,fS,?_,?_,λi' y hy=>?_⟩)
  .rw [aaD,abe,c0,List.range_succ,aaL]
   exact (I.acc.imp λzz zz r=>j4.mono f2 rfl r).snoc ⟨rr,rfl,h2,h3⟩
  .rw [aaD,abe,<-aa9,pu]
   rw [show (3:Int)+(dp.length:Int)=((0:Nat):Int)+1+(2+dp.length:Nat) from Sw] at h4
   exact h4
  .show _=AO.dict (dt (fJ i' (cw (dp++[(i,(n,d))]))))
   rw [cw,aaL]
   show _=AO.dict (dt (fJ i' (cw dp++[(i,n)])))
   rw [fX]
   by_cases e:i=i'
   .rw [if_pos e,<-e]
    rw [<-e,hx] at hy
    rw [<-aay hy,cw,aaB]
    exact h5
   .rw [if_neg e]
    have Kn:=aaO hy
    exact f2.at (I.aD.lt (ok.ze y Kn)) (λq=>q.elim (aaN (ok.mc y Kn)) ((yw ok.ci.pw ok.R2 hy hx).2 (abm e))) (I.tb i' y hy)
 .have e:rest=[]:=by cases rest with
   | nil=>rfl
   | cons=>exact nomatch (I.rv)
  have eq:=I.eq
  rw [e,aaY] at eq
  refine cN λH2 f2 n2 e2=>h H2 _ acc (I.aD.tn f2) ⟨I.aD.le,n2▸aaC _⟩ e2 (eq▸I.acc.imp λzz zz r=>j4.mono f2 rfl r) (eq▸I.ms.mono f2 aV id id) λi x hx=>?_
  exact (eq)▸f2.keep (I.aD.lt (ok.ze x (aaO hx))) (I.tb i x hx)
theorem zJ {q:Int} {o:Ob} {tab:List (Int × Ob)}:tab.length<=(bR q o tab).length:=by
 induction tab with
 | nil=>exact abp _
 | cons e r ih=>
  show _<=List.length (bif decide (e.1=q) then _ else _)
  cases decide (e.1=q) with
  | true=>exact aaF _
  | false=>exact aa1 ih
theorem GD {tbl:List (Int × Int)} {tab:List (Int × Ob)} {l:List Int}:∀{M:List (Int × Ob)},M.length<=(wA tbl tab l M).length:=by
 induction l with
 | nil=>exact aaF _
 | cons n r ih=>
  refine λ{M}=>aaw (?_:_<=(ue tbl tab M n).length) ih
  unfold ue
  cases ae n tbl with
  | none=>exact aaF _
  | some q=>cases ah n tab with
   | none=>exact aaF _
   | some o=>exact zJ
structure KW extends AsC where
 N1:Nat
 kl:Nat
 pa:Nat
 ro:Nat
 ks:List AV
structure mM (c:KW):Prop extends fw c.toAsC where
 uI:∀D∈c.docs,DocOk D
 nV:c.pl.length+4*c.docs.length<=60
 rd:∀x∈c.pl,eI x.2.2/\x.2.2.length < 60
 n1:c.N1<=c.H.n
 nm:c.mt < c.N1
 nc:∀x∈c.gx,x.ct < c.N1
 FQ:c.kl < c.H.n
 Nq:c.H.g c.kl= .list c.ks
 UX:¬gY c.toAsC c.kl
 PO:L2 (LG c.H) c.ks (c0 c.pl.length)
 Ab:c.pa < c.H.n
 Gy:c.H.g c.pa=cJ 2
structure MJ (c:KW) (j:Nat) (aa:List (Int × Ob)) (E:List (Nat × Int)) (loc:Loc) (H:HP):Prop where
 aD:ai (gY c.toAsC) c.H H
 ms:MS (bw c.N1) H c.ms c.mt aa
 st:di c.docs c.pl j aa E
 tb:KA c.toAsC H (bN c.pl E)
 l0:loc "collectors"= .ref c.cl
 l1:loc "places"= .ref c.vu
 l2:loc "kids"= .ref c.kl
 l3:loc "parent"= .ref c.pa
 l4:loc "made"= .ref c.ms
 l5:loc "root"= .ref c.ro
theorem pN {n j:Nat} (h:j < n):(c0 n)[j]? =some (3+(j:Int)):=by rw [c0,abc,List.getElem?_range h];rfl
theorem mM.zone {c:KW} (ok:mM c) {a:Nat} (h:bw c.N1 a):¬gY c.toAsC a:=λq=>q.elim (λe=>aaP.mpr h (e▸ok.nm)) λq=>q.elim λx q=>aaP.mpr h (q.2▸ok.nc x q.1)
noncomputable def zX:SL:= .cons (.bR ["at","page"] (.idx (.loc "places") (.loc "spot"))) (.cons (.set "collector" (.idx (.loc "collectors") (.loc "at"))) (.cons (.set "fields" (.call "bare_page" (.o (.loc "page")))) (.cons (.expr (.ay (.loc "collector") "lay" (.o (.ay (.loc "collector") "take_needed" (.o (.loc "fields"))))))
 (.cons (.set "laid" (.call "renumbered" (.cons (.loc "fields") (.o (.fld (.loc "collector") "table"))))) (.cons (.b3 (.loc "laid") (.str "Parent") (.loc "parent")) (.o (.expr (.ay (.loc "made") "put" (.cons (.fld (.idx (.loc "kids") (.loc "spot")) "number") (.cons (.int 0) (.o (.loc "laid"))))))))))))
theorem xX {G:Nat->aj} {k:Nat} {loc:Loc} {H:HP} {C:KS} (m:aQ G) {c:KW} (ok:mM c) {j:Nat} {aa:List (Int × Ob)} {E:List (Nat × Int)} (hj:j < c.pl.length) (I:MJ c j aa E loc H)
  (h:∀aa E loc' H',MJ c (j+1) aa E loc' H'->C .next loc' H'):zX (G (k+8)) (loc.upd "spot" (.int j)) H C:=by
 obtain ⟨⟨i,n,d⟩,hp⟩:∃w,c.pl[j]? =some w:=⟨c.pl[j],aaR hj⟩
 have Qy:=aaO hp
 have hi:=ok.Gc _ Qy
 have hD:c.docs[i]? =some c.docs[i]:=aaR hi
 generalize c.docs[i]=D at hD
 have dk:=ok.uI D (aaO hD)
 have hd:eI d/\d.length < 60:=ok.rd _ Qy
 refine (ok.ci.co.get hD).elim λx hx=>(ok.wZ.get hp).elim λv hv=>bj hv.2 λp pb f z=>?_
 have hx:=hx.1
 have DM:=aaO hx
 have pg:Ke c.P H p pb f (n,d):=z.2.mono I.aD ok.keep
 have ze:=I.aD.lt (ok.ze x DM)
 have TC:=ok.mc x DM
 have Sf:=aaz ok.hN ok.x5
 have KH:sw ⟨x.c,x.s,c.ms,x.ct,x.b,c.mt,bw c.N1⟩:=⟨λy hy=>aaN (aax ok.nm hy),λy hy=>aaN (aax (ok.nc x DM) hy),aaJ ok.x5,aaJ (aaA ok.x5 TC),aaJ TC⟩
 have sub:∀a,mY c.mt x.ct a->gY c.toAsC a:=λa q=>q.imp id λq=>⟨x,DM,q⟩
 have zP:∀y,c.P y->¬mY c.mt x.ct y:=λy hy q=>(ok.keep (H:=H) y (I.aD.lt (aaA (ok.hP y hy) (aaA Sf ok.Je))) hy).1 (sub _ q)
 have lo:∀{a},a < c.N0->¬mY c.mt x.ct a:=λha q=>q.elim (λe=>Nat.lt_asymm Sf (e▸ha)) λe=>Nat.lt_asymm (aaA Sf TC) (e▸ha)
 have O5:∀{a},H.n<=a->¬mY c.mt x.ct a:=λha q=>q.elim (λe=>aaP.mpr ha (e▸I.ms.ma)) λe=>aaP.mpr ha (e▸ze)
 refine ak I.l1 (ad (I.aD.at ok.Q5 ok.Q0 ok.Kq) (dE (v:=v) hv.1 (z.1▸ak I.l0 (ad (I.aD.at ok.RH ok.RY ok.MN) (dE (v:=AV.ref x.c) (by rw [Int.toNat_natCast,abc,hx];rfl) (Mu m pg.lt pg.at_ pg.rf (aax hd.2 (by decide)) λH2 fa f2 qw rb=>?_))))))
 have JK:=(ok.co I.aD hx hD).mono f2 aV (λzz q=>q.elim) id
 refine ad JK.at_ (ad JK.at_ (KC m (C:=⟨x.c,x.s,c.ms,x.ct,x.b,c.mt,bw c.N1⟩) ⟨KH,JK.rs,JK.bar,zP,lo JK.ls,lo JK.lt,λq=>ok.bar DM (sub _ q),JK.lc,JK.at_,f2.lt ze,f2.keep ze (I.tb i x hx),I.st.tbl ok.uI ok.nV,(I.ms.mono f2 aV id id),dk.ok,dk.free,(λfr nd qi=>I.st.room ok.uI ok.nV hD (fr:=fr) nd qi)⟩ rb ⟨aaz (jR d) (aax (abv hd.2) (by decide)),tG hd.1⟩ λH3 ra fr f3 h1 h2 h3 My SG nd qi=>?_))
 have D4:=(I.aD.tn f2).tr (f3.weak λa zz=>sub a)
 have Nj:=ok.co D4 hx hD
 have Sr:=f3.lt (f2.lt ze)
 have yS:(aa++cu aa.length fr.length).length=aa.length+fr.length:=by rw [aaD,eO]
 refine Qr m ⟨Nj.rs,dk.ok,Nj.lc,Nj.at_,Sr,SG,λy hy e=>zP y hy (.inl e),λe=>lo Nj.ls (.inl e),λe=>lo Nj.lt (.inl e),KH.zm,λy hy=>aaw ok.n1 (aaw D4.le hy),KH.d1,abm KH.d3,My⟩ h2 ((λha e=>O5 ha (.inl e)) (aaw f2.le h1)) h3 (λy hy=>?_) λH4 f4 NT=>?_
 .have g:=(qi y).mp hy
  obtain ⟨o,ho⟩:=aa7.mp (show (ah y D.tab).isSome=true from g.2.2.1)
  obtain ⟨q,hq⟩:=aa7.mp (je.trans (decide_eq_true hy):(ae y (gj fr ((aa.length:Int)+1))).isSome=true)
  have b:=vS (Bx hq)
  refine (bI q o ⟨by rw [cc,g.2.1,hq];rfl,?_,ho⟩)
  rw [yS,Int.natCast_add]
  exact ⟨abd (Int.le_add_of_nonneg_left (aa0 _)) b.1,Int.lt_add_one_iff.mp (Int.add_right_comm .. ▸b.2)⟩
 have Em:=D4.tr (f4.weak λa zz q=>Or.inl q)
 refine ad (ok.co Em hx hD).at_ (sM m ((rb.mono f3 (show cX (mY c.mt x.ct) (bh c.P H.n) (λy=>y≠c.mt) H2 from λa zz q=>q.elim (λq=>⟨zP a q,λe=>zP a q (.inl e)⟩) λq=>⟨O5 q,λe=>O5 q (.inl e)⟩)).mono f4 (P':=λy=>y≠c.mt) λa zz q=>⟨q,q⟩) ⟨aaz (jR d) (aax (abv hd.2) (by decide)),tG hd.1⟩ (f4.lt Sr) (f4.ne Sr SG (abm KH.d3)) λH5 la f5 Kv rl=>ak I.l3 (rl.set (va:= .at (.ref 2)) ⟨_,rfl,(Em.tn f5).lt ok.Ab,(Em.tn f5).fix ok.Ab ok.Gy rfl⟩ (aaz (aaw y6 (jR d)) (aax (abv hd.2) (by decide))) λH6 f6 n6 XN=>?_))
 have IV:ai aJ H4 H6:=f5.up f6 Kv
 have Nh:=Em.tn IV
 have Xd:=NT.mono IV aV id id
 refine (ok.PO.get (pN hj)).elim λkv q=>?_
 refine Xd.ins.elim λX8 e6=>ak I.l4 (ad e6 (ak I.l2 (ad (Nh.at ok.FQ ok.UX ok.Nq) (dE (v:=kv) q.1 ((q.2.mono Nh rfl).elim λa q=>q.1▸ad q.2.2 (sY (Z:=bw c.N1) m KH.zm KH.d1 Xd ⟨?_,?_⟩ (o:= .dict (dR _ d)) ⟨la,rfl,XN.fG _ λy zz hy=>aaw (aaw ok.n1 Em.le) hy⟩ λH7 f7 zz YB=>?_))))))
 .exact abd (by decide) (Int.le_add_of_nonneg_right (aa0 j))
 .refine abd (?_:_<=(aa.length:Int)) (Int.ofNat_le.mpr (aaw (yS▸aaM ..) GD))
  have:=I.st.len
  exact UP hj this
 have Vz:ai (atS c.mt) H3 H7:=(f4.tn IV).tr f7
 refine h _ (E++fr.map λn=>(i,n)) _ H7 ⟨D4.tr (Vz.weak λa zz q=>Or.inl q),YB,(I.st.step dk hp hD hd.1 hd.2 nd qi),λi' y hy=>?_,I.l0,I.l1,I.l2,I.l3,I.l4,I.l5⟩
 have Kn:=aaO hy
 refine Vz.ne (D4.lt (ok.ze y Kn)) ?_ (aaN (ok.mc y Kn))
 by_cases e:i'=i
 .rw [e] at hy ⊢
  obtain rfl:=aay (hx.symm.trans hy)
  rw [oU,show 3+(c.pl.length:Int)+E.length=(aa.length:Int)+1 by rw [I.st.len];exact Tv]
  exact SG
 .rw [rZ (abm e)]
  have yn:=I.aD.lt (ok.ze y Kn)
  exact f3.at (f2.lt yn) (λq=>q.elim (aaN (ok.mc y Kn)) ((yw ok.ci.pw ok.R2 hy hx).2 e)) (f2.keep yn (I.tb i' y hy))
theorem D7 {tg:Tg} {b:PS} {loc:Loc} {H:HP} {QS:KS} {n:Nat} (hn:n<=lim) (J:Nat->Loc->HP->Prop) (step:∀j,j < n->∀loc H (C:KS),J j loc H->(∀loc' H',J (j+1) loc' H'->C .next loc' H')->R9 C QS->opt (fT tg (.int j) loc) (M2 b H C))
  (h0:J 0 loc H) (hQ:∀loc H,J n loc H->QS .next loc H):xJ tg .aE b loc QS [.int n] H:=by
 have go:∀k j loc H,j+k=n->J j loc H->lG b tg (cy (.Gm n) (aN 0 n) 0) ((List.range' j k).map λ(i:Nat)=>AV.int (0+(i:Int))) loc H QS:=by
  intro k
  induction k with
  | zero=>exact λj loc H e h=>hQ loc H (e▸h)
  | succ k ih=>
   refine λj loc H e h=>?_
   rw [abD,aa4,Int.zero_add]
   exact step j (e▸abl (Nat.succ_pos k)) loc H _ h (λloc' H' h'=>⟨⟨rfl,rfl⟩,ih (j+1) loc' H' (by rw [<-e,aa9,abg 1]) h'⟩) λzz zz zz q=>q
 refine Lr (Nat.ble_eq.mpr hn) (dE (v:=aN 0 n) rfl ?_)
 have:=go n 0 loc H (abE n) h0
 rw [<-List.range_eq_range'] at this
 exact (show aN 0 n=(List.range n).map λ(i:Nat)=>AV.int (0+(i:Int)) by unfold aN;rw [Int.sub_zero];rfl)▸this
theorem gX {P P':Nat->Prop} {H:HP} {Q:KV} {ks:List String} {vv:List AV} {d:Di} (l:L2 (RE P H) ((ks.map .str).zip vv) d) (nd:(d.map (·.1)).Nodup) (z:P' H.n) (hz:∀a,a < H.n->P a->P' a) (h:∀H',ai aJ H H'->H'.n=H.n+1->RD P' H' H.n d->Q (.ref H.n) H'):C1 ks Q vv H:=by
 unfold C1
 exact ((show cW ((ks.map .str).zip vv)=(ks.map .str).zip vv from kR (es:=[]) (y8 l nd))).symm▸cN λH' f n e'=>h H' f n (.fresh (n▸aaC _) z e' (l.imp λzz zz r=>r.mono f λa la ha=>⟨id,hz a la ha⟩) nd)
noncomputable def jS (n:Nat):Di:=[("Type",.at (.name "Pages")),("Kids",.arr ((c0 n).map At.ref)),("Count",.at (.int n))]
noncomputable def sV:Di:=[("Type",.at (.name "Catalog")),("Pages",.at (.ref 2))]
structure eZ (docs:List Doc) (pl:Pl) (aa:List (Int × Ob)) (E:List (Nat × Int)):Prop extends di docs pl pl.length aa E where
 lt:aa.length < 64
 root:ah 1 aa=some (.dict sV)
 node:ah 2 aa=some (.dict (jS pl.length))
theorem Il {n:Nat} (h:n<=60):de (.dict (jS n)):=⟨(by decide:3 < 64),λx hx=>(aaH.mp hx).elim (λe=>e▸⟨nofun,trivial⟩) λhx=>(aaH.mp hx).elim (λe=>e▸⟨nofun,by show List.length _ < 1000;rw [aaB,gI];exact aaz h (by decide)⟩) λhx=>aaK.mp hx▸⟨nofun,trivial⟩⟩
theorem L9:de (.dict sV):=⟨by decide,λx hx=>(aaH.mp hx).elim (λe=>e▸⟨nofun,trivial⟩) λhx=>aaK.mp hx▸⟨nofun,trivial⟩⟩
theorem Ie {q:Int} {o:Ob} {tab:List (Int × Ob)} (num:tab.map (·.1)=(List.range tab.length).map λ(i:Nat)=>(i:Int)+1) (h:1<=q/\q<=tab.length):(bR q o tab).length=tab.length:=aaB (as:=tab) (·.1)▸eR (o:=o) ((bD num).mpr h)▸(aaB _).symm
theorem di.put {docs:List Doc} {pl:Pl} {j:Nat} {aa:List (Int × Ob)} {E:List (Nat × Int)} (st:di docs pl j aa E) {q:Int} {o:Ob} (h1:1<=q) (h2:q < 3) (ho:de o):di docs pl j (bR q o aa) E:=by
 have hq:1<=q/\q<=aa.length:=⟨h1,by have:=st.len;exact abd (Int.le_of_lt_add_one (b:=2) h2) (wV (a:=2) (aaw (aaM 2 _) (aaw (aaM _ _) (aaS this.symm))))⟩
 have lk:∀k:Nat,ah (3+(k:Int)) (bR q o aa)=ah (3+(k:Int)) aa:=λk=>by rw [cA,if_neg (Int.ne_of_lt (Int.lt_of_lt_of_le h2 (Int.le_add_of_nonneg_right (aa0 _))))]
 have len:=Ie (o:=o) st.num hq
 refine ⟨(eR ((bD st.num).mpr hq)).trans (len▸st.num),len.trans st.len,st.nd,λk i n e=>(st.ents k i n e).imp λD z=>z.imp λo' z=>⟨z.doc,z.src,z.bs,?_,z.why⟩,λj' i n d hj hp=>(st.done j' i n d hj hp).imp_left (lk _).trans,λw hw=>(pz hw).elim (λe=>e▸ho) (st.Jp w)⟩
 have:=lk (pl.length+k)
 rw [Int.natCast_add,<-Int.add_assoc] at this
 exact this.trans z.at_
theorem di.fin {docs:List Doc} {pl:Pl} {aa:List (Int × Ob)} {E:List (Nat × Int)} (st:di docs pl pl.length aa E) (hl:aa.length < 64) (gy:pl.length<=60):eZ docs pl (bR 1 (.dict sV) (bR 2 (.dict (jS pl.length)) aa)) E:=by
 have s1:=(st.put (q:=2) (by decide) (by decide) (Il gy)).put (q:=1) (by decide) (by decide) L9
 exact ⟨s1,by rw [s1.len,<-st.len];exact hl,by rw [cA,if_pos rfl],by rw [cA,if_neg (by decide),cA,if_pos rfl]⟩
noncomputable def AsC.on (c:AsC) (H:HP):AsC:=⟨c.P,H,c.ms,c.mt,c.cl,c.vu,c.lo,c.N0,c.docs,c.gx,c.ps,c.pl⟩
theorem fw.on {c:AsC} (ok:fw c) {H:HP} (f:ai (gY c) c.H H):fw (c.on H):=
 ⟨f.lt ok.RH,f.at ok.RH ok.RY ok.MN,⟨(ok.ci.co.flip.wm.imp λD x r=>r.1.mono f ok.keep ok.Q8 (ok.bar r.2)).flip,ok.ci.pw⟩,ok.VB,ok.x5,ok.hN,ok.RY,ok.Q0,f.lt ok.Je,f.lt ok.Q5,f.at ok.Q5 ok.Q0 ok.Kq,ok.wZ.imp λzz zz r=>r.mono f ok.keep,ok.gy,ok.Gc,ok.hP⟩
theorem wR {G:Nat->aj} {k:Nat} {loc:Loc} {QS:KS} (m:aQ G) {c:KW} (ok:mM c) {aa:List (Int × Ob)} {E:List (Nat × Int)} (I:MJ c 0 aa E loc c.H)
  (h:∀aa E loc' H',MJ c c.pl.length aa E loc' H'->QS .next loc' H'):S.bX (.nm "spot") .aE (XL.o (.prim "len" (.o (.loc "places")))) zX (G (k+8)) loc c.H QS:=by
 refine ak I.l1 (ad ok.Kq ?_)
 refine (?_:xJ (.nm "spot") .aE (zX (G (k+8))) loc QS [.int c.ps.length] c.H)
 exact (ok.wZ.len)▸D7 (aaw ok.gy (by decide)) (λj loc H=>∃aa E,MJ c j aa E loc H) (λj hj loc' H' C J hC zz=>aq J λaa E J=>xX m ok hj J λaa E Ic H2 I2=>hC Ic H2 (bI aa E I2)) (bI aa E I) λloc' H' J=>aq J λaa E J=>h aa E loc' H' J
noncomputable def Uq (P:Nat->Prop) (H:HP) (v:AV) (D:Doc):Prop:=∃s t,v= .ref s/\RS P H s t D.tab D.tr
structure Th (P:Nat->Prop) (H:HP) (shl vu:Nat) (docs:List Doc) (ss ps:List AV) (pl:Pl):Prop where
 uI:∀D∈docs,DocOk D
 Cq:shl < H.n
 es:H.g shl= .list ss
 hs:L2 (Uq P H) ss docs
 gy:vu < H.n
 Kq:H.g vu= .list ps
 wZ:L2 (GP P H) ps pl
 nV:pl.length+4*docs.length<=60
 rd:∀x∈pl,x.1 < docs.length/\eI x.2.2/\x.2.2.length < 60
noncomputable def Mj (docs:List Doc) (pl:Pl) (H:HP) (Q:KV):Prop:=∀H' ms mt aa E,ai aJ H H'->H.n<=ms->RS (bw H.n) H' ms mt aa [("Root",.at (.ref 1))]->eZ docs pl aa E->Q (.ref ms) H'
noncomputable def uA:S:= .expr (.ay (.loc "made") "put" (.cons (.fld (.loc "parent") "number") (.cons (.int 0) (.o (.dict ["Type","Kids","Count"] (.cons (.new "Name" (.o (.str "Pages"))) (.cons (.prim "list" (.o (.loc "kids"))) (.o (.prim "len" (.o (.loc "kids")))))))))))
noncomputable def wn:S:= .expr (.ay (.loc "made") "put" (.cons (.fld (.loc "root") "number") (.cons (.int 0) (.o (.dict ["Type","Pages"] (.cons (.new "Name" (.o (.str "Catalog"))) (.o (.loc "parent"))))))))
noncomputable def Ed:S:= .dQ (.loc "made") "trailer" (.dict ["Root"] (.o (.loc "root")))
section
variable {G:Nat->aj} {H:HP} {Q:KV} {QS:KS} {k:Nat} {P:Nat->Prop} {c:KW} {loc:Loc} {aa:List (Int × Ob)}
structure Ek (c:KW) (aa:List (Int × Ob)) (loc:Loc) (H:HP):Prop where
 aD:ai (gY c.toAsC) c.H H
 ms:MS (bw c.N1) H c.ms c.mt aa
 l2:loc "kids"= .ref c.kl
 l3:loc "parent"= .ref c.pa
 l4:loc "made"= .ref c.ms
 l5:loc "root"= .ref c.ro
theorem mM.zm (ok:mM c):∀x,bw c.N1 x->x≠c.mt:=λzz hy=>aaN (aax ok.nm hy)
theorem mM.le (ok:mM c) (f:ai (gY c.toAsC) c.H H):bw c.N1 H.n:=aaw ok.n1 f.le
theorem IN (m:aQ G) (ok:mM c) (I:Ek c aa loc H) (hl:2<=aa.length) (h:∀H',Ek c (bR 2 (.dict (jS c.pl.length)) aa) loc H'->QS .next loc H'):uA (G (k+2)) loc H QS:=by
 refine I.ms.ins.elim λtr e=>ak I.l4 (ad e (ak I.l3 (ad (I.aD.fix ok.Ab ok.Gy rfl) (gc m λH1 f1 n1 e1=>ak I.l2 (ad ((I.aD.tn f1).at ok.FQ ok.UX ok.Nq) (cN λH2 f2 n2 e2=>ak I.l2 (ad (((I.aD.tn f1).tn f2).at ok.FQ ok.UX ok.Nq) ?_)))))))
 have f:=(I.aD.tn f1).tn f2
 have kl:=ok.PO.len
 rw [gI] at kl
 have l1:H.n < H1.n:=n1▸aaC _
 have l2:H1.n < H2.n:=n2▸aaC _
 refine gX (P':=bw c.N1) (d:=jS c.pl.length) (P:=bw c.N1) (.cons ⟨rfl,H.n,rfl,aaA l1 l2,f2.keep l1 e1⟩ (.cons ⟨rfl,H1.n,c.ks,rfl,⟨l2,ok.le (I.aD.tn f1)⟩,e2,L2.yc (r:=RA H2) (ok.PO.imp λzz zz r=>j4.mono f rfl r)⟩ (.cons ⟨rfl,congrArg (λ(n:Nat)=>AV.int n) kl⟩ .nil))) (by decide:["Type","Kids","Count"].Nodup) (ok.le f) (λzz zz h=>h) λH3 f3 n3 r3=>?_
 have f3:=(f1.tr f2).tr f3
 exact sY m ok.zm (aaJ ok.x5) (I.ms.mono f3 aV id id) ⟨by decide,Int.ofNat_le.mpr hl⟩ (o:= .dict (jS c.pl.length)) ⟨_,rfl,r3⟩ λH4 f4 zz NT=>h H4 ⟨(I.aD.tn f3).tr (f4.weak λzz zz q=>Or.inl q),NT,I.l2,I.l3,I.l4,I.l5⟩
theorem IG (m:aQ G) (ok:mM c) (hr:j4 c.H (.ref c.ro) (cJ 1)) (I:Ek c aa loc H) (hl:2<=aa.length) (h:∀H',Ek c (bR 1 (.dict sV) aa) loc H'->QS .next loc H'):wn (G (k+2)) loc H QS:=by
 refine (hr.mono I.aD rfl).elim λro q=>I.ms.ins.elim λtr e=>ak I.l4 (ad e (ak I.l5 (q.1▸ad q.2.2 (gc m λH1 f1 n1 e1=>ak I.l3 ?_))))
 have f:=I.aD.tn f1
 refine gX (P':=bw c.N1) (d:=sV) (P:=bw c.N1) (.cons ⟨rfl,H.n,rfl,n1▸aaC _,e1⟩ (.cons ⟨rfl,c.pa,rfl,f.lt ok.Ab,f.fix ok.Ab ok.Gy rfl⟩ .nil)) (by decide) (ok.le f) (λzz zz h=>h) λH3 f3 n3 r3=>?_
 have f3:=f1.tr f3
 exact sY m ok.zm (aaJ ok.x5) (I.ms.mono f3 aV id id) ⟨by decide,Int.ofNat_le.mpr (Nat.le_of_succ_le hl)⟩ (o:= .dict sV) ⟨_,rfl,r3⟩ λH4 f4 zz NT=>h H4 ⟨(I.aD.tn f3).tr (f4.weak λzz zz q=>Or.inl q),NT,I.l2,I.l3,I.l4,I.l5⟩
theorem PK (ok:mM c) (hr:j4 c.H (.ref c.ro) (cJ 1)) (I:Ek c aa loc H) (hZ:c.ms < c.N1) (h:∀H' H2,ai (gY c.toAsC) c.H H'->ai (atS c.ms) H' H2->RS (bw c.N1) H2 c.ms c.mt aa [("Root",.at (.ref 1))]->QS .next loc H2):Ed (G k) loc H QS:=by
 refine ak I.l5 (gX (P':=bw c.N1) (d:=[("Root",.at (.ref 1))]) (P:=bw c.N1) (.cons ⟨rfl,hr.mono I.aD rfl⟩ .nil) (by decide) (ok.le I.aD) (λzz zz h=>h) λH1 f1 n1 r1=>?_)
 have KR:=I.ms.mono f1 (P':=bw c.N1) aV id id
 refine ak I.l4 (KR.ins.elim λtr e=>ad e (m6 e λH2 f2 n2 e2=>?_))
 have kp:cX (atS c.ms) (bw c.N1) (bw c.N1) H1:=λa zz z=>⟨λq=>aaP.mpr z ((show a=c.ms from q)▸hZ),z⟩
 exact h H1 H2 (I.aD.tn f1) f2 ⟨n2▸KR.lt,n2▸KR.ma,⟨_,e2,r1.mono f2 kp⟩,KR.tb.imp λes z=>⟨f2.ne KR.ma z.1 (aaN ok.x5),z.2.imp λzz zz r=>r.mono f2 kp⟩,KR.num,KR.len⟩
noncomputable def LK:SL:= .cons (.bX (.nm "spot") .aE (.o (.prim "len" (.o (.loc "places")))) zX) (.cons uA (.cons wn (.cons Ed (.o (.ret (.loc "made"))))))
theorem Hw (m:aQ G) (ok:mM c) (hr:j4 c.H (.ref c.ro) (cJ 1)) (hZ:c.ms < c.N1) (I:MJ c 0 aa [] loc c.H)
  (h:∀H' H2 aa E,ai (gY c.toAsC) c.H H'->ai (atS c.ms) H' H2->RS (bw c.N1) H2 c.ms c.mt aa [("Root",.at (.ref 1))]->eZ c.docs c.pl aa E->Q (.ref c.ms) H2):LK (G (k+8)) loc c.H (eF Q):=by
 refine wR m ok I λmt E XU H6 I6=>?_
 have l2:2<=mt.length:=I6.st.len▸aaw (aaM 2 c.pl.length) (aaM _ _)
 refine IN m ok ⟨I6.aD,I6.ms,I6.l2,I6.l3,I6.l4,I6.l5⟩ l2 λH7 I7=>IG m ok hr I7 (aaw l2 zJ) λH8 I8=>PK ok hr I8 hZ λH9 WJ f1 f2 rs=>ak I8.l4 ?_
 exact h H9 WJ _ E f1 f2 rs (I6.st.fin I6.ms.len ok.gy)
theorem mo (m:aQ G) {shl vu:Nat} {docs:List Doc} {ss ps:List AV} {pl:Pl} (B:Th P H shl vu docs ss ps pl) (h:Mj docs pl H Q):G (k+9) "assembled" [.ref shl,.ref vu] H Q:=by
 refine m.run 39 rfl rfl rfl (qW m λH1 mt r f1 h1 g1 g2 zz=>ad g1 ?_)
 refine ub m (λzz q=>q.elim) (aaJ h1.1) (show MS aJ H1 H.n mt [] from ⟨aaA h1.1 (aaA h1.2.1 h1.2.2),aaA h1.2.1 h1.2.2,⟨_,g1⟩,⟨[],g2,.nil⟩,rfl,by decide⟩) (by decide) λH2 ro f2 zz h2 e2 VA=>VA.ins.elim λr2 g2=>ad g2 (ub m (λzz q=>q.elim) (aaJ h1.1) VA (by decide) λH3 pa f3 zz h3 e3 My=>?_)
 have JJ:=(f1.up f2 (aaI h1.1)).up f3 (aaI h1.1)
 refine Bn m B.uI (JJ.lt B.Cq) (JJ.keep B.Cq B.es) (P:=js P H.n) (hi:=H.n) (lo:=H3.n) (ms:=H.n) (B.hs.imp λv D r=>r.imp λs r=>r.imp λt r=>⟨r.1,⟨r.2.lt,r.2.ma⟩,r.2.mono JJ (λa ha h=>⟨id,h,ha⟩) id id⟩) (aaz (aaw (Nat.le_mul_of_pos_left _ (by decide)) (aaw (abn ..) B.nV)) (by decide)) (aaF _) rfl λH4 cl gx f4 nu MN ci UK=>?_
 have Av:=JJ.tr f4
 have n0:H.n < H3.n:=My.lt
 have Je:mt < H3.n:=My.ma
 have c2:∀x∈gx,cl≠x.ct:=λx hx e=>nomatch (MN.symm.trans (e▸(UK x hx).1):AO.list _=AO.dict _)
 have ok:fw ⟨js (js P H.n) H3.n,H4,H.n,mt,cl,vu,H3.n,H.n,docs,gx,ps,pl⟩:=⟨nu.2,MN,ci,Je,h1.1,aaF _,λq=>q.elim (aaN (aax Je nu.1)) λq=>q.elim λx q=>c2 x q.1 q.2,λq=>q.elim (aaJ (aaA B.gy h1.1)) λq=>q.elim λx q=>(λx hx=>aaJ (aax (aaA B.gy n0) (UK x hx).2)) x q.1 q.2,f4.lt Je,Av.lt B.gy,Av.keep B.gy B.Kq,B.wZ.imp λv x r=>r.mono Av λa ha z=>⟨id,⟨z,ha⟩,aaA ha n0⟩,aaw (aaM ..) B.nV,λx hx=>(B.rd x hx).1,λa z=>z.1.2⟩
 refine Be m ok (My.mono f4 (λzz zz q=>q.elim) id id) (λx hx=>(UK x hx).1) rfl λH5 kl ks f5 UI Nq PO XT Yb=>?_
 have Rj:=f4.no.tr f5
 refine Hw (c:=⟨AsC.on ⟨js (js P H.n) H3.n,H4,H.n,mt,cl,vu,H3.n,H.n,docs,gx,ps,pl⟩ H5,H4.n,kl,pa,ro,ks⟩) m ⟨ok.on f5,B.uI,B.nV,λx hx=>(B.rd x hx).2,f5.le,f4.lt Je,ok.ze,UI.2,Nq,(λha q=>aaP.mpr ha (ok.O5 _ q)) UI.1,PO,Rj.lt h3,Rj.fix h3 e3 rfl⟩ ⟨ro,rfl,Rj.lt (f3.lt h2),Rj.fix (f3.lt h2) (f3.fix h2 e2 rfl) rfl⟩ (f4.lt n0)
  ⟨.refl,XT,.init,λi x hx=>(Yb i x hx).trans (congrArg (λl=>AO.dict (dt l)) (aaY _).symm),rfl,rfl,rfl,rfl,rfl,rfl⟩ λH6 H7 aa E f6 f7 rs ao=>?_
 refine h H7 H.n mt aa E ((Av.trans (f5.tr f6) λa ha q=>Nat.not_le.mpr ha (ok.Q8 a q)).up f7 (aaF _)) (aaF _) ⟨rs.lt,rs.ma,rs.ins.imp λzz z=>⟨z.1,z.2.fG _ ?_⟩,rs.tb.imp λzz z=>⟨z.1,z.2.imp λzz zz r=>r.mono (.refl:ai aJ H7 H7) ?_⟩,rs.num,rs.len⟩ ao
 .exact λx zz z=>aaw Av.le z
 .exact λx zz z=>⟨id,aaw Av.le z⟩
end
noncomputable def gT (i:Nat) (D:Doc):Pl:=(ar D.sp).map λp=>(i,p)
noncomputable def b0:Nat->List Doc->Pl
 | _,[]=>[]
 | i,D::r=>gT i D++b0 (i+1) r
noncomputable def rD (docs:List Doc):Pl:=b0 0 docs
theorem oJ {a b:List Doc}:∀{i:Nat},b0 i (a++b)=b0 i a++b0 (i+a.length) b:=by
 induction a with
 | nil=>exact rfl
 | cons D r ih=>
  intro i
  show gT i D++b0 (i+1) (r++b)=(gT i D++b0 (i+1) r)++b0 (i+(r.length+1)) b
  rw [ih,aaW,aa9,abg 1]
theorem jL {x:Nat × (Int × Di)} {docs:List Doc}:∀{i:Nat},x∈b0 i docs->∃j D,x.1=i+j/\docs[j]? =some D/\x.2∈ar D.sp:=by
 induction docs with
 | nil=>exact λh=>(aaU h).elim
 | cons D r ih=>
  refine λ{i} h=>(aa6.mp h).elim (λh=>(aaG.mp h).elim λp z=>(bI 0 D ⟨z.2▸rfl,rfl,z.2▸z.1⟩)) λh=>(ih h).elim λj z=>⟨j+1,z.imp λD' z=>⟨z.1.trans (by rw [aa9,abg 1]),z.2⟩⟩
theorem fA {docs:List Doc} {j:Nat} {D:Doc} (h:docs[j]? =some D):b0 0 (docs.take (j+1))=b0 0 (docs.take j)++gT j D:=by
 rw [jf h,oJ,List.length_take,Nat.min_eq_left (aaI (aaZ.mp h).1),abE]
 exact congrArg _ (aaY _)
theorem rt {docs:List Doc} {j:Nat}:(b0 0 (docs.take j)).length<=(rD docs).length:=by
 have:rD docs=b0 0 (docs.take j++docs.drop j):=congrArg (b0 0) (List.take_append_drop ..).symm
 rw [this,oJ,aaD]
 exact aaM ..
theorem G5 {β:Type} {r:AV->β->Prop} {body:PS} {QS:KS} {tg:Tg} {src:HP->Prop} (J:List β->Loc->HP->Prop) {all:List β} (hs:∀{d loc H},J d loc H->src H)
  (step:∀v w d rest,all=d++w::rest->r v w->∀loc H (C:KS),J d loc H->(∀loc' H',J (d++[w]) loc' H'->C .next loc' H')->R9 C QS->opt (fT tg v loc) (M2 body H C)) {vs:List AV} {ws:List β} (l:L2 r vs ws):
  ∀{d:List β} {loc:Loc} {H:HP},all=d++ws->J d loc H->(∀loc' H',J all loc' H'->QS .next loc' H')->lG body tg src vs loc H QS:=by
 induction l with
 | nil=>exact λe j hQ=>hQ _ _ ((e.trans (aaY _))▸j)
 | cons rv _ ih=>exact λe j hQ=>step _ _ _ _ e rv _ _ _ j (λloc' H' j'=>⟨hs j',ih (e.trans (aaW _ [_] _).symm) j' hQ⟩) λzz zz zz q=>q
theorem Bz {α:Type} {l:List α}:l.filter (λzz=>false)=[]:=by induction l with
 | nil=>rfl
 | cons _ _ ih=>exact ih
noncomputable def Am (D:Doc):Prop:=∀p∈ar D.sp,eI p.2/\p.2.length < 60
section
variable {G:Nat->aj} {H H':HP} {Q:KV} {QS:KS} {k:Nat} {P:Nat->Prop} {loc:Loc}
theorem dV.mn {v:AV} {x:Int × Di} (f:ai aJ H H') (r:dV P H v x):dV P H' v x:=dV.mono f aV r
noncomputable def wy (P:Nat->Prop) (n:Nat):Nat->Prop:=λx=>js P n x\/n < x
theorem qb {n:Nat} {H:HP}:cX (atS n) (wy P n) (wy P n) H:=λx zz h=>⟨h.elim (λh=>aaJ h.2) λh=>aaN h,h⟩
structure WT (P:Nat->Prop) (n shl:Nat) (H:HP) (pl:Pl) (loc:Loc) (H':HP):Prop where
 aD:ai aJ H H'
 lt:n < H'.n
 ex:∃ps,H'.g n= .list ps/\L2 (GP (wy P n) H') ps pl
 l0:loc "shelves"= .ref shl
 l1:loc "places"= .ref n
theorem FM (m:aQ G) {shl:Nat} {docs:List Doc} {ss:List AV} (uI:∀D∈docs,DocOk D) (Cq:shl < H.n) (es:H.g shl= .list ss) (hs:L2 (Uq P H) ss docs) (nV:(rD docs).length+4*docs.length<=60) (PE:∀D∈docs,Am D)
  (h:Mj docs (rD docs) H Q):G (k+10) "merged" [.ref shl] H Q:=by
 refine m.run 40 rfl rfl rfl (cN λH1 f1 n1 e1=>ad (f1.keep Cq es) ?_)
 refine (congrArg (λ(n:Nat)=>xJ (.nm "at") .aE _ _ _ [.int n] H1) hs.len).mpr ?_
 refine D7 (aaw (aaI (aax (aaz ((Nat.le_of_mul_le_mul_left (c:=4) (b:=15) (aaw (abn _ _) nV) (by decide)):docs.length<=(60:Nat) / 4) (by decide)) (aaF 60))) (by decide)) (λj=>WT P H.n shl H (b0 0 (docs.take j))) (λj hj loc' H' C I hC zz=>?_) ⟨f1,(n1▸aaC _),⟨[],e1,.nil⟩,rfl,rfl⟩ λloc' H' I=>?_
 .have hD:docs[j]? =some docs[j]:=aaR hj
  generalize docs[j]=D at hD
  have dk:=uI D (aaO hD)
  have Qj:=rt (docs:=docs) (j:=j+1)
  rw [fA hD,aaD] at Qj
  refine (hs.get hD).elim λv q=>aq q.2 λs t z=>ak I.l0 (ad (I.aD.keep Cq es) (dE (v:=v) q.1 (z.1▸jJ m (z.2.mono I.aD (P':=js P H.n) (λa ha h=>⟨id,h,ha⟩) id id) dk.tree dk.ok λH2 a vs f2 h1 h2 h3 h4=>dE (aH h3) ?_)))
  refine G5 (d:=[]) (all:=ar D.sp) (λd IJ H3=>(ai (atS H.n) H2 H3/\IJ "at"= .int j)/\WT P H.n shl H (b0 0 (docs.take j)++d.map λp=>(j,p)) IJ H3) (λJ=>bC J.1.1 h2 (aaN (aax I.lt h1)) ⟨aH h3,rfl⟩) (λv w d rest e rv IJ H3 C3 J YX zz=>?_) (show L2 (dV (wy P H.n) H2) vs (ar D.sp) from h4.imp λzz zz r=>dV.mono (.refl:ai aJ H2 H2) (λx zz h=>⟨id,h.imp id λh=>aax I.lt h⟩) r) rfl ⟨⟨.refl,rfl⟩,(I.aD.tr f2),f2.lt I.lt,I.ex.imp λps e=>⟨f2.keep I.lt e.1,?_⟩,I.l0,I.l1⟩ λIJ H3 J=>hC _ _ ((fA hD).symm▸J.2)
  .have I:=J.2
   have m8:=J.1.1
   refine rv.elim λpa z=>I.ex.elim λps ep=>aq z λpb fa z=>z.1▸ak (v:= .ref H.n) I.l1 (ad ep.1 (ak (v:= .int j) J.1.2 (ad ep.1 ⟨?_,m6 ep.1 λH4 f4 n4 e4=>?_⟩)))
   .have z3:=congrArg List.length e
    rw [aaD,aa2] at z3
    rw [ep.2.len,aaD,aaB]
    exact aaz ((zF (aaQ (aaQ nV Qj) (aaQ (aaS z3.symm) (aaS (show (gT j D).length=(ar D.sp).length from aaB _).symm))) (by simp+arith)):_<=60) (by decide)
   .refine YX _ H4 ⟨⟨m8.tr f4,J.1.2⟩,I.aD.up f4 (aaF _),f4.lt I.lt,⟨_,e4,?_⟩,I.l0,I.l1⟩
    rw [aaL,<-aaW]
    exact (ep.2.imp λzz zz r=>r.mono f4 qb).snoc (c9 pa pb fa ⟨rfl,z.2.mono (m8.tr f4) qb⟩)
  .rw [List.map_nil,aaY];exact e.2.imp λzz zz r=>r.mono f2 aV
 .have ep:=I.ex
  rw [List.take_length] at ep
  refine ep.elim λps ep=>ak I.l0 (ak I.l1 (mo m ⟨uI,I.aD.lt Cq,I.aD.keep Cq es,hs.imp λv D z=>z.imp λs z=>z.imp λt z=>⟨z.1,z.2.mono I.aD (P':=wy P H.n) (λa ha h=>⟨id,.inl ⟨h,ha⟩⟩) id id⟩,I.lt,ep.1,ep.2,nV,λx hx=>aq (jL hx) λj D z=>?_⟩ λH2 ms mt aa E f2 h1 rs ok=>h H2 ms mt aa E (I.aD.tr f2) (aaw I.aD.le h1) ?_ ok))
  .exact ⟨by rw [z.1,abE];exact (aaZ.mp z.2.1).1,PE D (aaO z.2.1) _ z.2.2⟩
  .exact rs.mono (.refl:ai aJ H2 H2) (λx zz h=>⟨id,aaw I.aD.le h⟩) id id
end
noncomputable def E4 (D:Doc) (ix:List Int) (pl:Pl):Prop:=L2 (λi (x:Nat × (Int × Di))=>0<=i/\x.1=0/\(ar D.sp)[i.toNat]? =some x.2) ix pl
structure UE (P:Nat->Prop) (H:HP) (s t xi:Nat) (D:Doc) (ix:List Int) (pl:Pl):Prop where
 dk:DocOk D
 rs:RS P H s t D.tab D.tr
 Gr:xi < H.n
 MC:H.g xi= .list (ix.map AV.int)
 yN:E4 D ix pl
 nV:pl.length+4<=60
 PE:Am D
section
variable {G:Nat->aj} {H H':HP} {Q:KV} {QS:KS} {k:Nat} {P:Nat->Prop} {loc:Loc}
theorem AI (m:aQ G) {s t xi:Nat} {D:Doc} {ix:List Int} {pl:Pl} (B:UE P H s t xi D ix pl) (h:Mj [D] pl H Q):G (k+10) "split_pages" [.ref s,.ref xi] H Q:=by
 refine m.run 41 rfl rfl rfl (jJ m B.rs B.dk.tree B.dk.ok λH1 ra vs f1 h1 h2 h3 h4=>?_)
 have Yy:∀i∈ix,0<=i/\i < (vs.length:Int):=λi hi=>(B.yN.mem hi).elim λx z=>⟨z.2.1,by rw [h4.len,<-Int.toNat_of_nonneg z.2.1];exact abA.mpr (aaZ.mp z.2.2.2).1⟩
 have il:(ix.map AV.int).length<=lim:=by rw [aaB];exact aaw (B.yN.len▸aaw (aaM ..) B.nV) (by decide)
 refine eJ (aH (f1.keep B.Gr B.MC)) (f1.lt B.Gr) AV.int (λzz=>false) (r:=λv i=>v=AV.int i/\i∈ix) (L2.mR (L2.diag λx hx=>⟨rfl,hx⟩)) il (λv i H2 C N r f y n=>?_) λH2 a2 f2 qw lg e2=>?_
 .have z:=Yy i r.2
  exact r.1▸MR z.1 (ad (f.keep h2 h3) (MR z.2 (n rfl H2 f)))
 rw [Bz] at e2
 refine cN λH3 f3 n3 e3=>ad (f3.keep lg e2) (ad e3 (.inl ⟨⟨rfl,rfl⟩,cN λH4 f4 n4 e4=>?_⟩))
 have MK:=(f2.tr f3).tr f4
 have Av:=f1.tr MK
 refine cG (aH (Av.keep B.Gr B.MC)) (Av.lt B.Gr) (λx:Nat × (Int × Di)=>x) (q:=GP (bh P H.n)) (λzz zz zz zz f r=>GP.mono f aV r) (r:=λv x=>∃i:Int,v= .int i/\0<=i/\x.1=0/\(ar D.sp)[i.toNat]? =some x.2) (L2.mR (B.yN.imp λi x z=>⟨i,rfl,z⟩)) il (λv x H5 C N r f y=>?_) λH5 a5 ps f5 Kv SB e5 r5=>?_
 .have O4:=MK.tr f
  refine r.elim λi z=>(h4.get z.2.2.2).elim λu w=>z.1▸ad (O4.keep h2 h3) (Lr ?_ (dE (v:=u) w.1 ?_))
  .exact (Int.toNat_of_nonneg z.2.1▸rfl:qt i=true)
  .refine bj w.2 λpa pb fa q=>q.1▸y H5 _ .refl (c9 pa pb fa ⟨by rw [z.2.2.1];rfl,q.2.mono O4 aV⟩)
 .rw [List.map_id'] at r5
  have Ro:=Av.tr f5
  refine mo m (docs:=[D]) (P:=bh P H.n) ⟨λD' hD=>aaK.mp hD▸B.dk,f5.lt (n4▸aaC _),f5.keep (n4▸aaC _) e4,.cons (bI s t ⟨rfl,B.rs.mono Ro (λzz zz h=>⟨id,.inl h⟩) id id⟩) .nil,SB,e5,r5,B.nV,λx hx=>?_⟩ λH6 ms mt aa E f6 h6 rs ok=>h H6 ms mt aa E (Ro.tr f6) (aaw Ro.le h6) (rs.mono (.refl:ai aJ H6 H6) (λx zz h=>⟨id,aaw Ro.le h⟩) id id) ok
  exact (B.yN.Hr hx).elim λi z=>⟨by rw [z.2.2.1];exact Nat.zero_lt_one,B.PE _ (aaO z.2.2.2)⟩
end
noncomputable def bx (z:Int) (first count:Nat):Nat:=min (first+z.toNat) count
noncomputable def qu (z:Int) (first count:Nat):List (Nat × Nat):=if first < bx z first count then [(first,bx z first count)] else []
noncomputable def jv:List Int->Nat->Nat->List (Nat × Nat)
 | [],_,_=>[]
 | z::r,first,count=>qu z first count++jv r (bx z first count) count
noncomputable def dg (l:List Int) (first count:Nat):Nat:=l.foldl (λf z=>bx z f count) first
noncomputable def mq (D:Doc) (a b:Nat):Pl:=(((ar D.sp).drop a).take (b - a)).map λp=>(0,p)
theorem qL {count:Nat} {z:Int} {l:List Int}:∀{first:Nat},jv (l++[z]) first count=jv l first count++qu z (dg l first count) count:=by
 induction l with
 | nil=>exact λ{first}=>aaY _
 | cons w r ih=>
  intro first
  show qu w first count++jv (r++[z]) _ count=(qu w first count++jv r _ count)++_
  rw [ih,aaW];rfl
theorem oL {count:Nat} {l:List Int}:∀{first:Nat},(jv l first count).length<=l.length:=by
 induction l with
 | nil=>exact λ{first}=>aaF _
 | cons z r ih=>
  intro first
  show (qu z first count++_).length<=_
  rw [aaD,aa2,abg r.length]
  refine aaQ ?_ ih
  unfold qu
  by_cases h:first < bx z first count
  .rw [if_pos h];exact aaF _
  .rw [if_neg h];exact abp _
theorem Ai {D:Doc} {a b:Nat}:(mq D a b).length<=(ar D.sp).length:=by
 rw [mq,aaB]
 exact aaw (List.take_sublist ..).length_le (List.drop_sublist ..).length_le
theorem Mn {D:Doc} {a b:Nat} (h:b<=(ar D.sp).length) (m4:a<=b):E4 D ((List.range (b - a)).map λ(i:Nat)=>(a:Int)+i) (mq D a b):=by
 have go:∀(n a:Nat),a+n<=(ar D.sp).length->L2 (λ(i:Nat) (x:Int × Di)=>(ar D.sp)[i]? =some x) (List.range' a n) (((ar D.sp).drop a).take n):=by
  intro n
  induction n with
  | zero=>exact λa zz=>.nil
  | succ n ih=>
   intro a h
   have ha:a < (ar D.sp).length:=aax (abl (Nat.succ_pos n)) h
   rw [List.drop_eq_getElem_cons ha,abD]
   exact .cons (aaR ha) (ih (a+1) (by rw [aa9,abg 1];exact h))
 have:=go (b - a) a (by rw [Nat.add_sub_cancel' m4];exact h)
 rw [List.range'_eq_map_range] at this
 have h2:L2 (λ(i:Int) (x:Int × Di)=>0<=i/\(0:Nat)=0/\(ar D.sp)[i.toNat]? =some x) ((List.range (b - a)).map λ(i:Nat)=>(a:Int)+i) (((ar D.sp).drop a).take (b - a)):=by
  have e:((List.range (b - a)).map λ(i:Nat)=>(a:Int)+i)=((List.range (b - a)).map (a+·)).map λ(i:Nat)=>(i:Int):=by rw [aa5];exact abq λzz zz=>(Int.natCast_add ..).symm
  rw [e]
  exact L2.mR (this.imp λi x z=>⟨aa0 i,rfl,z⟩)
 exact L2.yc (h2.imp λzz zz z=>z)
noncomputable def fU (D:Doc) (lo:Nat) (H:HP) (v:AV) (x:Nat × Nat):Prop:=∃ms mt aa E,v= .ref ms/\RS (bw lo) H ms mt aa [("Root",.at (.ref 1))]/\eZ [D] (mq D x.1 x.2) aa E
theorem Qq {xs:List AV} {c:String} {fs:List (String × AV)}:AO.list xs≠ .inst c fs:=nofun
theorem Ol {xs:List AV} {es:List (AV × AV)}:AO.list xs≠ .dict es:=nofun
theorem fU.mono {D:Doc} {lo fa:Nat} {H H':HP} (f:ai (atS fa) H H') (Op:fa < lo) {xs:List AV} (e:H.g fa= .list xs) {v:AV} {x:Nat × Nat} (r:fU D lo H v x):fU D lo H' v x:=
 r.imp λms r=>r.imp λmt r=>r.imp λaa r=>r.imp λE r=>⟨r.1,r.2.1.mono f (λy zz h=>⟨aaN (aax Op h),h⟩) (λq=>r.2.1.ins.elim λzz z=>Qq (e.symm.trans ((congrArg H.g q).symm.trans z.1))) (λq=>r.2.1.tb.elim λzz z=>Ol (e.symm.trans ((congrArg H.g q).symm.trans z.1))),r.2.2⟩
theorem fU.mn {D:Doc} {lo:Nat} {H H':HP} (f:ai aJ H H') {v:AV} {x:Nat × Nat} (r:fU D lo H v x):fU D lo H' v x:=
 r.imp λms r=>r.imp λmt r=>r.imp λaa r=>r.imp λE r=>⟨r.1,r.2.1.mono f aV id id,r.2.2⟩
section
variable {G:Nat->aj} {H H':HP} {Q:KV} {QS:KS} {k:Nat} {P:Nat->Prop} {loc:Loc}
structure UW (P:Nat->Prop) (H:HP) (s t xi:Nat) (D:Doc) (i7:List Int):Prop where
 dk:DocOk D
 rs:RS P H s t D.tab D.tr
 Gr:xi < H.n
 MC:H.g xi= .list (i7.map AV.int)
 Cq:i7.length < 100
 PE:Am D
 gy:(ar D.sp).length<=50
structure U8 (H:HP) (s fa:Nat) (D:Doc) (count:Nat) (H6:HP) (dn:List Int) (loc:Loc) (H':HP):Prop where
 aD:ai aJ H H'
 f6:ai (atS fa) H6 H'
 lt:fa < H'.n
 ex:∃parts,H'.g fa= .list parts/\L2 (fU D (fa+1) H') parts (jv dn 0 count)
 le:dg dn 0 count<=count
 l0:loc "shelf"= .ref s
 l1:loc "found"= .ref fa
 l2:loc "first"= .int (dg dn 0 count)
 l3:loc "count"= .int count
noncomputable def OH (D:Doc) (i7:List Int) (H:HP) (Q:KV):Prop:=∀H' fa lo parts,ai aJ H H'->H.n<=fa->fa < H'.n->H'.g fa= .list parts->H.n<=lo->L2 (fU D lo H') parts (jv (i7++[((ar D.sp).length:Int)]) 0 (ar D.sp).length)->Q (.ref fa) H'
theorem uP {l:List Int} {z:Int} {a count:Nat}:dg (l++[z]) a count=bx z (dg l a count) count:=List.foldl_append ..
theorem dr {z:Int} {first count:Nat}:(if (count:Int) < (first:Int)+(if (0:Int) > z then 0 else z) then (count:Int) else (first:Int)+(if (0:Int) > z then 0 else z))=((bx z first count:Nat):Int):=by
 have e:(if (0:Int) > z then 0 else z)=(z.toNat:Int):=by
  by_cases h:0 > z
  .rw [if_pos h,Int.toNat_of_nonpos (Int.le_of_lt h)];rfl
  .rw [if_neg h,Int.toNat_of_nonneg (Int.not_lt.mp h)]
 rw [e]
 show _=((min (first+z.toNat) count:Nat):Int)
 by_cases h:count < first+z.toNat
 .rw [if_pos (show (count:Int) < first+z.toNat from MT (b:=first+z.toNat) h),Nat.min_eq_right (aaI h)]
 .rw [if_neg (show ¬(count:Int) < first+z.toNat from λx=>h (HJ (b:=first+z.toNat) x)),Nat.min_eq_left (aaP.mp h)];rfl
theorem FN {a b:Nat}:aN (a:Int) (b:Int)=((List.range (b - a)).map λ(i:Nat)=>(a:Int)+i).map AV.int:=by
 unfold aN
 rw [aa5,show ((b:Int) - (a:Int)).toNat=b - a from Int.toNat_sub _ _];rfl
theorem OV (m:aQ G) {s t xi:Nat} {D:Doc} {i7:List Int} (B:UW P H s t xi D i7) (h:OH D i7 H Q):G (k+11) "cut_into" [.ref s,.ref xi] H Q:=by
 refine m.run 42 rfl rfl rfl (jJ m B.rs B.dk.tree B.dk.ok λH1 ra vs f1 h1 h2 h3 h4=>ad h3 (cN λH2 f2 n2 e2=>?_))
 have fS:=f1.tr f2
 have St:H1.n < H2.n:=n2▸aaC _
 refine ad (fS.keep B.Gr B.MC) (cN λH3 f3 n3 e3=>cN λH4 f4 n4 e4=>ad (f4.keep (n3▸aaC _) e3) (ad e4 ⟨?_,cN λH5 f5 n5 e5=>?_⟩))
 .rw [aaB,abe];exact aaw (aaI (abv B.Cq)) (by decide:101<=lim)
 have Ud:=(f3.tr f4).tr f5
 have l4:H4.n < H5.n:=n5▸aaC _
 have e5:H5.g H4.n= .list ((i7++[((ar D.sp).length:Int)]).map AV.int):=e5.trans (by rw [aaL,h4.len];rfl)
 have zl:(i7++[((ar D.sp).length:Int)]).length < 102:=by rw [aaD];exact Nat.lt_succ_of_lt (abv B.Cq)
 unfold OH at h
 generalize i7++[((ar D.sp).length:Int)]=zs at e5 h zl
 refine dE (aH e5) (G5 (d:=[]) (all:=zs) (r:=λv z=>v=AV.int z) (U8 H s H1.n D (ar D.sp).length H5) (λJ=>bC J.f6 l4 (aaN (aax St (f3.tr f4).le)) ⟨aH e5,rfl⟩) (λv z dn rest ed rv loc' H' C I hC zz=>?_) (L2.mR (L2.diag λzz zz=>rfl)) rfl ⟨(fS.tr Ud),.refl,Ud.lt St,⟨[],Ud.keep St e2,.nil⟩,abp _,rfl,rfl,rfl,congrArg (λ(n:Nat)=>AV.int n) h4.len⟩ λloc' H' I=>?_)
 .have fz:dg (dn++[z]) 0 (ar D.sp).length=bx z (dg dn 0 (ar D.sp).length) (ar D.sp).length:=uP
  have cz:jv (dn++[z]) 0 (ar D.sp).length=jv dn 0 (ar D.sp).length++qu z (dg dn 0 (ar D.sp).length) (ar D.sp).length:=qL
  have Rz:bx z (dg dn 0 (ar D.sp).length) (ar D.sp).length<=(ar D.sp).length:=Nat.min_le_right _ _
  have pl:∀parts,L2 (fU D (H1.n+1) H') parts (jv dn 0 (ar D.sp).length)->parts.length < lim:=λparts r=>aaz (r.len▸oL) (aaz (ed▸(List.sublist_append_left ..).length_le:dn.length<=zs.length) (aaA zl (by decide)))
  unfold qu at cz
  refine rv▸ak I.l2 (ak I.l3 (ak I.l2 (yC (λsX=>?_) λj3=>?_)))
  .have sX:=abA.mp (dr▸sX)
   rw [if_pos sX] at cz
   refine I.ex.elim λparts e=>ak I.l1 (ad e.1 (ak I.l0 (ak I.l2 ⟨⟨aa0 _,dr▸Int.ofNat_le.mpr (aaI sX),dr▸Int.ofNat_le.mpr (aaw Rz (aaw B.gy (by decide)))⟩,cN λH7 f7 n7 e7=>?_⟩)))
   refine AI m (pl:=mq D _ _) ⟨B.dk,B.rs.mn (I.aD.tr f7),n7▸aaC _,e7.trans (congrArg AO.list ((congrArg (aN _) dr).trans FN)),Mn Rz (aaI sX),aaw (abb (aaw Ai B.gy) 4) (by decide),B.PE⟩ λH8 ms mt aa E f8 h8 rs ok=>?_
   have Nl:=f7.tr f8
   have e8:=Nl.keep I.lt e.1
   refine ad e8 ⟨pl parts e.2,m6 e8 λH9 f9 n9 e9=>hC _ H9 ⟨(I.aD.tr Nl).up f9 f1.le,(I.f6.tn Nl).tr f9,f9.lt (Nl.lt I.lt),⟨_,e9,?_⟩,fz▸Rz,I.l0,I.l1,fz▸congrArg AV.int dr,I.l3⟩⟩
   rw [cz]
   exact (e.2.imp λzz zz r=>(r.mn Nl).mono f9 (aaC _) e8).snoc (fU.mono f9 (aaC _) e8 (j8 ms mt aa E ⟨rfl,rs.mono (.refl:ai aJ H8 H8) (λx zz h=>⟨id,aaw (Nat.succ_le_of_lt (f7.lt I.lt)) h⟩) id id,ok⟩))
  .rw [if_neg λq=>j3 (dr▸abA.mpr q),aaY] at cz
   exact hC _ H' ⟨I.aD,I.f6,I.lt,cz▸I.ex,fz▸Rz,I.l0,I.l1,fz▸congrArg AV.int dr,I.l3⟩
 .exact I.ex.elim λparts e=>ak I.l1 (h H' H1.n _ parts I.aD f1.le I.lt e.1 (abx f1.le) e.2)
end
theorem iQ {key:String} {d:Di} (h:key ∉ d.map (·.1)):look key d= .none:=by
 cases e:look key d with
 | none=>rfl
 | some v=>exact absurd (aaG.mpr ⟨_,cB e,rfl⟩) h
theorem vL {key bad:String} {d:Di}:look key (d.filter λx=>!decide (x.1=bad))=if key=bad then .none else look key d:=by
 induction d with
 | nil=>exact (ite_self _).symm
 | cons x r ih=>
  obtain ⟨j,v⟩:=x
  by_cases e:j=bad
  .rw [List.filter_cons_of_neg ((decide_eq_true e).symm▸aaE),ih]
   by_cases q:key=bad
   .rw [if_pos q,if_pos q]
   .rw [if_neg q,if_neg q,aK (e▸abm q)]
  .rw [List.filter_cons_of_pos (congrArg _ (decide_eq_false e))]
   by_cases q:j=key
   .rw [<-q,aY,aY,if_neg e]
   .rw [aK q,aK q,ih]
theorem iJ {key:String} {d:Di}:look key (gp d)=if key="Type" then some (.at (.name "Page")) else if key="Parent" then .none else look key d:=by
 unfold gp
 rw [az,vL]
 by_cases e:key="Type"
 .rw [if_pos e.symm,if_pos e]
 .rw [if_neg (abm e),if_neg e]
noncomputable def oR (va:Va):Option Va:=bif va.nul then .none else some va
theorem pA {key:String} {tbl:List (Int × Int)} {d:Di}:(d.map (·.1)).Nodup->look key (ji tbl d)=(look key d).bind λva=>oR (ii tbl va):=by
 induction d with
 | nil=>exact λzz=>rfl
 | cons x r ih=>
  obtain ⟨j,v⟩:=x
  intro nd
  have nd:=aa8.mp nd
  have ih:=ih nd.2
  have hr:ji tbl ((j,v)::r)=bif (ii tbl v).nul then ji tbl r else (j,ii tbl v)::ji tbl r:=by
   unfold ji
   rw [aa4,List.filter_cons]
   cases (ii tbl v).nul<;>rfl
  rw [hr]
  by_cases e:j=key
  .have n:=iQ nd.1
   rw [<-e] at ih ⊢
   rw [n] at ih
   rw [aY,Option.bind_some,oR]
   cases (ii tbl v).nul with
   | true=>exact ih
   | false=>exact aY
  .rw [aK e,<-ih]
   cases (ii tbl v).nul with
   | true=>rfl
   | false=>exact aK e
theorem iR {d:Di} (h:(d.map (·.1)).Nodup):((gp d).map (·.1)).Nodup:=dc ((List.filter_sublist.map _).nodup h)
theorem LB {d:Di} {tbl:List (Int × Int)} (h:(d.map (·.1)).Nodup):((ji tbl d).map (·.1)).Nodup:=by
 have h1:=(List.filter_sublist (p:=λx:String × Va=>!x.2.nul) (l:=d.map λx=>(x.1,ii tbl x.2))).map (·.1)
 rw [aa5] at h1
 exact h1.nodup h
theorem zT {d:Di} {tbl:List (Int × Int)} (h:(d.map (·.1)).Nodup):((dR tbl d).map (·.1)).Nodup:=dc (LB (iR h))
theorem iG {key:String} {d:Di} {tbl:List (Int × Int)} (h:(d.map (·.1)).Nodup) (k1:key≠"Parent") (k2:key≠"Type"):look key (dR tbl d)=(look key d).bind λva=>oR (ii tbl va):=by
 unfold dR
 rw [az,if_neg (abm k1),pA (iR h),iJ,if_neg k2,if_neg k1]
theorem kZ {d:Di} (h:(d.map (·.1)).Nodup) {m:Int}:m∈cM d ↔ ∃key va,look key d=some va/\m∈gS va:=
 List.mem_flatMap.trans ⟨λz=>z.elim λx z=>(bI x.1 x.2 ⟨cg h z.1,z.2⟩),λz=>aq z λkey va z=>⟨_,cB z.1,z.2⟩⟩
theorem rW {tbl:List (Int × Int)} {va:Va} {m q:Int} (h:m∈gS va) (e:ae m tbl=some q):q∈gS (ii tbl va)/\(ii tbl va).nul=false:=by
 have go:∀a:At,mL a=some m->nL tbl a= .ref q:=λa h=>by
  cases a with
  | ref n=>rw [<-aay h] at e;show ((ae n tbl).map At.ref).getD .none=_;rw [e];rfl
  | _=>cases h
 cases va with
 | «at» a=>
  show q∈(mL (nL tbl a)).toList/\Va.nul (.at (nL tbl a))=_
  exact (go a (Option.mem_toList.mp h))▸⟨.head _,rfl⟩
 | arr xs=>exact ⟨(abB.mp h).elim λa z=>abB.mpr ⟨_,aaG.mpr ⟨a,z.1,rfl⟩,go a z.2▸rfl⟩,rfl⟩
theorem Bo {d:Di} {tbl:List (Int × Int)} (h:(d.map (·.1)).Nodup) {m q:Int} (hm:m∈cM (gp d)) (e:ae m tbl=some q):q∈cM (dR tbl d):=by
 refine aq ((kZ (iR h)).mp hm) λkey va z=>(kZ (zT h)).mpr (bI key (ii tbl va) ⟨?_,(rW z.2 e).1⟩)
 have k1:key≠"Parent":=λk=>by rw [k,iJ] at z;exact nomatch z.1
 unfold dR
 rw [az,if_neg (abm k1),pA (iR h),z.1,Option.bind_some,oR,(rW z.2 e).2];rfl
theorem qN {d aR:Di} {x key:String} (h:x≠key):look key (fh d aR x)=look key aR:=by
 unfold fh
 cases look x d with
 | none=>rfl
 | some v=>exact az.trans (if_neg h)
theorem xv {d:Di} {key:String} (h:look key d= .none):∀{l:List String} {aR:Di},look key aR= .none->look key (l.foldl (fh d) aR)= .none:=by
 intro l
 induction l with
 | nil=>exact id
 | cons x l ih=>
  refine λ{aR} hi=>ih ?_
  by_cases e:x=key
  .rw [e];unfold fh;exact (h).symm▸hi
  .exact (qN e).trans hi
theorem wh {L:Di}:iK L (cI L [])=L:=by
 have hl:∀(l:List String),l.foldl (dK L (cI L [])) L=L:=λl=>by
  induction l with
  | nil=>rfl
  | cons x l ih=>
   have:dK L (cI L []) L x=L:=by
    unfold dK
    cases e:look x L with
    | some _=>rfl
    | none=>show ((look x (cI L [])).map _).getD L=L;unfold cI;rw [xv e rfl];rfl
   rw [List.foldl_cons,this,ih]
 exact hl ax
noncomputable def KX:Ob:= .stream [] [113,32,81]
noncomputable def LV:Ob:= .stream [("A",.at (.int 1))] [102]
structure uT (D:Doc) (d:Di):Prop where
 nd:(d.map (·.1)).Nodup
 ok:eI d
 len:d.length < 60
 vals:∀key va,look key d=some va->key≠"Peer"->key≠"Parent"->gS va=[]\/∃m o,va= .at (.ref m)/\ah m D.tab=some o/\D.bs m=false/\o≠ .null
 mS:∀va,look "Peer" d=some va->∃m,va= .at (.ref m)/\D.bs m=true
 cont:(look "Contents" d=some (.at (.ref 3))/\ah 3 D.tab=some KX)\/(look "Contents" d=some (.at (.ref 4))/\ah 4 D.tab=some LV)
noncomputable def fx (docs:List Doc) (pl:Pl):Prop:=∀x∈pl,∃D,docs[x.1]? =some D/\uT D x.2.2/\D.bs x.2.1=true
section
variable {docs:List Doc} {pl:Pl} {aa:List (Int × Ob)} {E:List (Nat × Int)} {i:Nat} {D:Doc} {m q:Int}
theorem tF (hp:fx docs pl) (hD:docs[i]? =some D) (hm:D.bs m=false):ae m (fJ i (cw pl))= .none:=by
 cases e:ae m (fJ i (cw pl)) with
 | none=>rfl
 | some q=>
  refine (FI _ e).elim λj h=>?_
  refine (aaG.mp (aaO h.1)).elim λx z=>(hp x z.1).elim λD' w=>?_
  rw [(show x.1=i from congrArg Prod.fst z.2),hD] at w
  obtain rfl:=aay (w.1)
  rw [(show x.2.1=m from congrArg Prod.snd z.2),hm] at w
  exact absurd (w.2.2) aaE
theorem GO (ok:eZ docs pl aa E) (hp:fx docs pl) (hD:docs[i]? =some D) (hm:D.bs m=false) (h:ae m (bN pl E i)=some q):∃(k:Nat) (o:Ob),(E[k]? =some (i,m)/\q=3+(pl.length:Int)+k)/\ah m D.tab=some o/\ah q aa=some o:=by
 unfold bN at h
 rw [cc,tF hp hD hm] at h
 refine (uQ h).elim λk z=>aq (ok.ents k i m z.1) λD' o w=>(bI k o ⟨z,?_,z.2▸w.at_⟩)
 obtain rfl:=aay (hD.symm.trans w.doc)
 exact w.src
theorem K0 (ok:eZ docs pl aa E) (hD:docs[i]? =some D) (hm:D.bs m=true):ae m (bN pl E i)=ae m (fJ i (cw pl)):=by
 unfold bN
 rw [cc]
 cases e:ae m (fJ i (cw pl)) with
 | some q=>rfl
 | none=>
  show ae m (eE i E _)=_
  cases e2:ae m (eE i E (3+(pl.length:Int))) with
  | none=>rfl
  | some q=>
   refine (uQ e2).elim λk z=>aq (ok.ents k i m z.1) λD' o w=>?_
   obtain rfl:=aay (hD.symm.trans w.doc)
   exact nomatch hm.symm.trans w.bs
structure tO (docs:List Doc) (pl:Pl) (aa:List (Int × Ob)) (E:List (Nat × Int)) (i:Nat) (D:Doc) (d L:Di):Prop where
 nd:(L.map (·.1)).Nodup
 parent:look "Parent" L=some (.at (.ref 2))
 type:look "Type" L=some (.at (.name "Page"))
 Ti:∀key,key≠"Parent"->key≠"Type"->look key d= .none->look key L= .none
 val:∀key va,key≠"Parent"->key≠"Type"->look key d=some va->gS va=[]->look key L=some va
 ref:∀key m,key≠"Parent"->key≠"Type"->look key d=some (.at (.ref m))->D.bs m=false->∃(k:Nat) (o:Ob),look key L=some (.at (.ref (3+(pl.length:Int)+k)))/\E[k]? =some (i,m)/\ah m D.tab=some o/\ah (3+(pl.length:Int)+k) aa=some o
 mS:∀m,look "Peer" d=some (.at (.ref m))->look "Peer" L=(ae m (fJ i (cw pl))).map λq=>.at (.ref q)
theorem vV {tb:List (Int × Int)}:oR (ii tb (.at (.ref m)))=(ae m tb).map λq=>.at (.ref q):=by
 show oR (.at (((ae m tb).map At.ref).getD .none))=_
 cases ae m tb<;>rfl
theorem IT (ok:eZ docs pl aa E) (hp:fx docs pl) {j:Nat} {n:Int} {d:Di} (hj:pl[j]? =some (i,(n,d))):∃D,docs[i]? =some D/\uT D d/\ah (3+(j:Int)) aa=some (.dict (dR (bN pl E i) d))/\tO docs pl aa E i D d (dR (bN pl E i) d):=by
 refine (hp _ (aaO hj)).elim λD z=>?_
 have hD:docs[i]? =some D:=z.1
 have pg:uT D d:=z.2.1
 have w:=ok.done j i n d (aaZ.mp hj).1 hj
 have nd:=pg.nd
 refine ⟨D,hD,pg,w.1,zT nd,az.trans (if_pos rfl),?_,λkey k1 k2 h=>by rw [iG nd k1 k2,h];rfl,λkey va k1 k2 h e=>?_,λkey m k1 k2 h hb=>?_,λm h=>?_⟩
 .unfold dR
  rw [az,if_neg (by decide),pA (iR nd),iJ,if_pos rfl];rfl
 .rw [iG nd k1 k2,h,Option.bind_some,rQ e,oR]
  cases q:va.nul with
  | true=>exact absurd (zQ.mp q) (pg.ok.2 _ (cB h)).1
  | false=>rfl
 .have TJ:m∈cM (gp d):=(kZ (iR nd)).mpr (bI key _ ⟨by rw [iJ,if_neg k2,if_neg k1];exact h,.head _⟩)
  have th:aM D.tab m=true:=by
   by_cases k3:key="Peer"
   .refine (pg.mS _ (k3▸h)).elim λm' q=>?_
    cases q.1
    exact nomatch hb.symm.trans q.2
   .refine (pg.vals key _ h k3 k1).elim (λe=>nomatch e) λq=>aq q λm' o q=>?_
    cases q.1
    unfold aM;rw [q.2.1];rfl
  obtain ⟨q,hq⟩:=aa7.mp (w.2 D hD m TJ th hb)
  refine aq (GO ok hp hD hb hq) λk o x=>(bI k o ⟨?_,x.1.1,x.2.1,x.1.2▸x.2.2⟩)
  rw [iG nd k1 k2,h,Option.bind_some,vV,hq,x.1.2];rfl
 .refine (pg.mS _ h).elim λm' q=>?_
  cases q.1
  rw [iG nd (by decide) (by decide),h,Option.bind_some,vV,K0 ok hD q.2]
end
noncomputable def mx (pl:Pl) (E:List (Nat × Int)) (j:Nat):Di:=(pl[j]?.map λx=>dR (bN pl E x.1) x.2.2).getD []
noncomputable def Xp (pl:Pl) (E:List (Nat × Int)) (j:Nat):aX:=⟨3+(j:Int),mx pl E j,cI (mx pl E j) [],true⟩
noncomputable def Uu (pl:Pl) (E:List (Nat × Int)):List aX:=⟨2,jS pl.length,[],false⟩::(List.range pl.length).map (Xp pl E)
noncomputable def ql (pl:Pl) (E:List (Nat × Int)):List (Int × Di):=(List.range pl.length).map λ(j:Nat)=>(3+(j:Int),mx pl E j)
noncomputable def K9:Di:=[("Root",.at (.ref 1))]
section
variable {docs:List Doc} {pl:Pl} {aa:List (Int × Ob)} {E:List (Nat × Int)} {j:Nat}
structure tZ (docs:List Doc) (pl:Pl) (aa:List (Int × Ob)) (E:List (Nat × Int)) (j i:Nat) (n:Int) (d:Di) (D:Doc):Prop where
 at_:pl[j]? =some (i,(n,d))
 doc:docs[i]? =some D
 pg:uT D d
 tb:ah (3+(j:Int)) aa=some (.dict (mx pl E j))
 lo:tO docs pl aa E i D d (mx pl E j)
 eq:mx pl E j=dR (bN pl E i) d
theorem gz (ok:eZ docs pl aa E) (hp:fx docs pl) (hj:j < pl.length):∃i n d D,tZ docs pl aa E j i n d D:=by
 have h:pl[j]? =some pl[j]:=aaR hj
 generalize pl[j]=x at h
 obtain ⟨i,n,d⟩:=x
 have e:mx pl E j=dR (bN pl E i) d:=by unfold mx;rw [h];rfl
 exact (IT ok hp h).elim λD z=>(j8 i n d D ⟨h,z.1,z.2.1,e▸z.2.2.1,e▸z.2.2.2,e⟩)
theorem hV:∀key∈ax,(key≠"Parent"/\key≠"Type")/\(key≠"Kids"/\key≠"Count")/\key≠"Peer":=by decide
theorem Ep {i:Nat} {n:Int} {d:Di} {D:Doc} (p:tZ docs pl aa E j i n d D):rY aa (mx pl E j):=by
 intro key uq va s7
 have k:=hV key uq
 cases e:look key d with
 | none=>rw [p.lo.Ti key k.1.1 k.1.2 e] at s7;exact nomatch s7
 | some Wq=>
  refine (p.pg.vals key Wq e k.2.2 k.1.1).elim (λq=>?_) λq=>aq q λm o q=>?_
  .replace s7:=(p.lo.val key Wq k.1.1 k.1.2 e q)▸s7
   cases s7
   cases va with
   | «at» a=>cases a with
    | none=>exact absurd rfl ((p.pg.ok.2 _ (cB e)).1)
    | ref n=>cases q
    | _=>trivial
   | arr _=>trivial
  .rw [q.1] at e
   refine aq (p.lo.ref key m k.1.1 k.1.2 e q.2.2.1) λk o' z=>?_
   rw [z.1] at s7
   obtain rfl:=aay s7
   exact ⟨o',z.2.2.2,aay (z.2.2.1.symm.trans q.2.1)▸q.2.2.2⟩
theorem Ky {n:Nat}:cI (jS n) []=[]:=rfl
theorem CD (ok:eZ docs pl aa E) (hp:fx docs pl) {l:List Nat}:(∀j∈l,j < pl.length)->Wk aa ((l.map λ(i:Nat)=>(3:Int)+i).map λn=>(n,([]:Di))) (l.map (Xp pl E)):=by
 induction l with
 | nil=>exact λzz=>rfl
 | cons j l ih=>
  exact λh=>bG (gz ok hp (h j (.head _))) λi n d D p=>(c9 ([]) _ ([]) ⟨rfl,⟨p.tb,.inr (.inl ⟨p.lo.type,rfl⟩),Ep p,by decide,rfl,.inl ⟨rfl,rfl⟩⟩,ih λx hx=>h x (.tail _ hx)⟩)
theorem B3 (ok:eZ docs pl aa E) (hp:fx docs pl) (hl:pl.length<=60):Tree aa K9 (Uu pl E):=by
 refine ⟨(c9 1 sV 2 ⟨⟨aY,ok.root⟩,rfl,[],[],c0 pl.length,rfl,⟨ok.node,.inl ⟨aY,rfl⟩,λkey hk va s7=>?_,by decide,rfl,.inr ⟨rfl,rfl⟩⟩,?_⟩),?_,?_,?_⟩
 .have k:=hV key hk
  unfold jS at s7
  rw [aK (abm k.1.2),aK (abm k.2.1.1),aK (abm k.2.1.2)] at s7
  exact nomatch s7
 .rw [aaY]
  exact CD ok hp λj hj=>List.mem_range.mp hj
 .show ((2:Int)::_).Nodup
  rw [aa5,aa8]
  refine ⟨λh=>(aaG.mp h).elim λx z=>?_,List.Pairwise.map _ (λa b (h:a < b) e=>?_) List.pairwise_lt_range⟩
  .have:(3:Int)+x=2:=z.2
   exact Qi this
  .have e:(3:Int)+a=3+b:=e
   exact aaJ h (qk (Int.add_left_cancel e))
 .show List.length _+1 < 1000
  rw [aaB,List.length_range]
  exact aaz (aa1 hl) (by decide)
 .exact λx E8 e=>(abf e).1▸rfl
theorem yi:ar (Uu pl E)=ql pl E:=by
 delta ar Uu
 rw [List.filter_cons_of_neg aaE,(List.filter_eq_self.mpr λx hx=>(aaG.mp hx).elim λy z=>z.2▸rfl),aa5]
 exact abq λj zz=>congrArg (Prod.mk (3+(j:Int))) wh
theorem D9 (ok:eZ docs pl aa E) (hp:fx docs pl) (C:List Int) (uh:Rh aa (cM (sx K9)) C) (n:Int) (hn:aM aa n=true):n∈C:=by
 have th:∀{m o},ah m aa=some o->aM aa m=true:=λh=>by unfold aM;rw [h];rfl
 have c1:(1:Int)∈C:=uh.base 1 (.head _) (th ok.root)
 have c2:(2:Int)∈C:=uh.step 1 c1 _ ok.root 2 (.head _) (th ok.node)
 have h:=(bD ok.num).mp ((aa7.mp hn).elim λo e=>aaG.mpr ⟨_,bp e,rfl⟩)
 have pg:∀j:Nat,j < pl.length->(3+(j:Int))∈C:=λj hj=>bG (gz ok hp hj) λi n d D p=>by
  refine uh.step 2 c2 _ ok.node _ (List.mem_flatMap.mpr ⟨("Kids",.arr ((c0 pl.length).map At.ref)),.tail _ (.head _),abB.mpr ⟨.ref (3+(j:Int)),aaG.mpr ⟨_,aaO (pN hj),rfl⟩,rfl⟩⟩) (th p.tb)
 by_cases e1:n=1
 .exact e1▸c1
 by_cases e2:n=2
 .exact e2▸c2
 by_cases e3:n<=2+pl.length
 .have:=pg (n - 3).toNat (zt (M3 (M3 h.1 (abm e1)) (abm e2)) (Int.lt_of_le_of_lt e3 (Int.add_lt_add_right (by decide) _)))
  rwa [show (3:Int)+((n - 3).toNat:Int)=n from zu (M3 (M3 h.1 (abm e1)) (abm e2))] at this
 .have hk:(n - 3 - pl.length).toNat < E.length:=by have:=ok.len;exact O6 h.1 h.2 e3 this
  have e:E[(n - 3 - pl.length).toNat]? =some E[(n - 3 - pl.length).toNat]:=aaR hk
  generalize E[(n - 3 - pl.length).toNat]=x at e
  obtain ⟨i,m⟩:=x
  refine aq (ok.ents _ i m e) λD o z=>bj z.why λj n' d w=>?_
  refine bG (gz ok hp w.1) λi' n2 d' D' p=>?_
  cases w.2.1.symm.trans p.at_
  refine uh.step _ (pg j w.1) _ p.tb n ?_ hn
  rw [p.eq]
  obtain rfl:=aay (p.doc.symm.trans z.doc)
  have:=iT (i:=i) (m:=m) (q:=3+(pl.length:Int)) ok.nd e
  refine Bo p.pg.nd w.2.2 ?_
  unfold bN
  rw [cc,tF hp z.doc z.bs]
  exact this.trans (congrArg some (Ou e3))
end
noncomputable def wD:Ob->AV
 | .stream d b=>.tup [.str "to",mG d,.bytes b]
 | o=>.tup [.str "to",sd o,.bytes []]
noncomputable def uy (tab:List (Int × Ob)):Va->AV
 | .at (.ref n)=>((ah n tab).map wD).getD .none
 | va=>mI va
theorem kE {tab:List (Int × Ob)} {n:Int} {o:Ob} (e:ah n tab=some o):uy tab (.at (.ref n))=wD o:=congrArg (λx=>(Option.map wD x).getD .none) e
theorem WQ:wD KX=vA:=rfl
theorem Wr:wD LV=vB:=rfl
theorem oA {tab:List (Int × Ob)} {va:Va} (h:va.isRef=false):uy tab va=mI va:=by
 cases va with
 | «at» a=>cases a with
  | ref n=>cases h
  | _=>rfl
 | arr xs=>rfl
theorem En {docs:List Doc} {pl:Pl} {aa:List (Int × Ob)} {E:List (Nat × Int)} {i:Nat} {D:Doc} {d L:Di} (h:tO docs pl aa E i D d L) (pg:uT D d) {key:String} {va:Va} (k1:key≠"Parent") (k2:key≠"Type") (k3:key≠"Peer") (e:look key d=some va):∃J3,look key L=some J3/\uy aa J3=uy D.tab va:=by
 refine (pg.vals key va e k3 k1).elim (λq=>⟨va,h.val key va k1 k2 e q,?_⟩) λq=>aq q λm o q=>?_
 .have:va.isRef=false:=by
   cases va with
   | «at» a=>cases a with
    | ref n=>cases q
    | _=>rfl
   | arr xs=>rfl
  rw [oA this,oA this]
 .rw [q.1] at e ⊢
  refine aq (h.ref key m k1 k2 e q.2.2.1) λk o' z=>⟨_,z.1,(kE z.2.2.2).trans (kE z.2.2.1).symm⟩
theorem bZ {n:Nat} {xs:List AV}:(∀x∈xs,x.plain n=true)->AV.d9 xs n=true:=by
 induction xs with
 | nil=>exact λzz=>rfl
 | cons x r ih=>exact λh=>aaV.mpr ⟨h x (.head _),ih λy hy=>h y (.tail _ hy)⟩
theorem sF (a:At) (n:Nat):(nZ a).plain (n+1)=true:=by cases a<;>rfl
theorem HV (v:Va) (n:Nat):(mI v).plain (n+2)=true:=by
 cases v with
 | «at» a=>exact sF a (n+1)
 | arr xs=>exact bZ (xs:= .str "array"::xs.map nZ) λx hx=>(aaH.mp hx).elim (λe=>e▸rfl) λhx=>(aaG.mp hx).elim λa z=>z.2▸sF a n
theorem jZ (d:Di) (n:Nat):(mG d).plain (n+4)=true:=bZ (xs:= .str "dict"::(bt (bH d)).map (Aj d)) λx hx=>(aaH.mp hx).elim (λe=>e▸rfl) λhx=>(aaG.mp hx).elim λkey z=>(aaG.mp (bO.mp z.1)).elim λy w=>by
 rw [<-z.2,<-w.2]
 show ((((look y.1 d).map mI).getD .none).plain (n+2)&&true)=true
 rw [Bool.and_true]
 cases look y.1 d with
 | none=>rfl
 | some v=>exact HV v n
noncomputable def EG (v:AV):Prop:=∃xs,v= .tup xs/\AV.d9 xs eH=true
theorem EG.eq {u v:AV} {H:HP} {Q:Bool->Prop} (h:EG u) (e:u=v) (q:Q true):ML u v H Q:=h.elim λxs z=>e▸(show ML u u H Q from z.1.symm▸⟨⟨rfl,z.2⟩,q⟩)
theorem E6 (o:Ob):EG (wD o):=by
 cases o with
 | null=>exact ⟨_,rfl,rfl⟩
 | dict d=>exact ⟨_,rfl,bZ λx hx=>(aaH.mp hx).elim (λe=>e▸rfl) λhx=>(aaH.mp hx).elim (λe=>e▸jZ d 56) λhx=>aaK.mp hx▸rfl⟩
 | stream d b=>exact ⟨_,rfl,bZ λx hx=>(aaH.mp hx).elim (λe=>e▸rfl) λhx=>(aaH.mp hx).elim (λe=>e▸jZ d 56) λhx=>aaK.mp hx▸rfl⟩
theorem kL (a:At):EG (nZ a):=by cases a<;>exact ⟨_,rfl,rfl⟩
theorem FC {tab:List (Int × Ob)} {va:Va} (h:∀n,va= .at (.ref n)->(ah n tab).isSome=true):EG (uy tab va):=by
 cases va with
 | «at» a=>cases a with
  | ref n=>exact (aa7.mp (h n rfl)).elim λo e=>(kE e).symm▸E6 o
  | none=>exact kL .none
  | int i=>exact kL (.int i)
  | name s=>exact kL (.name s)
 | arr xs=>exact ⟨_,rfl,bZ λx hx=>(aaH.mp hx).elim (λe=>e▸rfl) λhx=>(aaG.mp hx).elim λa z=>z.2▸sF a 59⟩
section
variable {G:Nat->aj} {H H':HP} {Q:KV} {k s t:Nat} {P P':Nat->Prop} {tab:List (Int × Ob)} {tr:Di}
theorem jn (m:aQ G) {v:AV} {va:Va} (rs:RS P H s t tab tr) (ok:∀w∈tab,de w.2) (rv:RV P' H v va) (hr:∀n,va= .at (.ref n)->(ah n tab).isSome=true) (hv:xG va) (h:∀H',ai aJ H H'->Q (uy tab va) H'):G (k+7) "_law_unfolded" [.ref s,v] H Q:=by
 cases hq:va.isRef with
 | false=>
  have nr:=rv.noRef hq
  refine m.run 49 rfl rfl rfl (mJ nr.set (nr.isin _ (mJ nr.set (m.told (vy m rv hv λH' f=>?_)))))
  exact oA hq▸h H' f
 | true=>
  cases va with
  | arr xs=>exact absurd hq aaE
  | «at» a=>cases a with
   | ref n=>
    refine rv.elim λb w=>(aa7.mp (hr n rfl)).elim λo ho=>?_
    have Qx:=ok _ (bp ho)
    have fin:∀H',ai aJ H H'->Q (wD o) H':=λH' f=>kE ho▸h H' f
    refine w.1▸m.run 49 rfl rfl rfl (ad w.2.2 (rs.ins.elim λr e1=>ad e1.1 (hY m rs w.2.2 ho λu ru=>?_)))
    cases o with
    | null=>
     subst ru
     exact m.told (hW m (x:= .none) rfl (fin _ .refl))
    | dict d=>exact ru.elim λa z=>z.1▸z.2.at λes e l=>m.told (ij m z.2 Qx λH' f=>ad (f.keep z.2.lt e) (fin _ f))
    | stream d b=>exact ru.elim λa z=>z.elim λhd z=>z.1▸ad z.2.1.2 (ad z.2.1.2 (m.told (ij m z.2.2 Qx λH' f=>ad (f.fix z.2.1.1 z.2.1.2 rfl) (ad (f.fix z.2.1.1 z.2.1.2 rfl) (fin _ f)))))
   | _=>exact absurd hq aaE
end
namespace So
noncomputable def le (a b:AV):Prop:=qg b a=false
noncomputable def pR (a:AV):Prop:=∃s,a= .str s
theorem NG {a b:AV} (ha:pR a) (hb:pR b) (h:qg a b=true):qg b a=false:=ha.elim λs e=>hb.elim λt e'=>by
 rw [e,e'] at h ⊢
 exact decide_eq_false (List.lt_asymm (of_decide_eq_true h))
theorem trans {a b c:AV} (ha:pR a) (hb:pR b) (hc:pR c) (h1:le a b) (h2:le b c):le a c:=ha.elim λs e=>hb.elim λt e'=>hc.elim λu e2=>by
 rw [e,e'] at h1
 rw [e',e2] at h2
 rw [e,e2]
 exact decide_eq_false (List.le_trans (l₁:=s.toList.map Char.toNat) (of_decide_eq_false h1) (of_decide_eq_false h2))
theorem wF (x:AV) (l:List AV):(xB x l).Perm (x::l):=by
 induction l with
 | nil=>exact .refl _
 | cons y r ih=>
  show (bif _ then _ else _:List AV).Perm _
  cases qg y x with
  | true=>exact (ih.cons y).trans (.swap ..)
  | false=>exact .refl _
theorem tH (l:List AV):(bt l).Perm l:=by
 induction l with
 | nil=>exact .refl _
 | cons x r ih=>exact (wF x (bt r)).trans (ih.cons x)
theorem toNat_inj {l:List Char}:∀{m:List Char},l.map Char.toNat=m.map Char.toNat->l=m:=by
 induction l with
 | nil=>exact λ{m} h=>(List.map_eq_nil_iff.mp h.symm).symm
 | cons a l ih=>
  intro m h
  cases m with
  | nil=>cases h
  | cons b m=>
   have h:=abf h
   rw [ih h.2,Char.toNat_inj.mp h.1]
theorem O8 {a b:AV} (ha:pR a) (hb:pR b) (h1:le a b) (h2:le b a):a=b:=ha.elim λs e=>hb.elim λt e'=>by
 rw [e,e'] at h1 h2 ⊢
 exact congrArg _ (String.toList_inj.mp (toNat_inj (List.le_antisymm (as:=s.toList.map Char.toNat) (of_decide_eq_false h1) (of_decide_eq_false h2))))
structure E5 (P:AV->Prop):Prop where
 as:∀{a b},P a->P b->qg a b=true->qg b a=false
 tr:∀{a b c},P a->P b->P c->le a b->le b c->le a c
 an:∀{a b},P a->P b->le a b->le b a->a=b
theorem yM {P:AV->Prop} (O:E5 P) {x:AV} (hx:P x) {l:List AV}:(∀y∈l,P y)->l.Pairwise le->(xB x l).Pairwise le:=by
 induction l with
 | nil=>exact λzz zz=>abu _ _
 | cons y r ih=>
  intro hp h
  have h':=List.pairwise_cons.mp h
  show (bif _ then _ else _:List AV).Pairwise le
  cases q:qg y x with
  | true=>exact List.pairwise_cons.mpr ⟨λz hz=>(aaH.mp ((wF x r).mem_iff.mp hz)).elim (λe=>e▸O.as (hp y (.head _)) hx q) (h'.1 z),ih (λz hz=>hp z (.tail _ hz)) h'.2⟩
  | false=>exact List.pairwise_cons.mpr ⟨λz hz=>(aaH.mp hz).elim (λe=>e▸q) λhz=>O.tr hx (hp y (.head _)) (hp z (.tail _ hz)) q (h'.1 z hz),h⟩
theorem sorted {P:AV->Prop} (O:E5 P) {l:List AV}:(∀y∈l,P y)->(bt l).Pairwise le:=by
 induction l with
 | nil=>exact λzz=>.nil
 | cons x r ih=>exact λhp=>yM O (hp x (.head _)) (λy hy=>hp y (.tail _ ((tH r).mem_iff.mp hy))) (ih λy hy=>hp y (.tail _ hy))
theorem Ue:E5 pR:=⟨NG,trans,O8⟩
theorem uniq {P:AV->Prop} (O:E5 P) {xs ys:List AV} (hi:∀x∈xs,P x) (hp:ys.Perm xs) (hs:ys.Pairwise le):ys=bt xs:=
 List.Perm.eq_of_pairwise (le:=le) (λa b ha hb h1 h2=>O.an (hi a (hp.mem_iff.mp ha)) (hi b ((tH xs).mem_iff.mp hb)) h1 h2) hs (sorted O hi) (hp.trans (tH xs).symm)
theorem AP {xs ys:List AV} (p:AV->Bool) (hx:∀x∈xs,pR x) (hy:∀x∈ys,pR x) (nx:xs.Nodup) (ny:ys.Nodup) (h:∀x,p x=true->(x∈xs ↔ x∈ys)):(bt xs).filter p=(bt ys).filter p:=by
 refine List.Perm.eq_of_pairwise (le:=le) (λa b ha hb h1 h2=>O8 (hx a ((tH xs).mem_iff.mp (abk.mp ha).1)) (hy b ((tH ys).mem_iff.mp (abk.mp hb).1)) h1 h2) ((sorted Ue hx).filter p) ((sorted Ue hy).filter p) ?_
 refine (List.perm_ext_iff_of_nodup (List.filter_sublist.nodup ((tH xs).nodup_iff.mpr nx)) (List.filter_sublist.nodup ((tH ys).nodup_iff.mpr ny))).mpr λa=>?_
 rw [abk,abk,(tH xs).mem_iff,(tH ys).mem_iff]
 exact ⟨λz=>⟨(h a z.2).mp z.1,z.2⟩,λz=>⟨(h a z.2).mpr z.1,z.2⟩⟩
end So
theorem eT {d:Di}:∀x∈bH d,So.pR x:=λx hx=>aq (dq hx) λs zz z=>⟨s,z.1⟩
theorem u3 {d:Di} (h:(d.map (·.1)).Nodup):(bH d).Nodup:=by
 exact (show bH d=(d.map (·.1)).map AV.str from aa5.symm)▸h.map _ λzz zz h e=>h (AV.str.inj e)
theorem iO {d:Di} {s:String}:AV.str s∈bH d ↔ (look s d).isSome=true:=
 ⟨λh=>aq (dq h) λt va z=>by rw [AV.str.inj z.1,z.2];rfl,λh=>(aa7.mp h).elim λv e=>aaG.mpr ⟨_,cB e,rfl⟩⟩
noncomputable def Vg:List AV:=[.str "Parent",.str "Peer",.str "Type"]
noncomputable def Ak (v:AV):Bool:= !Vg.any (iY v)
theorem kP {s:String} (h:Ak (.str s)=true):s≠"Parent"/\s≠"Peer"/\s≠"Type":=by
 have h:(!(decide (s="Parent")||(decide (s="Peer")||(decide (s="Type")||false))))=true:=h
 rw [Bool.not_eq_true',Bool.or_eq_false_iff,Bool.or_eq_false_iff,Bool.or_eq_false_iff] at h
 exact ⟨of_decide_eq_false h.1,of_decide_eq_false h.2.1,of_decide_eq_false h.2.2.1⟩
noncomputable def oP (d:Di):List AV:=(bt (bH d)).filter Ak
theorem Bu {d:Di} {x:AV} (h:x∈oP d):∃s va,x= .str s/\look s d=some va/\s≠"Parent"/\s≠"Peer"/\s≠"Type":=by
 have h:=abk.mp h
 refine aq (dq (bO.mp h.1)) λs va z=>(bI s va ⟨z.1,z.2,?_⟩)
 have h2:=h.2
 replace h2:=(z.1)▸h2
 exact kP h2
theorem F0 {d e:Di} (hd:(d.map (·.1)).Nodup) (he:(e.map (·.1)).Nodup) (h:∀key,key≠"Parent"/\key≠"Peer"/\key≠"Type"->((look key d).isSome=true ↔ (look key e).isSome=true)):oP d=oP e:=
 So.AP Ak eT eT (u3 hd) (u3 he) λx hx=>
  ⟨λhm=>(eT x hm).elim λs q=>by rw [q] at hm hx ⊢;exact iO.mpr ((h s (kP hx)).mp (iO.mp hm)),λhm=>(eT x hm).elim λs q=>by rw [q] at hm hx ⊢;exact iO.mpr ((h s (kP hx)).mpr (iO.mp hm))⟩
section
variable {G:Nat->aj} {H H':HP} {Q:KV} {P:Nat->Prop} {Γ:aj} {loc:Loc}
noncomputable def Tm:aj->PC:=X.bM (.cmp .cK (.loc "key") (.tup (.cons (.str "Parent") (.cons (.str "Peer") (.o (.str "Type")))))) X.yes
theorem rO {a:Nat} {d:Di} (rd:RD P H a d) (hl:d.length < 64) (h:pP Q H aJ (oP d)):jQ (.ref a) H (Fy (XL.nil Γ) loc (fb (X.loc "key" Γ) (.nm "key") .plain (Tm Γ) loc Q)):=by
 have ll:(bt (bH d)).length<=lim:=by rw [dD,dz];exact aaI (gJ hl)
 refine rd.sorted hl λH1 b f1 Mi lb eb=>eJ (aH eb) lb id Ak (r:=λv w=>v=w/\w∈bt (bH d)) (L2.diag λx hx=>⟨rfl,hx⟩) ll (λv w H' C N rv f y n=>?_) λH2 c f2 qw lg e2=>h H2 c (f1.tr f2) (aaw f1.le qw) lg (by rw [aby] at e2;exact e2)
 refine (eT w (bO.mp rv.2)).elim λs e=>?_
 rw [rv.1,e]
 rw [e] at y n
 exact Rs (Fu (λq=>y q H' f) λq=>n q H' f)
theorem dM {a b:Nat} {xs:List AV} {Q:Bool->Prop} (e1:H.g a= .list xs) (e2:H.g b= .list xs) (hp:AV.d9 xs eH=true) (h:Q true):ML (.ref a) (.ref b) H Q:=ad e1 (ad e2 (.inl ⟨⟨rfl,hp⟩,h⟩))
theorem uO {xs:List AV} (h:∀x∈xs,So.pR x) {n:Nat}:AV.d9 xs n=true:=bZ λx hx=>(h x hx).elim λs e=>e▸rfl
end
noncomputable def FR (tbl:List (Int × Int)):List (AV × AV):=tbl.map λx=>(AV.int x.1,pr x.2)
theorem iz {n:Int} {tbl:List (Int × Int)}:getD (.int n) (FR tbl)=(ae n tbl).map pr:=by
 induction tbl with
 | nil=>rfl
 | cons e r ih=>
  show (bif decide (e.1=n) then some (pr e.2) else getD (.int n) (FR r))=(bif decide (e.1=n) then some e.2 else ae n r).map pr
  cases decide (e.1=n) with
  | true=>rfl
  | false=>exact ih
theorem eV {n:Int} {tbl:List (Int × Int)}:bB (.int n) (FR tbl):=⟨abC 1,λe he=>(aaG.mp he).elim λx q=>q.2▸rfl⟩
structure GY where
 PM:Nat->Prop
 P:Nat->Prop
 P':Nat->Prop
 ms:Nat
 mt:Nat
 s:Nat
 t:Nat
 p:Nat
 pb:Nat
 pf:Nat
 ff:Nat
 pd:Nat
 i:Nat
 docs:List Doc
 pl:Pl
 aa:List (Int × Ob)
 E:List (Nat × Int)
 D:Doc
 d:Di
 L:Di
 fd:Di
 tr:Di
 q0:Int
structure HU (c:GY):Prop where
 Lw:∀w∈c.aa,de w.2
 ok:∀w∈c.D.tab,de w.2
 fl:c.fd.length < 64
 look:∀key,look key c.fd=look key c.d
 lo:tO c.docs c.pl c.aa c.E c.i c.D c.d c.L
 pg:uT c.D c.d
 RL:eI c.L
 neg:ae (-1) (fJ c.i (cw c.pl))= .none
structure Cu (c:GY) (H:HP):Prop where
 Au:RS c.PM H c.ms c.mt c.aa c.tr
 pg:Ke c.PM H c.p c.pb c.pf (c.q0,c.L)
 rs:RS c.P H c.s c.t c.D.tab c.D.tr
 rf:RD c.P' H c.ff c.fd
 Wn:c.pd < H.n
 Q9:H.g c.pd= .dict (FR (fJ c.i (cw c.pl)))
section
variable {G:Nat->aj} {H H':HP} {Q:KV} {k:Nat} {c:GY}
theorem Cu.mn (h:Cu c H) (f:ai aJ H H'):Cu c H':=⟨h.Au.mn f,h.pg.mono f aV,h.rs.mn f,h.rf.mn f,f.lt h.Wn,f.keep h.Wn h.Q9⟩
structure Pb (c:GY) (loc:Loc):Prop where
 l0:loc "made"= .ref c.ms
 l1:loc "page"= .ref c.p
 l2:loc "shelf"= .ref c.s
 l3:loc "fields"= .ref c.ff
 l4:loc "places"= .ref c.pd
theorem HU.un (o:HU c) {key:String} {va:Va} (kk:key≠"Parent"/\key≠"Peer"/\key≠"Type") (e:Pap.look key c.d=some va):∃J3,Pap.look key c.L=some J3/\uy c.aa J3=uy c.D.tab va:=En o.lo o.pg kk.1 kk.2.2 kk.2.1 e
noncomputable def Tq:SL:= .cons (.set "peer" (.ite (.cmp .isIn (.str "Peer") (.loc "fields")) (.fld (.idx (.loc "fields") (.str "Peer")) "number") (.neg 1))) (.cons (.bA (.cmp .cK (.loc "peer") (.loc "places")) (.o (.ret (.cmp .cK (.str "Peer") (.fld (.loc "page") "fields")))) .nil) (.o (.ret (.and (.cmp .isIn (.str "Peer") (.fld (.loc "page") "fields")) (.cmp .eq (.ay (.idx (.fld (.loc "page") "fields") (.str "Peer")) "pair" .nil) (.idx (.loc "places") (.loc "peer")))))))
theorem Gd (m:aQ G) (o:HU c) (F:Cu c H) {loc:Loc} (l:Pb c loc) (h:Q (.bool true) H):Tq (G (k+1)) loc H (eF Q):=by
 cases Ja:Pap.look "Peer" c.d with
 | none=>
  have hL:=o.lo.Ti "Peer" (by decide) (by decide) Ja
  refine ak l.l3 (F.rf.isin ?_)
  rw [o.look,Ja]
  refine ak l.l4 (ad F.Q9 ⟨eV,qX (congrArg Option.isSome (iz.trans (congrArg _ o.neg))) (ak l.l1 (ad F.pg.at_ (F.pg.rf.isin ?_)))⟩)
  rw [hL];exact h
 | some va=>
  refine (o.pg.mS va Ja).elim λmm z=>?_
  replace Ja:=(z.1)▸Ja
  have hL:=o.lo.mS mm Ja
  have hf:=(o.look "Peer").trans Ja
  refine ak l.l3 (F.rf.isin ?_)
  rw [hf]
  refine ak l.l3 (F.rf.idx hf λu ru=>ru.elim λa w=>w.1▸ad w.2.2 (ak l.l4 (ad F.Q9 ⟨eV,?_⟩)))
  cases wM:ae mm (fJ c.i (cw c.pl)) with
  | none=>
   replace hL:=(wM)▸hL
   refine qX (congrArg Option.isSome (iz.trans (congrArg _ wM))) (ak l.l1 (ad F.pg.at_ (F.pg.rf.isin ?_)))
   rw [hL];exact h
  | some q=>
   rw [wM] at hL
   have g:=iz.trans (congrArg (Option.map pr) wM)
   refine qX (congrArg Option.isSome g) (ak l.l1 (ad F.pg.at_ (F.pg.rf.isin ?_)))
   exact (hL)▸ak l.l1 (ad F.pg.at_ (F.pg.rf.idx hL λu ru=>ru.elim λa w=>w.1▸ad w.2.2 (cP m w.2.2 (ak l.l4 (ad F.Q9 ⟨eV,dE g ⟨⟨rfl,rfl⟩,h⟩⟩)))))
theorem uU (m:aQ G) (o:HU c) (F:Cu c H) (h:∀H',ai aJ H H'->Q (.bool true) H'):G (k+8) "_law_page_fits" [.ref c.ms,.ref c.p,.ref c.s,.ref c.ff,.ref c.pd] H Q:=by
 have P7:oP c.L=oP c.fd:=F0 o.lo.nd F.rf.nd λkey kk=>by
  rw [o.look]
  cases e:Pap.look key c.d with
  | none=>rw [o.lo.Ti key kk.1 kk.2.2 e]
  | some va=>exact (o.un kk e).elim λJ3 z=>by exact (z.1)▸⟨λzz=>rfl,λzz=>rfl⟩
 refine m.run 50 rfl rfl rfl (rO F.rf o.fl λH1 ka f1 h1 h2 h3=>ad (F.mn f1).pg.at_ (rO (F.mn f1).pg.rf o.RL.1 λH2 kb f2 g1 g2 g3=>?_))
 rw [P7] at g3
 have fS:=f1.tr f2
 have F2:=F.mn fS
 have e2:=f2.keep h2 h3
 refine dM g3 e2 (uO (λx hx=>eT x (bO.mp (abk.mp hx).1))) (ad F2.pg.at_ (F2.pg.rf.idx o.lo.type λu ru=>m.told (hW m (x:= .name "Page") ru ⟨⟨rfl,rfl⟩,?_⟩)))
 refine dE (aH e2) (Me id (λ(zz:Unit) loc' H'=>Pb c loc'/\ai aJ H2 H') (λzz zz=>()) (λJ=>bC J.2 (f2.lt h2) id ⟨aH e2,rfl⟩) (oP c.fd) (λv hv zz loc' H' C J hC=>?_) (st:=()) ⟨⟨rfl,rfl,rfl,rfl,rfl⟩,.refl⟩ (λloc' H' J=>Gd m o (F2.mn J.2) J.1 (h H' (fS.tr J.2))) (aby _).symm)
 have l:=J.1
 have F3:=F2.mn J.2
 refine aq (Bu hv) λkey va z=>?_
 have s7:=(o.look key).symm.trans z.2.1
 refine (o.un z.2.2 s7).elim λJ3 w=>?_
 have there:∀n,va= .at (.ref n)->(ah n c.D.tab).isSome=true:=λn e=>(o.pg.vals key _ s7 z.2.2.2.1 z.2.2.1).elim (λq=>by rw [e] at q;exact nomatch q) λq=>aq q λm' ob q=>by
  replace q:=(e)▸q;cases q.1;rw [q.2.1];rfl
 have DL:∀n,J3= .at (.ref n)->(ah n c.aa).isSome=true:=λn e=>(o.pg.vals key _ s7 z.2.2.2.1 z.2.2.1).elim (λq=>by
  have:=o.lo.val key va z.2.2.1 z.2.2.2.2 s7 q
  rw [w.1,e] at this
  rw [<-aay this] at q;exact nomatch q) λq=>aq q λm' ob q=>by
  rw [q.1] at s7
  refine aq (o.lo.ref key m' z.2.2.1 z.2.2.2.2 s7 q.2.2.1) λk o' y=>?_
  rw [w.1,e] at y
  cases y.1
  rw [y.2.2.2];rfl
 refine z.1▸ak l.l0 (ak l.l1 (ad F3.pg.at_ (F3.pg.rf.idx w.1 λu ru=>?_)))
 refine (jn m F3.Au o.Lw ru DL (o.RL.2 _ (cB w.1)).2 λH4 f4=>?_)
 have F4:=F3.mn f4
 refine ak l.l2 (ak l.l3 (F4.rf.idx z.2.1 λu ru=>(jn m F4.rs o.ok ru there (o.pg.ok.2 _ (cB s7)).2 λH5 f5=>?_)))
 exact (FC DL).eq w.2 (hC _ H5 ⟨⟨l.l0,l.l1,l.l2,l.l3,l.l4⟩,(J.2.tr f4).tr f5⟩)
end
structure An (P:Nat->Prop) (docs:List Doc) (H:HP) (s t rf ff:Nat) (D:Doc) (fd:Di) (x:Nat × (Int × Di)):Prop where
 doc:docs[x.1]? =some D
 rs:RS P H s t D.tab D.tr
 V5:rf < H.n
 QF:H.g rf=cJ x.2.1
 rd:RD P H ff fd
 fl:fd.length < 64
 look:∀key,look key fd=look key x.2.2
noncomputable def y7 (i s rf ff:Nat):AV:= .tup [.int i,.ref s,.ref rf,.ref ff]
noncomputable def dL (P:Nat->Prop) (docs:List Doc) (H:HP) (v:AV) (x:Nat × (Int × Di)):Prop:=∃s t rf ff D fd,v=y7 x.1 s rf ff/\An P docs H s t rf ff D fd x
theorem An.mn {P:Nat->Prop} {docs:List Doc} {H H':HP} {s t rf ff:Nat} {D:Doc} {fd:Di} {x:Nat × (Int × Di)} (f:ai aJ H H') (r:An P docs H s t rf ff D fd x):An P docs H' s t rf ff D fd x:=⟨r.doc,r.rs.mn f,f.lt r.V5,f.fix r.V5 r.QF rfl,r.rd.mn f,r.fl,r.look⟩
theorem dL.mn {P:Nat->Prop} {docs:List Doc} {H H':HP} (f:ai aJ H H') {v:AV} {x:Nat × (Int × Di)} (r:dL P docs H v x):dL P docs H' v x:=r.imp λzz r=>r.imp λzz r=>r.imp λzz r=>r.imp λzz r=>r.imp λzz r=>r.imp λzz r=>⟨r.1,r.2.mn f⟩
theorem Hd {a b:List (Int × Int)}:FR (a++b)=FR a++FR b:=aaL
theorem FL {n q:Int} {tbl:List (Int × Int)} (h:ae n tbl= .none):bT (.int n) (pr q) (FR tbl)=FR (tbl++[(n,q)]):=(dY λhm=>by
 have:=getD_some.mpr hm
 rw [iz,h] at this
 exact absurd this aaE).trans (by rw [Hd];rfl)
structure NP where
 P:Nat->Prop
 PR:Nat->Prop
 H:HP
 wl:Nat
 ra:Nat
 b:Nat
 ms:Nat
 mt:Nat
 docs:List Doc
 pl:Pl
 aa:List (Int × Ob)
 E:List (Nat × Int)
 ws:List AV
 rows:List AV
structure Ff (c:NP):Prop where
 JF:c.wl < c.H.n
 ew:c.H.g c.wl= .list c.ws
 hw:L2 (dL c.P c.docs c.H) c.ws c.pl
 Hi:c.ra < c.H.n
 er:c.H.g c.ra= .list c.rows
 hr:L2 (dV c.PR c.H) c.rows (ql c.pl c.E)
 hb:c.H.n<=c.b
 hd:c.docs.length<=2
 gy:c.pl.length<=60
 Au:RS c.PR c.H c.ms c.mt c.aa K9
 ok:eZ c.docs c.pl c.aa c.E
 hp:fx c.docs c.pl
 obs:∀D∈c.docs,∀w∈D.tab,de w.2
 neg:∀D∈c.docs,D.bs (-1)=false
noncomputable def Nk (b:Nat):List AV:=[.ref b,.ref (b+1)]
theorem s8 {b i:Nat} (h:i < 2):(Nk b)[i]? =some (.ref (b+i)):=match i,h with
 | 0,_=>rfl
 | 1,_=>rfl
 | i+2,h=>absurd h (aaP.mpr (abn 2 i))
structure jM (c:NP) (T:Nat->List (Int × Int)) (loc:Loc) (H:HP):Prop where
 aD:ai aJ c.H H
 Ab:c.b+2 < H.n
 Gy:H.g (c.b+2)= .list (Nk c.b)
 ed:∀i,i < 2->H.g (c.b+i)= .dict (FR (T i))
 l0:loc "made"= .ref c.ms
 l1:loc "row"= .ref c.ra
 l2:loc "wanted"= .ref c.wl
 l3:loc "places"= .ref (c.b+2)
noncomputable def EE:SL:= .cons (.bR ["which","shelf","reference","fields"] (.idx (.loc "wanted") (.loc "at"))) (.o (.bA (.cmp .cK (.fld (.loc "reference") "number") (.idx (.loc "places") (.loc "which"))) (.o (.b3 (.idx (.loc "places") (.loc "which")) (.fld (.loc "reference") "number") (.ay (.fld (.idx (.loc "row") (.loc "at")) "reference") "pair" .nil))) .nil))
noncomputable def CB:SL:= .cons (.bR ["which","shelf","reference","fields"] (.idx (.loc "wanted") (.loc "at"))) (.cons (.bA (.cmp .ne (.ay (.idx (.fld (.idx (.loc "row") (.loc "at")) "fields") (.str "Parent")) "pair" .nil) (.ay (.idx (.ay (.loc "made") "root" .nil) (.str "Pages")) "pair" .nil)) (.o (.ret (.bool false))) .nil) (.o (.bA (.not (.call "_law_page_fits" (.cons (.loc "made") (.cons (.idx (.loc "row") (.loc "at")) (.cons (.loc "shelf") (.cons (.loc "fields") (.o (.idx (.loc "places") (.loc "which"))))))))) (.o (.ret (.bool false))) .nil)))
noncomputable def pV:XL:= .o (.prim "len" (.o (.loc "row")))
section
variable {G:Nat->aj} {H H':HP} {QS:KS} {k:Nat} {c:NP} {loc:Loc}
theorem pC {pl:Pl} {E:List (Nat × Int)}:(ql pl E).length=pl.length:=(aaB _).trans List.length_range
theorem zC {pl:Pl} {E:List (Nat × Int)} {j:Nat} (h:j < pl.length):(ql pl E)[j]? =some (3+(j:Int),mx pl E j):=by rw [ql,abc,List.getElem?_range h];rfl
theorem vX {T:Nat->List (Int × Int)} {b:SL} (ok:Ff c) (I:jM c T loc H) (J:Nat->Loc->HP->Prop) (h0:J 0 loc H) (step:∀j,j < c.pl.length->∀loc H (C:KS),J j loc H->(∀loc' H',J (j+1) loc' H'->C .next loc' H')->b (G k) (loc.upd "at" (.int j)) H C) (hQ:∀loc H,J c.pl.length loc H->QS .next loc H):
  S.bX (.nm "at") .aE pV b (G k) loc H QS:=by
 refine ak I.l1 (ad (I.aD.keep ok.Hi ok.er) ?_)
 refine (?_:xJ (.nm "at") .aE (b (G k)) loc QS [.int c.rows.length] H)
 rw [ok.hr.len,pC]
 exact D7 (aaw ok.gy (by decide)) J (λj hj loc H C h hC zz=>step j hj loc H C h hC) h0 hQ
theorem wN (m:aQ G) (ok:Ff c) (I:jM c (λi=>fJ i []) loc H) (h:∀H' loc',jM c (λi=>fJ i (cw c.pl)) loc' H'->QS .next loc' H'):S.bX (.nm "at") .aE pV EE (G (k+1)) loc H QS:=by
 have UG:(cw c.pl).length=c.pl.length:=aaB _
 refine vX ok I (λj=>jM c λi=>fJ i ((cw c.pl).take j)) I (λj hj loc' H' C I hC=>?_) λloc' H' I=>h H' loc' (by
  have e:(cw c.pl).take c.pl.length=cw c.pl:=UG▸List.take_length
  replace I:=(e)▸I;exact I)
 have T5:c.pl[j]? =some c.pl[j]:=aaR hj
 generalize c.pl[j]=x at T5
 obtain ⟨i,n,d⟩:=x
 refine (ok.hw.get T5).elim λv q=>iE q.2 λs t rf ff D fd z=>?_
 have w:=z.2.mn I.aD
 have i2:i < 2:=aax (aaZ.mp w.doc).1 ok.hd
 have Yh:(cw c.pl)[j]? =some (i,n):=by unfold cw;rw [abc,T5];rfl
 have step:∀i',fJ i' ((cw c.pl).take (j+1))=if i=i' then hU n (3+(j:Int)) (fJ i' ((cw c.pl).take j)) else fJ i' ((cw c.pl).take j):=λi'=>by
  rw [jf Yh,fX,List.length_take,Nat.min_eq_left ((UG)▸aaI hj)]
 have ed:=I.ed i i2
 refine ak I.l2 (ad (I.aD.keep ok.JF ok.ew) (dE (v:=y7 i s rf ff) (q.1.trans (congrArg some z.1)) (ad w.QF (ak I.l3 (ad I.Gy (dE (v:=AV.ref (c.b+i)) (s8 i2) (ad ed ⟨eV,qX (congrArg Option.isSome iz) ?_⟩)))))))
 cases wM:ae n (fJ i ((cw c.pl).take j)) with
 | some x=>
  refine hC _ H' ⟨I.aD,I.Ab,I.Gy,λi' h2=>(I.ed i' h2).trans (congrArg (λt=>AO.dict (FR t)) ?_),I.l0,I.l1,I.l2,I.l3⟩
  rw [step]
  by_cases e:i=i'
  .rw [if_pos e,<-e,hU,wM];rfl
  .rw [if_neg e]
 | none=>
  refine (ok.hr.get (zC hj)).elim λpv y=>bj y.2 λpa pb pf u=>?_
  have pg:=u.2.mono I.aD aV
  refine ak I.l1 (ad (I.aD.keep ok.Hi ok.er) (dE (v:=AV.ref pa) (y.1.trans (congrArg some u.1)) (ad pg.at_ (ad pg.Go (cP m pg.Go (ak I.l3 (ad I.Gy (dE (v:=AV.ref (c.b+i)) (s8 i2) (ad w.QF (ad ed ⟨eV,?_,m6 ed λH2 f2 n2 e2=>?_⟩))))))))))
  .refine aaz (aaw (aaS (aaB _)) (aaw s6 (aaw (List.length_take_le' ..) (aaw (aaS UG) ok.gy)))) (by decide)
  .refine hC _ H2 ⟨I.aD.up f2 (aaw ok.hb (aaM ..)),n2▸I.Ab,f2.ne I.Ab I.Gy λe=>aaN i2 (Nat.add_left_cancel e),λi' h2=>?_,I.l0,I.l1,I.l2,I.l3⟩
   rw [step]
   by_cases e:i=i'
   .rw [if_pos e,<-e,hU,wM]
    exact e2.trans (congrArg AO.dict (FL wM))
   .rw [if_neg e]
    exact f2.ne (aaA (abr h2 _) I.Ab) (I.ed i' h2) λq=>e (Nat.add_left_cancel q).symm
theorem Bs (m:aQ G) (ok:Ff c) (I:jM c (λi=>fJ i (cw c.pl)) loc H) (h:∀H' loc',jM c (λi=>fJ i (cw c.pl)) loc' H'->QS .next loc' H'):S.bX (.nm "at") .aE pV CB (G (k+8)) loc H QS:=by
 refine vX ok I (λzz=>jM c λi=>fJ i (cw c.pl)) I (λj hj loc' H' C I hC=>?_) λloc' H' I=>h H' loc' I
 refine (gz ok.ok ok.hp hj).elim λi z=>z.elim λn z=>z.elim λd z=>z.elim λD0 p=>(ok.hw.get p.at_).elim λv q=>q.2.elim λs z=>z.elim λt z=>z.elim λrf z=>z.elim λff z=>z.elim λD z=>z.elim λfd z=>?_
 have w:=z.2.mn I.aD
 cases p.doc.symm.trans w.doc
 have i2:i < 2:=aax (aaZ.mp w.doc).1 ok.hd
 have VO:=aaO p.doc
 have RL:eI (mx c.pl c.E j):=ok.ok.Jp _ (bp p.tb)
 have Au:=ok.Au.mn I.aD
 refine (ok.hr.get (zC hj)).elim λpv y=>y.2.elim λpa u=>u.elim λpb u=>u.elim λpf u=>?_
 have pg:=u.2.mono I.aD aV
 have er:=I.aD.keep ok.Hi ok.er
 have Rm:c.rows[j]? =some (.ref pa):=y.1.trans (congrArg some u.1)
 refine ak I.l2 (ad (I.aD.keep ok.JF ok.ew) (dE (v:=y7 i s rf ff) (q.1.trans (congrArg some z.1)) (ak I.l1 (ad er (dE (v:=AV.ref pa) Rm (ad pg.at_ (pg.rf.idx p.lo.parent λu1 r1=>r1.elim λrb SJ=>SJ.1▸ad SJ.2.2 (cP m SJ.2.2 (ak I.l0 (Au.ins.elim λr' XM=>ad XM.1 (sK m Au aY ok.ok.root λca M4=>M4.idx (key:="Pages") (va:= .at (.ref 2)) rfl λu2 r2=>r2.elim λrc TI=>TI.1▸ad TI.2.2 (cP m TI.2.2 ⟨⟨rfl,rfl⟩,?_⟩))))))))))))
 refine ak I.l0 (ak I.l1 (ad er (dE (v:=AV.ref pa) Rm (ak I.l3 (ad I.Gy (dE (v:=AV.ref (c.b+i)) (s8 i2) (uU m (c:=⟨c.PR,c.P,c.P,c.ms,c.mt,s,t,pa,pb,pf,ff,c.b+i,i,c.docs,c.pl,c.aa,c.E,D0,d,mx c.pl c.E j,fd,K9,3+(j:Int)⟩) ⟨ok.ok.Jp,ok.obs D0 VO,w.fl,w.look,p.lo,p.pg,RL,tF ok.hp p.doc (ok.neg D0 VO)⟩ ⟨Au,pg,w.rs,w.rd,aaA (abr i2 _) I.Ab,I.ed i i2⟩ λH2 f2=>hC _ H2 ⟨I.aD.tr f2,f2.lt I.Ab,f2.keep I.Ab I.Gy,λi' h2=>f2.keep (aaA (abr h2 _) I.Ab) (I.ed i' h2),I.l0,I.l1,I.l2,I.l3⟩)))))))
end
theorem vT {k v:AV} {es:List (AV × AV)} (h:k∈es.map (·.1)):(bT k v es).length=es.length:=by
 induction es with
 | nil=>cases h
 | cons e r ih=>
  by_cases q:e.1=k
  .rw [show bT k v (e::r)=(k,v)::r from q▸lS];rfl
  .rw [show bT k v (e::r)=_ from iN q,aa2,ih ((aaH.mp h).resolve_left (abm q))];rfl
theorem yh {α:Type} (f g:α->AV) (l:List α):(∀a∈l,∀b∈l,f a=f b ↔ g a=g b)->(b8 (l.map f)).length=(b8 (l.map g)).length:=by
 refine f0 (p:=λl=>(∀a∈l,∀b∈l,f a=f b ↔ g a=g b)->(b8 (l.map f)).length=(b8 (l.map g)).length) (λzz=>rfl) (λl x ih h=>?_) l
 have ih:=ih λa ha b hb=>h a (aa3 _ ha) b (aa3 _ hb)
 have key:f x∈(b8 (l.map f)).map (·.1) ↔ g x∈(b8 (l.map g)).map (·.1):=by
  rw [cr,cr,aaG,aaG]
  exact exists_congr λy=>and_congr_right λhy=>h y (aa3 _ hy) x (aaT _ (.head _))
 rw [aaL,aaL,List.map_singleton,List.map_singleton,fY,fY]
 refine (Classical.em (f x∈(b8 (l.map f)).map (·.1))).elim (λq=>?_) λq=>?_
 .rw [vT q,vT (key.mp q),ih]
 .rw [dY q,dY λz=>q (key.mpr z),aaD,aaD,ih];rfl
theorem BF {ks:List AV} (h:(b8 ks).length=1) {a b:AV} (ha:a∈ks) (hb:b∈ks):a=b:=by
 have h1:=(cr ks a).mpr ha
 have h2:=(cr ks b).mpr hb
 obtain ⟨x,q⟩:=List.length_eq_one_iff.mp h
 rw [q] at h1 h2
 exact (aaK.mp h1).trans (aaK.mp h2).symm
theorem EA:bt (bH sV)=[.str "Pages",.str "Type"]:=by decide+kernel
theorem yH:bt [.str "Type",.str "Kids",.str "Count"]=[.str "Count",.str "Kids",.str "Type"]:=by decide+kernel
noncomputable def SI:Va->Int
 | .at (.ref q)=>q
 | _=>0
noncomputable def cq (L:Di):Int:=((look "Contents" L).map SI).getD 0
noncomputable def RZ:Option Ob->String
 | some (.stream [] _)=>tA
 | _=>tB
noncomputable def Pj (aa:List (Int × Ob)) (L:Di):String:=RZ (ah (cq L) aa)
theorem Xa:tA≠tB:=by decide+kernel
section
variable {docs:List Doc} {pl:Pl} {aa:List (Int × Ob)} {E:List (Nat × Int)}
structure Kj (pl:Pl) (aa:List (Int × Ob)) (E:List (Nat × Int)) (j i k:Nat) (m:Int):Prop where
 look:look "Contents" (mx pl E j)=some (.at (.ref (cq (mx pl E j))))
 eq:cq (mx pl E j)=3+(pl.length:Int)+k
 ent:E[k]? =some (i,m)
 is:(m=3/\ah (cq (mx pl E j)) aa=some KX)\/(m=4/\ah (cq (mx pl E j)) aa=some LV)
theorem sI {j i:Nat} {n:Int} {d:Di} {D:Doc} (p:tZ docs pl aa E j i n d D) (hb:D.bs 3=false/\D.bs 4=false):∃k m,Kj pl aa E j i k m:=by
 have go:∀{m:Int} {o:Ob},look "Contents" d=some (.at (.ref m))->D.bs m=false->ah m D.tab=some o->∃k:Nat,(look "Contents" (mx pl E j)=some (.at (.ref (cq (mx pl E j))))/\cq (mx pl E j)=3+(pl.length:Int)+k)/\E[k]? =some (i,m)/\ah (cq (mx pl E j)) aa=some o:=λe hm ho=>by
  refine aq (p.lo.ref "Contents" _ (by decide) (by decide) e hm) λk o' z=>⟨k,?_⟩
  have q:cq (mx pl E j)=3+(pl.length:Int)+k:=by unfold cq;rw [z.1];rfl
  rw [q]
  obtain rfl:=aay (z.2.2.1.symm.trans ho)
  exact ⟨⟨z.1,rfl⟩,z.2.1,z.2.2.2⟩
 exact p.pg.cont.elim (λc=>(go c.1 hb.1 c.2).elim λk z=>⟨k,3,z.1.1,z.1.2,z.2.1,.inl ⟨rfl,z.2.2⟩⟩) λc=>(go c.1 hb.2 c.2).elim λk z=>⟨k,4,z.1.1,z.1.2,z.2.1,.inr ⟨rfl,z.2.2⟩⟩
theorem B5 (ok:eZ docs pl aa E) (hp:fx docs pl) (hb:∀D∈docs,D.bs 3=false/\D.bs 4=false) (one:(b8 (pl.map λx=>AV.int x.1)).length=1):
  (b8 ((ql pl E).map λx=>AV.int (cq x.2))).length=(b8 ((ql pl E).map λx=>AV.str (Pj aa x.2))).length:=by
 refine yh _ _ _ λa ha b W4=>⟨λe=>congrArg (λq=>AV.str (RZ (ah q aa))) (AV.int.inj e),λe=>?_⟩
 have e:=AV.str.inj e
 refine (aaG.mp ha).elim λj z=>(aaG.mp W4).elim λj' z'=>?_
 refine bG (gz ok hp (List.mem_range.mp z.1)) λi n d D p=>?_
 refine bG (gz ok hp (List.mem_range.mp z'.1)) λi' n' d' D' p'=>?_
 refine aq (sI p (hb D (aaO p.doc))) λk m w=>aq (sI p' (hb D' (aaO p'.doc))) λk' m' w'=>?_
 rw [<-z.2,<-z'.2] at e ⊢
 have e:RZ (ah (cq (mx pl E j)) aa)=RZ (ah (cq (mx pl E j')) aa):=e
 have mm:m=m':=by
  rcases w.is with a | a<;>rcases w'.is with b | b<;>rw [a.2,b.2] at e
  .exact a.1.trans b.1.symm
  .exact absurd e Xa
  .exact absurd e.symm Xa
  .exact a.1.trans b.1.symm
 have h1:=iT (q:=0) ok.nd w.ent
 rw [(show i=i' from Int.ofNat.inj (AV.int.inj (BF one (aaG.mpr ⟨_,aaO p.at_,rfl⟩) (aaG.mpr ⟨_,aaO p'.at_,rfl⟩)))),mm] at h1
 show AV.int (cq (mx pl E j))= .int (cq (mx pl E j'))
 rw [w.eq,w'.eq,Int.add_left_cancel (aay (h1.symm.trans (iT (q:=0) ok.nd w'.ent)))]
end
noncomputable def OP:SL:= .cons (.set "contents" (.prim "dict" (.o (.aC (.tup (.cons (.prim "repr" (.o (.call "_law_unfolded" (.cons (.loc "made") (.o (.idx (.fld (.loc "page") "fields") (.str "Contents"))))))) (.o (.bool true)))) (.nm "page") .plain (.o (.loc "row")) X.yes)))) (.cons (.set "numbers" (.prim "dict" (.o (.aC (.tup (.cons (.fld (.idx (.fld (.loc "page") "fields") (.str "Contents")) "number") (.o (.bool true)))) (.nm "page") .plain (.o (.loc "row")) X.yes)))) (.o (.ret (.or (.cmp .ne (.prim "len" (.o (.prim "dict" (.o (.aC (.tup (.cons (.idx (.loc "shelf_at") (.int 0)) (.o (.bool true)))) (.nm "shelf_at") .plain (.o (.loc "wanted")) X.yes))))) (.int 1)) (.cmp .eq (.prim "len" (.o (.loc "numbers"))) (.prim "len" (.o (.loc "contents"))))))))
section
variable {G:Nat->aj} {H H':HP} {Q:KV} {QS:KS} {k:Nat} {c:NP} {loc:Loc}
theorem LS (m:aQ G) (ok:Ff c) {T:Nat->List (Int × Int)} (I:jM c T loc H) (hb:∀D∈c.docs,D.bs 3=false/\D.bs 4=false) (h:∀H',ai aJ H H'->Q (.bool true) H'):OP (G (k+8)) loc H (eF Q):=by
 have er:=I.aD.keep ok.Hi ok.er
 have Hi:=I.aD.lt ok.Hi
 have rl:c.rows.length<=lim:=by rw [ok.hr.len,pC];exact aaw ok.gy (by decide)
 have at_:∀x∈ql c.pl c.E,∃o,look "Contents" x.2=some (.at (.ref (cq x.2)))/\ah (cq x.2) c.aa=some o/\∀{Q:KV} {H:HP},Q (.str (Pj c.aa x.2)) H->G (k+8) "repr" [wD o] H Q:=λx hx=>(aaG.mp hx).elim λj z=>bG (gz ok.ok ok.hp (List.mem_range.mp z.1)) λi n d D p=>aq (sI p (hb D (aaO p.doc))) λkk mm w=>by
  rw [<-z.2]
  refine w.is.elim (λa=>⟨KX,w.look,a.2,λq=>m.rA ?_⟩) λa=>⟨LV,w.look,a.2,λq=>m.rB ?_⟩
  .unfold Pj at q;rw [a.2] at q;exact q
  .unfold Pj at q;rw [a.2] at q;exact q
 refine ak I.l1 (dA (aH er) Hi (λx:Int × Di=>.str (Pj c.aa x.2)) (ok.hr.imp λzz zz r=>dV.mn I.aD r).wm rl (kQ (n:=1) (λzz=>rfl) (by decide)) (λv x H' C N rv f y=>?_) λH1 ca f1 Mi qg e1=>?_)
 .refine bj rv.1 λpa pb pf z=>(at_ x rv.2).elim λo w=>?_
  have pg:=z.2.mono f aV
  refine z.1▸ak I.l0 (ad pg.at_ (pg.rf.idx w.1 λu ru=>jn m ((ok.Au.mn I.aD).mn f) ok.ok.Jp ru (λn e=>by cases e;rw [w.2.1];rfl) trivial λH2 f2=>?_))
  exact (kE w.2.1)▸w.2.2 (y H2 (f.tr f2))
 refine ak I.l1 (dA (aH (f1.keep Hi er)) (f1.lt Hi) (λx:Int × Di=>.int (cq x.2)) (ok.hr.imp λzz zz r=>dV.mn (I.aD.tr f1) r).wm rl (kQ (n:=2) (λzz=>rfl) (by decide)) (λv x H' C N rv f y=>?_) λH2 na f2 qw lg e2=>?_)
 .refine bj rv.1 λpa pb pf z=>(at_ x rv.2).elim λo w=>?_
  have pg:=z.2.mono f aV
  exact z.1▸ad pg.at_ (pg.rf.idx w.1 λu ru=>ru.elim λa q=>q.1▸ad q.2.2 (y H' f))
 have fS:=(I.aD.tr f1).tr f2
 refine ak I.l2 (dA (aH (fS.keep ok.JF ok.ew)) (fS.lt ok.JF) (λx:Nat × (Int × Di)=>.int x.1) ok.hw (by rw [ok.hw.len];exact aaw ok.gy (by decide)) (kQ (n:=2) (λzz=>rfl) (by decide)) (λv x H' C N rv f y=>?_) λH3 wa f3 BP Bj e3=>?_)
 .exact iE rv λs t rf ff D fd z=>z.1▸y H' f
 have fin:=h H3 ((f1.tr f2).tr f3)
 refine ad e3 (yC (λone=>?_) λzz=>fin)
 exact ad (f3.keep lg e2) (ad ((f2.tr f3).keep qg e1) (MR (congrArg (λ(n:Nat)=>(n:Int)) (B5 ok.ok ok.hp hb (Int.ofNat.inj one))) fin))
end
noncomputable def Pk:At->AV
 | .ref n=>pr n
 | _=>.none
structure X1 (P PM:Nat->Prop) (H:HP) (ms mt wl:Nat) (docs:List Doc) (pl:Pl) (aa:List (Int × Ob)) (E:List (Nat × Int)) (ws:List AV):Prop where
 Au:RS PM H ms mt aa K9
 ok:eZ docs pl aa E
 hp:fx docs pl
 obs:∀D∈docs,∀w∈D.tab,de w.2
 neg:∀D∈docs,D.bs (-1)=false
 hb:∀D∈docs,D.bs 3=false/\D.bs 4=false
 hd:docs.length<=2
 gy:pl.length<=60
 JF:wl < H.n
 ew:H.g wl= .list ws
 hw:L2 (dL P docs H) ws pl
section
variable {G:Nat->aj} {H H':HP} {Q:KV} {QS:KS} {k:Nat} {c:NP} {loc:Loc} {P PM:Nat->Prop}
theorem Ci {pl:Pl} {E:List (Nat × Int)}:((c0 pl.length).map At.ref).map Pk=(ql pl E).map λx=>pr x.1:=by
 delta c0 ql
 rw [aa5,aa5,aa5];rfl
theorem B0 {xs:List (Int × Di)}:AV.d9 (xs.map λx=>pr x.1) eH=true:=bZ λv hv=>(aaG.mp hv).elim λx z=>z.2▸rfl
noncomputable def Oh:SL:= .cons (.bX (.nm "at") .aE pV EE) (.cons (.bX (.nm "at") .aE pV CB) OP)
theorem GV (m:aQ G) (ok:Ff c) (I:jM c (λi=>fJ i []) loc H) (hb:∀D∈c.docs,D.bs 3=false/\D.bs 4=false) (h:∀H',ai aJ c.H H'->Q (.bool true) H'):Oh (G (k+8)) loc H (eF Q):=
 wN m ok I λH14 loc I1=>Bs m ok I1 λH15 loc I2=>LS m ok I2 hb λU6 MD=>h U6 (I2.aD.tr MD)
theorem uw (m:aQ G) {ms mt wl:Nat} {docs:List Doc} {pl:Pl} {aa:List (Int × Ob)} {E:List (Nat × Int)} {ws:List AV} (B:X1 P PM H ms mt wl docs pl aa E ws) (h:∀H',ai aJ H H'->Q (.bool true) H'):G (k+9) "_law_made_fits" [.ref ms,.ref wl] H Q:=by
 refine m.run 51 rfl rfl rfl (jJ m B.Au (B3 B.ok B.hp B.gy) B.ok.Jp λH1 ra vs f1 h1 h2 h3 h4=>?_)
 replace h4:=(yi)▸h4
 have vl:vs.length=pl.length:=h4.len.trans pC
 have Cm:RS (bh PM H.n) H1 ms mt aa K9:=B.Au.mono f1 (λzz zz h=>⟨id,.inl h⟩) id id
 refine Cm.ins.elim λr e1=>ad e1.1 (ad e1.1 (sK m Cm aY B.ok.root λca M4=>sr m Cm M4 (key:="Pages") (n:=2) rfl B.ok.node λu ru=>ru.elim λna q=>q.1▸ ?_))
 have rn:=q.2
 refine ad h3 (ad (f1.keep B.JF B.ew) (MR (congrArg (λ(n:Nat)=>(n:Int)) (vl.trans B.hw.len.symm)) (ad e1.1 (sK m Cm aY B.ok.root λcb ZS=>ZS.sorted (d:=sV) (by decide) λH2 b f2 qw lg e2=>cN λH3 f3 n3 e3=>?_))))
 rw [EA] at e2
 refine dM (f3.keep lg e2) e3 rfl ?_
 have m8:=f2.tr f3
 refine (Cm.mn m8).ins.elim λr' Xm=>ad Xm.1 (Xm.2.sorted (by decide) λH4 b4 f4 Ta nv e4=>cN λH5 f5 n5 e5=>dM (f5.keep nv e4) e5 rfl ?_)
 have O4:=(m8.tr f4).tr f5
 refine (rn.mn O4).sorted (by decide:3 < 64) λH6 b6 f6 le6 Zv e6=>cN λH7 f7 n7 e7=>?_
 refine dM (f7.keep Zv (e6.trans (congrArg AO.list yH))) e7 rfl ?_
 have Rx:=(O4.tr f6).tr f7
 refine (rn.mn Rx).idx (key:="Count") (va:= .at (.int pl.length)) rfl λu ru=>(show u= .int pl.length from ru)▸ad (Rx.keep h2 h3) (MR (congrArg (λ(n:Nat)=>(n:Int)) vl.symm) ?_)
 refine wS m (Cm.mn Rx) B.ok.Jp ⟨by decide,λx hx=>aaK.mp hx▸⟨nofun,trivial⟩⟩ (λC uh n hn=>D9 B.ok B.hp C uh n hn) λH8 ua f8 le8 Y8 e8=>cN λH9 f9 n9 e9=>dM (f9.keep Y8 e8) e9 rfl ?_
 have VV:=(Rx.tr f8).tr f9
 refine (rn.mn VV).idx (key:="Kids") (va:= .arr ((c0 pl.length).map At.ref)) rfl λu ru=>aq ru λka kvs z=>z.1▸ ?_
 refine dS (aH z.2.2.1) z.2.1.1 Pk z.2.2.2.wm (by rw [z.2.2.2.len,aaB,gI];exact aaw B.gy (by decide)) (λv a H' C N rv f y=>?_) λHA Z7 Rd Y9 lt10 Sy=>?_
 .refine (aaG.mp rv.2).elim λq w=>?_
  rw [<-w.2] at rv y
  exact (rv.1.mono f).elim λb w=>w.1▸ad w.2.2 (cP m w.2.2 (y H' f))
 have RJ:=VV.tr Rd
 refine dS (aH (RJ.keep h2 h3)) (RJ.lt h2) (λx:Int × Di=>pr x.1) (h4.imp λzz zz r=>dV.mn RJ r) (vl▸aaw B.gy (by decide)) (λv x H' C N rv f y=>?_) λHB Z6 Xi XZ Xu Za=>?_
 .exact bj (dV.mn f rv) λpa pb pf w=>w.1▸ad w.2.at_ (ad w.2.Go (cP m w.2.Go (y H' f)))
 refine dM (Xi.keep lt10 (Sy.trans (congrArg AO.list Ci))) Za B0 ?_
 have Xf:=RJ.tr Xi
 refine cN λHC pL qM UR=>cN λHD m8 Ua Sa=>cN λHE MK Yo ZT=>?_
 have nD:HD.n=HB.n+2:=by rw [Ua,qM]
 have Ng:HB.n < HC.n:=qM▸aaC _
 have ZR:HB.n+1 < HD.n:=nD▸aaC _
 refine GV m (c:=⟨P,bh PM H.n,H1,wl,ra,HB.n,ms,mt,docs,pl,aa,E,ws,vs⟩) (⟨f1.lt B.JF,f1.keep B.JF B.ew,B.hw.imp λzz zz r=>r.mn f1,h2,h3,h4,Xf.le,B.hd,B.gy,Cm,B.ok,B.hp,B.obs,B.neg⟩) ⟨Xf.tr ((pL.tr m8).tr MK),?_,?_,λi hi=>?_,rfl,rfl,rfl,congrArg AV.ref nD⟩ B.hb λU6 MD=>h U6 (f1.tr MD)
 .show HB.n+2 < HE.n
  rw [Yo,nD];exact aaC _
 .show HE.g (HB.n+2)=_
  rw [<-nD,ZT,qM];rfl
 .match i,hi with
  | 0,_=>exact (m8.tr MK).keep Ng UR
  | 1,_=>exact MK.keep ZR (qM▸Sa)
  | i+2,hi=>exact absurd hi (aaP.mpr (abn 2 i))
end
noncomputable def aO (H:HP) (p B:Nat):Prop:=p < H.n/\∃N c:Nat,H.g p= .list [.int N,.int c]/\c<=B
section
variable {G:Nat->aj} {H H':HP} {Q:KV} {QS:KS} {k:Nat} {S:Nat->Prop} {loc:Loc}
theorem aO.mono {p B:Nat} (f:ai S H H') (hs:¬S p) (h:aO H p B):aO H' p B:=⟨f.lt h.1,h.2.imp λzz r=>r.imp λzz r=>⟨f.at h.1 hs r.1,r.2⟩⟩
theorem aO.up {p B B':Nat} (h:aO H p B) (hb:B<=B'):aO H p B':=⟨h.1,h.2.imp λzz r=>r.imp λzz r=>⟨r.1,aaw r.2 hb⟩⟩
noncomputable def Qk (H:HP) (p B M:Nat) (Q:KV):Prop:=∀H' (r:Nat),ai (atS p) H H'->H'.n=H.n->aO H' p (B+1)->r < M->Q (.int r) H'
theorem CC {a b:Nat}:((a:Int).fdiv b)=((a / b:Nat):Int):=(Int.fdiv_eq_ediv_of_nonneg _ (aa0 b)).trans (Int.natCast_ediv a b).symm
theorem wf {a b:Nat}:((a:Int).fmod b)=((a % b:Nat):Int):=(Int.fmod_eq_emod_of_nonneg _ (aa0 b)).trans (Int.natCast_emod a b).symm
theorem fu (m:aQ G) {p B M:Nat} (hp:aO H p B) (hB:B < 100000) (h0:0 < M) (h1:M < 1000) (h:Qk H p B M Q):G (k+1) "_law_draw" [.ref p,.int M] H Q:=by
 have hM:(0:Int) < M:=abA.mpr h0
 refine aq hp.2 λN c z=>?_
 have e:=z.1
 refine m.run 44 rfl rfl rfl (ad e (ad e ⟨(by decide:1 < 2),m6 e λH1 f1 n1 e1=>ad e1 (yC (λhN=>?_) λzz=>?_)⟩))
 .refine ad e1 ⟨hM,ad e1 ⟨⟨hM,abA.mpr (aaA h1 (by decide))⟩,ad e1 ⟨(by decide:0 < 2),m6 e1 λH2 f2 n2 e2=>?_⟩⟩⟩
  have e2:H2.g p= .list [.int ((N:Int).fdiv M),.int ((c:Int)+1)]:=e2
  rw [CC] at e2
  have:=h H2 (N % M) (f1.tr f2) (n2.trans n1) ⟨n2▸n1▸hp.1,_,c+1,e2,aa1 z.2⟩ (Nat.mod_lt _ h0)
  exact wf▸this
 .have bc:((c:Int)+1) < 1000000000:=abA.mpr (aaz (aa1 z.2) (aaA (abv hB) (by decide)))
  refine ad e1 (ad e1 ⟨.inl ⟨(Int.lt_of_lt_of_le (by decide) (aa0 (c+1))),bc⟩,hM,?_⟩)
  have:=h H1 (((c+1)*(c+1)+1) % M) f1 n1 ⟨n1▸hp.1,N,c+1,e1,aa1 z.2⟩ (Nat.mod_lt _ h0)
  rw [<-wf] at this
  exact this
theorem Oo (m:aQ G) {a:Nat} {is:List Int} (e:H.g a= .no (is.map AV.int)) (h:∀H' p,ai aJ H H'->H.n<=p->aO H' p 0->Q (.ref p) H'):G (k+1) "_law_pen" [.ref a] H Q:=by
 refine m.run 43 rfl rfl rfl (ad e (cN λH1 f1 n1 e1=>dE (aH e1) (Me AV.int (λ(zz:Unit) loc' H'=>H'=H1/\∃n:Nat,loc' "number"= .int n) (λzz zz=>()) (λJ=>bC ((J.1▸ .refl):ai aJ H1 _) (n1▸aaC _) id ⟨aH e1,rfl⟩) (is.take 24) (λi zz zz loc' H' C J hC=>?_) (st:=()) ⟨rfl,0,rfl⟩ (λloc' H' J=>J.2.elim λn l=>?_) List.map_take.symm)))
 rotate_left
 .exact ak l (cN λH2 f2 n2 e2=>h H2 _ ((J.1▸f1).tr f2) (J.1▸f1.le) ⟨n2▸aaC _,n,0,e2,aaF 0⟩)
 refine J.2.elim λn l=>?_
 have b1:big (1000003:Int):=⟨by decide,by decide⟩
 refine ak l ⟨.inl b1,.inr (⟨by decide,by decide⟩),yC (λhi=>?_) λhi=>?_⟩
 .exact hC _ H' ⟨J.1,n*1000003+2*i.natAbs+1+1,rfl⟩
 .exact hC _ H' ⟨J.1,n*1000003+2*i.natAbs+0+1,rfl⟩
end
noncomputable def d6 (va:Va):Prop:=(∃i,va= .at (.int i))\/(∃n,va= .at (.ref n)/\(n=1\/n=2))\/∃w,va= .arr [.int 0,.int 0,.int w,.int 7]
structure eY (d d':Di) (n:Nat):Prop where
 out:∀key,key ∉ ax->look key d'=look key d
 GS:∀key va,look key d'=some va->key∈ax->look key d=some va\/d6 va
 len:d'.length<=d.length+n
theorem eY.refl {d:Di}:eY d d 0:=⟨λzz zz=>rfl,λzz zz h zz=>.inl h,aaF _⟩
theorem eY.set {d d':Di} {n:Nat} (f:eY d d' n) {key:String} {va:Va} (hk:key∈ax) (hv:d6 va):eY d (cH key va d') (n+1):=by
 refine ⟨λx hx=>?_,λx v h hx=>?_,aaw b7 (aa1 f.len)⟩
 .rw [az,if_neg (λe:key=x=>hx (e▸hk))];exact f.out x hx
 .rw [az] at h
  by_cases e:key=x
  .rw [if_pos e] at h;exact .inr (aay h▸hv)
  .rw [if_neg e] at h;exact f.GS x v h hx
theorem eY.up {d d':Di} {n:Nat} (f:eY d d' n):eY d d' (n+1):=⟨f.out,f.GS,abx f.len⟩
noncomputable def F5:List At:=[.ref 1,.ref 2,.ref 3,.ref 4]
noncomputable def uD (H:HP) (ow:Nat):Prop:=ow < H.n/\∃vs,H.g ow= .list vs/\L2 (RA H) vs F5
theorem uD.mono {S:Nat->Prop} {H H':HP} {ow:Nat} (f:ai S H H') (hs:¬S ow) (h:uD H ow):uD H' ow:=⟨f.lt h.1,h.2.imp λzz r=>⟨f.at h.1 hs r.1,r.2.imp λzz zz r=>r.mono f⟩⟩
noncomputable def dN (M:Int):X:= .call "_law_draw" (.cons (.loc "pen") (.o (.int M)))
noncomputable def We:S:= .bA (.cmp .eq (dN 3) (.int 0)) (.o (.b3 (.loc "head") (.str "Rotate") (.bin .mul (.int 90) (dN 4)))) .nil
noncomputable def W3:S:= .bA (.cmp .eq (dN 3) (.int 0)) (.o (.b3 (.loc "head") (.str "Resources") (.idx (.loc "own") (dN 2)))) .nil
noncomputable def W8:S:= .bA (.cmp .eq (dN 4) (.int 0)) (.o (.b3 (.loc "head") (.idx (.tup (.cons (.str "MediaBox") (.o (.str "CropBox")))) (dN 2)) (.list (.cons (.int 0) (.cons (.int 0) (.cons (.bin .add (.int 1) (dN 9)) (.o (.int 7)))))))) .nil
noncomputable def Uf (p hd:Nat):Nat->Prop:=λx=>x=p\/x=hd
structure G8 where
 Z:Nat->Prop
 p:Nat
 hd:Nat
 ow:Nat
 H:HP
 d0:Di
structure mf (c:G8):Prop where
 zp:∀x,c.Z x->x≠c.p
 zn:∀x,c.H.n<=x->c.Z x
 ne:c.hd≠c.p
 ne2:c.hd≠c.ow
 now:c.ow≠c.p
 len:c.d0.length < 50
structure FS (c:G8) (H:HP) (B n:Nat) (d:Di):Prop where
 aD:ai (Uf c.p c.hd) c.H H
 cU:aO H c.p B
 own:uD H c.ow
 rd:RD c.Z H c.hd d
 fo:eY c.d0 d n
section
variable {G:Nat->aj} {H H':HP} {Q:KV} {QS:KS} {k B n:Nat} {loc:Loc} {c:G8} {d:Di}
theorem FS.draw (s:FS c H B n d) (ok:mf c) (f:ai (atS c.p) H H') (hp:aO H' c.p (B+1)):FS c H' (B+1) n d:=
 ⟨s.aD.tr (f.weak λzz zz q=>Or.inl q),hp,s.own.mono f ok.now,s.rd.mono f λa zz h=>⟨ok.zp a h,h⟩,s.fo⟩
theorem FS.up (s:FS c H B n d):FS c H (B+1) (n+1) d:=⟨s.aD,s.cU.up (aba _),s.own,s.rd,s.fo.up⟩
theorem FS.new (s:FS c H B n d) (f:ai aJ H H'):FS c H' B n d:=⟨s.aD.tn f,s.cU.mono f id,s.own.mono f id,s.rd.mn f,s.fo⟩
theorem FS.put (s:FS c H B n d) (ok:mf c) (hn:n < 4) {key:String} {u:AV} {va:Va} (ru:RV c.Z H u va) (hk:key∈ax) (hv:d6 va) {F:HP->Prop} (h:∀H',FS c H' B (n+1) (cH key va d)->F H'):ob (H.g c.hd) (u6 c.hd (.str key) u H F):=
 s.rd.set ru (aaz s.fo.len (aaA (Nat.add_lt_add ok.len hn) (by decide))) λH' f zz r=>h H' ⟨s.aD.tr (f.weak λzz zz q=>Or.inr q),s.cU.mono f (abm ok.ne),s.own.mono f (abm ok.ne2),r,s.fo.set hk hv⟩
theorem FS.pull (m:aQ G) (s:FS c H B n d) (ok:mf c) (hB:B < 90000) (l0:loc "pen"= .ref c.p) {M:Nat} (h0:0 < M) (h1:M < 1000) (h:∀H' (r:Nat),ai (atS c.p) H H'->FS c H' (B+1) n d->r < M->Q (.int r) H'):dN M (G (k+1)) loc H Q:=
 ak l0 (fu m s.cU (aaA hB (by decide)) h0 h1 λH1 r f1 zz Rw hr=>h H1 r f1 (s.draw ok f1 Rw) hr)
noncomputable def Ef (c:G8) (B n:Nat) (loc:Loc) (QS:KS):Prop:=∀H' d',FS c H' B n d'->QS .next loc H'
theorem NJ (m:aQ G) (s:FS c H B n d) (ok:mf c) (hn:n < 4) (hB:B < 80000) (l0:loc "pen"= .ref c.p) (l1:loc "head"= .ref c.hd) (h:Ef c (B+2) (n+1) loc QS):We (G (k+1)) loc H QS:=by
 refine s.pull m ok (aaA hB (by decide)) l0 (M:=3) (by decide) (by decide) λH1 r zz s1 zz=>yC (λzz=>?_) λzz=>h H1 d s1.up
 refine s1.pull m ok (aaA (abv hB) (by decide)) l0 (M:=4) (by decide) (by decide) λH2 r2 zz s2 zz=>⟨.inr ⟨by decide,by decide⟩,ak l1 ?_⟩
 exact s2.put ok hn (va:= .at (.int (90*r2))) rfl (by decide) (.inl ⟨_,rfl⟩) λH3 s3=>h H3 _ s3
theorem PF (m:aQ G) (s:FS c H B n d) (ok:mf c) (hn:n < 4) (hB:B < 80000) (l0:loc "pen"= .ref c.p) (l1:loc "head"= .ref c.hd) (l2:loc "own"= .ref c.ow) (h:Ef c (B+2) (n+1) loc QS):W3 (G (k+1)) loc H QS:=by
 refine s.pull m ok (aaA hB (by decide)) l0 (M:=3) (by decide) (by decide) λH1 r zz s1 zz=>yC (λzz=>?_) λzz=>h H1 d s1.up
 refine ak l2 (s1.pull m ok (aaA (abv hB) (by decide)) l0 (M:=2) (by decide) (by decide) λH2 r2 zz s2 hr=>s2.own.2.elim λvs o=>?_)
 have hi:F5[r2]? =some (.ref (r2+1))/\((r2:Int)+1=1\/(r2:Int)+1=2):=match r2,hr with
  | 0,_=>⟨rfl,.inl rfl⟩
  | 1,_=>⟨rfl,.inr rfl⟩
  | i+2,hi=>absurd hi (aaP.mpr (abn 2 i))
 refine (o.2.get hi.1).elim λu w=>ad o.1 (dE (v:=u) w.1 (ak l1 ?_))
 exact s2.put ok hn (va:= .at (.ref (r2+1))) w.2 (by decide) (.inr (.inl ⟨_,rfl,hi.2⟩)) λH3 s3=>h H3 _ s3
theorem Pn (m:aQ G) (s:FS c H B n d) (ok:mf c) (hn:n < 4) (hB:B < 80000) (l0:loc "pen"= .ref c.p) (l1:loc "head"= .ref c.hd) (h:Ef c (B+3) (n+1) loc QS):W8 (G (k+1)) loc H QS:=by
 refine s.pull m ok (aaA hB (by decide)) l0 (M:=4) (by decide) (by decide) λH1 r zz s1 zz=>yC (λzz=>?_) λzz=>h H1 d ⟨s1.aD,s1.cU.up (aaM _ 2),s1.own,s1.rd,s1.fo.up⟩
 refine s1.pull m ok (aaA (abv hB) (by decide)) l0 (M:=9) (by decide) (by decide) λH2 r2 zz s2 zz=>cN λH3 f3 n3 e3=>ak l1 ?_
 refine (s2.new f3).pull m ok (aaA (Nat.add_lt_add_right hB 2) (by decide)) l0 (M:=2) (by decide) (by decide) λH4 r4 f4 s4 hr=>?_
 have hk:∃key,[AV.str "MediaBox",.str "CropBox"][(r4:Int).toNat]? =some (.str key)/\key∈ax/\SS (r4:Int)=true:=match r4,hr with
  | 0,_=>⟨"MediaBox",rfl,by decide,rfl⟩
  | 1,_=>⟨"CropBox",rfl,by decide,rfl⟩
  | i+2,hi=>absurd hi (aaP.mpr (abn 2 i))
 have l3:H2.n < H3.n:=n3▸aaC _
 have zl:c.Z H2.n:=ok.zn _ s2.aD.le
 refine hk.elim λkey w=>Lr w.2.2 (dE (v:= .str key) w.1 ?_)
 refine s4.put ok hn (va:= .arr [.int 0,.int 0,.int (1+r2),.int 7]) (bI H2.n _ ⟨rfl,⟨f4.lt l3,zl⟩,f4.ne l3 e3 (ok.zp _ zl),.cons rfl (.cons rfl (.cons rfl (.cons rfl .nil)))⟩) w.2.1 (.inr (.inr ⟨_,rfl⟩)) λH5 s5=>h H5 _ s5
noncomputable def J5:SL:= .cons We (.cons W3 (.cons W8 (.o (.ret (.loc "head")))))
theorem DH (m:aQ G) (ok:mf c) (s0:FS c c.H B 0 c.d0) (hB:B < 70000) (l0:loc "pen"= .ref c.p) (l1:loc "head"= .ref c.hd) (l2:loc "own"= .ref c.ow) (h:∀H' d',FS c H' (B+7) 3 d'->Q (.ref c.hd) H'):J5 (G (k+1)) loc c.H (eF Q):=by
 have lt:∀{i},i<=10->B+i < 80000:=λhi=>aax (Nat.add_lt_add_of_lt_of_le hB hi) (by decide)
 exact NJ m s0 ok (by decide) (lt (i:=0) (by decide)) l0 l1 λH1 d1 s1=>PF m s1 ok (by decide) (lt (i:=2) (by decide)) l0 l1 l2 λH2 d2 s2=>Pn m s2 ok (by decide) (lt (i:=4) (by decide)) l0 l1 λH3 d3 s3=>ak l1 (h H3 d3 s3)
theorem El (m:aQ G) (ok:mf c) {s:Nat} (s0:FS c c.H B 0 c.d0) (hB:B < 70000) (h:∀H' d',FS c H' (B+7) 3 d'->Q (.ref c.hd) H'):G (k+2) "_law_fill" [.ref c.p,.ref s,.ref c.ow,.ref c.hd] c.H Q:=by
 refine m.run 45 rfl rfl rfl ?_
 show J5 (G (k+1)) ((((Loc.new.upd "pen" (.ref c.p)).upd "shelf" (.ref s)).upd "own" (.ref c.ow)).upd "head" (.ref c.hd)) c.H (eF Q)
 exact DH m ok s0 hB rfl rfl rfl h
end
noncomputable def ents:Int->List (Nat × Di)->List (AV × AV)
 | _,[]=>[]
 | q,x::r=>(.int q,.tup [.int 0,.ref x.1])::ents (q+1) r
theorem By {a:Nat} {d:Di} {l:List (Nat × Di)}:∀{q:Int},ents q (l++[(a,d)])=ents q l++[(.int (q+l.length),.tup [.int 0,.ref a])]:=by
 induction l with
 | nil=>exact λ{q}=>by rw [List.length_nil,Int.natCast_zero,Int.add_zero];rfl
 | cons x r ih=>exact λ{q}=>by show _::ents (q+1) (r++_)=_;rw [ih,aa2,HF];rfl
theorem FU {l:List (Nat × Di)}:∀{q:Int},(ents q l).length=l.length:=by
 induction l with
 | nil=>exact rfl
 | cons x r ih=>exact congrArg (· +1) ih
theorem AT {l:List (Nat × Di)}:∀{n:Nat},(ents (n+1) l).map (·.1)=(List.range' n l.length).map λ(i:Nat)=>AV.int ((i:Int)+1):=by
 induction l with
 | nil=>exact rfl
 | cons x r ih=>exact λ{n}=>by rw [aa2,abD,aa4,<-ih];rfl
theorem A1 {l:List (Nat × Di)}:∀{m:List (Nat × Di)} {q:Int},l.map (·.1)=m.map (·.1)->ents q l=ents q m:=by
 induction l with
 | nil=>exact λ{m q} h=>by rw [List.map_eq_nil_iff.mp h.symm]
 | cons x l ih=>
  intro m q h
  cases m with
  | nil=>cases h
  | cons y m=>
   have h:=abf h
   show (_,AV.tup [_,.ref x.1])::_=(_,AV.tup [_,.ref y.1])::_
   rw [show x.1=y.1 from h.1,ih h.2]
noncomputable def pG:List (Int × Ob):=[(1,.dict [("Font",.at (.int 1))]),(2,.dict [("Font",.at (.int 2))]),(3,KX),(4,LV)]
structure mZ where
 p:Nat
 s:Nat
 t:Nat
 ow:Nat
 rw:Nat
 lo:Nat
 hi:Nat
noncomputable def uM (H:HP) (v:AV) (x:Int × Nat × Di):Prop:=∃rf,v= .tup [.ref rf,.ref x.2.1]/\rf < H.n/\H.g rf=cJ x.1
theorem uM.mono {S:Nat->Prop} {H H':HP} (f:ai S H H') {v:AV} {x:Int × Nat × Di} (r:uM H v x):uM H' v x:=r.imp λzz r=>⟨r.1,f.lt r.2.1,f.fix r.2.1 r.2.2 rfl⟩
structure oV (g:mZ):Prop where
 ps:g.p < g.s
 st:g.s < g.t
 tl:g.t < g.lo
 lh:g.lo<=g.hi
 ho:g.hi<=g.ow
 GC:g.ow < g.rw
theorem oV.tr {g:mZ} (o:oV g):g.t < g.rw:=aax o.tl (aaw o.lh (aaw o.ho (aaI o.GC)))
theorem oV.pt {g:mZ} (o:oV g):g.p < g.t:=aaA o.ps o.st
theorem oV.to {g:mZ} (o:oV g):g.t < g.ow:=aax o.tl (aaw o.lh o.ho)
structure GI (X:Nat->Prop) (H:HP) (g:mZ) (hs:List (Nat × Di)) (rows:List (Int × Nat × Di)):Prop where
 i4:oV g
 qe:g.rw < H.n
 sh:∃tr,H.g g.s=ip g.t tr
 tab:∃wT,H.g g.t= .dict (wT++ents 5 hs)/\L2 (RT (λy=>g.lo<=y/\y < g.hi) H) wT pG
 own:uD H g.ow
 rws:∃vs,H.g g.rw= .list vs/\L2 (uM H) vs rows
 heads:∀x∈hs,RD (λy=>¬X y) H x.1 x.2
 fW:∀x∈rows,RD (λy=>¬X y) H x.2.1 x.2.2
 nd:(hs.map (·.1)++rows.map (·.2.1)).Nodup
 j3:∀x∈hs,g.rw < x.1
 JL:∀x∈rows,g.rw < x.2.1
 xp:X g.p
 xt:X g.t
 xr:X g.rw
 hl:hs.length<=50
 rl:rows.length<=50
section
variable {G:Nat->aj} {H H':HP} {Q:KV} {k:Nat} {P S X X':Nat->Prop} {g:mZ} {hs:List (Nat × Di)} {rows:List (Int × Nat × Di)}
theorem GI.sl (a:GI X H g hs rows):g.s < H.n:=aaA a.i4.st (aaA a.i4.tr a.qe)
theorem GI.tl (a:GI X H g hs rows):g.t < H.n:=aaA a.i4.tr a.qe
theorem GI.mono (f:ai S H H') (a:GI X H g hs rows) (hS:∀y,S y->y=g.p\/(g.rw < y/\X y)) (hX:∀y,y < H.n->¬X y->¬X' y) (xp:X' g.p) (xt:X' g.t) (xr:X' g.rw):GI X' H' g hs rows:=by
 have ge:=a.i4
 have nS:∀{y},g.p < y->y<=g.rw->¬S y:=λh1 h2 q=>(hS _ q).elim (λe=>aaN h1 e) λe=>aaP.mpr h2 e.1
 have xS:∀y,y < H.n->¬X y->¬S y/\¬X' y:=λy hy hx=>⟨λq=>(hS y q).elim (λe=>hx (e▸a.xp)) λe=>hx e.2,hX y hy hx⟩
 exact ⟨ge,f.lt a.qe,a.sh.imp λzz e=>f.at a.sl (nS ge.ps (aaI (aaA ge.st ge.tr))) e,a.tab.imp λzz e=>⟨f.at a.tl (nS ge.pt (aaI ge.tr)) e.1,e.2.imp λzz zz r=>r.mono f λy zz hy=>⟨nS (aax (aaA ge.pt ge.tl) hy.1) (aaw (aaI hy.2) (aaw ge.ho (aaI ge.GC))),hy⟩⟩,
  a.own.mono f (nS (aaA ge.pt ge.to) (aaI ge.GC)),a.rws.imp λzz e=>⟨f.at a.qe (nS (aaA ge.pt ge.tr) (aaF _)) e.1,e.2.imp λzz zz r=>r.mono f⟩,λx hx=>(a.heads x hx).mono f xS,λx hx=>(a.fW x hx).mono f xS,a.nd,a.j3,a.JL,xp,xt,xr,a.hl,a.rl⟩
theorem J7 {wT:List (AV × AV)} (l:L2 (RT P H) wT pG):(wT++ents 5 hs).map (·.1)=dO (wT++ents 5 hs).length/\(wT++ents 5 hs).length=4+hs.length:=by
 have P2:(wT++ents 5 hs).length=4+hs.length:=by rw [aaD,l.len,FU];rfl
 refine ⟨?_,P2⟩
 rw [P2,aaL,(l.map_eq (g:=λx:Int × Ob=>AV.int x.1) λzz zz r=>r.1),show (5:Int)=((4:Nat):Int)+1 from rfl,AT,dO,List.range_eq_range',abg,abD,abD,abD,abD];rfl
theorem GI.add (m:aQ G) (a:GI X H g hs rows) {hd:Nat} {d:Di} (rd:RD (λy=>¬X y) H hd d) (j3:g.rw < hd) (AN:hd ∉ hs.map (·.1)++rows.map (·.2.1)) (hl:hs.length < 50)
  (h:∀H' rr,ai (atS g.t) H H'->H.n<=rr->rr < H'.n->H'.g rr=cJ (5+(hs.length:Int))->GI X H' g (hs++[(hd,d)]) rows->Q (.ref rr) H'):G (k+2) "Shelf.add" [.ref g.s,.ref hd] H Q:=by
 refine a.sh.elim λtr e1=>a.tab.elim λwT e2=>?_
 have ge:=a.i4
 have kk:=J7 (hs:=hs) e2.2
 refine DX m nofun e1 e2.1 kk.1 ((kk.2)▸aax (abr hl 4) (by decide)) (λH' f n et er=>?_) a.tl
 rw [(show (((wT++ents 5 hs).length:Nat):Int)+1=5+(hs.length:Int) from by exact (kk.2)▸Pz)] at et er
 have xS:cX (atS g.t) (λy=>¬X y) (λy=>¬X y) H:=λy zz hx=>⟨λq=>hx ((show y=g.t from q)▸a.xt),hx⟩
 refine h H' H.n f (aaF _) (n▸aaC _) er ⟨ge,f.lt a.qe,⟨tr,f.ne a.sl e1 (aaJ ge.st)⟩,⟨wT,et.trans (by rw [By,aaW]),e2.2.imp λzz zz r=>r.mono f λy zz hy=>⟨aaN (aax ge.tl hy.1),hy⟩⟩,
  a.own.mono f (aaN ge.to),a.rws.imp λzz e=>⟨f.ne a.qe e.1 (aaN ge.tr),e.2.imp λzz zz r=>r.mono f⟩,λx hx=>(aa6.mp hx).elim (λq=>(a.heads x q).mono f xS) λq=>aaK.mp q▸rd.mono f xS,λx hx=>(a.fW x hx).mono f xS,?_,λx hx=>(aa6.mp hx).elim (a.j3 x) λq=>aaK.mp q▸j3,a.JL,a.xp,a.xt,a.xr,by rw [aaD];exact hl,a.rl⟩
 rw [aaL,aaW]
 exact (List.perm_middle.nodup_iff).mpr (aa8.mpr ⟨AN,a.nd⟩)
theorem GI.row (a:GI X H g hs rows) {rf ff:Nat} {n:Int} {fd:Di} (WH:rf < H.n) (QF:H.g rf=cJ n) (rd:RD (λy=>¬X y) H ff fd) (j3:g.rw < ff) (AN:ff ∉ hs.map (·.1)++rows.map (·.2.1)) (hl:rows.length < 50) {K:KV}
  (h:∀H',ai (atS g.rw) H H'->H'.n=H.n->GI X H' g hs (rows++[(n,ff,fd)])->K .none H'):Gn g.rw "append" K [.tup [.ref rf,.ref ff]] H:=by
 refine a.rws.elim λvs e=>ad e.1 ⟨e.2.len▸aaA hl (by decide),m6 e.1 λH' f n' e'=>?_⟩
 have ge:=a.i4
 have xS:cX (atS g.rw) (λy=>¬X y) (λy=>¬X y) H:=λy zz hx=>⟨λq=>hx ((show y=g.rw from q)▸a.xr),hx⟩
 refine h H' f n' ⟨ge,f.lt a.qe,a.sh.imp λzz e=>f.ne a.sl e (aaJ (aaA ge.st ge.tr)),a.tab.imp λzz e=>⟨f.ne a.tl e.1 (aaJ ge.tr),e.2.imp λzz zz r=>r.mono f λy zz hy=>⟨aaJ (aax hy.2 (aaw ge.ho (aaI ge.GC))),hy⟩⟩,a.own.mono f (aaJ ge.GC),⟨_,e',(e.2.imp λzz zz r=>r.mono f).snoc ⟨rf,rfl,f.lt WH,f.fix WH QF rfl⟩⟩,
  λx hx=>(a.heads x hx).mono f xS,λx hx=>(aa6.mp hx).elim (λq=>(a.fW x q).mono f xS) λq=>aaK.mp q▸rd.mono f xS,?_,a.j3,λx hx=>(aa6.mp hx).elim (a.JL x) λq=>aaK.mp q▸j3,a.xp,a.xt,a.xr,a.hl,by rw [aaD];exact hl⟩
 rw [aaL,<-aaW]
 exact (List.perm_middle.nodup_iff).mpr (aa8.mpr ⟨(aaY (_++_)).symm▸AN,(aaY (_++_)).symm▸a.nd⟩)
end
noncomputable def mP (k:String):Di->Di
 | []=>[]
 | e::r=>bif e.1==k then r else e::mP k r
section
variable {k key j:String} {v w:Va} {d a b gd:Di} {P:Nat->Prop} {H H':HP}
theorem Ad:mP k ((k,w)::d)=d:=by show (bif _ then _ else _)=_;rw [beq_self_eq_true];rfl
theorem zd (h:j≠k):mP k ((j,w)::d)=(j,w)::mP k d:=by show (bif _ then _ else _)=_;rw [beq_eq_false_iff_ne.mpr h];rfl
theorem pQ:(mP k d).Sublist d:=by
 induction d with
 | nil=>exact .slnil
 | cons x r ih=>
  obtain ⟨j,w⟩:=x
  by_cases e:j=k
  .rw [e,Ad];exact .cons _ (.refl _)
  .rw [zd e];exact .cons_cons _ ih
theorem wH:(d.map (·.1)).Nodup->look key (mP k d)=if key=k then .none else look key d:=by
 induction d with
 | nil=>exact λzz=>(ite_self _).symm
 | cons x r ih=>
  obtain ⟨j,w⟩:=x
  intro nd
  have nd:=aa8.mp nd
  by_cases e:j=k
  .rw [e,Ad]
   by_cases q:key=k
   .rw [if_pos q,q];exact iQ (e▸nd.1)
   .rw [if_neg q,aK (abm q)]
  .rw [zd e]
   by_cases q:j=key
   .rw [<-q,aY,aY,if_neg e]
   .rw [aK q,aK q,ih nd.2]
theorem GL {es:List (AV × AV)} (l:L2 (RE P H) es d):L2 (RE P H) (vo (.str key) es) (mP key d):=l.rec .nil λ{e x zz zz} r l ih=>by
 show L2 _ (bif iY e.1 _ then _ else _) (bif x.1==key then _ else _)
 rw [r.1]
 show L2 _ (bif decide (x.1=key) then _ else _) (bif decide (x.1=key) then _ else _)
 exact match decide (x.1=key) with
  | true=>l
  | false=>.cons r ih
theorem RD.pop {a:Nat} (r:RD P H a d) {Q:KV} (hl:look key d=some v) (h:∀H' u,ai (atS a) H H'->H'.n=H.n->RD P H' a (mP key d)->Q u H'):Lu a "pop" Q [.str key] H:=
 r.at λes e l=>⟨dm l,((fZ l).some hl).elim λu q=>dE q.1 (m6 e λH' f n e'=>h H' u f n ⟨n▸r.lt,r.zone,⟨_,e',(GL l).imp λzz zz q=>⟨q.1,q.2.upd f e⟩⟩,(pQ.map _).nodup r.nd⟩)⟩
noncomputable def ey (gd d:Di):Di:=(gd.filter λx=>(look x.1 d).isNone)++d
theorem o9:look key (a++b)=(look key a).or (look key b):=by
 induction a with
 | nil=>rfl
 | cons x r ih=>
  obtain ⟨j,w⟩:=x
  by_cases q:j=key
  .rw [<-q,List.cons_append,aY,aY];rfl
  .rw [List.cons_append,aK q,aK q,ih]
theorem EI {p:String->Bool}:look key (d.filter λx=>p x.1)=bif p key then look key d else .none:=by
 induction d with
 | nil=>exact (by cases p key<;>rfl)
 | cons x r ih=>
  obtain ⟨j,w⟩:=x
  by_cases e:j=key
  .rw [<-e] at ih ⊢
   cases h:p j with
   | true=>rw [List.filter_cons_of_pos (p:=λx:String × Va=>p x.1) h,aY,aY];rfl
   | false=>rw [List.filter_cons_of_neg (by rw [h];exact aaE),ih,h];rfl
  .rw [aK e,<-ih]
   cases h:p j with
   | true=>rw [List.filter_cons_of_pos (p:=λx:String × Va=>p x.1) h,aK e]
   | false=>rw [List.filter_cons_of_neg (by rw [h];exact aaE)]
theorem fg:look key (ey gd d)=(look key d).or (look key gd):=by
 unfold ey
 rw [o9,EI (p:=λs=>(look s d).isNone)]
 cases look key d with
 | none=>show (look key gd).or .none=look key gd;exact Option.or_none
 | some v=>rfl
theorem FJ (h1:(gd.map (·.1)).Nodup) (h2:(d.map (·.1)).Nodup):((ey gd d).map (·.1)).Nodup:=by
 unfold ey
 rw [aaL,abw]
 refine ⟨(List.filter_sublist.map _).nodup h1,h2,λa ha b hb e=>(aaG.mp ha).elim λx z=>(aaG.mp hb).elim λy z'=>?_⟩
 have:=(abk.mp z.1).2
 refine (kg (key:=y.1) (v:=y.2) z'.1).elim λw hw=>?_
 rw [show x.1=y.1 from z.2.trans (e.trans z'.2.symm),hw] at this
 exact absurd this aaE
noncomputable def vi:List String:=["Rotate","Resources","MediaBox","CropBox"]
noncomputable def jX (d:Di) (k:String):Option (String × Va):=(look k d).map (Prod.mk k)
noncomputable def kn (d:Di) (l:List String):Di:=l.filterMap (jX d)
theorem jj {x:String × Va} {l:List String} (h:x∈kn d l):x.1∈l/\look x.1 d=some x.2:=(abB.mp h).elim λk z=>(Option.map_eq_some_iff.mp z.2).elim λv w=>w.2▸⟨z.1,w.1⟩
noncomputable def lC (l e:Di):Di:=l.foldl (λe x=>cH x.1 x.2 e) e
noncomputable def bW (gd d:Di):Di:=lC (gd++kn d vi) []
theorem vt:∀{e:Di},look key (lC a e)=(look key a.reverse).or (look key e):=by
 induction a with
 | nil=>exact rfl
 | cons x r ih=>
  obtain ⟨j,w⟩:=x
  intro e
  rw [List.reverse_cons,o9,Option.or_assoc]
  refine ih.trans (congrArg _ ?_)
  rw [az]
  by_cases q:j=key
  .rw [if_pos q,q,aY];rfl
  .rw [if_neg q,aK q];rfl
theorem rV:∀{e:Di},(e.map (·.1)).Nodup->((lC a e).map (·.1)).Nodup:=by
 induction a with
 | nil=>exact id
 | cons x r ih=>exact λh=>ih (dc h)
theorem yI:∀{e:Di},(lC a e).length<=e.length+a.length:=by
 induction a with
 | nil=>exact λ{e}=>aaF _
 | cons x r ih=>exact λ{e}=>aaw ih (by rw [aa2,<-aa9,Nat.add_right_comm];exact abb b7 _)
theorem AU (h:a.Perm b) (nd:(a.map (·.1)).Nodup):look key a=look key b:=by
 cases e:look key b with
 | some v=>exact cg nd (h.mem_iff.mpr (cB e))
 | none=>
  cases e2:look key a with
  | none=>rfl
  | some v=>exact (e.symm.trans (cg ((h.map (·.1)).nodup_iff.mp nd) (h.mem_iff.mp (cB e2)))).symm
theorem uG {l:List String}:l.Nodup->((kn d l).map (·.1)).Nodup:=by
 induction l with
 | nil=>exact λzz=>.nil
 | cons k r ih=>
  intro h
  have h:=aa8.mp h
  show ((List.filterMap (jX d) (k::r)).map (·.1)).Nodup
  cases e:jX d k with
  | none=>rw [List.filterMap_cons_none e];exact ih h.2
  | some x=>
   rw [List.filterMap_cons_some e]
   refine aa8.mpr ⟨λhm=>(aaG.mp hm).elim λy z=>h.1 ?_,ih h.2⟩
   have:x.1=k:=(Option.map_eq_some_iff.mp e).elim λv w=>w.2▸rfl
   exact (show y.1=k from z.2.trans this)▸(jj z.1).1
theorem yK {l:List String} (hl:l.Nodup):look key (kn d l)=if key∈l then look key d else .none:=by
 by_cases hk:key∈l
 .rw [if_pos hk]
  cases h:look key d with
  | none=>exact iQ λhm=>(aaG.mp hm).elim λx z=>(by have:=(jj z.1).2;rw [show x.1=key from z.2,h] at this;exact nomatch this)
  | some va=>exact cg (uG hl) (abB.mpr ⟨key,hk,by unfold jX;rw [h];rfl⟩)
 .rw [if_neg hk]
  exact iQ λhm=>(aaG.mp hm).elim λx z=>hk (z.2▸(jj z.1).1)
theorem o0:key∈vi ↔ key∈ax:=⟨λh=>(by decide:∀x∈vi,x∈ax) key h,λh=>(by decide:∀x∈ax,x∈vi) key h⟩
theorem jx (h:(gd.map (·.1)).Nodup):look key (bW gd d)=if key∈ax then (look key d).or (look key gd) else look key gd:=by
 unfold bW
 have r:∀{a:Di},(a.map (·.1)).Nodup->look key a.reverse=look key a:=λnd=>(AU (List.reverse_perm _).symm nd).symm
 rw [vt,List.reverse_append,o9,r h,r (uG (by decide)),yK (by decide)]
 show Option.or _ .none=_
 rw [Option.or_none]
 by_cases e:key∈ax
 .rw [if_pos e,if_pos (o0.mpr e)]
 .rw [if_neg e,if_neg λq=>e (o0.mp q)];rfl
theorem DY:((bW gd d).map (·.1)).Nodup:=rV .nil
theorem rM:(bW gd d).length<=gd.length+4:=aaw yI (by rw [aaD,List.length_nil,abE];exact abj (List.length_filterMap_le ..) _)
end
noncomputable def zh (src:String):X:= .tup (.cons (.loc "key") (.o (.idx (.loc src) (.loc "key"))))
noncomputable def D2:X:= .prim "dict" (.o (.bin .add (.aC (zh "given") (.nm "key") .plain (.o (.loc "given")) (X.bM (.cmp .cK (.loc "key") (.loc "head")) X.yes)) (.aC (zh "head") (.nm "key") .plain (.o (.loc "head")) X.yes)))
noncomputable def Fx:X:= .prim "dict" (.o (.bin .add (.aC (zh "given") (.nm "key") .plain (.o (.loc "given")) X.yes) (.aC (zh "head") (.nm "key") .plain (.o (.tup (.cons (.str "Rotate") (.cons (.str "Resources") (.cons (.str "MediaBox") (.o (.str "CropBox"))))))) (X.bM (.cmp .isIn (.loc "key") (.loc "head")) X.yes))))
section
variable {H H':HP} {Q:KV} {P:Nat->Prop} {Γ:aj} {loc:Loc} {gd d:Di} {gv hd a:Nat}
theorem BE {ps:List (AV × AV)} {l:Di} (h:L2 (RE P H) ps l):∀{es:List (AV × AV)} {e:Di},L2 (RE P H) es e->L2 (RE P H) (ps.foldl (λes p=>bT p.1 p.2 es) es) (lC l e):=by
 induction h with
 | nil=>exact id
 | @cons p x _ _ r _ ih=>
  refine λ{es e} q=>ih ?_
  show L2 _ (bT p.1 p.2 es) _
  exact (r.1)▸Al r.2 q
theorem xn {vs:List AV} (e:H.g a= .list vs) (l:L2 (fH P H) vs d) (z:P H.n) (h:vR P Q H (lC d [])):vP (.ref a) H Q:=by
 refine (vh l).elim λes q=>ad e (dE q.1 ⟨?_,?_⟩)
 .exact (jW q.2)▸kQ (n:=1) (λzz=>rfl) (by decide)
 .exact cN λH' f n e'=>h H' _ f (aaF _) (.fresh (n▸aaC _) z e' ((BE q.2 .nil).imp λzz zz r=>r.mono f aV) (rV .nil))
theorem ya {β γ:Type} {r:AV->β->Prop} {q:HP->AV->γ->Prop} {xs:List AV} {ws:List β} {elt:PX} {cs:PC} {tg:Tg} (f:β->γ) (p:β->Bool) (qm:∀H' bz v c,ai aJ H' bz->q H' v c->q bz v c) (hr:L2 r xs ws) (hl:xs.length<=lim)
  (step:∀v w H' (C:KV) (N:HP->Prop),r v w->ai aJ H H'->(p w=true->∀bz u,ai aJ H' bz->q bz u (f w)->C u bz)->(p w=false->N H')->Gj elt cs tg loc v H' C N) (h:tm q Q H aJ ((ws.filter p).map f)):fb elt tg .plain cs loc Q [.tup xs] H:=
 rz (src:=cy (.tup xs) xs 0) f p .tr qm (λH' f'=>⟨rfl,rfl⟩) step hr [] [] H (by rwa [List.length_nil,abE]) .refl .nil λH' acc f' l=>OS h qm f' l
theorem Fp (v1:loc "given"= .ref gv) (v2:loc "head"= .ref hd) (r1:RD P H gv gd) (r2:RD P H hd d) (h1:gd.length < 64) (h2:d.length < 64) (h:vR (bh P H.n) Q H (ey gd d)):D2 Γ loc H Q:=by
 have r1:=r1.fG (bh P H.n) λzz zz h=>.inl h
 have r2:=r2.fG (bh P H.n) λzz zz h=>.inl h
 have k1:(bH gd).length<=lim:=dz▸aaI (gJ h1)
 have k2:(bH d).length<=lim:=dz▸aaI (gJ h2)
 refine r1.ex.elim λUt l1=>r2.ex.elim λQu l2=>ak v1 (dB (q:=fH (bh P H.n)) (r7 l1.1 l1.2) r1.lt id (λx=>(look x.1 d).isNone) (λzz zz zz zz f z=>z.mn f) ga k1 (λv x H' C N rv f y n=>?_) λH1 a1 S8 f1 Mi qg e1 q1=>?_)
 .obtain rfl:=rv.1
  refine ak v2 ((r2.mn f).isin ?_)
  cases e:look x.1 d with
  | none=>exact ak v1 ((r1.mn f).idx (cg r1.nd rv.2) λu ru=>y (congrArg _ (e)) H' _ .refl ⟨u,rfl,ru⟩)
  | some w=>exact n (congrArg _ (e))
 rw [aby] at q1
 refine ak v2 (cG (q:=fH (bh P H.n)) (r7 (f1.keep r2.lt l2.1) (l2.2.imp λzz zz r=>r.mono f1 aV)) (f1.lt r2.lt) id (λzz zz zz zz f z=>z.mn f) ga k2 (λv x H' C N rv f y=>?_) λH2 a2 Jj f2 qw lg e2 q2=>?_)
 .obtain rfl:=rv.1
  exact ak v2 ((r2.mn (f1.tr f)).idx (cg r2.nd rv.2) λu ru=>y H' _ .refl ⟨u,rfl,ru⟩)
 rw [aby] at q2
 have fS:=f1.tr f2
 refine ad (f2.keep qg e1) (ad e2 ⟨?_,cN λH3 f3 n3 e3=>?_⟩)
 .rw [q1.len,q2.len]
  exact aaw (aaQ (aaw (List.length_filter_le ..) (aaI h1)) (aaI h2)) (by decide)
 .exact iL e3 ((q1.imp λzz zz r=>r.mn (f2.tr f3)).append (q2.imp λzz zz r=>r.mn f3)) (FJ r1.nd r2.nd) (.inr (fS.tr f3).le) λH4 b f4 Ta rd=>h H4 b ((fS.tr f3).tr f4) (aaw (fS.tr f3).le Ta) rd
theorem Eg (v1:loc "given"= .ref gv) (v2:loc "head"= .ref hd) (r1:RD P H gv gd) (r2:RD P H hd d) (h1:gd.length < 64) (h:vR (bh P H.n) Q H (bW gd d)):Fx Γ loc H Q:=by
 have r1:=r1.fG (bh P H.n) λzz zz h=>.inl h
 have r2:=r2.fG (bh P H.n) λzz zz h=>.inl h
 refine r1.ex.elim λUt l1=>ak v1 (cG (q:=fH (bh P H.n)) (r7 l1.1 l1.2) r1.lt id (λzz zz zz zz f z=>z.mn f) ga (dz▸aaI (gJ h1)) (λv x H' C N rv f y=>?_) λH1 a1 S8 f1 Mi qg e1 q1=>?_)
 .obtain rfl:=rv.1
  exact ak v1 ((r1.mn f).idx (cg r1.nd rv.2) λu ru=>y H' _ .refl ⟨u,rfl,ru⟩)
 rw [aby] at q1
 have r2:=r2.mn f1
 refine ya (q:=fH (bh P H.n)) (ws:=vi) (r:=λv (w:String)=>v= .str w) (λw:String=>(w,(look w d).getD (.at .none))) (λw=>(look w d).isSome) (λzz zz zz zz f z=>z.mn f) (L2.mR (r:=λv (w:String)=>v=AV.str w) (f:=AV.str) (l:=vi) (L2.diag λzz zz=>rfl)) (by decide:4<=lim) (λv w H' C N rv f y n=>?_) λH3 a3 Jj f3 BP Bj e3 q2=>?_
 .subst rv
  refine ak v2 ((r2.mn f).isin ?_)
  cases e:look w d with
  | none=>exact n (congrArg _ (e))
  | some va=>exact ak v2 ((r2.mn f).idx e λu ru=>y (congrArg _ (e)) H' _ .refl ⟨u,rfl,by rw [e];exact ru⟩)
 have pe:∀l:List String,(l.filter λw=>(look w d).isSome).map (λw=>(w,(look w d).getD (.at .none)))=kn d l:=λl=>by
  induction l with
  | nil=>rfl
  | cons w l ih=>
   unfold kn at ih ⊢
   rw [List.filter_cons,List.filterMap_cons]
   unfold jX at ih ⊢
   cases e:look w d with
   | none=>exact ih
   | some va=>show (w,(look w d).getD _)::_=_;rw [e,ih];rfl
 rw [pe] at q2
 refine ad (f3.keep qg e1) (ad e3 ⟨?_,cN λH4 f4 n4 e4=>?_⟩)
 .rw [q1.len,q2.len]
  exact aaw (aaQ (aaI h1) (List.length_filterMap_le ..)) (by decide)
 .have Av:=f1.tr (f3.tr f4)
  exact xn e4 ((q1.imp λzz zz r=>r.mn (f3.tr f4)).append (q2.imp λzz zz r=>r.mn f4)) (.inr Av.le) λH5 b f5 Kv rd=>h H5 b (Av.tr f5) (aaw Av.le Kv) rd
end
noncomputable def one (b:Bool):Nat:=bif b then 1 else 0
structure cL (pn:Int) (pm:Int->Prop) (d:Di):Prop where
 nd:(d.map (·.1)).Nodup
 par:look "Parent" d=some (.at (.ref pn))
 typ:look "Type" d= .none\/look "Type" d=some (.at (.name "Page"))
 cont:look "Contents" d=some (.at (.ref 3))\/look "Contents" d=some (.at (.ref 4))
 kids:look "Kids" d= .none
 mS:∀va,look "Peer" d=some va->∃n,va= .at (.ref n)/\pm n
 vals:∀key va,look key d=some va->key ∉ ax->key≠"Parent"->key≠"Peer"->key≠"Contents"->(∃i,va= .at (.int i))\/∃s,va= .at (.name s)
 aR:∀key va,look key d=some va->key∈ax->d6 va
 ln:d.length<=9+one (look "Peer" d).isSome
theorem cL.len {pn:Int} {pm:Int->Prop} {d:Di} (p:cL pn pm d):d.length<=10:=aaw p.ln (by cases (look "Peer" d).isSome<;>decide)
theorem Ba {k:String} {v:Va} {d:Di}:(look k d).isSome=true->(cH k v d).length=d.length:=by
 induction d with
 | nil=>exact λh=>Bool.noConfusion h
 | cons x r ih=>
  obtain ⟨j,w⟩:=x
  intro h
  by_cases q:j=k
  .rw [q,kz];rfl
  .rw [aK q] at h
   rw [kD q,aa2,ih h];rfl
theorem AA {v:Va} {d:Di} {n:Nat} (h:d.length<=n+one (look "Peer" d).isSome):(cH "Peer" v d).length<=n+one (look "Peer" (cH "Peer" v d)).isSome:=by
 rw [az,if_pos rfl]
 show _<=n+1
 cases q:(look "Peer" d).isSome with
 | true=>rw [Ba q];rw [q] at h;exact h
 | false=>rw [q] at h;exact aaw b7 (aa1 h)
noncomputable def lv (pn r:Int):Di:=[("Type",.at (.name "Page")),("Parent",.at (.ref pn)),("Contents",.at (.ref (3+r)))]
theorem o7 {pn r:Int} {key:String} (h1:key≠"Type") (h2:key≠"Parent") (h3:key≠"Contents"):look key (lv pn r)= .none:=by
 unfold lv
 rw [aK (abm h1),aK (abm h2),aK (abm h3)];rfl
theorem CU {pn n:Int} {r:Nat} {d1:Di} (hr:r < 2) (f:eY (lv pn r) d1 3) (nd:(d1.map (·.1)).Nodup):cL pn (λzz=>False) (cH "Mark" (.at (.int n)) d1):=by
 have lk:∀key,key ∉ ax->key≠"Mark"->look key (cH "Mark" (.at (.int n)) d1)=look key (lv pn r):=λkey hk h=>by rw [az,if_neg (abm h),f.out key hk]
 refine ⟨dc nd,(lk _ (by decide) (by decide)).trans rfl,.inr ((lk _ (by decide) (by decide)).trans rfl),?_,(lk _ (by decide) (by decide)).trans rfl,λva h=>(by replace h:=(lk "Peer" (by decide) (by decide))▸h;cases h),λkey va h h1 h2 h3 h4=>?_,λkey va h hk=>?_,aaw b7 (aaw (aa1 f.len) (aaw (by decide:7<=9) (aaM _ _)))⟩
 .rw [lk _ (by decide) (by decide)]
  exact match r,hr with
   | 0,_=>.inl rfl
   | 1,_=>.inr rfl
   | i+2,hi=>absurd hi (aaP.mpr (abn 2 i))
 .replace h:=(az)▸h
  by_cases e:"Mark"=key
  .rw [if_pos e] at h;exact .inl ⟨n,(aay h).symm⟩
  .rw [if_neg e,f.out key h1] at h
   by_cases e2:key="Type"
   .replace h:=(e2)▸h;exact .inr ⟨_,(aay h).symm⟩
   .rw [o7 e2 h2 h4] at h;exact nomatch h
 .have k:=hV key hk
  have e:"Mark"≠key:=λe=>absurd (e▸hk) (by decide)
  have e3:key≠"Contents":=λe=>absurd (e▸hk) (by decide)
  rw [az,if_neg e] at h
  exact (f.GS key va h hk).elim (λq=>by rw [o7 k.1.2 k.1.1 e3] at q;exact nomatch q) id
theorem cL.del {pn:Int} {d:Di} (p:cL pn (λzz=>False) d):cL pn (λzz=>False) (mP "Type" d):=by
 have lk:∀key,key≠"Type"->look key (mP "Type" d)=look key d:=λkey h=>by rw [wH p.nd,if_neg h]
 have ty:look "Type" (mP "Type" d)= .none:=by rw [wH p.nd,if_pos rfl]
 have ne:∀{key va},look key (mP "Type" d)=some va->look key d=some va:=λ{key va} h=>by
  by_cases e:key="Type"
  .rw [e,ty] at h;exact nomatch h
  .exact (lk key e)▸h
 refine ⟨(pQ.map _).nodup p.nd,(lk _ (by decide)).trans p.par,.inl ty,?_,(lk _ (by decide)).trans p.kids,λva h=>p.mS va (ne h),λkey va h=>p.vals key va (ne h),λkey va h=>p.aR key va (ne h),?_⟩
 .rw [lk _ (by decide)];exact p.cont
 .rw [lk _ (by decide)];exact aaw pQ.length_le p.ln
noncomputable def wQ (g:mZ):Nat->Prop:=λx=>x=g.p\/x=g.t\/x=g.rw
noncomputable def JI:SL:= .cons (.set "reference" (.ay (.loc "shelf") "add" (.o (.loc "head")))) (.cons (.expr (.ay (.loc "rows") "append" (.o (.tup (.cons (.loc "reference") (.o D2)))))) (.o (.ret (.loc "reference"))))
noncomputable def N6:SL:= .cons (.bA (.cmp .eq (dN 4) (.int 0)) (.o (.expr (.ay (.loc "head") "pop" (.o (.str "Type"))))) .nil) JI
structure MM where
 X:Nat->Prop
 H:HP
 g:mZ
 hs:List (Nat × Di)
 rows:List (Int × Nat × Di)
 B:Nat
 gv:Nat
 pn:Int
 gd:Di
structure sW (c:MM):Prop where
 gi:GI c.X c.H c.g c.hs c.rows
 rg:RD (λy=>¬c.X y) c.H c.gv c.gd
 gl:c.gd.length<=30
 hX:∀x,c.X x->x < c.H.n
 hl:c.hs.length < 45
 rl:c.rows.length < 45
 hB:c.B < 50000
noncomputable def TG (c:MM) (Q:KV):Prop:=∀H' rr hd d ff,ai (wQ c.g) c.H H'->rr < H'.n->H'.g rr=cJ (5+(c.hs.length:Int))->aO H' c.g.p (c.B+10)->GI c.X H' c.g (c.hs++[(hd,d)]) (c.rows++[(5+(c.hs.length:Int),ff,ey c.gd d)])->cL c.pn (λzz=>False) d->c.H.n<=hd->c.H.n<=ff->Q (.ref rr) H'
structure Uz (c:MM) (hd:Nat) (d:Di) (B:Nat) (H:HP):Prop where
 aD:ai (atS c.g.p) c.H H
 cU:aO H c.g.p B
 rd:RD (λy=>¬c.X y) H hd d
 hd:c.H.n<=hd
structure Wv (c:MM) (hd:Nat) (loc:Loc):Prop where
 l0:loc "pen"= .ref c.g.p
 l1:loc "shelf"= .ref c.g.s
 l2:loc "head"= .ref hd
 l3:loc "rows"= .ref c.g.rw
 l4:loc "given"= .ref c.gv
section
variable {G:Nat->aj} {H H':HP} {Q:KV} {k B hd:Nat} {loc:Loc} {c:MM} {d:Di}
theorem sW.at (ok:sW c) (f:ai (atS c.g.p) c.H H):GI c.X H c.g c.hs c.rows:=ok.gi.mono f (λy q=>.inl q) (λzz zz h=>h) ok.gi.xp ok.gi.xt ok.gi.xr
theorem sW.fresh (ok:sW c) {x:Nat} (h:c.H.n<=x):¬c.X x:=λq=>absurd (ok.hX x q) (aaP.mpr h)
theorem sW.xg (ok:sW c) {y:Nat} (hy:¬c.X y):¬wQ c.g y:=λq=>q.elim (λq=>hy (q▸ok.gi.xp)) λq=>q.elim (λq=>hy (q▸ok.gi.xt)) λq=>hy (q▸ok.gi.xr)
theorem GI.new {X:Nat->Prop} {g:mZ} {hs:List (Nat × Di)} {rows:List (Int × Nat × Di)} (a:GI X H g hs rows) {x:Nat} (h:H.n<=x):x ∉ hs.map (·.1)++rows.map (·.2.1):=λq=>(aa6.mp q).elim (λq=>(aaG.mp q).elim λy z=>aaP.mpr h (z.2▸(a.heads y z.1).lt)) λq=>(aaG.mp q).elim λy z=>aaP.mpr h (z.2▸(a.fW y z.1).lt)
theorem rT (m:aQ G) (ok:sW c) (s:Uz c hd d (c.B+10) H) (pg:cL c.pn (λzz=>False) d) (l:Wv c hd loc) (h:TG c Q):JI (G (k+2)) loc H (eF Q):=by
 have gi:=ok.at s.aD
 have ge:=gi.i4
 refine gi.sh.elim λtr es=>ak l.l1 (ad es (ak l.l2 (gi.add m s.rd (aax ok.gi.qe s.hd) (ok.gi.new s.hd) (aaA ok.hl (by decide)) λH7 rr f7 h7 h8 h9 Gk=>?_)))
 have TX:ai (wQ c.g) c.H H7:=(s.aD.weak λzz zz q=>Or.inl q).tr (f7.weak λzz zz q=>Or.inr (.inl q))
 refine Gk.rws.elim λvs e7=>ak l.l3 (ad e7.1 (Fp l.l4 l.l2 (ok.rg.mono TX λy zz hy=>⟨ok.xg hy,hy⟩) (s.rd.mono f7 λy zz hy=>⟨λq=>hy ((show y=c.g.t from q)▸ok.gi.xt),hy⟩) (aaz ok.gl (by decide)) (aaz pg.len (by decide)) λH8 ff f8 M8 Zj=>?_))
 have Xk:=TX.le
 have TH:=f8.lt h8
 refine (Gk.mono f8 (λy q=>q.elim) (λzz zz h=>h) Gk.xp Gk.xt Gk.xr).row TH (f8.fix h8 h9 rfl) (Zj.fG _ λy zz hy=>hy.elim id λq=>ok.fresh (aaw Xk q)) (aax Gk.qe M8) (Gk.new M8) (aaA ok.rl (by decide)) λH9 f9 n9 Ys=>?_
 refine h H9 rr hd d ff ((TX.tn f8).tr (f9.weak λzz zz q=>Or.inr (.inr q))) (f9.lt TH) (f9.fix TH (f8.fix h8 h9 rfl) rfl) (((s.cU.mono f7 (aaJ ge.pt)).mono f8 id).mono f9 (aaJ (aaA ge.pt ge.tr))) Ys pg s.hd (aaw Xk M8)
theorem BU (m:aQ G) (ok:sW c) (s:Uz c hd d (c.B+8) H) (pg:cL c.pn (λzz=>False) d) (ht:look "Type" d=some (.at (.name "Page"))) (l:Wv c hd loc) (h:TG c Q):N6 (G (k+2)) loc H (eF Q):=by
 refine ak l.l0 (fu m s.cU (aaA (Nat.add_lt_add_right ok.hB 8) (by decide)) (M:=4) (by decide) (by decide) λH1 r f1 n1 gZ hr=>?_)
 have s1:Uz c hd d (c.B+9) H1:=⟨s.aD.tr f1,gZ,s.rd.mono f1 λy zz hy=>⟨λq=>hy ((show y=c.g.p from q)▸ok.gi.xp),hy⟩,s.hd⟩
 refine yC (λzz=>?_) λzz=>rT m ok ⟨s1.aD,s1.cU.up (aba _),s1.rd,s1.hd⟩ pg l h
 refine ak l.l2 (s1.rd.at λes e lx=>s1.rd.pop ht λH2 u f2 n2 YS=>?_)
 exact rT m ok ⟨s1.aD.Iw f2 s.hd,(s1.cU.mono f2 (aaJ (aax (aaA ok.gi.i4.pt ok.gi.tl) s.hd))).up (aba _),YS,s.hd⟩ pg.del l h
end
section
variable {G:Nat->aj} {H H':HP} {Q:KV} {k B hd:Nat} {loc:Loc} {c:MM} {d:Di}
theorem Hb (m:aQ G) (ok:sW c) {pv:AV} (cU:aO c.H c.g.p c.B) (rp:RA c.H pv (.ref c.pn)) (h:TG c Q):G (k+4) "_law_page" [.ref c.g.p,.ref c.g.s,.ref c.g.ow,pv,.ref c.gv,.ref c.g.rw] c.H Q:=by
 have ge:=ok.gi.i4
 have wp:=aaA ge.pt ge.to
 refine m.run 46 rfl rfl rfl (gc m λH1 f1 n1 e1=>mJ (RA.set rp) (fu m (cU.mono f1 id) (aaA ok.hB (by decide)) (M:=2) (by decide) (by decide) λH2 r f2 n2 mQ hr=>?_))
 have Qg:ai (atS c.g.p) c.H H2:=f1.no.tr f2
 have NU:=ok.gi.own.mono Qg (aaN wp)
 have hi:F5[((2:Int)+r).toNat]? =some (.ref (3+r))/\qt ((2:Int)+r)=true:=match r,hr with
  | 0,_=>⟨rfl,rfl⟩
  | 1,_=>⟨rfl,rfl⟩
  | i+2,hi=>absurd hi (aaP.mpr (abn 2 i))
 refine NU.2.elim λovs o=>(o.2.get hi.1).elim λu w=>ad o.1 (Lr hi.2 (dE (v:=u) w.1 ?_))
 have l1:c.H.n < H1.n:=n1▸aaC _
 refine gX (P:=λy=>¬c.X y) (P':=λy=>¬c.X y) (d:=lv c.pn r) (.cons ⟨rfl,c.H.n,rfl,f2.lt l1,f2.fix l1 e1 rfl⟩ (.cons ⟨rfl,RA.mono Qg rp⟩ (.cons ⟨rfl,w.2⟩ .nil))) (by decide:["Type","Parent","Contents"].Nodup) (ok.fresh Qg.le) (λzz zz h=>h) λH3 f3 n3 r3=>?_
 have LP:=Qg.tn f3
 have wY:c.H.n<=H2.n:=Qg.le
 have Nb:H2.n≠c.g.p:=aaN (aax (aaA ge.pt ok.gi.tl) wY)
 refine El m (c:=⟨λy=>¬c.X y,c.g.p,H2.n,c.g.ow,H3,lv c.pn r⟩) (B:=c.B+1) ⟨λx hx q=>hx (q▸ok.gi.xp),λx hx=>ok.fresh (aaw LP.le hx),Nb,aaN (aax (aaA ge.GC ok.gi.qe) wY),aaN wp,(by decide:3 < 50)⟩ ⟨.refl,mQ.mono f3 id,NU.mono f3 id,r3,.refl⟩ (aaA (abv ok.hB) (by decide)) λH4 d1 s4=>?_
 have VL:ai (atS c.g.p) c.H H4:=LP.trans s4.aD λa ha q=>q.elim id λq=>absurd ha (aaP.mpr ((show a=H2.n from q)▸wY))
 refine (ok.at VL).rws.elim λvs e4=>ad e4.1 (s4.rd.set (va:= .at (.int vs.length)) rfl (aaz s4.fo.len (by decide:6 < lim)) λH5 f5 n5 r5=>?_)
 exact BU m ok ⟨VL.Iw f5 wY,s4.cU.mono f5 (abm Nb),r5,wY⟩ (CU (n:=(vs.length:Int)) hr s4.fo s4.rd.nd) (by rw [az,if_neg (by decide),s4.fo.out _ (by decide)];rfl) ⟨rfl,rfl,rfl,rfl,rfl⟩ h
end
structure rL (ks:List Int) (d:Di):Prop where
 nd:(d.map (·.1)).Nodup
 typ:look "Type" d=some (.at (.name "Pages"))
 kids:look "Kids" d=some (.arr (ks.map At.ref))
 vals:∀key va,look key d=some va->key ∉ ax->key≠"Kids"->(∃i,va= .at (.int i))\/(∃s,va= .at (.name s))\/∃n,va= .at (.ref n)
 aR:∀key va,look key d=some va->key∈ax->d6 va
 len:d.length<=12
 kl:ks.length<=10
structure kW (gd:Di):Prop where
 nd:(gd.map (·.1)).Nodup
 out:∀key,key ∉ ax->look key gd= .none
 GS:∀key va,look key gd=some va->d6 va
 len:gd.length<=30
structure Q3 (pm:Int->Prop) (gd d fd:Di):Prop where
 pg:∃pn,cL pn pm d
 look:∀key,look key fd=look key (ey gd d)
 len:fd.length<=50+one (Pap.look "Peer" fd).isSome
noncomputable def GW (f:Int->Option Di) (pm:Int->Prop):List Int->List (Int × Di)->List (Int × Di)->Prop
 | [],st,rows=>st=[]/\rows=[]
 | n::ns,st,rows=>∃gd d ja,st=(n,gd)::ja/\(f n=some d/\kW gd)/\((∃fd rows0,rows=(n,fd)::rows0/\Q3 pm gd d fd/\GW f pm ns ja rows0)\/∃ks,rL ks d/\GW f pm ns (ks.map (λx=>(x,bW gd d))++ja) rows)
section
variable {f f':Int->Option Di} {pm:Int->Prop} {ns ui:List Int}
theorem GW.congr:∀{st rows:List (Int × Di)},GW f pm ns st rows->(∀n∈ns,f' n=f n)->GW f' pm ns st rows:=by
 induction ns with
 | nil=>exact λw zz=>w
 | cons n ns ih=>
  intro st rows w h
  have h':=λx hx=>h x (.tail _ hx)
  exact w.imp λgd w=>w.imp λd w=>w.imp λja w=>⟨w.1,⟨(h n (.head _)).trans w.2.1.1,w.2.1.2⟩,w.2.2.imp (λw=>w.imp λfd w=>w.imp λr0 w=>⟨w.1,w.2.1,ih w.2.2 h'⟩) λw=>w.imp λks w=>⟨w.1,ih w.2 h'⟩⟩
theorem GW.app {ye aF:List (Int × Di)} (w':GW f pm ui ye aF):∀{st rows:List (Int × Di)},GW f pm ns st rows->GW f pm (ns++ui) (st++ye) (rows++aF):=by
 induction ns with
 | nil=>exact λ{st rows} w=>by rw [w.1,w.2];exact w'
 | cons n ns ih=>
  refine λ{st rows} w=>w.imp λgd w=>w.imp λd w=>w.elim λja w=>⟨ja++ye,by rw [w.1];rfl,w.2.1,w.2.2.imp (λw=>w.imp λfd w=>w.elim λr0 w=>⟨r0++aF,by rw [w.1];rfl,w.2.1,ih w.2.2⟩) λw=>w.imp λks w=>⟨w.1,?_⟩⟩
  rw [<-aaW];exact ih w.2
theorem GW.rows:∀{st rows:List (Int × Di)},GW f pm ns st rows->∀x∈rows,x.1∈ns:=by
 induction ns with
 | nil=>exact λ{st rows} w x h=>(aaU (w.2▸h)).elim
 | cons n ns ih=>
  exact λ{st rows} w x h=>bj w λgd d ja w=>w.2.2.elim (λw=>aq w λfd r0 w=>(aaH.mp (w.1▸h:x∈(n,fd)::r0)).elim (λe=>(congrArg Prod.fst e:x.1=n)▸ .head _) λh=>.tail _ (ih w.2.2 x h)) λw=>w.elim λks w=>.tail _ (ih w.2 x h)
end
noncomputable def kG (hs:List (Nat × Di)) (n:Int):Option Di:=if 5<=n then (hs[(n - 5).toNat]?).map (·.2) else .none
theorem AJ {a b:List (Nat × Di)} {n:Int} (h:n < 5+a.length):kG (a++b) n=kG a n:=by
 unfold kG
 by_cases q:5<=n
 .rw [if_pos q,if_pos q,abz (zt q h)]
 .rw [if_neg q,if_neg q]
theorem AD {hs:List (Nat × Di)} {i:Nat}:kG hs (5+(i:Int))=(hs[i]?).map (·.2):=by
 unfold kG
 rw [if_pos (Int.le_add_of_nonneg_right (aa0 _)),show (5+(i:Int) - 5).toNat=i from congrArg Int.toNat (Xz 5 _)]
theorem lu {a b:List (Nat × Di)} {x:Nat × Di}:kG (a++x::b) (5+(a.length:Int))=some x.2:=by
 rw [AD,List.getElem?_append_right (aaF _),Nat.sub_self];rfl
theorem DV {a b:List (Nat × Di)} {x y:Nat × Di} {n:Int} (h:n≠5+(a.length:Int)):kG (a++x::b) n=kG (a++y::b) n:=by
 unfold kG
 by_cases q:5<=n
 .rw [if_pos q,if_pos q]
  refine congrArg _ ?_
  by_cases q2:(n - 5).toNat < a.length
  .rw [abz q2,abz q2]
  .have le:=aaP.mp q2
   rw [List.getElem?_append_right le,List.getElem?_append_right le]
   cases e:(n - 5).toNat - a.length with
   | zero=>exact absurd (Nat.le_antisymm (Nat.sub_eq_zero_iff_le.mp e) le) ((λe=>h (e▸(zu q).symm)))
   | succ j=>rfl
 .rw [if_neg q,if_neg q]
noncomputable def nums (L m:Nat):List Int:=(List.range' L m).map λ(i:Nat)=>5+(i:Int)
theorem Gh {L a b:Nat}:nums L (a+b)=nums L a++nums (L+a) b:=by
 unfold nums
 rw [<-aaL,List.range'_append_1]
theorem dZ {L m:Nat} {n:Int}:n∈nums L m ↔ 5+(L:Int)<=n/\n < 5+(L:Int)+m:=by
 unfold nums
 rw [aaG]
 refine ⟨λz=>z.elim λi z=>?_,λz=>⟨(n - 5).toNat,List.mem_range'_1.mpr (⟨(Int.le_toNat (Int.sub_nonneg_of_le (z5 z.1))).mpr (Int.le_sub_left_of_add_le z.1),zt (z5 z.1) (sR z.2 (Int.add_assoc _ _ _))⟩),zu (z5 z.1)⟩⟩
 have:=List.mem_range'_1.mp z.1
 exact Oe z.2 this.1 this.2
theorem y0 {L m:Nat}:(nums L m).Nodup:=List.Pairwise.map _ (λa b (h:a < b) e=>by have e:5+(a:Int)=5+b:=e;exact aaJ h (qk (Int.add_left_cancel (by assumption)))) (List.pairwise_lt_range' ..)
noncomputable def c8 (rows:List (Int × Nat × Di)):List (Int × Di):=rows.map λx=>(x.1,x.2.2)
theorem BK {a b:List (Int × Nat × Di)}:c8 (a++b)=c8 a++c8 b:=aaL
section
variable {H H':HP} {X P:Nat->Prop} {g:mZ} {hs b5:List (Nat × Di)} {rows aF:List (Int × Nat × Di)}
theorem RD.other {a b:Nat} {d:Di} {es:List (AV × AV)} (r:RD P H a d) (f:ai (atS b) H H') (e:H.g b= .dict es) (ne:a≠b):RD P H' a d:=⟨f.lt r.lt,r.zone,r.ex.imp λzz q=>⟨f.ne r.lt q.1 ne,q.2.imp λzz zz z=>⟨z.1,z.2.upd f e⟩⟩,r.nd⟩
noncomputable def A6 (x:Int × Nat × Di):Int × Nat:=(x.1,x.2.1)
theorem HG {vs:List AV} (l:L2 (uM H) vs rows) (e:aF.map A6=rows.map A6):L2 (uM H) vs aF:=L2.EL (r:=λv (p:Int × Nat)=>uM H v (p.1,p.2,[])) (f:=A6) (e▸L2.yc (r:=λv (p:Int × Nat)=>uM H v (p.1,p.2,[])) (f:=A6) l)
theorem GI.alter (a:GI X H g hs rows) {b:Nat} (f:ai (atS b) H H') (hb:g.rw < b) (e1:b5.map (·.1)=hs.map (·.1)) (e2:aF.map A6=rows.map A6) (hh:∀x∈b5,RD (λy=>¬X y) H' x.1 x.2) (hf:∀x∈aF,RD (λy=>¬X y) H' x.2.1 x.2.2):GI X H' g b5 aF:=by
 have ge:=a.i4
 have nb:∀{y},y<=g.rw->y≠b:=λh=>aaJ (aaz h hb)
 have e3:aF.map (·.2.1)=rows.map (·.2.1):=by
  have:=congrArg (List.map (·.2)) e2
  rwa [aa5,aa5] at this
 have l1:=congrArg List.length e1
 have l2:=congrArg List.length e2
 rw [aaB,aaB] at l1 l2
 exact ⟨ge,f.lt a.qe,a.sh.imp λzz e=>f.ne a.sl e (nb (aaI (aaA ge.st ge.tr))),a.tab.imp λwT e=>⟨f.ne a.tl (by rw [A1 e1];exact e.1) (nb (aaI ge.tr)),e.2.imp λzz zz r=>r.mono f λy zz hy=>⟨nb (aaw (aaI hy.2) (aaw ge.ho (aaI ge.GC))),hy⟩⟩,a.own.mono f (nb (aaI ge.GC)),a.rws.imp λzz e=>⟨f.ne a.qe e.1 (nb (aaF _)),HG (e.2.imp λzz zz r=>r.mono f) e2⟩,hh,hf,by rw [e1,e3];exact a.nd,
  λx hx=>(aaG.mp (e1▸aaG.mpr ⟨x,hx,rfl⟩:x.1∈hs.map (·.1))).elim λy z=>z.2▸a.j3 y z.1,λx hx=>(aaG.mp (e3▸aaG.mpr ⟨x,hx,rfl⟩:x.2.1∈rows.map (·.2.1))).elim λy z=>z.2▸a.JL y z.1,a.xp,a.xt,a.xr,l1▸a.hl,l2▸a.rl⟩
theorem yZ {α:Type} {a b:List α} {x y:α} (h:y∈a++x::b):y=x\/y∈a++b:=(aa6.mp h).elim (λq=>.inr (aa3 _ q)) λq=>(aaH.mp q).imp id (aaT _)
theorem GI.setHead {ha hb:List (Nat × Di)} {hd:Nat} {d:Di} (a:GI X H g (ha++(hd,d)::hb) rows) {key:String} {u:AV} {va:Va} (ru:RV (λy=>¬X y) H u va) (hl:d.length < lim) {F:HP->Prop}
  (k:∀H',ai (atS hd) H H'->H'.n=H.n->GI X H' g (ha++(hd,cH key va d)::hb) rows->F H'):ob (H.g hd) (u6 hd (.str key) u H F):=by
 have hm:(hd,d)∈ha++(hd,d)::hb:=aaT _ (.head _)
 have rd:=a.heads _ hm
 have nd:=a.nd
 rw [aaL,aa4,aaW] at nd
 have no:=(aa8.mp (List.perm_middle.nodup_iff.mp nd)).1
 refine rd.set ru hl λH' f n r=>rd.ex.elim λes e=>k H' f n (a.alter f (a.j3 _ hm) (by rw [aaL,aaL];rfl) rfl (λx hx=>(yZ hx).elim (λq=>q▸r) λq=>?_) λx hx=>(a.fW x hx).other f e.1 λq=>no (q▸aaT _ (aaT _ (aaG.mpr ⟨x,hx,rfl⟩))))
 refine (a.heads x ((aa6.mp q).elim (aa3 _) λq=>aaT _ (.tail _ q))).other f e.1 λz=>no (z▸ ?_)
 exact (aa6.mp q).elim (λq=>aa3 _ (aaG.mpr ⟨x,q,rfl⟩)) λq=>aaT _ (aa3 _ (aaG.mpr ⟨x,q,rfl⟩))
theorem GI.K4 {ra rb:List (Int × Nat × Di)} {n:Int} {ff:Nat} {fd:Di} (a:GI X H g hs (ra++(n,ff,fd)::rb)) {key:String} {u:AV} {va:Va} (ru:RV (λy=>¬X y) H u va) (hl:fd.length < lim) {F:HP->Prop}
  (k:∀H',ai (atS ff) H H'->H'.n=H.n->GI X H' g hs (ra++(n,ff,cH key va fd)::rb)->F H'):ob (H.g ff) (u6 ff (.str key) u H F):=by
 have hm:(n,ff,fd)∈ra++(n,ff,fd)::rb:=aaT _ (.head _)
 have rd:=a.fW _ hm
 have nd:=a.nd
 rw [aaL,aa4,<-aaW] at nd
 have no:=(aa8.mp (List.perm_middle.nodup_iff.mp nd)).1
 refine rd.set ru hl λH' f m r=>rd.ex.elim λes e=>k H' f m (a.alter f (a.JL _ hm) rfl (by rw [aaL,aaL];rfl) (λx hx=>(a.heads x hx).other f e.1 λq=>no (q▸aa3 _ (aa3 _ (aaG.mpr ⟨x,hx,rfl⟩)))) λx hx=>(yZ hx).elim (λq=>q▸r) λq=>?_)
 refine (a.fW x ((aa6.mp q).elim (aa3 _) λq=>aaT _ (.tail _ q))).other f e.1 λz=>no (z▸ ?_)
 exact (aa6.mp q).elim (λq=>aa3 _ (aaT _ (aaG.mpr ⟨x,q,rfl⟩))) λq=>aaT _ (aaG.mpr ⟨x,q,rfl⟩)
end
noncomputable def ur:Nat->Nat
 | 0=>3
 | d+1=>1+2*ur d
noncomputable def bS:Nat->Nat
 | 0=>1
 | d+1=>ur d
theorem uY {d:Nat}:ur d=1+2*bS d:=by cases d<;>rfl
theorem u4 {d:Nat}:1<=bS d:=by
 cases d with
 | zero=>exact aaF _
 | succ d=>show 1<=ur d;exact (uY)▸aaM ..
section
variable {gd d d' d1 d2:Di}
theorem uk (h:∀key∈vi,look key d=look key d'):bW gd d=bW gd d':=by
 have:∀l:List String,(∀key∈l,look key d=look key d')->kn d l=kn d' l:=λl=>by
  induction l with
  | nil=>exact λzz=>rfl
  | cons k r ih=>
   intro h
   show List.filterMap (jX d) (k::r)=List.filterMap (jX d') (k::r)
   rw [List.filterMap_cons,List.filterMap_cons,show List.filterMap (jX d) r=_ from ih λx hx=>h x (.tail _ hx)]
   unfold jX kn
   rw [h k (.head _)];rfl
 unfold bW
 rw [this vi h]
theorem Ga (h:kW gd) (hi:∀key va,look key d=some va->key∈ax->d6 va) (hl:gd.length<=26):kW (bW gd d):=by
 refine ⟨DY,λkey hk=>?_,λkey va hv=>?_,aaw rM (abb hl 4)⟩
 .rw [jx h.nd,if_neg hk];exact h.out key hk
 .rw [jx h.nd] at hv
  by_cases q:key∈ax
  .replace hv:=(if_pos q)▸hv
   cases e:look key d with
   | none=>replace hv:=(e)▸hv;exact h.GS key va hv
   | some v=>rw [e] at hv;exact hi key va (e.trans hv) q
  .replace hv:=(if_neg q)▸hv;exact h.GS key va hv
noncomputable def oE:Di:=[("Type",.at (.name "Pages"))]
noncomputable def gV (ks:List Int) (c:Int) (d:Di):Di:=cH "Count" (.at (.int c)) (cH "Kids" (.arr (ks.map At.ref)) d)
structure j6 (d:Di):Prop where
 nd:(d.map (·.1)).Nodup
 typ:look "Type" d=some (.at (.name "Pages"))
 vals:∀key va,look key d=some va->key ∉ ax->(∃i,va= .at (.int i))\/(∃s,va= .at (.name s))\/∃n,va= .at (.ref n)
 aR:∀key va,look key d=some va->key∈ax->d6 va
 len:d.length<=5
theorem C7 (f:eY oE d1 3) (nd:(d1.map (·.1)).Nodup):j6 d1/\d1.length<=4:=by
 refine ⟨⟨nd,(f.out _ (by decide)).trans rfl,λkey va h hk=>?_,λkey va h hk=>(f.GS key va h hk).elim (λq=>?_) id,abx f.len⟩,f.len⟩
 .rw [f.out key hk] at h
  by_cases e:"Type"=key
  .rw [<-e] at h;exact .inr (.inl ⟨_,(aay h).symm⟩)
  .rw [oE,aK e] at h;cases h
 .rw [oE,aK (abm (hV key hk).1.2)] at q;cases q
theorem j6.par {pn:Int} (h:j6 d1) (hl:d1.length<=4):j6 (cH "Parent" (.at (.ref pn)) d1):=by
 refine ⟨dc h.nd,by rw [az,if_neg (by decide)];exact h.typ,λkey va e hk=>?_,λkey va e hk=>?_,aaw b7 (aa1 hl)⟩
 .rw [az] at e
  by_cases q:"Parent"=key
  .rw [if_pos q] at e;exact .inr (.inr ⟨pn,(aay e).symm⟩)
  .rw [if_neg q] at e;exact h.vals key va e hk
 .rw [az,if_neg λq:"Parent"=key=>absurd (q▸hk) (by decide)] at e
  exact h.aR key va e hk
theorem uC {ks:List Int} {c:Int} {key:String} (hk:key∈ax):look key (gV ks c d)=look key d:=by
 unfold gV
 rw [az,if_neg λq:"Count"=key=>absurd (q▸hk) (by decide),az,if_neg λq:"Kids"=key=>absurd (q▸hk) (by decide)]
theorem CJ {ks:List Int} {c:Int} (h:j6 d) (hk:ks.length<=10):rL ks (gV ks c d):=by
 refine ⟨dc (dc h.nd),?_,?_,λkey va e h1 h2=>?_,λkey va e h1=>h.aR key va (uC h1▸e) h1,?_,hk⟩
 .unfold gV;rw [az,if_neg (by decide),az,if_neg (by decide)];exact h.typ
 .unfold gV;rw [az,if_neg (by decide),az,if_pos rfl]
 .unfold gV at e
  rw [az] at e
  by_cases q:"Count"=key
  .rw [if_pos q] at e;exact .inl ⟨c,(aay e).symm⟩
  .rw [if_neg q,az,if_neg (abm h2)] at e;exact h.vals key va e h1
 .exact aaw b7 (aaw (aa1 b7) (aaw (aa1 (aa1 h.len)) (by decide)))
end
structure Sx (X:Nat->Prop) (g:mZ) (Hc:HP) (hs:List (Nat × Di)) (rows:List (Int × Nat × Di)) (gd:Di) (B C lo:Nat) (H':HP) (rr:Nat) (b5:List (Nat × Di)) (aF:List (Int × Nat × Di)):Prop where
 aD:ai (wQ g) Hc H'
 lt:rr < H'.n
 at_:H'.g rr=cJ (5+(hs.length:Int))
 cU:aO H' g.p B
 gi:GI X H' g (hs++b5) (rows++aF)
 l1:lo<=b5.length
 l2:b5.length<=C
 r1:1<=aF.length
 r2:aF.length<=C
 gw:GW (kG (hs++b5)) (λzz=>False) (nums hs.length b5.length) [(5+(hs.length:Int),gd)] (c8 aF)
noncomputable def TK (X:Nat->Prop) (g:mZ) (Hc:HP) (hs:List (Nat × Di)) (rows:List (Int × Nat × Di)) (gd:Di) (B C lo:Nat) (Q:KV):Prop:=∀H' rr b5 aF,Sx X g Hc hs rows gd B C lo H' rr b5 aF->Q (.ref rr) H'
structure NB (deep:Nat) (X:Nat->Prop) (H:HP) (g:mZ) (hs:List (Nat × Di)) (rows:List (Int × Nat × Di)) (B gv:Nat) (gd:Di):Prop where
 gi:GI X H g hs rows
 cU:aO H g.p B
 hB:B+100*ur deep < 40000
 rd:RD (λy=>¬X y) H gv gd
 XX:kW gd
 gl:gd.length+4*deep<=20
 hX:∀x,X x->x < H.n
 h1:hs.length+ur deep<=44
 h2:rows.length+ur deep<=44
noncomputable def my (G:Nat->aj) (deep:Nat):Prop:=∀(k:Nat) (X:Nat->Prop) (H:HP) (g:mZ) (hs:List (Nat × Di)) (rows:List (Int × Nat × Di)) (B gv:Nat) (pv:AV) (gd:Di) (Q:KV),NB deep X H g hs rows B gv gd->(pv= .none\/∃pn,RA H pv (.ref pn))->TK X g H hs rows gd (B+100*ur deep) (ur deep) 2 Q->
 G (k+deep+6) "_law_node" [.ref g.p,.ref g.s,.ref g.ow,pv,.ref gv,.int deep,.ref g.rw] H Q
structure Dw where
 X:Nat->Prop
 g:mZ
 H:HP
 hs:List (Nat × Di)
 rows:List (Int × Nat × Di)
 B:Nat
 bv:Nat
 bd:Di
 kl:Nat
 rf:Nat
 fn:Int
 deep:Nat
 vs:List AV
 hd:Nat
 n0:Int
structure lJ (c:Dw):Prop where
 gi:GI c.X c.H c.g c.hs c.rows
 cU:aO c.H c.g.p c.B
 hB:c.B+100*bS c.deep+20 < 40000
 ra:RA c.H (.ref c.rf) (.ref c.fn)
 rb:RD (λy=>¬c.X y) c.H c.bv c.bd
 gb:kW c.bd
 gl:c.bd.length+4*c.deep<=24
 hX:∀x,c.X x->x < c.H.n
 FQ:c.kl < c.H.n
 xk:c.X c.kl
 gk:c.g.rw < c.kl
 ek:c.H.g c.kl= .list c.vs
 vl:c.vs.length < 10
 h1:c.hs.length+bS c.deep<=44
 h2:c.rows.length+bS c.deep<=44
structure R1 (c:Dw) (loc:Loc):Prop where
 l0:loc "pen"= .ref c.g.p
 l1:loc "shelf"= .ref c.g.s
 l2:loc "own"= .ref c.g.ow
 l3:loc "reference"= .ref c.rf
 l4:loc "below"= .ref c.bv
 l5:loc "deep"= .int c.deep
 l6:loc "rows"= .ref c.g.rw
 l7:loc "kids"= .ref c.kl
 l8:loc "head"= .ref c.hd
 l9:loc "count"= .int c.n0
noncomputable def Ly (c:Dw):Nat->Prop:=λx=>wQ c.g x\/x=c.kl
structure Q2 (c:Dw) (H':HP) (rr:Nat) (b5:List (Nat × Di)) (aF:List (Int × Nat × Di)):Prop where
 aD:ai (Ly c) c.H H'
 ra:RA H' (.ref rr) (.ref (5+(c.hs.length:Int)))
 cU:aO H' c.g.p (c.B+100*bS c.deep+20)
 gi:GI c.X H' c.g (c.hs++b5) (c.rows++aF)
 l1:1<=b5.length
 l2:b5.length<=bS c.deep
 r1:1<=aF.length
 r2:aF.length<=bS c.deep
 gw:GW (kG (c.hs++b5)) (λzz=>False) (nums c.hs.length b5.length) [(5+(c.hs.length:Int),c.bd)] (c8 aF)
 e:H'.g c.kl= .list (c.vs++[.ref rr])
section
variable {G:Nat->aj} {H H' Hc:HP} {Q:KV} {QS:KS} {k B C lo:Nat} {loc:Loc} {c:Dw}
theorem lJ.kp (ok:lJ c):c.kl≠c.g.p:=aaN (aaA (aaA ok.gi.i4.pt ok.gi.i4.tr) ok.gk)
theorem lJ.nk (ok:lJ c):¬wQ c.g c.kl:=λq=>q.elim ok.kp λq=>q.elim (aaN (aaA ok.gi.i4.tr ok.gk)) (aaN ok.gk)
theorem lJ.fin (ok:lJ c) (fc:ai (atS c.g.p) c.H Hc) (hB:B<=c.B+100*bS c.deep+20) (hC:C<=bS c.deep) (Op:1<=lo) (h:∀H' rr b5 aF,Q2 c H' rr b5 aF->QS .next loc H'):
  TK c.X c.g Hc c.hs c.rows c.bd B C lo λv H'=>Gn c.kl "append" (EC loc QS) [v] H':=λH' rr b5 aF r=>by
 have Ww:=r.aD.at (fc.lt ok.FQ) ok.nk (fc.ne ok.FQ ok.ek ok.kp)
 refine ad Ww ⟨aaA ok.vl (by decide),m6 Ww λH2 f2 n2 e2=>h H2 rr b5 aF ⟨((fc.weak λzz zz q=>Or.inl (.inl q)).tr (r.aD.weak λzz zz q=>Or.inl q)).tr (f2.weak λzz zz q=>Or.inr q),⟨rr,rfl,f2.lt r.lt,f2.fix r.lt r.at_ rfl⟩,(r.cU.up hB).mono f2 (abm ok.kp),?_,aaw Op r.l1,aaw r.l2 hC,r.r1,aaw r.r2 hC,r.gw,e2⟩⟩
 exact r.gi.mono f2 (λy q=>.inr ((show y=c.kl from q)▸⟨ok.gk,ok.xk⟩)) (λzz zz h=>h) r.gi.xp r.gi.xt r.gi.xr
end
noncomputable def Oj (e:X):S:= .expr (.ay (.loc "kids") "append" (.o e))
noncomputable def Dq:X:= .call "_law_node" (.cons (.loc "pen") (.cons (.loc "shelf") (.cons (.loc "own") (.cons (.loc "reference") (.cons (.loc "below") (.cons (.bin .sub (.loc "deep") (.int 1)) (.o (.loc "rows"))))))))
noncomputable def DN:X:= .call "_law_page" (.cons (.loc "pen") (.cons (.loc "shelf") (.cons (.loc "own") (.cons (.loc "reference") (.cons (.loc "below") (.o (.loc "rows")))))))
noncomputable def vj:SL:= .o (.bA (.and (.cmp .gt (.loc "deep") (.int 0)) (.cmp .eq (dN 2) (.int 0))) (.o (Oj Dq)) (.o (Oj DN)))
noncomputable def NO (c:Dw) (loc:Loc) (QS:KS):KV:=λv H'=>Gn c.kl "append" (EC loc QS) [v] H'
section
variable {G:Nat->aj} {H H' Hc:HP} {Q:KV} {QS:KS} {k B:Nat} {loc:Loc} {c:Dw}
theorem lJ.at (ok:lJ c) (fc:ai (atS c.g.p) c.H Hc):GI c.X Hc c.g c.hs c.rows:=ok.gi.mono fc (λy q=>.inl q) (λzz zz h=>h) ok.gi.xp ok.gi.xt ok.gi.xr
theorem lJ.VG (ok:lJ c) (fc:ai (atS c.g.p) c.H Hc):RD (λy=>¬c.X y) Hc c.bv c.bd:=ok.rb.mono fc λy zz hy=>⟨λq=>hy ((show y=c.g.p from q)▸ok.gi.xp),hy⟩
theorem uH (m:aQ G) (ok:lJ c) (fc:ai (atS c.g.p) c.H Hc) (cU:aO Hc c.g.p B) (hB:B<=c.B+1) (h:∀H' rr b5 aF,Q2 c H' rr b5 aF->QS .next loc H'):G (k+4) "_law_page" [.ref c.g.p,.ref c.g.s,.ref c.g.ow,.ref c.rf,.ref c.bv,.ref c.g.rw] Hc (NO c loc QS):=by
 have cp:= @u4 c.deep
 refine Hb m (c:=⟨c.X,Hc,c.g,c.hs,c.rows,B,c.bv,c.fn,c.bd⟩) ⟨ok.at fc,ok.VG fc,ok.gb.len,λx hx=>fc.lt (ok.hX x hx),aax (aax (abl cp) ok.h1) (by decide),aax (aax (abl cp) ok.h2) (by decide),by show B < 50000;exact zF (aaQ hB ok.hB) (by simp+arith)⟩ cU (RA.mono fc ok.ra) λH' rr hd d ff f1 q1 q2 q3 q4 pg zz zz=>?_
 refine ok.fin fc (B:=B+10) (zF hB (by simp+arith)) cp (aaF 1) h H' rr [(hd,d)] [(5+(c.hs.length:Int),ff,ey c.bd d)] ⟨f1,q1,q2,q3,q4,aaF _,aaF _,aaF _,aaF _,c.bd,d,[],rfl,⟨lu,ok.gb⟩,.inl (bI (ey c.bd d) ([]) ⟨rfl,⟨⟨c.fn,pg⟩,λzz=>rfl,?_⟩,rfl,rfl⟩)⟩
 refine aaw ?_ (aaM _ _)
 unfold ey
 rw [aaD]
 exact aaw (aaQ (aaw (List.length_filter_le ..) ok.gb.len) pg.len) (by decide)
theorem BW (m:aQ G) (ok:lJ c) (ih:∀d,c.deep=d+1->my G d) (l:R1 c loc) (h:∀H' rr b5 aF,Q2 c H' rr b5 aF->QS .next loc H'):vj (G (k+c.deep+5)) loc c.H QS:=by
 have hB:=ok.hB
 refine ak l.l5 (yC (λKN=>?_) λzz=>?_)
 .refine ak l.l0 (fu m ok.cU (zF hB (by simp+arith)) (M:=2) (by decide) (by decide) λHc r fc n1 Ow hr=>yC (λzz=>?_) λzz=>?_)
  .obtain ⟨d,e⟩:∃d,c.deep=d+1:=⟨c.deep - 1,(Nat.sub_add_cancel (Int.natCast_pos.mp KN)).symm⟩
   have Qo:(c.deep:Int) - 1=(d:Int):=((congrArg (λx:Nat=>(x:Int) - 1) e).trans (Int.add_sub_cancel (Nat.cast _) 1))
   have hc:bS c.deep=ur d:=by rw [e];rfl
   have h1:=ok.h1
   have h2:=ok.h2
   rw [hc] at h1 h2 hB
   have:=ih d e k c.X Hc c.g c.hs c.rows (c.B+1) c.bv (.ref c.rf) c.bd (NO c loc QS) ⟨ok.at fc,Ow,zF hB (by simp+arith),ok.VG fc,ok.gb,OM Qo ok.gl,λx hx=>fc.lt (ok.hX x hx),h1,h2⟩ (.inr ⟨c.fn,RA.mono fc ok.ra⟩) (ok.fin fc (by rw [hc];exact by simp+arith) (aaS hc.symm) (by decide) h)
   rw [<-Qo] at this
   refine ak l.l7 (ad (fc.ne ok.FQ ok.ek ok.kp) (ak l.l0 (ak l.l1 (ak l.l2 (ak l.l3 (ak l.l4 (ak l.l5 (ak l.l6 ?_))))))))
   rw [e] at this ⊢
   exact this
  .exact ak l.l7 (ad (fc.ne ok.FQ ok.ek ok.kp) (ak l.l0 (ak l.l1 (ak l.l2 (ak l.l3 (ak l.l4 (ak l.l6 (uH m ok fc Ow (aaF _) h))))))))
 .exact ak l.l7 (ad ok.ek (ak l.l0 (ak l.l1 (ak l.l2 (ak l.l3 (ak l.l4 (ak l.l6 (uH m ok .refl ok.cU (aba _) h))))))))
end
theorem GW.up {pm:Int->Prop} {st rows:List (Int × Di)} {L m:Nat} {hs more:List (Nat × Di)} (w:GW (kG hs) pm (nums L m) st rows) (hl:hs.length=L+m):GW (kG (hs++more)) pm (nums L m) st rows:=
 w.congr λn hn=>AJ (by have:=dZ.mp hn;exact N5 hl this.1 this.2)
structure Ki (c:Dw) (j:Nat) (ks:List Int) (kvs:List AV) (g0:List (Nat × Di)) (bV:List (Int × Nat × Di)) (loc:Loc) (H:HP):Prop where
 aD:ai (Ly c) c.H H
 cU:aO H c.g.p (c.B+1+j*(100*bS c.deep+20))
 gi:GI c.X H c.g (c.hs++g0) (c.rows++bV)
 ek:H.g c.kl= .list kvs
 rk:L2 (RA H) kvs (ks.map At.ref)
 kl:ks.length=j
 l2:g0.length<=j*bS c.deep
 r1:j<=bV.length
 r2:bV.length<=j*bS c.deep
 gw:GW (kG (c.hs++g0)) (λzz=>False) (nums c.hs.length g0.length) (ks.map λx=>(x,c.bd)) (c8 bV)
 l:R1 c loc
structure Hu (c:Dw):Prop where
 gi:GI c.X c.H c.g c.hs c.rows
 cU:aO c.H c.g.p c.B
 hB:c.B+200*bS c.deep+60 < 40000
 ra:RA c.H (.ref c.rf) (.ref c.fn)
 rb:RD (λy=>¬c.X y) c.H c.bv c.bd
 gb:kW c.bd
 gl:c.bd.length+4*c.deep<=24
 hX:∀x,c.X x->x < c.H.n
 FQ:c.kl < c.H.n
 xk:c.X c.kl
 gk:c.g.rw < c.kl
 ek:c.H.g c.kl= .list []
 h1:c.hs.length+2*bS c.deep<=44
 h2:c.rows.length+2*bS c.deep<=44
section
variable {G:Nat->aj} {H:HP} {QS:KS} {k:Nat} {loc:Loc} {c:Dw}
theorem Hu.turn (ok:Hu c) {j:Nat} {ks:List Int} {kvs:List AV} {g0:List (Nat × Di)} {bV:List (Int × Nat × Di)} (hj:j < 2) (I:Ki c j ks kvs g0 bV loc H):lJ ⟨c.X,c.g,H,c.hs++g0,c.rows++bV,c.B+1+j*(100*bS c.deep+20),c.bv,c.bd,c.kl,c.rf,c.fn,c.deep,kvs,c.hd,c.n0⟩:=by
 have xS:∀y,y < c.H.n->¬c.X y->¬Ly c y/\¬c.X y:=λy zz hy=>⟨λq=>q.elim (λq=>q.elim (λq=>hy (q▸ok.gi.xp)) λq=>q.elim (λq=>hy (q▸ok.gi.xt)) λq=>hy (q▸ok.gi.xr)) λq=>hy (q▸ok.xk),hy⟩
 have jc:j*bS c.deep<=bS c.deep:=match j,hj with
  | 0,_=>by rw [Nat.zero_mul];exact abp _
  | 1,_=>by rw [Nat.one_mul];exact aaF _
  | i+2,hi=>absurd hi (aaP.mpr (abn 2 i))
 have jb:j*(100*bS c.deep+20)<=100*bS c.deep+20:=match j,hj with
  | 0,_=>by rw [Nat.zero_mul];exact abp _
  | 1,_=>by rw [Nat.one_mul];exact aaF _
  | i+2,hi=>absurd hi (aaP.mpr (abn 2 i))
 have kl:=I.rk.len
 rw [aaB,I.kl] at kl
 refine ⟨I.gi,I.cU,?_,RA.mono I.aD ok.ra,ok.rb.mono I.aD xS,ok.gb,ok.gl,λx hx=>I.aD.lt (ok.hX x hx),I.aD.lt ok.FQ,ok.xk,ok.gk,I.ek,by show kvs.length < 10;exact Rn kl (aaA hj (by decide)),?_,?_⟩
 .show c.B+1+j*(100*bS c.deep+20)+100*bS c.deep+20 < 40000
  generalize j*(100*bS c.deep+20)=M at jb ⊢
  exact zF (aaQ ok.hB jb) (by simp+arith)
 .show (c.hs++g0).length+bS c.deep<=44
  rw [aaD];exact zF (aaQ jc (aaQ ok.h1 I.l2)) (by simp+arith)
 .show (c.rows++bV).length+bS c.deep<=44
  rw [aaD];exact zF (aaQ jc (aaQ ok.h2 I.r2)) (by simp+arith)
theorem Ki.next {j:Nat} {ks:List Int} {kvs:List AV} {g0 b5:List (Nat × Di)} {bV aF:List (Int × Nat × Di)} {loc':Loc} {H':HP} {rr:Nat} (I:Ki c j ks kvs g0 bV loc H) (l:R1 c loc') (r:Q2 ⟨c.X,c.g,H,c.hs++g0,c.rows++bV,c.B+1+j*(100*bS c.deep+20),c.bv,c.bd,c.kl,c.rf,c.fn,c.deep,kvs,c.hd,c.n0⟩ H' rr b5 aF):
  Ki c (j+1) (ks++[5+((c.hs++g0).length:Int)]) (kvs++[.ref rr]) (g0++b5) (bV++aF) loc' H':=by
 have gw:=r.gw
 refine ⟨I.aD.tr r.aD,?_,by have:=r.gi;rwa [aaW,aaW] at this,r.e,?_,by rw [aaD,I.kl];rfl,?_,?_,?_,?_,l⟩
 .rw [Nat.succ_mul,<-aa9,<-aa9]
  exact r.cU
 .rw [aaL]
  exact (I.rk.imp λzz zz q=>RA.mono r.aD q).snoc r.ra
 .rw [aaD,Nat.succ_mul];exact aaQ I.l2 r.l2
 .rw [aaD];exact aaQ I.r1 r.r1
 .rw [aaD,Nat.succ_mul];exact aaQ I.r2 r.r2
 .rw [aaL,BK,aaD,Gh,<-aaW]
  rw [show (c.hs++g0).length=c.hs.length+g0.length from aaD] at gw ⊢
  exact GW.app gw (I.gw.up (more:=b5) aaD)
noncomputable def YP (c:Dw) (QS:KS):Prop:=∀H' loc' j ks kvs g0 bV,(1<=j/\j<=2)->Ki c j ks kvs g0 bV loc' H'->QS .next loc' H'
theorem Bl (m:aQ G) (ok:Hu c) (ih:∀d,c.deep=d+1->my G d) (l:R1 c loc) (h:YP c QS):S.bX (.nm "turn") .aE (XL.o (.bin .add (.int 1) (dN 2))) vj (G (k+c.deep+5)) loc c.H QS:=by
 refine ak l.l0 (fu m ok.cU (zF ok.hB (by simp+arith)) (M:=2) (by decide) (by decide) λH1 r f1 n1 gZ hr=>?_)
 refine (?_:xJ (.nm "turn") .aE (vj (G (k+c.deep+5))) loc QS [.int ((1+r:Nat):Int)] H1)
 refine D7 (aaw (abj (Nat.le_of_lt_succ hr) 1) (by decide)) (λj loc' H'=>∃ks kvs g0 bV,Ki c j ks kvs g0 bV loc' H') (λj hj loc' H' C J hC zz=>bG J λks kvs g0 bV I=>?_) (j8 ([]) ([]) ([]) ([]) ⟨f1.weak λzz zz q=>Or.inl (.inl q),by rw [Nat.zero_mul];exact gZ,?_,f1.ne ok.FQ ok.ek (aaN (aaA (aaA ok.gi.i4.pt ok.gi.i4.tr) ok.gk)),.nil,rfl,abp _,abp _,abp _,⟨rfl,rfl⟩,l⟩) λloc' H' J=>bG J λks kvs g0 bV I=>h H' loc' (1+r) ks kvs g0 bV ⟨aaM 1 r,abj (Nat.le_of_lt_succ hr) 1⟩ I
 .have ZZ:j < 2:=zF (aaQ hr hj) (by simp+arith)
  exact BW m (c:=⟨c.X,c.g,H',c.hs++g0,c.rows++bV,c.B+1+j*(100*bS c.deep+20),c.bv,c.bd,c.kl,c.rf,c.fn,c.deep,kvs,c.hd,c.n0⟩) (ok.turn ZZ I) ih ⟨I.l.l0,I.l.l1,I.l.l2,I.l.l3,I.l.l4,I.l.l5,I.l.l6,I.l.l7,I.l.l8,I.l.l9⟩ λH2 rr b5 aF r=>hC _ H2 (j8 _ _ _ _ (I.next ⟨I.l.l0,I.l.l1,I.l.l2,I.l.l3,I.l.l4,I.l.l5,I.l.l6,I.l.l7,I.l.l8,I.l.l9⟩ r))
 .rw [aaY,aaY]
  exact ok.gi.mono f1 (λy q=>.inl q) (λzz zz h=>h) ok.gi.xp ok.gi.xt ok.gi.xr
end
noncomputable def Hh:SL:= .cons (.b3 (.loc "head") (.str "Kids") (.loc "kids")) (.cons (.b3 (.loc "head") (.str "Count") (.bin .sub (.prim "len" (.o (.loc "rows"))) (.loc "count"))) (.o (.ret (.loc "reference"))))
section
variable {G:Nat->aj} {H:HP} {Q:KV} {k:Nat} {loc:Loc} {X:Nat->Prop} {g:mZ} {hs g0:List (Nat × Di)} {rows:List (Int × Nat × Di)}
theorem CH {hd kl rr:Nat} {n0:Int} {d:Di} {ks:List Int} {kvs:List AV} (a:GI X H g (hs++(hd,d)::g0) rows) (nh:j6 d) (lk:kl < H.n) (nx:¬X kl) (ek:H.g kl= .list kvs) (rk:L2 (RA H) kvs (ks.map At.ref)) (hd_:hd≠g.rw)
  (v1:loc "head"= .ref hd) (v2:loc "kids"= .ref kl) (v3:loc "rows"= .ref g.rw) (v4:loc "count"= .int n0) (v5:loc "reference"= .ref rr)
  (h:∀H' c,ai (atS hd) H H'->H'.n=H.n->GI X H' g (hs++(hd,gV ks c d)::g0) rows->Q (.ref rr) H'):Hh (G k) loc H (eF Q):=by
 refine ak v2 (ak v1 (a.setHead (va:= .arr (ks.map At.ref)) (bI kl kvs ⟨rfl,⟨lk,nx⟩,ek,rk⟩) (aaz nh.len (by decide)) λH1 f1 n1 a1=>?_))
 refine a1.rws.elim λvs e=>ak v3 (ad e.1 (ak v4 (ak v1 (a1.setHead (va:= .at (.int ((vs.length:Int) - n0))) rfl (aaz (aaw b7 (aa1 nh.len)) (by decide)) λH2 f2 n2 a2=>ak v5 (h H2 _ (f1.tr f2) (n2.trans n1) a2)))))
end
noncomputable def zk:SL:= .cons (.set "reference" (.ay (.loc "shelf") "add" (.o (.loc "head")))) (.cons (.set "below" Fx) (.cons (.set "count" (.prim "len" (.o (.loc "rows")))) (.cons (.set "kids" (.list .nil)) (.cons (.bX (.nm "turn") .aE (XL.o (.bin .add (.int 1) (dN 2))) vj) Hh))))
structure MI where
 X:Nat->Prop
 g:mZ
 H:HP
 hs:List (Nat × Di)
 rows:List (Int × Nat × Di)
 B:Nat
 gv:Nat
 gd:Di
 hd:Nat
 d:Di
 deep:Nat
structure FW (c:MI):Prop where
 gi:GI c.X c.H c.g c.hs c.rows
 cU:aO c.H c.g.p c.B
 hB:c.B+200*bS c.deep+60 < 40000
 rg:RD (λy=>¬c.X y) c.H c.gv c.gd
 Rc:kW c.gd
 gl:c.gd.length+4*c.deep<=20
 hX:∀x,c.X x->x < c.H.n
 h1:c.hs.length+ur c.deep<=44
 h2:c.rows.length+ur c.deep<=44
 rd:RD (λy=>¬c.X y) c.H c.hd c.d
 j3:c.g.rw < c.hd
 AN:c.hd ∉ c.hs.map (·.1)++c.rows.map (·.2.1)
 nh:j6 c.d
structure TB (c:MI) (loc:Loc):Prop where
 l0:loc "pen"= .ref c.g.p
 l1:loc "shelf"= .ref c.g.s
 l2:loc "own"= .ref c.g.ow
 l3:loc "given"= .ref c.gv
 l4:loc "deep"= .int c.deep
 l5:loc "rows"= .ref c.g.rw
 l6:loc "head"= .ref c.hd
structure SZ (c:MI) (H':HP) (rr:Nat) (b5:List (Nat × Di)) (aF:List (Int × Nat × Di)):Prop where
 aD:ai (λx=>wQ c.g x\/x=c.hd) c.H H'
 lt:rr < H'.n
 at_:H'.g rr=cJ (5+(c.hs.length:Int))
 cU:aO H' c.g.p (c.B+200*bS c.deep+50)
 gi:GI c.X H' c.g (c.hs++b5) (c.rows++aF)
 l1:2<=b5.length
 l2:b5.length<=ur c.deep
 r1:1<=aF.length
 r2:aF.length<=ur c.deep
 gw:GW (kG (c.hs++b5)) (λzz=>False) (nums c.hs.length b5.length) [(5+(c.hs.length:Int),c.gd)] (c8 aF)
section
variable {G:Nat->aj} {H:HP} {Q:KV} {k:Nat} {loc:Loc} {c:MI}
theorem FW.loop (ok:FW c) {H5 H6 H7:HP} {rr bv:Nat} {n0:Int} (f5:ai (atS c.g.t) c.H H5) (q2:rr < H5.n) (q3:H5.g rr=cJ (5+(c.hs.length:Int))) (sA:GI c.X H5 c.g (c.hs++[(c.hd,c.d)]) c.rows) (f6:ai aJ H5 H6) (rb:RD (bh (λy=>¬c.X y) H5.n) H6 bv (bW c.gd c.d)) (f7:ai aJ H6 H7) (n7:H7.n=H6.n+1) (ek:H7.g H6.n= .list []):
  Hu ⟨λx=>c.X x\/x=H6.n,c.g,H7,c.hs++[(c.hd,c.d)],c.rows,c.B,bv,bW c.gd c.d,H6.n,rr,5+(c.hs.length:Int),c.deep,[],c.hd,n0⟩:=by
 have UF:=f6.tr f7
 have Kv:=f5.le
 have hc:= @uY c.deep
 have gl:=ok.gl
 refine ⟨((sA.mono f6 (X':=c.X) (λy q=>q.elim) (λzz zz h=>h) sA.xp sA.xt sA.xr).mono f7 (X':=λx=>c.X x\/x=H6.n) (λy q=>q.elim) (λy hy hx q=>q.elim hx λq=>aaJ hy q) (.inl sA.xp) (.inl sA.xt) (.inl sA.xr)),(ok.cU.mono f5 (aaJ ok.gi.i4.pt)).mono UF id,ok.hB,⟨rr,rfl,UF.lt q2,UF.fix q2 q3 rfl⟩,rb.mono f7 λy hy hx=>⟨id,λq=>q.elim (λq=>hx.elim (λz=>z q) λz=>aaP.mpr z (f5.lt (ok.hX _ q))) λq=>aaJ hy q⟩,Ga ok.Rc ok.nh.aR (aaw (aaw (aaM _ _) gl) (by decide)),?_,λx hx=>hx.elim (λq=>f7.lt ((λhx=>f6.lt (f5.lt (ok.hX _ hx))) q)) λq=>by show x < H7.n;rw [q,n7];exact aaC _,n7▸aaC _,.inr rfl,aax sA.qe f6.le,ek,?_,?_⟩
 .show (bW c.gd c.d).length+4*c.deep<=24
  exact zF (aaQ gl rM) (by simp+arith)
 .show (c.hs++[(c.hd,c.d)]).length+2*bS c.deep<=44
  rw [aaD,abe];exact zF (aaQ (aaS hc.symm) ok.h1) (by simp+arith)
 .show c.rows.length+2*bS c.deep<=44
  exact zF (aaQ (aaS hc.symm) ok.h2) (by simp+arith)
end
section
variable {G:Nat->aj} {H H8:HP} {Q:KV} {k:Nat} {loc:Loc} {c:MI}
theorem A9 {L m:Nat}:nums L (m+1)=(5+(L:Int))::nums (L+1) m:=by unfold nums;rw [abD];rfl
theorem GW.close {hs g0:List (Nat × Di)} {hd:Nat} {d gd:Di} {ks:List Int} {n:Int} {rows:List (Int × Di)} (nh:j6 d) (Rc:kW gd) (hk:ks.length<=10) (w:GW (kG ((hs++[(hd,d)])++g0)) (λzz=>False) (nums (hs++[(hd,d)]).length g0.length) (ks.map λx=>(x,bW gd d)) rows):
  GW (kG (hs++(hd,gV ks n d)::g0)) (λzz=>False) (nums hs.length ((hd,gV ks n d)::g0).length) [(5+(hs.length:Int),gd)] rows:=by
 rw [aa2,A9]
 refine (c9 gd (gV ks n d) ([]) ⟨rfl,⟨lu,Rc⟩,.inr ⟨ks,CJ nh hk,?_⟩⟩)
 rw [aaY,uk (d:=gV ks n d) (d':=d) λkey uq=>uC (o0.mp uq)]
 rw [aaW,aaD] at w
 exact w.congr λx hx=>DV (by have:=dZ.mp hx;rw [abe] at this;exact Int.ne_of_gt (Int.lt_of_lt_of_le (Int.add_lt_add_left (MT (aaC _)) 5) this.1))
theorem D1 {pm:Int->Prop} {f:Int->Option Di} {L m:Nat} {st:List (Int × Di)} {rows:List (Int × Nat × Di)} (w:GW f pm (nums L m) st (c8 rows)) (h:1<=rows.length):1<=m:=by
 cases rows with
 | nil=>cases h
 | cons x r=>
  have:=dZ.mp (w.rows (x.1,x.2.2) (.head _))
  exact O1 this.1 this.2
theorem xE (ok:FW c) {H7 H8:HP} {rr bv j:Nat} {n0:Int} {ks:List Int} {kvs:List AV} {g0:List (Nat × Di)} {bV:List (Int × Nat × Di)} {kl:Nat} (ZQ:ai (wQ c.g) c.H H7) (Vq:c.H.n<=kl) (Sz:rr < H7.n) (err:H7.g rr=cJ (5+(c.hs.length:Int))) (UI:kl≠c.g.p)
  (hj:1<=j/\j<=2) (I:Ki ⟨λx=>c.X x\/x=kl,c.g,H7,c.hs++[(c.hd,c.d)],c.rows,c.B,bv,bW c.gd c.d,kl,rr,5+(c.hs.length:Int),c.deep,[],c.hd,n0⟩ j ks kvs g0 bV loc H8) (lk:kl < H7.n)
  (h:∀H' rr b5 aF,SZ c H' rr b5 aF->Q (.ref rr) H'):Hh (G k) loc H8 (eF Q):=by
 have a8:GI c.X H8 c.g (c.hs++(c.hd,c.d)::g0) (c.rows++bV):=by
  have:=I.gi.mono (X':=c.X) (.refl:ai aJ H8 H8) (λy q=>q.elim) (λy zz hy q=>hy (.inl q)) ok.gi.xp ok.gi.xt ok.gi.xr
  rwa [aaW] at this
 have hc:= @uY c.deep
 have r1:1<=bV.length:=aaw hj.1 I.r1
 have Sq:ks.length<=10:=by rw [I.kl];exact aaw hj.2 (by decide)
 have jb:j*(100*bS c.deep+20)<=2*(100*bS c.deep+20):=Nat.mul_le_mul_right _ hj.2
 refine CH a8 ok.nh (I.aD.lt lk) (λq=>aaP.mpr Vq (ok.hX _ q)) I.ek I.rk (aaN ok.j3) I.l.l8 I.l.l7 I.l.l6 I.l.l9 I.l.l3 λH9 n f9 n9 a9=>h H9 rr ((c.hd,gV ks n c.d)::g0) bV ?_
 refine ⟨((ZQ.weak λzz zz q=>Or.inl q).trans I.aD λa ha q=>q.imp id λq=>absurd ha (aaP.mpr ((show a=kl from q)▸Vq))).tr (f9.weak λzz zz q=>Or.inr q),f9.lt (I.aD.lt Sz),f9.fix (I.aD.lt Sz) (I.aD.fix Sz err rfl) rfl,(I.cU.up ?_).mono f9 (aaJ (aaA (aaA ok.gi.i4.pt ok.gi.i4.tr) ok.j3)),a9,aa1 (D1 I.gw r1),?_,r1,?_,GW.close ok.nh ok.Rc Sq I.gw⟩
 .show c.B+1+j*(100*bS c.deep+20)<=c.B+200*bS c.deep+50
  generalize j*(100*bS c.deep+20)=M at jb ⊢
  exact zF jb (by simp+arith)
 .rw [aa2,hc];exact zF (aaw I.l2 (Nat.mul_le_mul_right _ hj.2)) (by simp+arith)
 .rw [hc];exact aaw (aaw I.r2 (Nat.mul_le_mul_right _ hj.2)) (abn _ 1)
end
noncomputable def M9:SL:= .cons (.bX (.nm "turn") .aE (XL.o (.bin .add (.int 1) (dN 2))) vj) Hh
section
variable {G:Nat->aj} {H:HP} {Q:KV} {k:Nat} {loc:Loc} {c:MI}
theorem BJ (m:aQ G) (ok:FW c) (ih:∀d,c.deep=d+1->my G d) {H5 H6 H7:HP} {rr bv:Nat} {n0:Int} (f5:ai (atS c.g.t) c.H H5) (q2:rr < H5.n) (q3:H5.g rr=cJ (5+(c.hs.length:Int))) (sA:GI c.X H5 c.g (c.hs++[(c.hd,c.d)]) c.rows) (f6:ai aJ H5 H6) (rb:RD (bh (λy=>¬c.X y) H5.n) H6 bv (bW c.gd c.d)) (f7:ai aJ H6 H7) (n7:H7.n=H6.n+1) (ek:H7.g H6.n= .list [])
  (l:TB c loc) (l3:loc "reference"= .ref rr) (l4:loc "below"= .ref bv) (l7:loc "kids"= .ref H6.n) (l9:loc "count"= .int n0) (h:∀H' rr b5 aF,SZ c H' rr b5 aF->Q (.ref rr) H'):M9 (G (k+c.deep+5)) loc H7 (eF Q):=by
 have U3:=f6.tr f7
 refine Bl m (c:=⟨λx=>c.X x\/x=H6.n,c.g,H7,c.hs++[(c.hd,c.d)],c.rows,c.B,bv,bW c.gd c.d,H6.n,rr,5+(c.hs.length:Int),c.deep,[],c.hd,n0⟩) (ok.loop f5 q2 q3 sA f6 rb f7 n7 ek) ih ⟨l.l0,l.l1,l.l2,l3,l4,l.l4,l.l5,l7,l.l6,l9⟩ λH8 Xx j ks kvs g0 bV hj I=>?_
 exact xE ok ((f5.weak λzz zz q=>Or.inr (.inl q)).tn U3) (aaw f5.le f6.le) (U3.lt q2) (U3.fix q2 q3 rfl) (aaN (aax (aaA ok.gi.i4.pt ok.gi.tl) (aaw f5.le f6.le))) hj I (n7▸aaC _) h
theorem BM (m:aQ G) (ok:FW c) (ih:∀d,c.deep=d+1->my G d) (l:TB c loc) (h:∀H' rr b5 aF,SZ c H' rr b5 aF->Q (.ref rr) H'):zk (G (k+c.deep+5)) loc c.H (eF Q):=by
 have hc:= @uY c.deep
 have cp:= @u4 c.deep
 refine ok.gi.sh.elim λtr es=>ak l.l1 (ad es (ak l.l6 (ok.gi.add m ok.rd ok.j3 ok.AN (aaz (aaw (aaM _ _) ok.h1) (by decide)) λH5 rr f5 q1 q2 q3 sA=>?_)))
 have kp:cX (atS c.g.t) (λy=>¬c.X y) (λy=>¬c.X y) c.H:=λy zz hy=>⟨λq=>hy ((show y=c.g.t from q)▸ok.gi.xt),hy⟩
 refine Eg l.l3 l.l6 (ok.rg.mono f5 kp) (ok.rd.mono f5 kp) (aaz (aaw (aaM _ _) ok.gl) (by decide)) λH6 bv f6 Z2 rb=>?_
 refine (sA.mono f6 (X':=c.X) (λy q=>q.elim) (λzz zz h=>h) sA.xp sA.xt sA.xr).rws.elim λrvs er=>ak l.l5 (ad er.1 (cN λH7 f7 n7 ek=>?_))
 exact BJ m ok ih f5 q2 q3 sA f6 rb f7 n7 ek ⟨l.l0,l.l1,l.l2,l.l3,l.l4,l.l5,l.l6⟩ rfl rfl rfl rfl h
end
section
variable {G:Nat->aj} {H H4:HP} {Q:KV} {k deep B gv hd:Nat} {loc:Loc} {X:Nat->Prop} {g:mZ} {hs:List (Nat × Di)} {rows:List (Int × Nat × Di)} {gd d:Di}
theorem As (m:aQ G) (b:NB deep X H g hs rows B gv gd) (ih:∀d,deep=d+1->my G d) (fp:ai (atS g.p) H H4) (cU:aO H4 g.p (B+7)) (rd:RD (λy=>¬X y) H4 hd d) (wY:H.n<=hd) (nh:j6 d) (l:TB ⟨X,g,H4,hs,rows,B+7,gv,gd,hd,d,deep⟩ loc)
  (h:TK X g H hs rows gd (B+100*ur deep) (ur deep) 2 Q):zk (G (k+deep+5)) loc H4 (eF Q):=by
 have hc:= @uY deep
 refine BM m (c:=⟨X,g,H4,hs,rows,B+7,gv,gd,hd,d,deep⟩) ⟨b.gi.mono fp (λy q=>.inl q) (λzz zz h=>h) b.gi.xp b.gi.xt b.gi.xr,cU,by show B+7+200*bS deep+60 < 40000;exact zF (aaQ (abt 100 (aaS hc.symm)) b.hB) (by simp+arith),b.rd.mono fp (λy zz hy=>⟨λq=>hy ((show y=g.p from q)▸b.gi.xp),hy⟩),b.XX,b.gl,λx hx=>fp.lt (b.hX x hx),b.h1,b.h2,rd,aax b.gi.qe wY,b.gi.new wY,nh⟩ ih l λH' rr b5 aF r=>?_
 exact h H' rr b5 aF ⟨(fp.weak λzz zz q=>Or.inl q).trans r.aD λa ha q=>q.elim id λq=>absurd ha (aaP.mpr ((show a=hd from q)▸wY)),r.lt,r.at_,r.cU.up (by show B+7+200*bS deep+50<=_;exact zF (abt 100 (aaS hc.symm)) (by simp+arith)),r.gi,r.l1,r.l2,r.r1,r.r2,r.gw⟩
theorem oK (m:aQ G) (ih:∀d,deep=d+1->my G d):my G deep:=by
 intro k X H g hs rows B gv pv gd Q b Rm h
 have ge:=b.gi.i4
 have fresh:∀{x},H.n<=x->¬X x:=λhx q=>absurd (b.hX _ q) (aaP.mpr hx)
 refine m.run 47 rfl rfl rfl (gc m λH1 f1 n1 e1=>gX (P:=λy=>¬X y) (P':=λy=>¬X y) (d:=oE) (.cons ⟨rfl,H.n,rfl,n1▸aaC _,e1⟩ .nil) (by decide:["Type"].Nodup) (fresh f1.le) (λzz zz h=>h) λH2 f2 n2 r2=>?_)
 have fS:=f1.tr f2
 have wY:H.n<=H1.n:=f1.le
 have Nb:H1.n≠g.p:=aaN (aax (aaA ge.pt b.gi.tl) wY)
 refine El m (c:=⟨λy=>¬X y,g.p,H1.n,g.ow,H2,oE⟩) (B:=B) ⟨λx hx q=>hx (q▸b.gi.xp),λx hx=>fresh (aaw fS.le hx),Nb,aaN (aax (aaA ge.GC b.gi.qe) wY),aaN (aaA ge.pt ge.to),(by decide:1 < 50)⟩ ⟨.refl,b.cU.mono fS id,b.gi.own.mono fS id,r2,.refl⟩ (aaA (aaz (aaM _ _) b.hB) (by decide)) λH3 d1 s3=>?_
 have LP:ai (atS g.p) H H3:=fS.no.trans s3.aD λa ha q=>q.elim id λq=>absurd ha (aaP.mpr ((show a=H1.n from q)▸wY))
 have nh:=C7 s3.fo s3.rd.nd
 refine Rm.elim (λe=>?_) λz=>aq z λpn a w=>?_
 .subst e
  show zk (G (k+deep+5)) ((((((((Loc.new.upd "pen" (.ref g.p)).upd "shelf" (.ref g.s)).upd "own" (.ref g.ow)).upd "parent" .none).upd "given" (.ref gv)).upd "deep" (.int deep)).upd "rows" (.ref g.rw)).upd "head" (.ref H1.n)) H3 (eF Q)
  exact As m b ih LP s3.cU s3.rd wY nh.1 ⟨rfl,rfl,rfl,rfl,rfl,rfl,rfl⟩ h
 .rw [w.1]
  refine s3.rd.set (va:= .at (.ref pn)) ⟨a,rfl,LP.lt w.2.1,LP.fix w.2.1 w.2.2 rfl⟩ (aaz nh.2 (by decide)) λH4 f4 n4 r4=>?_
  show zk (G (k+deep+5)) ((((((((Loc.new.upd "pen" (.ref g.p)).upd "shelf" (.ref g.s)).upd "own" (.ref g.ow)).upd "parent" (.ref a)).upd "given" (.ref gv)).upd "deep" (.int deep)).upd "rows" (.ref g.rw)).upd "head" (.ref H1.n)) H4 (eF Q)
  exact As m b ih (LP.Iw f4 wY) (s3.cU.mono f4 (abm Nb)) r4 wY (nh.1.par nh.2) ⟨rfl,rfl,rfl,rfl,rfl,rfl,rfl⟩ h
theorem Ho (m:aQ G) (deep:Nat):my G deep:=by
 induction deep with
 | zero=>exact oK m λd e=>absurd e (abC d).symm
 | succ d ih=>exact oK m λd' e=>Nat.succ.inj e▸ih
end
section
variable {f f':Int->Option Di} {pm RG:Int->Prop} {ns:List Int} {gd d fd:Di} {pn q n:Int}
theorem cL.more (p:cL pn pm d) (h:∀n,pm n->RG n):cL pn RG d:=⟨p.nd,p.par,p.typ,p.cont,p.kids,λva hv=>(p.mS va hv).imp λn z=>⟨z.1,h n z.2⟩,p.vals,p.aR,p.ln⟩
theorem GW.more (h:∀n,pm n->RG n):∀{st rows:List (Int × Di)},GW f pm ns st rows->GW f RG ns st rows:=by
 induction ns with
 | nil=>exact id
 | cons n ns ih=>exact λ{st rows} w=>w.imp λgd w=>w.imp λd w=>w.imp λja w=>⟨w.1,w.2.1,w.2.2.imp (λw=>w.imp λfd w=>w.imp λr0 w=>⟨w.1,⟨w.2.1.pg.imp λzz p=>p.more h,w.2.1.look,w.2.1.len⟩,ih w.2.2⟩) λw=>w.imp λks w=>⟨w.1,ih w.2⟩⟩
noncomputable def dj (q:Int) (d:Di):Di:=cH "Peer" (.at (.ref q)) d
theorem cL.yA (p:cL pn pm d) (hq:pm q):cL pn pm (dj q d):=by
 have lk:∀{key},key≠"Peer"->look key (dj q d)=look key d:=λh=>az.trans (if_neg (abm h))
 refine ⟨dc p.nd,(lk (by decide)).trans p.par,?_,?_,(lk (by decide)).trans p.kids,λva h=>?_,λkey va h h1 h2 h3 h4=>p.vals key va ((lk h3).symm.trans h) h1 h2 h3 h4,λkey va h hk=>p.aR key va ((lk (hV key hk).2.2).symm.trans h) hk,AA p.ln⟩
 .rw [lk (by decide)];exact p.typ
 .rw [lk (by decide)];exact p.cont
 .have e:look "Peer" (dj q d)=some (.at (.ref q)):=az.trans (if_pos rfl)
  exact ⟨q,aay (h.symm.trans e),hq⟩
theorem Q3.yA (p:Q3 pm gd d fd) (hq:pm q):Q3 pm gd (dj q d) (dj q fd):=by
 refine ⟨p.pg.imp λzz p=>p.yA hq,λkey=>?_,AA p.len⟩
 unfold dj
 rw [az,fg,az,p.look,fg]
 by_cases e:"Peer"=key
 .rw [if_pos e,if_pos e];rfl
 .rw [if_neg e,if_neg e]
theorem GW.mS (hq:pm q) (hd:f n=some d) (Gl:f' n=some (dj q d)) (ho:∀m,m≠n->f' m=f m):ns.Nodup->∀{st ra rb:List (Int × Di)},GW f pm ns st (ra++(n,fd)::rb)->GW f' pm ns st (ra++(n,dj q fd)::rb):=by
 induction ns with
 | nil=>exact λzz {st ra rb} w=>by cases ra<;>cases w.2
 | cons m ns ih=>
  intro nd st ra rb w
  have nd:=aa8.mp nd
  refine w.imp λgd w=>aq w λd1 ja w=>?_
  refine w.2.2.elim (λz=>aq z λX2 r0 z=>?_) λz=>z.elim λks z=>?_
  .cases ra with
   | nil=>
    cases z.1
    obtain rfl:=aay (hd.symm.trans w.2.1.1)
    exact (bI (dj q d) ja ⟨w.1,⟨Gl,w.2.1.2⟩,.inl (bI (dj q fd) rb ⟨rfl,z.2.1.yA hq,z.2.2.congr λx hx=>ho x λe=>nd.1 (e▸hx)⟩)⟩)
   | cons x ra=>
    cases z.1
    have ne:m≠n:=λe=>nd.1 (e▸z.2.2.rows (n,fd) (aaT _ (.head _)))
    exact (bI d1 ja ⟨w.1,⟨(ho m ne).trans w.2.1.1,w.2.1.2⟩,.inl (bI X2 (ra++(n,dj q fd)::rb) ⟨rfl,z.2.1,ih nd.2 z.2.2⟩)⟩)
  .have ne:m≠n:=λe=>nd.1 (e▸z.2.rows (n,fd) (aaT _ (.head _)))
   exact (bI d1 ja ⟨w.1,⟨(ho m ne).trans w.2.1.1,w.2.1.2⟩,.inr ⟨ks,z.1,ih nd.2 z.2⟩⟩)
theorem GW.all:∀{st rows:List (Int × Di)},GW f pm ns st rows->∀n∈ns,∃d,f n=some d/\((∃pn,cL pn pm d)\/∃ks,rL ks d):=by
 induction ns with
 | nil=>exact λzz n h=>(aaU h).elim
 | cons m ns ih=>
  exact λ{st rows} w n h=>bj w λgd d ja w=>w.2.2.elim (λz=>aq z λfd r0 z=>(aaH.mp h).elim (λe=>e▸⟨d,w.2.1.1,.inl z.2.1.pg⟩) (ih z.2.2 n)) λz=>z.elim λks z=>(aaH.mp h).elim (λe=>e▸⟨d,w.2.1.1,.inr ⟨ks,z.1⟩⟩) (ih z.2 n)
end
noncomputable def oz (va:Va):Prop:=va≠ .at .none/\xG va
theorem jF {i:Int}:oz (.at (.int i)):=⟨nofun,trivial⟩
theorem pW {s:String}:oz (.at (.name s)):=⟨nofun,trivial⟩
theorem fE {n:Int}:oz (.at (.ref n)):=⟨nofun,trivial⟩
theorem xO {va:Va} (h:d6 va):oz va:=h.elim (λz=>z.elim λi e=>e▸jF) λh=>h.elim (λz=>z.elim λn e=>e.1▸fE) λz=>z.elim λw e=>e▸⟨nofun,(by decide:4 < 1000)⟩
section
variable {gd d aR:Di} {pn:Int} {pm:Int->Prop} {ks:List Int} {key:String} {va:Va}
theorem wc (p:cL pn pm d) (h:look key d=some va):oz va:=by
 refine (Classical.em (key∈ax)).elim (λhi=>?_) λhi=>?_
 .exact xO (p.aR key va h hi)
 by_cases h1:key="Parent"
 .exact aay (p.par.symm.trans (h1▸h))▸fE
 by_cases h2:key="Peer"
 .exact (p.mS va (h2▸h)).elim λn z=>z.1▸fE
 by_cases h3:key="Contents"
 .exact p.cont.elim (λe=>aay (e.symm.trans (h3▸h))▸fE) λe=>aay (e.symm.trans (h3▸h))▸fE
 exact (p.vals key va h hi h1 h2 h3).elim (λz=>z.elim λi e=>e▸jF) λz=>z.elim λs e=>e▸pW
theorem Jh (p:cL pn pm d):de (.dict d):=⟨aaz p.len (by decide),λx hx=>wc p (cg p.nd hx)⟩
theorem Jf (p:rL ks d):de (.dict d):=by
 refine ⟨aaz p.len (by decide),λx hx=>?_⟩
 have h:=cg p.nd hx
 refine (Classical.em (x.1∈ax)).elim (λhi=>?_) λhi=>?_
 .exact xO (p.aR _ _ h hi)
 refine (Classical.em (x.1="Kids")).elim (λh1=>?_) λh1=>?_
 .rw [h1,p.kids] at h
  exact aay h▸⟨nofun,aaz (aaw (aaS (aaB _)) p.kl) (by decide)⟩
 exact (p.vals _ _ h hi h1).elim (λz=>z.elim λi e=>e.symm▸jF) λz=>z.elim (λz=>z.elim λs e=>e.symm▸pW) λz=>z.elim λn e=>e.symm▸fE
structure E1 (gd aR:Di):Prop where
 eq:∀key,look key aR=look key gd
 nd:(aR.map (·.1)).Nodup
theorem Ax (h:kW gd) (i:E1 gd aR):aR.length < 90:=by
 have:(aR.map (·.1)).length<=ax.length:=i.nd.length_le_of_subset λkey hk=>by
  refine (Classical.em (key∈ax)).elim (λq=>?_) λq=>?_
  .exact q
  .refine (aaG.mp hk).elim λx z=>(kg (key:=x.1) (v:=x.2) z.1).elim λw hw=>?_
   rw [show x.1=key from z.2,i.eq,h.out _ q] at hw;exact nomatch hw
 rw [aaB] at this
 exact aaz this (by decide)
theorem Dz {l:List String}:∀{aR:Di},(aR.map (·.1)).Nodup->((l.foldl (fh d) aR).map (·.1)).Nodup:=by
 induction l with
 | nil=>exact id
 | cons x l ih=>
  refine λ{aR} h=>ih ?_
  unfold fh
  cases look x d with
  | none=>exact h
  | some v=>exact dc h
end
section
variable {gd d aR:Di} {key:String}
theorem yQ {x:String}:look key (fh d aR x)=if x=key then (look key d).or (look key aR) else look key aR:=by
 by_cases e:x=key
 .rw [if_pos e,<-e]
  unfold fh
  cases look x d with
  | none=>rfl
  | some v=>exact az.trans (if_pos rfl)
 .rw [if_neg e];exact qN e
theorem md {l:List String}:∀{aR:Di},look key (l.foldl (fh d) aR)=if key∈l then (look key d).or (look key aR) else look key aR:=by
 induction l with
 | nil=>exact (if_neg aaU).symm
 | cons x l ih=>
  intro aR
  refine ih.trans ?_
  rw [yQ]
  by_cases e:x=key
  .rw [if_pos e,if_pos (e▸List.mem_cons_self:key∈x::l)]
   cases look key d with
   | none=>exact ite_self _
   | some v=>exact ite_self _
  .rw [if_neg e]
   by_cases h:key∈l
   .rw [if_pos h,if_pos (.tail _ h)]
   .rw [if_neg h,if_neg λz=>(aaH.mp z).elim (λz=>e z.symm) h]
theorem w7 {f:Di} {x:String} (h:look key d= .none):look key (dK d aR f x)=if x=key then (look key aR).or (look key f) else look key f:=by
 unfold dK
 by_cases e:x=key
 .rw [if_pos e,e,h]
  show look key (((look key aR).map λva=>cH key va f).getD f)=_
  cases look key aR with
  | none=>rfl
  | some v=>exact az.trans (if_pos rfl)
 .rw [if_neg e]
  cases look x d with
  | some _=>rfl
  | none=>
   show look key (((look x aR).map λva=>cH x va f).getD f)=_
   cases look x aR with
   | none=>rfl
   | some v=>exact az.trans (if_neg e)
end
section
variable {gd d aR:Di} {key:String}
theorem xa {f:Di} {x:String} {v:Va} (h:look key d=some v):look key (dK d aR f x)=look key f:=by
 unfold dK
 cases e:look x d with
 | some _=>rfl
 | none=>
  have ne:x≠key:=λq=>by rw [q,h] at e;exact nomatch e
  show look key (((look x aR).map λva=>cH x va f).getD f)=_
  cases look x aR with
  | none=>rfl
  | some v=>exact az.trans (if_neg ne)
theorem yf {v:Va} (h:look key d=some v) {l:List String}:∀{f:Di},look key (l.foldl (dK d aR) f)=look key f:=by
 induction l with
 | nil=>exact rfl
 | cons x l ih=>exact ih.trans (xa h)
theorem wo (h:look key d= .none) {l:List String}:∀{f:Di},look key (l.foldl (dK d aR) f)=if key∈l then (look key aR).or (look key f) else look key f:=by
 induction l with
 | nil=>exact (if_neg aaU).symm
 | cons x l ih=>
  intro f
  refine ih.trans ?_
  rw [w7 h]
  by_cases e:x=key
  .rw [if_pos e,if_pos (e▸List.mem_cons_self:key∈x::l)]
   cases look key aR with
   | none=>exact ite_self _
   | some v=>exact ite_self _
  .rw [if_neg e]
   by_cases h:key∈l
   .rw [if_pos h,if_pos (.tail _ h)]
   .rw [if_neg h,if_neg λz=>(aaH.mp z).elim (λz=>e z.symm) h]
theorem mH (h:kW gd) (i:E1 gd aR):look key (iK d (cI d aR))=look key (ey gd d):=by
 rw [fg]
 cases hd:look key d with
 | some v=>exact (yf hd).trans hd
 | none=>
  refine (wo hd).trans ?_
  show (if key∈ax then (look key (ax.foldl (fh d) aR)).or (look key d) else look key d)=look key gd
  rw [md,hd,i.eq,Option.or_none]
  by_cases hk:key∈ax
  .rw [if_pos hk,if_pos hk];rfl
  .rw [if_neg hk,h.out key hk]
end
section
variable {gd d aR:Di} {key:String} {f:Int->Option Di} {pm:Int->Prop} {tab:List (Int × Ob)} {ns:List Int}
theorem HW {l:List String}:∀{f:Di},(f.map (·.1)).Nodup->((l.foldl (dK d aR) f).map (·.1)).Nodup:=by
 induction l with
 | nil=>exact id
 | cons x l ih=>
  refine λ{f} h=>ih ?_
  unfold dK
  cases look x d with
  | some _=>exact h
  | none=>cases look x aR with
   | none=>exact h
   | some v=>exact dc h
theorem Bd {l:List String}:∀{f:Di},(l.foldl (dK d aR) f).length<=f.length+l.length:=by
 induction l with
 | nil=>exact λ{f}=>aaF _
 | cons x l ih=>exact λ{f}=>aaw ih (by rw [aa2,<-aa9,Nat.add_right_comm];exact abb (wI f x) _)
structure Told (pm:Int->Prop) (gd d p:Di):Prop where
 eq:∀key,look key p=look key (ey gd d)
 nd:(p.map (·.1)).Nodup
 len:p.length < 60
 g:kW gd
 d:∃pn,cL pn pm d
theorem HI {pn:Int} (p:cL pn pm d) (g:kW gd) (i:E1 gd aR):Told pm gd d (iK d (cI d aR)):=
 ⟨λkey=>mH g i,HW p.nd,aaz (aaw Bd (abb p.len _)) (by decide:10+4 < 60),g,pn,p⟩
theorem wG (h1:∃o,ah 1 tab=some o/\o≠ .null) (h2:∃o,ah 2 tab=some o/\o≠ .null) (hi:∀key va,look key d=some va->key∈ax->d6 va):rY tab d:=λkey hk va hv=>(hi key va hv hk).elim (λz=>z.elim λi e=>e▸trivial) λz=>z.elim (λz=>z.elim λn e=>e.1▸e.2.elim (λq=>q▸h1) λq=>q▸h2) λz=>z.elim λw e=>e▸trivial
end
noncomputable def QX (pm:Int->Prop) (r p:Int × Di):Prop:=r.1=p.1/\(∀key,look key r.2=look key p.2)/\r.2.length<=60/\∃gd d,Told pm gd d p.2
noncomputable def Qn (a b:Int × Di):Prop:=a.1=b.1/\E1 a.2 b.2
section
variable {f:Int->Option Di} {pm:Int->Prop} {tab:List (Int × Ob)} {ns:List Int}
theorem GW.wk (hf:∀n d,f n=some d->ah n tab=some (.dict d)) (h1:∃o,ah 1 tab=some o/\o≠ .null) (h2:∃o,ah 2 tab=some o/\o≠ .null):∀{st rows ye:List (Int × Di)},GW f pm ns st rows->L2 Qn st ye->
  ∃sp,Wk tab ye sp/\sp.map (·.n)=ns/\L2 (QX pm) rows (ar sp)/\∀x E8,sp=x::E8->∀ks d,f x.n=some d->rL ks d->x.pg=false:=by
 induction ns with
 | nil=>exact λ{st rows ye} w hs=>by rw [w.1] at hs;exact (w.2)▸⟨[],hs.flip.df,rfl,.nil,λx E8 e=>nomatch e⟩
 | cons n ns ih=>
  intro st rows ye w hs
  refine bj w λgd d ja w=>?_
  rw [w.1] at hs
  refine aq hs.flip.aW λb RK z=>?_
  obtain ⟨n',aR⟩:=b
  rw [z.1]
  rw [<-(show n=n' from z.2.1.1)]
  have hi:E1 gd aR:=z.2.1.2
  refine w.2.2.elim (λy=>aq y λfd r0 y=>y.2.1.pg.elim λpn p=>(ih y.2.2 z.2.2.flip).elim λsp q=>?_) λy=>y.elim λks y=>?_
  .refine ⟨⟨n,d,cI d aR,true⟩::sp,(c9 aR RK ([]) ⟨rfl,⟨hf n d w.2.1.1,?_,wG h1 h2 p.aR,Ax w.2.1.2 hi,rfl,.inl ⟨rfl,rfl⟩⟩,q.1⟩),by rw [aa4,q.2.1],?_,λx E8 e ks d' e2 nd=>?_⟩
   .exact p.typ.elim (λt=>.inr (.inr ⟨t,p.kids,rfl⟩)) λt=>.inr (.inl ⟨t,rfl⟩)
   .rw [y.1]
    exact .cons ⟨rfl,λkey=>(y.2.1.look key).trans (mH w.2.1.2 hi).symm,aaw y.2.1.len (by cases (look "Peer" fd).isSome<;>decide),gd,d,HI p w.2.1.2 hi⟩ q.2.2.1
   .cases (abf e).1
    obtain rfl:=aay (w.2.1.1.symm.trans e2)
    have t:=nd.typ
    exact p.typ.elim (λq=>by replace t:=(q)▸t;cases t) λq=>by
     replace t:=(q)▸t
     have t2:"Page"="Pages":=congrArg (λ(o:Option Va)=>match o with | some (.at (.name s))=>s | _=>"") t
     exact absurd t2 (by decide)
  .have OA:L2 Qn (ks.map (λx=>(x,bW gd d))++ja) (ks.map (λx=>(x,cI d aR))++RK):=L2.append (L2.mR (L2.yc (L2.diag λx zz=>⟨rfl,λkey=>by show look key (cI d aR)=look key (bW gd d);unfold cI;rw [md,jx w.2.1.2.nd,hi.eq],Dz hi.nd⟩))) z.2.2.flip
   refine (ih y.2 OA).elim λsp q=>⟨⟨n,d,cI d aR,false⟩::sp,(c9 aR RK ks ⟨rfl,⟨hf n d w.2.1.1,.inl ⟨y.1.typ,rfl⟩,wG h1 h2 y.1.aR,Ax w.2.1.2 hi,rfl,.inr ⟨rfl,y.1.kids⟩⟩,q.1⟩),by rw [aa4,q.2.1],q.2.2.1,λx E8 e zz zz zz zz=>(abf e).1▸rfl⟩
end
noncomputable def mj (L:Nat):List (Nat × Di)->List (Int × Ob)
 | []=>[]
 | x::r=>((L:Int)+1,.dict x.2)::mj (L+1) r
theorem Br {l:List (Nat × Di)}:∀{L:Nat},(mj L l).length=l.length:=by
 induction l with
 | nil=>exact rfl
 | cons x r ih=>exact congrArg (· +1) ih
theorem pK {l:List (Nat × Di)}:∀{L:Nat},(mj L l).map (·.1)=(List.range' L l.length).map λ(i:Nat)=>(i:Int)+1:=by
 induction l with
 | nil=>exact rfl
 | cons x r ih=>exact λ{L}=>by rw [aa2,abD,aa4,<-ih];rfl
theorem EH {l:List (Nat × Di)}:∀{L i:Nat},ah ((L:Int)+1+i) (mj L l)=(l[i]?).map λx=>Ob.dict x.2:=by
 induction l with
 | nil=>exact rfl
 | cons x r ih=>
  intro L i
  cases i with
  | zero=>rw [Int.natCast_zero,Int.add_zero];exact fq
  | succ i=>
   show ah _ (((L:Int)+1,_)::_)=(r[i]?).map _
   rw [dW (Int.ne_of_lt (Int.lt_add_of_pos_right _ (Int.natCast_pos.mpr (Nat.succ_pos _)))),<-ih (L:=L+1)]
   exact congrArg (λn=>ah n (mj (L+1) r)) zs
noncomputable def cQ (hs:List (Nat × Di)):List (Int × Ob):=pG++mj 4 hs
noncomputable def fN:Di:=[("Type",.at (.name "Catalog")),("Pages",.at (.ref 5))]
noncomputable def N8 (c:Int):Di:=[("Root",.at (.ref c)),("Size",.at (.int 40))]
noncomputable def Lh (hs:List (Nat × Di)) (c:Int) (sp:List aX):Doc:=⟨cQ hs,N8 c,c,sp⟩
section
variable {hs:List (Nat × Di)} {n:Int} {ob:Ob}
theorem jp:(cQ hs).length=4+hs.length:=(aaD).trans (congrArg (4+·) Br)
theorem jh:(cQ hs).map (·.1)=(List.range (cQ hs).length).map λ(i:Nat)=>(i:Int)+1:=by
 rw [jp,List.range_eq_range',List.range'_append_1.symm,aaL]
 unfold cQ
 rw [aaL,pK]
 rfl
theorem Cb:((cQ hs).map (·.1)).Nodup:=by
 rw [jh]
 exact List.Pairwise.map _ (λa b (h:a < b)=>(λe=>aaJ h (qk ((Int.add_left_inj 1).mp e)))) List.pairwise_lt_range
theorem rH (h:5<=n):ah n (cQ hs)=(kG hs n).map Ob.dict:=by
 obtain ⟨i,e⟩:∃i:Nat,n=4+1+i:=⟨(n - 5).toNat,(zu h).symm⟩
 have hn:n ∉ pG.map (·.1):=λq=>by have:=((bD (tab:=pG) rfl).mp q).2;have e4:pG.length=4:=rfl;exact NY e this e4
 unfold cQ
 rw [lM,o8 hn]
 show ah n (mj 4 hs)=_
 rw [e]
 refine EH.trans ?_
 rw [show (4:Int)+1+i=5+i from rfl,AD,Option.map_map]
 rfl
theorem og (h:ah n (cQ hs)=some ob):n<=4+hs.length:=by
 have:=(bD jh).mp (abi (f:=(·.1)) (bp h))
 rw [jp] at this
 exact this.2
structure vO (w:Int × Ob):Prop where
 n:w.1∈([1,2,3,4]:List Int)
 refs:lX w.2=[]
 nn:w.2≠ .null
 ok:de w.2
theorem nW {i:Int} {s:String}:eI [(s,.at (.int i))]:=⟨(by decide:1 < 64),λx hx=>aaK.mp hx▸jF⟩
theorem DI:∀w∈pG,vO w:=by
 have h:vO (1,.dict [("Font",.at (.int 1))])/\vO (2,.dict [("Font",.at (.int 2))])/\vO (3,KX)/\vO (4,LV)/\∀w∈([]:List (Int × Ob)),vO w:=
  ⟨⟨.head _,rfl,Ob.noConfusion,nW⟩,⟨.tail _ (.head _),rfl,Ob.noConfusion,nW⟩,⟨.tail _ (.tail _ (.head _)),rfl,Ob.noConfusion,(by decide:0 < 64),fm⟩,⟨.tail _ (.tail _ (.tail _ (.head _))),rfl,Ob.noConfusion,nW⟩,fm⟩
 unfold pG
 rw [List.forall_mem_cons,List.forall_mem_cons,List.forall_mem_cons,List.forall_mem_cons]
 exact h
theorem qO (h:ah n (cQ hs)=some ob) (h5:¬5<=n):vO (n,ob):=by
 refine DI _ (bp ((qI λw hw e=>?_).symm.trans h))
 have:=abi (f:=(·.1)) hw
 rw [pK] at this
 refine (aaG.mp this).elim λi z=>?_
 have:=(List.mem_range'_1.mp z.1).1
 exact Qh h5 e z.2 this
end
structure d8 (D:Doc) (rows:List (Int × Di)):Prop where
 ok:DocOk D
 rows:L2 (λ(r p:Int × Di)=>r.1=p.1/\(∀key,look key r.2=look key p.2)/\r.2.length<=60) rows (ar D.sp)
 Rg:∀p∈ar D.sp,uT D p.2/\D.bs p.1=true
 neg:D.bs (-1)=false
 Y0:D.bs 3=false/\D.bs 4=false
structure oH (hk:List (Nat × Di)) (ca:Nat) (pm:Int->Prop) (rows:List (Int × Di)):Prop where
 w:GW (kG (hk++[(ca,fN)])) pm (nums 0 hk.length) [(5,[])] rows
 h2:2<=hk.length
 hl:hk.length<=40
 Qy:∀n,pm n->n∈nums 0 hk.length
structure jq (hk:List (Nat × Di)) (ca:Nat) (pm:Int->Prop) (rows:List (Int × Di)) (sp:List aX):Prop where
 wk:Wk (cQ (hk++[(ca,fN)])) [(5,[])] sp
 ns:sp.map (·.n)=nums 0 hk.length
 rows:L2 (QX pm) rows (ar sp)
 hd:∀x E8,sp=x::E8->x.pg=false
section
variable {hk:List (Nat × Di)} {ca:Nat} {pm:Int->Prop} {rows:List (Int × Di)} {sp:List aX} {n:Int} {ob:Ob} {d:Di}
noncomputable abbrev mX (hk:List (Nat × Di)) (ca:Nat) (sp:List aX):Doc:=Lh (hk++[(ca,fN)]) (5+(hk.length:Int)) sp
theorem oH.nm (g:oH hk ca pm rows):n∈nums 0 hk.length ↔ 5<=n/\n < 5+(hk.length:Int):=dZ
theorem AH {hs:List (Nat × Di)} (h:kG hs n=some d):ah n (cQ hs)=some (.dict d):=by
 have h5:5<=n:=by
  unfold kG at h
  by_cases q:5<=n
  .exact q
  .rw [if_neg q] at h;exact nomatch h
 rw [rH h5,h];rfl
theorem Gg:kG (hk++[(ca,fN)]) (5+(hk.length:Int))=some fN:=lu (b:=[]) (x:=(ca,fN))
theorem oH.root (g:oH hk ca pm rows):∃ks d,kG (hk++[(ca,fN)]) 5=some d/\rL ks d:=by
 obtain ⟨m,e⟩:∃m,hk.length=m+2:=⟨hk.length - 2,by have:=g.h2;exact (Nat.sub_add_cancel this).symm⟩
 have w:=g.w
 rw [e] at w
 refine bj w λgd d ja w=>w.2.2.elim (λz=>aq z λfd r0 z=>?_) λz=>z.elim λks z=>(bI ks d ⟨w.2.1.1,z.1⟩)
 refine bj z.2.2 λgd d RK w2=>?_
 have:=((abf w.1).2.symm).symm.trans w2.1
 cases this
theorem oH.walk (g:oH hk ca pm rows):∃sp,jq hk ca pm rows sp:=
 (g.w.wk (λn d h=>AH h) ⟨_,rfl,Ob.noConfusion⟩ ⟨_,rfl,Ob.noConfusion⟩ (.cons ⟨rfl,λzz=>rfl,.nil⟩ .nil)).imp λsp z=>⟨z.1,z.2.1,z.2.2.1,λx E8 e=>by
  refine aq g.root λks d r=>z.2.2.2 x E8 e ks d ?_ r.2
  obtain ⟨m,em⟩:∃m,hk.length=m+1:=⟨hk.length - 1,by have:=g.h2;exact (Nat.sub_add_cancel (Nat.le_of_succ_le this)).symm⟩
  have ns:=z.2.1
  rw [e,em] at ns
  have:x.n=5:=(abf ns).1
  rw [this];exact r.1⟩
theorem jq.bs (w:jq hk ca pm rows sp):(mX hk ca sp).bs n=decide (n∈nums 0 hk.length\/n=5+(hk.length:Int)):=by
 refine decide_eq_decide.mpr ?_
 show n∈sp.map (·.n)\/n=5+(hk.length:Int) ↔ _
 rw [w.ns]
theorem jq.TT (w:jq hk ca pm rows sp) (h1:5<=n) (h2:n<=5+(hk.length:Int)):(mX hk ca sp).bs n=true:=by
 rw [w.bs,decide_eq_true_iff,dZ];exact (Int.lt_or_eq_of_le h2).imp_left λx=>⟨h1,x⟩
theorem jq.Re (w:jq hk ca pm rows sp) (h:n < 5):(mX hk ca sp).bs n=false:=by
 rw [w.bs,decide_eq_false_iff_not,dZ];exact λx=>x.elim (λy=>Int.not_le.mpr h y.1) λe=>Int.not_le.mpr h (e▸Int.le_add_of_nonneg_right (aa0 _))
theorem jq.own (w:jq hk ca pm rows sp) (h:ah n (cQ (hk++[(ca,fN)]))=some ob) (hb:(mX hk ca sp).bs n=false):vO (n,ob):=qO h λh5=>by
 have:=og h
 rw [aaD,abe] at this
 rw [w.TT h5 (abd this (Int.le_of_eq zs))] at hb;exact Bool.noConfusion hb
theorem oH.obs (g:oH hk ca pm rows) (h:ah n (cQ (hk++[(ca,fN)]))=some ob):de ob:=by
 by_cases h5:5<=n
 .have hi:=og h
  rw [aaD,abe] at hi
  rw [rH h5] at h
  by_cases hc:n=5+(hk.length:Int)
  .rw [hc,Gg] at h
   exact aay h▸⟨(by decide:2 < 64),(List.forall_mem_cons.mpr ⟨pW,List.forall_mem_cons.mpr ⟨fE,fm⟩⟩:∀x∈fN,oz x.2)⟩
  .refine (g.w.all n (g.nm.mpr ⟨h5,M3 (abd hi (Int.le_of_eq zs)) hc⟩)).elim λd q=>?_
   rw [q.1] at h
   exact aay h▸q.2.elim (λz=>z.elim λzz z=>Jh z) λz=>z.elim λzz z=>Jf z
 .exact (qO h h5).ok
theorem Md (g:oH hk ca pm rows) (w:jq hk ca pm rows sp):DocOk (mX hk ca sp):=by
 refine ⟨⟨(c9 (5+(hk.length:Int)) fN 5 ⟨⟨rfl,AH Gg⟩,rfl,w.wk⟩),?_,?_,w.hd⟩,rfl,λx hx=>g.obs (lL Cb hx),⟨(by decide:2 < 64),(List.forall_mem_cons.mpr ⟨fE,List.forall_mem_cons.mpr ⟨jF,fm⟩⟩:∀x∈N8 _,oz x.2)⟩,λn o h hb=>(w.own h hb).refs,λfr nd h=>?_⟩
 .show (sp.map (·.n)).Nodup;rw [w.ns];exact y0
 .have:=congrArg List.length w.ns
  rw [aaB,show (nums 0 hk.length).length=hk.length from (aaB _).trans List.length_range'] at this
  show sp.length < 1000
  rw [this];exact aaz g.hl (by decide)
 .exact nd.length_le_of_subset (l₂:=[1,2,3,4]) λn hn=>(aa7.mp (h n hn).1).elim λo e=>(w.own e (h n hn).2).n
end
section
variable {hk:List (Nat × Di)} {ca:Nat} {pm:Int->Prop} {rows:List (Int × Di)} {sp:List aX} {n:Int} {key:String} {gd d p:Di} {va:Va}
theorem Told.val (t:Told pm gd d p) (h:look key p=some va):look key d=some va\/look key gd=some va:=by
 rw [t.eq,fg] at h
 cases e:look key d with
 | some v=>rw [e] at h;exact .inl h
 | none=>rw [e] at h;exact .inr h
theorem Told.out (t:Told pm gd d p) (h:key ∉ ax):look key p=look key d:=by
 rw [t.eq,fg,t.g.out key h,Option.or_none]
theorem Told.aR (t:Told pm gd d p) (hi:key∈ax) (h:look key p=some va):d6 va:=
 (t.val h).elim (λq=>t.d.elim λpn pd=>pd.aR key va q hi) (t.g.GS key va)
theorem Told.ok (t:Told pm gd d p):eI p:=⟨aaA t.len (by decide),λx hx=>(t.val (cg t.nd hx)).elim (λq=>t.d.elim λpn pd=>wc pd q) λq=>xO (t.g.GS _ _ q)⟩
theorem jq.low (w:jq hk ca pm rows sp) {o:Ob} (h:ah n pG=some o):ah n (mX hk ca sp).tab=some o/\(mX hk ca sp).bs n=false/\o≠ .null:=by
 refine ⟨((lM.trans (h.symm▸rfl):ah n (pG++_)=_)),w.Re ?_,(DI _ (bp h)).nn⟩
 have:=(bD (tab:=pG) rfl).mp (abi (f:=(·.1)) (bp h))
 exact Int.lt_add_one_of_le (abd this.2 (wV (aaS rfl)))
theorem jq.aR (w:jq hk ca pm rows sp) (h:d6 va):gS va=[]\/∃m o,va= .at (.ref m)/\ah m (mX hk ca sp).tab=some o/\(mX hk ca sp).bs m=false/\o≠ .null:=
 h.elim (λz=>z.elim λi e=>e▸ .inl rfl) λh=>h.elim (λz=>z.elim λm e=>e.2.elim (λq=>.inr ⟨m,_,e.1,q▸w.low (n:=1) rfl⟩) λq=>.inr ⟨m,_,e.1,q▸w.low (n:=2) rfl⟩) λz=>z.elim λi e=>e▸ .inl rfl
theorem K8 (g:oH hk ca pm rows) (w:jq hk ca pm rows sp) (t:Told pm gd d p):uT (mX hk ca sp) p:=by
 refine t.d.elim λpn pd=>⟨t.nd,t.ok,t.len,λkey va h k1 k2=>?_,λva h=>?_,?_⟩
 .by_cases hi:key∈ax
  .exact w.aR (t.aR hi h)
  .replace h:=(t.out hi)▸h
   by_cases hc:key="Contents"
   .rw [hc] at h
    exact pd.cont.elim (λq=>.inr (bI 3 _ ⟨aay (h.symm.trans q),w.low (n:=3) rfl⟩)) λq=>.inr (bI 4 _ ⟨aay (h.symm.trans q),w.low (n:=4) rfl⟩)
   .exact (pd.vals key va h hi k2 k1 hc).elim (λz=>z.elim λi e=>e▸ .inl rfl) λz=>z.elim λi e=>e▸ .inl rfl
 .rw [t.out (by decide)] at h
  exact (pd.mS va h).imp λn z=>⟨z.1,w.TT (g.nm.mp (g.Qy n z.2)).1 (Int.le_of_lt (g.nm.mp (g.Qy n z.2)).2)⟩
 .rw [t.out (by decide)]
  exact pd.cont.imp (λq=>⟨q,(w.low (n:=3) rfl).1⟩) λq=>⟨q,(w.low (n:=4) rfl).1⟩
theorem Io (g:oH hk ca pm rows):∃sp,d8 (mX hk ca sp) rows:=g.walk.imp λsp w=>
 ⟨Md g w,w.rows.imp λr p z=>⟨z.1,z.2.1,z.2.2.1⟩,λp hp=>(w.rows.wm.flip.imp λzz zz z=>z).flip.Hr hp |>.elim λr z=>aq z.2.1.2.2.2 λgd d t=>⟨K8 g w t,by
  have:=g.nm.mp (g.w.rows r z.1)
  rw [<-z.2.1.1];exact w.TT this.1 (Int.le_of_lt this.2)⟩,w.Re (by decide),w.Re (by decide),w.Re (by decide)⟩
end
noncomputable def Jl:SL:= .o (.bA (.cmp .eq (dN 2) (.int 0)) (.cons (.set "peer" (.idx (.idx (.loc "rows") (.call "_law_draw" (.cons (.loc "pen") (.o (.prim "len" (.o (.loc "rows"))))))) (.int 0))) (.cons (.b3 (.loc "fields") (.str "Peer") (.loc "peer")) (.o (.b3 (.idx (.idx (.fld (.loc "shelf") "table") (.fld (.loc "reference") "number")) (.int 1)) (.str "Peer") (.loc "peer"))))) .nil)
noncomputable def Ph:SL:= .cons (.bX (.tup ["reference","fields"]) .plain (.o (.loc "rows")) Jl) (.o (.ret (.tup (.cons (.loc "shelf") (.o (.loc "rows"))))))
noncomputable def No:SL:= .cons (.set "root" (.call "_law_node" (.cons (.loc "pen") (.cons (.loc "shelf") (.cons (.loc "own") (.cons .none (.cons (.dict [] .nil) (.cons (.int 1) (.o (.loc "rows")))))))))) (.cons (.dQ (.loc "shelf") "trailer" (.dict ["Root","Size"] (.cons (.ay (.loc "shelf") "add" (.o (.dict ["Type","Pages"] (.cons (.new "Name" (.o (.str "Catalog"))) (.o (.loc "root")))))) (.o (.int 40))))) Ph)
structure IB (n0 s t:Nat) (tab:List (Int × Ob)) (vs:List AV) (xs:List At) (H0 H:HP):Prop where
 aD:ai (atS t) H0 H
 ms:MS (bw n0) H s t tab
 vs:L2 (RA H) vs xs
structure W1 (H0:HP) (g:mZ) (H:HP):Prop where
 aD:ai aJ H0 H
 new:H0.n<=g.s
 gi:GI (λx=>x=g.p\/x=g.s\/x=g.t\/x=g.rw) H g [] []
section
variable {G:Nat->aj} {H H0 H':HP} {Q:KV} {k n0 s t p:Nat} {tab:List (Int × Ob)} {vs:List AV} {xs:List At} {v:AV} {ob:Ob}
theorem IB.mn (I:IB n0 s t tab vs xs H0 H) (f:ai aJ H H'):IB n0 s t tab vs xs H0 H':=⟨I.aD.tn f,I.ms.mono f aV id id,I.vs.imp λzz zz r=>r.mono f⟩
theorem IB.add (m:aQ G) (I:IB n0 s t tab vs xs H0 H) (hn:t < n0) (hs:s≠t) (hl:tab.length+1 < 64) (rv:RO (bw n0) H v ob)
  (h:∀H' rr,IB n0 s t (tab++[((tab.length:Int)+1,ob)]) (vs++[.ref rr]) (xs++[.ref ((tab.length:Int)+1)]) H0 H'->Q (.ref rr) H'):G (k+2) "Shelf.add" [.ref s,v] H Q:=by
 have hZ:∀x,bw n0 x->x≠t:=λx hx=>aaN (aax hn hx)
 refine I.ms.ins.elim λq e=>I.ms.tb.elim λes e2=>DX m rv.noRef.set e e2.1 (Ay e2.2 I.ms.num) (e2.2.len▸I.ms.len) (λH' f n et er=>?_) I.ms.ma
 rw [e2.2.len] at et er
 refine h H' _ ⟨I.aD.tr f,⟨f.lt I.ms.lt,f.lt I.ms.ma,⟨q,f.ne I.ms.lt e hs⟩,⟨_,et,(e2.2.imp λzz zz r=>RT.mono f (qZ hZ) r).snoc ⟨rfl,v,rfl,rv.mono f (qZ hZ)⟩⟩,?_,by rwa [aaD]⟩,(I.vs.imp λzz zz r=>r.mono f).snoc ⟨_,rfl,n▸aaC _,er⟩⟩
 rw [aaL,I.ms.num,aaD,abe,List.range_succ,aaL];rfl
theorem IB.ge (I:IB n0 s t tab vs xs H0 H) (h:n0<=H0.n):n0<=H.n:=aaw h I.aD.le
theorem BR (m:aQ G) (hp:p < H.n) (h:∀H' g,g.p=p->W1 H g H'->No (G (k+2)) ((((Loc.new.upd "pen" (.ref p)).upd "shelf" (.ref g.s)).upd "own" (.ref g.ow)).upd "rows" (.ref g.rw)) H' (eF Q)):G (k+3) "_law_document" [.ref p] H Q:=by
 refine m.run 48 rfl rfl rfl (qW m λH1 t r f1 lt e1 e2 e3=>ad e1 ?_)
 have ma:t < H1.n:=aaA lt.2.1 lt.2.2
 have ne:H.n≠t:=aaJ lt.1
 refine gX (P:=bw H1.n) (P':=bw H1.n) (d:=[("Font",.at (.int 1))]) (.cons ⟨rfl,rfl⟩ .nil) (by decide:["Font"].Nodup) (aaF _) (λzz zz q=>q) λH2 f2 n2 r2=>((show IB H1.n H.n t [] [] [] H1 H1 from ⟨.refl,⟨(aaA (aaA lt.1 lt.2.1) lt.2.2),ma,⟨.ref r,e1⟩,⟨[],e2,.nil⟩,rfl,by decide⟩,.nil⟩).mn f2).add m ma ne (by decide) (ob:= .dict _) ⟨_,rfl,r2⟩ λH3 a1 I1=>I1.ms.ins.elim λq1 Ut=>ad Ut ?_
 refine gX (P:=bw H1.n) (P':=bw H1.n) (d:=[("Font",.at (.int 2))]) (.cons ⟨rfl,rfl⟩ .nil) (by decide:["Font"].Nodup) (I1.ge (aaF _)) (λzz zz q=>q) λH4 f4 n4 r4=>(I1.mn f4).add m ma ne (by decide) (ob:= .dict _) ⟨_,rfl,r4⟩ λH5 a2 I2=>I2.ms.ins.elim λq2 Qu=>ad Qu ?_
 refine gX (P:=bw H1.n) (P':=bw H1.n) (d:=[]) .nil .nil (I2.ge (aaF _)) (λzz zz q=>q) λH6 f6 n6 r6=>jy m λH7 f7 n7 e7=>((I2.mn f6).mn f7).add m ma ne (by decide) (ob:=KX) (bI H6.n _ ⟨rfl,⟨n7▸aaC _,e7⟩,r6.mn f7⟩) λH8 a3 I3=>I3.ms.ins.elim λq3 RQ=>ad RQ ?_
 refine gX (P:=bw H1.n) (P':=bw H1.n) (d:=[("A",.at (.int 1))]) (.cons ⟨rfl,rfl⟩ .nil) (by decide:["A"].Nodup) (I3.ge (aaF _)) (λzz zz q=>q) λH9 f9 n9 r9=>jy m λWJ Rd ZG Sy=>((I3.mn f9).mn Rd).add m ma ne (by decide) (ob:=LV) (bI H9.n _ ⟨rfl,⟨ZG▸aaC _,Sy⟩,r9.mn Rd⟩) λTo a4 I4=>?_
 refine cN λWR pL qM UR=>cN λYW m8 Ua Sa=>?_
 have Fa:=pL.tr m8
 have Ng:To.n < WR.n:=qM▸aaC _
 refine h YW ⟨p,H.n,t,To.n,WR.n,H1.n,To.n⟩ rfl ⟨(f1.up I4.aD (aaI lt.1)).tr Fa,aaF _,⟨hp,lt.1,ma,I4.aD.le,aaF _,Ng⟩,Ua▸aaC _,I4.ms.ins.imp λzz e=>Fa.keep I4.ms.lt e,I4.ms.tb.imp λes e=>⟨(Fa.keep I4.ms.ma e.1).trans (congrArg AO.dict (aaY es).symm),e.2.imp λzz zz r=>r.mono Fa λa la ha=>⟨id,ha,la⟩⟩,
  ⟨aax Ng m8.le,_,m8.keep Ng UR,I4.vs.imp λzz zz r=>r.mono Fa⟩,⟨[],Sa,.nil⟩,fm,fm,.nil,fm,fm,.inl rfl,.inr (.inr (.inl rfl)),.inr (.inr (.inr rfl)),by decide,by decide⟩
end
theorem wB {α:Type} {l:List α}:∀{i:Nat} {x:α},l[i]? =some x->∃a b,l=a++x::b/\a.length=i:=by
 induction l with
 | nil=>exact nofun
 | cons y l ih=>exact λ{i x} e=>match i,e with
  | 0,e=>(bI ([]) l ⟨aay e▸rfl,rfl⟩)
  | i+1,e=>(ih e).elim λa z=>z.imp' (λzz=>y::a) λb z=>⟨b,congrArg (y::·) z.1,congrArg (· +1) z.2⟩
theorem Bv {x:Nat × Di} {l:List (Nat × Di)}:∀{q:Int} {i:Nat},l[i]? =some x->getD (.int (q+i)) (ents q l)=some (.tup [.int 0,.ref x.1]):=by
 induction l with
 | nil=>exact nofun
 | cons y l ih=>exact λ{q i} e=>match i,e with
  | 0,e=>by
   obtain rfl:=aay e
   exact (show q+((0:Nat):Int)=q from Int.add_zero q).symm▸qR
  | i+1,e=>by
   refine (lR λh=>?_).trans ((congrArg (λz=>getD (.int z) (ents (q+1) l)) zs).trans (ih (q:=q+1) e))
   have:=AV.int.inj h
   exact Int.ne_of_lt (Int.lt_add_of_pos_right _ (Int.natCast_pos.mpr (Nat.succ_pos _))) this
structure Gp where
 X:Nat->Prop
 H0:HP
 g:mZ
 ca:Nat
 LH:Nat
 L:Nat
 c:Int
 num:List Int
 adr:List Nat
 rv:List AV
structure Km (c:Gp):Prop where
 gn:c.H0.n<=c.g.s
 xs:c.X c.g.s
 Zh:c.LH ∉ c.adr
structure Cr (c:Gp) (hk:List (Nat × Di)) (rows:List (Int × Nat × Di)) (H:HP):Prop where
 aD:ai (atS c.g.p) c.H0 H
 gi:GI c.X H c.g (hk++[(c.ca,fN)]) rows
 gw:GW (kG (hk++[(c.ca,fN)])) (λn=>n∈c.num) (nums 0 c.L) [(5,[])] (c8 rows)
 len:hk.length=c.L
 num:rows.map (·.1)=c.num
 adr:(hk++[(c.ca,fN)]).map (·.1)++rows.map (·.2.1)=c.adr
 sh:H.g c.g.s=ip c.g.t (.ref c.LH)
 tr:RD (λy=>¬c.X y) H c.LH (N8 c.c)
 rv:H.g c.g.rw= .list c.rv
structure N4 (c:Gp) (hk:List (Nat × Di)) (rows:List (Int × Nat × Di)) (H:HP) (rf ff:Nat) (ra rb:List (Int × Nat × Di)) (fd:Di) (ha hb:List (Nat × Di)) (hd:Nat) (d:Di):Prop where
 rows:rows=ra++(5+(ha.length:Int),ff,fd)::rb
 heads:hk=ha++(hd,d)::hb
 lt:rf < H.n
 at_:H.g rf=cJ (5+(ha.length:Int))
 mem:5+(ha.length:Int)∈c.num
 fl:fd.length < lim
 dl:d.length < lim
section
variable {H H':HP} {c:Gp} {hk:List (Nat × Di)} {rows:List (Int × Nat × Di)} {X:Nat->Prop} {g:mZ}
theorem GW.Ts {f:Int->Option Di} {pm:Int->Prop} {ns:List Int}:∀{st rows:List (Int × Di)},GW f pm ns st rows->∀x∈rows,x.2.length < 60:=by
 induction ns with
 | nil=>exact λ{st rows} w x h=>by replace h:=(w.2)▸h;exact (aaU h).elim
 | cons n ns ih=>exact λ{st rows} w x h=>bj w λgd d ja w=>w.2.2.elim (λz=>aq z λfd r0 z=>(aaH.mp (show x∈(n,fd)::r0 from z.1▸h)).elim (λe=>e▸aaz z.2.1.len (by cases (look "Peer" fd).isSome<;>decide)) (ih z.2.2 x)) λz=>z.elim λks z=>ih z.2 x h
theorem Cr.draw (a:Cr c hk rows H) (f:ai (atS c.g.p) H H'):Cr c hk rows H':=
 have ge:=a.gi.i4
 ⟨a.aD.tr f,a.gi.mono f (λy q=>.inl q) (λzz zz h=>h) a.gi.xp a.gi.xt a.gi.xr,a.gw,a.len,a.num,a.adr,f.ne a.gi.sl a.sh (aaN ge.ps),a.tr.mono f λy zz hy=>⟨λq=>hy ((show y=c.g.p from q)▸a.gi.xp),hy⟩,f.ne a.gi.qe a.rv (aaN (aaA ge.pt ge.tr))⟩
theorem Cr.at (a:Cr c hk rows H) {j:Nat} {v:AV} (hj:c.rv[j]? =some v):∃rf ff ra rb fd ha hb hd d,v= .tup [.ref rf,.ref ff]/\N4 c hk rows H rf ff ra rb fd ha hb hd d:=by
 refine a.gi.rws.elim λvs e=>?_
 cases a.rv.symm.trans e.1
 refine (e.2.Nc hj).elim λx z=>z.2.elim λrf r=>aq (wB z.1) λra rb s=>?_
 obtain ⟨n,ff,fd⟩:=x
 have hn:(n,fd)∈c8 rows:=aaG.mpr ⟨(n,ff,fd),s.1▸aaT _ (.head _),rfl⟩
 have hm:=dZ.mp (a.gw.rows _ hn)
 have sX:(n - 5).toNat < hk.length:=by have:=a.len;exact sR (zt (k:=5) hm.1 hm.2) this.symm
 refine aq (wB (aaR sX)) λha hb t=>?_
 have en:n=5+(ha.length:Int):=by have:=t.2;exact this▸(zu (k:=5) hm.1).symm
 have eh:=t.1
 cases hx:hk[(n - 5).toNat] with
 | mk hd d=>
 rw [hx] at eh
 have KI:kG (hk++[(c.ca,fN)]) n=some d:=by rw [en,eh,aaW];exact lu
 refine (uS rf ff ra rb fd ha hb ⟨hd,d,r.1,⟨en▸s.1,eh,r.2.1,en▸r.2.2,en▸a.num▸aaG.mpr ⟨(n,ff,fd),s.1▸aaT _ (.head _),rfl⟩,aaA (a.gw.Ts _ hn) (by decide),?_⟩⟩)
 refine (a.gw.all n (a.gw.rows _ hn)).elim λd' q=>?_
 obtain rfl:=aay (KI.symm.trans q.1)
 exact q.2.elim (λz=>z.elim λzz p=>aaz p.len (by decide)) λz=>z.elim λzz p=>aaz p.len (by decide)
theorem GI.entry {ha hb:List (Nat × Di)} {hd:Nat} {d:Di} (a:GI X H g (ha++(hd,d)::hb) rows) {F:AV->Prop} (h:F (.tup [.int 0,.ref hd])):ob (H.g g.t) (GB (.int (5+(ha.length:Int))) F):=a.tab.elim λwT e=>by
 have k4:wT.map (·.1)=dO 4:=L2.map_eq (f:=(·.1)) (g:=λx:Int × Ob=>AV.int x.1) (λzz zz r=>r.1) e.2
 refine ad e.1 ⟨iw (J7 (hs:=ha++(hd,d)::hb) e.2).1 _,dE ((FG λq=>?_).trans (Bv (x:=(hd,d)) ?_)) h⟩
 .have:=(oX.mp (k4▸q)).2
  exact Po this
 .rw [List.getElem?_append_right (aaF _),Nat.sub_self];rfl
end
section
variable {G:Nat->aj} {H H':HP} {C:KS} {k:Nat} {c:Gp} {hk:List (Nat × Di)} {rows:List (Int × Nat × Di)} {loc:Loc}
structure ZY (c:Gp) (rf ff:Nat) (loc:Loc):Prop where
 l0:loc "pen"= .ref c.g.p
 l1:loc "rows"= .ref c.g.rw
 l2:loc "shelf"= .ref c.g.s
 l3:loc "reference"= .ref rf
 l4:loc "fields"= .ref ff
noncomputable def Zt (c:Gp) (B:Nat) (loc:Loc) (C:KS):Prop:=∀H' loc' zD aF,Cr c zD aF H'->aO H' c.g.p (B+2)->qp "peer" loc loc'->C .next loc' H'
theorem DS {ra rb:List (Int × Nat × Di)} {fd d:Di} {ha hb:List (Nat × Di)} {hd ff:Nat} {n q:Int} {H3:HP} (ok:Km c) (a:Cr c (ha++(hd,d)::hb) (ra++(n,ff,fd)::rb) H) (en:n=5+(ha.length:Int)) (hq:q∈c.num)
  (f1:ai (atS ff) H H3) (f2:ai (atS hd) H3 H') (gi:GI c.X H' c.g (ha++(hd,dj q d)::(hb++[(c.ca,fN)])) (ra++(n,ff,dj q fd)::rb)):Cr c (ha++(hd,dj q d)::hb) (ra++(n,ff,dj q fd)::rb) H':=by
 have mh:(hd,d)∈(ha++(hd,d)::hb)++[(c.ca,fN)]:=aa3 _ (aaT _ (.head _))
 have mr:(n,ff,fd)∈ra++(n,ff,fd)::rb:=aaT _ (.head _)
 have g1:=a.gi.j3 _ mh
 have g2:=a.gi.JL _ mr
 have le:c.H0.n<=c.g.rw:=aaw ok.gn (aaI (aaA a.gi.i4.st a.gi.i4.tr))
 have ins:∀{y},y∈c.adr->c.LH≠y:=λhy q=>ok.Zh (q▸hy)
 have n1:c.LH≠ff:=ins (a.adr▸aaT _ (aaG.mpr ⟨_,mr,rfl⟩))
 have VM:∀{y o},y<=c.g.rw->y < H.n->H.g y=o->H'.g y=o:=λh l e=>f2.ne (f1.lt l) (f1.ne l e (aaJ (aaz h g2))) (aaJ (aaz h g1))
 have KI:kG ((ha++(hd,d)::hb)++[(c.ca,fN)]) n=some d:=by rw [en,aaW];exact lu
 have w:=a.gw
 rw [show c8 (ra++(n,ff,fd)::rb)=c8 ra++(n,fd)::c8 rb from aaL] at w
 refine ⟨(a.aD.Iw f1 (aaw le (aaI g2))).Iw f2 (aaw le (aaI g1)),?_,?_,a.len▸(by rw [aaD,aaD];rfl),a.num▸(by rw [aaL,aaL];rfl),a.adr▸(by rw [aaL,aaL,aaL,aaL,aaL,aaL];rfl),VM (aaI (aaA a.gi.i4.st a.gi.i4.tr)) a.gi.sl a.sh,?_,VM (aaF _) a.gi.qe a.rv⟩
 .rw [aaW];exact gi
 .rw [show c8 (ra++(n,ff,dj q fd)::rb)=c8 ra++(n,dj q fd)::c8 rb from aaL]
  refine GW.mS (q:=q) hq KI (by rw [en,aaW];exact lu) (λm hm=>?_) y0 w
  rw [aaW,aaW]
  exact DV (en▸hm)
 .refine (a.gi.heads _ mh).ex.elim λes e=>(a.gi.fW _ mr).ex.elim λQu e2=>?_
  refine (a.tr.other f1 e2.1 n1).ex.elim λRQ e3=>?_
  have z2:hd≠ff:=λz=>?_
  .exact (a.tr.other f1 e2.1 n1).other f2 (f1.ne (a.gi.heads _ mh).lt e.1 z2) (ins (a.adr▸aa3 _ (aaG.mpr ⟨_,mh,rfl⟩)))
  .have nd:=a.gi.nd
   rw [abw] at nd
   exact nd.2.2 hd (aaG.mpr ⟨_,mh,rfl⟩) ff (aaG.mpr ⟨_,mr,rfl⟩) z
theorem AZ (m:aQ G) (ok:Km c) {B j rf ff:Nat} (a:Cr c hk rows H) (cU:aO H c.g.p B) (hB:B < 50000) (hj:c.rv[j]? =some (.tup [.ref rf,.ref ff])) (l:ZY c rf ff loc) (h:Zt c B loc C):Jl (G (k+1)) loc H C:=by
 have xk:∀{y},c.g.rw < y->c.g.p≠y:=λh=>aaJ (aaA (aaA a.gi.i4.pt a.gi.i4.tr) h)
 refine ak l.l0 (fu m cU (aaA hB (by decide)) (M:=2) (by decide) (by decide) λH1 r f1 n1 gZ hr=>yC (λzz=>?_) λzz=>h H1 loc hk rows (a.draw f1) (gZ.up (aba _)) λzz zz=>rfl)
 have a1:=a.draw f1
 have hl:c.rv.length<=50:=a1.gi.rws.elim λvs e=>by
  cases a1.rv.symm.trans e.1
  exact e.2.len▸a1.gi.rl
 refine ak l.l1 (ak l.l0 (ak l.l1 (ad a1.rv (fu m gZ (aaA (abv hB) (by decide)) (M:=c.rv.length) (aaz (abp _) (aaZ.mp hj).1) (aaz hl (by decide)) λH2 i f2 n2 mQ hi=>?_))))
 have a2:=a1.draw f2
 have hw:c.rv[i]? =some c.rv[i]:=aaR hi
 refine iE (a2.at hw) λqr qf zz zz zz qa z=>bj z λzz zz zz q=>?_
 refine iE (a2.at hj) λrf' Z4 ra rb fd ha z=>bj z λhb hd d w=>?_
 cases w.1
 have w:=w.2
 obtain rfl:=w.rows
 obtain rfl:=w.heads
 refine ad a2.rv (dE hw ?_)
 rw [q.1]
 refine ak l.l4 ?_
 refine a2.gi.K4 (va:= .at (.ref (5+(qa.length:Int)))) ⟨qr,rfl,q.2.lt,q.2.at_⟩ w.fl λH3 f3 n3 XR=>?_
 have N7:GI c.X H3 c.g (ha++(hd,d)::(hb++[(c.ca,fN)])) (ra++(5+(ha.length:Int),ff,dj (5+(qa.length:Int)) fd)::rb):=by
  have:=XR
  rw [aaW] at this
  exact this
 have g2:=a2.gi.JL _ (aaT _ (.head _))
 refine ak l.l2 (ad (f3.ne a2.gi.sl a2.sh (aaJ (aaA (aaA a.gi.i4.st a.gi.i4.tr) g2))) (ak l.l3 (ad (f3.fix w.lt w.at_ rfl) (N7.entry ?_))))
 refine N7.setHead (va:= .at (.ref (5+(qa.length:Int)))) ⟨qr,rfl,f3.lt q.2.lt,f3.fix q.2.lt q.2.at_ rfl⟩ w.dl λH4 f4 n4 Zq=>?_
 exact h H4 _ _ _ (DS ok a2 rfl q.2.mem f3 f4 Zq) ((mQ.mono f3 (xk g2)).mono f4 (xk (a2.gi.j3 _ (aa3 _ (aaT _ (.head _)))))) (qp.upd (loc':=loc) λzz zz=>rfl)
end
structure VW (c:Gp) (g:mZ) (H0:HP):Prop where
 eg:c.g=g
 h0:c.H0=H0
 ec:c.c=5+(c.L:Int)
 num:∀n∈c.num,n∈nums 0 c.L
 l2:2<=c.L
 l7:c.L<=7
 n1:1<=c.num.length
 n7:c.num.length<=7
noncomputable def O7 (g:mZ):Loc:=(((Loc.new.upd "pen" (.ref g.p)).upd "shelf" (.ref g.s)).upd "own" (.ref g.ow)).upd "rows" (.ref g.rw)
section
variable {G:Nat->aj} {H H0 H':HP} {Q:KV} {k B:Nat} {g:mZ} {X:Nat->Prop} {hs:List (Nat × Di)} {rows:List (Int × Nat × Di)}
theorem GI.trail (a:GI X H g hs rows) (f:ai (atS g.s) H H') {v:AV} (e:H'.g g.s=ip g.t v) (xs:X g.s):GI X H' g hs rows:=
 have ge:=a.i4
 have xS:cX (atS g.s) (λy=>¬X y) (λy=>¬X y) H:=λy zz hx=>⟨λq=>hx ((show y=g.s from q)▸xs),hx⟩
 ⟨ge,f.lt a.qe,⟨v,e⟩,a.tab.imp λwT e=>⟨f.ne a.tl e.1 (aaN ge.st),e.2.imp λzz zz r=>r.mono f λy zz hy=>⟨aaN (aax (aaA ge.st ge.tl) hy.1),hy⟩⟩,a.own.mono f (aaN (aaA ge.st ge.to)),a.rws.imp λzz e=>⟨f.ne a.qe e.1 (aaN (aaA ge.st ge.tr)),e.2.imp λzz zz r=>r.mono f⟩,
  λx hx=>(a.heads x hx).mono f xS,λx hx=>(a.fW x hx).mono f xS,a.nd,a.j3,a.JL,a.xp,a.xt,a.xr,a.hl,a.rl⟩
theorem LF:kW []:=⟨.nil,λzz zz=>rfl,λzz zz h=>(nn h).elim,by decide⟩
theorem EV (m:aQ G) (D:W1 H0 g H) (cU:aO H g.p B) (hB:B < 30000) (h:∀H' c hk rows v,Km c->VW c g H0->Cr c hk rows H'->aO H' g.p (B+700)->Ph (G (k+7)) ((O7 g).upd "root" v) H' (eF Q)):No (G (k+7)) (O7 g) H (eF Q):=by
 have ge:=D.gi.i4
 have VZ:∀x,(x=g.p\/x=g.s\/x=g.t\/x=g.rw)->x < H.n:=λx hx=>hx.elim (λq=>q▸aaA ge.pt D.gi.tl) λhx=>hx.elim (λq=>q▸D.gi.sl) λhx=>hx.elim (λq=>q▸D.gi.tl) λq=>q▸D.gi.qe
 have fresh:∀{x},H.n<=x->¬(x=g.p\/x=g.s\/x=g.t\/x=g.rw):=λh q=>aaP.mpr h (VZ _ q)
 have gm:∀{H1 H2:HP} {hs rows},GI (λx=>x=g.p\/x=g.s\/x=g.t\/x=g.rw) H1 g hs rows->ai aJ H1 H2->GI (λx=>x=g.p\/x=g.s\/x=g.t\/x=g.rw) H2 g hs rows:=λa f=>a.mono f (λy q=>q.elim) (λzz zz h=>h) a.xp a.xt a.xr
 refine gX (P:=λy=>¬(y=g.p\/y=g.s\/y=g.t\/y=g.rw)) (P':=λy=>¬(y=g.p\/y=g.s\/y=g.t\/y=g.rw)) (d:=[]) .nil .nil (fresh (aaF _)) (λzz zz h=>h) λH1 f1 n1 r1=>?_
 refine Ho m 1 k _ H1 g [] [] B H.n .none [] _ ⟨gm D.gi f1,cU.mono f1 id,by show B+100*7 < 40000;exact aax (Nat.add_lt_add_right hB (100*7)) (by decide),r1,LF,by decide,λx hx=>f1.lt (VZ x hx),by decide,by decide⟩ (.inl rfl) λH2 rr hs rows r=>?_
 refine r.gi.sh.elim λtr2 Qu=>ad Qu (gc m λH3 f3 n3 e3=>?_)
 have l2:H.n<=H2.n:=aaw f1.le r.aD.le
 refine gX (P:=λy=>¬(y=g.p\/y=g.s\/y=g.t\/y=g.rw)) (P':=λy=>¬(y=g.p\/y=g.s\/y=g.t\/y=g.rw)) (d:=fN) (.cons ⟨rfl,H2.n,rfl,n3▸aaC _,e3⟩ (.cons ⟨rfl,rr,rfl,f3.lt r.lt,f3.fix r.lt r.at_ rfl⟩ .nil)) (by decide:["Type","Pages"].Nodup) (fresh (aaw l2 f3.le)) (λzz zz h=>h) λH4 f4 n4 r4=>?_
 have Co:=f3.tr f4
 have c7:ur 1=7:=rfl
 refine (gm r.gi Co).add m r4 (aax r.gi.qe f3.le) (λq=>(gm r.gi f3).new (aaF _) q) (aaz r.l2 (by decide)) λH5 r6 f5 q1 q2 q3 sA=>?_
 refine gX (P:=λy=>¬(y=g.p\/y=g.s\/y=g.t\/y=g.rw)) (P':=λy=>¬(y=g.p\/y=g.s\/y=g.t\/y=g.rw)) (d:=N8 (5+(hs.length:Int))) (.cons ⟨rfl,r6,rfl,q2,q3⟩ (.cons ⟨rfl,rfl⟩ .nil)) (by decide:["Root","Size"].Nodup) (fresh (aaw l2 (aaw Co.le f5.le))) (λzz zz h=>h) λH6 f6 n6 XH=>?_
 have Vy:=gm sA f6
 refine Vy.sh.elim λX8 Xh=>ad Xh (m6 Xh λH7 f7 n7 e7=>?_)
 have Gk:=Vy.trail f7 e7 (.inr (.inl rfl))
 have ot:H0.n<=g.t:=aaw D.new (aaI ge.st)
 have w:GW (kG hs) (λzz=>False) (nums 0 hs.length) [(5,[])] (c8 rows):=r.gw
 refine Gk.rws.elim λrv e=>?_
 refine h H7 ⟨_,H0,g,H3.n,H5.n,hs.length,5+(hs.length:Int),rows.map (·.1),_,rv⟩ hs rows (.ref rr) ⟨D.new,.inr (.inl rfl),sA.new (aaF _)⟩ ⟨rfl,rfl,rfl,λn hn=>(aaG.mp hn).elim λx y=>y.2▸w.rows (x.1,x.2.2) (aaG.mpr ⟨x,y.1,rfl⟩),r.l1,r.l2,(aaB (as:=rows) _).symm▸r.r1,(aaB (as:=rows) _).symm▸r.r2⟩
  ⟨(((((D.aD.tr f1).no.trans r.aD λa ha q=>q.elim id λq=>(aaP.mpr ot (q.elim (λq=>q▸ha) λq=>aaA (q▸ge.tr) ha)).elim).tn Co).Iw f5 ot).tn f6).Iw f7 D.new,Gk,(w.more λzz q=>q.elim).congr λn hn=>AJ (by have:=(dZ.mp hn).2;exact this),rfl,rfl,rfl,e7,XH.mono f7 (λy zz hy=>⟨λq=>hy (.inr (.inl q)),hy⟩),e.1⟩ ((((r.cU.mono Co id).mono f5 (aaJ ge.pt)).mono f6 id).mono f7 (aaJ ge.ps))
end
structure SV (p:Nat) (H:HP) (rf ff:Nat) (r:Int × Di):Prop where
 lt:rf < H.n
 at_:H.g rf=cJ r.1
 rd:RD (λy=>y≠p) H ff r.2
noncomputable def Ik (p:Nat) (H:HP) (v:AV) (r:Int × Di):Prop:=∃rf ff,v= .tup [.ref rf,.ref ff]/\SV p H rf ff r
structure lZ (p:Nat) (H:HP) (s t rw:Nat) (vs:List AV) (x:Doc × List (Int × Di)):Prop where
 rs:RS (λy=>y≠p) H s t x.1.tab x.1.tr
 hs:s≠p
 ht:t≠p
 hr:rw≠p
 lt:rw < H.n
 e:H.g rw= .list vs
 l:L2 (Ik p H) vs x.2
structure uV (x:Doc × List (Int × Di)):Prop where
 all:d8 x.1 x.2
 l1:1<=x.2.length
 l7:x.2.length<=7
noncomputable def oO (p:Nat) (H:HP) (v:AV) (x:Doc × List (Int × Di)):Prop:=∃s t rw vs,v= .tup [.ref s,.ref rw]/\uV x/\lZ p H s t rw vs x
section
variable {G:Nat->aj} {H H':HP} {Q:KV} {k p:Nat} {x:Doc × List (Int × Di)} {v:AV}
theorem Ik.mono (f:ai (atS p) H H') {r:Int × Di} (a:Ik p H v r):Ik p H' v r:=a.imp λrf a=>a.imp λff a=>⟨a.1,f.lt a.2.lt,f.fix a.2.lt a.2.at_ rfl,a.2.rd.mono f λy zz hy=>⟨hy,hy⟩⟩
theorem lZ.mono {s t rw:Nat} {vs:List AV} (f:ai (atS p) H H') (r:lZ p H s t rw vs x):lZ p H' s t rw vs x:=
 ⟨r.rs.mono f (λy zz hy=>⟨hy,hy⟩) r.hs r.ht,r.hs,r.ht,r.hr,f.lt r.lt,f.ne r.lt r.e r.hr,r.l.imp λzz zz r=>r.mono f⟩
theorem oO.mono (f:ai (atS p) H H') (r:oO p H v x):oO p H' v x:=r.imp λs r=>r.imp λt r=>r.imp λrw r=>r.imp λvs r=>⟨r.1,r.2.1,r.2.2.mono f⟩
theorem Eo {a:Nat} {xs:List AV} (e:H.g a= .list xs) (e':H'.g a= .list xs):cy (.obj a) xs ((Src.obj a).gU H) H':=⟨aH e',by show jB _ (H'.g a)=jB _ (H.g a);rw [e,e'];rfl⟩
theorem Hs {P:Nat->Prop} {l:List (Nat × Di)}:∀{n:Nat},(∀x∈l,RD P H x.1 x.2)->L2 (RT P H) (ents ((n:Int)+1) l) (mj n l):=by
 induction l with
 | nil=>exact λzz=>.nil
 | cons x l ih=>exact λ{n} h=>.cons ⟨rfl,.ref x.1,rfl,x.1,rfl,h x (.head _)⟩ (ih (n:=n+1) λy hy=>h y (.tail _ hy))
theorem Ii {c:Gp} {g:mZ} {H0:HP} {hk:List (Nat × Di)} {rows:List (Int × Nat × Di)} (F:VW c g H0) (a:Cr c hk rows H):∃x,uV x/\lZ c.g.p H c.g.s c.g.t c.g.rw c.rv x:=by
 have ge:=a.gi.i4
 have Vp:(c8 rows).length=c.num.length:=(aaB _).trans (a.num▸(aaB _).symm)
 have w:=a.gw
 rw [<-a.len] at w
 have hl:=a.len
 refine (Io ⟨w,a.len▸F.l2,aaw (a.len▸F.l7) (by decide),λn hn=>a.len▸F.num n hn⟩).elim λsp da=>?_
 have z:cX aJ (λy=>¬c.X y) (λy=>y≠c.g.p) H:=λzz zz hy=>⟨id,(λhy q=>hy (q▸a.gi.xp)) hy⟩
 have e:c.c=5+(hk.length:Int):=F.ec.trans (hl▸rfl)
 refine ⟨(mX hk c.ca sp,c8 rows),⟨da,Vp▸F.n1,Vp▸F.n7⟩,⟨a.gi.sl,a.gi.tl,⟨c.LH,a.sh,(by show RD _ H c.LH (N8 (5+(hk.length:Int)));rw [<-e];exact a.tr.mono (.refl:ai aJ H H) z)⟩,a.gi.tab.elim λwT e=>⟨_,e.1,(e.2.imp λzz zz r=>RT.mono (.refl:ai aJ H H) (λy zz hy=>⟨id,aaN (aax (aaA ge.pt ge.tl) hy.1)⟩) r).append (Hs λx hx=>(a.gi.heads x hx).mono (.refl:ai aJ H H) z)⟩,jh,?_⟩,aaN ge.ps,aaN ge.pt,aaN (aaA ge.pt ge.tr),a.gi.qe,a.rv,?_⟩
 .show (cQ (hk++[(c.ca,fN)])).length < 64
  rw [jp,aaD,abe]
  exact aaz (abj (aa1 (aaw (aaS hl) F.l7)) 4) (by decide)
 .refine a.gi.rws.elim λvs e=>?_
  cases a.rv.symm.trans e.1
  exact L2.yc (e.2.wm.imp λv x r=>r.1.elim λrf q=>(bI rf x.2.1 ⟨q.1,q.2.1,q.2.2,(a.gi.fW x r.2).mono (.refl:ai aJ H H) z⟩))
structure YJ (c:Gp) (B j:Nat) (loc:Loc) (H:HP):Prop where
 ex:∃hk rows,Cr c hk rows H
 cU:aO H c.g.p (B+j*2)
 l0:loc "pen"= .ref c.g.p
 l1:loc "rows"= .ref c.g.rw
 l2:loc "shelf"= .ref c.g.s
theorem xb (m:aQ G) {B:Nat} (cU:aO H p B) (hB:B < 30000) (h:∀H' v x,ai (atS p) H H'->aO H' p (B+900)->oO p H' v x->Q v H'):G (k+8) "_law_document" [.ref p] H Q:=by
 refine BR m cU.1 λH1 g ep D=>?_
 subst ep
 refine EV m D (cU.mono D.aD id) hB λH2 c hk rows v ok F a mQ=>?_
 obtain rfl:=F.eg
 have hr:c.rv.length<=7:=a.gi.rws.elim λvs e=>by
  cases a.rv.symm.trans e.1
  have:=congrArg List.length a.num
  rw [aaB] at this
  exact e.2.len▸this▸F.n7
 refine dE (aH a.rv) (G5 (d:=[]) (all:=c.rv) (r:=λv w=>v=w/\v∈c.rv) (λd=>YJ c (B+700) d.length) (λJ=>aq J.ex λhk rows z=>Eo a.rv z.rv) (λv w d rest e rv loc H3 C J hC zz=>?_) (L2.diag λx hx=>⟨rfl,hx⟩) rfl ⟨(bI hk rows a),mQ,rfl,rfl,rfl⟩ λloc' H3 J=>?_)
 .refine aq J.ex λhk rows a=>(List.mem_iff_getElem?.mp rv.2).elim λj hj=>?_
  refine iE (a.at hj) λrf ff zz zz zz zz z=>bj z λzz zz zz w=>?_
  rw [w.1] at hj ⊢
  have dl:=congrArg List.length e
  rw [aaD,aa2] at dl
  refine AZ m ok a J.cU (zF (aaQ hB (abt 2 (aaw (aaS dl.symm) hr))) (by simp+arith)) hj ⟨J.l0,J.l1,J.l2,rfl,rfl⟩ λH4 Zx zD aF a4 T7 s=>hC _ H4 ⟨(bI zD aF a4),T7.up ?_,(s _ rfl).trans J.l0,(s _ rfl).trans J.l1,(s _ rfl).trans J.l2⟩
  rw [aaD,abe];exact by simp+arith
 .exact aq J.ex λhk rows a=>(Ii F a).elim λx q=>ak (v:= .ref c.g.s) J.l2 (ak (v:= .ref c.g.rw) J.l1 (h H3 _ x (F.h0▸a.aD) (J.cU.up (abj (aaw (Nat.mul_le_mul_right 2 hr) (by decide:7*2<=200)) _)) (j8 _ _ _ _ ⟨rfl,q⟩)))
end
theorem HT (o:Ob) (n:Nat):(sd o).plain (n+6)=true:=match o with
 | .null=>rfl
 | .dict d=>jZ d (n+2)
 | .stream d b=>by
  show (true&&((mG d).plain (n+5)&&true))=true
  rw [jZ d (n+1)];rfl
theorem G4 (tab:List (Int × Ob)) (tr:Di) (n:Nat):(EN tab tr).plain (n+10)=true:=by
 show (AV.d9 _ (n+8)&&((mG tr).plain (n+9)&&true))=true
 refine (congrArg (λb=>b&&_) (bZ λx hx=>(aaG.mp hx).elim λw z=>z.2▸ ?_)).trans (by rw [jZ tr (n+5)];rfl)
 show (true&&(true&&((sd w.2).plain (n+7)&&true)))=true
 rw [HT w.2 (n+1)];rfl
theorem L2.comp {α β γ:Type} {r:α->β->Prop} {q:β->γ->Prop} {l:List α} {m:List β} (a:L2 r l m):∀{n:List γ},L2 q m n->L2 (λx z=>∃y,r x y/\q y z) l n:=by
 induction a with
 | nil=>exact λb=>b.flip.df▸ .nil
 | cons x _ ih=>exact λb=>aq b.flip.aW λz l' w=>w.1▸ .cons ⟨_,x,w.2.1⟩ (ih w.2.2.flip)
theorem L2.drop {α β:Type} {r:α->β->Prop} {l:List α} {m:List β} (h:L2 r l m):∀n:Nat,L2 r (l.drop n) (m.drop n):=
 h.rec (λn=>by rw [List.drop_nil,List.drop_nil];exact .nil) λa b ih n=>match n with
  | 0=>.cons a b
  | n+1=>ih n
theorem L2.take {α β:Type} {r:α->β->Prop} {l:List α} {m:List β} (h:L2 r l m):∀n:Nat,L2 r (l.take n) (m.take n):=
 h.rec (λn=>by rw [List.take_nil,List.take_nil];exact .nil) λa zz ih n=>match n with
  | 0=>.nil
  | n+1=>.cons a (ih n)
theorem d8.xM {D:Doc} {rows:List (Int × Di)} (a:d8 D rows):(ar D.sp).length=rows.length:=a.rows.len.symm
theorem d8.R8 {D:Doc} {rows:List (Int × Di)} (a:d8 D rows):Am D:=λp hp=>⟨(a.Rg p hp).1.ok,(a.Rg p hp).1.len⟩
theorem d8.Py {D:Doc} {rows:List (Int × Di)} (a:d8 D rows) {docs:List Doc} {pl:Pl} (h:∀x∈pl,docs[x.1]? =some D/\x.2∈ar D.sp):fx docs pl:=λx hx=>⟨D,(h x hx).1,a.Rg x.2 (h x hx).2⟩
noncomputable def RP (Γ:aj) (sh ix:AV) (H:HP) (P:HP->Prop):Prop:=
 X.call "pages" (.o (.loc "shelf")) Γ ((Loc.new.upd "shelf" sh).upd "indexes" ix) H λv H1=>rq Γ (((Loc.new.upd "shelf" sh).upd "indexes" ix).upd "row" v) H1 λu H2=>cR u H2 λb H3=>b=true/\P H3
section
variable {G:Nat->aj} {H H':HP} {Q:KV} {k p:Nat} {P:Nat->Prop} {Γ:aj} {loc:Loc} {x:Doc × List (Int × Di)}
theorem q9 {w:X} {i s t B6:Nat} {vs:List AV} {docs:List Doc} (D:uV x) (rd:lZ p H s t B6 vs x) (hD:docs[i]? =some x.1) (ew:∀(a b:AV) H' (K:KV),K (.int i) H'->w Γ ((loc.upd "reference" a).upd "fields" b) H' K) (v1:loc "shelf"= .ref s)
  (h:tm (dL (λy=>y≠p) docs) Q H aJ (gT i x.1)):
  fb (X.tup (.cons w (.cons (.loc "shelf") (.cons (.loc "reference") (.o (.loc "fields"))))) Γ) (.tup ["reference","fields"]) .plain (X.yes Γ) loc Q [.ref B6] H:=by
 refine cG (aH rd.e) rd.lt (λq=>(i,q)) (λzz zz zz zz f r=>r.mn f) (rd.l.comp D.all.rows) (rd.l.len▸aaw D.l7 (by decide)) (λv q H' C N rv f hC=>?_) h
 refine rv.elim λr z=>aq z.1 λrf ff y=>y.1▸ew _ _ _ _ ?_
 refine ak (v:= .ref s) v1 (hC H' _ .refl (Az s t rf ff x.1 r.2 ⟨rfl,hD,rd.rs.mono f (λzz zz h=>⟨id,h⟩) id id,f.lt y.2.lt,(f.fix y.2.lt y.2.at_ rfl).trans (congrArg _ (z.2.1)),y.2.rd.mn f,aaz z.2.2.2 (by decide),z.2.2.1⟩))
theorem Db (m:aQ G) {s t xi:Nat} {D:Doc} {rows:List (Int × Di)} {ix:List Int} (a:d8 D rows) (rs:RS P H s t D.tab D.tr) (Gr:xi < H.n) (MC:H.g xi= .list (ix.map AV.int)) (Qv:ix.length < 100) (bad:∃i∈ix,¬(0<=i/\i < (rows.length:Int)))
  {P':HP->Prop} (h:∀H',ai aJ H H'->P' H'):RP (G (k+7)) (.ref s) (.ref xi) H P':=by
 refine jJ m rs a.ok.tree a.ok.ok λH1 ra vs f1 h1 h2 h3 h4=>?_
 refine eJ (aH (f1.keep Gr MC)) (f1.lt Gr) AV.int (λi=>!(decide (0<=i)&&decide (i < (vs.length:Int)))) (r:=λv i=>v=AV.int i) (L2.mR (L2.diag λx hx=>rfl)) (by rw [aaB];exact aaI (aaA Qv (by decide))) (λv i H2 C N r f y n=>r▸yC (λq1=>ad (f.keep h2 h3) (yC (λq2=>n ?_ H2 f) λq2=>y ?_ H2 f)) λq1=>y ?_ H2 f) λH2 a2 f2 qw lg e2=>?_
 .rw [decide_eq_true q1,decide_eq_true q2];rfl
 .rw [decide_eq_true q1,decide_eq_false q2];rfl
 .rw [decide_eq_false q1];rfl
 refine cN λH3 f3 n3 e3=>ad (f3.keep lg e2) (ad e3 (.inr ⟨λq=>?_,rfl,h _ ((f1.tr f2).tr f3)⟩))
 rw [aaB] at q
 refine bad.elim λi b=>(aaU (a:=i) ?_).elim
 rw [<-List.length_eq_zero_iff.mp q,abk]
 refine ⟨b.1,?_⟩
 rw [Bool.not_eq_true',Bool.and_eq_false_iff]
 by_cases q1:0<=i
 .exact .inr (decide_eq_false λq2=>b.2 ⟨q1,(h4.len.trans a.xM)▸q2⟩)
 .exact .inl (decide_eq_false q1)
end
noncomputable def Od:SL:= .o (.set "left" (.Aw (.loc "left") (.loc "many")))
noncomputable def Pr:SL:= .cons (.bA (.cmp .ne (.yY (.loc "left") (.loc "many")) (.list .nil)) (.o (.expr (.ay (.loc "due") "append" (.o (.yY (.loc "left") (.loc "many")))))) .nil) Od
noncomputable def Lv:SL:= .cons (.set "many" (.prim "max" (.cons (.loc "size") (.o (.int 0))))) Pr
noncomputable def tu (ws:List AV) (du:Nat) (H:HP) (v:AV) (x:Nat × Nat):Prop:=∃la,v= .ref la/\(du < la/\la < H.n)/\H.g la= .list ((ws.drop x.1).take (x.2 - x.1))
theorem mi {α:Type} {ws:List α} {f:Nat} {z:Int}:(ws.drop f).take z.toNat=(ws.drop f).take (bx z f ws.length - f):=by
 unfold bx
 by_cases h:f+z.toNat<=ws.length
 .rw [Nat.min_eq_left h,Nat.add_sub_cancel_left]
 .rw [Nat.min_eq_right (Nat.le_of_not_le h),List.take_of_length_le (by rw [List.length_drop];exact Nat.sub_le_iff_le_add'.mpr (aaI (Nat.not_le.mp h))),List.take_of_length_le (by rw [List.length_drop];exact aaF _)]
theorem vx {α:Type} {ws:List α} {f:Nat} {z:Int}:(ws.drop f).drop z.toNat=ws.drop (bx z f ws.length):=by
 unfold bx
 rw [List.drop_drop]
 by_cases h:f+z.toNat<=ws.length
 .rw [Nat.min_eq_left h]
 .rw [Nat.min_eq_right (Nat.le_of_not_le h),List.drop_eq_nil_of_le (Nat.le_of_not_le h),List.drop_eq_nil_of_le (aaF _)]
theorem Hg {z:Int}:(if (0:Int) > z then 0 else z)=((z.toNat:Nat):Int):=by
 by_cases h:z < 0
 .rw [if_pos h,Int.toNat_of_nonpos (Int.le_of_lt h)];rfl
 .rw [if_neg h,Int.toNat_of_nonneg (Int.not_lt.mp h)]
structure HM where
 ws:List AV
 da:Nat
 ka:Nat
 s:Nat
 rw:Nat
 pa:Nat
 du:Nat
structure DK (c:HM) (loc:Loc):Prop where
 l0:loc "documents"= .ref c.da
 l1:loc "kept"= .ref c.ka
 l2:loc "shelf"= .ref c.s
 l3:loc "rows"= .ref c.rw
 l4:loc "parts"= .ref c.pa
 l5:loc "due"= .ref c.du
structure He (c:HM) (H0:HP) (dn:List Int) (lc:Nat) (ds:List AV) (loc:Loc) (H:HP):Prop where
 aD:ai (atS c.du) H0 H
 ed:H.g c.du= .list ds
 ld:L2 (tu c.ws c.du H) ds (jv dn 0 c.ws.length)
 lt:lc < H.n
 ne:lc≠c.du
 el:H.g lc= .list (c.ws.drop (dg dn 0 c.ws.length))
 vl:loc "left"= .ref lc
 v:DK c loc
section
variable {H H' H0:HP} {C:KS} {Γ:aj} {loc:Loc} {c:HM} {dn:List Int} {z:Int} {lc:Nat} {ds:List AV}
theorem tu.mono {ws:List AV} {du:Nat} (f:ai (atS du) H H') {v:AV} {x:Nat × Nat} (r:tu ws du H v x):tu ws du H' v x:=r.imp λla r=>⟨r.1,⟨r.2.1.1,f.lt r.2.1.2⟩,f.ne r.2.1.2 r.2.2 (aaN r.2.1.1)⟩
theorem vQ (Gs:c.du < H0.n) (aD:ai (atS c.du) H0 H) (ed:H.g c.du= .list ds) (ld:L2 (tu c.ws c.du H) ds (jv (dn++[z]) 0 c.ws.length)) (lt:lc < H.n) (ne:lc≠c.du) (el:H.g lc= .list (c.ws.drop (dg dn 0 c.ws.length))) (vl:loc "left"= .ref lc) (vm:loc "many"= .int (z.toNat:Nat)) (v:DK c loc)
  (h:∀loc' H' G1,He c H0 (dn++[z]) G1 ds loc' H'->C .next loc' H'):Od Γ loc H C:=by
 refine ak vl (ak vm (ad el (cN λH1 f1 n1 e1=>h _ H1 H.n ⟨aD.tn f1,f1.keep (aD.lt Gs) ed,ld.imp λzz zz r=>r.mono f1.no,n1▸aaC _,aaN (aD.lt Gs),e1.trans (congrArg AO.list ?_),rfl,v.l0,v.l1,v.l2,v.l3,v.l4,v.l5⟩)))
 exact (vx (z:=z)).trans (congrArg (λn=>c.ws.drop n) uP.symm)
theorem Fq (Gs:c.du < H0.n) (I:He c H0 dn lc ds loc H) (hl:ds.length < lim) (h:∀loc' H' G1 BD,He c H0 (dn++[z]) G1 BD loc' H'->C .next loc' H'):Lv Γ (loc.upd "size" (.int z)) H C:=by
 show Pr Γ ((loc.upd "size" (.int z)).upd "many" (.int (if (0:Int) > z then 0 else z))) H C
 rw [Hg]
 have hd:=I.aD.lt Gs
 refine ak I.vl (ad I.el (cN λH1 f1 n1 e1=>cN λH2 f2 n2 e2=>ad (f2.keep (n1▸aaC _) e1) (ad e2 ?_)))
 have pL:=f1.tr f2
 have e1:H1.g H.n= .list ((c.ws.drop (dg dn 0 c.ws.length)).take z.toNat):=e1
 have cs:=qL (count:=c.ws.length) (z:=z) (l:=dn) (first:=0)
 have hlen:((c.ws.drop (dg dn 0 c.ws.length)).take z.toNat).length=bx z (dg dn 0 c.ws.length) c.ws.length - dg dn 0 c.ws.length:=by
  rw [mi,List.length_take,List.length_drop]
  exact Nat.min_eq_left (Nat.sub_le_sub_right (Nat.min_le_right _ _) _)
 have ld:=I.ld.imp λzz zz r=>tu.mono pL.no r
 by_cases hb:dg dn 0 c.ws.length < bx z (dg dn 0 c.ws.length) c.ws.length
 .refine .inr ⟨λq=>absurd (hlen.symm.trans q) (aaN (Nat.sub_pos_of_lt hb)),ak I.v.l5 (ad (pL.keep hd I.ed) (ak I.vl (ad (pL.keep I.lt I.el) (cN λH3 f3 n3 e3=>?_))))⟩
  have m8:=pL.tr f3
  refine Bc (m8.keep hd I.ed) hl λH4 f4 n4 e4=>?_
  have l2:c.du < H2.n:=pL.lt hd
  refine vQ Gs ((I.aD.tn m8).tr f4) e4 ?_ (f4.lt (m8.lt I.lt)) I.ne (f4.ne (m8.lt I.lt) (m8.keep I.lt I.el) I.ne) I.vl rfl ⟨I.v.l0,I.v.l1,I.v.l2,I.v.l3,I.v.l4,I.v.l5⟩ λloc' H' G1=>h loc' H' G1 _
  rw [cs,qu,if_pos hb]
  exact (ld.imp λzz zz r=>(r.mono f3.no).mono f4).snoc ⟨H2.n,rfl,⟨l2,f4.lt (n3▸aaC _)⟩,f4.ne (n3▸aaC _) (e3.trans (congrArg AO.list mi)) (aaN l2)⟩
 .have e0:(c.ws.drop (dg dn 0 c.ws.length)).take z.toNat=[]:=List.length_eq_zero_iff.mp (hlen.trans (Nat.sub_eq_zero_of_le (Nat.le_of_not_lt hb)))
  refine .inl ⟨⟨e0,(congrArg (AV.d9 · eH) e0).trans rfl⟩,?_⟩
  refine vQ Gs (I.aD.tn pL) (pL.keep hd I.ed) ?_ (pL.lt I.lt) I.ne (pL.keep I.lt I.el) I.vl rfl ⟨I.v.l0,I.v.l1,I.v.l2,I.v.l3,I.v.l4,I.v.l5⟩ λloc' H' G1=>h loc' H' G1 _
  rw [cs,qu,if_neg hb,aaY]
  exact ld
theorem Ea {zs:List Int} {za la:Nat} {vs:List AV} (v0:loc "sizes"= .ref za) (XY:H0.g za= .list (zs.map AV.int)) (Yu:za < H0.n) (erw:H0.g c.rw= .list vs) (hv:vs.length=c.ws.length) (Gs:c.du < H0.n) (Yz:H0.g c.du= .list []) (Wb:la < H0.n) (Xt:H0.g la= .list c.ws) (Yn:la≠c.du) (hz:zs.length < 100) (vl:loc "left"= .ref la) (v:DK c loc)
  (h:∀loc' H' ds,DK c loc'->ai (atS c.du) H0 H'->H'.g c.du= .list ds->L2 (tu c.ws c.du H') ds (jv (zs++[(c.ws.length:Int)]) 0 c.ws.length)->C .next loc' H'):
  S.bX (.nm "size") .plain (.o (.bin .add (.loc "sizes") (.list (.o (.prim "len" (.o (.loc "rows"))))))) Lv Γ loc H0 C:=by
 refine ak v0 (ak v.l3 (ad erw (cN λH1 f1 n1 e1=>ad (f1.keep Yu XY) (ad e1 ⟨?_,cN λH2 f2 n2 e2=>?_⟩))))
 .show (zs.map AV.int).length+1<=lim
  rw [aaB];exact aaw hz (by decide)
 have pL:=f1.tr f2
 have e2:H2.g H1.n= .list ((zs++[(c.ws.length:Int)]).map AV.int):=by rw [aaL,<-hv];exact e2
 refine dE (aH e2) (G5 (d:=[]) (all:=zs++[(c.ws.length:Int)]) (r:=λv z=>v=AV.int z) (λdn loc' H'=>∃lc ds,He c H2 dn lc ds loc' H') (λJ=>aq J λlc ds I=>bC I.aD (n2▸aaC _) (aaN (f1.lt Gs)) ⟨aH e2,rfl⟩) (λv z dn rest ed rv loc' H' C' J hC zz=>?_) (L2.mR (L2.diag λzz zz=>rfl)) rfl (bI la ([]) ⟨.refl,pL.keep Gs Yz,.nil,pL.lt Wb,Yn,pL.keep Wb Xt,vl,v⟩) λloc' H' J=>?_)
 .subst rv
  refine aq J λlc ds I=>Fq (pL.lt Gs) I ?_ λloc' H' G1 BD I'=>hC loc' H' (bI G1 BD I')
  have dl:=congrArg List.length ed
  rw [aaD,aaD,aa2,aa2,List.length_nil] at dl
  exact aaz ((zF (aaQ (aaQ hz (aaS dl.symm)) (aaQ (oL (count:=c.ws.length) (l:=dn) (first:=0)) (aaS I.ld.len))) (by simp+arith)):ds.length<=100) (by decide)
 .exact aq J λlc ds I=>h loc' H' ds I.v (pL.no.tr I.aD) I.ed I.ld
end
noncomputable def nJ (x:Doc × List (Int × Di)):AV:=EN x.1.tab x.1.tr
noncomputable def QC:Tg:= .tup ["shelf","rows"]
noncomputable def JD (w:X):X:= .aC (.tup (.cons w (.cons (.loc "shelf") (.cons (.loc "reference") (.o (.loc "fields")))))) (.tup ["reference","fields"]) .plain (.o (.loc "rows")) X.yes
noncomputable def Dp:SL:= .cons (.bR ["shelf","rows"] (.idx (.loc "documents") (.loc "which"))) (.o (.set "every" (.bin .add (.loc "every") (JD (.loc "which")))))
noncomputable def IsL (H:HP) (a:Nat) (xs:List AV):Prop:=a < H.n/\H.g a= .list xs
section
variable {G:Nat->aj} {H H':HP} {Q:KV} {k p da:Nat} {Γ:aj} {loc:Loc} {dv:List AV} {xs:List (Doc × List (Int × Di))} {docs:List Doc}
theorem IsL.mn {a:Nat} {xs:List AV} (h:IsL H a xs) (f:ai aJ H H'):IsL H' a xs:=⟨f.lt h.1,f.keep h.1 h.2⟩
theorem oq {elt:PX} {cs:PC} {tg:Tg} {n:Nat} (hn:n<=lim) (J:Nat->List AV->HP->Prop) (hl:∀{j acc H},J j acc H->acc.length<=j)
  (step:∀j,j < n->∀acc H (C:KV) (N:HP->Prop),J j acc H->(∀u H',J (j+1) (acc++[u]) H'->C u H')->(∀H',J (j+1) acc H'->N H')->Gj elt cs tg loc (.int j) H C N)
  (h0:J 0 [] H) (hQ:∀acc H,J n acc H->nw (.list acc) H Q):fb elt tg .aE cs loc Q [.int n] H:=by
 have go:∀k j acc H,j+k=n->J j acc H->i9 elt cs tg (cy (.Gm n) (aN 0 n) 0) loc ((List.range' j k).map λ(i:Nat)=>AV.int (0+(i:Int))) H acc (Lp Q):=by
  intro k
  induction k with
  | zero=>exact λj acc H e h=>hQ acc H (e▸h)
  | succ k ih=>
   refine λj acc H e h=>?_
   have hj:j < n:=e▸abl (Nat.succ_pos k)
   have e':j+1+k=n:=by rw [<-e,aa9,abg 1]
   rw [abD,aa4,Int.zero_add]
   exact step j hj acc H _ _ h (λu H' h'=>⟨⟨rfl,rfl⟩,aaz (hl h) (aax hj hn),ih (j+1) _ H' e' h'⟩) λH' h'=>⟨⟨rfl,rfl⟩,ih (j+1) acc H' e' h'⟩
 refine Lr (Nat.ble_eq.mpr hn) (dE (v:=aN 0 n) rfl ?_)
 have:=go n 0 [] H (abE n) h0
 rw [<-List.range_eq_range'] at this
 exact (show aN 0 n=(List.range n).map λ(i:Nat)=>AV.int (0+(i:Int)) by unfold aN;rw [Int.sub_zero];rfl)▸this
theorem qY (m:aQ G) (ld:IsL H da dv) (hx:L2 (oO p H) dv xs) (hl:xs.length<=2) (h:pP Q H aJ (xs.map nJ)):
  fb (X.ay (.loc "shelf") "told" .nil (G (k+7))) QC .plain (X.yes (G (k+7))) loc Q [.ref da] H:=by
 refine dS (aH ld.2) ld.1 nJ hx (hx.len▸aaw hl (by decide)) (λv x H' C N r f hC=>?_) h
 refine bG r λs t B6 vs r=>r.1▸ ?_
 have rs:=r.2.2.rs.mn f
 exact rs.ins.elim λq e=>ad e.1 (tp m rs r.2.1.all.ok.ok r.2.1.all.ok.Lo λbz f2=>hC bz (f.tr f2))
theorem sP (ld:IsL H da dv) (hx:L2 (oO p H) dv xs) (hl:xs.length<=2) (h:tm (Uq (λy=>y≠p)) Q H aJ (xs.map (·.1))):
  fb (X.loc "shelf" Γ) QC .plain (X.yes Γ) loc Q [.ref da] H:=by
 refine cG (aH ld.2) ld.1 (λx:Doc × List (Int × Di)=>x.1) (λzz zz zz zz f r=>r.imp λs r=>r.imp λt r=>⟨r.1,r.2.mn f⟩) hx (hx.len▸aaw hl (by decide)) (λv x H' C N r f hC=>?_) h
 exact bG r λs t B6 vs r=>r.1▸hC H' _ .refl (bI s t ⟨rfl,r.2.2.rs.mn f⟩)
structure Kl (p da ka:Nat) (loc:Loc):Prop where
 l0:loc "pen"= .ref p
 l1:loc "documents"= .ref da
 l2:loc "kept"= .ref ka
structure UT (p da ka:Nat) (H:HP) (docs:List Doc) (j:Nat) (loc:Loc) (H':HP):Prop where
 aD:ai aJ H H'
 ex:∃ec wv,IsL H' ec wv/\loc "every"= .ref ec/\L2 (dL (λy=>y≠p) docs H') wv (b0 0 (docs.take j))
 v:Kl p da ka loc
theorem yr {QS:KS} {ka ea:Nat} (ld:IsL H da dv) (hx:L2 (oO p H) dv xs) (hl:xs.length<=2) (hp:(rD (xs.map (·.1))).length<=14) (le:IsL H ea []) (v:Kl p da ka loc) (v2:loc "every"= .ref ea)
  (h:∀loc' H',UT p da ka H (xs.map (·.1)) xs.length loc' H'->QS .next loc' H'):S.bX (.nm "which") .aE (.o (.prim "len" (.o (.loc "documents")))) Dp Γ loc H QS:=by
 refine ak v.l1 (ad ld.2 ?_)
 refine (congrArg (λ(n:Nat)=>xJ (.nm "which") .aE _ _ _ [.int n] H) hx.len).mpr ?_
 refine D7 (aaw hl (by decide)) (UT p da ka H (xs.map (·.1))) (λj hj loc' H' C I hC zz=>?_) ⟨.refl,(bI ea ([]) ⟨le,v2,.nil⟩),v⟩ h
 have UL:xs[j]? =some xs[j]:=aaR hj
 generalize xs[j]=x at UL
 have hD:(xs.map (·.1))[j]? =some x.1:=by rw [abc,UL];rfl
 refine (hx.get UL).elim λu z=>bG z.2 λs t B6 vs r=>ak I.v.l1 (ad (I.aD.keep ld.1 ld.2) (dE (v:=u) z.1 (r.1▸ ?_)))
 refine aq I.ex λec wv w=>ak w.2.1 (q9 (i:=j) r.2.1 (r.2.2.mono I.aD.no) hD (λa b H' K h=>h) rfl λH2 a2 ac f2 h1 h2 h3 h4=>ad (f2.keep w.1.1 w.1.2) (ad h3 ⟨?_,cN λH3 f3 n3 e3=>?_⟩))
 .have NQ:=rt (docs:=xs.map (·.1)) (j:=j+1)
  rw [fA hD,aaD] at NQ
  rw [w.2.2.len,h4.len]
  exact aaw NQ (aaw hp (by decide))
 .have VU:=f2.tr f3
  refine hC _ H3 ⟨I.aD.tr VU,(bI H2.n (wv++ac) ⟨⟨n3▸aaC _,e3⟩,rfl,?_⟩),⟨I.v.l0,I.v.l1,I.v.l2⟩⟩
  rw [fA hD]
  exact (w.2.2.imp λzz zz r=>r.mn VU).append (h4.imp λzz zz r=>r.mn f3)
theorem oG {elt it:X} {B M:Nat} {off:Int} (cU:aO H p B)
  (hit:∀K:KV,(∀H' B' (T:Nat),ai (atS p) H H'->aO H' p B'->B'<=B+1->T<=5->K (.int T) H')->it Γ loc H K)
  (R6:∀v H' B' (K:KV),ai (atS p) H H'->aO H' p B'->B'<=B+8->(∀bz (r:Nat),ai (atS p) H' bz->aO bz p (B'+1)->r < M->K (.int (r+off)) bz)->elt Γ (loc.upd "turn" v) H' K)
  (h:∀(H':HP) (a:Nat) (ix:List Int),ai (atS p) H H'->H.n<=a->aO H' p (B+10)->IsL H' a (ix.map AV.int)->(∀i∈ix,off<=i/\i < M+off)->ix.length<=5->Q (.ref a) H'):
  X.aC elt (.nm "turn") .aE (.o it) X.yes Γ loc H Q:=by
 refine hit _ λH1 B1 T f1 gZ Wj hT=>?_
 refine oq (aaw hT (by decide)) (λj acc H'=>∃ix:List Int,acc=ix.map AV.int/\ix.length=j/\(∀i∈ix,off<=i/\i < M+off)/\ai (atS p) H H'/\aO H' p (B1+j)) (λJ=>J.elim λix z=>by rw [z.1,aaB,z.2.1];exact aaF _) (λj hj acc H' C N J hC zz=>J.elim λix z=>R6 _ H' (B1+j) _ z.2.2.2.1 z.2.2.2.2 (zF (aaQ Wj (aaQ hT hj)) (by simp+arith)) λbz r f yV hr=>hC _ bz ⟨ix++[(r:Int)+off],by rw [z.1,aaL];rfl,by rw [aaD,z.2.1];rfl,λi hi=>(aa6.mp hi).elim (z.2.2.1 i) λq=>aaK.mp q▸⟨Int.le_add_of_nonneg_left (aa0 _),Int.add_lt_add_right (MT hr) _⟩,z.2.2.2.1.tr f,yV⟩) ⟨[],rfl,rfl,fm,f1,gZ⟩ λacc H' J=>J.elim λix z=>cN λH2 f2 n2 e2=>?_
 exact h H2 H'.n ix (z.2.2.2.1.tn f2) z.2.2.2.1.le ((z.2.2.2.2.mono f2 id).up (zF (aaQ Wj hT) (by simp+arith))) ⟨n2▸aaC _,z.1▸e2⟩ z.2.2.1 (z.2.1▸hT)
theorem G6 {D:Doc} {ix:List Int}:(∀i∈ix,0<=i/\i < ((ar D.sp).length:Int))->∃pl:Pl,E4 D ix pl:=by
 induction ix with
 | nil=>exact λzz=>⟨[],.nil⟩
 | cons i r ih=>
  refine λh=>(ih λx hx=>h x (.tail _ hx)).elim λpl hp=>?_
  have:=h i (.head _)
  have hl:i.toNat < (ar D.sp).length:=(Int.toNat_lt this.1).mpr this.2
  exact ⟨(0,(ar D.sp)[i.toNat])::pl,.cons ⟨this.1,rfl,aaR hl⟩ hp⟩
end
noncomputable def JR (i:Int):X:= .idx (.idx (.loc "rows") (.loc "index")) (.int i)
noncomputable def JX:XL:= .cons (.int 0) (.cons (.loc "shelf") (.cons (JR 0) (.o (JR 1))))
noncomputable def Kd:X:= .aC (.tup JX) (.nm "index") .plain (.o (.loc "indexes")) X.yes
noncomputable def Do:X:= .aC (.call "_law_document" (.o (.loc "pen"))) (.nm "turn") .aE (.o (.bin .add (.int 1) (dN 2))) X.yes
noncomputable def J2:aj->PC:=X.bM (.not (.call "_law_made_fits" (.cons (.idx (.loc "parts") (.loc "at")) (.o (.idx (.loc "due") (.loc "at")))))) X.yes
noncomputable def S5 (docs:List Doc):Prop:=∀D∈docs,∃rows,d8 D rows
section
variable {G:Nat->aj} {H H':HP} {Q:KV} {k p da:Nat} {P PM:Nat->Prop} {Γ:aj} {loc:Loc} {x:Doc × List (Int × Di)} {docs:List Doc} {pl:Pl}
theorem lj (m:aQ G) (hd:S5 docs) (hl:docs.length<=2) (hp:fx docs pl) (gy:pl.length<=60) {ms mt wl:Nat} {aa:List (Int × Ob)} {E:List (Nat × Int)} {ws:List AV} (Au:RS PM H ms mt aa K9) (ok:eZ docs pl aa E) (lw:IsL H wl ws) (hw:L2 (dL P docs H) ws pl)
  (h:∀H',ai aJ H H'->Q (.bool true) H'):G (k+9) "_law_made_fits" [.ref ms,.ref wl] H Q:=
 uw m ⟨Au,ok,hp,λD hD=>(hd D hD).elim λzz a=>a.ok.ok,λD hD=>(hd D hD).elim λzz a=>a.neg,λD hD=>(hd D hD).elim λzz a=>a.Y0,hl,gy,lw.1,lw.2,hw⟩ h
theorem DF {s B6 rf ff:Nat} {vs:List AV} {i:Int} {C:KV} (v0:loc "index"= .int i) (v1:loc "shelf"= .ref s) (v2:loc "rows"= .ref B6) (e:H.g B6= .list vs) (ni:qt i=true) (hv:vs[i.toNat]? =some (.tup [.ref rf,.ref ff])) (h:C (y7 0 s rf ff) H):X.tup JX Γ loc H C:=
 ak v1 (ak v2 (ak v0 (ad e (Lr ni (dE hv (ak v2 (ak v0 (ad e (Lr ni (dE hv h))))))))))
theorem AK {s t B6 xi:Nat} {vs:List AV} {ix:List Int} {pl:Pl} (D:uV x) (rd:lZ p H s t B6 vs x) (lx:IsL H xi (ix.map AV.int)) (yN:E4 x.1 ix pl) (hl:ix.length<=5) (v1:loc "shelf"= .ref s) (v2:loc "rows"= .ref B6) (v3:loc "indexes"= .ref xi) (h:tm (dL (λy=>y≠p) [x.1]) Q H aJ pl):
  Kd Γ loc H Q:=by
 refine ak v3 (cG (aH lx.2) lx.1 (λy:Nat × (Int × Di)=>y) (q:=dL (λy=>y≠p) [x.1]) (λzz zz zz zz f r=>r.mn f) (r:=λv y=>∃i:Int,v= .int i/\0<=i/\y.1=0/\(ar x.1.sp)[i.toNat]? =some y.2) (L2.mR (yN.imp λi y z=>⟨i,rfl,z⟩)) (by rw [aaB];exact aaw hl (by decide)) (λv y H' C N rv f hC=>?_) (by rw [List.map_id'];exact h))
 refine rv.elim λi z=>(D.all.rows.get z.2.2.2).elim λr q=>(rd.l.get q.1).elim λu w=>aq w.2 λrf ff b=>z.1▸ ?_
 refine DF (loc:=loc.upd "index" (.int i)) rfl v1 v2 (f.keep rd.lt rd.e) (Int.toNat_of_nonneg z.2.1▸rfl) (b.1▸w.1) (hC H' _ .refl (Az s t rf ff x.1 r.2 ⟨by rw [z.2.2.1],by rw [z.2.2.1];rfl,rd.rs.mn f,f.lt b.2.lt,(f.fix b.2.lt b.2.at_ rfl).trans (congrArg _ (q.2.1)),b.2.rd.mn f,aaz q.2.2.2 (by decide),q.2.2.1⟩))
theorem BY (m:aQ G) {B:Nat} (cU:aO H p B) (hB:B < 20000) (v1:loc "pen"= .ref p)
  (h:∀(H':HP) (a:Nat) (acc:List AV) (xs:List (Doc × List (Int × Di))),ai (atS p) H H'->H.n<=a->aO H' p (B+2000)->IsL H' a acc->L2 (oO p H') acc xs->1<=xs.length->xs.length<=2->Q (.ref a) H'):Do (G (k+8)) loc H Q:=by
 refine ak v1 (fu m cU (aaA hB (by decide)) (M:=2) (by decide) (by decide) λH1 r f1 n1 gZ hr=>?_)
 refine oq (n:=1+r) (aaw ((aaw (aaS (SU _)) hr):1+r<=2) (by decide)) (λj acc H'=>∃xs:List (Doc × List (Int × Di)),xs.length=j/\ai (atS p) H H'/\aO H' p (B+1+900*j)/\L2 (oO p H') acc xs) (λJ=>J.elim λxs z=>z.2.2.2.len▸aaS z.1) (λj hj acc H' C N J hC zz=>J.elim λxs z=>ak (v:= .ref p) v1 (xb m z.2.2.1 (zF (aaQ hB (abt 900 (aaQ hr hj))) (by simp+arith)) λbz v x f yV rd=>hC v bz ⟨xs++[x],by rw [aaD,z.1];rfl,z.2.1.tr f,yV.up (by simp+arith),(z.2.2.2.imp λzz zz r=>r.mono f).snoc rd⟩)) ⟨[],rfl,f1,gZ,.nil⟩ λacc H' J=>J.elim λxs z=>cN λH2 f2 n2 e2=>?_
 exact h H2 H'.n acc xs (z.2.1.tn f2) z.2.1.le ((z.2.2.1.mono f2 id).up (zF (abt 900 hr) (by simp+arith))) ⟨n2▸aaC _,e2⟩ (z.2.2.2.imp λzz zz r=>r.mono f2.no) (aaw (aaM 1 _) (aaS z.1.symm)) (aaw (aaS z.1) (aaw (aaS (SU _)) hr))
theorem w6 (m:aQ G) {pa du lo:Nat} {D:Doc} {rows:List (Int × Di)} {parts ds ws:List AV} {cs:List (Nat × Nat)} (a:d8 D rows) (h7:rows.length<=7) (lp:IsL H pa parts) (hp:L2 (fU D lo H) parts cs) (ld:IsL H du ds) (hd:L2 (tu ws du H) ds cs) (hw:L2 (dL (λy=>y≠p) [D] H) ws (gT 0 D)) (Sl:cs.length<=50)
  (v1:loc "parts"= .ref pa) (v2:loc "due"= .ref du) (h:pP Q H aJ []):
  X.aC (.loc "at") (.nm "at") .aE (.o (.prim "len" (.o (.loc "due")))) J2 (G (k+9)) loc H Q:=by
 refine ak v2 (ad ld.2 ?_)
 refine (congrArg (λ(n:Nat)=>fb _ (.nm "at") .aE _ _ _ [.int n] H) hd.len).mpr ?_
 refine oq (aaw Sl (by decide)) (λj acc H'=>acc=[]/\ai aJ H H') (λJ=>J.1▸abp _) (λj hj acc H' C N J zz hN=>?_) ⟨rfl,.refl⟩ λacc H' J=>cN λH2 f2 n2 e2=>h H2 _ (J.2.tr f2) J.2.le (n2▸aaC _) (J.1▸e2)
 have f:=J.2
 have SO:cs[j]? =some cs[j]:=aaR hj
 generalize cs[j]=c at SO
 refine (hp.get SO).elim λpv q=>(hd.get SO).elim λdv r=>bG q.2 λms mt aa E z=>r.2.elim λla y=>?_
 refine ak (v:= .ref pa) v1 (ad (f.keep lp.1 lp.2) (dE (v:=pv) q.1 (z.1▸ak (v:= .ref du) v2 (ad (f.keep ld.1 ld.2) (dE (v:=dv) r.1 (y.1▸ ?_))))))
 have U1:mq D c.1 c.2=((gT 0 D).drop c.1).take (c.2 - c.1):=by
  delta mq gT
  rw [List.map_take,List.map_drop]
 have SN:fx [D] (mq D c.1 c.2):=a.Py λx hx=>(aaG.mp hx).elim λy w=>w.2▸⟨rfl,List.mem_of_mem_drop (List.mem_of_mem_take w.1)⟩
 refine lj m (λD' hD=>aaK.mp hD▸⟨rows,a⟩) (by decide:1<=2) SN (aaw Ai (a.xM▸aaw h7 (by decide))) (z.2.1.mn f) z.2.2 ⟨f.lt y.2.1.2,f.keep y.2.1.2 y.2.2⟩ (U1▸((hw.imp λzz zz r=>dL.mn f r).drop c.1).take (c.2 - c.1)) λbz f2=>hN bz ⟨J.1,f.tr f2⟩
end
noncomputable def J8:X:= .aC (.ay (.loc "shelf") "told" .nil) (.tup ["shelf","rows"]) .plain (.o (.loc "documents")) X.yes
noncomputable def IX:X:= .list (.cons (.int 0) (.o (.prim "len" (.o (.loc "rows")))))
noncomputable def HH:X:= .list (.o (.neg 1))
noncomputable def wx:X:= .cmp .eq J8 (.loc "kept")
noncomputable def D6 (Γ Γ':aj) (loc:Loc) (H:HP) (Q:KV):Prop:=loc "shelf"≠ .unset/\IX Γ loc H λix H1=>RP Γ' (loc "shelf") ix H1 λH2=>HH Γ loc H2 λZF H3=>RP Γ' (loc "shelf") ZF H3 λH4=>wx Γ loc H4 Q
noncomputable def tS (Γ Γ':aj) (Q:KV):KS:=λfl loc H=>match fl with
 | .next=>D6 Γ Γ' loc H Q
 | .ret v=>Q v H
 | .brk=>False
 | .cont=>False
structure MV where
 p:Nat
 da:Nat
 ka:Nat
 s:Nat
 t:Nat
 rw:Nat
 dv:List AV
 vs:List AV
 xs:List (Doc × List (Int × Di))
 x:Doc × List (Int × Di)
structure qC (c:MV):Prop where
 hl:c.xs.length<=2
 D:uV c.x
 nd:c.da≠c.p
 nk:c.ka≠c.p
structure jY (c:MV) (H:HP):Prop where
 ld:IsL H c.da c.dv
 hx:L2 (oO c.p H) c.dv c.xs
 lk:IsL H c.ka (c.xs.map nJ)
 b:lZ c.p H c.s c.t c.rw c.vs c.x
structure AR (c:MV) (loc:Loc):Prop where
 l1:loc "documents"= .ref c.da
 l2:loc "kept"= .ref c.ka
 l3:loc "shelf"= .ref c.s
 l4:loc "rows"= .ref c.rw
section
variable {G:Nat->aj} {H H':HP} {Q:KV} {k:Nat} {loc:Loc} {c:MV}
theorem jY.mono (S:jY c H) (ok:qC c) (f:ai (atS c.p) H H'):jY c H':=⟨⟨f.lt S.ld.1,f.ne S.ld.1 S.ld.2 ok.nd⟩,S.hx.imp λzz zz r=>r.mono f,⟨f.lt S.lk.1,f.ne S.lk.1 S.lk.2 ok.nk⟩,S.b.mono f⟩
theorem jY.mn (S:jY c H) (ok:qC c) (f:ai aJ H H'):jY c H':=S.mono ok f.no
theorem r8 (m:aQ G) (ok:qC c) (S:jY c H) {sv:AV} (v3:sv= .ref c.s) {xi:Nat} {ix:List Int} (lx:IsL H xi (ix.map AV.int)) (Qv:ix.length < 100) {i:Int} (hi:i∈ix) (bad:¬(0<=i/\i < (c.x.2.length:Int))) {P:HP->Prop} (h:∀H',ai aJ H H'->P H'):RP (G (k+7)) sv (.ref xi) H P:=
 v3▸Db m ok.D.all S.b.rs lx.1 lx.2 Qv ⟨i,hi,bad⟩ h
theorem ID (m:aQ G) (ok:qC c) (S:jY c H) (l:AR c loc) (h:∀H',Q (.bool true) H'):wx (G (k+7)) loc H Q:=
 ak l.l1 (qY m S.ld S.hx ok.hl λH5 a5 f5 h1 h2 e5=>ak l.l2 (dM e5 (f5.keep S.lk.1 S.lk.2) (bZ λy hy=>(aaG.mp hy).elim λz w=>w.2▸G4 _ _ 50) (h H5)))
theorem Iv (m:aQ G) (ok:qC c) (S:jY c H) (l:AR c loc) (h:∀H',Q (.bool true) H'):D6 (G (k+11)) (G (k+9)) loc H Q:=by
 refine ⟨l.l3▸AV.noConfusion,ak l.l4 (ad S.b.e (cN λH1 f1 n1 e1=>?_))⟩
 refine r8 m ok (S.mn ok f1) l.l3 (ix:=[0,(c.vs.length:Int)]) ⟨n1▸aaC _,e1⟩ (by decide:2 < 100) (.tail _ (.head _)) (λq=>Int.lt_irrefl _ (S.b.l.len▸q.2)) λH2 f2=>cN λH3 f3 n3 e3=>?_
 have S3:=(S.mn ok f1).mn ok (f2.tr f3)
 exact r8 m ok S3 l.l3 (ix:=[-1]) ⟨n3▸aaC _,e3⟩ (by decide:1 < 100) (.head _) (λq=>absurd q.1 (by decide)) λH4 f4=>ID (k:=k+4) m ok (S3.mn ok f4) l h
end
noncomputable def Ld:X:= .aC (.loc "at") (.nm "at") .aE (.o (.prim "len" (.o (.loc "due")))) J2
noncomputable def zf:SL:= .o (.ret (.bool false))
noncomputable def Ql:SL:= .o (.bA (.or (.cmp .ne (.prim "len" (.o (.loc "parts"))) (.prim "len" (.o (.loc "due")))) (.cmp .ne Ld (.list .nil))) zf .nil)
noncomputable def Nv:SL:= .cons (.bX (.nm "size") .plain (.o (.bin .add (.loc "sizes") (.list (.o (.prim "len" (.o (.loc "rows"))))))) Lv) Ql
noncomputable def KZ:X:= .aC (.bin .sub (dN 4) (.int 1)) (.nm "turn") .aE (.o (.int 2)) X.yes
noncomputable def KT:SL:= .cons (.set "sizes" KZ) (.cons (.set "parts" (.call "cut_into" (.cons (.loc "shelf") (.o (.loc "sizes"))))) (.cons (.set "left" (JD (.int 0))) (.cons (.set "due" (.list .nil)) Nv)))
section
variable {G:Nat->aj} {H H':HP} {Q:KV} {k B:Nat} {loc:Loc} {c:MV}
theorem B4 (m:aQ G) (ok:qC c) (S:jY c H) {d:HM} (ed:d.da=c.da/\d.ka=c.ka/\d.s=c.s/\d.rw=c.rw) (v:DK d loc) {parts ds:List AV} {cs:List (Nat × Nat)} {lo:Nat} (lp:IsL H d.pa parts) (hp:L2 (fU c.x.1 lo H) parts cs) (ld:IsL H d.du ds) (hd:L2 (tu d.ws d.du H) ds cs) (hw:L2 (dL (λy=>y≠c.p) [c.x.1] H) d.ws (gT 0 c.x.1)) (Sl:cs.length<=50)
  (h:∀H',Q (.bool true) H'):Ql (G (k+11)) loc H (tS (G (k+11)) (G (k+9)) Q):=by
 refine ak v.l4 (ad lp.2 (ak v.l5 (ad ld.2 (MR (congrArg (λ(n:Nat)=>(n:Int)) (hp.len.trans hd.len.symm)) ?_))))
 refine w6 (k:=k+2) m ok.D.all ok.D.l7 lp hp ld hd hw Sl v.l4 v.l5 λH1 a1 f1 h1 h2 e1=>cN λH2 f2 n2 e2=>dM (f2.keep h2 e1) e2 rfl ?_
 exact Iv m ok (S.mn ok (f1.tr f2)) ⟨v.l0.trans (congrArg AV.ref ed.1),v.l1.trans (congrArg AV.ref ed.2.1),v.l2.trans (congrArg AV.ref ed.2.2.1),v.l3.trans (congrArg AV.ref ed.2.2.2)⟩ h
theorem HO (m:aQ G) (ok:qC c) (S:jY c H) {pa za la lo:Nat} {zs:List Int} {parts ws:List AV} (lz:IsL H za (zs.map AV.int)) (hz:zs.length<=5) (lp:IsL H pa parts) (hp:L2 (fU c.x.1 lo H) parts (jv (zs++[((ar c.x.1.sp).length:Int)]) 0 (ar c.x.1.sp).length)) (ll:IsL H la ws) (hw:L2 (dL (λy=>y≠c.p) [c.x.1] H) ws (gT 0 c.x.1)) (l:AR c loc)
  (v0:loc "sizes"= .ref za) (v4:loc "parts"= .ref pa) (vl:loc "left"= .ref la) (h:∀H',Q (.bool true) H'):SL.cons (.set "due" (.list .nil)) Nv (G (k+11)) loc H (tS (G (k+11)) (G (k+9)) Q):=by
 refine cN λH1 f1 n1 e1=>?_
 have wl:ws.length=(ar c.x.1.sp).length:=hw.len.trans (aaB _)
 have l1:H.n < H1.n:=n1▸aaC _
 have z1:=lz.mn f1
 refine Ea (c:=⟨ws,c.da,c.ka,c.s,c.rw,pa,H.n⟩) (za:=za) (la:=la) v0 z1.2 z1.1 (f1.keep S.b.lt S.b.e) (S.b.l.len.trans (ok.D.all.xM.symm.trans wl.symm)) l1 e1 (ll.mn f1).1 (ll.mn f1).2 (aaJ ll.1) (aaz hz (by decide)) vl ⟨l.l1,l.l2,l.l3,l.l4,v4,rfl⟩ λloc' H2 ds v f2 ed hd=>?_
 have fS:=f1.up f2 (aaF _)
 rw [<-wl] at hp
 refine B4 m ok (S.mn ok fS) ⟨rfl,rfl,rfl,rfl⟩ v (lp.mn fS) (hp.imp λzz zz r=>r.mn fS) ⟨f2.lt l1,ed⟩ hd (hw.imp λzz zz r=>r.mn fS) (aaw oL ?_) h
 rw [aaD]
 exact aaw (abb hz _) (by decide:6<=50)
theorem II (m:aQ G) (ok:qC c) (S:jY c H) (cU:aO H c.p B) (hB:B < 40000) (l:AR c loc) (v0:loc "pen"= .ref c.p) (h:∀H',Q (.bool true) H'):KT (G (k+11)) loc H (tS (G (k+11)) (G (k+9)) Q):=by
 refine oG (M:=4) (off:= -1) cU (λK hq=>hq H B 2 .refl cU (aba _) (by decide)) (λv H' B' K f yV Tz hq=>ak v0 (fu m yV (aaz Tz (aax (Nat.add_lt_add_right hB 8) (by decide))) (M:=4) (by decide) (by decide) λbz r f2 n2 mQ hr=>(Int.sub_eq_add_neg (a:=(r:Int)) (b:=1)▸hq bz r f2 mQ hr:K (.int ((r:Int) - 1)) bz))) λH1 za zs f1 hza gZ lz hzs Xj=>?_
 have S1:=S.mono ok f1
 refine ak (v:= .ref c.s) l.l3 (OV (k:=k) m ⟨ok.D.all.ok,S1.b.rs,lz.1,lz.2,aaz Xj (by decide),ok.D.all.R8,(ok.D.all.xM▸aaw ok.D.l7 (by decide))⟩ λH2 pa lo parts f2 q1 q2 q3 q4 q5=>?_)
 have S2:=S1.mn ok f2
 refine ak (v:= .ref c.rw) l.l4 (q9 (i:=0) (docs:=[c.x.1]) ok.D S2.b rfl (λa b H' K h=>h) l.l3 λH3 la ws f3 h1 h2 h3 hw=>?_)
 exact HO m ok (S2.mn ok f3) ((lz.mn f2).mn f3) Xj ⟨f3.lt q2,f3.keep q2 q3⟩ (q5.imp λzz zz r=>r.mn f3) ⟨h2,h3⟩ hw ⟨l.l1,l.l2,l.l3,l.l4⟩ rfl rfl rfl h
end
noncomputable def F6:X:= .aC (.call "_law_draw" (.cons (.loc "pen") (.o (.prim "len" (.o (.loc "rows")))))) (.nm "turn") .aE (.o (dN 4)) X.yes
noncomputable def NN:SL:= .cons (.set "indexes" F6) (.cons (.set "wanted" Kd) (.cons (.bA (.not (.call "_law_made_fits" (.cons (.call "split_pages" (.cons (.loc "shelf") (.o (.loc "indexes")))) (.o (.loc "wanted"))))) zf .nil) KT))
noncomputable def O3:SL:= .cons (.bR ["shelf","rows"] (.idx (.loc "documents") (.int 0))) NN
section
variable {G:Nat->aj} {H H':HP} {Q:KV} {k B:Nat} {loc:Loc} {c:MV}
theorem Er (m:aQ G) (ok:qC c) (S:jY c H) (cU:aO H c.p B) (hB:B < 40000) (l:AR c loc) (v0:loc "pen"= .ref c.p) {xi wa:Nat} {ix:List Int} {pl:Pl} {ws:List AV} (lx:IsL H xi (ix.map AV.int)) (yN:E4 c.x.1 ix pl) (hl:ix.length<=5) (lw:IsL H wa ws) (hw:L2 (dL (λy=>y≠c.p) [c.x.1] H) ws pl) (v3:loc "indexes"= .ref xi) (v4:loc "wanted"= .ref wa)
  (h:∀H',Q (.bool true) H'):SL.cons (.bA (.not (.call "_law_made_fits" (.cons (.call "split_pages" (.cons (.loc "shelf") (.o (.loc "indexes")))) (.o (.loc "wanted"))))) zf .nil) KT (G (k+11)) loc H (tS (G (k+11)) (G (k+9)) Q):=by
 have vu:pl.length<=5:=yN.len▸hl
 refine ak l.l3 (ak v3 (AI (k:=k+1) m ⟨ok.D.all.ok,S.b.rs,lx.1,lx.2,yN,aaw (abb vu 4) (by decide),ok.D.all.R8⟩ λH1 ms mt aa E f1 h1 rs RC=>ak v4 ?_))
 have hp:fx [c.x.1] pl:=ok.D.all.Py λy hy=>(yN.Hr hy).elim λi z=>⟨by rw [z.2.2.1];rfl,aaO z.2.2.2⟩
 refine lj (k:=k+2) m (λD' hD=>aaK.mp hD▸⟨c.x.2,ok.D.all⟩) (by decide:1<=2) hp (aaw vu (by decide)) rs RC (lw.mn f1) (hw.imp λzz zz r=>dL.mn f1 r) λH2 f2=>?_
 have fS:=f1.tr f2
 exact II m ok (S.mn ok fS) (cU.mono fS id) hB l v0 h
theorem AQ (m:aQ G) (ok:qC c) (S:jY c H) (cU:aO H c.p B) (hB:B < 30000) (l:AR c loc) (v0:loc "pen"= .ref c.p) (h:∀H',Q (.bool true) H'):NN (G (k+11)) loc H (tS (G (k+11)) (G (k+9)) Q):=by
 have vl:=S.b.l.len
 refine oG (M:=c.vs.length) (off:=0) cU (λK hq=>ak v0 (fu m cU (aaA hB (by decide)) (M:=4) (by decide) (by decide) λH1 r f1 n1 gZ hr=>hq H1 _ r f1 gZ (aaF _) (aaw (aaI hr) (by decide)))) (λv H' B' K f yV Tz hq=>ak v0 (ak l.l4 (ad (f.ne S.b.lt S.b.e S.b.hr) (fu m yV (aaz Tz (aax (Nat.add_lt_add_right hB 8) (by decide))) (vl▸ok.D.l1) (aaz (vl▸ok.D.l7) (by decide)) λbz r f2 n2 mQ hr=>(Int.add_zero (r:Int)▸hq bz r f2 mQ hr:K (.int (r:Int)) bz))))) λH1 xi ix f1 Gr gZ lx yN hl=>?_
 have S1:=S.mono ok f1
 refine (G6 (D:=c.x.1) λi hi=>⟨(yN i hi).1,by have:=(yN i hi).2;rw [ok.D.all.xM];exact sR this (Kc vl)⟩).elim λpl gy=>?_
 refine AK (loc:=loc.upd "indexes" (.ref xi)) ok.D S1.b lx gy hl l.l3 l.l4 rfl λH2 wa ws f2 h1 h2 h3 hw=>?_
 exact Er m ok (S1.mn ok f2) (gZ.mono f2 id) (aax (Nat.add_lt_add_right hB 10) (by decide)) ⟨l.l1,l.l2,l.l3,l.l4⟩ v0 (lx.mn f2) gy hl ⟨h2,h3⟩ hw rfl rfl h
end
noncomputable def Iu:S:= .bA (.not (.call "_law_made_fits" (.cons (.call "merged" (.o (.aC (.loc "shelf") (.tup ["shelf","rows"]) .plain (.o (.loc "documents")) X.yes))) (.o (.loc "every"))))) zf .nil
noncomputable def KE:SL:= .cons Iu O3
noncomputable def Hk:SL:= .cons (.set "pen" (.call "_law_pen" (.o (.loc "script")))) (.cons (.set "documents" Do) (.cons (.set "kept" J8) (.cons (.set "every" (.list .nil)) (.cons (.bX (.nm "which") .aE (.o (.prim "len" (.o (.loc "documents")))) Dp) KE))))
theorem ou {docs:List Doc}:∀{i:Nat},(∀D∈docs,(ar D.sp).length<=7)->(b0 i docs).length<=7*docs.length:=by
 induction docs with
 | nil=>exact λzz=>abp _
 | cons D r ih=>
  intro i h
  show (gT i D++b0 (i+1) r).length<=7*(r.length+1)
  rw [aaD,Nat.mul_succ,abg]
  exact aaQ (ih (i:=i+1) λx hx=>h x (.tail _ hx)) ((aaB (as:=ar D.sp) _).symm▸h D (.head _))
section
variable {G:Nat->aj} {H H':HP} {Q:KV} {k p B da ka:Nat} {loc:Loc} {dv:List AV} {xs:List (Doc × List (Int × Di))}
structure mz (p da ka:Nat) (dv:List AV) (xs:List (Doc × List (Int × Di))) (H:HP):Prop where
 ld:IsL H da dv
 hx:L2 (oO p H) dv xs
 lk:IsL H ka (xs.map nJ)
 cU:aO H p 2000
structure JO (p da ka:Nat) (xs:List (Doc × List (Int × Di))):Prop where
 l1:1<=xs.length
 l2:xs.length<=2
 nd:da≠p
 nk:ka≠p
theorem mz.mn (S:mz p da ka dv xs H) (f:ai aJ H H'):mz p da ka dv xs H':=⟨S.ld.mn f,S.hx.imp λzz zz r=>r.mono f.no,S.lk.mn f,S.cU.mono f id⟩
theorem mz.all (S:mz p da ka dv xs H):∀D∈xs.map (·.1),∃rows,d8 D rows/\rows.length<=7:=λD hD=>(aaG.mp hD).elim λx z=>(S.hx.Hr z.1).elim λv y=>bG y.2 λzz zz zz zz r=>z.2▸⟨x.2,r.2.1.all,r.2.1.l7⟩
theorem Cv (m:aQ G) (F:JO p da ka xs) (S:mz p da ka dv xs H) (v:Kl p da ka loc) (h:∀H',Q (.bool true) H'):O3 (G (k+11)) loc H (tS (G (k+11)) (G (k+9)) Q):=by
 have W5:xs[0]? =some (xs[0]'F.l1):=aaR F.l1
 generalize xs[0]'F.l1=x at W5
 refine (S.hx.get W5).elim λu z=>bG z.2 λs t B6 vs r=>ak v.l1 (ad S.ld.2 (dE (v:=u) z.1 (r.1▸ ?_)))
 exact AQ m (c:=⟨p,da,ka,s,t,B6,dv,vs,xs,x⟩) ⟨F.l2,r.2.1,F.nd,F.nk⟩ ⟨S.ld,S.hx,S.lk,r.2.2⟩ S.cU (by decide) ⟨v.l1,v.l2,rfl,rfl⟩ v.l0 h
theorem yU (m:aQ G) (F:JO p da ka xs) (S:mz p da ka dv xs H) (I:UT p da ka H' (xs.map (·.1)) xs.length loc H) (h:∀H',Q (.bool true) H'):KE (G (k+11)) loc H (tS (G (k+11)) (G (k+9)) Q):=by
 have all:=S.all
 have Cn:(xs.map (·.1)).length<=2:=aaB (as:=xs) (·.1)▸F.l2
 have PD:(rD (xs.map (·.1))).length<=14:=aaw (ou λD hD=>(all D hD).elim λrows a=>a.1.xM▸a.2) (abt 7 Cn)
 refine ak I.v.l1 (sP S.ld S.hx F.l2 λH1 sl ss f1 h1 h2 h3 Xy=>?_)
 refine FM (k:=k+1) m (λD hD=>(all D hD).elim λrows a=>a.1.ok) h2 h3 Xy (aaw (aaQ PD (abt 4 Cn)) (by decide)) (λD hD=>(all D hD).elim λrows a=>a.1.R8) λH2 ms mt aa E f2 h4 rs ok=>?_
 refine aq I.ex λea wv w=>ak w.2.1 ?_
 have fS:=f1.tr f2
 have hw:=w.2.2
 rw [show (xs.map (·.1)).take xs.length=xs.map (·.1) from List.take_of_length_le (aaS (aaB _))] at hw
 refine lj (k:=k+2) m (λD hD=>(all D hD).imp λrows a=>a.1) Cn (λy hy=>aq (jL hy) λj D z=>(all D (aaO z.2.1)).elim λrows a=>⟨D,by rw [z.1,abE];exact z.2.1,a.1.Rg y.2 z.2.2⟩) (aaw PD (by decide)) rs ok (w.1.mn fS) (hw.imp λzz zz r=>dL.mn fS r) λH3 f3=>?_
 exact Cv m F (S.mn (fS.tr f3)) I.v h
theorem QN (m:aQ G) {a:Nat} {is:List Int} (e:H.g a= .no (is.map AV.int)) (h:∀H',Q (.bool true) H'):Hk (G (k+11)) (Loc.new.upd "script" (.ref a)) H (tS (G (k+11)) (G (k+9)) Q):=by
 refine Oo m e λH1 p f1 hp gZ=>?_
 show Do (G (k+11)) ((Loc.new.upd "script" (.ref a)).upd "pen" (.ref p)) H1 _
 refine BY (k:=k+3) m gZ (by decide) rfl λH2 da dv xs f2 vJ mQ ld hx XV Cn=>?_
 refine qY (k:=k+4) m ld hx Cn λH3 ka f3 h1 h2 h3=>cN λH4 f4 n4 e4=>?_
 have Co:=f3.tr f4
 have S2:mz p da ka dv xs H4:=⟨ld.mn Co,hx.imp λzz zz r=>r.mono Co.no,⟨f4.lt h2,f4.keep h2 h3⟩,mQ.mono Co id⟩
 show S.bX (.nm "which") .aE (.o (.prim "len" (.o (.loc "documents")))) Dp (G (k+11)) (((((Loc.new.upd "script" (.ref a)).upd "pen" (.ref p)).upd "documents" (.ref da)).upd "kept" (.ref ka)).upd "every" (.ref H3.n)) H4 (NE (KE (G (k+11))) (tS (G (k+11)) (G (k+9)) Q))
 exact yr S2.ld S2.hx Cn (aaw (ou λD hD=>(S2.all D hD).elim λrows a=>a.1.xM▸a.2) (abt 7 (aaB (as:=xs) (·.1)▸Cn))) ⟨n4▸aaC _,e4⟩ ⟨rfl,rfl,rfl⟩ rfl λloc' H5 I=>yU m (⟨XV,Cn,aaN (aax gZ.1 vJ),aaN (aax mQ.1 h1)⟩) (S2.mn I.aD) I h
end
end
section
open PySem PySem.W PySem.Spec PySem.Calls PyProof.Rows
structure WM where
 ρ:Nat->Nat
 δ:Nat->Nat
structure Pt where
 W:WM
 H:HP
 s:Shared
structure Mo where
 prog:Program
 w:World
 K:Frag
 h0:Heap
noncomputable abbrev Mo.m (M:Mo):=model M.prog M.w
noncomputable abbrev Pt.h (p:Pt):Heap:=p.s.heap
noncomputable abbrev Pt.n (p:Pt):Nat:=p.H.n
noncomputable abbrev mN (vs:Array Value) (k:Nat):Obj:=⟨.type "list",none,.seq vs k,#[]⟩
noncomputable abbrev VD (ds:Array DictEntry) (k:Nat):Obj:=⟨.type "dict",none,.dict ds k,#[]⟩
noncomputable abbrev XW (C dx:Addr):Obj:=⟨.ref C,some dx,.plain,#[]⟩
noncomputable def gR (o:Obj):Prop:=o.cls= .type "tuple"/\∃vs k,o.data= .seq vs k
noncomputable def dH (h h':Heap):Prop:=∀x o,h.get? x=some o->gR o->h'.get? x=some o
noncomputable def Own (p:Pt) (x:Addr):Prop:=∃a,a < p.n/\(x=p.W.ρ a\/x=p.W.δ a)
mutual
noncomputable def vr (p:Pt):AV->Value->Prop
 | .unset,_=>False
 | .none,v=>v= .none
 | .bool b,v=>v= .bool b
 | .int i,v=>∃t,v= .int i t
 | .str s,v=>∃t,v= .str (Str.ofString s) t
 | .bytes b,v=>∃t,v= .bytes b.toArray t
 | .tup xs,v=>∃x vs,v= .ref x/\IsTup p.h x vs/\K6 p xs vs.toList
 | .ref a,v=>v= .ref (p.W.ρ a)/\a < p.n
noncomputable def K6 (p:Pt):List AV->List Value->Prop
 | [],l=>l=[]
 | a::as,l=>∃v r,l=v::r/\vr p a v/\K6 p as r
end
noncomputable abbrev VR (p:Pt) (v:Value) (a:AV):Prop:=vr p a v
structure fM (p p':Pt):Prop where
 le:p.n<=p'.n
 ρ:∀a,a < p.n->p'.W.ρ a=p.W.ρ a
 tup:dH p.h p'.h
section
variable {p p' Vd:Pt}
theorem sH {x:Addr} {vs:Array Value} (k:dH p.h p'.h) (h:IsTup p.h x vs):IsTup p'.h x vs:=h.imp λo h=>⟨k x o h.1 ⟨h.2.1,vs,h.2.2⟩,h.2⟩
mutual
theorem AC (l:fM p p'):∀(a:AV) (v:Value),vr p a v->vr p' a v
 | .unset,_,h | .none,_,h | .bool _,_,h | .int _,_,h | .str _,_,h | .bytes _,_,h=>h
 | .tup xs,_,h=>h.imp λx h=>h.imp λvs h=>⟨h.1,sH l.tup h.2.1,vF l xs _ h.2.2⟩
 | .ref a,_,h=>⟨h.1.trans (congrArg Value.ref (l.ρ a h.2).symm),aax h.2 l.le⟩
theorem vF (l:fM p p'):∀(as:List AV) (vs:List Value),K6 p as vs->K6 p' as vs
 | [],_,h=>h
 | a::as,_,h=>h.imp λv h=>h.imp λr h=>⟨h.1,AC l a v h.2.1,vF l as r h.2.2⟩
end
theorem VR.mono (l:fM p p') {v:Value} {a:AV} (h:VR p v a):VR p' v a:=AC l a v h
theorem fC:∀{as:List AV} {vs:List Value},K6 p as vs ↔ L2 (VR p) vs as:=by
 intro as
 induction as with
 | nil=>exact λ{vs}=>⟨λh=>h▸ .nil,λh=>h.df⟩
 | cons a as ih=>exact λ{vs}=>⟨λh=>h.elim λv h=>h.elim λr h=>h.1▸ .cons h.2.1 (ih.mp h.2.2),λh=>h.aW.imp λv h=>h.imp λr h=>⟨h.1,h.2.1,ih.mpr h.2.2⟩⟩
theorem wX.mono (l:fM p p') {vs:List Value} {as:List AV} (h:L2 (VR p) vs as):L2 (VR p') vs as:=h.imp λzz zz r=>r.mono l
theorem VR.tup {v:Value} {xs:List AV} (h:VR p v (.tup xs)):∃x vs,v= .ref x/\IsTup p.h x vs/\L2 (VR p) vs.toList xs:=h.imp λzz h=>h.imp λzz h=>⟨h.1,h.2.1,fC.mp h.2.2⟩
theorem VR.qH {x:Addr} {vs:Array Value} {xs:List AV} (h1:IsTup p.h x vs) (h2:L2 (VR p) vs.toList xs):VR p (.ref x) (.tup xs):=(bI x vs ⟨rfl,h1,fC.mpr h2⟩)
end
noncomputable def JA:AV->Int
 | .int i=>i
 | _=>0
noncomputable def wE (P:Params):AV->Int
 | .str s=>PyData.keyHash P (Str.ofString s)
 | .int i=>hashInt i
 | .tup xs=>reduceHash (Builtin.Tuple.tupleHashOf (xs.map λx=>hashInt (JA x)))
 | _=>0
structure mO (M:Mo) (p:Pt) (d:DictEntry) (e:AV × AV):Prop where
 key:VR p d.key e.1
 kk:kk e.1≠0
 hash:d.hash=wE M.w.params e.1
 val:VR p d.val e.2
structure ut (p:Pt) (d:DictEntry) (e:String × AV):Prop where
 key:∃t,d.key= .str (Str.ofString e.1) t
 val:VR p d.val e.2
noncomputable def Dk:Option (Option Value)->Option Addr
 | some v=>(match v with
  | some v=>(match v with
   | .ref f=>some f
   | _=>.none)
  | .none=>.none)
 | .none=>.none
noncomputable def b9 (K:Frag) (x:String):Option Addr:=Dk (nsIn K mainGlobals (Str.ofString x))
noncomputable def insts:List String:=["Name","Stream","Reference","Shelf","Page","Spot","Collector"]
noncomputable def ca (K:Frag) (c:String):Option Addr:=if insts.contains c then b9 K c else none
structure CA (p:Pt) (x:Addr) (vs:Array Value) (k:Nat) (xs:List AV):Prop where
 at_:p.h.get? x=some (mN vs k)
 l:L2 (VR p) vs.toList xs
 len:xs.length<=lim
structure jU (M:Mo) (p:Pt) (x:Addr) (ds:Array DictEntry) (k:Nat) (es:List (AV × AV)):Prop where
 at_:p.h.get? x=some (VD ds k)
 l:L2 (mO M p) ds.toList es
 nd:(es.map (·.1)).Nodup
 len:es.length<=lim
structure Ot (M:Mo) (p:Pt) (x dx:Addr) (c:String) (fs:List (String × AV)) (C:Addr) (ds:List DictEntry) (k:Nat):Prop where
 ca:ca M.K c=some C
 at_:p.h.get? x=some (XW C dx)
 dat:p.h.get? dx=some (dictOf ds k)
 l:L2 (ut p) ds fs
 nd:(fs.map (·.1)).Nodup
 len:fs.length<=100
noncomputable def Cp (M:Mo) (p:Pt) (x dx:Addr):AO->Prop
 | .no xs=>dx=x/\∃vs k,(∃d sl,p.h.get? x=some ⟨.type "list",d,.seq vs k,sl⟩)/\L2 (VR p) vs.toList xs/\xs.length<=lim
 | .list xs=>dx=x/\∃vs k,CA p x vs k xs
 | .dict es=>dx=x/\∃ds k,jU M p x ds k es
 | .inst c fs=>∃C ds k,Ot M p x dx c fs C ds k
noncomputable def AO.qE:AO->Bool
 | .no _=>true
 | _=>false
structure Rep (M:Mo) (p:Pt):Prop where
 sz:M.h0.objs.size<=p.h.objs.size
 base:∀x o,M.h0.get? x=some o->p.h.get? x=some o
 lo:∀a,a < p.n->(p.H.g a).qE=false->M.h0.objs.size<=p.W.ρ a/\M.h0.objs.size<=p.W.δ a
 inj:∀a b,a < p.n->b < p.n->a≠b->p.W.ρ a≠p.W.ρ b/\p.W.ρ a≠p.W.δ b/\p.W.δ a≠p.W.δ b
 obj:∀a,a < p.n->Cp M p (p.W.ρ a) (p.W.δ a) (p.H.g a)
structure After (M:Mo) (B:Addr->Prop) (p p':Pt):Prop where
 le:p.n<=p'.n
 ρ:∀a,a < p.n->p'.W.ρ a=p.W.ρ a
 δ:∀a,a < p.n->p'.W.δ a=p.W.δ a
 new:∀a,p.n<=a->a < p'.n->p.h.objs.size<=p'.W.ρ a/\p.h.objs.size<=p'.W.δ a
 keep:∀x o,p.h.get? x=some o->¬Own p x->¬B x->p'.h.get? x=some o
 size:p.h.objs.size<=p'.h.objs.size
 same:p'.s={p.s with heap:=p'.h,toks:=p'.s.toks}
 tup:dH p.h p'.h
 lW:∀a,a < p.n->p.H.t a<=p'.H.t a/\(p'.H.t a=p.H.t a->∀o,p.h.get? (p.W.ρ a)=some o->p'.h.get? (p.W.ρ a)=some o)
 rep:Rep M p'
noncomputable def cY:Addr->Prop:=λzz=>False
structure lN (M:Mo) (p:Pt) (x:Addr):Prop where
 own:¬Own p x
 hi:M.h0.objs.size<=x
 tup:∀o,p.h.get? x=some o->¬gR o
noncomputable def dX (h h':Heap):Prop:=(∀x o,h.get? x=some o->h'.get? x=some o)/\h.objs.size<=h'.objs.size
noncomputable abbrev Pt.at (p:Pt) (h:Heap) (t:Nat):Pt:=⟨p.W,p.H,{p.s with heap:=h,toks:=t}⟩
noncomputable def WM.put (W:WM) (n x dx:Nat):WM:=⟨λa=>bif Nat.beq a n then x else W.ρ a,λa=>bif Nat.beq a n then dx else W.δ a⟩
noncomputable abbrev Pt.tell (p:Pt) (x dx:Addr) (o:AO):Pt:=⟨p.W.put p.n x dx,p.H.push o,p.s⟩
section
variable {M:Mo} {B B':Addr->Prop} {p p' Vd:Pt} {x dx:Addr} {a:Nat} {o:AO}
theorem fM.grow {h:Heap} {t:Nat} (k:dH p.h h):fM p (p.at h t):=⟨aaF _,λzz zz=>rfl,k⟩
theorem dX.tup {h h':Heap} (g:dX h h'):dH h h':=λx o e zz=>g.1 x o e
theorem dX.push (h:Heap) (o:Obj):dX h (h.push o):=⟨λzz zz e=>Heap.get?_push_of_some _ e,by rw [Heap.size_push];exact aba _⟩
theorem dX.trans {h h' Nf:Heap} (a:dX h h') (b:dX h' Nf):dX h Nf:=⟨λx o e=>b.1 x o (a.1 x o e),aaw a.2 b.2⟩
theorem mO.mono (l:fM p p') {d:DictEntry} {e:AV × AV} (r:mO M p d e):mO M p' d e:=⟨r.key.mono l,r.kk,r.hash,r.val.mono l⟩
theorem ut.mono (l:fM p p') {d:DictEntry} {e:String × AV} (r:ut p d e):ut p' d e:=⟨r.key,r.val.mono l⟩
theorem CA.mono (l:fM p p') {vs:Array Value} {k:Nat} {xs:List AV} (r:CA p x vs k xs) (kx:∀o,p.h.get? x=some o->p'.h.get? x=some o):CA p' x vs k xs:=⟨kx _ r.at_,wX.mono l r.l,r.len⟩
theorem jU.mono (l:fM p p') {ds:Array DictEntry} {k:Nat} {es:List (AV × AV)} (r:jU M p x ds k es) (kx:∀o,p.h.get? x=some o->p'.h.get? x=some o):jU M p' x ds k es:=⟨kx _ r.at_,r.l.imp λzz zz q=>q.mono l,r.nd,r.len⟩
theorem Cp.mono (l:fM p p') (kx:∀o,p.h.get? x=some o->p'.h.get? x=some o) (kd:∀o,p.h.get? dx=some o->p'.h.get? dx=some o):∀{o:AO},Cp M p x dx o->Cp M p' x dx o
 | .no _,r=>⟨r.1,r.2.imp λvs r=>r.imp λk r=>⟨r.1.imp λzz r=>r.imp λzz r=>kx _ r,wX.mono l r.2.1,r.2.2⟩⟩
 | .list _,r=>⟨r.1,r.2.imp λvs r=>r.imp λk r=>r.mono l kx⟩
 | .dict _,r=>⟨r.1,r.2.imp λvs r=>r.imp λk r=>r.mono l kx⟩
 | .inst _ _,r=>r.imp λC r=>r.imp λds r=>r.imp λk r=>⟨r.ca,kx _ r.at_,kd _ r.dat,r.l.imp λzz zz q=>q.mono l,r.nd,r.len⟩
theorem o3 {o:Obj} {h:Heap} {x:Addr} (e:h.get? x=some o) (n:o.cls≠ .type "tuple"):∀o,h.get? x=some o->¬gR o:=λo' e' q=>n (aay (e.symm.trans e')▸q.1)
structure jo (p:Pt) (x:Addr):Prop where
 lt:x < p.h.objs.size
 nt:∀o,p.h.get? x=some o->¬gR o
theorem jo.mk' {o:Obj} (e:p.h.get? x=some o) (n:o.cls≠ .type "tuple"):jo p x:=⟨Heap.lt_size e,o3 e n⟩
theorem Cp.there:∀{o:AO},Cp M p x dx o->jo p x/\jo p dx
 | .no _,r=>aq r.2 λvs k z=>aq z.1 λd sl z=>r.1.symm▸⟨.mk' z (by decide:Value.type "list"≠ .type "tuple"),.mk' z (by decide:Value.type "list"≠ .type "tuple")⟩
 | .list _,r=>r.2.elim λvs z=>z.elim λk z=>r.1.symm▸⟨.mk' z.at_ (by decide:Value.type "list"≠ .type "tuple"),.mk' z.at_ (by decide:Value.type "list"≠ .type "tuple")⟩
 | .dict _,r=>r.2.elim λvs z=>z.elim λk z=>r.1.symm▸⟨.mk' z.at_ (by decide:Value.type "dict"≠ .type "tuple"),.mk' z.at_ (by decide:Value.type "dict"≠ .type "tuple")⟩
 | .inst _ _,r=>bj r λC ds k z=>⟨.mk' z.at_ (λq=>nomatch q),.mk' z.dat (by show Value.type "dict"≠ .type "tuple";decide)⟩
theorem Rep.there (R:Rep M p) (ha:a < p.n):jo p (p.W.ρ a)/\jo p (p.W.δ a):=(R.obj a ha).there
theorem Rep.own (R:Rep M p) (h:Own p x):jo p x:=h.elim λa h=>h.2.elim (λe=>e▸(R.there h.1).1) λe=>e▸(R.there h.1).2
theorem Rep.new (R:Rep M p) (hx:p.h.objs.size<=x):¬Own p x:=λh=>aaP.mpr hx (R.own h).lt
theorem Rep.IW (R:Rep M p) {y:Addr} (hx:p.h.objs.size<=y):lN M p y:=⟨R.new hx,aaw R.sz hx,λo e=>absurd (Heap.lt_size e) (aaP.mpr hx)⟩
theorem Rep.Ip (R:Rep M p) (ha:a < p.n) (hn:(p.H.g a).qE=false) (hy:x=p.W.ρ a\/x=p.W.δ a):M.h0.objs.size<=x:=hy.elim (λe=>e▸(R.lo a ha hn).1) λe=>e▸(R.lo a ha hn).2
theorem After.lift (a:After M B p p'):fM p p':=⟨a.le,a.ρ,a.tup⟩
theorem After.rel (a:After M B p p') {v:Value} {x:AV} (r:VR p v x):VR p' v x:=r.mono a.lift
theorem After.oQ (a:After M B p p') {v:List Value} {x:List AV} (r:L2 (VR p) v x):L2 (VR p') v x:=wX.mono a.lift r
theorem After.own (a:After M B p p') (hx:x < p.h.objs.size) (h:¬Own p x):¬Own p' x:=λt0=>aw t0 λb hb e=>by
 by_cases q:b < p.n
 .rw [a.ρ b q,a.δ b q] at e
  exact h ⟨b,q,e⟩
 .have n:=a.new b (aaP.mp q) hb
  exact e.elim (λe=>aaP.mpr n.1 (e▸hx)) λe=>aaP.mpr n.2 (e▸hx)
theorem After.trans (a:After M B p p') (b:After M B p' Vd):After M B p Vd where
 le:=aaw a.le b.le
 ρ c hc:=(b.ρ c (aax hc a.le)).trans (a.ρ c hc)
 δ c hc:=(b.δ c (aax hc a.le)).trans (a.δ c hc)
 new c h1 h2:=by
  by_cases q:c < p'.n
  .rw [b.ρ c q,b.δ c q];exact a.new c h1 q
  .have n:=b.new c (aaP.mp q) h2
   exact ⟨aaw a.size n.1,aaw a.size n.2⟩
 keep x o e h1 h2:=b.keep x o (a.keep x o e h1 h2) (a.own (Heap.lt_size e) h1) h2
 size:=aaw a.size b.size
 same:=by rw [b.same,a.same]
 tup x o e h:=b.tup x o (a.tup x o e h) h
 lW c hc:=by
  have t1:=a.lW c hc
  have t2:=b.lW c (aax hc a.le)
  replace t2:=(a.ρ c hc)▸t2
  refine ⟨aaw t1.1 t2.1,λe o ho=>?_⟩
  have e1:p'.H.t c=p.H.t c:=Nat.le_antisymm (e▸t2.1) t1.1
  exact t2.2 (e.trans e1.symm) o (t1.2 e1 o ho)
 rep:=b.rep
theorem After.weaken (a:After M B p p') (h:∀x,B x->B' x):After M B' p p':=⟨a.le,a.ρ,a.δ,a.new,λx o e h1 h2=>a.keep x o e h1 λq=>h2 (h x q),a.size,a.same,a.tup,a.lW,a.rep⟩
theorem After.no (a:After M cY p p'):After M B p p':=a.weaken λzz q=>q.elim
theorem After.drop (a:After M B p p') (h:∀x,B x->B' x\/p.h.objs.size<=x):After M B' p p':=⟨a.le,a.ρ,a.δ,a.new,λx o e h1 h2=>a.keep x o e h1 λq=>(h x q).elim h2 λz=>aaP.mpr z (Heap.lt_size e),a.size,a.same,a.tup,a.lW,a.rep⟩
theorem After.gen (R:Rep M p) {h':Heap} {t:Nat} (hz:p.h.objs.size<=h'.objs.size) (hB:∀x,B x->lN M p x) (hk:∀x o,p.h.get? x=some o->¬B x->h'.get? x=some o):After M B p (p.at h' t):=
 have tk:dH p.h h':=λx o e q=>hk x o e λb=>(hB x b).tup o e q
 have ko:∀x,Own p x->∀o,p.h.get? x=some o->h'.get? x=some o:=λx w o e=>hk x o e λb=>(hB x b).own w
 ⟨aaF _,λzz zz=>rfl,λzz zz=>rfl,λzz h1 h2=>absurd h2 (aaP.mpr h1),λx o e zz n=>hk x o e n,hz,rfl,tk,λc hc=>⟨aaF _,λzz=>ko _ ⟨c,hc,.inl rfl⟩⟩,
  aaw R.sz hz,λx o e=>hk x o (R.base x o e) λb=>aaP.mpr (hB x b).hi (Heap.lt_size e),R.lo,R.inj,λc hc=>(R.obj c hc).mono (.grow tk) (ko _ ⟨c,hc,.inl rfl⟩) (ko _ ⟨c,hc,.inr rfl⟩)⟩
theorem After.grow (R:Rep M p) {h':Heap} {t:Nat} (g:dX p.h h'):After M B p (p.at h' t):=(After.gen (B:=cY) R g.2 (λzz q=>q.elim) λx o e zz=>g.1 x o e).no
theorem After.refl (R:Rep M p):After M B p p:=After.grow R ⟨λzz zz e=>e,aaF _⟩
theorem After.toks (R:Rep M p) (t:Nat):After M B p (p.at p.h t):=After.grow R ⟨λzz zz e=>e,aaF _⟩
theorem After.set (R:Rep M p) (ha:a < p.n) (hn:(p.H.g a).qE=false) {y:Addr} (hy:y=p.W.ρ a\/y=p.W.δ a) {h':Heap} {t:Nat} (hz:p.h.objs.size<=h'.objs.size) (hB:∀x,B x->lN M p x) (hk:∀x o,p.h.get? x=some o->x≠y->¬B x->h'.get? x=some o)
  (no:o.qE=false) (ok:∀q:Pt,q=⟨p.W,p.H.set a o,{p.s with heap:=h',toks:=t}⟩->fM p q->Cp M q (p.W.ρ a) (p.W.δ a) o):After M B p ⟨p.W,p.H.set a o,{p.s with heap:=h',toks:=t}⟩:=by
 have own:Own p y:=⟨a,ha,hy⟩
 have tk:dH p.h h':=λx ob e q=>hk x ob e (λz=>(R.own (z▸own:Own p x)).nt ob e q) λb=>(hB x b).tup ob e q
 have l:fM p ⟨p.W,p.H.set a o,{p.s with heap:=h',toks:=t}⟩:=⟨aaF _,λzz zz=>rfl,tk⟩
 have ne:∀b,b < p.n->b≠a->p.W.ρ b≠y/\p.W.δ b≠y:=λb hb q=>
  have n:=R.inj b a hb ha q
  hy.elim (λe=>e▸⟨n.1,λz=>(R.inj a b ha hb (abm q)).2.1 z.symm⟩) λe=>e▸⟨n.2.1,n.2.2⟩
 have pr:∀{b},b < p.n->¬B (p.W.ρ b)/\¬B (p.W.δ b):=λhb=>⟨λz=>(hB _ z).own ⟨_,hb,.inl rfl⟩,λz=>(hB _ z).own ⟨_,hb,.inr rfl⟩⟩
 refine ⟨aaF _,λzz zz=>rfl,λzz zz=>rfl,λzz h1 h2=>absurd h2 (aaP.mpr h1),λx ob e h1 h2=>hk x ob e (λz=>h1 (z▸own)) h2,hz,rfl,tk,λb hb=>?_,
  ⟨aaw R.sz hz,λx ob e=>hk x ob (R.base x ob e) (λz=>aaP.mpr (R.Ip ha hn hy) (z▸Heap.lt_size e)) λz=>aaP.mpr (hB x z).hi (Heap.lt_size e),λb hb q=>?_,R.inj,λb hb=>?_⟩⟩
 .by_cases q:b=a
  .have e:(p.H.set a o).t b=p.H.t b+1:=by show (bif _ then _ else _)=_;rw [q,hO];rfl
   exact ⟨e▸aba _,λz=>absurd (e.symm.trans z) (Nat.succ_ne_self _)⟩
  .exact ⟨aaS (DZ q).symm,λzz ob e=>hk _ ob e (ne b hb q).1 (pr hb).1⟩
 .by_cases z:b=a
  .exact z▸R.lo a ha hn
  .exact R.lo b hb ((d5 z (H:=p.H) (o:=o))▸q)
 .by_cases q:b=a
  .have:=ok _ rfl l
   rw [q]
   show Cp M _ _ _ ((p.H.set a o).g a)
   rw [bo];exact this
  .show Cp M _ _ _ ((p.H.set a o).g b)
   rw [d5 q]
   exact (R.obj b hb).mono l (λob e=>hk _ ob e (ne b hb q).1 (pr hb).1) λob e=>hk _ ob e (ne b hb q).2 (pr hb).2
theorem pY {W:WM} {n:Nat}:(W.put n x dx).ρ n=x:=by show (bif _ then _ else _)=_;rw [hO];rfl
theorem rS {W:WM} {n:Nat}:(W.put n x dx).δ n=dx:=by show (bif _ then _ else _)=_;rw [hO];rfl
theorem fL {W:WM} {n:Nat} (h:a < n):(W.put n x dx).ρ a=W.ρ a:=by show (bif _ then _ else _)=_;rw [oN (aaJ h)];rfl
theorem gK {W:WM} {n:Nat} (h:a < n):(W.put n x dx).δ a=W.δ a:=by show (bif _ then _ else _)=_;rw [oN (aaJ h)];rfl
theorem fM.tell:fM p (p.tell x dx o):=⟨aba _,λzz h=>fL h,λzz zz e zz=>e⟩
theorem After.tell (a:After M B p p') (hx:p.h.objs.size<=x) (hd:p.h.objs.size<=dx) (nx:¬Own p' x) (nd:¬Own p' dx) (h0:M.h0.objs.size<=p.h.objs.size) (ok:Cp M (p'.tell x dx o) x dx o):After M B p (p'.tell x dx o)/\VR (p'.tell x dx o) (.ref x) (.ref p'.n):=by
 have R:=a.rep
 have old:∀{c},c < p'.n+1->c≠p'.n->c < p'.n:=λh n=>Nat.lt_of_le_of_ne (Nat.le_of_lt_succ h) n
 refine ⟨⟨abx a.le,λc hc=>(fL (aax hc a.le)).trans (a.ρ c hc),λc hc=>(gK (aax hc a.le)).trans (a.δ c hc),λc h1 h2=>?_,a.keep,a.size,a.same,a.tup,λc hc=>a.lW c hc,⟨R.sz,R.base,λc hc q=>?_,λc d hc Gl n=>?_,λc hc=>?_⟩⟩,?_,aaC _⟩
 .by_cases q:c=p'.n
  .rw [q];show _<=(p'.W.put p'.n x dx).ρ _/\_<=(p'.W.put p'.n x dx).δ _;rw [pY,rS];exact ⟨hx,hd⟩
  .show _<=(p'.W.put p'.n x dx).ρ _/\_<=(p'.W.put p'.n x dx).δ _;rw [fL (old h2 q),gK (old h2 q)];exact a.new c h1 (old h2 q)
 .by_cases z:c=p'.n
  .rw [z];show _<=(p'.W.put p'.n x dx).ρ _/\_<=(p'.W.put p'.n x dx).δ _;rw [pY,rS];exact ⟨aaw h0 hx,aaw h0 hd⟩
  .show _<=(p'.W.put p'.n x dx).ρ _/\_<=(p'.W.put p'.n x dx).δ _;rw [fL (old hc z),gK (old hc z)];exact R.lo c (old hc z) ((m9 (old hc z) (o:=o))▸q)
 .show (p'.W.put p'.n x dx).ρ _≠(p'.W.put p'.n x dx).ρ _/\(p'.W.put p'.n x dx).ρ _≠(p'.W.put p'.n x dx).δ _/\(p'.W.put p'.n x dx).δ _≠(p'.W.put p'.n x dx).δ _
  by_cases q:c=p'.n
  .have hd2:=old Gl λz=>n (q.trans z.symm)
   rw [q,pY,rS,fL hd2,gK hd2]
   exact ⟨λe=>nx ⟨d,hd2,.inl e⟩,λe=>nx ⟨d,hd2,.inr e⟩,λe=>nd ⟨d,hd2,.inr e⟩⟩
  .have Gi:=old hc q
   by_cases q':d=p'.n
   .rw [q',pY,rS,fL Gi,gK Gi]
    exact ⟨λe=>nx ⟨c,Gi,.inl e.symm⟩,λe=>nd ⟨c,Gi,.inl e.symm⟩,λe=>nd ⟨c,Gi,.inr e.symm⟩⟩
   .rw [fL Gi,gK Gi,fL (old Gl q'),gK (old Gl q')]
    exact R.inj c d Gi (old Gl q') n
 .show Cp M _ ((p'.W.put p'.n x dx).ρ c) ((p'.W.put p'.n x dx).δ c) ((p'.H.push o).g c)
  by_cases q:c=p'.n
  .rw [q,pY,rS]
   rw [dw];exact ok
  .rw [fL (old hc q),gK (old hc q),m9 (old hc q)]
   exact (R.obj c (old hc q)).mono .tell (λzz e=>e) λzz e=>e
 .show Value.ref x= .ref ((p'.W.put p'.n x dx).ρ p'.n)
  rw [pY]
end
noncomputable def toS (y:Str):String:=String.ofList (y.cps.toList.map Char.ofNat)
noncomputable def OD (y:Str):Option String:=bif y.cps.toList.all (Nat.blt · 128) then some (toS y) else none
noncomputable def fD (y:Str):Bool:=match y.cps.toList with
 | a::r=>(match r with
  | b::_=>!(Nat.beq a 46||(Nat.beq a 95&&Nat.beq b 95))
  | []=>true)
 | []=>true
noncomputable def OK:Option NameKind->Bool
 | some k=>(match k with
  | .local | .cell | .free=>true
  | _=>false)
 | .none=>false
noncomputable def z4:Option NameKind->Bool
 | some k=>(match k with
  | .local | .cell=>true
  | _=>false)
 | .none=>false
noncomputable def si (sc:Scope) (y:Str):Option String:=bif fD y&&OK (sc.names.lookup y) then OD y else none
noncomputable def yb (sc:Scope) (y:Str):Option String:=bif fD y&&z4 (sc.names.lookup y) then OD y else none
noncomputable def aU (sc:Scope) (y:Str):Bool:=fD y&&sc.names.lookup y==some .globalImplicit
noncomputable def iZ (ks:List String) (y:Str):Option String:=ks.find? λs=>y==Str.ofString s
noncomputable def pU:List String:=["kind_of","told_plain","told","told_objects","parts_of","references_in","renumbered","home_of","is_node","kids_of","met","spots","fields_of","page_spots","pages",
 "is_there","plain_trailer","walk","reached","unreached","barred_numbers","bare_page","assembled","merged","split_pages","cut_into",
 "_law_pen","_law_draw","_law_fill","_law_page","_law_node","_law_document","_law_unfolded","_law_page_fits","_law_made_fits","_law_raises"]
noncomputable def oT:List String:=["len","abs","min","max","sorted","tuple","list","dict","bytes","repr"]
noncomputable def gQ:List String:=["bool","int","list","dict","Decimal","Name","String","Stream","Reference"]
noncomputable def Ji:List String:=["MOST_HOPS","INHERITED","PLACES_OF_FILES"]
noncomputable def NW:List String:=["append","extend","pop","get","pair","fetch","put","add","numbers","root","told","reserve","take_needed","lay"]
noncomputable def fW:List String:=["text","octets","is_hex","head","number","generation","table","trailer","reference","fields","above","inherited","is_page","shelf","made","barred","top","places"]
noncomputable def lQ {α:Type}:List α->Option α
 | a::r=>(match r with
  | []=>some a
  | _::_=>.none)
 | []=>.none
noncomputable def Rq {α:Type}:List α->Option (α × α)
 | a::r=>(lQ r).map λb=>(a,b)
 | []=>.none
noncomputable def xh {α:Type}:List α->Bool
 | []=>true
 | _::_=>false
noncomputable def be:Expr->Bool
 | .Starred _ _ | .Slice _ _ _ _ | .Set _ _ _=>false
 | _=>true
noncomputable def iB:Expr->Bool
 | .Set _ _ _=>false
 | _=>true
noncomputable def kS:Expr->Bool
 | .Name _ _=>true
 | _=>false
noncomputable def dF:Expr->Bool
 | .ListComp _ _ _ _ | .SetComp _ _ _ _ | .DictComp _ _ _ _ _=>false
 | _=>true
noncomputable def yP:Expr->Bool
 | .Call _ _ _ _=>true
 | _=>false
noncomputable def im:Expr->Bool
 | .Tuple _ _ _=>false
 | _=>true
noncomputable def PW:Const->Bool
 | .none=>true
 | _=>false
noncomputable def tq:Expr->Bool
 | .Constant v _ _=>PW v
 | _=>false
noncomputable def TW:Const->Option Int
 | .int i=>some i
 | _=>.none
noncomputable def OR:Expr->Option Int
 | .Constant v _ _=>TW v
 | _=>.none
noncomputable def Ao:Expr->Option Str
 | .Name y _=>some y
 | _=>.none
noncomputable def UN:Const->Option Str
 | .str i=>some i
 | _=>.none
noncomputable def O0:Expr->Option Str
 | .Constant v _ _=>UN v
 | _=>.none
noncomputable def jk:Expr->Option (Str × List Expr)
 | .Call f as kw _=>bif xh kw then (Ao f).map λg=>(g,as) else .none
 | _=>.none
noncomputable def cj (e:Expr):Bool:=match jk e with
 | some _=>false
 | .none=>true
noncomputable def nT:List (Option Expr)->Option (List String)
 | []=>some []
 | e::r=>e.bind λe=>(O0 e).bind λy=>(OD y).bind λx=>(nT r).map (x::·)
noncomputable def jA (sc:Scope):List Expr->Option (List String)
 | []=>some []
 | e::r=>(Ao e).bind λy=>(yb sc y).bind λx=>(jA sc r).map (x::·)
noncomputable def EO (sc:Scope):Expr->Option Tg
 | .Name y _=>(yb sc y).map .nm
 | .Tuple es _ _=>(jA sc es).map .tup
 | _=>.none
noncomputable def gN:Tg->List String
 | .nm x=>[x]
 | .tup xs=>xs
noncomputable def Nz:Option NameKind->Bool
 | some k=>(match k with
  | .cell | .free=>true
  | _=>false)
 | .none=>false
noncomputable def y5 (sc aZ:Scope) (tg:Tg) (p:Str × NameKind):Bool:=aZ.names.lookup p.1==some p.2&&match p.2 with
 | .local=>p.1==(".0":Str)||(gN tg).any λx=>p.1==Str.ofString x
 | .free=>Nz (sc.names.lookup p.1)
 | .globalImplicit=>true
 | _=>false
noncomputable def EU (sc aZ:Scope) (tg:Tg):Bool:=aZ.kind== .function&&aZ.names.all (y5 sc aZ tg)
noncomputable def LE:Operator->Option xo
 | .Add=>some .add
 | .Sub=>some .sub
 | .Mult=>some .mul
 | .FloorDiv=>some .fdiv
 | .Mod=>some .mod
 | _=>.none
noncomputable def nX:CmpOp->Option k8
 | .Eq=>some .eq
 | .NotEq=>some .ne
 | .Lt=>some .lt
 | .LtE=>some .le
 | .Gt=>some .gt
 | .In=>some .isIn
 | .NotIn=>some .cK
 | _=>.none
noncomputable def wC:List X->XL
 | []=>XL.nil
 | x::r=>XL.cons x (wC r)
noncomputable abbrev CX:=Bool->Scope->Expr->Option X
section
variable (c:CX)
noncomputable def xx (sc:Scope):List Expr->Option (List X)
 | []=>some []
 | e::r=>(c false sc e).bind λx=>(xx sc r).map (x::·)
noncomputable def dU (sc:Scope) (es:List Expr):Option XL:=(xx c sc es).map wC
noncomputable def Jr:Const->Option X
 | .none=>some X.none
 | .bool b=>some (X.bool b)
 | .int i=>some (X.int i)
 | .str t=>(OD t).map X.str
 | .bytes b=>some (X.bytes b)
 | _=>.none
noncomputable def pS (sc:Scope) (op:CmpOp) (r:Expr) (a:X):Option X:=match op with
 | .Is=>bif tq r then some (X.isNone a) else .none
 | .IsNot=>bif tq r then some (X.bL a) else .none
 | _=>(nX op).bind λo=>(c false sc r).map (X.cmp o a)
noncomputable def ET (sc:Scope) (a:X) (lo hi:Option Expr):Option X:=match lo with
 | .none=>(match hi with
  | some u=>(c false sc u).map (X.yY a)
  | .none=>.none)
 | some u=>(match hi with
  | .none=>(c false sc u).map (X.Aw a)
  | some _=>.none)
noncomputable def z6 (sc:Scope) (v:Expr) (a:X) (s:Expr):Option X:=match s with
 | .Slice lo hi st _=>bif kS v&&st.isNone then ET c sc a lo hi else .none
 | _=>(c false sc s).map (X.idx a)
noncomputable def oI (sc:Scope) (p:String) (as:List Expr):Option X:=match (lQ as).bind jk with
 | some q=>(match p=="list"&&aU sc "range"&&(q.1==("range":Str)) with
  | true=>(dU c sc q.2).map (X.prim "listrange")
  | false=>(dU c sc as).map (X.prim p))
 | .none=>(dU c sc as).map (X.prim p)
noncomputable def De (sc:Scope) (g:Str) (as:List Expr):Option X:=match iZ pU g with
 | some f=>(dU c sc as).map (X.call f)
 | .none=>(match iZ insts g with
  | some f=>(dU c sc as).map (X.new f)
  | .none=>(match iZ oT g with
   | some p=>oI c sc p as
   | .none=>bif g==("isinstance":Str) then (Rq as).bind λp=>(Ao p.2).bind λd=>(iZ gQ d).bind λk=>bif aU sc d then (c false sc p.1).map (X.isin · k) else .none else .none))
noncomputable def Qc (sc:Scope) (as:List Expr):Option Expr:=(lQ as).bind λe=>(jk e).bind λq=>bif q.1==("reversed":Str)&&aU sc q.1 then lQ q.2 else .none
noncomputable def J9 (sc:Scope) (a:X) (n:Str) (as:List Expr):Option X:=match Qc sc as with
 | some v=>bif n==("extend":Str) then (c false sc v).map (X.yd a) else .none
 | .none=>(iZ NW n).bind λm=>(dU c sc as).map (X.ay a m)
noncomputable def uj (sc:Scope) (f:Expr) (as:List Expr) (p:Pos):Option X:=match f with
 | .Name g _=>bif aU sc g then De c sc g as else .none
 | .Attribute o n ap=>bif cj o&&Nat.beq ap.endLine p.line&&Nat.ble as.length 10 then (c false sc o).bind λa=>J9 c sc a n as else .none
 | _=>.none
noncomputable def Mh (sc:Scope) (it:Expr):Option (IK × XL):=bif iB it then (match jk it with
 | some q=>(match aU sc q.1,q.1==("range":Str),q.1==("reversed":Str) with
  | true,true,_=>(lQ q.2).bind λe=>(c false sc e).map λx=>(.aE,XL.o x)
  | true,false,true=>(lQ q.2).bind λe=>(c false sc e).map λx=>(.rev,XL.o x)
  | true,false,false=>(c false sc it).map λx=>(.plain,XL.o x)
  | false,_,_=>.none)
 | .none=>(c false sc it).map λx=>(.plain,XL.o x)) else .none
noncomputable def Qb (sc:Scope):List Expr->Option (aj->PC)
 | []=>some X.yes
 | e::r=>(match r with
  | []=>(c true sc e).map (X.bM · X.yes)
  | _::_=>.none)
noncomputable def Dc (sc aZ:Scope) (e:Expr) (g:Comprehension):Option X:=(EO aZ g.target).bind λtg=>bif g.is_async==0&&EU sc aZ tg then
 (Mh c sc g.iter).bind λq=>(c false aZ e).bind λx=>(Qb c aZ g.ifs).map λfs=>X.aC x tg q.1 q.2 fs else .none
noncomputable def vp (sc:Scope) (e:Expr):Option X:=match e with
 | .Constant v _ _=>Jr v
 | .Name y _=>(match si sc y with
  | some x=>some (X.loc x)
  | .none=>bif aU sc y then (iZ Ji y).map X.glob else .none)
 | .UnaryOp op a _=>(match op with
  | .Not=>(c false sc a).map X.not
  | .USub=>(OR a).map X.neg
  | _=>.none)
 | .Tuple es _ _=>(dU c sc es).map X.tup
 | .List es _=>(dU c sc es).map X.list
 | .Dict ks vs _=>bif Nat.beq ks.length vs.length&&Nat.ble ks.length 15 then (nT ks).bind λks=>(dU c sc vs).map (X.dict ks) else .none
 | .BinOp l op r _=>(LE op).bind λo=>(c false sc l).bind λa=>(c false sc r).map (X.bin o a)
 | .Compare l ops rs _=>(lQ ops).bind λop=>(lQ rs).bind λr=>(c false sc l).bind λa=>pS c sc op r a
 | .BoolOp op es _=>(Rq es).bind λp=>(c false sc p.1).bind λa=>(c false sc p.2).map (match op with
  | .And=>X.and a
  | .Or=>X.or a)
 | .IfExp t a b _=>(c true sc t).bind λx=>(c false sc a).bind λy=>(c false sc b).map (X.ite x y)
 | .Attribute v m _=>bif cj v then (iZ fW m).bind λn=>(c false sc v).map (X.fld · n) else .none
 | .Subscript v s _=>(c false sc v).bind λa=>z6 c sc v a s
 | .Call f as kw p=>bif xh kw then uj c sc f as p else .none
 | .ListComp e gs aZ _=>(lQ gs).bind λg=>Dc c sc aZ e g
 | _=>.none
noncomputable def Jx (sc:Scope) (e:Expr):Option X:=match e with
 | .UnaryOp op a _=>(match op with
  | .Not=>(c true sc a).map X.not
  | _=>.none)
 | .Compare l ops rs _=>(match ops with
  | op::q=>(c false sc l).bind λa=>(match q with
   | []=>(lQ rs).bind λr=>pS c sc op r a
   | o2::q=>bif xh q then (Rq rs).bind λr=>(nX op).bind λo=>(nX o2).bind λo2=>(c false sc r.1).bind λx=>(c false sc r.2).map (X.GX o o2 a x) else .none)
  | []=>.none)
 | .BoolOp op es _=>(match es with
  | e::r=>(c true sc e).bind λa=>(match r with
   | f::r=>(c true sc f).bind λb=>(match r with
    | []=>some (match op with
     | .And=>X.and a b
     | .Or=>X.or a b)
    | g::r=>(match op with
     | .And=>.none
     | .Or=>bif xh r then (c true sc g).map (X.or3 a b) else .none))
   | []=>.none)
  | []=>.none)
 | .IfExp _ _ _ _=>.none
 | _=>vp c sc e
noncomputable def Qw (t:Bool) (sc:Scope) (e:Expr):Option X:=bif be e then (match t with
 | true=>Jx c sc e
 | false=>vp c sc e) else .none
noncomputable def Ex (sc:Scope) (t v:Expr):Option S:=match t with
 | .Name y _=>(yb sc y).bind λx=>(c false sc v).map (S.set x)
 | .Attribute o m _=>bif dF v&&cj o then (iZ fW m).bind λn=>(c false sc o).bind λa=>(c false sc v).map (S.dQ a n) else .none
 | .Subscript o i _=>bif dF v then (c false sc o).bind λa=>(c false sc i).bind λb=>(c false sc v).map (S.b3 a b) else .none
 | .Tuple ts _ _=>bif dF v&&im v then (jA sc ts).bind λxs=>(c false sc v).map (S.bR xs) else .none
 | _=>.none
noncomputable def mv (b:Scope->List Stmt->Option SL) (sc:Scope) (s:Stmt):Option S:=match s with
 | .Assign ts v _=>(lQ ts).bind λt=>Ex c sc t v
 | .Expr v _=>bif yP v then (c false sc v).map S.expr else .none
 | .If t p q _=>(c true sc t).bind λx=>(b sc p).bind λa=>(b sc q).map (S.bA x a)
 | .While t p q _=>bif xh q then (c true sc t).bind λx=>(b sc p).map (S.iq x) else .none
 | .For t it p q _=>bif xh q then (EO sc t).bind λtg=>(Mh c sc it).bind λz=>(b sc p).map (S.bX tg z.1 z.2) else .none
 | .Return v _=>v.bind λv=>(c false sc v).map S.ret
 | .Continue _=>some S.cont
 | .Break _=>some S.brk
 | .Raise _ _ _=>some (S.raise "" X.none)
 | _=>.none
noncomputable def Nx (b:Scope->List Stmt->Option SL) (sc:Scope) (l:List Stmt):Option SL:=match l with
 | []=>some SL.nil
 | s::r=>(mv c b sc s).bind λx=>(b sc r).map (SL.cons x)
end
noncomputable def comp (n:Nat):CX:=Nat.rec (λzz zz zz=>.none) (λzz c=>Qw c) n
noncomputable def dy (n:Nat):Scope->List Stmt->Option SL:=Nat.rec (λzz zz=>.none) (λn b=>Nx (comp n) b) n
noncomputable def FZ:List (String × (String × String)):=[("Name.__init__",("Name","__init__")),("Stream.__init__",("Stream","__init__")),("Reference.__init__",("Reference","__init__")),("Reference.pair",("Reference","pair")),
 ("Lookup.__init__",("Shelf","__init__")),("Lookup.fetch",("Shelf","fetch")),("Lookup.get",("Shelf","get")),("Shelf.put",("Shelf","put")),("Shelf.add",("Shelf","add")),("Shelf.numbers",("Shelf","numbers")),("Shelf.root",("Shelf","root")),("Shelf.told",("Shelf","told")),
 ("Page.__init__",("Page","__init__")),("Spot.__init__",("Spot","__init__")),("Collector.__init__",("Collector","__init__")),("Collector.reserve",("Collector","reserve")),("Collector.take_needed",("Collector","take_needed")),("Collector.lay",("Collector","lay"))]
noncomputable def fa (K:Frag) (key:String):Option Addr:=match FZ.lookup key with
 | some q=>(b9 K q.1).bind λC=>Dk (findIn K (.ref C) (Str.ofString q.2))
 | .none=>b9 K key
noncomputable def VS:Data->Option FuncData
 | .func fd=>some fd
 | _=>.none
noncomputable def QG (K:Frag) (a:Addr):Option FuncData:=(K.lookup a).bind λo=>VS o.data
noncomputable def x6:FuncBody->Option (List Stmt)
 | .stmts b=>some b
 | _=>.none
noncomputable def tx (K:Frag) (key:String):Option (FuncData × List Stmt):=(fa K key).bind λa=>(QG K a).bind λfd=>(x6 fd.body).map λb=>(fd,b)
noncomputable def Fb:Value->Bool
 | .none=>true
 | _=>false
noncomputable def LL:Data->Option (List Value)
 | .seq vs _=>some vs.toList
 | _=>.none
noncomputable def Fm (K:Frag) (v:Value):Option (List Value):=match v with
 | .ref t=>(K.lookup t).bind λo=>LL o.data
 | _=>.none
noncomputable def n8 (K:Frag) (key:String) (v:Value):Bool:=match key=="Lookup.__init__" with
 | true=>(Fm K v).any λl=>l.all Fb&&Nat.beq l.length 2
 | false=>Fb v
noncomputable def CG (K:Frag) (key:String) (ps:List String) (fd:FuncData):Bool:=
 fd.globals==mainGlobals&&fd.closure.isEmpty&&fd.builtins==builtinsNs&&fd.scope.kind== .function&& !fd.scope.isGenerator&& !fd.scope.isCoroutine&&codeIn K fd.code fd.qualname&&
 fd.params.posonlyargs.isEmpty&&fd.params.args.map (·.arg)==ps.map Str.ofString&&fd.params.vararg.isNone&&fd.params.kwonlyargs.isEmpty&&fd.params.kwarg.isNone&&
 decide (ps.map Str.ofString).Nodup&&(ps.all λp=>z4 (fd.scope.names.lookup (Str.ofString p)))&&fd.scope.names.all (λx=>x.2 != .free)&&n8 K key fd.defaults
noncomputable def Qp (K:Frag) (key:String) (ps:List String):Bool:=(tx K key).any λq=>CG K key ps q.1
structure JY (K:Frag) (C:Addr):Prop where
 makes:makesIn K C=true
 get:plainGet K C ("x":Str)=true
 dict:hasDictIn K C=true
 over:plainOver K C=true
 keep:keepIn K (.ref C)=true
 cls:findIn K (.ref C) "__class__"=some (some (.builtin "object.__class__"))
 mro:mroIn K C (.type "object")=some true
 set:findIn K (.ref C) "__setattr__"=some (some (.builtin "object.__setattr__"))
 fld:(fW.all λf=>findIn K (.ref C) (Str.ofString f)==some none&&takerIn K C (Str.ofString f)==some none)=true
noncomputable def Lw (K:Frag) (C:Addr) (q m:String):Bool:=(fa K q).any λf=>findIn K (.ref C) (Str.ofString m)==some (some (.ref f))&&(isFn K (.ref f)&&keepIn K (.ref f))
noncomputable def R0:List String:=["bool","int","list","dict"]
noncomputable def td (K:Frag) (c:String):Option Value:=bif R0.contains c then some (.type c) else (b9 K c).map .ref
noncomputable def Rv (t c:String):Bool:=(t=="bool"&&(c=="bool"||c=="int"))||((t=="int"||t=="list"||t=="dict")&&c==t)
noncomputable def DJ:List String:=["NoneType","bool","int","str","bytes","tuple","list","dict"]
noncomputable def Eb:List Value->List AV->Bool
 | [],b=>(match b with
  | []=>true
  | _::_=>false)
 | a::r,b=>(match a,b with
  | .str s _,.str t::xs=>s==Str.ofString t&&Eb r xs
  | _,_=>false)
noncomputable def yt (K:Frag) (x:String) (v:AV):Bool:=match nsIn K mainGlobals (Str.ofString x) with
 | some (some u)=>(match v with
  | .int i=>(match u with
   | .int j _=>decide (i=j)
   | _=>false)
  | .tup xs=>(match u with
   | .ref a=>(K.lookup a).any λo=>o.cls== .type "tuple"&&(LL o.data).any λvs=>Eb vs xs
   | _=>false)
  | _=>false)
 | _=>false
noncomputable def lF:List String:=["len","abs","min","max","sorted","tuple","list","dict","bytes","repr","range","reversed","isinstance","bool","int"]
noncomputable def pM (K:Frag):Option SL:=(tx K "law").bind λq=>dy 99 q.1.scope (q.2.take 16)
structure WI (K:Frag):Prop where
 fns:(eU.all λx=>Qp K x.1 x.2.1)=true
 JM:eU.map (λx=>(tx K x.1).bind λq=>dy 99 q.1.scope q.2)=eU.map λx=>some x.2.2
 front:pM K=some Hk
 cls:∀c C,ca K c=some C->JY K C
 MG:(Fi.all λx=>(b9 K x.1).any λC=>Lw K C x.2 "__init__")=true
 ay:(aa.all λx=>(b9 K x.1.1).any λC=>Lw K C x.2 x.1.2)=true
 bn:(lF.all λb=>nsIn K mainGlobals (Str.ofString b)==some none)=true
 told:b9 K "told_objects"=b9 K "told"
 Pw:(DJ.all λt=>gQ.all λc=>(td K c).any λcv=>kitOne K (.type t) cv==some (Rv t c))=true
 qd:(insts.all λd=>gQ.all λc=>(b9 K d).any λD=>(td K c).any λcv=>kitOne K (.ref D) cv==some (xT d c))=true
 Iq:specialIn K (.builtin "object.__class__") "__get__"=some (some (.builtin "getset_descriptor.__get__"))
 takes:takesIn K (.builtin "object.__class__")=some true
 fk:(pU.all λf=>(b9 K f).any λa=>keepIn K (.ref a)&&isFn K (.ref a))=true
 zS:(Ht.all λx=>yt K x.1 x.2)=true
structure Wd (M:Mo):Prop where
 X:M.K.In M.h0
 top:∃p loose mg mb,TopRead p loose mg mb M.h0
 ok:WI M.K
structure GU (k:Nat) (A:Around):Prop where
 hd:A.handled=none
 guards:A.guards=some []
 depth:A.depth+4*k<=802
 units:A.units+40*k<=4220
structure Cx (k:Nat) (A:Around):Prop where
 hd:A.handled=none
 guards:A.guards=some []
 depth:A.depth+4*k<=800
 units:A.units+40*k<=4200
theorem Cx.call {k:Nat} {A:Around} (c:Cx k A):GU k A:=⟨c.hd,c.guards,aaw c.depth (by decide),aaw c.units (by decide)⟩
theorem Cx.room {k:Nat} {A:Around} (c:Cx k A):A.units+102 < cLine:=aaz (abb (aaw (aaM _ _) c.units) 102) (by rw [cLine_is];decide)
theorem Cx.um {k:Nat} {A:Around} (c:Cx k A):A.units+100 < cLine:=aaz (abj (by decide) _) c.room
theorem Cx.rU {k:Nat} {A:Around} (c:Cx k A):A.units < cLine:=aaz (aaM _ _) c.room
noncomputable abbrev bK:Value->Shared->Prop:=λzz zz=>False
noncomputable abbrev z9 (M:Mo) (p:Pt) (Q:KV) (T:Value->Shared->Prop):Prop:=∀p' v av,Q av p'.H->VR p' v av->After M cY p p'->T v p'.s
noncomputable abbrev Rl (M:Mo) (p:Pt) (Q:KL) (T:List Value->Shared->Prop):Prop:=∀p' vs bF,Q bF p'.H->L2 (VR p') vs bF->After M cY p p'->T vs p'.s
noncomputable def Ev (M:Mo) (A:Around) (p:Pt) (t:Sem Value) (Q:KV):Prop:=∀T,z9 M p Q T->wpAny M.m A t T bK p.s
noncomputable def X4 (M:Mo) (A:Around) (p:Pt) (t:Sem (List Value)) (Q:KL):Prop:=∀T,Rl M p Q T->wpAny M.m A t T bK p.s
noncomputable def FT (P:Value->Shared->Prop):Result->Shared->Prop
 | .ok r,s'=>(match r with
  | .ret v=>P v s'
  | _=>False)
 | _,_=>False
noncomputable def pJ (M:Mo) (key:String) (k:Nat) (as:List AV) (H:HP) (Q:KV):Prop:=
 ∀a,fa M.K key=some a->∀(A:Around) (W:WM) (s:Shared) (vs:List Value),GU k A->Rep M ⟨W,H,s⟩->L2 (VR ⟨W,H,s⟩) vs as->∀T,z9 M ⟨W,H,s⟩ Q T->codeAny M.m A (.call (.ref a) ⟨vs,[]⟩) (FT T) s
noncomputable def JS (as:List AV) (H:HP) (Q:KV):Prop:=(as=[vA]/\Q (.str tA) H)\/(as=[vB]/\Q (.str tB) H)
noncomputable def Γc (M:Mo) (k:Nat):aj:=λkey as H Q=>pJ M key k as H Q/\(key="repr"->JS as H Q)
structure aI (M:Mo) (p:Pt) (sc:Scope) (env:Env) (loc:Loc):Prop where
 fn:env.scope.kind= .function
 gl:env.globals=mainGlobals
 bi:env.builtins=builtinsNs
 L3:∀x,sc.names.lookup x=some .local->env.kindOf x=some .local
 zL:∀x,sc.names.lookup x=some .cell->env.kindOf x=some .cell
 EQ:∀x,sc.names.lookup x=some .free->env.kindOf x=some .cell\/env.kindOf x=some .free
 FP:∀x,sc.names.lookup x=some .globalImplicit->env.kindOf x=some .globalImplicit
 ns:∃m,p.h.Ns env.locals m/\∀x,loc x≠ .unset->Str.ofString x≠(".0":Str)->env.kindOf (Str.ofString x)=some .local->∃v,m (Str.ofString x)=some v/\VR p v (loc x)
 mU:¬Own p env.locals/\M.h0.objs.size<=env.locals
 cells:∀x c,env.cells.lookup x=some c->(∃ov,p.h.IsCell c ov)/\¬Own p c/\M.h0.objs.size<=c
 apart:∀x y c,env.cells.lookup x=some c->env.cells.lookup y=some c->x=y
 mV:∀x,loc x≠ .unset->(env.kindOf (Str.ofString x)=some .cell\/env.kindOf (Str.ofString x)=some .free)->∃c v,env.cells.lookup (Str.ofString x)=some c/\p.h.IsCell c (some v)/\VR p v (loc x)
 KM:∀x,env.kindOf x=some .cell\/env.kindOf x=some .free->∃c,env.cells.lookup x=some c
noncomputable def fQ (sc:Scope) (env:Env):Addr->Prop:=λx=>x=env.locals\/∃y,sc.names.lookup y=some .cell/\env.cells.lookup y=some x
structure ng (M:Mo) (k:Nat) (A:Around) (p:Pt) (sc:Scope) (env:Env) (loc:Loc):Prop where
 cx:Cx k A
 eo:aI M p sc env loc
 rep:Rep M p
section
variable {M:Mo} {k:Nat} {A:Around} {p p':Pt} {sc:Scope} {env:Env} {loc:Loc} {Q:KV} {T:Value->Shared->Prop}
theorem yR {h h':Heap} {a:Addr} {m:Str->Option Value} (x:h.Ns a m) (k:∀o,h.get? a=some o->h'.get? a=some o):h'.Ns a m:=
 x.imp λo x=>x.imp λes x=>x.imp λep x=>⟨k o x.1,x.2⟩
theorem wd {h h':Heap} {a:Addr} {v:Option Value} (x:h.IsCell a v) (k:∀o,h.get? a=some o->h'.get? a=some o):h'.IsCell a v:=x.imp λo x=>⟨k o x.1,x.2⟩
theorem kX {h:Heap} {a:Addr} {v:Option Value} (x:h.IsCell a v):a < h.objs.size:=x.elim λo x=>Heap.lt_size x.1
theorem aI.jw {B:Addr->Prop} (e:aI M p sc env loc) (a:After M B p p') (nl:¬B env.locals) (nc:∀x c,env.cells.lookup x=some c->¬B c):aI M p' sc env loc:=by
 refine aw e.ns λm hm hv=>?_
 have kC:∀{x c},env.cells.lookup x=some c->∀o,p.h.get? c=some o->p'.h.get? c=some o:=λhc o q=>a.keep _ o q (e.cells _ _ hc).2.1 (nc _ _ hc)
 exact {e with
  ns:=⟨m,yR hm λo q=>a.keep _ o q e.mU.1 nl,λx h1 h0 h2=>(hv x h1 h0 h2).imp λv q=>⟨q.1,a.rel q.2⟩⟩
  mU:=⟨a.own hm.lt e.mU.1,e.mU.2⟩
  cells:=λx c hc=>have q:=e.cells x c hc;q.1.elim λov z=>⟨⟨ov,wd z (kC hc)⟩,a.own (kX z) q.2.1,q.2.2⟩
  mV:=λx h1 h2=>(e.mV x h1 h2).imp λc q=>q.imp λv q=>⟨q.1,wd q.2.1 (kC q.1),a.rel q.2.2⟩}
theorem aI.after (e:aI M p sc env loc) (a:After M cY p p'):aI M p' sc env loc:=e.jw a id λzz zz zz=>id
theorem aI.ltB (e:aI M p sc env loc) {x:Addr} (h:fQ sc env x):x < p.h.objs.size:=h.elim (λh=>h▸e.ns.elim λzz h=>h.1.lt) λh=>h.elim λy h=>(e.cells _ _ h.2).1.elim λzz h=>kX h
theorem ng.after (z:ng M k A p sc env loc) (a:After M cY p p'):ng M k A p' sc env loc:=⟨z.cx,z.eo.after a,a.rep⟩
theorem z9.step (hT:z9 M p Q T) (a:After M cY p p'):z9 M p' Q T:=λq v av h r b=>hT q v av h r (a.trans b)
theorem Rl.step {Q:KL} {T:List Value->Shared->Prop} (hT:Rl M p Q T) (a:After M cY p p'):Rl M p' Q T:=λq v av h r b=>hT q v av h r (a.trans b)
theorem Ev.cO {t:Sem Value} (h:Ev M A p' t Q) (a:After M cY p p') (hT:z9 M p Q T):wpAny M.m A t T bK p'.s:=h _ (hT.step a)
end
noncomputable def aA (M:Mo) (x:X) (sc:Scope) (e:Expr):Prop:=∀{k:Nat} {A:Around} {p:Pt} {env:Env} {loc:Loc} {Q:KV},ng M k A p sc env loc->x (Γc M k) loc p.H Q->Ev M A p (eval e env) Q
noncomputable def qP (M:Mo) (x:XL) (sc:Scope) (es:List Expr):Prop:=∀{k:Nat} {A:Around} {p:Pt} {env:Env} {loc:Loc} {Q:KL} (pos:Pos),ng M k A p sc env loc->x (Γc M k) loc p.H Q->X4 M A p (spliced (backTo pos (starEach es env))) Q
noncomputable def Tr (v:AV) (H:HP) (b:Bool):Prop:=∀F:KB,cR v H F->F b H
noncomputable def d7 (M:Mo) (x:X) (sc:Scope) (e:Expr):Prop:=∀{k:Nat} {A:Around} {p:Pt} {env:Env} {loc:Loc} {F:AV->KB},ng M k A p sc env loc->x (Γc M k) loc p.H (λv H=>cR v H (F v))->
 ∀T:Bool->Shared->Prop,(∀p' v b,Tr v p'.H b->F v b p'.H->After M cY p p'->T b p'.s)->wpAny M.m A (isTrue e env (eval e env)) T bK p.s
theorem bf {M:Model} {A:Around} {E:Value->Shared->Prop} {s:Shared} {α:Type} {t t':Sem α} {Q:α->Shared->Prop} (e:t=t') (h:wpAny M A t' Q E s):wpAny M A t Q E s:=e▸h
theorem mC {M:Model} {A:Around} {E:Value->Shared->Prop} {s:Shared} {α:Type} {c:Prop} [Decidable c] {a b:Sem α} {Q:α->Shared->Prop} (hc:¬c) (h:wpAny M A b Q E s):wpAny M A (if c then a else b) Q E s:=bf (if_neg hc) h
theorem DO {M:Model} {A:Around} {E:Value->Shared->Prop} {s:Shared} {α:Type} {c:Prop} [Decidable c] {a b:Sem α} {Q:α->Shared->Prop} (hc:c) (h:wpAny M A a Q E s):wpAny M A (if c then a else b) Q E s:=bf (if_pos hc) h
theorem px:∀l:List Nat,l.all (Nat.blt · 128)=true->(l.map Char.ofNat).map Char.toNat=l
 | [],_=>rfl
 | n::r,h=>by
  have h:=aaV.mp h
  have:=Nat.blt_eq.mp h.1
  rw [aa4,aa4,px r h.2]
  exact congrArg (· ::r) ((by decide+kernel:∀n:Fin 128,(Char.ofNat n.1).toNat=n.1) ⟨n,this⟩)
theorem bg {α:Type} {b:Bool} {o:Option α} {x:α} (h:(bif b then o else none)=some x):b=true/\o=some x:=by
 cases b
 .cases h
 .exact ⟨rfl,h⟩
theorem bb {α β:Type} {o:Option α} {f:α->Option β} {y:β} (h:o.bind f=some y):∃x,o=some x/\f x=some y:=Option.bind_eq_some_iff.mp h
theorem bm {α β:Type} {o:Option α} {f:α->β} {y:β} (h:o.map f=some y):∃x,o=some x/\f x=y:=Option.map_eq_some_iff.mp h
theorem kj {y:Str} {x:String} (h:OD y=some x):y=Str.ofString x:=by
 refine qj (bg h) λh1 h2=>?_
 rw [<-aay h2,Str.ofString_eq_toList,toS,String.toList_ofList,px _ h1]
theorem cD {ks:List String} {y:Str} {x:String} (h:iZ ks y=some x):y=Str.ofString x/\x∈ks:=⟨beq_iff_eq.mp (@List.find?_some _ (λs=>y==Str.ofString s) _ _ h),List.mem_of_find?_eq_some h⟩
theorem sU {y c:Str} (h:fD y=true) (hc:fD c=false):y≠c:=λe=>by rw [e,hc] at h;cases h
theorem g7 {y c:Str} (h:fD y=true) (hc:fD c=false):(y==c)=false:=beq_eq_false_iff_ne.mpr (sU h hc)
theorem nq:fD "__debug__"=false:=by decide+kernel
theorem vz:fD "__classdict__"=false:=by decide+kernel
theorem Mf:fD "__name__"=false:=by decide+kernel
theorem NA:fD ".0"=false:=by decide+kernel
theorem qV {sc:Scope} {y:Str} {x:String} (h:si sc y=some x):y=Str.ofString x/\fD y=true/\(sc.names.lookup y=some .local\/sc.names.lookup y=some .cell\/sc.names.lookup y=some .free):=by
 refine qj (bg h) λh1 h2=>?_
 have h1:=aaV.mp h1
 refine ⟨kj h2,h1.1,?_⟩
 have h3:=h1.2
 revert h3
 cases sc.names.lookup y with
 | none=>exact λh=>Bool.noConfusion h
 | some k=>cases k<;>first | exact λzz=>.inl rfl | exact λzz=>.inr (.inl rfl) | exact λzz=>.inr (.inr rfl) | exact λh=>Bool.noConfusion h
theorem B9 {sc:Scope} {y:Str} {x:String} (h:yb sc y=some x):y=Str.ofString x/\fD y=true/\(sc.names.lookup y=some .local\/sc.names.lookup y=some .cell):=by
 refine qj (bg h) λh1 h2=>?_
 have h1:=aaV.mp h1
 refine ⟨kj h2,h1.1,?_⟩
 have h3:=h1.2
 revert h3
 cases sc.names.lookup y with
 | none=>exact λh=>Bool.noConfusion h
 | some k=>cases k<;>first | exact λzz=>.inl rfl | exact λzz=>.inr rfl | exact λh=>Bool.noConfusion h
theorem jt {sc:Scope} {y:Str} (h:aU sc y=true):fD y=true/\sc.names.lookup y=some .globalImplicit:=(aaV.mp h).imp id beq_iff_eq.mp
theorem FX {v:AV} {H:HP} {Q:KV} (h:DP v H Q):v≠ .unset/\Q v H:=match v,h with
 | .none,h | .bool _,h | .int _,h | .str _,h | .bytes _,h | .tup _,h | .ref _,h=>⟨(nomatch ·),h⟩
theorem aG {v:AV} {F:Int->Prop} (h:jE v F):∃i,v= .int i/\F i:=match v,h with
 | .int i,h=>⟨i,rfl,h⟩
theorem z8 {v:AV} {F:String->Prop} (h:SW v F):∃i,v= .str i/\F i:=match v,h with
 | .str i,h=>⟨i,rfl,h⟩
theorem AE {v:AV} {F:List AV->Prop} (h:UY v F):∃i,v= .tup i/\F i:=match v,h with
 | .tup i,h=>⟨i,rfl,h⟩
theorem bJ {v:AV} {F:Nat->Prop} (h:uo v F):∃i,v= .ref i/\F i:=match v,h with
 | .ref i,h=>⟨i,rfl,h⟩
theorem bY {o:AO} {F:List AV->Prop} (h:y9 o F):∃xs,o= .list xs/\F xs:=match o,h with
 | .list xs,h=>⟨xs,rfl,h⟩
theorem sB {o:AO} {F:List (AV × AV)->Prop} (h:Uv o F):∃xs,o= .dict xs/\F xs:=match o,h with
 | .dict xs,h=>⟨xs,rfl,h⟩
theorem zK {o:AO} {F:String->List (String × AV)->Prop} (h:TA o F):∃c xs,o= .inst c xs/\F c xs:=match o,h with
 | .inst c xs,h=>(bI c xs ⟨rfl,h⟩)
theorem bE {α:Type} {o:Option α} {F:α->Prop} (h:opt o F):∃x,o=some x/\F x:=match o,h with
 | some x,h=>⟨x,rfl,h⟩
theorem eW {b:Bool} {P:Prop} (h:gd b P):b=true/\P:=match b,h with
 | true,h=>⟨rfl,h⟩
theorem ch {b:Bool} {F:Bool->Prop} (h:qc b F):F b:=(te b).mp h
theorem g9 {vs:List AV} {F:AV->Prop} (h:a1 vs F):∃v,vs=[v]/\F v:=match vs,h with
 | [v],h=>⟨v,rfl,h⟩
theorem Ee {vs:List AV} {F:AV->AV->Prop} (h:a2 vs F):∃u v,vs=[u,v]/\F u v:=match vs,h with
 | u::_,h=>(g9 h).elim λv h=>(bI u v ⟨congrArg (u::·) h.1,h.2⟩)
theorem cT {n:Nat} (h:n<=lim):n<=sizeLine:=aaw h (by decide)
theorem rX {n:Nat} (h:n<=lim):(n:Int) < 2 ^ 63:=Int.lt_of_le_of_lt (Int.ofNat_le.mpr h) (by decide)
theorem aT {e:Expr} (h:be e=true) (r:List Expr) (env:Env):starEach (e::r) env=(false,eval e env)::starEach r env:=by
 cases e<;>first | rfl | exact absurd h aaE
section
variable {M:Mo} {k:Nat} {A:Around} {p p':Pt} {sc:Scope} {env:Env} {loc:Loc} {Q:KV} {T:Value->Shared->Prop} {x y z:X} {e f g:Expr} {c:Nat} {q q':Pos}
theorem Ev.eq {t t':Sem Value} (e:t=t') (h:Ev M A p t' Q):Ev M A p t Q:=e▸h
theorem EK:aA M X.none sc (.Constant .none c q):=λz hq T hT=>wpAny_pure (hT _ _ .none hq rfl (.refl z.rep))
theorem F9 {b:Bool}:aA M (X.bool b) sc (.Constant (.bool b) c q):=λz hq T hT=>wpAny_pure (hT _ _ (.bool b) hq rfl (.refl z.rep))
theorem Hm {i:Int}:aA M (X.int i) sc (.Constant (.int i) c q):=λ{zz zz p zz zz zz} z hq T hT=>wpAny_mkInt (hT (p.at p.h _) _ (.int i) hq ⟨_,rfl⟩ (.toks z.rep _))
theorem Hp {t:String}:aA M (X.str t) sc (.Constant (.str (Str.ofString t)) c q):=λ{zz zz p zz zz zz} z hq T hT=>wpAny_mkText (hT (p.at p.h _) _ (.str t) hq ⟨_,rfl⟩ (.toks z.rep _))
theorem Cf {t:List UInt8}:aA M (X.bytes t) sc (.Constant (.bytes t) c q):=λ{zz zz p zz zz zz} z hq T hT=>wpAny_mkTextBytes (hT (p.at p.h _) _ (.bytes t) hq ⟨_,rfl⟩ (.toks z.rep _))
theorem IF {i:Int}:aA M (X.neg i) sc (.UnaryOp .USub (.Constant (.int i) c q) q'):=λ{zz zz p zz zz zz} z hq=>.eq (arm_eval_UnaryOp ..) λT hT=>wpAny_bind (wpAny_mkInt (wpAny_bind (wpAny_standAt (wpAny_holding (neg_int (hT (p.at p.h _) _ (.int (-i)) hq ⟨_,rfl⟩ (.toks z.rep _)))))))
theorem Ij (eo:aI M p sc env loc) {y:Str} {x:String} (h:si sc y=some x) (hu:loc x≠ .unset) (hT:∀v,VR p v (loc x)->T v p.s):wpAny M.m A (loadName env y) T bK p.s:=by
 refine OJ (qV h) λe0 hn hk=>?_;subst e0
 have cell:env.kindOf (Str.ofString x)=some .cell\/env.kindOf (Str.ofString x)=some .free->wpAny M.m A (loadName env (Str.ofString x)) T bK p.s:=λq=>
  aq (eo.mV x hu q) λc v z=>q.elim (λq=>wpAny_loadName_cell eo.fn q z.1 z.2.1 (hT v z.2.2)) λq=>wpAny_loadName_free eo.fn q z.1 z.2.1 (hT v z.2.2) (g7 hn vz)
 exact hk.elim (λhk=>eo.ns.elim λm hm=>(hm.2 x hu (sU hn NA) (eo.L3 _ hk)).elim λv z=>wpAny_loadName_local eo.fn (eo.L3 _ hk) hm.1 z.1 (hT v z.2)) λhk=>cell (hk.elim (λh=>.inl (eo.zL _ h)) (eo.EQ _))
end
section
variable {M:Mo} {k:Nat} {A:Around} {p p':Pt} {sc:Scope} {env:Env} {loc:Loc} {Q:KV} {T:Value->Shared->Prop} {x y z:X} {xs:XL} {e f g:Expr} {es:List Expr} {c:Nat} {q q':Pos}
theorem sD {n:Str} {x:String} (h:si sc n=some x):aA M (X.loc x) sc (.Name n q):=λ{zz zz p zz zz zz} z hq T hT=>
 have s:=FX hq
 wpAny_Name (Ij z.eo h s.1 λv r=>hT p v _ s.2 r (.refl z.rep)) (g7 (qV h).2.1 nq)
theorem eQ (W:Wd M) (eo:aI M p sc env loc) (R:Rep M p) {n:Str} (hg:aU sc n=true) {v:Value} (hv:nsIn M.K mainGlobals n=some (some v)) (h:T v p.s):wpAny M.m A (eval (.Name n q) env) T bK p.s:=
 have s:=jt hg
 bG W.top λzz zz mg zz t=>Name_function_global eo.fn (eo.FP _ s.2) (loadGlobal_global ((eo.gl)▸t.g.keeps R.base) (mg_of W.X t.g hv) h) (g7 s.1 nq)
theorem eG (W:Wd M) (eo:aI M p sc env loc) (R:Rep M p) {n:Str} (hg:aU sc n=true) {v:Value} (hm:nsIn M.K mainGlobals n=some none) (hv:bootBuiltins n=some v) (h:T v p.s):wpAny M.m A (eval (.Name n q) env) T bK p.s:=
 have s:=jt hg
 bG W.top λzz zz zz zz t=>Name_function_global eo.fn (eo.FP _ s.2)
  (loadGlobal_builtin (by rw [eo.gl];exact t.g.keeps R.base) (mg_none_of W.X t.g hm) (by rw [eo.bi];exact t.b.keeps R.base) ((t.builtins _ (sU s.1 Mf)).trans hv) h) (g7 s.1 nq)
theorem vw (W:Wd M) {b:String} (hb:b∈lF):nsIn M.K mainGlobals (Str.ofString b)=some none:=beq_iff_eq.mp (aaX.mp W.ok.bn b hb)
theorem lT:qP M XL.nil sc []:=λpos z hq T hT=>wpAny_pure (hT _ [] [] hq .nil (.refl z.rep))
theorem gD (hs:be e=true) (h1:aA M x sc e) (h2:qP M xs sc es):qP M (XL.cons x xs) sc (e::es):=by
 intro k A p env loc Q pos z hq T hT
 rw [aT hs]
 show wpAny _ _ (spliced ((false,eval e env)::backTo pos (starEach es env))) _ _ _
 exact wpAny_bind (h1 z hq _ λp1 v av q r a=>wpAny_bind (wpAny_pure (wpAny_bind (wpAny_holding (h2 pos (z.after a) q _ λp2 vs bF q2 r2 b=>wpAny_pure (hT p2 _ (av::bF) q2 (.cons (b.rel r) r2) (a.trans b)))))))
theorem aB {vs:Array Value} {xs:List AV} (r:L2 (VR p) vs.toList xs):vs.size=xs.length:=r.len
theorem w4 {vs:List Value} {xs:List AV} (R:Rep M p) (r:L2 (VR p) vs xs) (hz:xs.length<=lim) (hq:Q (.tup xs) p.H):Ev M A p (newTuple vs) Q:=λT hT=>
 have g:=dX.push p.h {cls:= .type "tuple",data:= .seq vs.toArray}
 wpAny_newObj_type (hT (p.at _ _) _ (.tup xs) hq (.qH ⟨_,Heap.get?_push_size _ rfl,rfl,_,rfl⟩ (wX.mono (.grow g.tup) r)) (.grow R g)) (by show vs.toArray.size<=sizeLine;rw [List.size_toArray,r.len];exact cT hz)
theorem g8 {vs:Array Value} {xs:List AV} {t:Nat} (R:Rep M p) (r:L2 (VR p) vs.toList xs) (hz:xs.length<=lim) (hq:Q (.ref p.n) (p.H.push (.list xs))) (hT:z9 M p Q T):T (.ref p.h.objs.size) {p.s with heap:=p.h.push (mN vs 0),toks:=t}:=
 have a:After M cY p (p.at (p.h.push (mN vs 0)) t):= .grow R (.push _ _)
 have n:=R.new (aaF p.h.objs.size)
 have z:=a.tell (o:= .list xs) (aaF _) (aaF _) n n R.sz ⟨rfl,vs,0,Heap.get?_push_size _ rfl,wX.mono .tell (a.oQ r),hz⟩
 hT _ _ (.ref p.n) hq z.2 z.1
theorem B8 {vs:List Value} {xs:List AV} (R:Rep M p) (r:L2 (VR p) vs xs) (hz:xs.length<=lim) (hq:Q (.ref p.n) (p.H.push (.list xs))):Ev M A p (newList vs) Q:=λT hT=>
 wpAny_newObj_type (g8 (vs:=vs.toArray) R r hz hq hT) (by show vs.toArray.size<=sizeLine;rw [List.size_toArray,r.len];exact cT hz)
theorem HY (h:qP M xs sc es):aA M (X.tup xs) sc (.Tuple es c q):=λz hq=>.eq (arm_eval_Tuple ..) λT hT=>wpAny_bind (wpAny_standAt (wpAny_bind (h q z hq _ λp1 vs av q r a=>
 have s:=eW q
 (w4 a.rep r (Nat.ble_eq.mp s.1) s.2).cO a hT)))
theorem CZ (h:qP M xs sc es):aA M (X.list xs) sc (.List es q):=λz hq=>.eq (arm_eval_List ..) λT hT=>wpAny_bind (wpAny_standAt (wpAny_bind (h q z hq _ λp1 vs av q r a=>
 have s:=eW q
 (B8 a.rep r (Nat.ble_eq.mp s.1) s.2.run).cO a hT)))
theorem aL (R:Rep M p) {a:Nat} (ha:a < p.n) {xs:List AV} (e:p.H.g a= .list xs):∃vs k,CA p (p.W.ρ a) vs k xs:=by
 have:=R.obj a ha
 rw [e] at this
 exact this.2
theorem Pa (R:Rep M p) {a:Nat} (ha:a < p.n) {xs:List AV} (e:p.H.g a= .no xs):∃vs k,(∃d sl,p.h.get? (p.W.ρ a)=some ⟨.type "list",d,.seq vs k,sl⟩)/\L2 (VR p) vs.toList xs/\xs.length<=lim:=by
 have:=R.obj a ha
 rw [e] at this
 exact this.2
theorem cF (R:Rep M p) {a:Nat} (ha:a < p.n) {es:List (AV × AV)} (e:p.H.g a= .dict es):p.W.δ a=p.W.ρ a/\∃ds k,jU M p (p.W.ρ a) ds k es:=by
 have:=R.obj a ha
 rw [e] at this
 exact this
theorem nI (R:Rep M p) {a:Nat} (ha:a < p.n) {c:String} {fs:List (String × AV)} (e:p.H.g a= .inst c fs):∃C ds k,Ot M p (p.W.ρ a) (p.W.δ a) c fs C ds k:=by
 have:=R.obj a ha
 replace this:=(e)▸this
 exact this
theorem ck {vs:Array Value} {k:Nat} {h:Heap} {x:Addr} (e:h.get? x=some (mN vs k)):h.IsList x vs:=⟨_,e,rfl,k,rfl⟩
theorem ky {v:Value} {av:AV} {F:AV->KB} (R:Rep M p) (r:VR p v av) (q:cR av p.H (F av)) {T:Bool->Shared->Prop} (hT:∀t b,Tr av p.H b->F av b p.H->T b (p.at p.h t).s):wpAny M.m A (truthy v) T bK p.s:=by
 cases av with
 | none=>
  obtain rfl:=show v= .none from r
  exact truthy_none (hT p.s.toks false (λF h=>h) q)
 | bool b=>
  obtain rfl:=show v= .bool b from r
  exact wpAny_truthy_bool (hT p.s.toks b (λF h=>ch h) (ch q))
 | ref a=>
  obtain ⟨rfl,ha⟩:=r
  refine aw (bY q.run) λxs e q=>?_
  refine aq (aL R ha e) λvs k l=>?_
  refine wpAny_truthy_list (ck l.at_) (by rw [aB l.l];exact rX l.len) ?_
  have:vs.isEmpty=xs.isEmpty:=by
   rw [Array.isEmpty,aB l.l]
   cases xs<;>rfl
  rw [this]
  refine hT _ _ (λF h=>?_) (ch q)
  have h:=h.run
  rw [e] at h
  exact ch h
 | _=>exact q.elim
theorem ng.tok (z:ng M k A p sc env loc) (t:Nat):After M cY p (p.at p.h t):= .toks z.rep t
theorem Id (h:aA M x sc e) (he:∀env whole,isTrue e env whole=(do let v <-whole;standAt e.pos;holding [v] (truthy v))):d7 M x sc e:=by
 intro k A p env loc F z hq T hT
 refine bf (he ..) ?_
 exact wpAny_bind (h z hq _ λp1 v av q r a=>wpAny_bind (wpAny_standAt (wpAny_holding (ky a.rep r q λt b hb hf=>hT _ av b hb hf (a.trans (.toks a.rep t))))))
theorem HR (h:aA M x sc e):aA M (X.not x) sc (.UnaryOp .Not e q):=λz hq=>.eq (arm_eval_UnaryOp ..) λT hT=>wpAny_bind (h z hq _ λp1 v av q r a=>wpAny_bind (wpAny_standAt (wpAny_holding
 (not_of (ky (F:=λzz=>Ll _) a.rep r q λt b hb hf=>hT (p1.at p1.h t) _ (.bool (!b)) hf rfl (a.trans (.toks a.rep t)))))))
theorem Da (h:d7 M x sc e):d7 M (X.not x) sc (.UnaryOp .Not e q):=by
 intro k A p env loc F z hq T hT
 refine bf (arm_isTrue_UnaryOp ..) ?_
 exact wpAny_bind (h (F:=λzz=>Ll _) z hq _ λp1 v b hb hf a=>wpAny_pure (hT p1 (.bool !b) (!b) (λF h=>ch h) (ch hf) a))
theorem nM (d:Bool) {t u:Sem Value} {F:AV->KB} (h:Ev M A p t (λv H=>cR v H (F v))) (go:∀p' v av b,F av b p'.H->VR p' v av->After M cY p p'->bif b==d then T v p'.s else wpAny M.m A u T bK p'.s):wpAny M.m A (boolOp q (bif d then .Or else .And) [t,u]) T bK p.s:=by
 refine wpAny_bind (h _ λp1 v av q r a=>wpAny_bind (wpAny_standAt (wpAny_bind (wpAny_holding (ky a.rep r q λt b hb hf=>?_)))))
 have a2:After M cY p1 _:= .toks a.rep t
 have g:=go (p1.at p1.h t) v av b hf (a2.rel r) (a.trans a2)
 cases d<;>cases b<;>first | exact wpAny_pure g | exact g
theorem GR (h1:aA M x sc e) (h2:aA M y sc f):aA M (X.and x y) sc (.BoolOp .And [e,f] q):=λz hq=>.eq (arm_eval_BoolOp ..) λT hT=>nM false (F:=λv=>Dm _ _ _ v) (h1 z hq) λp1 v av b hf r a=>match b,hf with
 | true,hf=>(h2 (z.after a) hf).cO a hT
 | false,hf=>hT p1 v av hf r a
theorem Kg (h1:aA M x sc e) (h2:aA M y sc f):aA M (X.or x y) sc (.BoolOp .Or [e,f] q):=λz hq=>.eq (arm_eval_BoolOp ..) λT hT=>nM true (F:=λv=>Gb _ _ _ v) (h1 z hq) λp1 v av b hf r a=>match b,hf with
 | true,hf=>hT p1 v av hf r a
 | false,hf=>(h2 (z.after a) hf).cO a hT
noncomputable abbrev M5 (M:Mo) (p:Pt) (F:AV->KB) (T:Bool->Shared->Prop):Prop:=∀p' v b,Tr v p'.H b->F v b p'.H->After M cY p p'->T b p'.s
theorem M5.step {F:AV->KB} {T:Bool->Shared->Prop} (hT:M5 M p F T) (a:After M cY p p'):M5 M p' F T:=λq v b h r c=>hT q v b h r (a.trans c)
theorem fy (d:Bool) (h:d7 M x sc e) {es:List Expr} {F:AV->KB} (z:ng M k A p sc env loc) (hq:x (Γc M k) loc p.H (λv H=>cR v H (F v))) {T:Bool->Shared->Prop}
  (go:∀p' v b,Tr v p'.H b->F v b p'.H->After M cY p p'->bif b==d then T b p'.s else wpAny M.m A (allTrue (bif d then .Or else .And) es env) T bK p'.s):wpAny M.m A (allTrue (bif d then .Or else .And) (e::es) env) T bK p.s:=by
 refine bf (arm_allTrue_cons ..) ?_
 refine wpAny_bind (h z hq _ λp1 v b hb hf a=>?_)
 have g:=go p1 v b hb hf a
 cases d<;>cases b<;>first | exact wpAny_pure g | exact g
theorem gC (d:Bool) {T:Bool->Shared->Prop} (h:wpAny M.m A (isTrue e env (eval e env)) T bK p.s):wpAny M.m A (allTrue (bif d then .Or else .And) [e] env) T bK p.s:=by
 refine bf (arm_allTrue_cons ..) ?_
 refine wpAny_bind (wpAny_mono h (λb s' hb=>?_) λzz zz x=>x)
 cases d<;>cases b<;>first | exact wpAny_pure hb | (rw [arm_allTrue_nil];exact wpAny_pure hb)
theorem ig {op:BoolOp} {T:Bool->Shared->Prop} (h:wpAny M.m A (allTrue op es env) T bK p.s):wpAny M.m A (isTrue (.BoolOp op es q) env (eval (.BoolOp op es q) env)) T bK p.s:=by rw [arm_isTrue_BoolOp];exact h
theorem FK (h1:d7 M x sc e) (h2:d7 M y sc f):d7 M (X.and x y) sc (.BoolOp .And [e,f] q):=λ{zz zz zz zz zz F} z hq T hT=>ig (fy false (F:=λv=>Dm _ _ _ v) h1 z hq λp1 v b hb hf a=>match b,hb,hf with
 | true,_,hf=>gC false (h2 (z.after a) hf _ (M5.step (F:=F) hT a))
 | false,hb,hf=>hT p1 v false hb (hb _ hf) a)
theorem IQ (h1:d7 M x sc e) (h2:d7 M y sc f):d7 M (X.or x y) sc (.BoolOp .Or [e,f] q):=λ{zz zz zz zz zz F} z hq T hT=>ig (fy true (F:=λv=>Gb _ _ _ v) h1 z hq λp1 v b hb hf a=>match b,hb,hf with
 | false,_,hf=>gC true (h2 (z.after a) hf _ (M5.step (F:=F) hT a))
 | true,hb,hf=>hT p1 v true hb (hb _ hf) a)
theorem EW (h1:d7 M x sc e) (h2:d7 M y sc f) (h3:d7 M z sc g):d7 M (X.or3 x y z) sc (.BoolOp .Or [e,f,g] q):=λ{zz zz zz zz zz F} z hq T hT=>ig (fy true (F:=λv=>Gb _ _ _ v) h1 z hq λp1 v b hb hf a=>match b,hb,hf with
 | true,hb,hf=>hT p1 v true hb (hb _ hf) a
 | false,_,hf=>fy true (F:=λv=>Gb _ _ _ v) h2 (z.after a) hf λp2 v b hb hf a2=>match b,hb,hf with
  | true,hb,hf=>hT p2 v true hb (hb _ hf) (a.trans a2)
  | false,_,hf=>gC true (h3 (z.after (a.trans a2)) hf _ (M5.step (F:=F) hT (a.trans a2))))
theorem I9 (h1:d7 M x sc e) (h2:aA M y sc f) (h3:aA M z sc g):aA M (X.ite x y z) sc (.IfExp e f g q):=λz hq=>.eq (arm_eval_IfExp ..) λT hT=>wpAny_bind (h1 (F:=λzz=>OC _ _ _ _) z hq _ λp1 v b hb hf a=>match b,hf with
 | true,hf=>(h2 (z.after a) hf).cO a hT
 | false,hf=>(h3 (z.after a) hf).cO a hT)
end
end
section
open PySem PySem.W PySem.Spec PySem.Calls PyProof.Rows PySem.SeqAt
section
variable {M:Mo} {k:Nat} {A:Around} {p p':Pt} {sc:Scope} {env:Env} {loc:Loc} {Q:KV} {T:Value->Shared->Prop}
theorem Kx (l:List Nat):(l.all λzz=>true)=true:=aaX.mpr λzz zz=>rfl
mutual
theorem Le:∀(x:AV) (d:Nat),x.plain d=true->∀(A:Around) (v v':Value),VR p v x->VR p v' x->A.units+d < cLine->EqAt A p.s v v' true
 | .none,_,_,A,v,v',r,r',_=>by
  obtain rfl:=show v= .none from r;obtain rfl:=show v'= .none from r';exact EqAt.same _
 | .int i,_,_,A,v,v',r,r',_=>by
  obtain ⟨t,rfl⟩:=r;obtain ⟨u,rfl⟩:=r'
  have:=EqAt.int_int (A:=A) (s:=p.s) i t i u
  rwa [beq_self_eq_true] at this
 | .str i,_,_,A,v,v',r,r',_=>by
  obtain ⟨t,rfl⟩:=r;obtain ⟨u,rfl⟩:=r'
  have:=EqAt.str_str (A:=A) (s:=p.s) (Str.ofString i) t (Str.ofString i) u
  rwa [beq_self_eq_true] at this
 | .bytes b,_,_,A,v,v',r,r',_=>by
  obtain ⟨t,rfl⟩:=r;obtain ⟨u,rfl⟩:=r'
  exact λprog w E Q h=>eqBool_bytes (by rw [decide_eq_true rfl];exact h)
 | .tup xs,0,hp,_,_,_,_,_,_=>Bool.noConfusion hp
 | .tup xs,d+1,hp,A,v,v',r,r',hu=>by
  refine aS r λx vs e0 i1 l1=>?_;subst e0
  refine aS r' λy us e1 i2 l2=>?_;subst e1
  by_cases q:x=y
  .exact (q)▸EqAt.same _
  .have hu:A.in1.units+d < cLine:=by show A.units+1+d < cLine;rw [aa9,abg 1];exact hu
   have:=RcAt.tuples (A:=A) (e:=λzz=>true) i1 i2 (aaz (aba _) (aaz (aaM _ d) hu)) λj h1 h2=>nA xs d hp A.in1 _ _ l1 l2 hu j h1 h2
   refine EqAt.of_refs q ?_
   rw [aB (fC.mp l1),aB (fC.mp l2),Kx,beq_self_eq_true] at this
   exact this
 | .bool _,_,hp,_,_,_,_,_,_=>Bool.noConfusion hp
 | .ref _,_,hp,_,_,_,_,_,_=>Bool.noConfusion hp
 | .unset,_,hp,_,_,_,_,_,_=>Bool.noConfusion hp
theorem nA:∀(xs:List AV) (d:Nat),AV.d9 xs d=true->∀(A:Around) (vs vs':List Value),K6 p xs vs->K6 p xs vs'->A.units+d < cLine->∀(j:Nat) (h1:j < vs.length) (h2:j < vs'.length),EqAt A p.s vs[j] vs'[j] true
 | [],_,_,_,vs,_,r,_,_,_,h1,_=>by obtain rfl:=show vs=[] from r;exact absurd h1 (Nat.not_lt_zero _)
 | x::xs,d,hp,A,_,_,r,r',hu,j,h1,h2=>by
  obtain ⟨v,l,rfl,r,q⟩:=r
  obtain ⟨v',l',rfl,r',q'⟩:=r'
  have hp:=aaV.mp hp
  cases j with
  | zero=>exact Le x d hp.1 A _ _ r r' hu
  | succ j=>exact nA xs d hp.2 A _ _ q q' hu j (Nat.lt_of_succ_lt_succ h1) (Nat.lt_of_succ_lt_succ h2)
end
theorem cC {a b:String} (h:Str.ofString a=Str.ofString b):a=b:=by
 rw [Str.ofString_eq_toList,Str.ofString_eq_toList] at h
 exact String.toList_inj.mp ((List.map_inj_right (λx y h=>Char.ext (UInt32.toNat_inj.mp h))).mp (congrArg Array.toList (Str.mk.inj h)))
theorem cE (a b:String):(Str.ofString a==Str.ofString b)=decide (a=b):=by
 by_cases q:a=b
 .rw [q,beq_self_eq_true,decide_eq_true rfl]
 .rw [decide_eq_false q,beq_eq_false_iff_ne];exact λe=>q (cC e)
theorem Rk (a b:Int):(a==b)=decide (a=b):=rfl
theorem N2 (hu:A.units+100 < cLine) (R:Rep M p) {v u:Value} {a b:AV} (ra:VR p v a) (rb:VR p u b) {F:Bool->Prop} (hq:ML a b p.H F):∃t,F t/\RcAt A p.s v u t/\RcNeAt A p.s v u (!t):=by
 have u1:A.units < cLine:=aaz (aaM _ _) hu
 have u2:A.in1.units+eH < cLine:=aaz (by show A.units+1+60<=A.units+100;exact abj (by decide:61<=100) A.units) hu
 cases a with
 | int i=>
  obtain ⟨j,rfl,hq⟩:=aG hq
  obtain ⟨t,rfl⟩:=ra;obtain ⟨u,rfl⟩:=rb
  exact ⟨_,ch hq,RcAt.int_int _ _ _ _,RcNeAt.int_int _ _ _ _⟩
 | str i=>
  obtain ⟨j,rfl,hq⟩:=z8 hq
  obtain ⟨t,rfl⟩:=ra;obtain ⟨u,rfl⟩:=rb
  refine ⟨_,ch hq,?_⟩
  rw [<-cE]
  exact ⟨RcAt.str_str _ _ _ _,RcNeAt.str_str _ _ _ _⟩
 | tup xs=>
  refine Dt (AE hq) λys e0 t0 hf=>?_;subst e0;refine qj t0 λe1 hp=>?_;subst e1
  refine aS ra λx vs e2 i1 l1=>?_;subst e2
  refine aS rb λy us e3 i2 l2=>?_;subst e3
  have e:=λj h1 h2=>nA xs eH hp A.in1 _ _ l1 l2 u2 j h1 h2
  have g:=RcAt.tuples (e:=λzz=>true) i1 i2 u1 e
  have g':=RcNeAt.tuples (e:=λzz=>true) i1 i2 u1 e
  rw [aB (fC.mp l1),aB (fC.mp l2),Kx,beq_self_eq_true] at g g'
  exact ⟨_,hf,g,g'⟩
 | ref a=>
  obtain ⟨rfl,la⟩:=ra
  refine aw (bY hq.run) λxs ea hq=>?_
  refine bU (bJ hq) λb e4 hq=>?_;subst e4
  obtain ⟨rfl,lb⟩:=rb
  refine aw (bY hq.run) λys eb hq=>?_
  refine aq (aL R la ea) λvs zz l1=>?_
  refine aq (aL R lb eb) λus zz l2=>?_
  rcases hq with ⟨⟨rfl,hp⟩,hq⟩ | ⟨ne,hq⟩
  .have z:vs.size=us.size:=(aB l1.l).trans (aB l2.l).symm
   have e:=λj h1 h2=>nA xs eH hp A.in1 _ _ (fC.mpr l1.l) (fC.mpr l2.l) u2 j h1 h2
   have g:=RcAt.lists (e:=λzz=>true) (ck l1.at_) (ck l2.at_) z u1 e
   have g':=RcNeAt.lists (e:=λzz=>true) (ck l1.at_) (ck l2.at_) z u1 e
   rw [Kx] at g g'
   exact ⟨_,hq,g,g'⟩
  .have z:(vs.size != us.size)=true:=by rw [aB l1.l,aB l2.l];exact bne_iff_ne.mpr ne
   exact ⟨_,hq,RcAt.lists_lengths (ck l1.at_) (ck l2.at_) z u1,RcNeAt.lists_lengths (ck l1.at_) (ck l2.at_) z u1⟩
 | _=>exact hq.elim
end
noncomputable def gB (k:AV) (es:List (AV × AV)):Option Nat:=es.findIdx? λe=>iY e.1 k
theorem Ry (k:AV):gB k []=none:=rfl
theorem ib (k:AV) (e:AV × AV) (r:List (AV × AV)):gB k (e::r)=bif iY e.1 k then some 0 else (gB k r).map (· +1):=by
 unfold gB
 rw [List.findIdx?_cons]
 cases iY e.1 k<;>rfl
theorem oZ (k:AV):∀es:List (AV × AV),getD k es=(gB k es).bind λi=>(es[i]?).map (·.2)
 | []=>rfl
 | e::r=>by
  rw [ib,getD,oZ k r]
  cases iY e.1 k
  .cases gB k r<;>rfl
  .rfl
theorem vg (k v:AV):∀es:List (AV × AV),bT k v es=((gB k es).map λi=>es.modify i λe=>(e.1,v)).getD (es++[(k,v)])
 | []=>rfl
 | e::r=>by
  rw [ib,bT,vg k v r]
  cases iY e.1 k
  .cases gB k r<;>rfl
  .rfl
theorem wz (k:AV):∀es:List (AV × AV),vo k es=((gB k es).map es.eraseIdx).getD es
 | []=>rfl
 | e::r=>by
  rw [ib,vo,wz k r]
  cases iY e.1 k
  .cases gB k r<;>rfl
  .rfl
theorem yD {k:AV}:∀{es:List (AV × AV)} {i:Nat},gB k es=some i->∃e,es[i]? =some e
 | [],_,h=>nomatch h
 | e::r,i,h=>by
  rw [ib] at h
  cases q:iY e.1 k
  .replace h:=(q)▸h
   refine aw (bm h) λj h1 e0=>?_;subst e0
   exact (yD h1:)
  .replace h:=(q)▸h
   obtain rfl:=aay h
   exact ⟨e,rfl⟩
theorem L2.modify {α β:Type} {r:α->β->Prop} {f:α->α} {g:β->β} (Ty:∀a b,r a b->r (f a) (g b)):∀{l:List α} {m:List β} (i:Nat),L2 r l m->L2 r (l.modify i f) (m.modify i g):=by
 intro l m i h
 induction h generalizing i with
 | nil=>cases i<;>exact .nil
 | cons a b ih=>
  cases i with
  | zero=>exact .cons (Ty _ _ a) b
  | succ i=>exact .cons a (ih i)
theorem L2.eraseIdx {α β:Type} {r:α->β->Prop}:∀{l:List α} {m:List β} (i:Nat),L2 r l m->L2 r (l.eraseIdx i) (m.eraseIdx i):=by
 intro l m i h
 induction h generalizing i with
 | nil=>exact .nil
 | cons a b ih=>
  cases i with
  | zero=>exact b
  | succ i=>exact .cons a (ih i)
theorem j2 {k v:AV}:∀{es:List (AV × AV)},(bT k v es).length<=es.length+1
 | []=>aaF _
 | e::r=>by
  rw [bT]
  cases iY e.1 k
  .exact aa1 j2
  .exact aba _
section
variable {M:Mo} {k:Nat} {A:Around} {p p':Pt} {sc:Scope} {env:Env} {loc:Loc} {Q:KV} {T:Value->Shared->Prop}
theorem nY {x:AV} (h:kk x=1):∃s,x= .str s:=by
 cases x with
 | str s=>exact ⟨s,rfl⟩
 | tup xs=>replace h:(bif xs.all AV.qd then 3 else 0)=_:=h;cases q:xs.all AV.qd<;>rw [q] at h<;>exact absurd h (by decide)
 | _=>cases h
theorem sq {x:AV} (h:kk x=2):∃s,x= .int s:=by
 cases x with
 | int s=>exact ⟨s,rfl⟩
 | tup xs=>replace h:(bif xs.all AV.qd then 3 else 0)=_:=h;cases q:xs.all AV.qd<;>rw [q] at h<;>exact absurd h (by decide)
 | _=>cases h
theorem Ej:∀{xs:List AV},xs.all AV.qd=true->∃is:List Int,xs=is.map .int:=by
 intro xs
 induction xs with
 | nil=>exact λzz=>⟨[],rfl⟩
 | cons a r ih=>
  intro h
  have h:=aaV.mp h
  cases a with
  | int i=>exact (ih h.2).imp' (i::·) λis e=>congrArg (AV.int i::·) e
  | _=>exact (aaE h.1).elim
theorem Ri (is:List Int):(is.map AV.int).all AV.qd=true:=by rw [List.all_map];exact aaX.mpr λzz zz=>rfl
theorem xC {x:AV} (h:kk x=3):∃is:List Int,x= .tup (is.map .int):=by
 cases x with
 | tup xs=>
  replace h:(bif xs.all AV.qd then 3 else 0)=3:=h
  cases q:xs.all AV.qd<;>rw [q] at h
  .exact absurd h (by decide)
  .exact (Ej q).imp λis e=>congrArg AV.tup e
 | _=>cases h
theorem Jm (x:AV) (h:kk x≠0):kk x=1\/kk x=2\/kk x=3:=by
 cases x with
 | str _=>exact .inl rfl
 | int _=>exact .inr (.inl rfl)
 | tup xs=>
  simp only [kk] at h ⊢
  cases q:xs.all AV.qd<;>rw [q] at h
  .exact absurd rfl h
  .exact .inr (.inr rfl)
 | _=>exact absurd rfl h
theorem vc:∀{is:List Int} {vs:List Value},L2 (VR p) vs (is.map .int)->ItemsAre (intKind M.prog M.w) is vs
 | [],vs,h=>by exact (h.df)▸ .nil
 | i::is,vs,h=>by
  refine cf h.aW λv l e0 t0 hl=>?_;subst e0;obtain ⟨t,rfl⟩:=t0
  exact .cons (decide_eq_true rfl) (vc hl)
theorem xd {is:List Int} {v:Value} (r:VR p v (.tup (is.map .int))):∃x,v= .ref x/\(tupleKind (intKind M.prog M.w)).is p.h is x:=by
 refine cf r.tup λx vs e0 t0 l=>?_;subst e0;refine ju t0 λo h1 h2 n h3=>?_
 exact ⟨x,rfl,o,_,_,h1,h2,h3,vc l⟩
theorem sJ (P:Params) (is:List Int):wE P (.tup (is.map .int))=tupleKeyHash (intKind M.prog M.w) is:=by
 show reduceHash (Builtin.Tuple.tupleHashOf ((is.map AV.int).map λx=>hashInt (JA x)))=_
 rw [aa5]
 rfl
theorem yy (hu:A.units < cLine) {v:Value} {x:AV} (r:VR p v x) (hk:kk x≠0) {T:Int->Shared->Prop} (hT:∀t,T (wE M.w.params x) (p.at p.h t).s):wpAny M.m A (pyHash v) T bK p.s:=by
 rcases Jm x hk with h | h | h
 .refine wW (nY h) λi e0=>?_;subst e0
  obtain ⟨t,rfl⟩:=r
  exact (PySem.strKind M.prog M.w).pyHash (k:=Str.ofString i) (beq_self_eq_true _) (hT _)
 .refine wW (sq h) λi e1=>?_;subst e1
  obtain ⟨t,rfl⟩:=r
  exact (intKind M.prog M.w).pyHash (k:=i) (decide_eq_true rfl) (hT _)
 .refine wW (xC h) λis e2=>?_;subst e2
  refine bU (xd (M:=M) r) λy e3 hy=>?_;subst e3
  refine wpAny_pyHash_tuple hu hy ?_
  have:=hT (p.s.toks+(is.length+1))
  rw [sJ (M:=M)] at this
  exact this
theorem vC {α:Type} [DecidableEq α] (knd:PySem.KeyKind M.prog M.w α) (k:α) (a:AV) (f:∀d e,mO M p d e->kk e.1=kk a->(∃k',knd.is k' d.key=true/\d.hash=knd.hash k')/\knd.is k d.key=iY e.1 a):
  ∀{ds:List DictEntry} {es:List (AV × AV)},L2 (mO M p) ds es->(∀e∈es,kk e.1=kk a)->(ds.findIdx? λd=>knd.is k d.key)=gB a es/\∀d∈ds,∃k',knd.is k' d.key=true/\d.hash=knd.hash k':=by
 intro ds es l
 induction l with
 | nil=>exact λzz=>⟨rfl,λzz h=>(aaU h).elim⟩
 | cons x l ih=>
  intro g
  replace ih:=ih λe he=>g e (.tail _ he)
  have z:=f _ _ x (g _ (.head _))
  refine ⟨?_,λd hd=>(aaH.mp hd).elim (λe=>e▸z.1) (ih.2 d)⟩
  rw [List.findIdx?_cons,ib,ih.1,z.2]
  cases iY _ a<;>rfl
theorem Ar {α:Type} (f:α->Bool) (a:Array α):a.findIdx? f=a.toList.findIdx? f:=by cases a;exact List.findIdx?_toArray ..
theorem Kh {M:Mo}:∀{ds:List DictEntry} {es:List (AV × AV)},L2 (mO M p) ds es->(∀e∈es,kk e.1=3)->
  ∃xs:List (List Int × Addr × Value),ds=xs.map (entryOfKey (tupleKind (intKind M.prog M.w)))/\(∀x∈xs,(tupleKind (intKind M.prog M.w)).is p.h x.1 x.2.1)/\es.map (·.1)=xs.map λx=>AV.tup (x.1.map .int):=by
 intro ds es l
 induction l with
 | nil=>exact λzz=>⟨[],rfl,λzz hx=>(aaU hx).elim,rfl⟩
 | @cons d eb _ _ a l ih=>
  obtain ⟨_,b⟩:=eb
  intro g
  refine cV (ih λe he=>g e (.tail _ he)) λxs h1 h2 h3=>?_
  refine wW (xC (g _ (.head _))) λis e0=>?_;subst e0
  refine aw (xd (M:=M) a.key) λx e hx=>?_
  refine ⟨(is,x,d.val)::xs,?_,λy hy=>(aaH.mp hy).elim (λe=>e▸hx) (h2 y),by rw [aa4,aa4,h3]⟩
  rw [aa4,<-h1]
  refine congrArg (· ::_) ?_
  show d=⟨tupleKeyHash _ is,.ref x,d.val⟩
  rw [<-e,<-(a.hash.trans (sJ ..))]
theorem GK {a b:List Int} (h:a.map AV.int=b.map AV.int):a=b:=(List.map_inj_right (λx y h=>AV.int.inj h)).mp h
theorem Fd (k:AV) (es:List (AV × AV)):gB k es=(es.map (·.1)).findIdx? λa=>iY a k:=by unfold gB;rw [List.findIdx?_map];rfl
theorem ud (hu:A.units+100 < cLine) {d:Addr} {ds:Array DictEntry} {ep:Nat} {es:List (AV × AV)} (D:jU M p d ds ep es) {v:Value} {x:AV} (r:VR p v x) (fit:bB x es) {T:Option Nat->Shared->Prop} (hT:T (gB x es) p.s):wpAny M.m A (dictFind d v (wE M.w.params x)) T bK p.s:=by
 rcases Jm x fit.1 with h | h | h
 .obtain ⟨i,rfl⟩:=nY h
  refine wW r λt e0=>?_;subst e0
  have g:=vC (PySem.strKind M.prog M.w) (Str.ofString i) (.str i) (λd e re hk=>by
   obtain ⟨dh,dk,dv⟩:=d
   obtain ⟨a,b⟩:=e
   obtain ⟨j,rfl⟩:=nY (hk.trans h)
   obtain ⟨⟨t,rfl⟩,_,rfl,_⟩:=re
   exact ⟨⟨Str.ofString j,beq_self_eq_true _,rfl⟩,cE j i⟩) D.l fit.2
  exact wpAny_dictFind_of (knd:=PySem.strKind M.prog M.w) (k:=Str.ofString i) (beq_self_eq_true _) D.at_ rfl (λd hd=>g.2 d (Array.mem_toList_iff.mpr hd)) (by rw [Ar,g.1];exact hT)
 .obtain ⟨i,rfl⟩:=sq h
  obtain ⟨t,rfl⟩:=r
  have g:=vC (intKind M.prog M.w) i (.int i) (λd e re hk=>by
   obtain ⟨dh,dk,dv⟩:=d
   obtain ⟨a,b⟩:=e
   obtain ⟨j,rfl⟩:=sq (hk.trans h)
   obtain ⟨⟨t,rfl⟩,_,rfl,_⟩:=re
   exact ⟨⟨j,decide_eq_true rfl,rfl⟩,rfl⟩) D.l fit.2
  exact wpAny_dictFind_of (knd:=intKind M.prog M.w) (k:=i) (decide_eq_true rfl) D.at_ rfl (λd hd=>g.2 d (Array.mem_toList_iff.mpr hd)) (by rw [Ar,g.1];exact hT)
 .refine wW (xC h) λis e2=>?_;subst e2
  refine bU (xd (M:=M) r) λy e3 hy=>?_;subst e3
  refine cV (Kh D.l λe he=>(fit.2 e he).trans h) λxs h1 h2 h3=>?_
  have nd:(xs.map (·.1)).Nodup:=by
   have:=D.nd
   rw [h3,<-Function.comp_def (λl=>AV.tup (List.map AV.int l)) (λx:List Int × Addr × Value=>x.1),<-aa5] at this
   exact List.Pairwise.of_map _ (λa b q e=>q (e▸rfl)) this
  have idx:gB (.tup (is.map .int)) es=xs.findIdx? λx=>decide (x.1=is):=by
   rw [Fd,h3,List.findIdx?_map]
   refine congrArg (λf=>xs.findIdx? f) (funext λz=>?_)
   by_cases q:z.1=is
   .rw [decide_eq_true q,<-q];exact jP _
   .rw [decide_eq_false q];exact yg λe=>q (GK (AV.tup.inj e))
  replace hT:=(idx)▸hT
  rw [sJ (M:=M)]
  refine wpAny_dictFind_heap (knd:=tupleKind (intKind M.prog M.w)) (k:=is) (aaz (aaM _ _) hu) hy D.at_ rfl h1 h2 nd (λWW=>?_) λj q hj=>?_
  .have:xs.findIdx? (λx=>decide (x.1=is))=none:=List.findIdx?_eq_none_iff.mpr λy hy=>decide_eq_false λq=>(List.mem_iff_getElem?.mp hy).elim λj hj=>WW j y.2 (by rw [hj,<-q])
   rw [this] at hT;exact hT
  .have:xs.findIdx? (λx=>decide (x.1=is))=some j:=by
    rw [List.findIdx?_eq_some_iff_getElem]
    refine ug (aaZ.mp hj) λhl he=>?_
    refine ⟨hl,by rw [he];exact decide_eq_true rfl,λi hi q=>?_⟩
    have il:=aaA hi hl
    exact absurd (idxH_unique nd (by rw [aaR il,<-of_decide_eq_true q]) hj) (aaJ hi)
   rw [this] at hT;exact hT
end
section
variable {M:Mo} {k:Nat} {A:Around} {p p':Pt} {sc:Scope} {env:Env} {loc:Loc} {Q:KV} {T:Value->Shared->Prop} {x y z:X} {e f g:Expr} {q q':Pos}
theorem rU {n m l:Nat} (h:n+m < l) (q:0 < m):n+1+(m - 1) < l:=by
 have:n+1+(m - 1)=n+m:=by rw [aa9,abg 1,Nat.sub_add_cancel q]
 exact this▸h
theorem um {n m l:Nat} (h:n+m < l):n < l:=aaz (aaM _ _) h
theorem MZ {ds:Array DictEntry} {n:Nat} {es:List (AV × AV)} {d:Addr} (D:jU M p d ds n es):p.s.TypeIs (.ref d) "dict":=⟨_,D.at_,rfl⟩
theorem tt (hu:A.units+100 < cLine) {d:Addr} {ds:Array DictEntry} {ep:Nat} {es:List (AV × AV)} (D:jU M p d ds ep es) {v:Value} {x:AV} (r:VR p v x) (fit:bB x es) {T:Option Value->Shared->Prop}
  (hT:∀o t,(match o with
   | some u=>∃y,getD x es=some y/\VR p u y
   | none=>getD x es=none)->T o (p.at p.h t).s):wpAny M.m A (dictGet d v) T bK p.s:=by
 unfold dictGet
 try with_reducible refine wpAny_holding ?_
 refine wpAny_bind (yy (um hu) r fit.1 λt=>wpAny_bind (ud (p:=p.at p.h t) hu (D.mono (.grow λzz zz e zz=>e) λzz e=>e) (r.mono (.grow λzz zz e zz=>e)) fit ?_))
 have e:=oZ x es
 cases q:gB x es with
 | none=>
  rw [q] at e
  exact wpAny_pure (hT .none t e)
 | some i=>
  rw [q] at e
  refine ug (yD q) λb hb=>?_
  refine aw (D.l.get hb) λa ha ra=>?_
  rw [abh] at ha
  refine wpAny_bind (wpAny_dictEntries (s:=(p.at p.h t).s) D.at_ rfl ?_)
  exact (ha)▸wpAny_pure (hT (some a.val) t ⟨b.2,by rw [e,Option.bind_some,hb];rfl,ra.val⟩)
theorem kK (W:Wd M) (R:Rep M p) {a:Nat} (ha:a < p.n) (hn:(p.H.g a).qE=false):(p.W.ρ a==sysModules)=false:=
 bG W.top λzz zz zz zz t=>beq_eq_false_iff_ne.mpr λe=>aaP.mpr (e▸(R.lo a ha hn).1) (aaA (by decide) t.g.lt)
theorem fF {o:AO} {es:List (AV × AV)} (e:o= .dict es):o.qE=false:=e▸rfl
theorem sG {o:AO} {es:List AV} (e:o= .list es):o.qE=false:=e▸rfl
theorem Iy {o:AO} {c:String} {es:List (String × AV)} (e:o= .inst c es):o.qE=false:=e▸rfl
theorem Si (W:Wd M) (hu:A.units+102 < cLine) (R:Rep M p) {a:Nat} (ha:a < p.n) {es:List (AV × AV)} (e:p.H.g a= .dict es) {v:Value} {x:AV} (r:VR p v x) (fit:bB x es) {T:Bool->Shared->Prop} (hT:∀t,T (getD x es).isSome (p.at p.h t).s):
  wpAny M.m A (contains (.ref (p.W.ρ a)) v) T bK p.s:=by
 refine fV (cF R ha e) λzz ds ep D=>?_
 have ty:=MZ D
 unfold contains
 try with_reducible refine wpAny_holding ?_
 refine wpAny_bind (wpAny_specialOf ty slot_dict_contains.lookup ?_)
 refine mC (by rw [beq_builtin_none];exact aaE) ?_
 refine wpAny_bind (wpAny_callSpecialUnlessNone?_slot (name:=Str.ofString "__contains__") ty slot_dict_contains (wpAny_call_entry slot_dict_contains ty entry_dict_contains ?_ (args_dict_contains _ _)))
 show wpAny _ _ (dictGet (p.W.ρ a) v >>= _) _ _ p.s
 refine wpAny_bind (tt (aaz (aba _) (rU hu (by decide))) D r fit λo t h=>?_)
 have hT:=hT t
 cases o with
 | some u=>
  refine aw h λy h zz=>?_
  rw [h] at hT
  exact wpAny_pure ⟨_,rfl,wpAny_truthy_bool hT⟩
 | none=>
  rw [show getD x es=none from h] at hT
  exact wpAny_bind (wpAny_pendingKey_other (kK W R ha (fF e)) (wpAny_pure ⟨_,rfl,wpAny_truthy_bool hT⟩))
theorem wg (hu:A.units+102 < cLine) (R:Rep M p) {a:Nat} (ha:a < p.n) {es:List (AV × AV)} (e:p.H.g a= .dict es) {v:Value} {x y:AV} (r:VR p v x) (fit:bB x es) (hy:getD x es=some y) (hT:∀u t,VR p u y->T u (p.at p.h t).s):
  wpAny M.m A (getItem (.ref (p.W.ρ a)) v) T bK p.s:=by
 refine fV (cF R ha e) λzz ds ep D=>?_
 have ty:=MZ D
 unfold getItem
 try with_reducible refine wpAny_holding ?_
 refine wpAny_bind (wpAny_sequenceKey ty (by decide) (wpAny_bind (wpAny_callSpecial?_slot (name:=Str.ofString "__getitem__") ty slot_dict_getitem (wpAny_call_entry slot_dict_getitem ty entry_dict_getitem ?_ (args_dict_getitem _ _)))))
 show wpAny _ _ (dictGet (p.W.ρ a) v >>= _) _ _ p.s
 refine wpAny_bind (tt (aaz (aba _) (rU hu (by decide))) D r fit λo t h=>?_)
 cases o with
 | some u=>
  refine aw h λz h ru=>?_
  obtain rfl:=aay (hy.symm.trans h)
  exact wpAny_pure ⟨u,rfl,wpAny_pure (hT u t ru)⟩
 | none=>cases hy.symm.trans h
theorem K7 {t:String}:∀{vs:List Value} {xs:List AV},L2 (VR p) vs xs->xs.all AV.pR=true->(vs.any λv=>Value.isStrOf (Str.ofString t) v)=xs.any (iY (.str t))/\∀v∈vs,∃s t,v= .str s t:=by
 intro vs xs l
 induction l with
 | nil=>exact λzz=>⟨rfl,λzz h=>(aaU h).elim⟩
 | @cons v a _ _ r l ih=>
  intro h
  have h:=aaV.mp h
  replace ih:=ih h.2
  cases a with
  | str s=>
   obtain ⟨u,rfl⟩:=r
   refine ⟨?_,λv hv=>(aaH.mp hv).elim (λe=>(bI _ _ e)) (ih.2 v)⟩
   rw [List.any_cons,List.any_cons,ih.1]
   refine congrArg (· ||_) ((cE s t).trans ?_)
   exact decide_eq_decide.mpr ⟨Eq.symm,Eq.symm⟩
  | _=>exact Bool.noConfusion h.1
theorem Jc {x:AV} (h:x.pR=true):∃s,x= .str s:=by
 cases x with
 | str s=>exact ⟨s,rfl⟩
 | _=>exact (aaE h).elim
theorem JP (W:Wd M) (hu:A.units+102 < cLine) (R:Rep M p) {v l:Value} {x y:AV} (r:VR p v x) (rl:VR p l y) {F:Bool->Prop} (n:Bool) (hq:U9 x y p.H λt=>F (n ^^ t)) (hT:∀b t,F b->T (.bool b) (p.at p.h t).s):wpAny M.m A (compareOp (bif n then .NotIn else .In) v l) T bK p.s:=by
 cases y with
 | ref a=>
  obtain ⟨rfl,la⟩:=rl
  refine cV (sB hq.run) λes e fit hf=>?_
  have main:wpAny M.m A (contains (.ref (p.W.ρ a)) v) (λb s'=>T (.bool (n ^^ b)) s') bK p.s:=Si W hu R la e r fit λt=>hT _ t (ch (F:=λt=>F (n ^^ t)) hf)
  cases n
  .exact wpAny_bind (wpAny_mono main (λb s' h=>wpAny_pure (by rw [Bool.false_xor] at h;exact h)) λzz zz x=>x)
  .exact wpAny_bind (wpAny_mono main (λb s' h=>wpAny_pure (by rw [Bool.true_xor] at h;exact h)) λzz zz x=>x)
 | tup xs=>
  refine qj (eW hq) λhs hf=>?_
  have hs:=aaV.mp hs
  refine wW (Jc hs.1) λs e0=>?_;subst e0
  obtain ⟨u,rfl⟩:=r
  refine aS rl.tup λo vs e1 it hr=>?_;subst e1
  have g:=K7 (t:=s) hr hs.2
  have he:∀y,y∈vs->EqAt A.in1 p.s y (.str (Str.ofString s) u) (Value.isStrOf (Str.ofString s) y):=λy hy=>by
   refine aq (g.2 y (Array.mem_toList_iff.mpr hy)) λa b e2=>?_;subst e2
   exact EqAt.str_str a b (Str.ofString s) u
  have h:=hT _ p.s.toks (ch (F:=λt=>F (n ^^ t)) hf)
  rw [<-g.1,Array.any_toList] at h
  cases n
  .rw [Bool.false_xor] at h
   exact in_tupleAt (λv=>Value.isStrOf (Str.ofString s) v) it he h
  .rw [Bool.true_xor] at h
   exact notIn_tupleAt (λv=>Value.isStrOf (Str.ofString s) v) it he h
 | _=>exact hq.elim
theorem Ae (W:Wd M) (hu:A.units+102 < cLine) (R:Rep M p) {o:k8} {op:CmpOp} (ho:nX op=some o) {v u:Value} {x y:AV} (r:VR p v x) (ru:VR p u y) {F:Bool->Prop} (hq:Lq o x y p.H F) (hT:∀b t,F b->T (.bool b) (p.at p.h t).s):
  wpAny M.m A (compareOp op v u) T bK p.s:=by
 have u0:A.units+100 < cLine:=aaz (abj (by decide) _) hu
 have Gu:=λb h=>hT b p.s.toks h
 cases op with
 | Eq=>
  obtain rfl:=aay ho
  refine cV (N2 u0 R r ru hq) λt h g zz=>?_
  exact g _ _ _ _ (Gu t h)
 | NotEq=>
  obtain rfl:=aay ho
  refine cV (N2 u0 R r ru hq) λt h zz g=>?_
  exact g _ _ _ _ (Gu _ h)
 | In=>obtain rfl:=aay ho;exact JP W hu R r ru false (by rw [show (λt=>F (false ^^ t))=F from funext λt=>by rw [Bool.false_xor]];exact hq) hT
 | NotIn=>obtain rfl:=aay ho;exact JP W hu R r ru true (by rw [show (λt=>F (true ^^ t))=kN F from funext λt=>by rw [Bool.true_xor];rfl];exact hq) hT
 | Lt=>
  cases ho
  obtain ⟨i,rfl,h⟩:=aG hq
  obtain ⟨j,rfl,h⟩:=aG h
  obtain ⟨t,rfl⟩:=r;obtain ⟨t',rfl⟩:=ru
  exact PyProof.Rows.lt_int (Gu _ (ch h))
 | LtE=>
  cases ho
  obtain ⟨i,rfl,h⟩:=aG hq
  obtain ⟨j,rfl,h⟩:=aG h
  obtain ⟨t,rfl⟩:=r;obtain ⟨t',rfl⟩:=ru
  exact PyProof.Rows.le_int (Gu _ (ch h))
 | Gt=>
  cases ho
  obtain ⟨i,rfl,h⟩:=aG hq
  obtain ⟨j,rfl,h⟩:=aG h
  obtain ⟨t,rfl⟩:=r;obtain ⟨t',rfl⟩:=ru
  exact PyProof.Rows.gt_int (Gu _ (ch h))
 | _=>cases ho
theorem PY {b:Bool} {H:HP} {F:KB} (h:cR (.bool b) H F):F b H:=(te (FB:=kB F H) b).mp h
theorem Tr.bool {H:HP} (b:Bool):Tr (.bool b) H b:=λF h=>PY h
theorem kV {op:CmpOp} (h:be e=true):behindInMarks op e=false:=by
 cases e<;>first | rfl | exact absurd h aaE
theorem GF (W:Wd M) {o:k8} {op:CmpOp} (ho:nX op=some o) (hm:be f=true) (h1:aA M x sc e) (h2:aA M y sc f):aA M (X.cmp o x y) sc (.Compare e [op] [f] q):=λ{zz zz zz env zz zz} z hq=>.eq (arm_eval_Compare ..) λT hT=>wpAny_bind (h1 z hq _ λp1 v av q1 r a=>by
 show wpAny _ _ (compareChain q v [op] [markedBehindIn op f (eval f env)]) _ _ _
 rw [markedBehindIn_of_false (kV hm)]
 exact wpAny_bind (wpAny_holding (h2 (z.after a) q1 _ λp2 u bv q2 r2 b=>wpAny_bind (wpAny_standAt (wpAny_operate' (Ae W z.cx.room b.rep ho (b.rel r) r2 q2 λc t hc=>hT (p2.at p2.h t) _ (.bool c) hc rfl ((a.trans b).trans (.toks b.rep t))))))))
theorem F8 (W:Wd M) {o:k8} {op:CmpOp} (ho:nX op=some o) (hm:be f=true) (h1:aA M x sc e) (h2:aA M y sc f):d7 M (X.cmp o x y) sc (.Compare e [op] [f] q):=λz hq T hT=>wpAny_isTrue_Compare1 (h1 z hq _ λp1 v av q1 r a=>
 h2 (z.after a) q1 _ λp2 u bv q2 r2 b=>Ae W z.cx.room b.rep ho (b.rel r) r2 q2 λc t hc=>wpAny_truthy_bool (hT (p2.at p2.h t) (.bool c) c (.bool c) (PY hc) ((a.trans b).trans (.toks b.rep t)))) (kV hm)
theorem A7 (W:Wd M) {o1 o2:k8} {p1 p2:CmpOp} (HQ:nX p1=some o1) (S9:nX p2=some o2) (hm:be g=true) (h1:aA M x sc e) (h2:aA M y sc f) (h3:aA M z sc g):d7 M (X.GX o1 o2 x y z) sc (.Compare e [p1,p2] [f,g] q):=by
 intro k A p env loc F z hq T hT
 refine bf (arm_isTrue_Compare ..) ?_
 refine wpAny_bind (h1 z hq _ λs1 v av q1 r a=>?_)
 show wpAny _ _ (testChain q v [p1,p2] [eval f env,markedBehindIn p2 g (eval g env)]) _ _ _
 rw [markedBehindIn_of_false (kV hm)]
 refine wpAny_bind (wpAny_holding (h2 (z.after a) q1 _ λs2 u bv q2 r2 b=>wpAny_bind (wpAny_standAt (wpAny_bind (wpAny_holding (Ae W z.cx.room b.rep HQ (b.rel r) r2 q2 λc t hc=>wpAny_bind (wpAny_release' (wpAny_bind (wpAny_holding (wpAny_truthy_bool ?_))))))))))
 have a3:=(a.trans b).trans (.toks b.rep t)
 cases c
 .exact wpAny_pure (hT (s2.at s2.h t) (.bool false) false (.bool false) (PY hc) a3)
 .exact wpAny_bind (wpAny_holding (h3 (p:=s2.at s2.h t) (z.after a3) hc _ λs3 w cv q3 r3 c=>wpAny_bind (wpAny_standAt (wpAny_bind (wpAny_operate' (Ae W z.cx.room c.rep S9 (c.rel ((After.toks b.rep t:After M cY s2 _).rel r2)) r3 q3 λd t hd=>wpAny_holding (wpAny_truthy_bool (hT (s3.at s3.h t) (.bool d) d (.bool d) (PY hd) ((a3.trans c).trans (.toks c.rep t))))))))))
theorem C4 {v:Value} {av:AV} (r:VR p v av):(v==Value.none)=av.isNone:=by
 cases av with
 | none=>obtain rfl:=show v= .none from r;rfl
 | bool=>obtain rfl:=show v= .bool _ from r;rfl
 | unset=>exact r.elim
 | tup=>refine cZ r λzz zz e0 zz=>?_;subst e0;rfl
 | ref=>obtain ⟨rfl,_⟩:=r;rfl
 | _=>obtain ⟨_,rfl⟩:=r;rfl
theorem mw {op:CmpOp} {c:Nat} {q:Pos}:behindInMarks op (.Constant .none c q)=false:=rfl
theorem Ah (n:Bool) {v:Value} {av:AV} (r:VR p v av) {F:KB} (hq:qc (bif n then !av.isNone else av.isNone) λt=>F t p.H) (hT:∀b,F b p.H->T (.bool b) p.s):wpAny M.m A (compareOp (bif n then .IsNot else .Is) v .none) T bK p.s:=by
 have h:=hT _ (ch hq)
 rw [<-C4 r] at h
 cases n
 .exact is_none_gen h
 .exact isnot_none_gen h
theorem IY (n:Bool) {c:Nat} (h:aA M x sc e):aA M (bif n then X.bL x else X.isNone x) sc (.Compare e [bif n then .IsNot else .Is] [.Constant .none c q'] q):=λ{zz zz zz env zz Q} z hq=>.eq (arm_eval_Compare ..) λT hT=>
 wpAny_bind (h (Q:=λav H=>qc (bif n then !av.isNone else av.isNone) (Oc Q H)) z (by cases n<;>exact hq) _ λp1 v av q1 r a=>by
 show wpAny _ _ (compareChain q v [_] [markedBehindIn _ _ (eval _ env)]) _ _ _
 rw [markedBehindIn_of_false mw]
 exact wpAny_bind (wpAny_holding (wpAny_pure (wpAny_bind (wpAny_standAt (wpAny_operate' (Ah (F:=λb H=>Q (.bool b) H) n r q1 λb hb=>hT p1 _ (.bool b) hb rfl a)))))))
theorem FE (n:Bool) {c:Nat} (h:aA M x sc e):d7 M (bif n then X.bL x else X.isNone x) sc (.Compare e [bif n then .IsNot else .Is] [.Constant .none c q'] q):=λ{zz zz zz zz zz F} z hq T hT=>wpAny_isTrue_Compare1
 (h (Q:=λav H=>qc (bif n then !av.isNone else av.isNone) λb=>cR (.bool b) H (F (.bool b))) z (by cases n<;>exact hq) _ λp1 v av q1 r a=>wpAny_pure (Ah (F:=λb H=>cR (.bool b) H (F (.bool b))) n r q1 λb hb=>wpAny_truthy_bool (hT p1 (.bool b) b (.bool b) (PY hb) a))) mw
end
section
variable {M:Mo} {k:Nat} {A:Around} {p p':Pt} {sc:Scope} {env:Env} {loc:Loc} {Q:KV} {T:Value->Shared->Prop} {x y z:X} {e f g:Expr} {q q':Pos}
theorem kM {s:Expr} (h:be s=true) (o i:Value):subscripted s false o i=operate [o,i] (getItem o i):=by
 cases s<;>first | rfl | exact absurd h aaE
theorem j9 {j:Int} (h:qt j=true):∃n:Nat,j=n:=match j,h with
 | .ofNat n,_=>⟨n,rfl⟩
theorem La {j:Int} (h:SS j=true):∃n:Nat,j=n:=match j,h with
 | .ofNat n,_=>⟨n,rfl⟩
theorem se {α:Type} {l:List α} {i:Nat} {a:α} (h:l[i]? =some a):i < l.length:=(aaZ.mp h).1
theorem Qm (hu:A.units+102 < cLine) (R:Rep M p) {e f:Expr} {v u:Value} {x y:AV} (r:VR p v x) (ru:VR p u y) (hp:be f=true) {F:AV->Prop} (hq:Oq x y p.H F) (hT:∀v z t,F z->VR p v z->T v (p.at p.h t).s):wpAny M.m A (subscriptTail e f v u) T bK p.s:=by
 cases x with
 | tup xs=>
  obtain ⟨j,rfl,hq⟩:=aG hq
  obtain ⟨hj,hq⟩:=eW hq
  refine wW (La hj) λn e0=>?_;subst e0
  refine aw (bE hq) λz hz hf=>?_
  refine wW ru λt e1=>?_;subst e1
  refine aS r.tup λa vs e2 it hr=>?_;subst e2
  refine aw (hr.get hz) λv' NC rv=>?_
  have lt:n < vs.size:=by rw [aB hr];exact se hz
  refine tail_any it.typeIs slot_tuple_getitem.lookup (getItem_tuple it (j:=n) (abd (by decide: -(2 ^ 63)<=(0:Int)) (aa0 n)) (Int.lt_trans (abA.mpr (Nat.blt_eq.mp hj)) (by decide:((1000000:Nat):Int) < 2 ^ 63)) ?_ (by rw [abh] at NC;exact NC) (hT v' z p.s.toks hf rv)) (kM hp _ _)
  unfold seqIndex?
  rw [if_neg (Int.not_lt.mpr (aa0 n))]
  exact if_pos (aaV.mpr ⟨decide_eq_true (aa0 n),decide_eq_true (abA.mpr lt)⟩)
 | ref a=>
  obtain ⟨rfl,la⟩:=r
  have h:=hq.run
  cases e:p.H.g a with
  | list xs=>
   replace h:=(e)▸h
   refine bU (aG h) λj e3 h=>?_;subst e3
   obtain ⟨hj,h⟩:=eW h
   refine wW (j9 hj) λn e4=>?_;subst e4
   refine aw (bE h) λz hz hf=>?_
   obtain ⟨t,rfl⟩:=ru
   refine aq (aL R la e) λvs k1 l=>?_
   refine aw (l.l.get hz) λv' NC rv=>?_
   exact tail_any (ck l.at_).typeIs slot_list_getitem.lookup (wpAny_getItem_list (ck l.at_) (aa0 n) (Int.lt_trans (abA.mpr (se hz)) (rX l.len)) (by rw [abh] at NC;exact NC) (hT v' z p.s.toks hf rv)) (kM hp _ _)
  | dict es=>
   replace h:=(e)▸h
   refine qj h λfit h=>?_
   refine aw (bE h) λz hz hf=>?_
   refine fV (cF R la e) λzz ds ep D=>?_
   exact tail_any (MZ D) slot_dict_getitem.lookup (wg hu R la e ru fit hz λu t ru=>hT u z t hf ru) (kM hp _ _)
  | _=>replace h:=(e)▸h;exact h.elim
 | _=>exact hq.elim
theorem G7 (hp:be f=true) (h1:aA M x sc e) (h2:aA M y sc f):aA M (X.idx x y) sc (.Subscript e f q):=λz hq T hT=>Subscript_ (h1 z hq _ λp1 v av q1 r a=>
 h2 (z.after a) q1 _ λp2 u bv q2 r2 b=>Qm z.cx.room b.rep (b.rel r) r2 hp q2 λv y t hy ry=>hT (p2.at p2.h t) v y hy ((After.toks b.rep t:After M cY p2 _).rel ry) ((a.trans b).trans (.toks b.rep t)))
theorem gE {o:Expr} {n:Str} {whole:Sem Value} (h:cj o=true):attributeBase o n env whole=whole:=by
 cases o with
 | Call f as kw p=>
  cases f with
  | Name=>cases as<;>cases kw<;>first | rfl | exact absurd h aaE
  | _=>rfl
 | _=>rfl
theorem IO {f:String} {v:AV}:∀{ds:List DictEntry} {fs:List (String × AV)},L2 (ut p) ds fs->uc f fs=some v->∃u,getL (Str.ofString f) ds=some (some u)/\VR p u v:=by
 intro ds fs l
 induction l with
 | nil=>exact λe=>(nn e).elim
 | @cons d mu l _ a b ih=>
  obtain ⟨m,u⟩:=mu
  intro e
  obtain ⟨t,ht⟩:=a.key
  have hs:d.key.isStr (Str.ofString f)=(m==f):=by rw [ht];exact cE m f
  have e:(bif m==f then some u else uc f _)=some v:=e
  cases q:m==f with
  | true=>
   rw [q] at e hs
   obtain rfl:=aay e
   exact ⟨d.val,by unfold getL;rw [List.find?_cons,hs],a.val⟩
  | false=>
   rw [q] at e hs
   refine aw (ih e) λz h1 h2=>?_
   refine ⟨z,?_,h2⟩
   unfold getL at h1 ⊢
   rw [List.find?_cons,hs]
   cases w:l.find? λx=>x.key.isStr (Str.ofString f) with
   | some e'=>rw [w] at h1;exact h1
   | none=>replace h1:=(w)▸h1;replace h1:(if (l.any λx=>x.refKey)=true then none else some none)=some (some z):=h1;exact absurd h1 (by split<;>simp)
theorem VR.handed {v:Value} {x:AV} (r:VR p v x):handedIn v=true:=by
 cases x with
 | none=>obtain rfl:=show v= .none from r;rfl
 | bool=>obtain rfl:=show v= .bool _ from r;rfl
 | unset=>exact r.elim
 | tup=>refine cZ r λzz zz e0 zz=>?_;subst e0;rfl
 | ref=>obtain ⟨rfl,_⟩:=r;rfl
 | _=>obtain ⟨_,rfl⟩:=r;rfl
theorem CL {C:Addr} (h:JY M.K C) {f:String} (hf:f∈fW):findIn M.K (.ref C) (Str.ofString f)=some none/\takerIn M.K C (Str.ofString f)=some none:=(aaV.mp (aaX.mp h.fld f hf)).imp beq_iff_eq.mp beq_iff_eq.mp
theorem Qt (W:Wd M) (R:Rep M p) {f:String} (hf:f∈fW) {v:Value} {x:AV} (r:VR p v x) {F:AV->Prop} (hq:NM x f p.H F) {expr:Bool} (hT:∀v z t,F z->VR p v z->T v (p.at p.h t).s):wpAny M.m A (getAttr v (Str.ofString f) expr) T bK p.s:=by
 refine bU (bJ hq) λa e0 h=>?_;subst e0
 obtain ⟨rfl,la⟩:=r
 refine cZ (zK h.run) λc fs e h=>?_
 refine aw (bE h) λz hz Xv=>?_
 refine bj (nI R la e) λC ds k1 i=>?_
 have ok:=W.ok.cls c C i.ca
 refine aw (IO i.l hz) λu hu ru=>?_
 exact get_value (W.X.keeps R.base) (⟨i.at_,rfl,rfl,i.dat⟩) (plainGet_of ok.get).1 (findObj_own ok.dict (CL ok hf).1 rfl (by rw [lookIn_dict];exact hu)) ru.handed (hT u z _ Xv ru)
theorem HX (W:Wd M) {f:String} (hf:f∈fW) (hn:cj e=true) (h1:aA M x sc e):aA M (X.fld x f) sc (.Attribute e (Str.ofString f) q):=λ{zz zz zz env zz zz} z hq=>.eq (arm_eval_Attribute ..) λT hT=>by
 exact (gE hn)▸wpAny_bind (h1 z hq _ λp1 v av q1 r a=>wpAny_bind (wpAny_standAt (wpAny_bind (wpAny_holding (Qt W a.rep hf r q1 λv y t hy ry=>wpAny_bind (wpAny_letTemporaryGo (wpAny_pure (hT (p1.at p1.h t) v y hy ((After.toks a.rep t:After M cY p1 _).rel ry) (a.trans (.toks a.rep t))))))))))
end
section
variable {M:Mo} {k:Nat} {A:Around} {p p':Pt} {sc:Scope} {env:Env} {loc:Loc} {Q:KV} {T:Value->Shared->Prop} {x y z:X} {e f g:Expr} {q q':Pos}
theorem rC:∀{vs:List Value} {xs:List AV},Eb vs xs=true->L2 (VR p) vs xs
 | [],[],_=>.nil
 | [],_::_,h=>Bool.noConfusion h
 | v::r,xs,h=>by
  cases v with
  | str s t=>
   cases xs with
   | nil=>exact absurd h aaE
   | cons b xs=>
    cases b with
    | str u=>
     have h:=aaV.mp h
     exact .cons ⟨t,by rw [beq_iff_eq.mp h.1]⟩ (rC h.2)
    | _=>exact absurd h aaE
  | _=>exact absurd h aaE
theorem oa {α:Type} {o:Option α} {f:α->Bool} (h:o.any f=true):∃x,o=some x/\f x=true:=match o,h with
 | some x,h=>⟨x,rfl,h⟩
theorem lq {d:Data} {l:List Value} (h:LL d=some l):∃vs n,d= .seq vs n/\l=vs.toList:=by
 cases d with
 | seq vs n=>exact (bI vs n ⟨rfl,(aay h).symm⟩)
 | _=>cases h
theorem bu {α β:Type} [BEq α] [LawfulBEq α] {a:α} {b:β}:∀{l:List (α × β)},l.lookup a=some b->(a,b)∈l
 | [],h=>nomatch h
 | (x,y)::r,h=>by
  rw [List.lookup_cons] at h
  cases q:a==x<;>rw [q] at h
  .exact .tail _ (bu h)
  .obtain rfl:=aay h
   rw [beq_iff_eq.mp q]
   exact .head _
theorem DU (W:Wd M) (R:Rep M p) {x:String} {v:AV} (hv:Ht.lookup x=some v):∃u,nsIn M.K mainGlobals (Str.ofString x)=some (some u)/\VR p u v:=by
 have h:=aaX.mp W.ok.zS _ (bu hv)
 unfold yt at h
 dsimp only at h
 cases q:nsIn M.K mainGlobals (Str.ofString x) with
 | none=>rw [q] at h;exact absurd h aaE
 | some o=>
  replace h:=(q)▸h
  cases o with
  | none=>exact absurd h aaE
  | some u=>
   refine ⟨u,rfl,?_⟩
   cases v with
   | int i=>
    cases u with
    | int j t=>exact (of_decide_eq_true h)▸⟨t,rfl⟩
    | _=>exact absurd h aaE
   | tup xs=>
    cases u with
    | ref a=>
     refine aw (oa h) λo ho h=>?_
     have h:=aaV.mp h
     refine aw (oa h.2) λl hl h2=>?_
     refine Js (lq hl) λvs n hd e0=>?_;subst e0
     exact .qH ⟨o,(W.X.keeps R.base) _ _ ho,beq_iff_eq.mp h.1,n,hd⟩ (rC h2)
    | _=>exact absurd h aaE
   | _=>exact absurd h aaE
theorem Es (W:Wd M) {n:Str} {x:String} (hg:aU sc n=true) (hx:iZ Ji n=some x):aA M (X.glob x) sc (.Name n q):=λ{zz zz p zz zz zz} z hq T hT=>
 (bE hq).elim λv h=>(DU W z.rep h.1).elim λu s=>eQ W z.eo z.rep hg (((cD hx).1)▸s.1) (hT p u v h.2 s.2 (.refl z.rep))
theorem Ew {i:Int} (h: -1000000000 < i/\i < 1000000000):Builtin.Int.intBits i<=64:=intBits_le_64 (Int.lt_trans (by decide) h.1) (Int.lt_trans h.2 (by decide))
theorem Dh {vs:Array Value} {xs:List AV} (l:L2 (VR p) vs.toList xs) (h:vs.isEmpty=true):xs=[]:=List.eq_nil_of_length_eq_zero ((aB l).symm.trans (Array.isEmpty_iff_size_eq_zero.mp h))
theorem PQ (R:Rep M p) {o:xo} {op:Operator} (ho:LE op=some o) {v u:Value} {x y:AV} (r:VR p v x) (ru:VR p u y) (hq:Qf o x y p.H Q):Ev M A p (binaryOp op v u) Q:=λT hT=>by
 have int:=λi t h=>hT (p.at p.h t) (.int i p.s.toks) (.int i) h ⟨_,rfl⟩ (.toks R t)
 cases op with
 | Add=>
  obtain rfl:=aay ho
  cases x with
  | int i=>
   obtain ⟨j,rfl,h⟩:=aG hq
   obtain ⟨t,rfl⟩:=r;obtain ⟨t',rfl⟩:=ru
   exact PyProof.Rows.add_int (int _ _ h)
  | tup xs=>
   refine Dt (AE hq) λys e0 hz h=>?_;subst e0
   refine aS r.tup λa vs e1 t0 l1=>?_;subst e1;obtain ⟨⟨_,dd,_,sl⟩,i1,rfl,n,rfl⟩:=t0
   refine aS ru.tup λb us e2 t1 l2=>?_;subst e2;obtain ⟨⟨_,T3,_,SH⟩,i2,rfl,n2,rfl⟩:=t1
   by_cases hv:vs.isEmpty=true
   .obtain rfl:=Dh l1 hv
    exact concat_meets ⟨_,i1,rfl⟩ ⟨_,i2,rfl⟩ noFill_tuple_add seq_tuple_add PySem.F.slot_tuple_add PySem.F.entry_tuple_add (PySem.F.args_tuple_add_2 _ _) (tuple_addW0 a b vs us n n2 dd T3 sl SH hv) ⟨i1,i2,hT p _ _ h (.qH ⟨_,i2,rfl,_,rfl⟩ l2) (.refl R)⟩
   .by_cases hw:us.isEmpty=true
    .obtain rfl:=Dh l2 hw
     rw [aaY] at h
     exact concat_meets ⟨_,i1,rfl⟩ ⟨_,i2,rfl⟩ noFill_tuple_add seq_tuple_add PySem.F.slot_tuple_add PySem.F.entry_tuple_add (PySem.F.args_tuple_add_2 _ _) (tuple_addW1 a b vs us n n2 dd T3 sl SH hv hw) ⟨i1,i2,hT p _ _ h (.qH ⟨_,i1,rfl,_,rfl⟩ l1) (.refl R)⟩
    .have g:=dX.push p.h {cls:= .type "tuple",data:= .seq (vs++us)}
     exact concat_meets ⟨_,i1,rfl⟩ ⟨_,i2,rfl⟩ noFill_tuple_add seq_tuple_add PySem.F.slot_tuple_add PySem.F.entry_tuple_add (PySem.F.args_tuple_add_2 _ _) (tuple_addW2 a b vs us n n2 dd T3 sl SH hv hw (by rw [aB l1,aB l2];exact cT hz))
      ⟨i1,i2,hT (p.at _ p.s.toks) _ _ h (.qH ⟨_,Heap.get?_push_size _ rfl,rfl,_,rfl⟩ (by rw [Array.toList_append];exact wX.mono (.grow g.tup) (l1.append l2))) (.grow R g)⟩
  | ref a=>
   obtain ⟨rfl,la⟩:=r
   refine aw (bY hq.run) λxs ea h=>?_
   refine bU (bJ h) λb e3 h=>?_;subst e3
   obtain ⟨rfl,lb⟩:=ru
   refine cV (bY h.run) λys eb hz h=>?_
   refine aq (aL R la ea) λvs n l1=>?_
   refine aq (aL R lb eb) λus n2 l2=>?_
   exact concat_meets ⟨_,l1.at_,rfl⟩ ⟨_,l2.at_,rfl⟩ noFill_list_add seq_list_add PySem.F.slot_list_add PySem.F.entry_list_add (PySem.F.args_list_add_2 _ _) (list_addW _ _ vs us n n2 none none #[] #[] (by rw [aB l1.l,aB l2.l];exact cT hz))
    ⟨l1.at_,l2.at_,g8 (t:=p.s.toks) R (by rw [Array.toList_append];exact l1.l.append l2.l) (by rw [aaD];exact hz) h.run hT⟩
  | _=>exact hq.elim
 | Sub=>
  obtain rfl:=aay ho
  obtain ⟨i,rfl,h⟩:=aG hq
  refine bU (aG h) λj e4 h=>?_;subst e4
  obtain ⟨t,rfl⟩:=r;obtain ⟨t',rfl⟩:=ru
  exact PyProof.Rows.sub_int (int _ _ h)
 | Mult=>
  obtain rfl:=aay ho
  obtain ⟨i,rfl,h⟩:=aG hq
  obtain ⟨j,rfl,hb,h⟩:=aG h
  obtain ⟨t,rfl⟩:=r;obtain ⟨t',rfl⟩:=ru
  exact PyProof.Rows.mul_int (int _ _ h) (hb.elim (λh=>.of_right (Ew h)) λh=>.of_left (Ew h))
 | FloorDiv=>
  obtain rfl:=aay ho
  obtain ⟨i,rfl,h⟩:=aG hq
  obtain ⟨j,rfl,hb,h⟩:=aG h
  obtain ⟨t,rfl⟩:=r;obtain ⟨t',rfl⟩:=ru
  exact PyProof.Rows.floordiv_int (Int.ne_of_gt hb.1) (int _ _ h) (.inl (PyProof.noPylong_small (HJ (b:=1073741824) (Rn (Int.natAbs_of_nonneg (Int.le_of_lt hb.1)) (Int.lt_trans hb.2 (by decide))))))
 | Mod=>
  obtain rfl:=aay ho
  obtain ⟨i,rfl,h⟩:=aG hq
  obtain ⟨j,rfl,hb,h⟩:=aG h
  obtain ⟨t,rfl⟩:=r;obtain ⟨t',rfl⟩:=ru
  exact PyProof.Rows.mod_int (Int.ne_of_gt hb) (int _ _ h)
 | _=>cases ho
theorem GE {o:xo} {op:Operator} (ho:LE op=some o) (h1:aA M x sc e) (h2:aA M y sc f):aA M (X.bin o x y) sc (.BinOp e op f q):=λz hq=>.eq (arm_eval_BinOp ..) λT hT=>wpAny_bind (h1 z hq _ λp1 v av q1 r a=>wpAny_bind (wpAny_holding
 (h2 (z.after a) q1 _ λp2 u bv q2 r2 b=>wpAny_bind (wpAny_standAt (wpAny_operate' ((PQ b.rep ho (b.rel r) r2 q2).cO (a.trans b) hT))))))
theorem iv (W:Wd M) {t c:String} {cv:Value} (ht:t∈DJ) (hc:c∈gQ) (hv:td M.K c=some cv):kitOne M.K (.type t) cv=some (Rv t c):=by
 have h:=aaX.mp (aaX.mp W.ok.Pw t ht) c hc
 rw [hv] at h
 exact beq_iff_eq.mp h
theorem j1 {K:Frag} {c:String} {C:Addr} (h:ca K c=some C):b9 K c=some C/\c∈insts:=by
 unfold ca at h
 split at h
 .rename_i q;exact ⟨h,List.contains_iff_mem.mp q⟩
 .exact nomatch h
theorem KK (W:Wd M) (R:Rep M p) {c:String} {cv:Value} (hc:c∈gQ) (hv:td M.K c=some cv) {v:Value} {x:AV} (r:VR p v x) {F:Bool->Prop} (hq:Dy x c p.H F) (hT:∀b t,F b->T (.bool b) (p.at p.h t).s):wpAny M.m A (call (.builtin "isinstance") [v,cv]) T bK p.s:=by
 have X:M.K.In p.h:=W.X.keeps R.base
 cases x with
 | none=>
  obtain rfl:=show v= .none from r
  exact kia_one kitx_none X trivial (iv W (by decide) hc hv) (λh=>absurd h (by decide)) λt=>hT _ t hq
 | bool b=>
  obtain rfl:=show v= .bool b from r
  exact kia_one kitx_bool X trivial (iv W (by decide) hc hv) (λh=>nomatch h) λt=>hT _ t (by
   rw [show Rv "bool" c=((c=="bool"||c=="int")||false) from rfl,Bool.or_false];exact hq)
 | int i=>
  obtain ⟨t,rfl⟩:=r
  exact kia_one kitx_int X trivial (iv W (by decide) hc hv) (λh=>nomatch h) λt=>hT _ t hq
 | str i=>
  obtain ⟨t,rfl⟩:=r
  exact kia_one kitx_str X trivial (iv W (by decide) hc hv) (λh=>nomatch h) λt=>hT _ t hq
 | bytes i=>
  obtain ⟨t,rfl⟩:=r
  exact kia_one kitx_bytes X trivial (iv W (by decide) hc hv) (λh=>nomatch h) λt=>hT _ t hq
 | tup i=>
  refine cf r.tup λa vs e0 t0 zz=>?_;subst e0;refine cV t0 λo ho h1 zz=>?_
  exact kia_one kitx_tuple X ⟨_,ho,h1⟩ (iv W (by decide) hc hv) (λh=>nomatch h) λt=>hT _ t hq
 | ref a=>
  obtain ⟨rfl,la⟩:=r
  have h:=hq.run
  cases e:p.H.g a with
  | list xs=>
   replace h:=(e)▸h
   refine aq (aL R la e) λvs n l=>?_
   exact kia_one kitx_list X ⟨_,l.at_,rfl⟩ (iv W (by decide) hc hv) (λh=>nomatch h) λt=>hT _ t h
  | dict xs=>
   replace h:=(e)▸h
   refine fV (cF R la e) λzz vs n l=>?_
   exact kia_one kitx_dict X ⟨_,l.at_,rfl⟩ (iv W (by decide) hc hv) (λh=>nomatch h) λt=>hT _ t h
  | inst d fs=>
   rw [e] at h
   refine bj (nI R la e) λC ds n i=>?_
   have ok:=W.ok.cls d C i.ca
   have kt:=aaX.mp (aaX.mp W.ok.qd d (j1 i.ca).2) c hc
   rw [hv,(j1 i.ca).1] at kt
   exact kia_one (kitx_own (ox:=⟨.ref C,some (p.W.δ a),.plain,#[]⟩) ok.get ok.dict ok.cls W.ok.Iq W.ok.takes ok.mro) X ⟨i.at_,rfl,rfl,i.dat⟩ (beq_iff_eq.mp kt) (λh=>nomatch h) λt=>hT _ t h
  | no _=>replace h:=(e)▸h;exact h.elim
 | unset=>exact hq.elim
theorem rP {r:Option (Option Value)} {f:Addr} (h:Dk r=some f):r=some (some (.ref f)):=by
 cases r with
 | none=>exact (nn h).elim
 | some r=>cases r with
  | none=>exact (nn h).elim
  | some v=>cases v with
   | ref a=>exact congrArg (λa:Addr=>some (some (Value.ref a))) (aay h)
   | _=>exact (nn h).elim
theorem cS {K:Frag} {x:String} {a:Addr} (h:b9 K x=some a):nsIn K mainGlobals (Str.ofString x)=some (some (.ref a)):=rP h
theorem GT (W:Wd M) (eo:aI M p sc env loc) (R:Rep M p) {c:String} (hc:c∈gQ) (hg:aU sc (Str.ofString c)=true):∃cv,td M.K c=some cv/\∀{T:Value->Shared->Prop},T cv p.s->wpAny M.m A (eval (.Name (Str.ofString c) q) env) T bK p.s:=by
 cases hb:R0.contains c with
 | true=>
  refine ⟨.type c,by rw [td,hb];rfl,λhT=>eG W eo R hg (vw W ?_) ?_ hT⟩
  .exact (by decide:∀b∈R0,b∈lF) c (List.contains_iff_mem.mp hb)
  .exact (by decide+kernel:∀b∈R0,bootBuiltins (Str.ofString b)=some (.type b)) c (List.contains_iff_mem.mp hb)
 | false=>
  refine aw (oa (aaX.mp (aaX.mp W.ok.Pw "int" (by decide)) c hc)) λcv hv zz=>?_
  refine ⟨cv,hv,λhT=>?_⟩
  rw [td,hb] at hv
  refine aw (bm hv) λC hC e0=>?_;subst e0
  exact eQ W eo R hg (cS hC) hT
end
section
variable {M:Mo} {k:Nat} {A:Around} {p p':Pt} {sc:Scope} {env:Env} {loc:Loc} {Q:KV} {T:Value->Shared->Prop} {x y z:X} {xs:XL} {e f g:Expr} {es:List Expr} {q q':Pos}
theorem bq {pos:Pos}:∀{es:List Expr},(∀e∈es,be e=true)->(backTo pos (starEach es env)).any (·.1)=false
 | [],_=>rfl
 | e::es,h=>by
  rw [aT (h e (.head _))]
  show (false||(backTo pos (starEach es env)).any (·.1))=false
  rw [bq λe he=>h e (.tail _ he)];rfl
structure jC (M:Mo) (xs:XL) (sc:Scope) (es:List Expr):Prop where
 pl:∀e∈es,be e=true
 snd:qP M xs sc es
 nil:es=[]->xs=XL.nil
theorem jm {f:Value} {pos:Pos} (L:jC M xs sc es) (z:ng M k A p sc env loc) {Q:KL} (hq:xs (Γc M k) loc p.H Q) {T:Args->Shared->Prop} (hT:∀p' vs bF,Q bF p'.H->L2 (VR p') vs bF->After M cY p p'->T ⟨vs,[]⟩ p'.s):
  wpAny M.m A (evalArgs f true (backTo pos (starEach es env)) []) T bK p.s:=by
 have fin:=L.snd pos z hq (λvs s'=>T ⟨vs,[]⟩ s') hT
 cases es with
 | nil=>
  rw [L.nil rfl] at hq
  exact evalArgs_nil3 (hT p [] [] hq .nil (.refl z.rep))
 | cons e es=>
  rw [aT (L.pl e (.head _))] at fin ⊢
  exact evalArgs_plain fin
theorem rj {f:Value} {vs:List Value} {s:Shared} (h:codeAny M.m A (.call f ⟨vs,[]⟩) (FT T) s):wpAny M.m A (call f vs) T bK s:=by
 refine wpAny_call (codeAny_mono h λr s' z=>?_)
 rcases r with e | (v | _ | _ | _)<;>first | exact z | exact z.elim
theorem JE {v:Value} {g:Str} {q1:Pos} (W:Wd M) (hg:aU sc g=true) (hn:nsIn M.K mainGlobals g=some (some v)) (hk:keepIn M.K v=true) (L:jC M xs sc es) {QL:KL} (z:ng M k A p sc env loc) (hq:xs (Γc M k) loc p.H QL)
  (hT:∀p' vs bF,QL bF p'.H->L2 (VR p') vs bF->After M cY p p'->codeAny M.m A (.call v ⟨vs,[]⟩) (FT T) p'.s):wpAny M.m A (eval (.Call (.Name g q1) es [] q) env) T bK p.s:=by
 refine bf (arm_eval_Call_Name' ..) ?_
 have gy:((backTo q (starEach es env)).any (·.1)||(backToKw q (keywordEach [] env)).any (·.1.isNone))=false:=by rw [bq L.pl];rfl
 exact wpAny_bind (eQ W z.eo z.rep hg hn (callWith_of gy (keeps_K hk) (jm L z hq λp1 vs bF q r a=>⟨W.X.keeps a.rep.base,rj (hT p1 vs bF q r a)⟩)))
theorem CW (W:Wd M) {f:String} (hf:f∈pU):∃a,fa M.K f=some a/\keepIn M.K (.ref a)=true/\isFn M.K (.ref a)=true/\nsIn M.K mainGlobals (Str.ofString f)=some (some (.ref a)):=by
 refine aw (oa (aaX.mp W.ok.fk f hf)) λa ha h=>?_
 have h:=aaV.mp h
 refine ⟨a,?_,h.1,h.2,cS ha⟩
 unfold fa
 rw [(by decide:∀g∈pU,FZ.lookup g=none) f hf]
 exact ha
theorem Dj (W:Wd M) {n:Str} {f:String} {q1:Pos} (hg:aU sc n=true) (hf:iZ pU n=some f) (L:jC M xs sc es):aA M (X.call f xs) sc (.Call (.Name n q1) es [] q):=λ{zz A zz zz zz zz} z hq T hT=>
 have s:=cD hf
 (CW W s.2).elim λa h=>JE W hg ((s.1)▸h.2.2.2) h.2.1 L z hq λp1 vs bF q r b=>q.1 a h.1 A p1.W p1.s vs z.cx.call b.rep r T (hT.step b)
theorem GU.under (c:Cx k A) (args:Args):GU k (A.under (.builtin "type.__call__" args)):=by
 have w0:(Code.builtin "type.__call__" args).weight<=1:=by
  unfold Code.weight
  split
  .exact aaF _
  .exact abp _
 refine ⟨c.hd,?_,aaw (abb (abj w0 _) _) ?_,?_⟩
 .show pushGuards [] A.guards=some []
  rw [c.guards];rfl
 .have:=c.depth
  exact zF this (by simp+arith)
 .have:=c.units
  show A.units+1+_<=_
  exact zF this (by simp+arith)
theorem ww {K:Frag} {C:Addr} {q m:String} (h:Lw K C q m=true):∃f,fa K q=some f/\findIn K (.ref C) (Str.ofString m)=some (some (.ref f))/\isFn K (.ref f)=true/\keepIn K (.ref f)=true:=(oa h).imp λf h=>⟨h.1,(aaV.mp h.2).imp beq_iff_eq.mp aaV.mp⟩
theorem P3 (W:Wd M) {c q:String} {C:Addr} (hc:ca M.K c=some C) (hq:Fi.lookup c=some q) {vs:List Value} {bF:List AV} (cx:Cx k A) (R:Rep M p) (r:L2 (VR p) vs bF) (hQ:pJ M q k (.ref p.n::bF) (p.H.push (.inst c [])) (VK p.n Q)) (hT:z9 M p Q T):
  codeAny M.m A (.call (.ref C) ⟨vs,[]⟩) (FT T) p.s:=by
 refine aw (oa (aaX.mp W.ok.MG _ (bu hq))) λC' hC h=>?_
 cases hC.symm.trans (j1 hc).1
 refine jd (ww h) λf hf hi S6 zz=>?_
 have X:=W.X.keeps R.base
 obtain ⟨WM,H,hh,g,d,t,os⟩:=p
 refine make_core (makes_of X (W.ok.cls c C hc).makes) (looks_findIn X hi) (λself=>bind_fn X self (beq_iff_eq.mp S6)) (.inl rfl) ?_
 have z:=(show After M cY ⟨WM,H,hh,g,d,t,os⟩ ⟨WM,H,(hh.push emptyDict).push (instObj C hh.objs.size),g,d,t,os⟩ from After.grow (t:=t) R ((dX.push hh emptyDict).trans (dX.push (hh.push emptyDict) (instObj C hh.objs.size)))).tell (o:= .inst c []) (x:=hh.objs.size+1) (dx:=hh.objs.size) (aba _) (aaF _) (R.new (aba _)) (R.new (aaF _)) R.sz
  (c9 C ([]) 0 ⟨hc,by rw [((Heap.size_push ..).symm)];exact Heap.get?_push_size _ rfl,Heap.get?_push_of_some _ (Heap.get?_push_size _ rfl),.nil,List.nodup_nil,abp _⟩)
 refine codeAny_mono (hQ f hf _ _ ⟨_,g,d,t,os⟩ _ (.under cx _) z.1.rep (.cons z.2 (z.1.oQ r)) (λv s'=>v= .none/\T (.ref (hh.objs.size+1)) s') λp' v av h rv b=>?_) λr s' z=>?_
 .obtain ⟨rfl,h⟩:=h
  exact ⟨rv,hT p' _ _ h (b.rel z.2) (z.1.trans b)⟩
 .rcases r with e | (v | _ | _ | _)<;>first | exact z.elim | exact ⟨z.1,z.2⟩
theorem GZ (W:Wd M) {n:Str} {c:String} {q1:Pos} (hg:aU sc n=true) (hf:iZ insts n=some c) (L:jC M xs sc es):aA M (X.new c xs) sc (.Call (.Name n q1) es [] q):=by
 intro k A p env loc Q z hq T hT
 have s:=cD hf
 refine aw (oa (aaX.mp (aaX.mp W.ok.qd c s.2) "int" (by decide))) λD hD zz=>?_
 have hc:ca M.K c=some D:=by unfold ca;exact (if_pos (List.contains_iff_mem.mpr s.2))▸hD
 exact JE W hg ((s.1)▸cS hD) (W.ok.cls c D hc).keep L z hq λp1 vs bF q r b=>(bE q).elim λkey h=>P3 W hc h.1 z.cx b.rep r h.2.1 (hT.step b)
theorem v8 {v:Value} {n:Str} {b:String} {q1:Pos} (W:Wd M) (hb:b∈lF) (hg:aU sc n=true) (hn:n=Str.ofString b) (hv:bootBuiltins n=some v) (ht:(∃T,v= .type T)\/∃i,v= .builtin i) (L:jC M xs sc es) {QL:KL} (z:ng M k A p sc env loc) (hq:xs (Γc M k) loc p.H QL)
  (hT:∀p' vs bF,QL bF p'.H->L2 (VR p') vs bF->After M cY p p'->wpAny M.m A (call v vs) T bK p'.s):wpAny M.m A (eval (.Call (.Name n q1) es [] q) env) T bK p.s:=by
 refine bf (arm_eval_Call_Name' ..) ?_
 refine wpAny_bind (eG W z.eo z.rep hg ((hn)▸vw W hb) hv ?_)
 have gy:=bq (env:=env) (pos:=q) L.pl
 rcases ht with ⟨t,rfl⟩ | ⟨i,rfl⟩
 .exact PySem.callWith_type gy (jm L z hq hT)
 .exact callWith_builtin gy (jm L z hq hT)
end
noncomputable def WX (p:Pt) (f:Flow):Fl->Prop
 | .next=>f= .next
 | .brk=>f= .brk
 | .cont=>f= .cont
 | .ret av=>∃v,f= .ret v/\VR p v av
noncomputable abbrev OG (M:Mo) (sc:Scope) (env:Env) (p:Pt) (Q:KS) (T:Flow->Shared->Prop):Prop:=∀p' f fl loc,Q fl loc p'.H->WX p' f fl->aI M p' sc env loc->After M (fQ sc env) p p'->T f p'.s
noncomputable def Lm (M:Mo) (A:Around) (sc:Scope) (env:Env) (p:Pt) (t:Sem Flow) (Q:KS):Prop:=∀T,OG M sc env p Q T->wpAny M.m A t T bK p.s
noncomputable def ez (M:Mo) (x:S) (sc:Scope) (st:Stmt):Prop:=∀{k:Nat} {A:Around} {p:Pt} {env:Env} {loc:Loc} {Q:KS},ng M k A p sc env loc->x (Γc M k) loc p.H Q->Lm M A sc env p (exec st env) Q
noncomputable def jH (M:Mo) (x:SL) (sc:Scope) (st:List Stmt):Prop:=∀{k:Nat} {A:Around} {p:Pt} {env:Env} {loc:Loc} {Q:KS},ng M k A p sc env loc->x (Γc M k) loc p.H Q->Lm M A sc env p (execs st env) Q
section
variable {M:Mo} {k:Nat} {A:Around} {p p':Pt} {sc:Scope} {env:Env} {loc:Loc} {Q:KS} {T:Flow->Shared->Prop} {x y z:X} {a b:SL} {e f g:Expr} {q q':Pos}
theorem OG.step (hT:OG M sc env p Q T) (a:After M (fQ sc env) p p'):OG M sc env p' Q T:=λq f fl loc h r eo b=>hT q f fl loc h r eo (a.trans b)
theorem Lm.cO {t:Sem Flow} (h:Lm M A sc env p' t Q) (a:After M (fQ sc env) p p') (hT:OG M sc env p Q T):wpAny M.m A t T bK p'.s:=h _ (hT.step a)
theorem KF {h:Heap} {a:Addr} {m:Str->Option Value} (hn:h.Ns a m):∀o,h.get? a=some o->¬gR o:=λo e ⟨zz,vs,k,hd⟩=>by
 refine iS hn λo1 es ep HQ PA zz=>?_
 obtain rfl:=aay (HQ.symm.trans e)
 cases PA.symm.trans hd
theorem KY {h:Heap} {a:Addr} {v:Option Value} (hn:h.IsCell a v):∀o,h.get? a=some o->¬gR o:=λo e ⟨zz,vs,k,hd⟩=>by
 refine aw hn λo1 HQ PA=>?_
 obtain rfl:=aay (HQ.symm.trans e)
 cases PA.symm.trans hd
theorem EZ {h:Heap} {a:Addr} {m:Str->Option Value} {v:Option Value} (hn:h.Ns a m) (hc:h.IsCell a v):False:=by
 refine iS hn λo1 es ep HQ PA zz=>?_
 refine aw hc λo2 S9 hd2=>?_
 obtain rfl:=aay (HQ.symm.trans S9)
 cases PA.symm.trans hd2
theorem aI.IW (eo:aI M p sc env loc):∀x,fQ sc env x->lN M p x:=λx h=>h.elim (λe=>eo.ns.elim λm hm=>e▸⟨eo.mU.1,eo.mU.2,KF hm.1⟩) λh=>h.elim λy h=>
 have c:=eo.cells y x h.2
 c.1.elim λov hc=>⟨c.2.1,c.2.2,KY hc⟩
theorem oS {x:String} {v:AV}:(loc.upd x v) x=v:=by show (bif _ then _ else _)=_;rw [beq_self_eq_true];rfl
theorem gM {x y:String} {v:AV} (h:y≠x):(loc.upd x v) y=loc y:=by show (bif _ then _ else _)=_;rw [beq_eq_false_iff_ne.mpr h];rfl
theorem ku (eo:aI M p sc env loc) (R:Rep M p) {n:Str} {x:String} (hx:yb sc n=some x) {v:Value} {av:AV} (r:VR p v av) {T:Unit->Shared->Prop} (hT:∀h t,aI M (p.at h t) sc env (loc.upd x av)->After M (fQ sc env) p (p.at h t)->T () (p.at h t).s):
  wpAny M.m A (storeName env n v) T bK p.s:=by
 refine OJ (B9 hx) λe0 zz hk=>?_;subst e0
 refine aw eo.ns λm hm hv=>?_
 have gen:∀{a:Addr} {h:Heap} {t:Nat},Heap.SameBut a p.h h->fQ sc env a->After M (fQ sc env) p (p.at h t):=λhs hb=>.gen R ((hs.1)▸aaF _) eo.IW λy o e nb=>(hs.2 y λq=>nb (q▸hb)).trans e
 refine hk.elim (λhk=>?_) λhk=>?_
 .have kl:=eo.L3 _ hk
  refine wpAny_storeName_local kl hm (λh' Gw b5=>?_) (eo.fn▸rfl)
  have af:=gen (t:=p.s.toks+1) b5 (.inl rfl)
  have Pf:∀{y c},env.cells.lookup y=some c->c≠env.locals:=λhc e=>(eo.cells _ _ hc).1.elim λov z=>EZ hm (e▸z)
  refine hT _ _ {eo with ns:=⟨_,Gw,λy h1 h0 h2=>?_⟩,cells:=λy c hc=>?_,mV:=λy h1 h2=>?_} af
  .by_cases q:y=x
   .cases q
    exact ⟨v,if_pos rfl,by rw [oS];exact af.rel r⟩
   .rw [gM q] at h1 ⊢
    exact (hv y h1 h0 h2).imp λu z=>⟨by rw [if_neg λe=>q (cC e)];exact z.1,af.rel z.2⟩
  .have z:=eo.cells y c hc
   exact ⟨z.1.imp λov hi=>hi.sameBut b5 (Pf hc),z.2⟩
  .have q:y≠x:=λq=>by cases q;rw [kl] at h2;exact h2.elim (λe=>absurd e (by decide)) λe=>absurd e (by decide)
   rw [gM q] at h1 ⊢
   exact (eo.mV y h1 h2).imp λc z=>z.imp λu z=>⟨z.1,z.2.1.sameBut b5 (Pf z.1),af.rel z.2.2⟩
 .have kc:=eo.zL _ hk
  refine ug (eo.KM _ (.inl kc)) λc hc=>?_
  refine qj (eo.cells _ c hc) λt0 hp=>?_;obtain ⟨ov,hi⟩:=t0
  refine wpAny_storeName_cell eo.fn kc hc hi λh' Wh b5=>?_
  have af:=gen (t:=p.s.toks) b5 (.inr ⟨_,hk,hc⟩)
  refine hT _ _ {eo with ns:=⟨_,hm.sameBut b5 (λe=>EZ hm (e▸hi)),λy h1 h0 h2=>?_⟩,cells:=λy c' Gi=>?_,mV:=λy h1 h2=>?_} af
  .have q:y≠x:=λq=>by cases q;rw [kc] at h2;exact absurd h2 (by decide)
   rw [gM q] at h1 ⊢
   exact (hv y h1 h0 h2).imp λu z=>⟨z.1,af.rel z.2⟩
  .by_cases q:c'=c
   .subst q
    exact ⟨⟨_,Wh⟩,hp⟩
   .have z:=eo.cells y c' Gi
    exact ⟨z.1.imp λov hi=>hi.sameBut b5 q,z.2⟩
  .by_cases q:y=x
   .cases q
    exact (bI c v ⟨hc,Wh,by rw [oS];exact af.rel r⟩)
   .rw [gM q] at h1 ⊢
    exact (eo.mV y h1 h2).imp λc' z=>z.imp λu z=>⟨z.1,z.2.1.sameBut b5 (λe=>q (cC (eo.apart _ _ c (e▸z.1) hc))),af.rel z.2.2⟩
theorem Lm.eq {t t':Sem Flow} (e:t=t') (h:Lm M A sc env p t' Q):Lm M A sc env p t Q:=e▸h
theorem rK:jH M SL.nil sc []:=λ{zz zz p zz loc zz} z hq T hT=>wpAny_pure (hT p _ .next loc hq rfl z.eo (.refl z.rep))
theorem nR {s:S} {r:SL} {st:Stmt} {WF:List Stmt} (h1:ez M s sc st) (h2:jH M r sc WF):jH M (SL.cons s r) sc (st::WF):=λz hq=>.eq (arm_execs_cons ..) λT hT=>wpAny_bind (h1 z hq _ λp1 f fl DC q r eo a=>by
 cases fl with
 | next=>obtain rfl:=show f= .next from r;exact (h2 ⟨z.cx,eo,a.rep⟩ q).cO a hT
 | brk=>obtain rfl:=show f= .brk from r;exact wpAny_pure (hT p1 _ .brk DC q rfl eo a)
 | cont=>obtain rfl:=show f= .cont from r;exact wpAny_pure (hT p1 _ .cont DC q rfl eo a)
 | ret av=>refine bU r λv e0 rv=>?_;subst e0;exact wpAny_pure (hT p1 _ (.ret av) DC q ⟨v,rfl,rv⟩ eo a))
theorem AM:ez M S.cont sc (.Continue q):=λ{zz zz p zz loc zz} z hq=>.eq (arm_exec_Continue ..) λT hT=>wpAny_bind (wpAny_standAt (wpAny_pure (hT p _ .cont loc hq rfl z.eo (.refl z.rep))))
theorem CM:ez M S.brk sc (.Break q):=λ{zz zz p zz loc zz} z hq=>.eq (arm_exec_Break ..) λT hT=>wpAny_bind (wpAny_standAt (wpAny_pure (hT p _ .brk loc hq rfl z.eo (.refl z.rep))))
theorem Dv (h:aA M x sc e):ez M (S.ret x) sc (.Return (some e) q):=λ{zz zz zz env loc zz} z hq=>.eq (arm_exec_Return ..) λT hT=>wpAny_bind (wpAny_standAt (by
 exact wpAny_bind (h z hq _ λp1 v av q r a=>wpAny_pure (hT p1 _ (.ret av) loc q ⟨v,rfl,r⟩ (z.eo.after a) a.no))))
theorem IL {p1 q1:List Stmt} (h1:d7 M x sc e) (h2:jH M a sc p1) (h3:jH M b sc q1):ez M (S.bA x a b) sc (.If e p1 q1 q):=λz hq=>.eq (arm_exec_If ..) λT hT=>wpAny_bind (wpAny_standAt (wpAny_bind (h1 (F:=λzz=>WP _ _ _ _) z hq _ λp1 v c hb hf a=>match c,hf with
 | true,hf=>(h2 (z.after a) hf).cO a.no hT
 | false,hf=>(h3 (z.after a) hf).cO a.no hT)))
theorem c5 {t:Option Expr} {l:Nat} (h:dF e=true):swapsWith e t l env=pure false:=by
 cases e<;>first | rfl | exact (aaE h).elim
theorem hG (eo:aI M p sc env loc):interactive env=false:=by
 unfold interactive
 rw [eo.fn];rfl
theorem uK (h:yP e=true):∃f as kw p,e= .Call f as kw p:=by
 cases e<;>first | exact ⟨_,_,_,_,rfl⟩ | exact (aaE h).elim
theorem BQ (hc:yP e=true) (h:aA M x sc e):ez M (S.expr x) sc (.Expr e q):=by
 obtain ⟨f,as,kw,p0,rfl⟩:=uK hc
 exact λ{zz zz zz env loc zz} z hq=>.eq (exec_Expr env _ q (hG z.eo) (c5 rfl)) λT hT=>wpAny_bind (wpAny_standAt (wpAny_bind (h z hq _ λp1 v av q r a=>by
  have g:=hT p1 _ .next loc q rfl (z.eo.after a) a.no
  cases v with
  | ref=>exact wpAny_bind (wpAny_standAt (wpAny_bind (wpAny_runValue (codeAny_builtin entry_let_go (wpAny_pure (wpAny_pure g))))))
  | _=>exact wpAny_pure g)))
end
section
variable {M:Mo} {k:Nat} {A:Around} {p p':Pt} {sc:Scope} {env:Env} {loc:Loc} {Q:KS} {T:Flow->Shared->Prop} {x y z:X} {e f g:Expr} {q q':Pos}
theorem Dr {n:Str} {v:String} (hx:yb sc n=some v) (hc:dF e=true) (h:aA M x sc e):ez M (S.set v x) sc (.Assign [.Name n q'] e q):=λz hq T hT=>wpAny_Assign_Name (h z hq _ λp1 v av q r a=>
 ku (z.eo.after a) a.rep hx r λh t eo b=>hT _ .next .next _ q rfl eo (a.no.trans b)) (c5 hc)
theorem Iz {f:String} {hsh:Int} {t:Tok} {v:Value} {av:AV} (r:VR p v av):∀{ds:List DictEntry} {fs:List (String × AV)},L2 (ut p) ds fs->L2 (ut p) (putL (Str.ofString f) hsh (.str (Str.ofString f) t) v ds) (wq f av fs)/\ds.any (·.refKey)=false:=by
 intro ds fs l
 induction l with
 | nil=>exact ⟨.cons ⟨⟨t,rfl⟩,r⟩ .nil,rfl⟩
 | @cons d mu _ _ a b ih=>
  obtain ⟨m,u⟩:=mu
  refine ug a.key λt' ht=>?_
  have hs:d.key.isStr (Str.ofString f)=(m==f):=by rw [ht];exact cE m f
  refine ⟨?_,by rw [List.any_cons,ih.2,DictEntry.refKey,ht];rfl⟩
  unfold putL
  rw [hs]
  show L2 _ _ (bif m==f then _ else _)
  cases q:m==f with
  | true=>exact .cons ⟨⟨t',by rw [ht,beq_iff_eq.mp q]⟩,r⟩ b
  | false=>exact .cons a ih.1
theorem zU {f:String} {v:AV}:∀{fs:List (String × AV)},(fs.map (·.1)).Nodup->((wq f v fs).map (·.1)).Nodup/\(wq f v fs).length<=fs.length+1/\∀x∈(wq f v fs).map (·.1),x=f\/x∈fs.map (·.1)
 | [],_=>⟨aa8.mpr ⟨(λh=>(aaU h).elim),.nil⟩,aaF _,λx hx=>.inl (aaK.mp hx)⟩
 | (m,u)::r,hn=>by
  have Gw:=aa8.mp hn
  have ih:=zU (f:=f) (v:=v) Gw.2
  show ((bif m==f then _ else _:List (String × AV)).map _).Nodup/\(bif m==f then _ else _:List (String × AV)).length<=_/\∀x∈(bif m==f then _ else _:List (String × AV)).map _,_
  cases q:m==f with
  | true=>exact ⟨hn,aba _,λx hx=>.inr hx⟩
  | false=>exact ⟨aa8.mpr ⟨λhm=>(ih.2.2 _ hm).elim (λe=>beq_eq_false_iff_ne.mp q e) Gw.1,ih.1⟩,aa1 ih.2.1,λx hx=>(aaH.mp hx).elim (λe=>.inr (e▸ .head _)) λhx=>(ih.2.2 _ hx).imp id (.tail _)⟩
theorem LD (W:Wd M) (R:Rep M p) {f:String} (hf:f∈fW) {a:Nat} (ha:a < p.n) {c:String} {fs:List (String × AV)} (hg:p.H.g a= .inst c fs) (hz:fs.length < 100) {v:Value} {av:AV} (r:VR p v av) {T:Unit->Shared->Prop}
  (hT:∀h t,After M cY p ⟨p.W,p.H.set a (.inst c (wq f av fs)),{p.s with heap:=h,toks:=t}⟩->T () {p.s with heap:=h,toks:=t}):wpAny M.m A (setAttr (.ref (p.W.ρ a)) (Str.ofString f) v) T bK p.s:=by
 refine bj (nI R ha hg) λC ds n i=>?_
 have ok:=W.ok.cls c C i.ca
 have X:=W.X.keeps R.base
 have I:InstAt p.h (p.W.ρ a) ⟨.ref C,some (p.W.δ a),.plain,#[]⟩ C (some (dictOf ds n)):=⟨i.at_,rfl,rfl,i.dat⟩
 refine aw (any_some ok.dict) λcd SQ QQ=>?_
 refine set_plain X I ok.set (osa_open (s:=(p.at p.h (p.s.toks+1)).s) X I ok.over (CL ok hf).2 λb=>
  wpAny_bind (wpAny_pure (wpAny_bind (wpAny_bind (wpAny_loadPart (s:=(p.at p.h (p.s.toks+1)).s) i.at_ (wpAny_bind (looks_clsIn X SQ _ _ _ _ (λzz zz e=>e) ?_)))))))
 rw [QQ]
 refine wpAny_pure (a:=some (p.W.δ a)) (wpAny_bind (wpAny_pure (wpAny_bind ?_)))
 refine wpAny_bind (wpAny_bind (wpAny_askSetting (wpAny_pure (wpAny_bind (wpAny_mkText (wpAny_bind (wpAny_loadPart (s:=(p.at p.h (p.s.toks+1+1)).s) i.dat ?_)))))))
 have rel:=Iz (f:=f) (hsh:=PyData.keyHash M.w.params (Str.ofString f)) (t:=p.s.toks+1) r i.l
 have e0:(!ds.toArray.any (·.key.isStr (Str.ofString f))&&ds.toArray.any (·.refKey))=false:=by
  rw [<-Array.any_toList,<-Array.any_toList]
  rw [rel.2,Bool.and_false]
 dsimp only
 rw [aRefKeyMayBeTheName_at,e0]
 refine wpAny_updatePart (s:=(p.at p.h (p.s.toks+1+1)).s) i.dat ?_
 have U:=putName_dict (Str.ofString f) (PyData.keyHash M.w.params (Str.ofString f)) (.str (Str.ofString f) (p.s.toks+1)) v ds n
 have hs:Heap.SameBut (p.W.δ a) p.h (p.h.update (p.W.δ a) (Obj.putName (Str.ofString f) (PyData.keyHash M.w.params (Str.ofString f)) (.str (Str.ofString f) (p.s.toks+1)) v)):=Heap.SameBut.update ..
 have D':(p.h.update (p.W.δ a) (Obj.putName (Str.ofString f) (PyData.keyHash M.w.params (Str.ofString f)) (.str (Str.ofString f) (p.s.toks+1)) v)).get? _=_:=(Heap.get?_update_self _ i.dat (congrArg _ (U))).trans (congrArg some U)
 have keys:=zU (f:=f) (v:=av) i.nd
 have PN:(wq f av fs).length<=100:=aaw keys.2.1 hz
 refine wpAny_bind (wpAny_lookBehind D' (pastItsLine_dict (by rw [List.size_toArray,rel.1.len];exact aaw PN (by decide))) (wpAny_pure (hT _ _ (After.set R ha (Iy hg) (.inr rfl) (aaS hs.1.symm) (B:=cY) (λzz h=>h.elim) (λx o e n zz=>(hs.2 x n).trans e) rfl λq e l=>?_))))
 subst e
 have ne:p.W.ρ a≠p.W.δ a:=λe=>by
  have h:=i.at_
  rw [e,i.dat] at h
  exact nomatch h
 exact (c9 C _ _ ⟨i.ca,(hs.2 _ ne).trans i.at_,D',rel.1.imp λzz zz z=>z.mono l,keys.1,PN⟩)
theorem BG (W:Wd M) {n:String} (hf:n∈fW) (hc:dF f=true) (h1:aA M x sc e) (h2:aA M y sc f):ez M (S.dQ x n y) sc (.Assign [.Attribute e (Str.ofString n) q'] f q):=λ{zz zz zz zz loc zz} z hq T hT=>
 plainObj_wpAny_Assign_Attribute (h2 z hq _ λp1 v av q r a=>h1 (z.after a) q _ λp2 u bv q2 r2 b=>by
  refine bU (bJ q2) λc e0 h=>?_;subst e0
  obtain ⟨rfl,lb⟩:=r2
  refine cZ (zK h.run) λd fs hg h=>?_
  refine qj (eW h) λhz h=>?_
  exact LD W b.rep hf lb hg (Nat.blt_eq.mp hz) (b.rel r) λh' t d=>have a4:=(a.trans b).trans d;hT _ .next .next loc h.run rfl (z.eo.after a4) a4.no) (c5 hc)
theorem L2.set {α β:Type} {r:α->β->Prop}:∀{l:List α} {m:List β} (_:L2 r l m) (i:Nat) {a:α} {b:β},r a b->L2 r (l.set i a) (m.set i b):=by
 intro l m h
 induction h with
 | nil=>exact λzz zz zz zz=>.nil
 | cons p q ih=>
  intro i a b r
  cases i with
  | zero=>exact .cons r q
  | succ i=>exact .cons p (ih i r)
theorem nN {a:Nat} (R:Rep M p) (ha:a < p.n) {xs:List AV} (e:p.H.g a= .list xs):p.W.δ a=p.W.ρ a:=by
 have:=R.obj a ha
 rw [e] at this
 exact this.1
theorem nC (R:Rep M p) {a:Nat} (ha:a < p.n) (hn:(p.H.g a).qE=false) {h':Heap} {t:Nat} (hs:Heap.SameBut (p.W.ρ a) p.h h') {o:AO} (no:o.qE=false) (ok:∀q:Pt,q=⟨p.W,p.H.set a o,{p.s with heap:=h',toks:=t}⟩->fM p q->Cp M q (p.W.ρ a) (p.W.δ a) o):
  After M cY p ⟨p.W,p.H.set a o,{p.s with heap:=h',toks:=t}⟩:= .set R ha hn (.inl rfl) (aaS hs.1.symm) (λzz h=>h.elim) (λx o e n zz=>(hs.2 x n).trans e) no ok
theorem oj (R:Rep M p) {a:Nat} (ha:a < p.n) {xs:List AV} (e:p.H.g a= .list xs) {j:Int} {i:Nat} (ej:j=i) {t:Tok} {u:Value} {y:AV} (ru:VR p u y) (h1:i < xs.length) {T:Unit->Shared->Prop}
  (hT:∀h t,After M cY p ⟨p.W,p.H.set a (.list (xs.set i y)),{p.s with heap:=h,toks:=t}⟩->T () {p.s with heap:=h,toks:=t}):wpAny M.m A (setItem (.ref (p.W.ρ a)) (.int j t) u) T bK p.s:=by
 refine aq (aL R ha e) λvs k1 l=>?_
 have ty:p.s.TypeIs (.ref (p.W.ρ a)) "list":=⟨_,l.at_,rfl⟩
 have hi:i < vs.size:=by rw [aB l.l];exact h1
 unfold setItem
 try with_reducible refine wpAny_holding ?_
 refine wpAny_bind (wpAny_sequenceKey ty (by decide) (wpAny_bind (wpAny_callSpecial?_slot (name:=Str.ofString "__setitem__") ty slot_list_setitem (wpAny_call_entry slot_list_setitem ty entry_list_setitem ?_ (args_list_setitem _ _ _)))))
 show wpAny _ _ (Builtin.List.listSubscript? (.int j t) >>= _) _ _ p.s
 refine wpAny_bind (wpAny_listSubscript_int (fitsIndex_of (ej▸aa0 i) (ej▸Int.lt_trans (abA.mpr h1) (rX l.len))) ?_)
 subst ej
 refine wpAny_bind (wpAny_bind (wpAny_seqItemAt l.at_ (items:=vs) (n:=k1) rfl (wpAny_pure ?_)))
 rw [Array.getElem?_eq_getElem hi]
 refine wpAny_bind (wpAny_setSeqItemAt l.at_ rfl (wpAny_pure ⟨.none,rfl,wpAny_pure (hT _ _ (nC R ha (sG e) (Heap.SameBut.update ..) rfl λq e' li=>?_))⟩))
 subst e'
 exact ⟨nN R ha e,_,_,get?_update_seq l.at_ (·.setIfInBounds i u),by rw [Array.toList_setIfInBounds];exact (wX.mono li l.l).set i (ru.mono li),by rw [List.length_set];exact l.len⟩
theorem Kw {d:Addr} {o:Obj} {h h':Heap} (ho:h.get? d=some o) (hc:o.cls≠ .type "tuple") (hs:Heap.SameBut d h h'):dH h h':=λx ob e q=>(hs.2 x λz=>by
 subst z
 obtain rfl:=aay (ho.symm.trans e)
 exact hc q.1).trans e
theorem Cs (hu:A.units+100 < cLine) {d:Addr} {ds:Array DictEntry} {ep:Nat} {es:List (AV × AV)} (D:jU M p d ds ep es) {v u:Value} {x y:AV} (r:VR p v x) (ru:VR p u y) (fit:bB x es) (hz:es.length < lim) {T:Unit->Shared->Prop}
  (hT:∀h t,Heap.SameBut d p.h h->(∀q:Pt,fM p q->q.h=h->∃ds ep,jU M q d ds ep (bT x y es))->T () (p.at h t).s):wpAny M.m A (dictSet d v u) T bK p.s:=by
 unfold dictSet
 try with_reducible refine wpAny_holding ?_
 refine wpAny_bind (yy (um hu) r fit.1 λt=>?_)
 unfold dictSetHashed
 try with_reducible refine wpAny_holding ?_
 have lt:fM p (p.at p.h t):= .grow λzz zz e zz=>e
 refine wpAny_bind (ud (p:=p.at p.h t) hu (D.mono lt λzz e=>e) (r.mono lt) fit ?_)
 have nd:=zi (k:=x) (v:=y) D.nd
 have len:(bT x y es).length<=lim:=aaw j2 hz
 have set:=vg x y es
 cases q:gB x es with
 | none=>
  replace set:=(q)▸set
  refine wpAny_bind (wpAny_rule (wpAny_updateDictKeys (s:=(p.at p.h t).s) D.at_ rfl ?_ (by rw [<-Array.length_toList,D.l.len];exact cT (aaI hz))))
  exact hT _ t (Heap.SameBut.update ..) λq li e=>⟨ds.push ⟨wE M.w.params x,v,u⟩,ep+1,by rw [e];exact Heap.get?_update_self _ D.at_ rfl,by rw [set,Array.toList_push];exact (D.l.imp λzz zz z=>z.mono li).snoc ⟨r.mono li,fit.1,rfl,ru.mono li⟩,nd,len⟩
 | some i=>
  rw [q] at set
  refine wpAny_bind (wpAny_rule (wpAny_bind (wpAny_updateDict (s:=(p.at p.h t).s) D.at_ rfl (wpAny_point ?_))))
  exact hT _ t (Heap.SameBut.update ..) λq li e=>⟨ds.modify i λe=>{e with val:=u},ep,by rw [e];exact Heap.get?_update_self _ D.at_ rfl,by
   rw [set,Array.toList_modify]
   exact L2.modify (λa b z=>⟨z.key,z.kk,z.hash,ru.mono li⟩) i (D.l.imp λzz zz z=>z.mono li),nd,len⟩
theorem pE (hu:A.units+102 < cLine) (R:Rep M p) {a:Nat} (ha:a < p.n) {es:List (AV × AV)} (e:p.H.g a= .dict es) {v u:Value} {x y:AV} (r:VR p v x) (ru:VR p u y) (fit:bB x es) (hz:es.length < lim) {T:Unit->Shared->Prop}
  (hT:∀h t,After M cY p ⟨p.W,p.H.set a (.dict (bT x y es)),{p.s with heap:=h,toks:=t}⟩->T () {p.s with heap:=h,toks:=t}):wpAny M.m A (setItem (.ref (p.W.ρ a)) v u) T bK p.s:=by
 refine fV (cF R ha e) λeδ ds ep D=>?_
 have ty:=MZ D
 unfold setItem
 try with_reducible refine wpAny_holding ?_
 refine wpAny_bind (wpAny_sequenceKey ty (by decide) (wpAny_bind (wpAny_callSpecial?_slot (name:=Str.ofString "__setitem__") ty slot_dict_setitem (wpAny_call_entry slot_dict_setitem ty entry_dict_setitem ?_ (args_dict_setitem _ _ _)))))
 refine wpAny_bind (wpAny_notOrdered_dict ty ?_)
 show wpAny _ _ (dictSet (p.W.ρ a) v u >>= _) _ _ p.s
 exact wpAny_bind (Cs (aaz (aba _) (rU hu (by decide))) D r ru fit hz λh t hs D'=>wpAny_pure ⟨.none,rfl,wpAny_pure (hT _ _ (nC R ha (fF e) hs rfl λq e' li=>⟨eδ,D' q li (congrArg _ (e'))⟩))⟩)
theorem BO (hc:dF g=true) (h1:aA M x sc e) (h3:aA M y sc f) (h2:aA M z sc g):ez M (S.b3 x y z) sc (.Assign [.Subscript e f q'] g q):=λ{zz zz zz zz loc zz} z hq T hT=>
 wpAny_Assign_Subscript (h2 z hq _ λp1 v av q r a=>h1 (z.after a) q _ λp2 u bv q2 r2 b=>h3 (z.after (a.trans b)) q2 _ λp3 w cv q3 r3 d=>by
  refine bU (bJ q3) λc e0 h=>?_;subst e0
  obtain ⟨rfl,lb⟩:=d.rel r2
  have h:=h.run
  cases hg:p3.H.g c with
  | dict es=>
   replace h:=(hg)▸h
   refine xD h λfit hz h=>?_
   exact pE z.cx.room d.rep lb hg r3 ((b.trans d).rel r) fit hz λh' t d2=>have a4:=((a.trans b).trans d).trans d2;hT _ .next .next loc h.run rfl (z.eo.after a4) a4.no
  | list xs=>
   replace h:=(hg)▸h
   refine bU (aG h) λj e1 h=>?_;subst e1
   refine xD (eW h) λhj hz h=>?_
   refine wW (j9 hj) λi e2=>?_;subst e2
   obtain ⟨t,rfl⟩:=r3
   exact oj d.rep lb hg rfl ((b.trans d).rel r) hz λh' t d2=>have a4:=((a.trans b).trans d).trans d2;hT _ .next .next loc h.run rfl (z.eo.after a4) a4.no
  | _=>replace h:=(hg)▸h;exact h.elim) (c5 hc)
end
end
section
open PySem
theorem kO {M:Model} {Γ:Ctx} {p:Pos} {t:Sem Fin} {fs:List Frame} {s s':Shared} {e:End} (h:Runs M Γ p t fs s e s'):s.heap.objs.size<=s'.heap.objs.size:=by
 induction h<;>(try simp only [Shared.setGen,Heap.size_push,Heap.size_update] at*)<;>first | exact aaF _ | assumption | exact Nat.le_of_succ_le (by assumption) | (apply aaw<;>assumption)
theorem tN {M:Model} {Γ:Ctx} {p:Pos} {s s':Shared} {r:Result} (h:Returns M Γ p s r s'):s.heap.objs.size<=s'.heap.objs.size:=kO h
theorem w5 {M:Model} {Γ:Ctx} {p:Pos} {g:Nat} {r:Resume} {s s':Shared} {res:GenResult} (h:Wakes M Γ p g r s res s'):s.heap.objs.size<=s'.heap.objs.size:=by
 unfold Wakes at h
 split at h
 .exact h.elim
 .split at h
  .obtain ⟨e₁,s₁,hr,_,_,rfl⟩:=h;exact (kO hr:(s.setGen g .running).heap.objs.size<=s₁.heap.objs.size)
  .exact (h.2)▸aaF _
  .exact (h.2)▸aaF _
 .refine tj h λe₁ s₁ hr zz zz e0=>?_;subst e0;exact (kO hr:(s.setGen g .running).heap.objs.size<=s₁.heap.objs.size)
 .rw [h.2];exact aaF _
 .rw [h.2];exact aaF _
open Sem in
theorem Hf {α:Type} (M:Model) (Γ:Ctx) (n:Nat) (t:Sem α):∀(Q:α->Pos->Shared->Prop) (E:Value->Pos->Shared->Prop) (p:Pos) (s:Shared),n<=s.heap.objs.size->wp M Γ t Q E p s->
  wp M Γ t (λa p' s'=>n<=s'.heap.objs.size/\Q a p' s') (λe p' s'=>n<=s'.heap.objs.size/\E e p' s') p s:=by
 induction t with
 | pure a=>intro Q E p s hn h;exact ⟨hn,h⟩
 | raise e=>intro Q E p s hn h;exact ⟨hn,h⟩
 | unsupported _=>intro Q E p s _ h;exact h
 | finish _=>intro Q E p s _ h;exact h
 | rule _ k ih=>intro Q E p s hn h;exact ih () Q E p s hn h
 | «at» p' k ih=>intro Q E p s hn h;exact ih () Q E p' s hn h
 | load a _ k ih=>intro Q E p s hn h;refine aw h λo ho h=>?_;exact ⟨o,ho,ih o Q E p s hn h⟩
 | update a _ f k ih=>intro Q E p s hn h;exact ⟨h.1,ih () Q E p _ (by simpa [Heap.size_update] using hn) h.2⟩
 | loadIfAlive a k ih=>intro Q E p s hn h;exact ih _ Q E p s hn h
 | point _ k ih=>intro Q E p s hn h;exact ih () Q E p s hn h
 | register _ _=>intro Q E p s _ h;exact h
 | alloc o k ih=>intro Q E p s hn h;exact ih _ Q E p _ (by simp only [Heap.size_push];exact abx hn) h
 | fresh k ih=>intro Q E p s hn h;exact ih _ Q E p _ hn h
 | ask k ih=>intro Q E p s hn h;exact ih _ Q E p s hn h
 | choose src m k ih=>intro Q E p s hn h;exact ⟨h.1,ih _ Q E p _ hn h.2⟩
 | os q _ k ih=>intro Q E p s hn h;exact ih _ Q E p _ hn h
 | call c hd _ _ k ih=>intro Q E p s hn h;refine cZ h λr s' hr h=>?_;exact (bI r s' ⟨hr,ih r Q E p s' (aaw hn (tN hr)) h⟩)
 | handled own k ih=>intro Q E p s hn h;exact ih _ Q E p s hn h
 | genState g k ih=>intro Q E p s hn h;refine aw h λst hs h=>?_;exact ⟨st,hs,ih _ Q E p s hn h⟩
 | newGen c k ih=>intro Q E p s hn h;exact ih _ Q E p _ hn h
 | resume g r _ k ih=>intro Q E p s hn h;refine cZ h λres s' hw h=>?_;exact (bI res s' ⟨hw,ih res Q E p s' (aaw hn (w5 hw)) h⟩)
 | yield _ _ _ _=>intro Q E p s _ h;exact h
 | stack k ih=>intro Q E p s hn h;exact ih _ Q E p s hn h
 | fork _ _=>intro Q E p s _ h;exact h
 | thread k ih=>intro Q E p s hn h;exact ih _ Q E p s hn h
 | await _ _ _ _ _=>intro Q E p s _ h;exact h
theorem aP {α:Type} {M:Model} {A:Around} {s:Shared} {t:Sem α} {Q:α->Shared->Prop} {E:Value->Shared->Prop}
  (h:wpAny M A t (λa s'=>s.heap.objs.size<=s'.heap.objs.size->Q a s') (λe s'=>s.heap.objs.size<=s'.heap.objs.size->E e s') s):wpAny M A t Q E s:=
 λΓ p hΓ=>Sem.wp_mono M Γ _ (λzz zz zz h=>h.2 h.1) (λzz zz zz h=>h.2 h.1) _ _ (Hf M Γ s.heap.objs.size t _ _ p s (aaF _) (h Γ p hΓ))
end
section
open PySem PySem.W PySem.Spec PySem.Calls PyProof.Rows PySem.SeqAt
section
variable {M:Mo} {k:Nat} {A:Around} {B:Addr->Prop} {p p':Pt} {sc:Scope} {env:Env} {loc loc':Loc} {Q:KS} {T:Flow->Shared->Prop} {x y z:X} {e f g:Expr} {q q':Pos}
theorem gG {y:Str} (h:Ao e=some y):∃p,e= .Name y p:=by
 cases e<;>first | exact ⟨_,by rw [aay h]⟩ | exact nomatch h
theorem CP:∀{es:List Expr} {xs:List String},jA sc es=some xs->(assignEach es env).length=xs.length/\(assignEach es env).findIdx? (·.1)=none/\(assignEach es env).map (·.2)=es.map λe=>assign e env
 | [],xs,h=>by obtain rfl:=aay h;exact ⟨rfl,rfl,rfl⟩
 | e::es,xs,h=>by
  refine aw (bb h) λy h1 h=>?_
  refine aw (bb h) λx h2 h=>?_
  refine aw (bm h) λys h3 e0=>?_;subst e0
  obtain ⟨p,rfl⟩:=gG h1
  have ih:=CP h3
  exact ((show assignEach (.Name y p::es) env=(false,assign (.Name y p) env)::assignEach es env from rfl))▸⟨congrArg (· +1) ih.1,by rw [List.findIdx?_cons,ih.2.1];rfl,congrArg (_::·) ih.2.2⟩
theorem rh:∀{es:List Expr} {xs:List String} {vs:List Value} {bF:List AV} {loc:Loc} {p:Pt},jA sc es=some xs->aI M p sc env loc->Rep M p->L2 (VR p) vs bF->eu xs bF loc=some loc'->∀{T:Unit->Shared->Prop},
  (∀h t,aI M (p.at h t) sc env loc'->After M (fQ sc env) p (p.at h t)->T () (p.at h t).s)->wpAny M.m A (assignInOrder (es.map λe=>assign e env) vs) T bK p.s
 | [],xs,vs,bF,loc,p,hg,eo,R,r,hu,T,hT=>by
  obtain rfl:=aay hg
  cases r with
  | nil=>obtain rfl:=aay hu;exact wpAny_pure (hT _ _ eo (.refl R))
  | cons=>cases hu
 | e::es,xs,vs,bF,loc,p,hg,eo,R,r,hu,T,hT=>by
  refine aw (bb hg) λy h1 h=>?_
  refine aw (bb h) λx h2 h=>?_
  refine aw (bm h) λys h3 e0=>?_;subst e0
  obtain ⟨q,rfl⟩:=gG h1
  cases r with
  | nil=>cases hu
  | @cons v a vs bF r rs=>
   exact wpAny_bind (wpAny_holding (wpAny_assign_Name (ku eo R h2 r λh t Ch a1=>rh h3 Ch a1.rep (a1.oQ rs) hu λh t x9 a2=>hT h t x9 (a1.trans a2))))
theorem jz:∀{xs:List String} {vs:List AV} {loc loc':Loc},eu xs vs loc=some loc'->xs.length=vs.length
 | [],[],_,_,_=>rfl
 | _::xs,_::vs,_,_,h=>congrArg (· +1) (jz (xs:=xs) h)
theorem AB {es:List Expr} {xs:List String} {n:Nat} (eo:aI M p sc env loc) (R:Rep M p) (hh:A.handled=none) (hg:jA sc es=some xs) {v:Value} {av:AV} (r:VR p v av) (hb:fT (.tup xs) av loc=some loc') {T:Unit->Shared->Prop}
  (hT:∀h t,aI M (p.at h t) sc env loc'->After M (fQ sc env) p (p.at h t)->T () (p.at h t).s):wpAny M.m A (assign (.Tuple es n q) env v) T bK p.s:=by
 cases av with
 | tup vs=>
  refine xD (CP (env:=env) hg) λl1 l2 l3=>?_
  refine cf r.tup λx items e0 it hr=>?_;subst e0
  refine bf (arm_assign_Tuple ..) ?_
  refine wpAny_bind (wpAny_standAt ?_)
  unfold unpack
  rw [l2,l3,l1,jz hb,<-aB hr]
  refine wpAny_bind (wpAny_holding (aP (unpackItems_tuple hh it λh' he hz=>?_)))
  have a1:After M cY p (p.at h' p.s.toks):= .grow R ⟨λx o e=>he x o (aaJ (Heap.lt_size e)) e,hz⟩
  exact rh hg (eo.after a1) a1.rep (a1.oQ hr) hb λh t x9 a2=>hT h t x9 (a1.no.trans a2)
 | _=>cases hb
theorem vY (eo:aI M p sc env loc) (R:Rep M p) (hh:A.handled=none) {tg:Tg} (ht:EO sc e=some tg) {v:Value} {av:AV} (r:VR p v av) (hb:fT tg av loc=some loc') {T:Unit->Shared->Prop}
  (hT:∀h t,aI M (p.at h t) sc env loc'->After M (fQ sc env) p (p.at h t)->T () (p.at h t).s):wpAny M.m A (assign e env v) T bK p.s:=by
 cases e with
 | Name y q=>
  refine aw (bm ht) λx h e0=>?_;subst e0
  obtain rfl:=aay hb
  exact wpAny_assign_Name (ku eo R h r hT)
 | Tuple es n q=>
  refine aw (bm ht) λxs h e1=>?_;subst e1
  exact AB eo R hh h r hb hT
 | _=>exact nomatch ht
theorem pF {es:List Expr} {n:Nat} (h:im e=true):swappedStores [.Tuple es n q] e env=pure none:=by
 cases e<;>first | rfl | exact (aaE h).elim
theorem A3 {es:List Expr} {xs:List String} {n:Nat} (hg:jA sc es=some xs) (hc:dF e=true) (hn:im e=true) (h:aA M x sc e):ez M (S.bR xs x) sc (.Assign [.Tuple es n q'] e q):=λ{zz zz zz env zz zz} z hq T hT=>
 Assign_Tuple (h z hq _ λp1 v av w r a=>(bE w).elim λl s=>AB (z.eo.after a) a.rep z.cx.hd hg r s.1 λh t eo b=>hT _ .next .next l s.2 rfl eo (a.no.trans b)) (c5 (env:=env) (t:=some (.Tuple es n q')) (l:=q.line) hc) (pF hn)
noncomputable def MO (p:Pt) (it a i:Nat):AO->Prop
 | .list _=>p.h.IsListIter it (p.W.ρ a) i
 | .dict es=>∃ds ep,p.h.get? (p.W.ρ a)=some (VD ds ep)/\p.h.IsKeyIter it (p.W.ρ a) i es.length ep
 | _=>False
noncomputable def o4 (p:Pt) (it i:Nat):Src->Prop
 | .tup xs=>∃t items,IsTupIter p.h it t i/\IsTup p.h t items/\L2 (VR p) items.toList xs
 | .obj a=>a < p.n/\MO p it a i (p.H.g a)
 | .rev a=>a < p.n/\∃xs,p.H.g a= .list xs/\i<=xs.length/\p.h.IsRevIter it (p.W.ρ a) ((xs.length:Int) - 1 - i)
 | .Gm n=>(i:Int)<=n/\IsRangeIter p.h it i (n - i) 1
theorem w9 {h h':Heap} {a t:Addr} {i:Nat} (x:IsTupIter h a t i) (e:∀o,h.get? a=some o->h'.get? a=some o):IsTupIter h' a t i:=x.imp λo x=>⟨e _ x.1,x.2⟩
theorem iI {es:List (AV × AV)} {all:List AV} (h:ft (.dict es)=some all):(∀e∈es,kk e.1=1)/\all=es.map (·.1):=by
 refine qj (bg h) λh1 h2=>?_
 exact ⟨λe he=>beq_iff_eq.mp (aaX.mp h1 e he),(aay h2).symm⟩
theorem o4.keep {it i:Nat} {z:Src} {all:List AV} {n:Nat} (x:o4 p it i z) (a:After M B p p') (ho:¬Own p it) (hb:¬B it) (st:cy z all n p.H) (ye:cy z all n p'.H):o4 p' it i z:=by
 have ki:∀o,p.h.get? it=some o->p'.h.get? it=some o:=λo e=>a.keep _ o e ho hb
 cases z with
 | tup xs=>
  refine aS x λt items h1 h2 h3=>?_
  exact (bI t items ⟨w9 h1 ki,sH a.tup h2,a.oQ h3⟩)
 | obj b=>
  obtain ⟨hl,x⟩:=x
  refine ⟨aax hl a.le,?_⟩
  have s1:ft (p.H.g b)=some all:=st.1
  have s2:jB (p.H.t b) (p.H.g b)=n:=st.2
  have t1:ft (p'.H.g b)=some all:=ye.1
  have t2:jB (p'.H.t b) (p'.H.g b)=n:=ye.2
  cases e:p.H.g b with
  | list xs=>
   rw [e] at x s2
   cases e':p'.H.g b with
   | list ys=>show p'.h.IsListIter _ _ _;exact (a.ρ b hl)▸x.at ki
   | dict es=>rw [e'] at t2;exact nomatch s2.trans t2.symm
   | _=>replace t1:=(e')▸t1;cases t1
  | dict es=>
   rw [e] at x s1 s2
   refine cZ x λds ep h1 h2=>?_
   cases e':p'.H.g b with
   | list ys=>replace t2:=(e')▸t2;exact nomatch t2.trans s2.symm
   | dict Zi=>
    rw [e'] at t1 t2
    have l:Zi.length=es.length:=by
     have:=congrArg List.length ((iI t1).2.symm.trans (iI s1).2)
     rwa [aaB,aaB] at this
    refine (bI ds ep ⟨?_,?_⟩)
    .rw [a.ρ b hl];exact (a.lW b hl).2 (Nat.succ.inj (t2.trans s2.symm)) _ h1
    .rw [a.ρ b hl,l];exact h2.at ki
   | _=>replace t1:=(e')▸t1;cases t1
  | _=>replace x:=(e)▸x;exact x.elim
 | rev b=>
  refine yB x λhl xs e hi x=>?_
  have s1:mB (p.H.g b)=some all:=st.1
  have t1:mB (p'.H.g b)=some all:=ye.1
  replace s1:=(e)▸s1
  refine ⟨aax hl a.le,?_⟩
  cases e':p'.H.g b with
  | list ys=>
   replace t1:=(e')▸t1
   rw [(List.reverse_inj.mp (aay (t1.trans s1.symm))),a.ρ b hl]
   exact ⟨xs,rfl,hi,x.at ki⟩
  | _=>replace t1:=(e')▸t1;cases t1
 | Gm m=>exact ⟨x.1,ki _ x.2⟩
end
section
variable {M:Mo} {k:Nat} {A:Around} {B:Addr->Prop} {p p':Pt} {sc:Scope} {env:Env} {loc loc':Loc} {T:Value->Shared->Prop} {x y z:X} {e f g:Expr} {q q':Pos}
theorem DT {α β:Type} [DecidableEq α] (knd:PySem.KeyKind M.prog M.w α) (enc:β->AV) (dec:β->α) (m:Nat) (f:∀d e,mO M p d e->kk e.1=m->∃b,knd.is (dec b) d.key=true/\d.hash=knd.hash (dec b)/\e.1=enc b):
  ∀{ds:List DictEntry} {es:List (AV × AV)},L2 (mO M p) ds es->(∀e∈es,kk e.1=m)->∃kvs:List (α × Value),Pairs knd ds kvs/\(∀e∈ds,∃k,knd.is k e.key=true/\e.hash=knd.hash k)/\∃ts:List β,es.map (·.1)=ts.map enc/\kvs.map (·.1)=ts.map dec:=λl=>by
 induction l with
 | nil=>exact λzz=>⟨[],.nil,λzz h=>((aaU h).elim),[],rfl,rfl⟩
 | cons a l ih=>
  intro g
  refine Ap (ih λe he=>g e (.tail _ he)) λkvs h1 h2 ts e1 e2=>?_
  refine cV (f _ _ a (g _ (.head _))) λb i hh e=>?_
  exact ⟨(dec b,_)::kvs,.cons i rfl h1,λe he=>(aaH.mp he).elim (λe'=>e'▸⟨_,i,hh⟩) (h2 e),b::ts,by rw [aa4,aa4,e,e1],congrArg (_::·) e2⟩
theorem AF {α β:Type} [DecidableEq α] (knd:PySem.KeyKind M.prog M.w α) (enc:β->AV) (dec:β->α) (m:Nat) (inj:∀a b,dec a=dec b->a=b) (f:∀d e,mO M p d e->kk e.1=m->∃b,knd.is (dec b) d.key=true/\d.hash=knd.hash (dec b)/\e.1=enc b)
  {d:Addr} {ds:Array DictEntry} {ep:Nat} {es:List (AV × AV)} (D:jU M p d ds ep es) (hk:∀e∈es,kk e.1=m):∃(kvs:List (α × Value)) (ts:List β),p.h.DictAt knd d kvs ep/\es.map (·.1)=ts.map enc/\kvs.map (·.1)=ts.map dec:=by
 refine Ap (DT knd enc dec m f D.l hk) λkvs h1 h2 ts e1 e2=>?_
 refine (bI kvs ts ⟨(bI _ ds ⟨D.at_,⟨rfl,rfl,rfl⟩,rfl,λe he=>h2 e (Array.mem_toList_iff.mpr he),h1,?_⟩),e1,e2⟩)
 have nd:=D.nd
 rw [e1] at nd
 exact (e2)▸List.Pairwise.map _ (λa b q e=>q (inj _ _ e)) (List.Pairwise.of_map _ (λa b q e=>q (congrArg _ (e))) nd:ts.Nodup)
theorem nH {d:Addr} {ds:Array DictEntry} {ep:Nat} {es:List (AV × AV)} (D:jU M p d ds ep es) (hk:∀e∈es,kk e.1=1):∃(kvs:List (Str × Value)) (ts:List String),p.h.DictAt (PySem.strKind M.prog M.w) d kvs ep/\es.map (·.1)=ts.map AV.str/\kvs.map (·.1)=ts.map Str.ofString:=
 AF (PySem.strKind M.prog M.w) AV.str Str.ofString 1 (λzz zz=>cC) (λ⟨dh,dk,dv⟩ (ek,ev) r h=>by
  refine wW (nY h) λt e0=>?_;subst e0
  obtain ⟨⟨u,rfl⟩,_,rfl,_⟩:=r
  exact ⟨t,beq_self_eq_true _,rfl,rfl⟩) D hk
theorem G0 {d:Addr} {ds:Array DictEntry} {ep:Nat} {es:List (AV × AV)} (D:jU M p d ds ep es) (hk:∀e∈es,kk e.1=2):∃(kvs:List (Int × Value)) (ts:List Int),p.h.DictAt (intKind M.prog M.w) d kvs ep/\es.map (·.1)=ts.map AV.int/\kvs.map (·.1)=ts.map id:=
 AF (intKind M.prog M.w) AV.int id 2 (λzz zz h=>h) (λ⟨dh,dk,dv⟩ (ek,ev) r h=>by
  refine wW (sq h) λt e0=>?_;subst e0
  obtain ⟨⟨u,rfl⟩,_,rfl,_⟩:=r
  exact ⟨t,decide_eq_true rfl,rfl,rfl⟩) D hk
structure It (M:Mo) (p:Pt) (z:Src) (all:List AV) (n it i:Nat):Prop where
 at_:o4 p it i z
 st:cy z all n p.H
 pv:lN M p it
 lt:it < p.h.objs.size
noncomputable abbrev isA (it:Addr):Addr->Prop:=λx=>x=it
theorem uB {it:Addr} {h:Heap} {t:Nat} (R:Rep M p) (pv:lN M p it) (he:Heap.ExtBut it p.h h) (hz:p.h.objs.size<=h.objs.size):After M (isA it) p (p.at h t):= .gen R hz (λx e=>e▸pv) λx o e n=>he x o n e
theorem gg {α:Type} {l:List α} {i:Nat} (h:¬i < l.length):l[i]? =none:=List.getElem?_eq_none (aaP.mp h)
theorem BI {n:Int} {i:Nat} (h:(i:Int) < n):(aN 0 n)[i]? =some (.int (i:Int)):=by
 unfold aN
 rw [abc,List.getElem?_range (Int.lt_toNat.mpr (sR h (Int.sub_zero _).symm))]
 show some (AV.int (0+(i:Int)))=_
 rw [Int.zero_add]
theorem sT (hh:A.handled=none) (R:Rep M p) {z:Src} {all:List AV} {n it i:Nat} (I:It M p z all n it i) {T:Option Value->Shared->Prop} (item:∀v av h t,all[i]? =some av->VR (p.at h t) v av->o4 (p.at h t) it (i+1) z->After M (isA it) p (p.at h t)->T (some v) (p.at h t).s)
  (fin:∀h t,all[i]? =none->After M (isA it) p (p.at h t)->T none (p.at h t).s):wpAny M.m A (pyNext (.ref it)) T bK p.s:=by
 have AX:all[i]? =none->wpAny M.m A (pyNext (.ref it)) (λo s'=>o=none/\∃h',s'={p.s with heap:=h'}/\Heap.ExtBut it p.h h') bK p.s->wpAny M.m A (pyNext (.ref it)) T bK p.s:=λhi hw=>
  aP (wpAny_mono hw (λo s' ⟨e1,h',e2,he⟩ hz=>by subst e1 e2;exact fin h' p.s.toks hi (uB R I.pv he hz)) λzz zz z=>z.elim)
 have am:∀{h':Heap} {t:Nat},Heap.SameBut it p.h h'->After M (isA it) p (p.at h' t):=λhs=>uB R I.pv hs.extBut (aaS hs.1.symm)
 obtain ⟨x,⟨s1,s2⟩,pv,_⟩:=I
 cases z with
 | tup xs=>
  refine aS x λt items h1 h2 h3=>?_
  cases s1
  have ne:t≠it:=λe=>h2.elim λo h=>pv.tup o (e▸h.1) ⟨h.2.1,items,h.2.2⟩
  by_cases hi:i < all.length
  .refine aw (h3.get (aaR hi)) λv hv rv=>?_
   replace hv:=(abh)▸hv
   refine next_tuple_item h1 h2 hv λh' pX b5=>?_
   have a:=am (t:=p.s.toks) b5
   exact item v _ h' _ (aaR hi) (a.rel rv) (bI t items ⟨pX,h2.extBut b5.extBut ne,a.oQ h3⟩) a
  .exact AX (gg hi) (next_tuple_end hh h1 h2 (by rw [<-aB h3] at hi;exact Array.getElem?_eq_none (aaP.mp hi)) λh' he=>⟨rfl,h',rfl,he⟩)
 | obj b=>
  obtain ⟨hl,x⟩:=x
  have s1:ft (p.H.g b)=some all:=s1
  cases hg:p.H.g b with
  | list xs=>
   rw [hg] at x s1
   cases s1
   obtain ⟨vs,k1,l⟩:=aL R hl hg
   by_cases hi:i < all.length
   .refine aw (l.l.get (aaR hi)) λv hv rv=>?_
    rw [abh] at hv
    refine wpAny_pyNext_list_item x (ck l.at_) hv λh' pX b5=>?_
    have a:=am (t:=p.s.toks) b5
    exact item v _ h' _ (aaR hi) (a.rel rv) ⟨hl,by show MO _ _ _ _ (p.H.g b);rw [hg];exact pX⟩ a
   .exact AX (gg hi) (wpAny_pyNext_list_end hh x (ck l.at_) (by rw [<-aB l.l] at hi;exact Array.getElem?_eq_none (aaP.mp hi)) λh' he=>⟨rfl,h',rfl,he⟩)
  | dict es=>
   rw [hg] at x s1
   refine XC (iI s1) λhk e0=>?_;subst e0
   refine cZ x λds ep ho hit=>?_
   refine fV (cF R hl hg) λzz BD N9 D=>?_
   cases ho.symm.trans D.at_
   refine aS (nH D hk) λkvs ts hd e1 e2=>?_
   have l1:es.length=ts.length:=by have:=congrArg List.length e1;rwa [aaB,aaB] at this
   have l2:kvs.length=ts.length:=by have:=congrArg List.length e2;rwa [aaB,aaB] at this
   rw [l1,<-l2] at hit
   rw [e1] at AX item
   by_cases hi:i < ts.length
   .have hk:(kvs.map (·.1))[i]? =some (Str.ofString ts[i]):=by rw [e2,abc,aaR hi];rfl
    rw [abc] at hk
    obtain ⟨⟨k,u⟩,ZC,rfl⟩:=bm hk
    refine wpAny_pyNext_dict_item hit hd ZC λkey h' uq pX b5=>?_
    have a:=am (t:=p.s.toks) b5
    refine item key (.str ts[i]) h' _ (by rw [abc,aaR hi];rfl) ?_ ⟨hl,by show MO _ _ _ _ (p.H.g b);rw [hg];exact (bI ds ep ⟨(b5.2 _ (λe=>pv.own ⟨b,hl,.inl e.symm⟩)).trans ho,by rw [l1,<-l2];exact pX⟩)⟩ a
    cases key with
    | str s t=>exact ⟨t,by rw [beq_iff_eq.mp (uq:(s==Str.ofString ts[i])=true)]⟩
    | _=>exact Bool.noConfusion uq
   .exact AX (gg (by rw [aaB];exact hi)) (wpAny_pyNext_dict_end hh hit hd (gg (by rw [l2];exact hi)) λh' he=>⟨rfl,h',rfl,he⟩)
  | _=>rw [hg] at x;exact x.elim
 | rev b=>
  refine yB x λhl xs hg Yi hit=>?_
  have s1:mB (p.H.g b)=some all:=s1
  rw [hg] at s1
  obtain rfl:=aay s1
  refine aq (aL R hl hg) λvs k1 l=>?_
  by_cases hi:i < xs.length
  .have Mv:xs.reverse[i]? =some (xs.reverse[i]'((List.length_reverse).symm▸hi)):=aaR _
   refine aw (l.l.get ((show xs[xs.length - 1 - i]? =xs.reverse[i]? by rw [List.getElem?_reverse hi]).trans Mv)) λv hv rv=>?_
   rw [abh] at hv
   rw [show (xs.length:Int) - 1 - (i:Int)=((xs.length - 1 - i:Nat):Int) from PG hi] at hit
   refine wpAny_pyNext_rev_item hit (ck l.at_) hv λh' pX b5=>?_
   have a:=am (t:=p.s.toks) b5
   exact item v _ h' _ Mv (a.rel rv) ⟨hl,xs,hg,hi,by rw [show (xs.length:Int) - 1 - ((i+1:Nat):Int)=((xs.length - 1 - i:Nat):Int) - 1 from N3 hi];exact pX⟩ a
  .rw [show (xs.length:Int) - 1 - (i:Int)= -1 from by rw [Nat.le_antisymm (aaP.mp hi) Yi,Yl,Int.sub_self];rfl] at hit
   exact AX (gg (by rw [List.length_reverse];exact hi)) (wpAny_pyNext_rev_end hh hit λh' he=>⟨rfl,h',rfl,he⟩)
 | Gm m=>
  obtain rfl:=aay s1
  by_cases hi:(i:Int) < m
  .refine wpAny_pyNext_range_item x.2 (Int.sub_pos_of_lt hi) λh' pX b5=>?_
   exact item _ _ h' _ (BI hi) ⟨p.s.toks,rfl⟩ ⟨hi,by rw [show ((i+1:Nat):Int)=(i:Int)+1 from rfl,show m - ((i:Int)+1)=m - i - 1 from (Int.sub_sub _ _ 1).symm];exact pX⟩ (am (t:=p.s.toks+1) b5)
  .refine AX (gg ?_) (wpAny_pyNext_range_end hh x.2 (Int.sub_nonpos_of_le (Int.not_lt.mp hi)) λh' he=>⟨rfl,h',rfl,he⟩)
   unfold aN
   rw [aaB,List.length_range]
   exact λx=>hi (sR (Int.lt_toNat.mp x) (Int.sub_zero _))
end
section
variable {M:Mo} {k:Nat} {A:Around} {B:Addr->Prop} {p p':Pt} {sc:Scope} {env:Env} {loc loc':Loc} {x y z:X} {e f g:Expr} {q q':Pos}
theorem xl {o:Obj} {c:String} (h:o.cls= .type c) (hc:c≠"tuple"):¬gR o:=λt=>hc (Value.type.inj (h.symm.trans t.1))
noncomputable def qv (M:Mo) (ik:IK) (iV:XL) (sc:Scope) (e:Expr):Prop:=∀{k:Nat} {A:Around} {p:Pt} {env:Env} {loc:Loc} {F:HP->Src->Prop},ng M k A p sc env loc->iV (Γc M k) loc p.H (λvs H=>L7 ik vs (F H))->(∀H z,F H z->∃all,z.vals H=some all)->∀T:Value->Shared->Prop,
 (∀p' it z all,F p'.H z->It M p' z all (z.gU p'.H) it 0->p.h.objs.size<=it->After M cY p p'->T (.ref it) p'.s)->wpAny M.m A (eval e env) (λx s1=>wpAny M.m A (pyIter x) T bK s1) bK p.s
theorem pZ {o:Obj} {c:String} {t:Nat} (R:Rep M p) (hc:o.cls= .type c) (hn:c≠"tuple") (hf:o.isFreed=false):lN M (p.at (p.h.push o) t) p.h.objs.size/\p.h.objs.size < (p.h.push o).objs.size/\(p.h.push o).get? p.h.objs.size=some o/\After M cY p (p.at (p.h.push o) t):=
 have g:=Heap.get?_push_size p.h hf
 ⟨⟨R.new (aaF _),R.sz,λo' e=>by cases g.symm.trans e;exact xl hc hn⟩,by rw [Heap.size_push];exact aaC _,g,.grow R (.push _ _)⟩
theorem yp (W:Wd M) (h:aA M x sc e):qv M .plain (XL.o x) sc e:=λ{zz zz zz zz zz F} z hq hv T hT=>h z hq _ λp1 v av w r a=>by
 cases av with
 | tup xs=>
  have w:F p1.H (.tup xs):=w
  obtain ⟨all,e⟩:=hv _ _ w
  obtain rfl:=aay e
  refine aS r.tup λy vs e0 it hr=>?_;subst e0
  refine iter_tuple it ?_
  refine me (pZ (t:=p1.s.toks) (o:={cls:= .type "tuple_iterator",data:= .fields #[.ref y,rawInt 0]}) a.rep rfl (by decide) rfl) λpv lt g b=>?_
  exact hT (p1.at _ _) _ (.tup xs) xs w ⟨(bI _ _ ⟨⟨_,g,rfl,rfl⟩,sH b.tup it,b.oQ hr⟩),⟨rfl,rfl⟩,pv,lt⟩ a.size (a.trans b)
 | ref c=>
  have w:F p1.H (.obj c):=w
  obtain ⟨all,e⟩:=hv _ _ w
  obtain ⟨rfl,la⟩:=r
  have s1:ft (p1.H.g c)=some all:=e
  cases hg:p1.H.g c with
  | list xs=>
   refine aq (aL a.rep la hg) λvs k1 l=>?_
   refine wpAny_pyIter_list (ck l.at_) ?_
   refine me (pZ (t:=p1.s.toks) (o:={cls:= .type "list_iterator",data:= .fields #[.ref (p1.W.ρ c),rawInt 0]}) a.rep rfl (by decide) rfl) λpv lt g b=>?_
   exact hT (p1.at _ _) _ (.obj c) all w ⟨⟨la,by show MO _ _ _ _ (p1.H.g c);rw [hg];exact ⟨_,g,rfl,rfl⟩⟩,⟨e,rfl⟩,pv,lt⟩ a.size (a.trans b)
  | dict es=>
   rw [hg] at s1
   refine fV (cF a.rep la hg) λzz ds ep D=>?_
   refine aS (nH D (iI s1).1) λkvs ts hd e1 e2=>?_
   have l:kvs.length=es.length:=by have h1:=congrArg List.length e1;have h2:=congrArg List.length e2;rw [aaB,aaB] at h1 h2;exact h2.trans h1.symm
   refine wpAny_pyIter_dict (kK W a.rep la (fF hg)) hd ?_
   rw [l]
   refine me (pZ (t:=p1.s.toks) (o:={cls:= .type "dict_keyiterator",data:= .fields #[.ref (p1.W.ρ c),rawInt 0,rawInt es.length,rawInt ep]}) a.rep rfl (by decide) rfl) λpv lt g b=>?_
   exact hT (p1.at _ _) _ (.obj c) all w ⟨⟨la,by show MO _ _ _ _ (p1.H.g c);rw [hg];exact (bI ds ep ⟨Heap.get?_push_of_some _ D.at_,_,g,rfl,rfl⟩)⟩,⟨e,rfl⟩,pv,lt⟩ a.size (a.trans b)
  | _=>rw [hg] at s1;exact nomatch s1
 | _=>exact w.elim
end
section
variable {M:Mo} {k:Nat} {A:Around} {B:Addr->Prop} {p p':Pt} {sc:Scope} {env:Env} {loc loc':Loc} {x y z:X} {e f g:Expr} {q q':Pos}
theorem wP {a b:Int} (h1:0<=a) (h2:a<=b) (h3:b<=lim):Builtin.Range.small a b 1=true/\Builtin.Range.rangeSize a b 1=b - a:=by
 have e:(lim:Nat)=1000000:=rfl
 have fit:∀x:Int,0<=x->x<=1000000->Builtin.Range.rangeFitsLong x=true:=λx h1 h2=>by
  unfold Builtin.Range.rangeFitsLong
  simp only [Bool.and_eq_true,decide_eq_true_eq]
  exact ⟨abd (by decide) h1,Int.lt_of_le_of_lt h2 (by decide)⟩
 have sz:Builtin.Range.rangeSize a b 1=b - a:=by
  rw [rangeSize_one];split
  .rfl
  .exact (Int.sub_eq_zero_of_eq (Int.le_antisymm (Int.not_lt.mp ‹_›) h2)).symm
 refine ⟨?_,sz⟩
 unfold Builtin.Range.small
 rw [sz,fit a h1 (abd h2 (abd h3 (wV (aaS e):))),fit b (abd h1 h2) (abd h3 (wV (aaS e):)),fit 1 (by decide) (by decide),fit (b - a) (Int.sub_nonneg_of_le h2) (abd (Int.sub_le_self _ h1) (abd h3 (wV (aaS e):)))]
 have:b+(1 - 1)=b:=Int.add_zero _
 simp only [Bool.true_and,Bool.or_eq_true,beq_iff_eq]
 right
 rw [if_pos (by decide),this]
 exact fit b (abd h1 h2) (abd h3 (wV (aaS e):))
theorem jC.o (hp:be e=true) (h:aA M x sc e):jC M (XL.o x) sc [e]:=⟨λe' he=>aaK.mp he▸hp,gD hp h lT,λh=>nomatch h⟩
theorem CQ (R:Rep M p) {a b:Int} {t u v:Tok} {r:Addr} (hr:IsRange p.s.heap r a b 1 t u v) (h1:0<=a) (h2:a<=b) (h3:b<=lim) {T:Value->Shared->Prop}
  (hT:∀it h,IsRangeIter h it a (b - a) 1->lN M (p.at h p.s.toks) it->it < h.objs.size->p.h.objs.size<=it->After M cY p (p.at h p.s.toks)->T (.ref it) (p.at h p.s.toks).s):wpAny M.m A (pyIter (.ref r)) T bK p.s:=by
 have sm:=wP h1 h2 h3
 refine wpAny_pyIter_range hr sm.1 ?_
 rw [sm.2]
 refine me (pZ (t:=p.s.toks) (o:={cls:= .type "range_iterator",data:= .fields #[rawInt a,rawInt (b - a),rawInt 1]}) R rfl (by decide) rfl) λpv lt g b=>?_
 exact hT _ _ g pv lt (aaF _) b
theorem xR (W:Wd M) {n:Str} {q1:Pos} (hn:n=Str.ofString "range") (hg:aU sc n=true) (hp:be e=true) (h:aA M x sc e):qv M .aE (XL.o x) sc (.Call (.Name n q1) [e] [] q):=λ{zz zz zz zz zz F} z hq hv T hT=>
 v8 W (b:="range") (by decide) hg hn (v:= .type "range") (by rw [hn];kernel_rfl) (.inl ⟨_,rfl⟩) (.o hp h) z hq λp1 vs bF w r a=>by
  refine bU (g9 w) λv e0 w=>?_;subst e0
  refine bU (aG w) λm e1 w=>?_;subst e1
  obtain ⟨hm,w⟩:=eW w
  have hm:0<=m/\m<=lim:=by
   cases m with
   | ofNat m=>exact ⟨aa0 m,Int.ofNat_le.mpr (Nat.ble_eq.mp hm)⟩
   | negSucc=>exact absurd hm aaE
  refine cf r.aW λu l e2 t0 hl=>?_;subst e2;obtain ⟨t,rfl⟩:=t0
  obtain rfl:=hl.df
  refine call_range_1 ?_
  have a1:After M cY p1 (p1.at _ _):= .grow (t:=p1.s.toks+1+1) a.rep (.push _ {cls:= .type "range",data:= .fields #[.int 0 p1.s.toks,.int m t,.int 1 (p1.s.toks+1)]})
  exact CQ a1.rep (IsRange.new _ _ _ _ _ _ _) (Int.le_refl _) hm.1 hm.2 λit h hi pv lt le b=>hT _ it (.Gm m) (aN 0 m) w ⟨⟨hm.1,hi⟩,⟨rfl,rfl⟩,pv,lt⟩ (aaw (a.trans a1).size le) (a.trans (a1.trans b))
theorem CR (W:Wd M) {n:Str} {q1:Pos} (hn:n=Str.ofString "reversed") (hg:aU sc n=true) (hp:be e=true) (h:aA M x sc e):qv M .rev (XL.o x) sc (.Call (.Name n q1) [e] [] q):=λ{zz zz zz zz zz F} z hq hv T hT=>
 v8 W (b:="reversed") (by decide) hg hn (v:= .type "reversed") (by rw [hn];kernel_rfl) (.inl ⟨_,rfl⟩) (.o hp h) z hq λp1 vs bF w r a=>by
  refine bU (g9 w) λv e0 w=>?_;subst e0
  refine bU (bJ w) λc e1 w=>?_;subst e1
  refine cf r.aW λu l e2 t0 hl=>?_;subst e2;obtain ⟨rfl,lc⟩:=t0
  obtain rfl:=hl.df
  obtain ⟨all,e⟩:=hv _ _ w
  have s1:mB (p1.H.g c)=some all:=e
  cases hg:p1.H.g c with
  | list xs=>
   refine aq (aL a.rep lc hg) λws k1 l=>?_
   refine call_reversed_list (ck l.at_) ?_
   refine me (pZ (t:=p1.s.toks) (o:=revObj (p1.W.ρ c) ((ws.size:Int) - 1)) a.rep rfl (by decide) rfl) λpv lt g b=>?_
   refine wpAny_pyIter_revIter ⟨_,g,rfl,rfl⟩ (hT (p1.at _ _) _ (.rev c) all w ⟨⟨lc,xs,hg,abp _,_,g,rfl,?_⟩,⟨e,rfl⟩,pv,lt⟩ a.size (a.trans b))
   rw [aB l.l]
   show _=Data.fields #[_,rawInt ((xs.length:Int) - 1 - 0)]
   rw [Int.sub_zero]
   rfl
  | _=>rw [hg] at s1;exact nomatch s1
theorem Ce {it i:Nat} {z:Src} (x:o4 p it i z) {T:Value->Shared->Prop} (h:T (.ref it) p.s):wpAny M.m A (pyIter (.ref it)) T bK p.s:=by
 cases z with
 | tup xs=>refine cZ x λt items h1 zz=>?_;exact wpAny_pyIter_tupleiter (t:=t) (i:=i) h1 h
 | obj a=>
  obtain ⟨_,x⟩:=x
  revert x
  cases p.H.g a with
  | list=>exact λx=>wpAny_pyIter_listiter x h
  | dict=>exact λt0=>cZ t0 λzz zz zz x=>wpAny_pyIter_keyiter x h
  | _=>exact λx=>x.elim
 | rev a=>refine yB x λzz zz zz zz x=>?_;exact wpAny_pyIter_revIter x h
 | Gm n=>exact wpAny_pyIter_rangeiter x.2 h
noncomputable def DQ:List String:=["tuple_iterator","list_iterator","dict_keyiterator","list_reverseiterator","range_iterator"]
theorem o4.cls {it i:Nat} {z:Src} (x:o4 p it i z):∃o c,p.h.get? it=some o/\o.cls= .type c/\c∈DQ:=by
 cases z with
 | tup xs=>refine cZ x λt items t0 zz=>?_;refine cV t0 λo ho hc zz=>?_;exact ⟨o,_,ho,hc,by decide⟩
 | obj a=>
  obtain ⟨_,x⟩:=x
  revert x
  cases p.H.g a with
  | list=>exact λt1=>cV t1 λo ho hc zz=>(bI o _ ⟨ho,hc,by decide⟩)
  | dict=>exact λ⟨_,_,_,o,ho,hc,_⟩=>(bI o _ ⟨ho,hc,by decide⟩)
  | _=>exact λx=>x.elim
 | rev a=>refine Bp x λzz zz zz zz o ho hc zz=>?_;exact ⟨o,_,ho,hc,by decide⟩
 | Gm n=>exact (bI _ _ ⟨x.2,rfl,by decide⟩)
theorem o4.im {it i:Nat} {z:Src} (x:o4 p it i z):∀o,p.h.get? it=some o->¬gR o:=λo e=>by
 refine aS x.cls λo' c h1 h2 h3=>?_
 obtain rfl:=aay (h1.symm.trans e)
 exact xl h2 λq=>(by decide:"tuple" ∉ DQ) (q▸h3)
theorem zH {it i:Nat} {z:Src} (x:o4 p it i z) {tg:Tg} (ht:EO sc e=some tg) {v:Value} {T:Unit->Shared->Prop} (h:T () p.s):wpAny M.m A (letOwnedTupleGo e (.ref it) v) T bK p.s:=by
 cases e with
 | Name=>exact wpAny_pure h
 | Tuple=>
  cases v with
  | ref a=>
   refine aS x.cls λo c h1 h2 h3=>?_
   refine wpAny_bind (wpAny_load h1 ?_)
   rw [h2]
   cases hd:o.data with
   | fields vs=>
    dsimp only
    rw [(by decide:∀c∈DQ,(["enumerate","zip","dict_itemiterator","dict_reverseitemiterator","odict_iterator","itertools.zip_longest","itertools.pairwise"].contains c)=false) c h3]
    exact wpAny_pure h
   | _=>exact wpAny_pure h
  | _=>exact wpAny_pure h
 | _=>exact nomatch ht
end
section
variable {M:Mo} {k:Nat} {A:Around} {B:Addr->Prop} {p p':Pt} {sc:Scope} {env:Env} {loc loc':Loc} {x y z:X} {e f g:Expr} {q q':Pos}
theorem tD {α:Type} {t:Sem α} {T:α->Shared->Prop} {E:Value->Shared->Prop} {s:Shared} (h:wpAny M.m A t T bK s):wpAny M.m A t T E s:=wpAny_mono h (λzz zz h=>h) λzz zz z=>z.elim
theorem qS {v:Value} (h:iB e=true):foldedSetIterable e env v=pure v:=by
 cases e<;>first | rfl | exact (aaE h).elim
theorem kY {l:List AV} {i:Nat} {v:AV} (h:l[i]? =some v):l.drop i=v::l.drop (i+1):=by
 refine ug (aaZ.mp h) λhl he=>?_
 rw [List.drop_eq_getElem_cons hl,he]
theorem Fz {tg:Tg} {ik:IK} {iV:XL} {b:SL} {t:Expr} {body:List Stmt} (hs:iB e=true) (ht:EO sc t=some tg) (hi:qv M ik iV sc e) (hb:jH M b sc body):ez M (S.bX tg ik iV b) sc (.For t e body [] q):=λ{k A p env loc Q} z hq=>.eq (arm_exec_For ..) λT hT=>
 wpAny_bind (wpAny_standAt (wpAny_bind (wpAny_mono (hi z hq (λH z h=>(bE h).imp λall h=>h.1) (λZm s0=>wpAny M.m A (runOwn (.forLoop t Zm body [] env) env) T bK s0) λp0 it zz all w I0 ge a0=>by
  refine aw (bE w) λUo e0 w=>?_
  obtain rfl:=aay (I0.st.1.symm.trans e0)
  refine wpAny_runOwn (h:=none) ?_
  have lt:∀{x},fQ sc env x->x≠it:=λh e=>aaP.mpr ge (e▸z.eo.ltB h)
  have VH:¬isA it env.locals:=lt (.inl rfl)
  have Pf:∀x c,env.cells.lookup x=some c->¬isA it c:=λx c hc (e:c=it)=>aaP.mpr ge (e▸(z.eo.cells x c hc).1.elim λzz h=>kX h)
  have fin:∀{f fl l p1},Q fl l p1.H->WX p1 f fl->aI M p1 sc env l->After M (λx=>fQ sc env x\/x=it) p p1->T f p1.s:=λq r eo a=>hT _ _ _ _ q r eo (a.drop λx hx=>hx.imp id λ(e:x=it)=>e▸ge)
  refine codeAny_forLoop_any (A:=A.mark none) (λn s1=>∃p1 l i,s1=p1.s/\n=all.length+1 - i/\lG (b (Γc M k)) tg (cy zz all (zz.gU p0.H)) (all.drop i) l p1.H Q/\aI M p1 sc env l/\It M p1 zz all (zz.gU p0.H) it i/\After M (λx=>fQ sc env x\/x=it) p p1)
   (λn s1 t1=>jr t1 λp1 l i es en w Ch I a1=>?_) (all.length+1) (c9 p0 loc 0 ⟨rfl,rfl,w,z.eo.after a0,I0,a0.no⟩)
  subst es
  refine tD (sT z.cx.hd a1.rep I (λv av h t e1 rv w8 a2=>?_) λh t e1 a2=>?_)
  .rw [kY e1] at w
   refine aw (bE w) λl' Tn w=>?_
   refine tD (zH w8 ht (tD (vY (Ch.jw a2 VH Pf) a2.rep z.cx.hd ht rv Tn λh3 t3 Hx a3=>tD (hb (p:=(p1.at h t).at h3 t3) ⟨z.cx,Hx,a3.rep⟩ w _ λp4 f fl l4 q4 r4 LI a4=>?_))))
   have Q1:=a3.trans a4
   have MW:=(a1.trans (a2.weaken λx hx=>.inr hx)).trans (Q1.weaken λx hx=>.inl hx)
   have ltI:=aax I.lt a2.size
   have JW:=a2.own I.lt I.pv.own
   have next:SC (cy zz all (zz.gU p0.H)) (lG (b (Γc M k)) tg (cy zz all (zz.gU p0.H)) (all.drop (i+1))) Q .next l4 p4.H->∃m,m < n/\∃p1 l i,p4.s=p1.s/\m=all.length+1 - i/\lG (b (Γc M k)) tg (cy zz all (zz.gU p0.H)) (all.drop i) l p1.H Q/\aI M p1 sc env l/\It M p1 zz all (zz.gU p0.H) it i/\After M (λx=>fQ sc env x\/x=it) p p1:=λt0=>qj t0 λWL qf=>
    have QJ:=w8.keep Q1 JW (λh=>lt h rfl) I.st WL
    ⟨all.length+1 - (i+1),by have:=se e1;exact sR (Nat.sub_lt_sub_left (Nat.lt_succ_of_lt this) (aaC _)) en.symm,p4,l4,i+1,rfl,rfl,qf,LI,⟨QJ,WL,⟨Q1.own ltI JW,I.pv.hi,QJ.im⟩,aax ltI Q1.size⟩,MW⟩
   cases fl with
   | next=>obtain rfl:=show f= .next from r4;exact next q4
   | cont=>obtain rfl:=show f= .cont from r4;exact next q4
   | brk=>obtain rfl:=show f= .brk from r4;exact fin (fl:= .next) q4 rfl LI MW
   | ret av=>refine bU r4 λv e2 rv=>?_;subst e2;exact fin (fl:= .ret av) q4 ⟨v,rfl,rv⟩ LI MW
  .rw [List.drop_eq_nil_of_le (List.getElem?_eq_none_iff.mp e1)] at w
   refine bf (arm_execs_nil ..) ?_
   exact wpAny_pure (fin (fl:= .next) w rfl (Ch.jw a2 VH Pf) (a1.trans (a2.weaken λx hx=>.inr hx))))
  (λx s1 h1=>by
   rw [qS hs]
   exact wpAny_bind (wpAny_pure (wpAny_bind (wpAny_standAt (wpAny_bind (wpAny_holding h1)))))) λzz zz z=>z)))
theorem yj {c:X} {b:SL} {body:List Stmt} (hc:d7 M c sc e) (hb:jH M b sc body):ez M (S.iq c b) sc (.While e body [] q):=λ{k A p env loc Q} z hq=>.eq (arm_exec_While ..) λT hT=>wpAny_bind (wpAny_standAt (wpAny_runOwn (h:=none) (by
 refine cZ hq λJ n hJ turn=>?_
 refine codeAny_whileLoop (A:=A.mark none) (λn s1=>∃p1 l,s1=p1.s/\J n l p1.H/\aI M p1 sc env l/\After M (fQ sc env) p p1) (λn s1 t0=>tj t0 λp1 l es j Ch a1=>?_) n (bI p loc ⟨rfl,hJ,z.eo,.refl z.rep⟩)
 subst es
 refine tD (hc (F:=λzz=>Nr _ _ _ _) ⟨z.cx,Ch,a1.rep⟩ (turn n l p1.H j) _ λp2 v tb W4 hf a2=>?_)
 have x9:=Ch.after a2
 have P6:=a1.trans a2.no
 cases tb
 .rw [if_neg aaE];refine bf (arm_execs_nil ..) ?_
  exact wpAny_pure (hT p2 _ .next l hf rfl x9 P6)
 .rw [if_pos rfl]
  refine tD (hb ⟨z.cx,x9,a2.rep⟩ hf _ λp3 f fl l3 q3 r3 Hx a3=>?_)
  have KD:=P6.trans a3
  cases fl with
  | next=>cases (show f= .next from r3);exact q3.imp λm j=>⟨j.1,p3,l3,rfl,j.2,Hx,KD⟩
  | cont=>cases (show f= .cont from r3);exact q3.imp λm j=>⟨j.1,p3,l3,rfl,j.2,Hx,KD⟩
  | brk=>obtain rfl:=show f= .brk from r3;exact hT p3 _ .next l3 q3 rfl Hx KD
  | ret av=>refine bU r3 λv e0 rv=>?_;subst e0;exact hT p3 _ (.ret av) l3 q3 ⟨v,rfl,rv⟩ Hx KD)))
end
section
variable {M:Mo} {k:Nat} {A:Around} {B:Addr->Prop} {p p':Pt} {sc aZ:Scope} {env:Env} {loc loc':Loc} {x y z:X} {e f g:Expr} {q q':Pos}
structure gA (sc aZ:Scope) (tg:Tg):Prop where
 kind:aZ.kind= .function
 uniq:∀p∈aZ.names,aZ.names.lookup p.1=some p.2
 loc:∀x,aZ.names.lookup x=some .local->x=(".0":Str)\/∃y∈gN tg,x=Str.ofString y
 free:∀x,aZ.names.lookup x=some .free->sc.names.lookup x=some .cell\/sc.names.lookup x=some .free
 only:∀x k,aZ.names.lookup x=some k->k= .local\/k= .free\/k= .globalImplicit
theorem Bf {o:Option NameKind} (h:Nz o=true):o=some .cell\/o=some .free:=by
 cases o with
 | none=>exact absurd h aaE
 | some k=>cases k<;>first | exact .inl rfl | exact .inr rfl | exact (aaE h).elim
theorem ve {tg:Tg} (h:EU sc aZ tg=true):gA sc aZ tg:=by
 refine qj (aaV.mp h) λh1 h2=>?_
 have h2:=aaX.mp h2
 have on:∀{x k},aZ.names.lookup x=some k->y5 sc aZ tg (x,k)=true:=λhx=>h2 _ (bu hx)
 refine ⟨beq_iff_eq.mp h1,λp hp=>beq_iff_eq.mp (aaV.mp (h2 p hp)).1,λx hx=>?_,λx hx=>Bf (aaV.mp (on hx)).2,λx k hx=>?_⟩
 .refine (Bool.or_eq_true_iff.mp (aaV.mp (on hx)).2).imp beq_iff_eq.mp λh=>?_
  refine aw (List.any_eq_true.mp h) λy hy e=>?_
  exact ⟨y,hy,beq_iff_eq.mp e⟩
 .have:=(aaV.mp (on hx)).2
  cases k<;>first | exact .inl rfl | exact .inr (.inl rfl) | exact .inr (.inr rfl) | exact (aaE this).elim
theorem su:∀(names:List (Str × NameKind)) (acc:List (Str × Addr)),(∀x∈names,x.2= .free->∃c,env.cells.lookup x.1=some c)->
  ∃cl,(forIn (m:=Sem) names acc λ(p:Str × NameKind) (cs:List (Str × Addr))=>(if (p.2==NameKind.free)=true then cellOf env p.1 >>= λa=>pure (ForInStep.yield ((p.1,a)::cs)) else pure (ForInStep.yield cs)))=pure cl/\
  (∀p∈cl,p∈acc\/((p.1,NameKind.free)∈names/\env.cells.lookup p.1=some p.2))/\(∀p∈acc,p∈cl)/\∀x,(x,NameKind.free)∈names->∃c,(x,c)∈cl
 | [],acc,_=>⟨acc,rfl,λp hp=>.inl hp,λzz hp=>hp,λzz hx=>(aaU hx).elim⟩
 | (n,kd)::r,acc,h=>by
  have hr:=λx hx=>h x (.tail _ hx)
  rw [List.forIn_cons]
  cases q:kd==NameKind.free with
  | true=>
   obtain rfl:=beq_iff_eq.mp q
   obtain ⟨c,hc⟩:=h _ (.head _) rfl
   have:cellOf env n=pure c:=by unfold cellOf;rw [hc]
   refine jd (su r ((n,c)::acc) hr) λcl e a1 a2 a3=>?_
   refine ⟨cl,?_,λp hp=>(a1 p hp).elim (λhp=>(aaH.mp hp).elim (λe=>.inr (e▸⟨.head _,hc⟩)) .inl) λhp=>.inr ⟨.tail _ hp.1,hp.2⟩,λp hp=>a2 p (.tail _ hp),λx hx=>(aaH.mp hx).elim (λe=>⟨c,by cases e;exact a2 _ (.head _)⟩) (a3 x)⟩
   rw [if_pos rfl,this]
   exact e
  | false=>
   refine jd (su r acc hr) λcl e a1 a2 a3=>?_
   refine ⟨cl,?_,λp hp=>(a1 p hp).imp id λz=>⟨.tail _ z.1,z.2⟩,a2,λx hx=>(aaH.mp hx).elim (λe=>by cases e;cases q) (a3 x)⟩
   rw [if_neg aaE]
   exact e
theorem i8 {α β:Type} [BEq α] [LawfulBEq α] {a:α} {b:β}:∀{l:List (α × β)},(a,b)∈l->∃c,l.lookup a=some c
 | (x,y)::r,h=>by
  rw [List.lookup_cons]
  cases q:a==x with
  | true=>exact ⟨y,rfl⟩
  | false=>exact (aaH.mp h).elim (λe=>by cases e;rw [beq_self_eq_true] at q;exact Bool.noConfusion q) i8
theorem Mq {tg:Tg} (eo:aI M p sc env loc) (c:gA sc aZ tg):∃cl,closureFor aZ env=pure cl/\(∀x c,cl.lookup x=some c->aZ.names.lookup x=some .free/\env.cells.lookup x=some c)/\∀x,aZ.names.lookup x=some .free->∃c,cl.lookup x=some c:=by
 refine jd (su aZ.names [] λx hx e=>(c.free _ (e▸c.uniq x hx)).elim (λq=>eo.KM _ (.inl (eo.zL _ q))) λq=>eo.KM _ (eo.EQ _ q)) λcl e a1 a2 a3=>?_
 refine ⟨cl,?_,λx a hx=>(a1 _ (bu hx)).elim (λh=>(aaU h).elim) λh=>⟨c.uniq _ h.1,h.2⟩,λx hx=>(a3 x (bu hx)).elim λa h=>i8 h⟩
 rw [closureFor]
 rw [e]
 rfl
theorem mD {α β:Type} [BEq α] [LawfulBEq α] (g:α->β->β) (y:α):∀(l:List (α × β)),(l.map λp=>(p.1,g p.1 p.2)).lookup y=(l.lookup y).map (g y)
 | []=>rfl
 | (a,b)::r=>by
  rw [aa4,List.lookup_cons,List.lookup_cons,mD g y r]
  cases q:y==a with
  | true=>rw [beq_iff_eq.mp q];rfl
  | false=>rfl
noncomputable def yF (env:Env) (n:Str) (k:NameKind):NameKind:=if (k== .free&&env.scope.kind== .function&&env.kindOf n==some .cell) then .cell else k
theorem py (y:Str):(relabel aZ env).names.lookup y=(aZ.names.lookup y).map (yF env y):=by
 rw [<-mD]
 refine congrArg (List.lookup y) (abq λp hp=>?_)
 dsimp only
 unfold yF
 split<;>rfl
noncomputable def sS (tg:Tg) (loc:Loc):Loc:=λx=>if x∈gN tg then .unset else loc x
theorem nz {tg:Tg} {x:String} (h:sS tg loc x≠ .unset):x ∉ gN tg/\sS tg loc x=loc x:=by
 unfold sS at h ⊢
 by_cases q:x∈gN tg
 .rw [if_pos q] at h;exact absurd rfl h
 .exact ⟨q,if_neg q⟩
theorem Bk {tg:Tg} {cl:List (Str × Addr)} {C:Addr} {m:Str->Option Value} (eo:aI M p sc env loc) (c:gA sc aZ tg) (h1:∀x c,cl.lookup x=some c->aZ.names.lookup x=some .free/\env.cells.lookup x=some c)
  (h2:∀x,aZ.names.lookup x=some .free->∃c,cl.lookup x=some c) (hC:p.h.Ns C m) (ho:¬Own p C) (hb:M.h0.objs.size<=C):aI M p aZ (compEnvC aZ cl C env) (sS tg loc):=by
 have kd:∀x,(compEnvC aZ cl C env).kindOf x=(aZ.names.lookup x).map (yF env x):=λx=>py x
 have TL:∀x k,(compEnvC aZ cl C env).kindOf x=some k->(aZ.names.lookup x=some .free/\(k= .cell\/k= .free))\/(aZ.names.lookup x=some k/\k≠ .free/\k≠ .cell):=λx k h=>by
  rw [kd] at h
  refine aw (bm h) λk' q h=>?_
  rcases c.only x k' q with rfl | rfl | rfl
  .subst h;exact .inr ⟨q,(nomatch ·),(nomatch ·)⟩
  .refine .inl ⟨q,?_⟩
   rw [<-h]
   unfold yF
   split
   .exact .inl rfl
   .exact .inr rfl
  .subst h;exact .inr ⟨q,(nomatch ·),(nomatch ·)⟩
 have back:∀x,(compEnvC aZ cl C env).kindOf x=some .cell\/(compEnvC aZ cl C env).kindOf x=some .free->aZ.names.lookup x=some .free:=λx h=>h.elim (λh=>(TL x _ h).elim (·.1) λz=>absurd rfl z.2.2) λh=>(TL x _ h).elim (·.1) λz=>absurd rfl z.2.1
 refine ⟨c.kind,eo.gl,eo.bi,λx h=>by rw [kd,h];rfl,λx h=>?_,λx h=>?_,λx h=>by rw [kd,h];rfl,⟨m,hC,λx hx h0 hk=>?_⟩,⟨ho,hb⟩,λx a ha=>eo.cells x a (h1 x a ha).2,λx y a ha hb=>eo.apart x y a (h1 x a ha).2 (h1 y a hb).2,λx hx hk=>?_,λx hk=>h2 x (back x hk)⟩
 .rcases c.only x _ h with e | e | e<;>cases e
 .rw [kd,h]
  show some (yF env x .free)=_\/some (yF env x .free)=_
  unfold yF
  split
  .exact .inl rfl
  .exact .inr rfl
 .have nt:=nz hx
  exact (TL _ _ hk).elim (λz=>z.2.elim (λe=>absurd e (by decide)) λe=>absurd e (by decide)) λz=>(c.loc _ z.1).elim (λe=>absurd e h0) λt0=>aw t0 λy hy e=>absurd (cC e▸hy) nt.1
 .have hf:=back _ hk
  have nt:=nz hx
  rw [nt.2] at hx ⊢
  refine ug (h2 _ hf) λa ha=>?_
  refine cZ (eo.mV x hx ((c.free _ hf).elim (λq=>.inl (eo.zL _ q)) λq=>eo.EQ _ q)) λa' v e1 e2=>?_
  cases (h1 _ _ ha).2.symm.trans e1
  exact (bI a v ⟨ha,e2⟩)
theorem aI.sub {l1 l2:Loc} (e:aI M p sc env l2) (h:∀x,l1 x≠ .unset->l2 x=l1 x):aI M p sc env l1:=
 {e with
  ns:=e.ns.imp λm hm=>⟨hm.1,λx h1 h0 h2=>h x h1▸hm.2 x (h x h1▸h1) h0 h2⟩
  mV:=λx h1 h2=>h x h1▸e.mV x (h x h1▸h1) h2}
theorem gO:∀(xs:List String) {vs:List AV} {l1 l2 r:Loc},(∀y,y ∉ xs->l1 y=l2 y)->eu xs vs l1=some r->eu xs vs l2=some r/\∀y,y ∉ xs->r y=l1 y
 | [],[],l1,l2,r,h,e=>by
  obtain rfl:=aay e
  exact ⟨congrArg some (funext λy=>(h y (λh=>(aaU h).elim)).symm),λzz zz=>rfl⟩
 | x::xs,v::vs,l1,l2,r,h,e=>by
  have g:=gO xs (l1:=l1.upd x v) (l2:=l2.upd x v) (λy hy=>by
   by_cases q:y=x
   .rw [q,oS,oS]
   .rw [gM q,gM q];exact h y λm=>(aaH.mp m).elim q hy) e
  exact ⟨g.1,λy hy=>(g.2 y λm=>hy (.tail _ m)).trans (gM λq=>hy (q▸ .head _))⟩
theorem xw {tg:Tg} {v:AV} (h:fT tg v loc=some loc'):fT tg v (sS tg loc)=some loc'/\∀y,y ∉ gN tg->loc' y=loc y:=by
 have ag:∀y,y ∉ gN tg->loc y=sS tg loc y:=λy hy=>(if_neg hy).symm
 cases tg with
 | nm x=>exact gO [x] (vs:=[v]) ag h
 | tup xs=>
  cases v with
  | tup vs=>exact gO xs ag h
  | _=>cases h
noncomputable def fP (M:Mo) (x:aj->PC) (sc:Scope) (es:List Expr):Prop:=∀{k:Nat} {A:Around} {p:Pt} {env:Env} {loc:Loc} {F:KB},ng M k A p sc env loc->x (Γc M k) loc p.H F->∀T:Bool->Shared->Prop,(∀p' b,F b p'.H->After M cY p p'->T b p'.s)->
 wpAny M.m A (forIn es true λc r=>if r=true then do let ok <-isTrue c env (eval c env);pure (ForInStep.yield ok) else pure (ForInStep.yield r)) T bK p.s
theorem xF:fP M X.yes sc []:=λ{zz zz p zz zz zz} z hq T hT=>wpAny_pure (hT p true hq (.refl z.rep))
theorem xP (h:d7 M x sc e):fP M (X.bM x X.yes) sc [e]:=λ{k zz p zz loc F} z hq T hT=>by
 refine bf (List.forIn_cons ..) ?_;rw [if_pos rfl]
 exact wpAny_bind (wpAny_bind (h (F:=λzz=>QE (X.yes (Γc M k)) loc F) z hq _ λp1 v b zz hf a=>wpAny_pure (wpAny_pure (hT p1 b (match b,hf with
  | true,hf=>hf
  | false,hf=>hf) a))))
end
section
variable {M:Mo} {k:Nat} {A:Around} {B:Addr->Prop} {p p':Pt} {sc aZ:Scope} {env:Env} {loc loc':Loc} {x y z:X} {e f g:Expr} {q q':Pos}
theorem vZ {elt target iter:Expr} {ifs:List Expr} {scope:Scope} {pos:Pos} {it acc:Value} {Rr:Result->Shared->Prop} (I:Nat->Shared->Prop)
  (turn:∀n s,I n s->wpAny M.m A (pyNext it) (λr s₁=>match r with
   | none=>Rr (.ok .next) s₁
   | some v=>wpAny M.m A (letOwnedTupleGo target it v) (λzz Xg=>wpAny M.m A (assign target env v) (λzz s₂=>
     wpAny M.m A (forIn ifs true λc r=>if r=true then do let ok <-isTrue c env (eval c env);pure (ForInStep.yield ok) else pure (ForInStep.yield r)) (λok s₃=>
      if ok=true then wpAny M.m A (eval elt env) (λx s₄=>wpAny M.m A (call (.builtin "list.append") [acc,x]) (λzz s₅=>∃m,m < n/\I m s₅) bK s₄) bK s₃
      else ∃m,m < n/\I m s₃) bK s₂) bK Xg) bK s₁) bK s)
  (n:Nat) {s:Shared} (h:I n s):codeAny M.m A (.compLoop (.ListComp elt [⟨target,iter,ifs,0⟩] scope pos) 0 it acc env) Rr s:=by
 refine codeAny_loop rfl I (λn s hI=>?_) n h
 show wpAny _ A ((compTurn (.ListComp elt [⟨target,iter,ifs,0⟩] scope pos) 0 it acc env).onRaise (λx=>do noteFrame x env;theTreesLotGoes x)) _ _ s
 refine wpAny_noted ?_
 refine bf (compTurn_list ..) ?_
 refine wpAny_bind (wpAny_standAt (wpAny_bind (tD (wpAny_mono (turn n s hI) (λr s₁ h₁=>?_) λzz zz z=>z.elim))))
 cases r with
 | none=>exact wpAny_pure h₁
 | some v=>
  refine wpAny_bind (wpAny_mono h₁ (λzz Xg Ze=>wpAny_bind (wpAny_mono Ze (λzz s₂ h₂=>wpAny_bind (wpAny_mono h₂ (λok s₃ h₃=>?_) λzz zz z=>z.elim)) λzz zz z=>z.elim)) λzz zz z=>z.elim)
  cases ok
  .exact wpAny_pure ⟨rfl,h₃⟩
  .exact wpAny_bind (wpAny_bind (wpAny_mono h₃ (λx s₄ h₄=>wpAny_bind (wpAny_mono h₄ (λzz s₅ h₅=>wpAny_pure (wpAny_pure ⟨rfl,h₅⟩)) λzz zz z=>z.elim)) λzz zz z=>z.elim))
structure AccAt (M:Mo) (p:Pt) (D:Addr) (xs:List AV):Prop where
 own:¬Own p D
 hi:M.h0.objs.size<=D
 at_:∃vs k,p.h.get? D=some (mN vs k)/\L2 (VR p) vs.toList xs
theorem AccAt.after {D:Addr} {xs:List AV} (x:AccAt M p D xs) (a:After M B p p') (hb:¬B D):AccAt M p' D xs:=
 have ⟨vs,k,e,r⟩:=x.at_
 ⟨a.own (Heap.lt_size e) x.own,x.hi,vs,k,a.keep _ _ e x.own hb,a.oQ r⟩
theorem yG {tg:Tg} {elt:X} {ifs:aj->PC} {t qx:Expr} {fs:List Expr} {pos:Pos} (cx:Cx k A) (co:gA sc aZ tg) (ht:EO aZ t=some tg) (he:aA M elt aZ e) (hf:fP M ifs aZ fs) {cl:List (Str × Addr)} {zz:Src} {all:List AV} {st it C D:Nat} {Q:KL} {Rr:Result->Shared->Prop}
  (nu:∀x c,cl.lookup x=some c->c < it) (UA:it < D) (Rf:D < C) (qf:i9 (elt (Γc M k)) (ifs (Γc M k)) tg (cy zz all st) loc all p.H [] Q)
  (eo:aI M p aZ (compEnvC aZ cl C env) (sS tg loc)) (I0:It M p zz all st it 0) (hD:AccAt M p D []) (R:Rep M p)
  (done:∀p' xs,Q xs p'.H->xs.length<=lim->AccAt M p' D xs->(∃m,p'.h.Ns C m)->¬Own p' C->After M (λx=>x=it\/x=D\/x=C) p p'->Rr (.ok .next) p'.s):
  codeAny M.m A (.compLoop (.ListComp e [⟨t,qx,fs,0⟩] aZ pos) 0 (.ref it) (.ref D) (compEnvC aZ cl C env)) Rr p.s:=by
 have Kr:it≠C:=aaJ (aaA UA Rf)
 have Wl:D≠C:=aaJ Rf
 have Mb:it≠D:=aaJ UA
 have eB:∀x,fQ aZ (compEnvC aZ cl C env) x->x=C:=λx hx=>hx.elim id λt5=>aw t5 λy hy zz=>by rcases co.only y _ hy with e | e | e<;>cases e
 have Xe:∀x c,(compEnvC aZ cl C env).cells.lookup x=some c->¬isA it c:=λx c hc=>aaJ (nu x c hc)
 refine vZ (λn s1=>∃p1 acc i,s1=p1.s/\n=all.length+1 - i/\acc.length<=lim/\i9 (elt (Γc M k)) (ifs (Γc M k)) tg (cy zz all st) loc (all.drop i) p1.H acc Q/\aI M p1 aZ (compEnvC aZ cl C env) (sS tg loc)/\It M p1 zz all st it i/\AccAt M p1 D acc/\After M (λx=>x=it\/x=D\/x=C) p p1)
  (λn s1 t4=>sL t4 λp1 acc i es en al w Ch I ac a1=>?_) (all.length+1) (c9 p ([]) 0 ⟨rfl,rfl,abp _,qf,eo,I0,hD,.refl R⟩)
 subst es
 refine sT cx.hd a1.rep I (λv av h t1 e1 rv w8 a2=>?_) λh t1 e1 a2=>?_
 .rw [kY e1] at w
  refine aw (bE w) λl' Tn w=>?_
  refine qj (xw Tn) λTR Tx=>?_
  have x9:=Ch.jw a2 (λq=>Kr q.symm) Xe
  refine zH w8 ht (vY x9 a2.rep cx.hd ht rv TR λh3 t3 Hx a3=>hf (p:=(p1.at h t1).at h3 t3) ⟨cx,Hx,a3.rep⟩ w _ λp4 b q4 a4=>?_)
  have LI:=Hx.after a4
  have VF:=((ac.after a2 λq=>Mb q.symm).after a3 λq=>Wl (eB _ q)).after a4 id
  have V9:After M (isA C) (p1.at h t1) p4:=(a3.weaken eB).trans a4.no
  have P6:=a1.trans (a2.weaken λx hx=>.inl hx)
  have ltI:=aax I.lt a2.size
  have JW:=a2.own I.lt I.pv.own
  have sub:∀{p5},aI M p5 aZ (compEnvC aZ cl C env) l'->aI M p5 aZ (compEnvC aZ cl C env) (sS tg loc):=λx=>x.sub λy hy=>(Tx y (nz hy).1).trans (nz hy).2.symm
  have Vr:∀{p5},After M (λx=>x=D\/x=C) (p1.at h t1) p5->cy zz all st p5.H->It M p5 zz all st it (i+1):=λa s5=>have h5:=w8.keep a JW (λq=>q.elim Mb Kr) I.st s5;⟨h5,s5,⟨a.own ltI JW,I.pv.hi,h5.im⟩,aax ltI a.size⟩
  have lt:all.length+1 - (i+1) < n:=by have:=se e1;exact sR (Nat.sub_lt_sub_left (Nat.lt_succ_of_lt this) (aaC _)) en.symm
  cases b with
  | false=>
   have MW:=V9.weaken (B':=λx=>x=D\/x=C) λx hx=>.inr hx
   exact ⟨_,lt,p4,acc,i+1,rfl,rfl,al,q4.2,sub LI,Vr MW q4.1,VF,P6.trans (MW.weaken λx hx=>.inr hx)⟩
  | true=>
   refine he ⟨cx,LI,a4.rep⟩ q4 _ λp5 v5 XE t2 r5 a5=>xD t2 λZW Wf XD=>?_
   have Oa:=VF.after a5 id
   refine cZ Oa.at_ λvs n5 hl hr=>?_
   refine wpAny_list_append_plain (items:=vs) ⟨n5,hl⟩ (λh' t0 b5=>ug t0 λn' Y5=>?_) ((aB hr)▸cT (aaI Wf))
   have pD:∀x,isA D x->lN M p5 x:=λx e=>by cases e;exact ⟨Oa.own,Oa.hi,o3 hl (by decide:Value.type "list"≠ .type "tuple")⟩
   have a6:After M (isA D) p5 (p5.at h' p5.s.toks):= .gen a5.rep (aaS b5.1.symm) pD λx o e n=>(b5.2 x n).trans e
   have Vo:After M (λx=>x=D\/x=C) (p1.at h t1) (p5.at h' p5.s.toks):=((V9.weaken λx hx=>.inr hx).trans a5.no).trans (a6.weaken λx hx=>.inl hx)
   exact ⟨_,lt,p5.at h' p5.s.toks,acc++[XE],i+1,rfl,rfl,by rw [aaD];exact Wf,XD,sub ((LI.after a5).jw a6 (λq=>Wl q.symm) (λx c hc=>aaJ (aaA (nu x c hc) UA))),Vr Vo ZW,⟨Oa.own,Oa.hi,vs.push v5,n',Y5,by rw [Array.toList_push];exact (a6.oQ hr).snoc (a6.rel r5)⟩,P6.trans (Vo.weaken λx hx=>.inr hx)⟩
 .replace w:=(List.drop_eq_nil_of_le (List.getElem?_eq_none_iff.mp e1))▸w
  have x9:=Ch.jw a2 (λq=>Kr q.symm) Xe
  exact done _ acc w al (ac.after a2 λq=>Mb q.symm) (x9.ns.imp λm h=>h.1) x9.mU.1 (a1.trans (a2.weaken λx hx=>.inl hx))
theorem uE {tg:Tg} {elt:X} {ifs:aj->PC} {t qx:Expr} {fs:List Expr} {pos:Pos} (cx:Cx k A) (co:gA sc aZ tg) (ht:EO aZ t=some tg) (he:aA M elt aZ e) (hf:fP M ifs aZ fs) {cl:List (Str × Addr)} {zz:Src} {all:List AV} {st it:Nat} {Q:KL} {RR:Value->Addr->Result->Shared->Prop}
  (h1:∀x c,cl.lookup x=some c->aZ.names.lookup x=some .free/\env.cells.lookup x=some c) (h2:∀x,aZ.names.lookup x=some .free->∃c,cl.lookup x=some c) (nu:∀x c,cl.lookup x=some c->c < it)
  (qf:i9 (elt (Γc M k)) (ifs (Γc M k)) tg (cy zz all st) loc all p.H [] Q) (eo:aI M p sc env loc) (I0:It M p zz all st it 0) (R:Rep M p)
  (done:∀D C p' xs,p.h.objs.size<=D->p.h.objs.size<=C->D≠C->Q xs p'.H->xs.length<=lim->AccAt M p' D xs->(∃m,p'.h.Ns C m)->¬Own p' C->After M (λx=>x=it\/p.h.objs.size<=x) p p'->RR (.ref D) C (.ok .next) p'.s):
  wpAny M.m A (newList []) (λacc s3=>wpAny M.m A (newFunctionEnv aZ env.globals cl [] env.qual none .none (some env)) (λOf s4=>
   codeAny M.m A (.compStart (.ListComp e [⟨t,qx,fs,0⟩] aZ pos) 0 (.ref it) acc {Of with scope:=relabel aZ env}) (RR acc Of.locals) s4) bK s3) bK p.s:=by
 have Pi:∀x∈aZ.names,x.2≠ .cell:=λx hx e=>by
  have:=co.uniq x hx
  rcases co.only _ _ this with q | q | q<;>rw [e] at q<;>cases q
 refine wpAny_newObj_type (wpAny_newFunctionEnv Pi (λy hy=>(aaU hy).elim) (λh₁ NK GG=>?_) co.kind)
 dsimp only at NK GG ⊢
 have hC:(p.h.push (mN #[] 0)).objs.size=p.h.objs.size+1:=Heap.size_push ..
 have hle:p.h.objs.size<=(p.h.push (mN #[] 0)).objs.size:=hC▸aba _
 have eD:=GG.extBut p.h.objs.size _ (by show _≠(p.h.push (mN #[] 0)).objs.size;rw [hC];exact aaJ (aaC _)) (Heap.get?_push_of_some _ (Heap.get?_push_size (o:=mN #[] 0) _ rfl))
 have gr:dX p.h h₁:=⟨λx o e=>GG.extBut x o (λq=>aaP.mpr hle (q▸Heap.lt_size e)) (Heap.get?_push_of_some _ (Heap.get?_push_of_some _ e)),by
  rw [GG.1,Heap.size_push];exact abx hle⟩
 have a1:After M cY p (p.at h₁ p.s.toks):= .grow R gr
 have LC:=I0.at_.keep a1 I0.pv.own id I0.st I0.st
 have loop:codeAny M.m A (.compLoop (.ListComp e [⟨t,qx,fs,0⟩] aZ pos) 0 (.ref it) (.ref p.h.objs.size) (compEnvC aZ cl (p.h.push (mN #[] 0)).objs.size env)) (RR (.ref p.h.objs.size) (p.h.push (mN #[] 0)).objs.size) (p.at h₁ p.s.toks).s:=
  yG cx co ht he hf nu I0.lt (by rw [hC];exact aaC _) qf (Bk (eo.after a1) co h1 h2 NK (R.new hle) (aaw R.sz hle)) (⟨LC,I0.st,⟨I0.pv.own,I0.pv.hi,LC.im⟩,aax I0.lt gr.2⟩) ⟨R.new (aaF _),R.sz,#[],0,eD,.nil⟩ a1.rep
   λp' xs q hz ac hn no a=>done _ _ p' xs (aaF _) hle (by rw [hC];exact aaJ (aaC _)) q hz ac hn no (a1.no.trans (a.weaken λx hx=>hx.imp id λhx=>hx.elim (λ(e:x=_)=>e▸aaF _) λ(e:x=_)=>e▸hle))
 exact codeAny_compStart_list loop (tD (Ce (p:=p.at h₁ p.s.toks) LC loop))
end
section
variable {M:Mo} {k:Nat} {A:Around} {B:Addr->Prop} {p p':Pt} {sc aZ:Scope} {env:Env} {loc loc':Loc} {x y z:X} {e f g:Expr} {q q':Pos} {tg:Tg} {ik:IK} {iV:XL} {elt:X} {ifs:aj->PC} {t qx:Expr} {fs:List Expr} {pos p0:Pos}
theorem Eu {use:Option (Value->Sem Unit)} (co:gA sc aZ tg) (ht:EO aZ t=some tg) (hs:iB qx=true) (hi:qv M ik iV sc qx) (he:aA M elt aZ e) (hf:fP M ifs aZ fs) (z:ng M k A p sc env loc) {Q:KV} (hq:X.aC elt tg ik iV ifs (Γc M k) loc p.H Q) {T:Value->Shared->Prop}
  (done:∀D C p' av,p.h.objs.size<=C->(∃m,p'.h.Ns C m)->lN M p' C->Q av p'.H->VR p' (.ref D) av->After M cY p p'->compPost M.m A bK use T (.ref D) C (.ok .next) p'.s):
  wpAny M.m A (comprehension (.ListComp e [⟨t,qx,fs,0⟩] aZ pos) aZ env p0 (newList []) false (eval qx env) use) T bK p.s:=by
 refine cV (Mq z.eo co) λcl c1 c2 c3=>?_
 refine wpAny_comprehension_free rfl (λv=>qS hs) c1 co.kind (λx hx e=>by rw [co.uniq x hx,e]) (hi z hq (λH z h=>(bE h).imp λall h=>h.1) _ λp1 it zz all w I0 ge a1=>?_)
 refine aw (bE w) λUo e0 w=>?_
 obtain rfl:=aay (I0.st.1.symm.trans e0)
 refine uE (RR:=λacc C=>compPost M.m A bK use T acc C) z.cx co ht he hf c2 c3 (λx c hc=>aax ((z.eo.cells _ _ (c2 x c hc).2).1.elim λzz h=>kX h) ge) w (z.eo.after a1) I0 a1.rep λD C p' xs hD hC Rf q' hz ac hn no a2=>?_
 have MQ:=aaw a1.size hD
 refine cZ ac.at_ λvs n hl hr=>?_
 have t:=After.tell (o:= .list xs) (a1.no.trans a2) MQ MQ ac.own ac.own z.rep.sz ⟨rfl,vs,n,hl,wX.mono .tell hr,hz⟩
 have Q6:=aaw a1.size hC
 refine done D C (p'.tell D D (.list xs)) (.ref p'.n) Q6 hn ⟨?_,aaw z.rep.sz Q6,hn.elim λm h=>KF h⟩ q'.run t.2 (t.1.drop λx hx=>.inr (hx.elim (λ(e:x=it)=>e▸ge) (aaw a1.size)))
 rintro ⟨a,ha,e⟩
 have e:C=(p'.W.put p'.n D D).ρ a\/C=(p'.W.put p'.n D D).δ a:=e
 by_cases qa:a=p'.n
 .rw [qa,pY,rS] at e
  exact Rf (e.elim Eq.symm Eq.symm)
 .have QM:a < p'.n:=Nat.lt_of_le_of_ne (Nat.le_of_lt_succ ha) qa
  rw [fL QM,gK QM] at e
  exact no ⟨a,QM,e⟩
theorem vK {C:Addr} {h':Heap} {t:Nat} (R:Rep M p) (pv:lN M p C) (hs:Heap.SameBut C p.h h'):After M (isA C) p (p.at h' t):= .gen R (aaS hs.1.symm) (λx (e:x=C)=>e▸pv) λx o e n=>(hs.2 x n).trans e
theorem we (co:gA sc aZ tg) (ht:EO aZ t=some tg) (hs:iB qx=true) (hi:qv M ik iV sc qx) (he:aA M elt aZ e) (hf:fP M ifs aZ fs):aA M (X.aC elt tg ik iV ifs) sc (.ListComp e [⟨t,qx,fs,0⟩] aZ pos):=λz hq=>.eq (eval_ListComp ..) λT hT=>
 Eu (use:=none) co ht hs hi he hf z hq λD C p' av hC t0 pv q r a=>ug t0 λm hn=>⟨m,hn,λh' b5=>have b:=vK (t:=p'.s.toks) a.rep pv b5;hT (p'.at h' p'.s.toks) _ av q (b.rel r) ((a.no.trans b).drop λx (e:x=C)=>.inr (e▸hC))⟩
theorem tE {n:Str} {v:String} (hx:yb sc n=some v) (co:gA sc aZ tg) (ht:EO aZ t=some tg) (hs:iB qx=true) (hi:qv M ik iV sc qx) (he:aA M elt aZ e) (hf:fP M ifs aZ fs):
  ez M (S.set v (X.aC elt tg ik iV ifs)) sc (.Assign [.Name n q'] (.ListComp e [⟨t,qx,fs,0⟩] aZ pos) q):=by
 intro k A p env loc Q z hq T hT
 obtain ⟨b,hb⟩:∃b,swapsWith (.ListComp e [⟨t,qx,fs,0⟩] aZ pos) (some (.Name n q')) q.line env=pure b:=⟨_,rfl⟩
 cases b
 .exact wpAny_Assign_Name (we co ht hs hi he hf z hq _ λp1 v av w r a=>ku (z.eo.after a) a.rep hx r λh t eo b=>hT _ .next .next _ w rfl eo (a.no.trans b)) hb
 .refine bf (exec_Assign_Name_used _ _ _ _ hb) ?_
  refine wpAny_bind (wpAny_standAt (wpAny_bind ?_))
  refine wpAny_bind (wpAny_mono (Eu (T:=λzz s'=>T .next s') (use:=some (assign (.Name n q') env)) co ht hs hi he hf z hq λD C p1 av hC t0 pv w r a=>ug t0 λm hn=>?_) (λzz s' hq=>wpAny_pure (wpAny_pure hq)) λzz zz z=>z)
  refine wpAny_assign_Name (ku (z.eo.after a) a.rep hx r λh2 t2 x9 a2=>?_)
  have nB:¬fQ sc env C:=λh=>aaP.mpr hC (z.eo.ltB h)
  have W6:=yR hn λo e=>a2.keep _ o e pv.own nB
  refine ⟨m,W6,λh' b5=>?_⟩
  have a3:=vK (p:=p1.at h2 t2) (t:=t2) a2.rep ⟨pv.own,pv.hi,KF W6⟩ b5
  exact hT ((p1.at h2 t2).at h' t2) .next .next _ w rfl (x9.jw a3 (λ(e:env.locals=C)=>nB (.inl e.symm)) λy c hc (e:c=C)=>aaP.mpr hC (e▸(z.eo.cells _ _ hc).1.elim λzz h=>kX h))
   (After.drop (B:=λx=>fQ sc env x\/x=C) ((a.no.trans (a2.weaken λx hx=>.inl hx)).trans (a3.weaken λx hx=>.inr hx)) λx hx=>hx.imp id λ(e:x=C)=>e▸hC)
end
section
variable {M:Mo} {k:Nat} {A:Around} {B:Addr->Prop} {p p':Pt} {Q:KV} {T:Value->Shared->Prop}
theorem kH (R:Rep M p) (hT:z9 M p Q T) {i:Int} (q:Q (.int i) p.H) {u:Tok} {t:Nat}:T (.int i u) (p.at p.h t).s:=hT (p.at p.h t) _ _ q ⟨u,rfl⟩ (.toks R t)
theorem Pp (W:Wd M) (R:Rep M p) {v:Value} {av:AV} (r:VR p v av) (hq:QI av p.H Q):Ev M A p (call (.builtin "len") [v]) Q:=λT hT=>by
 cases av with
 | tup xs=>
  refine qj hq λhz hq=>?_
  refine aS r.tup λx vs e0 it l=>?_;subst e0
  refine len_tuple it ((aB l)▸rX hz) ?_
  exact (aB l)▸kH R hT hq
 | ref a=>
  obtain ⟨rfl,la⟩:=r
  have h:=hq.run
  cases hg:p.H.g a with
  | list xs=>
   replace h:=(hg)▸h
   refine aq (aL R la hg) λus n l=>?_
   refine call_len_list (ck l.at_) ((aB l.l)▸rX l.len) ?_
   exact (aB l.l)▸kH R hT h
  | dict es=>
   replace h:=(hg)▸h
   refine fV (cF R la hg) λzz ds ep D=>?_
   have ty:=MZ D
   refine call_function_entry kind_len plain_len entry_len (args_len1 _) ?_
   refine wpAny_bind (m:=oneArg "len" _) (wpAny_pure ?_)
   refine wpAny_bind (m:=callSpecial? (.ref (p.W.ρ a)) (Str.ofString "__len__")) (wpAny_callSpecial?_slot (name:=Str.ofString "__len__") ty PySem.F.slot_dict_len (wpAny_call_entry PySem.F.slot_dict_len ty PySem.F.entry_dict_len ?_ (PySem.F.args_dict_len_1 _)))
   show wpAny _ _ (dictSize (p.W.ρ a) >>= _) _ _ p.s
   refine wpAny_bind (wpAny_bind (wpAny_dictEntries D.at_ rfl (wpAny_pure ?_)))
   show wpAny _ _ (Builtin.Dict.pendingCount (p.W.ρ a) >>= _) _ _ p.s
   refine wpAny_bind (wpAny_pendingCount_other (kK W R la (fF hg)) (wpAny_bind (wpAny_mkInt (wpAny_pure ⟨_,rfl,?_⟩))))
   rw [(show ds.size=es.length from D.l.len),show ((es.length:Int)+((0:Nat):Int))=(es.length:Int) from Int.add_zero _]
   refine wpAny_bind (wpAny_holding (wpAny_pure (wpAny_bind (wpAny_letGo ?_))))
   refine mC (Int.not_lt.mpr (aa0 _)) ?_
   show wpAny _ _ (if ((es.length:Nat):Int) ≥ 2 ^ 63 then _ else _) _ _ _
   refine mC (Int.not_le.mpr (rX D.len)) ?_
   exact wpAny_bind (wpAny_mkInt (wpAny_pure ⟨_,rfl,kH R hT h⟩))
  | _=>replace h:=(hg)▸h;exact h.elim
 | _=>exact hq.elim
theorem PZ (R:Rep M p) {v:Value} {av:AV} (r:VR p v av) (hq:Nu av p.H Q):Ev M A p (call (.builtin "abs") [v]) Q:=λT hT=>by
 refine bU (aG hq) λi e0 hq=>?_;subst e0
 obtain ⟨t,rfl⟩:=r
 refine call_abs_int λu tk=>?_
 exact (show (if i < 0 then -i else i)=i.natAbs by split;exact (Int.ofNat_natAbs_of_nonpos (Int.le_of_lt ‹_›)).symm;exact (Int.natAbs_of_nonneg (Int.not_lt.mp ‹_›)).symm)▸kH R hT hq
theorem kJ (R:Rep M p) (hT:z9 M p Q T) {i:Int} (q:Q (.int i) p.H) {u:Tok} {h:Heap} {t:Nat} (g:dX p.h h):T (.int i u) (p.at h t).s:=hT (p.at h t) _ _ q ⟨u,rfl⟩ (.grow R g)
theorem Nm (hh:A.handled=none) (R:Rep M p) {v u:Value} {x y:AV} (r1:VR p v x) (r2:VR p u y) (hq:QP x y p.H Q):Ev M A p (call (.builtin "min") [v,u]) Q:=λT hT=>by
 refine bU (aG hq) λi e0 h1=>?_;subst e0
 refine bU (aG h1) λj e1 h=>?_;subst e1
 obtain ⟨t,rfl⟩:=r1;obtain ⟨t',rfl⟩:=r2
 refine aP (min_two_ints hh λh' tk hk hz=>?_)
 by_cases c:j < i
 .rw [if_pos c] at h ⊢;exact kJ R hT h ⟨hk,hz⟩
 .rw [if_neg c] at h ⊢;exact kJ R hT h ⟨hk,hz⟩
theorem O9 (hh:A.handled=none) (R:Rep M p) {v u:Value} {x y:AV} (r1:VR p v x) (r2:VR p u y) (hq:Ps x y p.H Q):Ev M A p (call (.builtin "max") [v,u]) Q:=λT hT=>by
 refine bU (aG hq) λi e0 h1=>?_;subst e0
 refine bU (aG h1) λj e1 h=>?_;subst e1
 obtain ⟨t,rfl⟩:=r1;obtain ⟨t',rfl⟩:=r2
 refine aP (max_two_ints hh λh' tk hk hz=>?_)
 by_cases c:j > i
 .rw [if_pos c] at h ⊢;exact kJ R hT h ⟨hk,hz⟩
 .rw [if_neg c] at h ⊢;exact kJ R hT h ⟨hk,hz⟩
theorem GN (R:Rep M p) {v:Value} {av:AV} (r:VR p v av) (hq:D5 av p.H Q):Ev M A p (call (.type "tuple") [v]) Q:=λT hT=>by
 refine bU (bJ hq) λa e0 h=>?_;subst e0
 obtain ⟨rfl,la⟩:=r
 refine aw (bY h.run) λxs hg h=>?_
 refine aq (aL R la hg) λus n l=>?_
 refine aP (call_tuple_list (ck l.at_) (λh' hk hz=>?_) ((aB l.l)▸cT l.len))
 have g:dX p.h (h'.push {cls:= .type "tuple",data:= .seq us}):=⟨λx o e=>Heap.get?_push_of_some _ (hk x o e),hz⟩
 exact hT (p.at _ p.s.toks) _ (.tup xs) h (.qH ⟨_,Heap.get?_push_size _ rfl,rfl,_,rfl⟩ (wX.mono (.grow g.tup) l.l)) (.grow R g)
theorem lO:Slot "bytes" "__bytes__" "bytes.__bytes__":=
 .of (owner:="bytes") (n:="__bytes__") (by rw [typeLookup_type,builtinLookup_eq_fast];kernel_rfl) (by decide+kernel) (by decide+kernel) (by decide+kernel) (by first | exact .inl (by decide+kernel) | exact .inr (by decide+kernel)) (by rw [isSubtype_type];kernel_rfl)
theorem pj {b:Array UInt8} {t:Tok} {E:Value->Shared->Prop} {s:Shared} (h:T (.bytes b t) s):codeAny M.m A (.call (.builtin "bytes.__new__") ⟨[.type "bytes",.bytes b t],[]⟩) (wants T E) s:=by
 refine codeAny_call_builtin PySem.F.bm_plain PySem.F.bm_entry (wpAny_of_eq (PySem.F.bm_newCall _) ?_)
 unfold Builtin.«bytes.__new__»
 refine wpAny_bind (wpAny_pure (bm_if_false rfl (wpAny_bind (wpAny_of_eq PySem.F.bm_sub (bm_if_false rfl (wpAny_bind (wpAny_of_eq (PySem.F.bm_bind _) ?_)))))))
 refine wpAny_bind (wpAny_pure (wpAny_bind (wpAny_pure (bm_if_false rfl (wpAny_bind (wpAny_specialOf (PySem.W.typeIs_bytes _ _ _) lO.lookup (wpAny_bind (wpAny_rule (wpAny_bind (wpAny_typeOf (T:="bytes") (PySem.W.typeIs_bytes _ _ _) (bm_if_true rfl ?_)))))))))))
 exact wpAny_of_eq (a:= .done (.ret (.bytes b t))) (by rfl) h
theorem Ib (R:Rep M p) {v:Value} {av:AV} (r:VR p v av) (hq:E9 av p.H Q):Ev M A p (call (.type "bytes") [v]) Q:=λT hT=>by
 cases av with
 | bytes b=>
  obtain ⟨t,rfl⟩:=r
  refine callType_codes (Q₁:=λobj s₁=>obj= .bytes b.toArray t/\s₁=p.s) PySem.F.bm_called (PySem.F.bm_typeCall _) PySem.F.entry_object_init (pj ⟨rfl,rfl⟩) λobj s₁ t0=>qj t0 λe1 e2=>?_
  subst e1 e2
  exact ⟨PySem.W.typeIs_bytes _ _ _,PySem.F.args_object_init_2 _ _,object_init_meets PySem.F.bm_called.init.lookup PySem.F.bm_called.made (by decide) M.prog M.w A.in1 _ p.s ⟨PySem.W.typeIs_bytes _ _ _,rfl,hT p _ (.bytes b) hq ⟨t,rfl⟩ (.refl R)⟩⟩
 | _=>exact hq.elim
theorem lm {h:Heap} {t:Nat} {D:Addr} {vs:Array Value} {n:Nat} {xs:List AV} (R:Rep M p) (g:dX p.h h) (hD:p.h.objs.size<=D) (hl:h.get? D=some (mN vs n)) (hr:L2 (VR (p.at h t)) vs.toList xs) (hz:xs.length<=lim) (hq:Q (.ref p.n) (p.H.push (.list xs))) (hT:z9 M p Q T):T (.ref D) (p.at h t).s:=
 have z:=After.tell (o:= .list xs) (After.grow (t:=t) (B:=cY) R g) hD hD (R.new hD) (R.new hD) R.sz ⟨rfl,vs,n,hl,wX.mono .tell hr,hz⟩
 hT ((p.at h t).tell D D (.list xs)) _ (.ref p.n) hq z.2 z.1
theorem Lk (R:Rep M p) {v:Value} {av:AV} (r:VR p v av) (hq:JH av p.H Q):Ev M A p (call (.type "list") [v]) Q:=λT hT=>by
 refine bU (bJ hq) λa e0 h=>?_;subst e0
 obtain ⟨rfl,la⟩:=r
 refine aw (bY h.run) λxs hg h=>?_
 refine aq (aL R la hg) λus n l=>?_
 refine aP (call_list_seq _ (.inl rfl) l.at_ rfl rfl (λh' c' hk hD hz=>?_) ((aB l.l)▸cT l.len))
 have g:dX p.h h':=⟨hk,hz⟩
 exact lm (t:=p.s.toks) R g (aaF _) hD (wX.mono (.grow g.tup) l.l) l.len h.run hT
theorem uz {a b:Int} {acc:Array Value} {n:Nat} (e:n=(b - a).toNat) (x:ItemsOf (λi v=>∃t,v=Value.int (a+i*1) t) acc n):L2 (VR p) acc.toList (aN a b):=by
 have main:∀(l:List Value) (i:Nat),(∀j v,l[j]? =some v->∃t,v=Value.int (a+((i+j:Nat):Int)) t)->L2 (VR p) l ((List.range' i l.length).map λ(i:Nat)=>AV.int (a+(i:Int))):=by
  intro l
  induction l with
  | nil=>exact λi zz=>.nil
  | cons v l ih=>
   intro i hl
   rw [aa2,abD,aa4]
   exact .cons (hl 0 v rfl) (ih (i+1) λj u hj=>by have:=hl (j+1) u hj;rwa [abg j 1,<-aa9] at this)
 have:=main acc.toList 0 λj v hj=>by
  rw [abh] at hj
  have:∃t,v=Value.int (a+(j:Int)*1) t:=x.2 j v hj
  rwa [Int.mul_one,show (j:Int)=((0+j:Nat):Int) by rw [abE]] at this
 unfold aN
 rw [List.range_eq_range',<-e]
 rwa [Array.length_toList,x.1] at this
theorem vW (hh:A.handled=none) (R:Rep M p) {r:Addr} {a b:Int} {t u v:Tok} (hr:IsRange p.s.heap r a b 1 t u v) (h1:0<=a) (h2:a<=b) (h3:b<=lim) (hq:Q (.ref p.n) (p.H.push (.list (aN a b)))):Ev M A p (call (.type "list") [.ref r]) Q:=λT hT=>by
 have sm:=wP h1 h2 h3
 have hl:(aN a b).length<=lim:=by
  unfold aN
  rw [aaB,List.length_range]
  exact Int.toNat_le.mpr (abd (Int.sub_le_self _ h1) h3)
 refine aP (call_list_range hh hr sm.1 (n:=(b - a).toNat) (by rw [sm.2];exact (Int.toNat_of_nonneg (Int.sub_nonneg_of_le h2)).symm) (by have:(lim:Nat)=1000000:=rfl;exact Int.toNat_le.mpr (abd (Int.sub_le_self _ h1) (abd h3 (wV (aaw (aaS this) (by decide:1000000<=2 ^ 24)):)))) λh' tk xZ c' hk hD hi hz=>?_)
 exact lm R ⟨hk,hz⟩ (aaF _) hD (uz rfl hi) hl hq hT
end
theorem EF (t:String):toS (Str.ofString t)=t:=by
 rw [Str.ofString_eq_toList]
 show String.ofList ((t.toList.map Char.toNat).map Char.ofNat)=t
 rw [aa5]
 refine (congrArg String.ofList ((abq λc zz=>?_).trans (aby _))).trans String.ofList_toList
 exact Char.ofNat_toNat c
noncomputable def Vk (a:AV):Prop:=∃i,a= .int i
theorem So.ints:So.E5 Vk:=⟨λ{a b} ha hb h=>ha.elim λi e=>hb.elim λj e'=>by
  rw [e,e'] at h ⊢
  exact decide_eq_false (Int.lt_asymm (of_decide_eq_true h)),
 λ{a b c} ha hb hc h1 h2=>ha.elim λs e=>hb.elim λt e'=>hc.elim λu e2=>by
  rw [e,e'] at h1
  rw [e',e2] at h2
  rw [e,e2]
  have h1:=of_decide_eq_false h1
  have h2:=of_decide_eq_false h2
  exact decide_eq_false (Int.not_lt.mpr (abd (Int.not_lt.mp h1) (Int.not_lt.mp h2))),
 λ{a b} ha hb h1 h2=>ha.elim λs e=>hb.elim λt e'=>by
  rw [e,e'] at h1 h2 ⊢
  exact congrArg _ (Int.le_antisymm (Int.not_lt.mp (of_decide_eq_false h1)) (Int.not_lt.mp (of_decide_eq_false h2)))⟩
theorem j0:∀(p:Str) (l:List Str),risingS p l=true->(p::l).Pairwise λa b=>¬b.cps.toList < a.cps.toList
 | p,[],_=>abu _ _
 | p,x::r,h=>by
  have h:(!Spec.ltCps x.cps.toList p.cps.toList&&risingS x r)=true:=h
  rw [Bool.and_eq_true,ltCps_eq] at h
  have ih:=j0 x r h.2
  have h1:¬x.cps.toList < p.cps.toList:=of_decide_eq_false (by rw [<-Bool.not_eq_true'];exact h.1)
  exact List.pairwise_cons.mpr ⟨λz hz=>(aaH.mp hz).elim (λe=>e▸h1) λhz=>List.le_trans (l₁:=p.cps.toList) h1 ((List.pairwise_cons.mp ih).1 z hz),ih⟩
section
variable {M:Mo} {k:Nat} {A:Around} {B:Addr->Prop} {p p':Pt} {Q:KV} {T:Value->Shared->Prop}
theorem IS {vs:List Value} {xs:List AV} (l:L2 (VR p) vs xs):xs.all AV.qd=true->∃ns,IntsAre vs ns/\xs=ns.map AV.int:=l.rec (λzz=>⟨[],.nil,rfl⟩) λ{v x zz zz} r zz ih h=>by
 have h:=aaV.mp h
 refine aw (ih h.2) λns h1 h2=>?_
 cases x with
 | int i=>obtain ⟨t,rfl⟩:=r;exact ⟨i::ns,.cons i t h1,congrArg (_::·) h2⟩
 | _=>exact (aaE h.1).elim
theorem uZ {vs:List Value} {ns:List Int} (x:IntsAre vs ns):L2 (VR p) vs (ns.map AV.int):=by
 induction x with
 | nil=>exact .nil
 | cons i t _ ih=>exact .cons ⟨t,rfl⟩ ih
theorem Ha {vs:List Value} {xs:List AV} (l:L2 (VR p) vs xs):xs.all AV.pR=true->∃ss:List String,StrsAre vs (ss.map Str.ofString)/\xs=ss.map AV.str:=l.rec (λzz=>⟨[],.nil,rfl⟩) λ{v x zz zz} r zz ih h=>by
 have h:=aaV.mp h
 refine aw (ih h.2) λns h1 h2=>?_
 cases x with
 | str i=>obtain ⟨t,rfl⟩:=r;exact ⟨i::ns,.cons _ t h1,congrArg (_::·) h2⟩
 | _=>exact (aaE h.1).elim
theorem E0:∀{vs:List Value} {ss:List String},StrsAre vs (ss.map Str.ofString)->L2 (VR p) vs (ss.map AV.str):=by
 intro vs ss
 induction ss generalizing vs with
 | nil=>intro h;cases h;exact .nil
 | cons s ss ih=>intro h;cases h with | cons _ t x=>exact .cons ⟨t,rfl⟩ (ih x)
theorem LA {D:Addr} {vs:List Value} {xs:List AV} {c:Nat} (hD:p.h.get? D=some (mN vs.toArray c)) (r:L2 (VR p) vs xs) (hk:xs.all AV.qd=true\/xs.all AV.pR=true) (hz:xs.length < 64)
  (hT:∀h' out e,h'.get? D=some (mN out e)->L2 (VR p) out.toList (bt xs)->(∀b o,b≠D->p.h.get? b=some o->h'.get? b=some o)->T .none (p.at h' p.s.toks).s):wpAny M.m A (call (.builtin "list.sort") [.ref D]) T bK p.s:=by
 have hl:vs.length < 64:=by rw [r.len];exact hz
 have old:∀(out:Array Value) b o,b≠D->p.h.get? b=some o->(sortedHeap p.h D vs out).get? b=some o:=λout b o hb e=>by rw [sortedHeap_old hb (Heap.lt_size e)];exact e
 refine wpAny_call_entry slot_list_sort ⟨_,hD,rfl⟩ entry_list_sort ?_ (args_list_sort _)
 rcases hk with hi | hi
 .obtain ⟨ns,h1,rfl⟩:=IS r hi
  refine list_sort_tree hD h1 hl λout ui a1 a2 a3=>⟨_,rfl,?_⟩
  obtain ⟨e,he⟩:=sortedHeap_at (out:=out) hD
  refine hT _ out e he ?_ (old out)
  exact (So.uniq So.ints (ys:=ui.map AV.int) (λx hx=>(aaG.mp hx).imp λi z=>z.2.symm) (a2.map _) (List.Pairwise.map _ (λa b m4=>decide_eq_false (Int.not_lt.mpr m4)) a3))▸uZ a1
 .obtain ⟨ss,h1,rfl⟩:=Ha r hi
  refine list_sort_treeK strKind_oneLt hD h1.keysOf (λv₁ v₂ rest e=>keyKind_strs ((e)▸h1)) hl λye hp hs=>⟨_,rfl,?_⟩
  refine cV (sorted_out_str h1 hp hs) λM0 g1 g2 g3=>?_
  refine ug (sortedHeap_at (out:=(arrOf ye).map (·.2)) hD) λe he=>?_
  refine hT _ _ e he ?_ (old _)
  have back:M0=(M0.map toS).map Str.ofString:=by
   rw [aa5]
   refine ((aby _).symm.trans (abq λx hx=>?_))
   refine aw (aaG.mp (g2.mem_iff.mp hx)) λt zz e=>?_
   show x=Str.ofString (toS x)
   rw [<-e,EF]
  have pm:((M0.map toS).map AV.str).Perm (ss.map AV.str):=by
   have:=g2.map toS
   rw [aa5,show (toS ∘ Str.ofString)=id from funext EF,aby] at this
   exact this.map _
  have pw:((M0.map toS).map AV.str).Pairwise So.le:=by
   have g4:M0.Pairwise λa b=>¬b.cps.toList < a.cps.toList:=by
    cases M0 with
    | nil=>exact .nil
    | cons t ts=>exact j0 _ _ g3
   rw [back] at g4
   refine List.Pairwise.map _ (λa b m4=>?_) (List.pairwise_map.mp g4)
   rw [Str.ofString_eq_toList,Str.ofString_eq_toList] at m4
   exact decide_eq_false m4
  rw [<-So.uniq So.Ue (λx hx=>(aaG.mp hx).imp λi z=>z.2.symm) pm pw]
  rw [back] at g1
  exact E0 g1
theorem L2.Pq {α β:Type} {r:α->β->Prop} {l:List α}:∀{m:List β},l.length=m.length->(∀(j:Nat) a b,l[j]? =some a->m[j]? =some b->r a b)->L2 r l m:=by
 induction l with
 | nil=>exact λe zz=>List.eq_nil_of_length_eq_zero e.symm▸ .nil
 | cons a l ih=>
  intro m e h
  cases m with
  | nil=>exact (abC _ e).elim
  | cons b m=>exact .cons (h 0 a b rfl rfl) (ih (Nat.succ.inj e) λj=>h (j+1))
theorem oi {α β:Type} [DecidableEq α] {knd:PySem.KeyKind M.prog M.w α} {enc:β->AV} {dec:β->α} (f:∀v b,knd.is (dec b) v=true->VR p v (enc b)) (l:List Value) (ts:List β) {kvs:List (α × Value)} (e:kvs.map (·.1)=ts.map dec) (e1:l.length=kvs.length) (h:∀(j:Nat) (v:Value),l[j]? =some v->∃k x,kvs[j]? =some (k,x)/\knd.is k v=true):L2 (VR p) l (ts.map enc):=by
 have e2:=congrArg List.length e
 rw [aaB,aaB] at e2
 refine (L2.Pq (e1.trans e2) λj v t hv ht=>aq (h j v hv) λk x z=>f v t ?_).yc
 have e3:=congrArg (·[j]?) e
 rw [abc,abc,z.1,ht] at e3
 exact aay e3▸z.2
theorem Lz (v:Value) (b:Int) (h:(intKind M.prog M.w).is (id b) v=true):VR p v (.int b):=by
 cases v with
 | int i t=>exact ⟨t,by rw [of_decide_eq_true (show decide (i=b)=true from h)]⟩
 | _=>exact (aaE h).elim
theorem Lx (v:Value) (b:String) (h:(PySem.strKind M.prog M.w).is (Str.ofString b) v=true):VR p v (.str b):=by
 cases v with
 | str i t=>exact ⟨t,by rw [beq_iff_eq.mp (show (i==Str.ofString b)=true from h)]⟩
 | _=>exact (aaE h).elim
theorem Bg (W:Wd M) (hh:A.handled=none) (R:Rep M p) {a:Nat} (la:a < p.n) {xs:List AV} (hg:p.H.g a= .list xs\/∃es,p.H.g a= .dict es/\xs=es.map (·.1)) (hk:xs.all AV.qd=true\/xs.all AV.pR=true) {T:List Value->Shared->Prop}
  (hT:∀vs h' t,dX p.h h'->L2 (VR (p.at h' t)) vs xs->T vs (p.at h' t).s):wpAny M.m A (collect (.ref (p.W.ρ a))) T bK p.s:=by
 rcases hg with hg | ⟨es,hg,rfl⟩
 .refine aq (aL R la hg) λus k1 l=>?_
  refine aP (collect_list (vs:=us.toList) (ck l.at_) (λC9=>?_) (by rw [l.l.len];exact cT l.len))
  have g:dX p.h ((p.h.push (seqObj "list" #[] 0)).update p.h.objs.size (Obj.mapSeq (· ++us.toList.toArray))):=⟨λx o e=>by
   rw [Heap.get?_update_other _ _ (abm (aaJ (Heap.lt_size e)))]
   exact Heap.get?_push_of_some _ e,C9⟩
  exact hT _ _ p.s.toks g (wX.mono (.grow g.tup) l.l)
 .refine fV (cF R la hg) λzz ds ep D=>?_
  have sy:=kK W R la (fF hg)
  rcases hk with hi | hi
  .obtain ⟨kvs,ts,hd,e1,e2⟩:=G0 D λe he=>by
    have:=aaX.mp hi e.1 (abi he)
    cases q:e.1 with
    | int=>rfl
    | _=>rw [q] at this;exact (aaE this).elim
   have l:kvs.length=es.length:=by have h1:=congrArg List.length e1;have h2:=congrArg List.length e2;rw [aaB,aaB] at h1 h2;exact h2.trans h1.symm
   refine aP (kdu_collect (kdl_dict (knd:=intKind M.prog M.w) (kvs:=kvs) (ep:=ep) sy) hh hd (by rw [l];exact cT D.len) λh' tk acc MX Dl C9=>hT _ _ tk ⟨MX,C9⟩ ?_)
   rw [e1]
   exact oi (knd:=intKind M.prog M.w) (dec:=id) Lz acc.toList ts e2 (by rw [Array.length_toList,Dl.1]) λj v hj=>Dl.2 j v (by rw [abh] at hj;exact hj)
  .obtain ⟨kvs,ts,hd,e1,e2⟩:=nH D λe he=>by
    have:=aaX.mp hi e.1 (abi he)
    cases q:e.1 with
    | str=>rfl
    | _=>rw [q] at this;exact (aaE this).elim
   have l:kvs.length=es.length:=by have h1:=congrArg List.length e1;have h2:=congrArg List.length e2;rw [aaB,aaB] at h1 h2;exact h2.trans h1.symm
   refine aP (kdu_collect (kdl_dict (knd:=PySem.strKind M.prog M.w) (kvs:=kvs) (ep:=ep) sy) hh hd (by rw [l];exact cT D.len) λh' tk acc MX Dl C9=>hT _ _ tk ⟨MX,C9⟩ ?_)
   rw [e1]
   exact oi (knd:=PySem.strKind M.prog M.w) (dec:=Str.ofString) Lx acc.toList ts e2 (by rw [Array.length_toList,Dl.1]) λj v hj=>Dl.2 j v (by rw [abh] at hj;exact hj)
theorem Ei (W:Wd M) (hh:A.handled=none) (R:Rep M p) {v:Value} {av:AV} (r:VR p v av) (hq:jQ av p.H Q):Ev M A p (call (.builtin "sorted") [v]) Q:=λT hT=>by
 refine bU (bJ hq) λa e0 h=>?_;subst e0
 obtain ⟨rfl,la⟩:=r
 obtain ⟨xs,hg,hk,hz,h⟩:∃xs,(p.H.g a= .list xs\/∃es,p.H.g a= .dict es/\xs=es.map (·.1))/\uJ xs p.H Q:=by
  have h:=h.run
  cases e:p.H.g a with
  | list xs=>rw [e] at h;exact ⟨xs,.inl rfl,h⟩
  | dict es=>rw [e] at h;exact ⟨_,.inr ⟨es,rfl,rfl⟩,h⟩
  | _=>rw [e] at h;exact h.elim
 refine call_function_entry kind_sorted plain_sorted entry_sorted (args_sorted1 _) ?_
 have WE:xs.length<=lim:=aaw (aaI hz) (by decide)
 refine wpAny_bind (m:=checkCount "sorted" 1 1 _) (wpAny_pure (wpAny_bind (Bg (A:=A.in1) W hh R la hg hk λus h' t g hr=>wpAny_bind (wpAny_newList ?_ (by rw [hr.len];exact cT WE)))))
 have hD:(h'.push (mN us.toArray 0)).get? h'.objs.size=some (mN us.toArray 0):=Heap.get?_push_size _ rfl
 refine wpAny_bind (wpAny_holding (aP (tD (LA (p:=p.at (h'.push (mN us.toArray 0)) t) hD (wX.mono (p:=p.at h' t) (.grow (dX.push _ _).tup) hr) hk hz λh2 out e he Yv hold ZA=>?_))))
 have tk:dH (h'.push (mN us.toArray 0)) h2:=λx o e q=>hold x o (λz=>by subst z;obtain rfl:=aay (hD.symm.trans e);exact xl (c:="list") rfl (by decide) q) e
 exact wpAny_pure ⟨_,rfl,lm (p:=p) (t:=t) R (⟨λb o e=>hold b o (aaJ (aax (Heap.lt_size e) g.2)) ((g.trans (.push _ _)).1 b o e),aaw (g.trans (.push _ _)).2 ZA⟩) g.2 he (wX.mono (p:=p.at (h'.push (mN us.toArray 0)) t) (p':=p.at h2 t) ⟨aaF _,λzz zz=>rfl,tk⟩ Yv) (by rw [dD];exact WE) h.run hT⟩
end
section
variable {M:Mo} {k:Nat} {A:Around} {B:Addr->Prop} {p p':Pt} {sc:Scope} {env:Env} {loc:Loc} {Q:KV} {T:Value->Shared->Prop} {e:Expr} {q:Pos}
structure dP (M:Mo) (p:Pt) (D:Addr) (es:List (AV × AV)):Prop where
 own:¬Own p D
 hi:M.h0.objs.size<=D
 at_:∃ds k,jU M p D ds k es
theorem dP.lt {D:Addr} {es:List (AV × AV)} (x:dP M p D es):D < p.h.objs.size:=aq x.at_ λds k z=>Heap.lt_size z.at_
theorem dP.IW {D:Addr} {es:List (AV × AV)} (x:dP M p D es):∀y,isA D y->lN M p y:=λy (e:y=D)=>e▸⟨x.own,x.hi,aq x.at_ λds k z=>o3 z.at_ (by decide:Value.type "dict"≠ .type "tuple")⟩
theorem dP.after {D:Addr} {es:List (AV × AV)} (x:dP M p D es) (a:After M B p p') (hb:¬B D):dP M p' D es:=
 ⟨a.own x.lt x.own,x.hi,x.at_.imp λds z=>z.imp λk z=>z.mono a.lift λo e=>a.keep _ o e x.own hb⟩
theorem dP.tell {D:Addr} {es:List (AV × AV)} (x:dP M p' D es) (a:After M B p p') (j3:p.h.objs.size<=D) (hs:M.h0.objs.size<=p.h.objs.size) (hb:∀x,B x->p.h.objs.size<=x) (hq:Q (.ref p'.n) (p'.H.push (.dict es))) (hT:z9 M p Q T):T (.ref D) p'.s:=
 have t:=After.tell (o:= .dict es) a j3 j3 x.own x.own hs ⟨rfl,x.at_.imp λds z=>z.imp λk z=>z.mono .tell λzz e=>e⟩
 hT (p'.tell D D (.dict es)) _ (.ref p'.n) hq t.2 (t.1.drop λx hx=>.inr (hb x hx))
theorem wu (hu:A.units+100 < cLine) (R:Rep M p) {D:Addr} {es:List (AV × AV)} (x:dP M p D es) {v u:Value} {kx y:AV} (r:VR p v kx) (ru:VR p u y) (fit:bB kx es) (hz:es.length < lim) {T:Unit->Shared->Prop}
  (hT:∀h t,dP M (p.at h t) D (bT kx y es)->After M (isA D) p (p.at h t)->T () (p.at h t).s):wpAny M.m A (dictSet D v u) T bK p.s:=by
 refine aq x.at_ λds ep d=>?_
 exact Cs hu d r ru fit hz λh t hs D'=>have a:After M (isA D) p (p.at h t):= .gen R (aaS hs.1.symm) x.IW (λx o e n=>(hs.2 x n).trans e);hT h t ⟨x.own,x.hi,D' _ a.lift rfl⟩ a
noncomputable abbrev L4:Obj:={cls:= .type "dict",data:= .dict #[]}
theorem xc (R:Rep M p) {t:Nat}:After M cY p (p.at (p.h.push L4) t)/\dP M (p.at (p.h.push L4) t) p.h.objs.size []:=
 ⟨.grow R (.push _ _),R.new (aaF _),R.sz,#[],0,Heap.get?_push_size _ rfl,.nil,.nil,abp _⟩
noncomputable def kA (env:Env) (pos:Pos):List (Option Expr)->List Expr->List (Sem Value × Sem Value)
 | some k::ks,v::vs=>(eval k env,do let x <-eval v env;standAt pos;pure x)::kA env pos ks vs
 | _,_=>[]
theorem pB {e:Option Expr} {r:List (Option Expr)} {ks:List String} (h:nT (e::r)=some ks):∃x c q l,e=some (.Constant (.str (Str.ofString x)) c q)/\nT r=some l/\ks=x::l:=by
 refine bU (bb h) λe e0 ha=>?_;subst e0
 refine aw (bb ha) λy h1 hb=>?_
 refine aw (bb hb) λx h2 hc=>?_
 refine aw (bm hc) λl h3 e1=>?_;subst e1
 have:=kj h2
 cases e with
 | Constant v c q=>
  cases v with
  | str t=>obtain rfl:=aay h1;exact (j8 x c q l ⟨by rw [<-this],h3,rfl⟩)
  | _=>exact nomatch h1
 | _=>exact nomatch h1
theorem i5 {pos:Pos}:∀{kf:List (Option Expr)} {ks:List String} {vf:List Expr},nT kf=some ks->kf.length=vf.length->
  (evalEachOpt kf env).zip ((evalEach vf env).map λv=>do let x <-v;standAt pos;pure x)=(kA env pos kf vf).map (λp=>(some p.1,p.2))/\(kA env pos kf vf).length=kf.length/\ks.length=kf.length
 | [],ks,[],h,_=>by obtain rfl:=aay h;exact ⟨rfl,rfl,rfl⟩
 | e::kf,ks,v::vf,h,hl=>by
  refine vD (pB h) λx c q l e0 h' e1=>?_;subst e0;subst e1
  refine xD (i5 (pos:=pos) h' (Nat.succ.inj hl)) λa b d=>?_
  refine ⟨?_,congrArg (· +1) b,congrArg (· +1) d⟩
  show (some (eval _ env),_)::(evalEachOpt kf env).zip ((evalEach vf env).map _)=_
  rw [a];rfl
theorem uu {pos:Pos} {l:List X} {vf:List Expr} (s:L2 (λx e=>aA M x sc e) l vf):∀{kf:List (Option Expr)} {ks:List String},nT kf=some ks->kf.length=vf.length->∀{k:Nat} {p:Pt} {Q:KL},ng M k A p sc env loc->wC l (Γc M k) loc p.H Q->
  ∀T:List (Value × Value)->Shared->Prop,(∀p' kvs bF,Q bF p'.H->L2 (λ(q:Value × Value) (a:String × AV)=>VR p' q.1 (.str a.1)/\VR p' q.2 a.2) kvs (ks.zip bF)->bF.length=ks.length->After M cY p p'->T kvs p'.s)->wpAny M.m A (evalPairs (kA env pos kf vf)) T bK p.s:=by
 induction s with
 | nil=>
  intro kf ks hk hl k p Q z hq T hT
  cases kf with
  | cons=>cases hl
  | nil=>obtain rfl:=aay hk;exact wpAny_pure (hT p [] [] hq .nil rfl (.refl z.rep))
 | cons h s ih=>
  intro kf ks hk hl k p Q z hq T hT
  cases kf with
  | nil=>cases hl
  | cons e kf=>
   refine vD (pB hk) λx c q l e0 zD e1=>?_;subst e0;subst e1
   refine evalPairs_cons (wpAny_mkText ?_)
   have a0:After M cY p (p.at p.h (p.s.toks+1)):= .toks z.rep _
   exact wpAny_bind (h (z.after a0) hq _ λp1 v1 av q1 r a=>wpAny_bind (wpAny_standAt (wpAny_pure (ih zD (Nat.succ.inj hl) (z.after (a0.trans a)) q1 _ λp2 kvs bF q2 f Qz a2=>hT p2 _ (av::bF) q2 (.cons ⟨⟨_,rfl⟩,a2.rel r⟩ f) (congrArg (· +1) Qz) ((a0.trans a).trans a2)))))
theorem Af {k v:AV} {es:List (AV × AV)} {m:Nat} (hk:kk k=m) (he:∀e∈es,kk e.1=m):∀e∈bT k v es,kk e.1=m:=λe h=>by
 have:=nU.mp (abi (f:=(·.1)) h)
 rcases this with q | q
 .exact (q)▸hk
 .refine aw (aaG.mp q) λe' h' q=>?_
  exact q▸he e' h'
theorem uF {D:Addr} (hu:A.units+100 < cLine):∀(kvs:List (Value × Value)) (as:List (String × AV)) {es:List (AV × AV)} {p:Pt},Rep M p->dP M p D es->(∀e∈es,kk e.1=1)->es.length+as.length<=lim->L2 (λ(q:Value × Value) (a:String × AV)=>VR p q.1 (.str a.1)/\VR p q.2 a.2) kvs as->
  ∀{T:PUnit->Shared->Prop},(∀h t,dP M (p.at h t) D (as.foldl (λes a=>bT (.str a.1) a.2 es) es)->After M (isA D) p (p.at h t)->T PUnit.unit (p.at h t).s)->
   wpAny M.m A (forIn kvs PUnit.unit λ(x:Value × Value) (zz:PUnit)=>(do dictSet D x.1 x.2;pure (ForInStep.yield PUnit.unit):Sem (ForInStep PUnit))) T bK p.s
 | _,_,es,p,R,x,hk,hz,.nil,T,hT=>by
  refine bf (List.forIn_nil ..) ?_
  exact wpAny_pure (hT _ _ x (.refl R))
 | _,a::as,es,p,R,x,hk,hz,.cons f fs,T,hT=>by
  refine bf (List.forIn_cons ..) ?_
  rw [aa2,<-aa9] at hz
  refine wpAny_bind (wpAny_bind (wu hu R x f.1 f.2 ⟨Nat.one_ne_zero,λe he=>hk e he⟩ (aaz (aaM _ _) hz) λh t x1 a1=>wpAny_pure ?_))
  refine uF hu _ as a1.rep x1 (Af rfl hk) (aaw (abb j2 _) (by rw [aa9,abg 1,<-aa9];exact hz)) (fs.imp λzz zz z=>⟨a1.rel z.1,a1.rel z.2⟩) λh t x2 a2=>hT h t x2 (a1.trans a2)
theorem vU:∀(ks:List String) (bF:List AV) (es:List (AV × AV)),(ks.zip bF).foldl (λes a=>bT (.str a.1) a.2 es) es=((ks.map AV.str).zip bF).foldl (λes p=>bT p.1 p.2 es) es
 | [],_,_=>rfl
 | _::_,[],_=>rfl
 | _::ks,_::bF,_=>vU ks bF _
theorem CY {ks:List String} {l:List X} {kf:List (Option Expr)} {vf:List Expr} (hk:nT kf=some ks) (hl:kf.length=vf.length) (hz:kf.length<=15) (hx:L2 (λx e=>aA M x sc e) l vf):aA M (X.dict ks (wC l)) sc (.Dict kf vf q):=by
 intro k A p env loc Q z hq T hT
 cases kf with
 | nil=>
  cases vf with
  | cons=>cases hl
  | nil=>
   cases hx
   obtain rfl:=aay hk
   refine bf (eval_Dict_empty ..) ?_
   have n:=xc z.rep (t:=p.s.toks)
   exact wpAny_bind (wpAny_standAt (wpAny_newObj_type (n.2.tell n.1 (aaF _) z.rep.sz (λzz h=>h.elim) hq.run hT)))
 | cons e kf=>
  refine xD (i5 (env:=env) (pos:=q) hk hl) λe1 e2 e3=>?_
  have z2:kA env q (e::kf) vf≠[]:=λh=>by replace e2:=(h)▸e2;cases e2
  refine bf (arm_eval_Dict ..) ?_;rw [e1,dictDisplay_pairs _ z2 (by rw [e2];exact aaz hz (by decide:15 < 17))]
  refine wpAny_bind (wpAny_standAt (wpAny_bind ?_))
  refine wpAny_bind (wpAny_alloc (wpAny_bind (wpAny_holding ?_)))
  refine DO (by rw [e2];exact hz) ?_
  refine qj (xc z.rep (t:=p.s.toks)) λa0 x0=>?_
  refine wpAny_bind (uu hx hk hl (z.after a0) hq _ λp1 kvs bF q1 f Qz a1=>?_)
  refine wpAny_holding (wpAny_bind (uF z.cx.um kvs (ks.zip bF) a1.rep (x0.after a1 id) (λzz h=>(aaU h).elim) (by rw [List.length_zip,Qz,Nat.min_self,e3];exact aaw (aaS (abE _)) (aaw hz (by decide))) f λh t x2 a2=>wpAny_pure (wpAny_pure (wpAny_pure (x2.tell ((a0.trans a1).no.trans a2) (aaF _) z.rep.sz (λx (e:x=_)=>e▸aaF _) ?_ hT)))))
  rw [vU]
  exact q1.run
end
section
variable {M:Mo} {k:Nat} {A:Around} {B:Addr->Prop} {p p':Pt} {Q:KV} {T:Value->Shared->Prop}
theorem tI:typeLookup (.type "list") ("keys":Str)=pure none:=by rw [typeLookup_type,builtinLookup_eq_fast];kernel_rfl
theorem DB {s:Shared} {a:Addr} {xs:Array Value} {c:Nat} (hx:s.heap.get? a=some (mN xs c)) (hA:A.handled=none) {T:Option Value->Shared->Prop} {E:Value->Shared->Prop}
  (hT:∀h' tk,(∀b o,s.heap.get? b=some o->h'.get? b=some o)->T none {s with heap:=h',toks:=tk}):wpAny M.m A (getAttr? (.ref a) ("keys":Str)) T E s:=by
 obtain ⟨hp,g,d,tk,os⟩:=s
 have Gu:∀ME,(⟨hp,g,d,ME,os⟩:Shared).TypeIs (.ref a) "list":=λzz=>⟨_,hx,rfl⟩
 have f1:=sub_AttributeError
 have f3:=PySem.F.slot_list_getattribute.lookup
 have f4:=PySem.F.slot_list_getattribute.bind (.ref a)
 have f5:=am_list_getattr_none
 have P1:=tI
 have PB:((["__module__","__name__","__qualname__","__doc__","__annotations__"]:List Str).contains ("keys":Str))=false:=by decide
 unfold getAttr? getAttrBy? getAttrBy
 repeat (any_goals (first | assumption | exact Gu _ | ((with_reducible show wpAny _ _ (call (Value.builtin "list.__getattribute__") _ _) _ _ _);refine call_meets PySem.F.slot_list_getattribute (Gu _) am_entry_list_getattribute (PySem.F.args_list_getattribute_2 _ _) (meets_getattribute_miss_list a xs c #[] ("keys":Str) _ P1 PB) ⟨hx,hA,λh' ME e Xo=>?_⟩) | wp_step))
 obtain ⟨t',u',he⟩:=Xo.there
 show wpAny _ _ (getattributeRaised _ _ _ _ _ _ _) _ _ _
 unfold getattributeRaised
 repeat (any_goals (first | assumption | wp_step))
 exact hT _ _ Xo.of.keeps
theorem hK:entryFor table "dict.update.loop"=some Builtin.«dict.update.loop»:=entryFor_of_tree (by kernel_rfl)
theorem c6:plainId "dict.update.loop"=true:=by decide+kernel
theorem uL {x:Addr} {vs:Array Value} {s:Shared} (ht:IsTup s.heap x vs) {T:List Value->Shared->Prop} {E:Value->Shared->Prop} (h:T vs.toList s):wpAny M.m A (Builtin.Dict.pairItems (.ref x)) T E s:=by
 refine wpAny_bind (wpAny_typeOf ht.typeIs (bm_if_true rfl ?_))
 refine ju ht λo ho hc n hd=>?_
 show wpAny _ _ (seqItems? (.ref x) >>= _) _ _ s
 exact wpAny_bind (wpAny_seqItems ho hd (wpAny_pure h))
theorem kh {v:AV} {r:List AV} {ps:List (AV × AV)} (h:dG (v::r)=some ps):∃k u L5,v= .tup [k,u]/\dG r=some L5/\ps=(k,u)::L5:=by
 refine aw (bb h) λq h1 h2=>?_
 refine aw (bm h2) λL5 h3 h4=>?_
 cases v with
 | tup xs=>
  rcases xs with _ | ⟨a,_ | ⟨b,_ | ⟨c,l⟩⟩⟩
  .exact (nn h1).elim
  .exact (nn h1).elim
  .obtain rfl:=aay h1;exact (c9 _ _ L5 ⟨rfl,h3,h4.symm⟩)
  .exact (nn h1).elim
 | _=>exact (nn h1).elim
theorem fB:∀{xs:List AV} {ps:List (AV × AV)},dG xs=some ps->ps.length=xs.length
 | [],_,h=>by obtain rfl:=aay h;rfl
 | v::r,_,h=>by
  refine Hy (kh h) λk u L5 zz h2 e0=>?_;subst e0
  exact congrArg (· +1) (fB h2)
theorem BS {D it a m:Nat} {xs:List AV} {Rr:Result->Shared->Prop} (hh:A.handled=none) (hu:A.units+101 < cLine) (hm:m≠0):∀(ps:List (AV × AV)) (i:Nat) {p:Pt} {es:List (AV × AV)},dG (xs.drop i)=some ps->p.H.g a= .list xs->
  Rep M p->It M p (.obj a) xs 0 it i->dP M p D es->it≠D->(∀e∈es,kk e.1=m)->(∀q∈ps,kk q.1=m)->es.length+ps.length<=lim->
  (∀h t,dP M (p.at h t) D (ps.foldl (λes q=>bT q.1 q.2 es) es)->After M (λz=>z=D\/z=it) p (p.at h t)->Rr (.ok (.ret .none)) (p.at h t).s)->∀j,codeAny M.m A (.builtin "dict.update.loop" ⟨[.ref D,.ref it,rawInt j,.none],[]⟩) Rr p.s:=by
 intro ps
 induction ps with
 | nil=>
  intro i p es wZ hg R I hD z2 Sm Nn hz hR j
  have e0:xs.length<=i:=by have:=fB wZ;rw [List.length_drop] at this;exact Nat.le_of_sub_eq_zero this.symm
  refine codeAny_builtin hK ?_
  exact (Around.under_plainId c6 _)▸wpAny_bind (tD (sT (A:=A.in1) hh R I (λv av h t h1=>by rw [List.getElem?_eq_none e0] at h1;exact nomatch h1) λh t h1 a2=>wpAny_bind (wpAny_pure (wpAny_pure (hR h t (hD.after a2 λq=>z2 q.symm) (a2.weaken λzz e=>.inr e))))))
 | cons q L5 ih=>
  intro i p es wZ hg R I hD z2 Sm Nn hz hR j
  have lt:i < xs.length:=by
   have:=fB wZ
   rw [List.length_drop] at this
   exact Nat.lt_of_sub_pos (this▸Nat.succ_pos _)
  have Mv:=aaR lt
  replace wZ:=(kY Mv)▸wZ
  refine iS (kh wZ) λkx ux ps2 e2 TN e3=>?_
  cases e3
  rw [e2] at Mv
  have k1:kk kx=m:=Nn (kx,ux) (.head _)
  refine codeAny_builtin hK ?_
  rw [Around.under_plainId c6 _]
  refine wpAny_bind (tD (sT (A:=A.in1) hh R I (λv av h t h1 rv w8 a2=>?_) λh t h1=>by rw [Mv] at h1;exact nomatch h1))
  obtain rfl:=aay (Mv.symm.trans h1)
  refine cf rv.tup λx items e1 ht hr=>?_;subst e1
  refine aS hr.aW λkv l1 TZ rk hr=>?_
  obtain ⟨uv,l2,rfl,ru,hr⟩:=hr.aW
  obtain rfl:=hr.df
  refine wpAny_bind (wpAny_holding (wpAny_bind (wpAny_tryCatch (uL ht ?_))))
  rw [TZ]
  have C9:es.length+1+L5.length<=lim:=by rw [aa9,abg 1];exact hz
  refine wpAny_holding (tD (wu (A:=A.in1) (by show A.units+1+100 < cLine;rw [aa9];exact hu) a2.rep (hD.after a2 λq=>z2 q.symm) rk ru ⟨by rw [k1];exact hm,λe he=>by rw [Sm e he,k1]⟩ (aax (aaC _) (aaw (aaM _ _) C9)) λh3 t3 Yj a3=>?_))
  have JW:=a2.own I.lt I.pv.own
  have lg:=aax I.lt a2.size
  have NS:=w8.keep a3 JW z2 I.st I.st
  exact wpAny_pure ⟨plainId_quiet c6 _,ih (i+1) (p:=(p.at h t).at h3 t3) TN hg a3.rep ⟨NS,I.st,⟨a3.own lg JW,I.pv.hi,NS.im⟩,aax lg a3.size⟩ Yj z2 (Af k1 Sm) (λq hq=>Nn q (.tail _ hq)) (aaw (abb j2 _) C9)
   (λh4 t4 h1 a4=>hR h4 t4 h1 (((a2.weaken λzz e=>.inr e).trans (a3.weaken λzz e=>.inl e)).trans a4)) _⟩
theorem Li {α:Type} [DecidableEq α] {knd:PySem.KeyKind M.prog M.w α} {d:DictEntry} {ds:List DictEntry} {kvs:List (α × Value)} (h:Pairs knd (d::ds) kvs):∃k l,kvs=(k,d.val)::l/\knd.is k d.key=true/\Pairs knd ds l:=by
 cases h with
 | cons a b c=>exact (bI _ _ ⟨by rw [b],a,c⟩)
theorem LY {α:Type} [DecidableEq α] {knd:PySem.KeyKind M.prog M.w α} {k:α} {v:Value} {ds:List DictEntry} {kvs:List (α × Value)} (h:Pairs knd ds ((k,v)::kvs)):∃d l,ds=d::l/\knd.is k d.key=true/\d.val=v/\Pairs knd l kvs:=by
 cases h with
 | cons a b c=>exact (bI _ _ ⟨rfl,a,by rw [b],c⟩)
theorem Ku {ds:List DictEntry} {es:List (AV × AV)} (l:L2 (mO M p) ds es) (li:fM p p'):∀{BD:List DictEntry} {kvs:List (Str × Value)},(∀e∈es,kk e.1=1)->Pairs (PySem.strKind M.prog M.w) ds kvs->Pairs (PySem.strKind M.prog M.w) BD kvs->
  (∀d∈BD,∃k,(PySem.strKind M.prog M.w).is k d.key=true/\d.hash=(PySem.strKind M.prog M.w).hash k)->L2 (mO M p') BD es:=by
 induction l with
 | nil=>intro BD kvs _ h1 h2 _;cases h1;cases h2;exact .nil
 | @cons d e ds es r l ih=>
  intro BD kvs hk h1 h2 hh
  refine aS (Li h1) λk kvs e2 p1 ps=>?_;subst e2
  refine IC (LY h2) λd' BD e3 q1 q2 qs=>?_;subst e3
  refine .cons ?_ (ih (λe he=>hk e (.tail _ he)) ps qs λd hd=>hh d (.tail _ hd))
  obtain ⟨dh,dk,dv⟩:=d
  obtain ⟨Z3,Zo,YF⟩:=d'
  obtain ⟨ek,ev⟩:=e
  refine wW (nY (hk _ (.head _))) λt e4=>?_;subst e4
  obtain ⟨⟨u,rfl⟩,_,rfl,rv⟩:=r
  refine aw (hh _ (.head _)) λk0 g1 g2=>?_
  have e1:Str.ofString t=k:=beq_iff_eq.mp p1
  refine ⟨?_,Nat.one_ne_zero,g2.trans (by rw [((PySem.strKind M.prog M.w).inj _ _ _ g1 q1),<-e1];rfl),(show YF=dv from q2)▸rv.mono li⟩
  cases Zo with
  | str y u'=>exact ⟨u',by rw [e1,<-(beq_iff_eq.mp q1:y=k)]⟩
  | _=>exact (aaE q1).elim
theorem Mx (W:Wd M) (hh:A.handled=none) (hu:A.units+102 < cLine) (R:Rep M p) {v:Value} {av:AV} (r:VR p v av) (hq:vP av p.H Q):Ev M A p (call (.type "dict") [v]) Q:=λT hT=>by
 refine bU (bJ hq) λa e0 h=>?_;subst e0
 obtain ⟨rfl,la⟩:=r
 have h:=h.run
 cases hg:p.H.g a with
 | list xs=>
  rw [hg] at h
  obtain ⟨us,k1,l⟩:=aL R la hg
  refine cV (bE h) λps wZ hk h=>?_
  refine callType_codes (Q₁:=λobj s₁=>obj= .ref p.h.objs.size/\s₁=(p.at (p.h.push L4) p.s.toks).s) PySem.F.kt_called_dict (PySem.F.kt_typeCall_dict_1 _) PySem.F.entry_dict_init (kt_code_dict_new _ ⟨rfl,rfl⟩) ?_
  rintro obj s₁ ⟨rfl,rfl⟩
  obtain ⟨a1,x1⟩:=xc R (t:=p.s.toks)
  have ty:(p.at (p.h.push L4) p.s.toks).s.TypeIs (.ref p.h.objs.size) "dict":=⟨_,Heap.get?_push_size _ rfl,rfl⟩
  refine aq (aL (p:=p.at (p.h.push L4) p.s.toks) a1.rep la hg) λus1 k2 l1=>?_
  refine ⟨ty,PySem.F.args_dict_init_2 _ _,?_⟩
  refine wpAny_bind ?_
  refine wpAny_bind (wpAny_notOrdered_dict ty ?_)
  refine wpAny_pure ?_
  show wpAny _ _ (Builtin.Dict.updateFrom "dict.__init__" p.h.objs.size (.ref (p.W.ρ a)) [] .none) _ _ _
  refine wpAny_bind (wpAny_typeOf (T:="list") ⟨_,l1.at_,rfl⟩ ?_)
  refine DO (by decide) ?_
  refine wpAny_bind (aP (DB (A:=A.in1.in1) l1.at_ hh λh' tk MX X5=>bm_if_true rfl ?_))
  have a2:After M cY (p.at (p.h.push L4) p.s.toks) (p.at h' tk):= .grow (p:=p.at (p.h.push L4) p.s.toks) a1.rep ⟨MX,X5⟩
  have x2:=x1.after a2 id
  refine wpAny_bind (wpAny_rule (wpAny_bind (wpAny_pyIter_list (s:=(p.at h' tk).s) (ck (MX _ _ l1.at_)) ?_)))
  refine me (pZ (p:=p.at h' tk) (t:=tk) (o:={cls:= .type "list_iterator",data:= .fields #[.ref (p.W.ρ a),rawInt 0]}) a2.rep rfl (by decide) rfl) λpv lt gi a3=>?_
  obtain ⟨m,hm,YC⟩:∃m,m≠0/\∀q∈ps,kk q.1=m:=by
   cases ps with
   | nil=>exact ⟨1,by decide,λzz h=>nomatch h⟩
   | cons q ps=>exact ⟨kk q.1,(hk q.1 (.head _)).1,λr hr=>(hk q.1 (.head _)).2 r.1 (abi hr)⟩
  have st:cy (.obj a) xs 0 p.H:=⟨by show ft (p.H.g a)=_;rw [hg];rfl,by show jB _ (p.H.g a)=_;rw [hg];rfl⟩
  refine wpAny_pure ⟨plainId_quiet c6 _,BS (A:=A.in1) (p:=(p.at h' tk).at _ tk) (a:=a) (m:=m) (xs:=xs) hh (by show A.units+1+101 < cLine;rw [aa9];exact hu) hm ps 0 wZ hg a3.rep ⟨⟨la,by show MO _ _ _ _ (p.H.g a);rw [hg];exact ⟨_,gi,rfl,rfl⟩⟩,st,pv,lt⟩ (x2.after a3 id) (λe=>Nat.lt_irrefl _ (e▸x2.lt)) (λzz h=>nomatch h) YC (by rw [fB wZ];exact aaw (aaS (abE _)) l.len) (λh4 t4 x4 a4=>⟨rfl,?_⟩) 0⟩
  exact x4.tell (p:=p) (((a1.trans a2).trans a3).no.trans a4) (aaF _) R.sz (λx e=>e.elim (λe=>e▸aaF _) λe=>e▸(a1.trans a2).size) h.run hT
 | dict es=>
  rw [hg] at h
  obtain ⟨hk,h⟩:=h
  refine fV (cF R la hg) λzz ds ep D=>?_
  refine aS (nH D hk) λkvs ts hd e1 e2=>?_
  have l:kvs.length=es.length:=by have h1:=congrArg List.length e1;have h2:=congrArg List.length e2;rw [aaB,aaB] at h1 h2;exact h2.trans h1.symm
  have V3:=hd.dictOf
  refine kt_call_dict (kK W R la (fF hg)) V3 ((l)▸cT D.len) λh' hm hs=>?_
  obtain ⟨⟨_,_,_,_⟩,BD,N9,Pg,⟨e1,e2,e3⟩,Tb,XB,SN,WW⟩:=hm
  subst e1;subst e2;subst e3;subst Tb
  refine jr V3 λo1 Z5 ep1 HQ Y4 OX YQ Sk ZM=>?_
  obtain rfl:=aay (D.at_.symm.trans HQ)
  cases OX
  have g:dX p.h h':=⟨λx o e=>(hs.2 x (aaJ (Heap.lt_size e))).trans (Heap.get?_push_of_some _ e),by rw [hs.1,Heap.size_push];exact aba _⟩
  have a1:After M cY p (p.at h' p.s.toks):= .grow R g
  exact dP.tell (p:=p) (p':=p.at h' p.s.toks) (es:=es) ⟨R.new (aaF _),R.sz,BD,N9,Pg,Ku D.l a1.lift hk Sk SN λd hd=>XB d (Array.mem_toList_iff.mp hd),D.nd,D.len⟩ a1 (aaF _) R.sz (λzz h=>h.elim) h.run hT
 | _=>replace h:=(hg)▸h;exact h.elim
end
section
variable {M:Mo} {k:Nat} {A:Around} {B:Addr->Prop} {p p':Pt} {Q:KV} {T:Value->Shared->Prop} {vs:List Value} {bF:List AV} {b:Nat}
theorem tX (R:Rep M p) (lb:b < p.n) {xs ys:List AV} (hg:p.H.g b= .list xs) {h':Heap} {us:Array Value} {c:Nat} (hs:Heap.SameBut (p.W.ρ b) p.h h') (ho:h'.get? (p.W.ρ b)=some (mN us c)) (r:L2 (VR p) us.toList ys) (hz:ys.length<=lim) {t:Nat}:
  After M cY p ⟨p.W,p.H.set b (.list ys),{p.s with heap:=h',toks:=t}⟩:=nC R lb (sG hg) hs rfl λq e li=>⟨nN R lb hg,us,c,by rw [e];exact ho,wX.mono li r,hz⟩
theorem Cz (R:Rep M p) (lb:b < p.n) (q:Gn b "append" Q bF p.H) (r:L2 (VR p) vs bF):Ev M A p (call (.builtin "list.append") (.ref (p.W.ρ b)::vs)) Q:=λT hT=>by
 refine aw (bY q.run) λxs hg h=>?_
 obtain ⟨av,rfl,hz,h⟩:=g9 h
 refine cf r.aW λv l e0 rv hl=>?_;subst e0
 obtain rfl:=hl.df
 refine aq (aL R lb hg) λus n l=>?_
 exact wpAny_list_append_plain (items:=us) ⟨n,l.at_⟩ (λh' t0 hs=>ug t0 λn' e=>hT ⟨p.W,p.H.set b _,{p.s with heap:=h',toks:=p.s.toks}⟩ _ .none h.run rfl (tX R lb hg hs e (by rw [Array.toList_push];exact l.l.snoc rv) (by rw [aaD];exact hz))) (by rw [aB l.l];exact cT l.len)
theorem CS (R:Rep M p) (lb:b < p.n) (q:Gn b "extend" Q bF p.H) (r:L2 (VR p) vs bF):Ev M A p (call (.builtin "list.extend") (.ref (p.W.ρ b)::vs)) Q:=λT hT=>by
 refine aw (bY q.run) λxs hg h=>?_
 refine bU (g9 h) λav e0 h=>?_;subst e0
 obtain ⟨c,rfl,z2,h⟩:=bJ h
 refine cV (bY h.run) λys FD hz h=>?_
 refine cf r.aW λv l e1 t0 hl=>?_;subst e1;obtain ⟨rfl,lc⟩:=t0
 obtain rfl:=hl.df
 refine aq (aL R lb hg) λus n l=>?_
 refine aq (aL R lc FD) λws n2 l2=>?_
 have sl:us.size+ws.size<=sizeLine:=by rw [aB l.l,aB l2.l];exact cT hz
 refine call_meets PySem.F.slot_list_extend ⟨_,l.at_,rfl⟩ PySem.F.entry_list_extend (PySem.F.args_list_extend_2 _ _) (PySem.AutoSeq1.list_extend_list_list_0 _ us n _ ws n2 ?_ (aaw (aaM _ _) sl) (abx sl)) ⟨l.at_,l2.at_,?_⟩
 .unfold Builtin.List.listTooLong
  rw [Bool.and_eq_true,decide_eq_true_eq,not_and]
  intro _
  exact aaP.mpr sl
 .exact hT ⟨p.W,p.H.set b _,{p.s with heap:=_,toks:=p.s.toks}⟩ _ .none h.run rfl (tX R lb hg (Heap.SameBut.update ..) (get?_update_seq l.at_ _) (by rw [Array.toList_append];exact l.l.append l2.l) (by rw [aaD];exact hz))
theorem L2.dropLast {α β:Type} {r:α->β->Prop} {l:List α} {m:List β} (h:L2 r l m):L2 r l.dropLast m.dropLast:=by
 rw [List.dropLast_eq_take,List.dropLast_eq_take,h.len]
 exact h.take _
theorem Np (R:Rep M p) (lb:b < p.n) (q:Gn b "pop" Q bF p.H) (r:L2 (VR p) vs bF):Ev M A p (call (.builtin "list.pop") (.ref (p.W.ρ b)::vs)) Q:=λT hT=>by
 refine aw (bY q.run) λxs hg h=>?_
 cases bF with
 | cons=>exact h.elim
 | nil=>
  obtain rfl:=r.df
  refine aw (bE h) λav hl h=>?_
  refine aq (aL R lb hg) λus n l=>?_
  rw [List.getLast?_eq_getElem?,<-aB l.l] at hl
  refine aw (l.l.get hl) λv hv rv=>?_
  rw [abh] at hv
  refine Copied.pop_at l.at_ hv (λh' hs e=>?_) (by rw [aB l.l];exact cT l.len)
  have a1:=tX (t:=p.s.toks) R lb hg (ys:=xs.dropLast) hs e (by rw [Array.toList_pop];exact l.l.dropLast) (aaw (by rw [List.length_dropLast];exact Nat.sub_le _ _) l.len)
  exact hT _ _ av h.run (a1.rel rv) a1
theorem Og (W:Wd M) (hu:A.units+102 < cLine) (R:Rep M p) (lb:b < p.n) (q:Lu b "get" Q bF p.H) (r:L2 (VR p) vs bF):Ev M A p (call (.builtin "dict.get") (.ref (p.W.ρ b)::vs)) Q:=λT hT=>by
 refine aw (sB q.run) λes hg h=>?_
 refine fV (cF R lb hg) λzz ds ep D=>?_
 have NF:=aaz (aba _) (rU hu (by decide))
 have sy:=kK W R lb (fF hg)
 have fin:∀{x d:AV} {o:Option Value} {t:Nat} {u:Value},VR p u d->C8 (getD x es) d (kU Q p.H)->(match o with
   | some u=>∃y,getD x es=some y/\VR p u y
   | none=>getD x es=none)->T (o.getD u) (p.at p.h t).s:=λ{x d o t u} ru h ho=>by
  have a:After M cY p (p.at p.h t):= .toks R t
  cases o with
  | some u=>
   refine aw ho λy e ry=>?_
   rw [e] at h
   exact hT _ _ y h (a.rel ry) a
  | none=>
   rw [show getD x es=none from ho] at h
   exact hT _ _ d h (a.rel ru) a
 cases bF with
 | nil=>exact h.elim
 | cons x r'=>
  obtain ⟨fit,h⟩:=h
  refine cf r.aW λv l e0 rv hl=>?_;subst e0
  cases r' with
  | nil=>
   obtain rfl:=hl.df
   refine wpAny_call_entry PySem.F.slot_dict_get ⟨_,D.at_,rfl⟩ PySem.F.entry_dict_get ?_ (PySem.F.args_dict_get_2 _ _)
   show wpAny _ _ (dictGet (p.W.ρ b) v >>= _) _ _ p.s
   refine wpAny_bind (tt NF D rv fit λo t ho=>?_)
   have g:=fin (t:=t) (u:= .none) (d:= .none) rfl h ho
   cases o with
   | some u=>exact wpAny_pure ⟨u,rfl,g⟩
   | none=>
    exact wpAny_bind (wpAny_missed_other sy (wpAny_pure ⟨.none,rfl,g⟩))
  | cons d r'=>
   cases r' with
   | cons=>exact h.elim
   | nil=>
    obtain ⟨w,l,rfl,Y2,hl⟩:=hl.aW
    obtain rfl:=hl.df
    refine wpAny_call_entry PySem.F.slot_dict_get ⟨_,D.at_,rfl⟩ PySem.F.entry_dict_get ?_ (PySem.F.args_dict_get_3 _ _ _)
    show wpAny _ _ (dictGet (p.W.ρ b) v >>= _) _ _ p.s
    refine wpAny_bind (tt NF D rv fit λo t ho=>?_)
    have g:=fin (t:=t) Y2 h ho
    cases o with
    | some u=>exact wpAny_pure ⟨u,rfl,g⟩
    | none=>
     exact wpAny_bind (wpAny_missed_other sy (wpAny_pure ⟨w,rfl,g⟩))
theorem pI {k:AV}:∀{es:List (AV × AV)},(vo k es).Sublist es
 | []=>.slnil
 | e::r=>by
  rw [vo]
  cases iY e.1 k
  .exact pI.cons_cons _
  .exact List.sublist_cons_self _ _
theorem IP (a:Array DictEntry) (i:Nat):(a.eraseIdxIfInBounds i).toList=a.toList.eraseIdx i:=by
 cases a
 simp
theorem L8 (hu:A.units+102 < cLine) (R:Rep M p) (lb:b < p.n) (q:Lu b "pop" Q bF p.H) (r:L2 (VR p) vs bF):Ev M A p (call (.builtin "dict.pop") (.ref (p.W.ρ b)::vs)) Q:=λT hT=>by
 refine aw (sB q.run) λes hg h=>?_
 refine bU (g9 h) λav e0 h=>?_;subst e0
 obtain ⟨x,rfl,fit,h⟩:=z8 h
 refine aw (bE h) λy hy h=>?_
 refine cf r.aW λv l e1 rv hl=>?_;subst e1
 obtain rfl:=hl.df
 refine fV (cF R lb hg) λeδ ds ep D=>?_
 have NF:=aaz (aba _) (rU hu (by decide))
 have ty:=MZ D
 have rk:=rv
 obtain ⟨tk0,rfl⟩:=rv
 refine wpAny_call_entry PySem.F.slot_dict_pop ty PySem.F.entry_dict_pop ?_ (PySem.F.args_dict_pop_2 _ _)
 refine wpAny_bind ?_
 refine wpAny_bind (wpAny_notOrdered_dict ty ?_)
 refine wpAny_pure (wpAny_bind (wpAny_pure ?_))
 simp only [Bool.false_eq_true,if_false]
 refine wpAny_bind ?_
 try with_reducible refine wpAny_holding ?_
 refine wpAny_bind (yy (A:=A.in1) (p:=p) (um (n:=A.in1.units) (m:=100) NF) rk fit.1 λt=>?_)
 have li:fM p (p.at p.h t):= .grow λzz zz e zz=>e
 refine wpAny_bind (ud (p:=p.at p.h t) NF (D.mono li λzz e=>e) (rk.mono li) fit ?_)
 have e:=oZ (.str x) es
 have dl:=wz (.str x) es
 cases q:gB (.str x) es with
 | none=>rw [q,hy] at e;exact nomatch e
 | some i=>
  rw [q] at e dl
  refine ug (yD q) λc hc=>?_
  refine aw (D.l.get hc) λd hd rd=>?_
  rw [abh] at hd
  rw [hy,Option.bind_some,hc] at e
  obtain rfl:=aay e
  refine wpAny_bind (wpAny_dictEntries (s:=(p.at p.h t).s) D.at_ rfl ?_)
  rw [hd]
  have el:ds.size<=sizeLine:=by rw [<-Array.length_toList,D.l.len];exact cT D.len
  refine wpAny_bind (wpAny_updateDictKeys (s:=(p.at p.h t).s) D.at_ rfl ?_ el)
  have hs:Heap.SameBut (p.W.ρ b) p.h (p.h.update (p.W.ρ b) (Obj.mapDictKeys (·.eraseIdxIfInBounds i))):=Heap.SameBut.update ..
  refine wpAny_pure ?_
  simp only [Option.isNone_some,Bool.false_eq_true,if_false]
  have a1:After M cY p ⟨p.W,p.H.set b (.dict (vo (.str x) es)),{p.s with heap:=p.h.update (p.W.ρ b) (Obj.mapDictKeys (·.eraseIdxIfInBounds i)),toks:=t}⟩:=nC R lb (fF hg) hs rfl λq e li=>⟨eδ,ds.eraseIdxIfInBounds i,ep+1,by rw [e];exact Heap.get?_update_self _ D.at_ rfl,by
   rw [IP,dl]
   exact (D.l.imp λzz zz z=>z.mono li).eraseIdx i,D.nd.sublist (pI.map _),aaw pI.length_le D.len⟩
  exact wpAny_bind (wpAny_letGo (wpAny_pure ⟨_,rfl,hT _ _ c.2 h.run (a1.rel rd.val) a1⟩))
end
section
variable {M:Mo} {k:Nat} {A:Around} {B:Addr->Prop} {p p':Pt} {sc:Scope} {env:Env} {loc:Loc} {Q:KV} {T:Value->Shared->Prop} {x y z:X} {xs:XL} {e f g o u:Expr} {es:List Expr} {q q' ap:Pos} {b:Nat}
theorem oo (o:Expr) (n:Str) (ap:Pos) (as:List Expr) (p:Pos) (env:Env):eval (.Call (.Attribute o n ap) as [] p) env=(do
  let ov <-attributeBase o n env (eval o env)
  standAt ap.atName
  methodCall o n ap p env ov (as.length+0) (backTo p (starEach as env)) (backToKw p (keywordEach [] env))):=rfl
theorem nP {pos:Pos}:∀{es:List Expr},(∀e∈es,be e=true)->(backTo pos (starEach es env)).all (λx=>!x.1)=true
 | [],_=>rfl
 | e::es,h=>by
  rw [aT (h e (.head _))]
  show (true&&(backTo pos (starEach es env)).all (λx=>!x.1))=true
  rw [nP λe he=>h e (.tail _ he)];rfl
theorem fK {n:Str} {ov:Value} (hp:∀e∈es,be e=true) (hl:es.length<=10) (Gq:ap.endLine=q.line):
  methodCall o n ap q env ov (es.length+0) (backTo q (starEach es env)) (backToKw q (keywordEach [] env))=(do
   let (f,first) <-holding [ov] (getMethod ov n (do return (<-importBound o env).getD true))
   callWith q f first (backTo q (starEach es env)) []):=by
 have hf:methodCallForm (es.length+0) (backTo q (starEach es env)) (backToKw q (keywordEach [] env))=true:=by
  unfold methodCallForm
  exact (nP hp).symm▸decide_eq_true (aaz hl (by decide:10 < 30))
 unfold methodCall
 rw [hf]
 have KN:methodCallPos true o env ap q=pure q:=by
  unfold methodCallPos
  rw [if_pos (by rw [Gq,beq_self_eq_true];rfl)]
 rw [KN]
 rfl
theorem Tw {m:String} {P:Prop} (h:Ks m P):P/\(m="append"\/m="extend"\/m="pop"):=by
 unfold Ks at h
 split at h
 .exact ⟨h,.inl rfl⟩
 .exact ⟨h,.inr (.inl rfl)⟩
 .exact ⟨h,.inr (.inr rfl)⟩
 .exact h.elim
theorem SY {m:String} {P:Prop} (h:LN m P):P/\(m="get"\/m="pop"):=by
 unfold LN at h
 split at h
 .exact ⟨h,.inl rfl⟩
 .exact ⟨h,.inr rfl⟩
 .exact h.elim
theorem Cy {f:String}:∀{ds:List DictEntry} {fs:List (String × AV)},L2 (ut p) ds fs->uc f fs=none->getL (Str.ofString f) ds=some none:=by
 intro ds fs l
 induction l with
 | nil=>exact λzz=>rfl
 | @cons d mu ds r a b ih=>
  obtain ⟨m,u⟩:=mu
  intro e
  refine ug a.key λt ht=>?_
  have hs:d.key.isStr (Str.ofString f)=(m==f):=by rw [ht];exact cE m f
  have e:(bif m==f then some u else uc f r)=none:=e
  cases q:m==f with
  | true=>replace e:=(q)▸e;cases e
  | false=>
   rw [q] at e hs
   have h1:=ih e
   have hr:d.refKey=false:=by unfold DictEntry.refKey;rw [ht]
   unfold getL at h1 ⊢
   rw [List.find?_cons,hs,List.any_cons,hr]
   exact h1
theorem Dg {i:String} {first:List Value} {QL:KL} (L:jC M xs sc es) (z:ng M k A p sc env loc) (hq:xs (Γc M k) loc p.H QL) (h:∀p' vs bF,QL bF p'.H->L2 (VR p') vs bF->After M cY p p'->wpAny M.m A (call (.builtin i) (first++vs)) T bK p'.s):
  wpAny M.m A (callWith q (.builtin i) first (backTo q (starEach es env)) []) T bK p.s:=callWith_builtin (bq (env:=env) (pos:=q) L.pl) (jm L z hq h)
theorem CN (W:Wd M) {n:Str} {m:String} (hn:cj o=true) (Gq:ap.endLine=q.line) (T1:es.length<=10) (hm:n=Str.ofString m) (h1:aA M x sc o) (L:jC M xs sc es):aA M (X.ay x m xs) sc (.Call (.Attribute o n ap) es [] q):=by
 intro k A p env loc Q z hq T hT
 refine bf (oo ..) ?_;rw [gE hn]
 refine wpAny_bind (h1 z hq _ λp1 v av q1 r a=>wpAny_bind (wpAny_standAt ?_))
 refine bU (bJ q1) λb e0 h=>?_;subst e0
 obtain ⟨rfl,lb⟩:=r
 have h:=h.run
 have z1:=z.after a
 refine bf (fK L.pl T1 Gq) ?_;rw [hm]
 cases hg:p1.H.g b with
 | no=>replace h:=(hg)▸h;exact h.elim
 | list ys=>
  replace h:=(hg)▸h
  refine qj (Tw h) λh hm=>?_
  obtain ⟨vs,n,l⟩:=aL a.rep lb hg
  have nd:∀c,Value.ref (p1.W.ρ b)= .ref c->∃o,p1.h.get? c=some o/\o.dict=none:=λc e=>by cases e;exact ⟨_,l.at_,rfl⟩
  have ty:p1.s.TypeIs (.ref (p1.W.ρ b)) "list":=⟨_,l.at_,rfl⟩
  have go:∀id,(∀{p2 vs bF},Rep M p2->b < p2.n->Gn b m Q bF p2.H->L2 (VR p2) vs bF->Ev M A p2 (call (.builtin id) (.ref (p2.W.ρ b)::vs)) Q)->wpAny M.m A (callWith q (.builtin id) [.ref (p1.W.ρ b)] (backTo q (starEach es env)) []) T bK p1.s:=λid g=>
   Dg L z1 h λp2 vs bF q2 r2 a2=>a2.ρ b lb▸(g a2.rep (aax lb a2.le) q2 r2).cO (a.trans a2) hT
  rcases hm with rfl | rfl | rfl
  .exact wpAny_bind (wpAny_holding (getMethod_builtin ty PySem.F.plainAttrs_list PySem.F.slot_list_append PySem.F.type_list_append nd (go _ Cz)))
  .exact wpAny_bind (wpAny_holding (getMethod_builtin ty PySem.F.plainAttrs_list PySem.F.slot_list_extend PySem.F.type_list_extend nd (go _ CS)))
  .exact wpAny_bind (wpAny_holding (getMethod_builtin ty PySem.F.plainAttrs_list PySem.F.slot_list_pop PySem.F.type_list_pop nd (go _ Np)))
 | dict ys=>
  rw [hg] at h
  obtain ⟨h,hm⟩:=SY h
  obtain ⟨_,vs,n,l⟩:=cF a.rep lb hg
  have nd:∀c,Value.ref (p1.W.ρ b)= .ref c->∃o,p1.h.get? c=some o/\o.dict=none:=λc e=>by cases e;exact ⟨_,l.at_,rfl⟩
  have ty:p1.s.TypeIs (.ref (p1.W.ρ b)) "dict":=⟨_,l.at_,rfl⟩
  have go:∀id,(∀{p2 vs bF},Rep M p2->b < p2.n->Lu b m Q bF p2.H->L2 (VR p2) vs bF->Ev M A p2 (call (.builtin id) (.ref (p2.W.ρ b)::vs)) Q)->wpAny M.m A (callWith q (.builtin id) [.ref (p1.W.ρ b)] (backTo q (starEach es env)) []) T bK p1.s:=λid g=>
   Dg L z1 h λp2 vs bF q2 r2 a2=>a2.ρ b lb▸(g a2.rep (aax lb a2.le) q2 r2).cO (a.trans a2) hT
  rcases hm with rfl | rfl
  .exact wpAny_bind (wpAny_holding (getMethod_builtin ty PySem.F.plainAttrs_dict PySem.F.slot_dict_get PySem.F.type_dict_get nd (go _ (Og W z.cx.room))))
  .exact wpAny_bind (wpAny_holding (getMethod_builtin ty PySem.F.plainAttrs_dict PySem.F.slot_dict_pop PySem.F.type_dict_pop nd (go _ (L8 z.cx.room))))
 | inst c fs=>
  replace h:=(hg)▸h
  have h:(match uc m fs with
   | some _=>False
   | .none=>opt (aa.lookup (c,m)) λq=>xs (Γc M k) loc p1.H (Vx (Γc M k) b q Q)):=h
  cases hf:uc m fs with
  | some=>rw [hf] at h;exact h.elim
  | none=>
   replace h:=(hf)▸h
   refine aw (bE h) λkey hk h=>?_
   refine bj (nI a.rep lb hg) λC ds n i=>?_
   refine aw (oa (aaX.mp W.ok.ay _ (bu hk))) λC' hC hM=>?_
   cases hC.symm.trans (j1 i.ca).1
   refine jd (ww hM) λf Yr XI S6 Nn=>?_
   have FD:=plainGet_of (W.ok.cls c C i.ca).get
   refine wpAny_bind (wpAny_holding (method_fn (W.X.keeps a.rep.base) (show InstAt p1.h (p1.W.ρ b) ⟨.ref C,some (p1.W.δ b),.plain,#[]⟩ C (some (dictOf ds n)) from ⟨i.at_,rfl,rfl,i.dat⟩) FD.1 FD.2 XI (beq_iff_eq.mp S6) ?_ ?_))
   .show (lookIn (Str.ofString m) (dictOf ds n)).map _=_
    rw [lookIn_dict,Cy i.l hf];rfl
   .have gy:((backTo q (starEach es env)).any (·.1)||(backToKw q (keywordEach [] env)).any (·.1.isNone))=false:=by rw [bq L.pl];rfl
    exact callWith_of gy (keeps_K Nn) (jm L z1 h λp2 vs bF q2 r2 a2=>⟨W.X.keeps a2.rep.base,rj (q2.1 f Yr A p2.W p2.s _ z.cx.call a2.rep (.cons (a2.rel (show VR p1 (.ref (p1.W.ρ b)) (.ref b) from ⟨rfl,lb⟩)) r2) T (hT.step (a.trans a2)))⟩)
end
section
variable {M:Mo} {k:Nat} {A:Around} {B:Addr->Prop} {p p':Pt} {sc:Scope} {env:Env} {loc:Loc} {Q:KV} {T:Value->Shared->Prop} {x y z:X} {xs:XL} {e f g o u:Expr} {es:List Expr} {q q' ap:Pos} {b:Nat}
theorem iA:entryFor table "list.extend.loop"=some Builtin.«list.extend.loop»:=entryFor_of_tree (by kernel_rfl)
theorem db:plainId "list.extend.loop"=true:=by decide+kernel
theorem xK:typeLookup (.type "list_reverseiterator") "__len__"=pure none:=by rw [typeLookup_type,builtinLookup_eq_fast];kernel_rfl
theorem Fc:typeLookup (.type "list_reverseiterator") "__length_hint__"=pure (some (.builtin "list_reverseiterator.__length_hint__")):=by rw [typeLookup_type,builtinLookup_eq_fast];kernel_rfl
theorem GJ {S L it:Addr} {ws:Array Value} {n2:Nat} {Rr:Result->Shared->Prop} (hh:A.handled=none) (h1:S≠L) (h2:S≠it) (h3:L≠it):∀(k:Nat) (s:Shared) (us:Array Value) (c:Nat),k<=ws.size->s.heap.get? S=some (mN us c)->s.heap.get? L=some (mN ws n2)->
  s.heap.IsRevIter it L ((k:Int) - 1)->us.size+k<=sizeLine->(∀h' MY c',MY.toList=us.toList++(ws.toList.take k).reverse->h'.get? S=some (mN MY c')->(∀x o,x≠S->x≠it->s.heap.get? x=some o->h'.get? x=some o)->s.heap.objs.size<=h'.objs.size->Rr (.ok (.ret .none)) {s with heap:=h'})->
   codeAny M.m A (.builtin "list.extend.loop" ⟨[.ref S,.ref it,.none],[]⟩) Rr s:=by
 intro k
 induction k with
 | zero=>
  intro s us c hk hS hL hit hz hR
  refine codeAny_builtin iA ?_
  exact (Around.under_plainId db _)▸wpAny_bind (aP (wpAny_pyNext_rev_end (A:=A.in1) hh hit λh' he hz=>wpAny_pure (hR h' us c (aaY _).symm (he S _ h2 hS) (λx o zz hx e=>he x o hx e) hz)))
 | succ k ih=>
  intro s us c hk hS hL hit hz hR
  refine codeAny_builtin iA ?_
  rw [Around.under_plainId db _]
  rw [show ((k+1:Nat):Int) - 1=(k:Int) from Int.add_sub_cancel (Nat.cast _) 1] at hit
  have C9:(us.push ws[k]).size+k<=sizeLine:=by rw [Array.size_push,aa9,abg 1];exact hz
  refine wpAny_bind (wpAny_pyNext_rev_item hit (ck hL) (Array.getElem?_eq_getElem hk) λh' pX b5=>?_)
  have Xn:=(b5.2 S h2).trans hS
  refine wpAny_bind (listUpdate_at (s:={s with heap:=h'}) Xn rfl ?_ (aaw (aaM _ _) hz) (abx (aaw (aaM _ _) C9)))
  have Ul:∀x o,x≠S->h'.get? x=some o->(h'.update S (Obj.mapSeq (·.push ws[k]))).get? x=some o:=λx o hx e=>(Heap.get?_update_other _ _ (abm hx)).trans e
  refine wpAny_pure ⟨plainId_quiet db _,ih {s with heap:=h'.update S (Obj.mapSeq (·.push ws[k]))} (us.push ws[k]) _ (aaI hk) (get?_update_seq (c:="list") Xn (·.push ws[k])) (Ul L _ (abm h1) ((b5.2 L h3).trans hL)) (pX.at λo e=>Ul it o (abm h2) e) C9 λYp MY c' e2 e3 e4 e5=>
   hR Yp MY c' ?_ e3 (λx o hx Vu e=>e4 x o hx Vu (Ul x o hx ((b5.2 x Vu).trans e))) (by rw [Heap.size_update] at e5;rw [<-b5.1];exact e5)⟩
  rw [e2,Array.toList_push,List.take_add_one,show ws.toList[k]? =some ws[k] by rw [abh];exact Array.getElem?_eq_getElem hk,List.reverse_append,aaW]
  rfl
theorem CO (hh:A.handled=none) (R:Rep M p) {c:Nat} (lb:b < p.n) (lc:c < p.n) {xs ys:List AV} (hg:p.H.g b= .list xs) (FD:p.H.g c= .list ys) (z2:b≠c) (hz:xs.length+ys.length<=lim) {it:Addr} (pv:lN M p it) (hit:p.h.IsRevIter it (p.W.ρ c) ((ys.length:Int) - 1))
  (hT:∀h t,After M (isA it) p ⟨p.W,p.H.set b (.list (xs++ys.reverse)),{p.s with heap:=h,toks:=t}⟩->T .none {p.s with heap:=h,toks:=t}):wpAny M.m A (call (.builtin "list.extend") [.ref (p.W.ρ b),.ref it]) T bK p.s:=by
 refine aq (aL R lb hg) λus k1 l=>?_
 refine aq (aL R lc FD) λws k2 l2=>?_
 have n2:p.W.ρ b≠it:=λe=>pv.own ⟨b,lb,.inl e.symm⟩
 have Ru:p.s.TypeIs (.ref it) "list_reverseiterator":=hit.typeIs
 replace hit:=(aB l2.l).symm▸hit
 refine wpAny_call (codeAny_call_builtin PySem.F.slot_list_extend.plain PySem.F.entry_list_extend (PySem.F.slot_list_extend.check _ _ _ _ _ _ _ _ ⟨_,l.at_,rfl⟩ (PySem.F.args_list_extend_2 _ _) ?_))
 show wpAny _ _ (Builtin.List.listExtendWith (.ref (p.W.ρ b)) (.ref it) .none) _ _ p.s
 refine wpAny_bind (wpAny_typeOf Ru ?_)
 have Os:Builtin.List.listSameRef (.ref (p.W.ρ b)) (.ref it)=false:=by simp [Builtin.List.listSameRef,n2]
 rw [Os]
 refine wpAny_ite_split (λm4=>absurd m4 (by decide)) (λzz=>wpAny_bind (wpAny_pyIter_revIter hit (wpAny_bind (wpAny_holding ?_))))
 refine wpAny_bind (wpAny_specialOf Ru xK (wpAny_ite_split (λm4=>absurd m4 (by decide)) (λzz=>wpAny_ite_split (λm4=>absurd m4 (by decide)) (λzz=>wpAny_bind (wpAny_specialOf Ru Fc ?_)))))
 generalize V2:("list_reverseiterator.__length_hint__":String)=Yc
 wp_delta
 rw [show splitId Yc=some ("list_reverseiterator","__length_hint__") from by subst V2;decide+kernel]
 subst V2
 refine wpAny_bind (wpAny_isInstance (T:="list_reverseiterator") (b:=true) Ru (by rw [isSubtype_type];kernel_rfl) ?_)
 refine wpAny_ite_split (λm4=>absurd m4 (by decide)) (λzz=>wpAny_ite_split (λzz=>wpAny_ite_split (λm4=>absurd m4 (by decide)) (λzz=>wpAny_pure ?_)) (λm4=>absurd (by decide+kernel) m4))
 refine wpAny_ite_split (λm4=>absurd m4 (by decide+kernel)) (λzz=>wpAny_pure ⟨plainId_quiet db _,?_⟩)
 refine GJ (A:=A) hh ((R.inj b c lb lc z2).1) n2 (λe=>pv.own ⟨c,lc,.inl e.symm⟩) ws.size p.s us k1 (aaF _) l.at_ l2.at_ hit (by rw [aB l.l,aB l2.l];exact cT hz) λh' MY c' e1 e2 e3 e4=>hT h' p.s.toks ?_
 refine .set R lb (sG hg) (.inl rfl) e4 (λx (e:x=it)=>e▸pv) (λx o e q1 q2=>e3 x o q1 q2 e) rfl λq e li=>⟨nN R lb hg,MY,c',by rw [e];exact e2,?_,by rw [aaD,List.length_reverse];exact hz⟩
 rw [e1,<-Array.length_toList,List.take_length]
 exact wX.mono li (l.l.append l2.l.rev)
theorem yv (W:Wd M) {n m:Str} {p1 p2:Pos} (hn:cj o=true) (Gq:ap.endLine=q.line) (hm:n=Str.ofString "extend") (hr:m=Str.ofString "reversed") (hg:aU sc m=true) (Ja:be e=true) (h1:aA M x sc o) (h2:aA M y sc e):
  aA M (X.yd x y) sc (.Call (.Attribute o n ap) [.Call (.Name m p1) [e] [] p2] [] q):=by
 intro k A p env loc Q z hq T hT
 refine bf (oo ..) ?_;rw [gE hn]
 have hp:∀f∈[Expr.Call (.Name m p1) [e] [] p2],be f=true:=λf hf=>by rw [aaK.mp hf];rfl
 refine wpAny_bind (h1 z hq _ λs1 v av w r a=>wpAny_bind (wpAny_standAt ?_))
 refine bU (bJ w) λb e0 h=>?_;subst e0
 obtain ⟨rfl,lb⟩:=r
 refine aw (bY h.run) λys hy h=>?_
 refine aq (aL a.rep lb hy) λus n l=>?_
 refine bf (fK hp (by show 1<=10;decide) Gq) ?_;rw [hm]
 have nd:∀c,Value.ref (s1.W.ρ b)= .ref c->∃o,s1.h.get? c=some o/\o.dict=none:=λc e=>by cases e;exact ⟨_,l.at_,rfl⟩
 refine wpAny_bind (wpAny_holding (getMethod_builtin ⟨_,l.at_,rfl⟩ PySem.F.plainAttrs_list PySem.F.slot_list_extend PySem.F.type_list_extend nd (callWith_builtin (bq (env:=env) (pos:=q) hp) ?_)))
 rw [aT (hp _ (.head _))]
 refine evalArgs_plain (wpAny_bind (v8 W (b:="reversed") (by decide) hg hr (v:= .type "reversed") (by rw [hr];kernel_rfl) (.inl ⟨_,rfl⟩) (.o Ja h2) (z.after a) (QL:=λvs H=>a1 vs λu=>QV b Q u H) h λs2 vs bF q2 r2 a2=>?_))
 refine bU (g9 q2) λu e1 q2=>?_;subst e1
 refine bU (bJ q2) λc e2 q2=>?_;subst e2
 refine cV (bY q2.run) λxs XQ z2 q2=>?_
 refine cV (bY q2.run) λys FD hz q2=>?_
 refine cf r2.aW λuv l' e3 t0 hl=>?_;subst e3;obtain ⟨rfl,lc⟩:=t0
 obtain rfl:=hl.df
 obtain ⟨ws,k1,lw⟩:=aL a2.rep lc FD
 refine call_reversed_list (ck lw.at_) ?_
 refine me (pZ (t:=s2.s.toks) (o:=revObj (s2.W.ρ c) ((ws.size:Int) - 1)) a2.rep rfl (by decide) rfl) λpv lt gi a3=>?_
 refine wpAny_bind (wpAny_pure (wpAny_bind (wpAny_holding (spliced_nil (wpAny_pure ?_)))))
 rw [<-a2.ρ b lb]
 refine CO (p:=s2.at _ s2.s.toks) z.cx.hd a3.rep (aax lb a2.le) lc XQ FD z2 hz pv ⟨_,gi,rfl,by rw [aB lw.l];rfl⟩ λh4 t4 a4=>?_
 exact hT _ _ .none q2.run rfl ((((a.trans a2).trans a3).no.trans a4).drop λx (e:x=_)=>.inr (e▸(a.trans a2).size))
theorem Ft (R:Rep M p) (lb:b < p.n) {xs:List AV} (e:p.H.g b= .list xs\/p.H.g b= .no xs):∃vs,p.h.IsList (p.W.ρ b) vs/\L2 (VR p) vs.toList xs/\xs.length<=lim:=by
 refine e.elim (λe=>?_) λe=>?_
 .refine aq (aL R lb e) λvs n l=>?_
  exact ⟨vs,ck l.at_,l.l,l.len⟩
 .refine aS (Pa R lb e) λvs n t0 l hz=>?_;refine aq t0 λd sl h=>?_
  exact ⟨vs,⟨_,h,rfl,n,rfl⟩,l,hz⟩
theorem qT {so:Obj} {ws:List Value} {xs:List AV} (R:Rep M p) (r:L2 (VR p) ws xs) (hz:xs.length<=lim) (hq:Q (.ref p.n) (p.H.push (.list xs))) (hT:z9 M p Q T):T (.ref (p.h.objs.size+1)) {p.s with heap:=(p.h.push so).push (mN ws.toArray 0),toks:=p.s.toks}:=by
 have a3:After M cY p (p.at (p.h.push so) p.s.toks):= .grow R (.push _ _)
 have g:=g8 (t:=p.s.toks) (vs:=ws.toArray) (p:=p.at (p.h.push so) p.s.toks) a3.rep (a3.oQ r) hz hq (hT.step a3)
 rw [show (p.at (p.h.push so) p.s.toks).h.objs.size=p.h.objs.size+1 from Heap.size_push ..] at g
 exact g
theorem IZ (h:kS e=true):∀a b,markedBehindIn a b (eval e env)=markedBehindIn a b (eval e env):=λzz zz=>rfl
theorem Cw {q3:Pos} (hn:kS o=true) (h1:aA M x sc o) (h2:aA M y sc u):aA M (X.yY x y) sc (.Subscript o (.Slice none (some u) none q3) q):=by
 intro k A p env loc Q z hq T hT
 refine wpAny_Subscript_list_slice (h1 z hq _ λp1 v av w r a=>?_) (λzz zz=>by cases o<;>first | rfl | exact (aaE hn).elim)
 refine bf (evalPart_none ..) ?_
 refine wpAny_pure ?_
 refine bf (evalPart_some ..) ?_
 refine h2 (z.after a) w _ λp2 v2 YD w2 r2 a2=>?_
 refine bU (bJ w2) λb e0 h=>?_;subst e0
 refine bU (aG h) λj e1 h=>?_;subst e1
 obtain ⟨rfl,lb⟩:=a2.rel r
 obtain ⟨t,rfl⟩:=r2
 obtain ⟨xs,hg,hj,h⟩:∃xs,(p2.H.g b= .list xs\/p2.H.g b= .no xs)/\qt j=true/\nw (.list (xs.take j.toNat)) p2.H Q:=by
  have h:=h.run
  cases e:p2.H.g b with
  | list xs=>rw [e] at h;exact ⟨xs,.inl rfl,eW h⟩
  | no xs=>rw [e] at h;exact ⟨xs,.inr rfl,eW h⟩
  | _=>rw [e] at h;exact h.elim
 refine cV (Ft a2.rep lb hg) λws il l hz=>?_
 refine (j8 _ ws none (some j) ⟨rfl,il,by rw [aB l];exact cT hz,.none,.int j t,?_⟩)
 refine wW (j9 hj) λi e2=>?_;subst e2
 rw [slicePick_upto']
 exact qT a2.rep (l.take i) (aaw (by rw [List.length_take];exact Nat.min_le_right _ _) hz) h.run (hT.step (a.trans a2))
theorem E3 {q3:Pos} (hn:kS o=true) (h1:aA M x sc o) (h2:aA M y sc u):aA M (X.Aw x y) sc (.Subscript o (.Slice (some u) none none q3) q):=by
 intro k A p env loc Q z hq T hT
 refine wpAny_Subscript_list_slice (h1 z hq _ λp1 v av w r a=>?_) (λzz zz=>by cases o<;>first | rfl | exact (aaE hn).elim)
 refine bf (evalPart_some ..) ?_
 refine h2 (z.after a) w _ λp2 v2 YD w2 r2 a2=>?_
 refine bf (evalPart_none ..) ?_
 refine wpAny_pure ?_
 refine bU (bJ w2) λb e0 h=>?_;subst e0
 refine bU (aG h) λj e1 h=>?_;subst e1
 obtain ⟨rfl,lb⟩:=a2.rel r
 obtain ⟨t,rfl⟩:=r2
 refine aw (bY h.run) λxs hg h=>?_
 refine qj (eW h) λhj h=>?_
 refine cV (Ft a2.rep lb (.inl hg)) λws il l hz=>?_
 refine (j8 _ ws (some j) none ⟨rfl,il,by rw [aB l];exact cT hz,.int j t,.none,?_⟩)
 refine wW (j9 hj) λi e2=>?_;subst e2
 rw [slicePick_from']
 exact qT a2.rep (l.drop i) (aaw (by rw [List.length_drop];exact Nat.sub_le _ _) hz) h.run (hT.step (a.trans a2))
end
end
section
open PySem PySem.W PySem.Spec PySem.Calls PyProof.Rows PySem.SeqAt PySem.Builtin PySem.Builtin.Bytes
theorem wb:Slot "bytes" "__repr__" "bytes.__repr__":=
 .of (owner:="bytes") (n:="__repr__") (by rw [typeLookup_type,builtinLookup_eq_fast];kernel_rfl) (by decide+kernel) (by decide+kernel) (by decide+kernel) (by first | exact .inl (by decide+kernel) | exact .inr (by decide+kernel)) (by rw [isSubtype_type];kernel_rfl)
theorem tC:entryFor table "bytes.__repr__"=some Builtin.«bytes.__repr__»:=entryFor_of_fast (by kernel_rfl)
theorem v6 (a:Value):argsOk "bytes.__repr__" ⟨[a],[]⟩:=by unfold argsOk;kernel_rfl
theorem sQ (b:Array UInt8) (t:Tok) (h:b.size<=100):Gives (Builtin.«bytes.__repr__» ⟨[.bytes b t],[]⟩) (.str (literal b)):=by
 show Gives (do let r <-literalAsked b;_) _
 have:literalAsked b=pure (literal b):=by
  unfold literalAsked
  have:tooLong (4*b.size+3+0)=false:=by simp [tooLong,sizeLine];exact aaw (abt 4 h) (by decide)
  rw [this];rfl
 exact (this)▸ .of_eq rfl
section
variable {M:Mo} {A:Around} {p:Pt} {Q:KV}
theorem ol (x:Array UInt8) (t:Tok) (hb:x.size<=100) (nV:(literal x).length<=sizeLine):ReprIs M.prog M.w (.bytes x t) (literal x):=λn hn A E s Q h=>by
 exact (pyReprUnder_leaf (v:= .bytes x t) (aaw (aaM _ _) hn) (λzz e=>nomatch e))▸wpAny_bind (wpAny_pyReprObj_gives (T:="bytes") (typeIs_bytes s x t) wb tC (v6 _) (sQ x t hb) (wpAny_pure (h _)) (hx:=nV))
theorem gP {h:Heap} {x y:Addr} {vs vs':Array Value} (hx:IsTup h x vs) (hy:IsTup h y vs') (ne:vs.toList≠vs'.toList):x≠y:=by
 rintro rfl
 refine ju hx λo e zz k hd=>?_
 refine ju hy λo' e' zz k' Gl=>?_
 obtain rfl:=aay (e.symm.trans e')
 replace Gl:=(hd)▸Gl;cases Gl
 exact ne rfl
theorem nj {h:Heap} {x:Addr} {vs:Array Value} {as:List Addr} {d:Nat} {ts:List Str} (hx:IsTup h x vs) (hn:x ∉ as) (r:ReprAllK M.prog M.w as h d vs.toList ts):ReprK M.prog M.w (x::as) h (d+1) (.ref x) (tupleText ts):=by
 refine ju hx λo ho hc k hd=>?_
 exact ReprK.tuple ho hc hd hn r
theorem QA {a b:Str} {t t':Tok} (h:a≠b):Value.str a t≠ .str b t':=λe=>h (Value.str.inj e).1
noncomputable def xI (M:Mo) (p:Pt) (v:Value) (t:String):Prop:=∃x items as,v= .ref x/\IsTup p.h x items/\x ∉ as/\∃ts,ReprAllK M.prog M.w as p.h 5 items.toList ts/\tupleText ts=Str.ofString t/\(Str.ofString t).length<=sizeLine
theorem OI {v:Value} (r:VR p v vA):xI M p v tA:=by
 obtain ⟨x,vs,rfl,i0,r⟩:=r.tup
 refine aS r.aW λzz zz e0 t1 r=>?_;obtain ⟨t0,rfl⟩:=t1
 obtain ⟨_,_,rfl,r1,r⟩:=r.aW
 refine aS r.aW λzz zz e2 t4 r9=>?_;subst e2;obtain ⟨t2,rfl⟩:=t4
 obtain rfl:=r9.df
 obtain ⟨y,S8,rfl,i1,r1⟩:=r1.tup
 refine aS r1.aW λzz zz e1 t5 r1=>?_;obtain ⟨t3,rfl⟩:=t5
 obtain rfl:=r1.df
 have hy:ReprK M.prog M.w [y] p.h 1 (.ref y) (tupleText [reprText (Str.ofString "dict")]):=nj (d:=0) i1 (λh=>(aaU h).elim) (by rw [e1];exact .cons (.of_is (.str _ _ (by decide+kernel)) _ _ _) .nil)
 refine (c9 x vs ([y]) ⟨rfl,i0,λh=>?_,[reprText (Str.ofString "to"),tupleText [reprText (Str.ofString "dict")],literal [113,32,81].toArray],?_,by decide+kernel,by decide+kernel⟩)
 .exact gP i0 i1 (by rw [e0,e1];exact λh=>nomatch (abf h).2) (aaK.mp h)
 .rw [e0]
  exact .cons (.of_is (.str _ _ (by decide+kernel)) _ _ _) (.cons (hy.level_le (by decide)) (.cons (.of_is (ol _ _ (by decide) (by decide+kernel)) _ _ _) .nil))
theorem Pe {v:Value} (r:VR p v vB):xI M p v tB:=by
 obtain ⟨x,vs,rfl,i0,r⟩:=r.tup
 refine aS r.aW λzz zz e0 t1 r=>?_;obtain ⟨t0,rfl⟩:=t1
 obtain ⟨_,_,rfl,r1,r⟩:=r.aW
 refine aS r.aW λzz zz e4 t7 r9=>?_;subst e4;obtain ⟨t2,rfl⟩:=t7
 obtain rfl:=r9.df
 obtain ⟨y,S8,rfl,i1,r1⟩:=r1.tup
 refine aS r1.aW λzz zz e1 t8 r1=>?_;obtain ⟨t3,rfl⟩:=t8
 obtain ⟨_,_,rfl,r2,r1⟩:=r1.aW
 obtain rfl:=r1.df
 obtain ⟨z,Jj,rfl,i2,r2⟩:=r2.tup
 refine aS r2.aW λzz zz e2 t9 r2=>?_;obtain ⟨t4,rfl⟩:=t9
 obtain ⟨_,_,rfl,r3,r2⟩:=r2.aW
 obtain rfl:=r2.df
 obtain ⟨u,vs3,rfl,i3,r3⟩:=r3.tup
 refine aS r3.aW λzz zz e3 Zz r3=>?_;obtain ⟨t5,rfl⟩:=Zz
 refine aS r3.aW λzz zz e5 Zn r9=>?_;subst e5;obtain ⟨t6,rfl⟩:=Zn
 obtain rfl:=r9.df
 have zu:z≠u:=gP i2 i3 (by rw [e2,e3];exact λh=>nomatch (abf (abf h).2).1)
 have yz:y≠z:=gP i1 i2 (by rw [e1,e2];exact λh=>QA (by decide+kernel) (abf h).1)
 have yu:y≠u:=gP i1 i3 (by rw [e1,e3];exact λh=>nomatch (abf (abf h).2).1)
 have xy:x≠y:=gP i0 i1 (by rw [e0,e1];exact λh=>nomatch (abf (abf h).2).2)
 have xz:x≠z:=gP i0 i2 (by rw [e0,e2];exact λh=>nomatch (abf (abf h).2).2)
 have xu:x≠u:=gP i0 i3 (by rw [e0,e3];exact λh=>nomatch (abf (abf h).2).2)
 have n1:∀{a b:Addr},a≠b->a ∉ [b]:=λh m=>h (aaK.mp m)
 have n2:∀{a b:Addr} {l:List Addr},a≠b->a ∉ l->a ∉ b::l:=λh g m=>(aaH.mp m).elim h g
 have hu:=nj (M:=M) (d:=0) (as:=[]) (ts:=[reprText (Str.ofString "int"),toString (1:Int)]) i3 (λh=>(aaU h).elim) (by rw [e3];exact .cons (.of_is (.str _ _ (by decide+kernel)) _ _ _) (.cons (.of_is (.int _ (by decide)) _ _ _) .nil))
 have hz:=nj (d:=1) (ts:=[reprText (Str.ofString "A"),_]) i2 (n1 zu) (by rw [e2];exact .cons (.of_is (.str _ _ (by decide+kernel)) _ _ _) (.cons hu .nil))
 have hy:=nj (d:=2) (ts:=[reprText (Str.ofString "dict"),_]) i1 (n2 yz (n1 yu)) (by rw [e1];exact .cons (.of_is (.str _ _ (by decide+kernel)) _ _ _) (.cons hz .nil))
 have all:ReprAllK M.prog M.w [y,z,u] p.h 5 vs.toList [reprText (Str.ofString "to"),tupleText [reprText (Str.ofString "dict"),tupleText [reprText (Str.ofString "A"),tupleText [reprText (Str.ofString "int"),toString (1:Int)]]],literal [102].toArray]:=by
  rw [e0]
  exact .cons (.of_is (.str _ _ (by decide+kernel)) _ _ _) (.cons (hy.level_le (by decide)) (.cons (.of_is (ol _ _ (by decide) (by decide+kernel)) _ _ _) .nil))
 exact (c9 x vs ([y,z,u]) ⟨rfl,i0,n2 xy (n2 xz (n1 xu)),_,all,by decide+kernel,by decide+kernel⟩)
theorem Aq (hu:A.units+102 < cLine) (hg:A.guards=some []) (R:Rep M p) {v:Value} {t:String} (k:xI M p v t) (hq:Q (.str t) p.H):Ev M A p (call (.builtin "repr") [v]) Q:=λT hT=>by
 refine wK k λx items as e0 t0 XF ts hR ht hz=>?_;subst e0;refine ju t0 λo ho hc n hd=>?_
 refine aP (call_repr_slot (T:="tuple") (aaz (abj (by decide) _) hu) ⟨o,ho,hc⟩ F.slot_tuple_repr ?_)
 refine call_tuple_reprK ho hc hd XF hR (g:=[]) hg (λb zz=>Clear.nil b) (by show A.units+1+6 < _;exact aaz (abj (by decide:7<=102) _) hu) (λzz zz e=>e) (λh' u tk hk=>(bI _ _ ⟨rfl,λnV=>?_⟩)) (by rw [ht];exact hz)
 rw [ht]
 exact hT (p.at h' tk) _ (.str t) hq ⟨u,rfl⟩ (.grow R ⟨hk,nV⟩)
theorem Ln (hu:A.units+102 < cLine) (hg:A.guards=some []) (R:Rep M p) {vs:List Value} {bF:List AV} (r:L2 (VR p) vs bF) (hq:JS bF p.H Q):Ev M A p (call (.builtin "repr") vs) Q:=by
 rcases hq with ⟨rfl,hq⟩ | ⟨rfl,hq⟩
 .obtain ⟨v,l,rfl,rv,hl⟩:=r.aW
  cases hl.df
  exact Aq hu hg R (OI rv) hq
 .obtain ⟨v,l,rfl,rv,hl⟩:=r.aW
  cases hl.df
  exact Aq hu hg R (Pe rv) hq
end
end
section
open PySem PySem.W PySem.Spec PySem.Calls PyProof.Rows PySem.SeqAt
section
variable {M:Mo} {k:Nat} {A:Around} {p p':Pt} {sc:Scope} {env:Env} {loc:Loc} {Q:KV} {T:Value->Shared->Prop} {x y z:X} {xs:XL} {e f g o u:Expr} {es:List Expr} {q q' ap:Pos}
theorem Ez (W:Wd M) {n d:Str} {c:String} {p1 p2:Pos} (hg:aU sc n=true) (hn:n=Str.ofString "isinstance") (hd:aU sc d=true) (hc:iZ gQ d=some c) (hp:be e=true) (h:aA M x sc e):aA M (X.isin x c) sc (.Call (.Name n p1) [e,.Name d p2] [] q):=by
 intro k A p env loc Q z hq T hT
 have s:=cD hc
 refine bf (arm_eval_Call_Name' ..) ?_
 refine wpAny_bind (eG W z.eo z.rep hg ((hn)▸vw W (by decide)) (v:= .builtin "isinstance") (by rw [hn];kernel_rfl) ?_)
 rw [aT hp]
 refine callWith_builtin rfl (evalArgs_plain (wpAny_bind (h z hq _ λp1 v av w r a=>wpAny_bind (wpAny_pure (wpAny_bind (wpAny_holding ?_))))))
 refine aw (GT (A:=A) (q:=p2) W (z.eo.after a) a.rep s.2 ((s.1)▸hd)) λcv hv Gu=>?_
 rw [s.1]
 show wpAny _ _ (spliced ((false,eval (.Name (Str.ofString c) p2) env)::[])) _ _ _
 exact wpAny_bind (Gu (wpAny_bind (wpAny_pure (wpAny_bind (wpAny_holding (spliced_nil (wpAny_pure (wpAny_pure (KK W a.rep s.2 hv r w λb t hb=>hT (p1.at p1.h t) _ (.bool b) hb rfl (a.trans (.toks a.rep t)))))))))))
theorem LQ {F:PP} {b:Value} {vs:List Value} {bF:List AV} (r:L2 (VR p) vs bF) (h:a1 bF λv=>F v p.H Q) (g:∀{v av},VR p v av->F av p.H Q->Ev M A p (call b [v]) Q):Ev M A p (call b vs) Q:=by
 refine bU (g9 h) λav e0 h=>?_;subst e0
 refine cf r.aW λv l e1 rv hl=>?_;subst e1
 obtain rfl:=hl.df
 exact g rv h
theorem W7 {F:AV->PP} {b:Value} {vs:List Value} {bF:List AV} (r:L2 (VR p) vs bF) (h:a2 bF λu v=>F u v p.H Q) (g:∀{u v au av},VR p u au->VR p v av->F au av p.H Q->Ev M A p (call b [u,v]) Q):Ev M A p (call b vs) Q:=by
 refine J1 (Ee h) λau av e0 h=>?_;subst e0
 refine cf r.aW λu l e1 ru hl=>?_;subst e1
 refine cf hl.aW λv l e2 rv Cn=>?_;subst e2
 obtain rfl:=Cn.df
 exact g ru rv h
theorem IU (W:Wd M) {s:String} (hp:s∈oT):∃v,bootBuiltins (Str.ofString s)=some v/\((∃T,v= .type T)\/∃i,v= .builtin i)/\∀{k A p vs bF Q},Cx k A->Rep M p->L2 (VR p) vs bF->Ka (Γc M k) s bF p.H Q->Ev M A p (call v vs) Q:=by
 simp only [oT,List.mem_cons,List.not_mem_nil,or_false] at hp
 rcases hp with rfl | rfl | rfl | rfl | rfl | rfl | rfl | rfl | rfl | rfl
 .exact ⟨.builtin "len",by kernel_rfl,.inr ⟨_,rfl⟩,λcx R r h=>LQ r h λr h=>Pp W R r h⟩
 .exact ⟨.builtin "abs",by kernel_rfl,.inr ⟨_,rfl⟩,λcx R r h=>LQ r h λr h=>PZ R r h⟩
 .exact ⟨.builtin "min",by kernel_rfl,.inr ⟨_,rfl⟩,λcx R r h=>W7 r h λr1 r2 h=>Nm cx.hd R r1 r2 h⟩
 .exact ⟨.builtin "max",by kernel_rfl,.inr ⟨_,rfl⟩,λcx R r h=>W7 r h λr1 r2 h=>O9 cx.hd R r1 r2 h⟩
 .exact ⟨.builtin "sorted",by kernel_rfl,.inr ⟨_,rfl⟩,λcx R r h=>LQ r h λr h=>Ei W cx.hd R r h⟩
 .exact ⟨.type "tuple",by kernel_rfl,.inl ⟨_,rfl⟩,λcx R r h=>LQ r h λr h=>GN R r h⟩
 .exact ⟨.type "list",by kernel_rfl,.inl ⟨_,rfl⟩,λcx R r h=>LQ r h λr h=>Lk R r h⟩
 .exact ⟨.type "dict",by kernel_rfl,.inl ⟨_,rfl⟩,λcx R r h=>LQ r h λr h=>Mx W cx.hd cx.room R r h⟩
 .exact ⟨.type "bytes",by kernel_rfl,.inl ⟨_,rfl⟩,λcx R r h=>LQ r h λr h=>Ib R r h⟩
 .exact ⟨.builtin "repr",by kernel_rfl,.inr ⟨_,rfl⟩,λcx R r h=>Ln cx.room cx.guards R r (h.2 rfl)⟩
theorem ER (W:Wd M) {n:Str} {s:String} {q1:Pos} (hg:aU sc n=true) (hf:n=Str.ofString s) (hs:s∈oT) (L:jC M xs sc es):aA M (X.prim s xs) sc (.Call (.Name n q1) es [] q):=λz hq T hT=>
 (IU W hs).elim λv h=>v8 W ((by decide:∀s∈oT,s∈lF) s hs) hg hf ((hf)▸h.1) h.2.1 L z hq λp1 vs bF w r a=>(h.2.2 z.cx a.rep r w).cO a hT
theorem qA (W:Wd M) {n m:Str} {q1 q2 q3:Pos} (hg:aU sc n=true) (hn:n=Str.ofString "list") (hm:m=Str.ofString "range") (FD:aU sc m=true) (L:jC M xs sc es):
  aA M (X.prim "listrange" xs) sc (.Call (.Name n q1) [.Call (.Name m q2) es [] q3] [] q):=by
 intro k A p env loc Q z hq T hT
 refine bf (arm_eval_Call_Name' ..) ?_
 have Rw:∀f∈[Expr.Call (.Name m q2) es [] q3],be f=true:=λe he=>by rw [aaK.mp he];rfl
 refine wpAny_bind (eG W z.eo z.rep hg ((hn)▸vw W (by decide)) (v:= .type "list") (by rw [hn];kernel_rfl) (PySem.callWith_type (bq (env:=env) (pos:=q) Rw) ?_))
 rw [aT (Rw _ (.head _))]
 refine evalArgs_plain (wpAny_bind (v8 W (b:="range") (by decide) FD hm (v:= .type "range") (by rw [hm];kernel_rfl) (.inl ⟨_,rfl⟩) L z hq λp1 vs bF w r a=>?_))
 refine J1 (Ee w) λu v e0 w=>?_;subst e0
 refine bU (aG w) λi e1 w=>?_;subst e1
 obtain ⟨j,rfl,⟨h1,h2,h3⟩,w⟩:=aG w
 refine cf r.aW λu l e2 t0 hl=>?_;subst e2;obtain ⟨t1,rfl⟩:=t0
 refine cf hl.aW λv l e3 t3 Cn=>?_;subst e3;obtain ⟨t2,rfl⟩:=t3
 obtain rfl:=Cn.df
 refine call_range_2 ?_
 have a1:After M cY p1 (p1.at _ _):= .grow (t:=p1.s.toks+1) a.rep (.push _ {cls:= .type "range",data:= .fields #[.int i t1,.int j t2,.int 1 p1.s.toks]})
 exact wpAny_bind (wpAny_pure (wpAny_bind (wpAny_holding (spliced_nil (wpAny_pure ((vW (p:=p1.at _ (p1.s.toks+1)) z.cx.hd a1.rep (IsRange.new _ _ _ _ _ _ _) h1 h2 h3 w.run).cO (a.trans a1) hT))))))
end
noncomputable def CV (M:Mo) (x:X) (sc:Scope) (e:Expr):Prop:=dF e=true\/∃(el t it:Expr) (fs:List Expr) (aZ:Scope) (pos:Pos) (tg:Tg) (ik:IK) (iV:XL) (elt:X) (ifs:aj->PC),
 e= .ListComp el [⟨t,it,fs,0⟩] aZ pos/\x=X.aC elt tg ik iV ifs/\gA sc aZ tg/\EO aZ t=some tg/\iB it=true/\qv M ik iV sc it/\aA M elt aZ el/\fP M ifs aZ fs
structure Ih (M:Mo) (c:CX):Prop where
 X:∀{sc e x},c false sc e=some x->be e=true/\aA M x sc e/\CV M x sc e
 T:∀{sc e x},c true sc e=some x->be e=true/\d7 M x sc e
theorem bQ {α:Type} {l:List α} {a:α} (h:lQ l=some a):l=[a]:=by
 cases l with
 | nil=>exact (nn h).elim
 | cons b r=>cases r with
  | nil=>obtain rfl:=aay h;rfl
  | cons=>exact (nn h).elim
theorem pc {α:Type} {l:List α} {q:α × α} (h:Rq l=some q):l=[q.1,q.2]:=by
 cases l with
 | nil=>exact (nn h).elim
 | cons b r=>replace h:=bm h;obtain ⟨c,h,rfl⟩:=h;rw [bQ h]
theorem eP {α:Type} {l:List α} (h:xh l=true):l=[]:=by
 cases l with
 | nil=>rfl
 | cons=>exact absurd h aaE
theorem Bh {e:Expr} {i:Int} (h:OR e=some i):∃c q,e= .Constant (.int i) c q:=by
 cases e with
 | Constant v c q=>cases v with
  | int j=>obtain rfl:=aay h;exact (bI c q rfl)
  | _=>exact (nn h).elim
 | _=>exact (nn h).elim
theorem jK {e:Expr} (h:tq e=true):∃c q,e= .Constant .none c q:=by
 cases e with
 | Constant v c q=>cases v with
  | none=>exact (bI c q rfl)
  | _=>exact (aaE h).elim
 | _=>exact (aaE h).elim
theorem iC {e:Expr} {g:Str × List Expr} (h:jk e=some g):∃q1 q,e= .Call (.Name g.1 q1) g.2 [] q:=by
 cases e with
 | Call f as kw q=>
  refine qj (bg h) λh1 h=>?_
  refine aw (bm h) λy h2 e0=>?_;subst e0
  obtain ⟨q1,rfl⟩:=gG h2
  exact (eP h1)▸(bI q1 q rfl)
 | _=>exact (nn h).elim
theorem ba {a b:Bool} (h:(a&&b)=true):a=true/\b=true:=aaV.mp h
section
variable {M:Mo} {c:CX} {sc aZ:Scope} {x y:X} {xs:XL} {e l r:Expr} {es:List Expr} {q q':Pos}
theorem lE (I:Ih M c):∀{es:List Expr} {l:List X},xx c sc es=some l->L2 (λx e=>be e=true/\aA M x sc e) l es
 | [],l,h=>by obtain rfl:=aay h;exact .nil
 | e::es,l,h=>by
  refine aw (bb h) λx h1 h=>?_
  replace h:=bm h;refine aw h λl h2 e0=>?_;subst e0
  have z:=I.X h1
  exact .cons ⟨z.1,z.2.1⟩ (lE I h2)
theorem F7 {l:List X} (s:L2 (λx e=>be e=true/\aA M x sc e) l es):jC M (wC l) sc es:=by
 induction s with
 | nil=>exact ⟨λzz h=>((aaU h).elim),lT,λzz=>rfl⟩
 | cons h _ ih=>exact ⟨λe he=>(aaH.mp he).elim (λq=>q▸h.1) (ih.pl e),gD h.1 h.2 ih.snd,(nomatch ·)⟩
theorem c4 (I:Ih M c) (h:dU c sc es=some xs):jC M xs sc es:=by
 replace h:=bm h;obtain ⟨l,h,rfl⟩:=h
 exact F7 (lE I h)
theorem Ct {v:Const} {k:Nat} (h:Jr v=some x):aA M x sc (.Constant v k q):=by
 cases v with
 | none=>obtain rfl:=aay h;intro _ _ _ _ _ _;exact EK
 | bool=>obtain rfl:=aay h;intro _ _ _ _ _ _;exact F9
 | int=>obtain rfl:=aay h;intro _ _ _ _ _ _;exact Hm
 | bytes=>obtain rfl:=aay h;intro _ _ _ _ _ _;exact Cf
 | str t=>
  replace h:=bm h;obtain ⟨s,h,rfl⟩:=h
  rw [kj h]
  intro _ _ _ _ _ _;exact Hp
 | _=>exact (nn h).elim
theorem lY {op:CmpOp} {a:X} (h:pS c sc op r a=some x):(∃n k q',op=(bif n then .IsNot else .Is)/\r= .Constant .none k q'/\x=bif n then X.bL a else X.isNone a)\/∃o y,nX op=some o/\c false sc r=some y/\x=X.cmp o a y:=by
 have key:∀op,((nX op).bind λo=>(c false sc r).map (X.cmp o a))=some x->∃o y,nX op=some o/\c false sc r=some y/\x=X.cmp o a y:=λop h=>by
  refine aw (bb h) λo h1 h=>?_
  refine aw (bm h) λy h2 h=>?_
  exact (bI o y ⟨h1,h2,h.symm⟩)
 cases op with
 | Is=>
  obtain ⟨h1,h⟩:=bg h
  obtain ⟨k,q',rfl⟩:=jK h1
  exact .inl (c9 false k q' ⟨rfl,rfl,(aay h).symm⟩)
 | IsNot=>
  obtain ⟨h1,h⟩:=bg h
  obtain ⟨k,q',rfl⟩:=jK h1
  exact .inl (c9 true k q' ⟨rfl,rfl,(aay h).symm⟩)
 | _=>exact .inr (key _ h)
theorem FV (W:Wd M) (I:Ih M c) {op:CmpOp} {a:X} (ha:aA M a sc l) (h:pS c sc op r a=some x):aA M x sc (.Compare l [op] [r] q):=by
 rcases lY h with ⟨n,k,q',rfl,rfl,rfl⟩ | ⟨o,y,h1,h2,rfl⟩
 .intro _ _ _ _ _ _;exact IY n ha
 .intro _ _ _ _ _ _;exact GF W h1 (I.X h2).1 ha (I.X h2).2.1
theorem CE (W:Wd M) (I:Ih M c) {op:CmpOp} {a:X} (ha:aA M a sc l) (h:pS c sc op r a=some x):d7 M x sc (.Compare l [op] [r] q):=by
 rcases lY h with ⟨n,k,q',rfl,rfl,rfl⟩ | ⟨o,y,h1,h2,rfl⟩
 .intro _ _ _ _ _ _;exact FE n ha
 .intro _ _ _ _ _ _;exact F8 W h1 (I.X h2).1 ha (I.X h2).2.1
theorem xe (I:Ih M c) {a:X} (ha:aA M a sc l) (h:z6 c sc l a r=some x):aA M x sc (.Subscript l r q):=by
 have idx:∀{r},(c false sc r).map (X.idx a)=some x->aA M x sc (.Subscript l r q):=λh'=>by
  replace h':=bm h';obtain ⟨y,h2,rfl⟩:=h'
  intro _ _ _ _ _ _;exact G7 (I.X h2).1 ha (I.X h2).2.1
 cases r with
 | Slice lo hi st q3=>
  replace h:(bif kS l&&st.isNone then ET c sc a lo hi else .none)=some x:=h
  cases hb:kS l&&st.isNone with
  | false=>rw [hb] at h;exact (nn h).elim
  | true=>
   rw [hb] at h
   have hn:=aaV.mp hb
   cases st with
   | some=>exact (aaE hn.2).elim
   | none=>
    cases lo with
    | none=>
     cases hi with
     | none=>exact (nn h).elim
     | some u=>
      replace h:=bm h;obtain ⟨y,h,rfl⟩:=h
      intro _ _ _ _ _ _;exact Cw hn.1 ha (I.X h).2.1
    | some u=>
     cases hi with
     | some=>exact (nn h).elim
     | none=>
      replace h:=bm h;obtain ⟨y,h,rfl⟩:=h
      intro _ _ _ _ _ _;exact E3 hn.1 ha (I.X h).2.1
 | _=>exact @idx _ h
theorem uN (W:Wd M) (I:Ih M c) {n:Str} {s:String} {q1:Pos} (hg:aU sc n=true) (hf:n=Str.ofString s) (hs:s∈oT) (h:oI c sc s es=some x):aA M x sc (.Call (.Name n q1) es [] q):=by
 have plain:(dU c sc es).map (X.prim s)=some x->aA M x sc (.Call (.Name n q1) es [] q):=λh'=>by
  replace h':=bm h';obtain ⟨xs,h2,rfl⟩:=h'
  intro _ _ _ _ _ _;exact ER W hg hf hs (c4 I h2)
 unfold oI at h
 cases h1:(lQ es).bind jk with
 | none=>replace h:=(h1)▸h;intro _ _ _ _ _ _;exact plain h
 | some g=>
  replace h:=(h1)▸h
  cases hb:s=="list"&&aU sc "range"&&(g.1==("range":Str)) with
  | false=>dsimp only at h;replace h:=(hb)▸h;intro _ _ _ _ _ _;exact plain h
  | true=>
   dsimp only at h;replace h:=(hb)▸h
   obtain ⟨e,h2,h3⟩:=bb h1
   obtain ⟨q2,q3,rfl⟩:=iC h3
   rw [bQ h2]
   replace h:=bm h;obtain ⟨xs,h,rfl⟩:=h
   have hb:=ba hb
   have hm:=beq_iff_eq.mp hb.2
   have W9:=ba hb.1
   intro _ _ _ _ _ _;exact qA W hg (by rw [hf,beq_iff_eq.mp W9.1]) hm (hm▸W9.2) (c4 I h)
theorem Ge (W:Wd M) (I:Ih M c) {n:Str} {q1:Pos} (hg:aU sc n=true) (h:De c sc n es=some x):aA M x sc (.Call (.Name n q1) es [] q):=by
 unfold De at h
 cases h1:iZ pU n with
 | some f=>
  rw [h1] at h
  replace h:=bm h;obtain ⟨xs,h,rfl⟩:=h
  intro _ _ _ _ _ _;exact Dj W hg h1 (c4 I h)
 | none=>
  rw [h1] at h
  cases h2:iZ insts n with
  | some f=>
   dsimp only at h;rw [h2] at h
   replace h:=bm h;obtain ⟨xs,h,rfl⟩:=h
   intro _ _ _ _ _ _;exact GZ W hg h2 (c4 I h)
  | none=>
   dsimp only at h;replace h:=(h2)▸h
   cases h3:iZ oT n with
   | some p=>
    dsimp only at h;replace h:=(h3)▸h
    intro _ _ _ _ _ _;exact uN W I hg (cD h3).1 (cD h3).2 h
   | none=>
    dsimp only at h;replace h:=(h3)▸h
    obtain ⟨hn,h⟩:=bg h
    obtain ⟨p,h4,h⟩:=bb h
    obtain ⟨d,h5,h⟩:=bb h
    obtain ⟨k,h6,h⟩:=bb h
    obtain ⟨h7,h⟩:=bg h
    obtain ⟨y,h8,rfl⟩:=bm h
    obtain ⟨e1,e2⟩:=p
    obtain ⟨q2,rfl⟩:=gG h5
    rw [pc h4]
    intro _ _ _ _ _ _;exact Ez W hg (beq_iff_eq.mp hn) h7 h6 (I.X h8).1 (I.X h8).2.1
theorem ul (W:Wd M) (I:Ih M c) (h:uj c sc l es q=some x):aA M x sc (.Call l es [] q):=by
 cases l with
 | Name g q1=>
  obtain ⟨h1,h⟩:=bg h
  intro _ _ _ _ _ _;exact Ge W I h1 h
 | Attribute o n ap=>
  obtain ⟨h1,h⟩:=bg h
  have h1:=ba h1
  have h2:=ba h1.1
  have Gq:=Nat.eq_of_beq_eq_true h2.2
  have hl:=Nat.ble_eq.mp h1.2
  obtain ⟨a,ha,h⟩:=bb h
  have ha:=I.X ha
  unfold J9 at h
  cases hr:Qc sc es with
  | some v=>
   replace h:=(hr)▸h
   obtain ⟨h3,h⟩:=bg h
   obtain ⟨y,h4,rfl⟩:=bm h
   obtain ⟨e,g1,hr⟩:=bb hr
   obtain ⟨g,g2,hr⟩:=bb hr
   obtain ⟨g3,g4⟩:=bg hr
   obtain ⟨q2,q3,rfl⟩:=iC g2
   have g3:=ba g3
   rw [bQ g1,bQ g4]
   intro _ _ _ _ _ _;exact yv W h2.1 Gq (beq_iff_eq.mp h3) (beq_iff_eq.mp g3.1) g3.2 (I.X h4).1 ha.2.1 (I.X h4).2.1
  | none=>
   replace h:=(hr)▸h
   obtain ⟨m,h3,h⟩:=bb h
   obtain ⟨xs,h4,rfl⟩:=bm h
   intro _ _ _ _ _ _;exact CN W h2.1 Gq hl (cD h3).1 ha.2.1 (c4 I h4)
 | _=>exact (nn h).elim
end
section
variable {M:Mo} {c:CX} {sc aZ:Scope} {x y:X} {xs:XL} {e l r:Expr} {es:List Expr} {q q':Pos}
theorem zO (W:Wd M) (I:Ih M c) {z:IK × XL} (h:Mh c sc e=some z):iB e=true/\qv M z.1 z.2 sc e:=by
 refine qj (bg h) λh1 h=>?_
 refine ⟨h1,?_⟩
 have plain:(c false sc e).map (λx=>(IK.plain,XL.o x))=some z->qv M z.1 z.2 sc e:=λh'=>by
  replace h':=bm h';obtain ⟨x,h2,rfl⟩:=h'
  intro _ _ _ _ _ _;exact yp W (I.X h2).2.1
 cases h2:jk e with
 | none=>rw [h2] at h;exact @plain h
 | some g=>
  rw [h2] at h
  obtain ⟨q1,q,rfl⟩:=iC h2
  cases h3:aU sc g.1 with
  | false=>dsimp only at h;replace h:=(h3)▸h;exact (nn h).elim
  | true=>
   dsimp only at h;replace h:=(h3)▸h
   cases h4:g.1==("range":Str) with
   | true=>
    replace h:=(h4)▸h
    obtain ⟨a,h5,h⟩:=bb h
    replace h:=bm h;obtain ⟨x,h6,rfl⟩:=h
    rw [bQ h5]
    intro _ _ _ _ _ _;exact xR W (beq_iff_eq.mp h4) h3 (I.X h6).1 (I.X h6).2.1
   | false=>
    rw [h4] at h
    cases h7:g.1==("reversed":Str) with
    | true=>
     replace h:=(h7)▸h
     obtain ⟨a,h5,h⟩:=bb h
     replace h:=bm h;obtain ⟨x,h6,rfl⟩:=h
     rw [bQ h5]
     intro _ _ _ _ _ _;exact CR W (beq_iff_eq.mp h7) h3 (I.X h6).1 (I.X h6).2.1
    | false=>replace h:=(h7)▸h;exact @plain h
theorem HZ (I:Ih M c) {z:aj->PC} (h:Qb c sc es=some z):fP M z sc es:=by
 cases es with
 | nil=>obtain rfl:=aay h;exact xF
 | cons e r=>
  cases r with
  | cons=>exact (nn h).elim
  | nil=>
   replace h:=bm h;obtain ⟨x,h2,rfl⟩:=h
   intro _ _ _ _ _ _;exact xP (I.T h2).2
theorem AS (W:Wd M) (I:Ih M c) {g:Comprehension} (h:Dc c sc aZ e g=some x):aA M x sc (.ListComp e [g] aZ q)/\CV M x sc (.ListComp e [g] aZ q):=by
 refine aw (bb h) λtg h1 h=>?_
 refine qj (bg h) λh2 h=>?_
 refine aw (bb h) λz h3 h=>?_
 refine aw (bb h) λelt h4 h=>?_
 replace h:=bm h;obtain ⟨ifs,h5,rfl⟩:=h
 have h2:=ba h2
 have co:=ve h2.2
 have s:=zO W I h3
 have f:fP M ifs aZ g.ifs:=HZ I h5
 obtain ⟨t,it,fs,a⟩:=g
 cases (beq_iff_eq.mp h2.1:a=0)
 exact ⟨by intro _ _ _ _ _ _;exact we co h1 s.1 s.2 (I.X h4).2.1 f,.inr (uS e t it fs aZ q tg ⟨z.1,z.2,elt,ifs,rfl,rfl,co,h1,s.1,s.2,(I.X h4).2.1,f⟩)⟩
theorem u7 (W:Wd M) (I:Ih M c) (h:vp c sc e=some x):aA M x sc e/\CV M x sc e:=by
 have nc:aA M x sc e->dF e=true->aA M x sc e/\CV M x sc e:=λh g=>⟨h,.inl g⟩
 cases e with
 | Constant v k q=>exact nc (Ct h) rfl
 | Name n q=>
  refine nc ?_ rfl
  unfold vp at h
  dsimp only at h
  cases h1:si sc n with
  | some s=>rw [h1] at h;obtain rfl:=aay h;intro _ _ _ _ _ _;exact sD h1
  | none=>
   replace h:=(h1)▸h
   obtain ⟨h2,h⟩:=bg h
   replace h:=bm h;obtain ⟨s,h3,rfl⟩:=h
   intro _ _ _ _ _ _;exact Es W h2 h3
 | UnaryOp op a q=>
  refine nc ?_ rfl
  cases op with
  | Not=>replace h:=bm h;obtain ⟨y,h2,rfl⟩:=h;intro _ _ _ _ _ _;exact HR (I.X h2).2.1
  | USub=>replace h:=bm h;obtain ⟨i,h2,rfl⟩:=h;obtain ⟨k,q,rfl⟩:=Bh h2;intro _ _ _ _ _ _;exact IF
  | _=>exact (nn h).elim
 | Tuple es k q=>refine nc ?_ rfl;replace h:=bm h;obtain ⟨xs,h2,rfl⟩:=h;intro _ _ _ _ _ _;exact HY (c4 I h2).snd
 | List es q=>refine nc ?_ rfl;replace h:=bm h;obtain ⟨xs,h2,rfl⟩:=h;intro _ _ _ _ _ _;exact CZ (c4 I h2).snd
 | Dict ks vs q=>
  refine nc ?_ rfl
  obtain ⟨h1,h⟩:=bg h
  have h1:=ba h1
  obtain ⟨ks',h2,h⟩:=bb h
  replace h:=bm h;obtain ⟨xs,h3,rfl⟩:=h
  replace h3:=bm h3;obtain ⟨l,h3,rfl⟩:=h3
  intro _ _ _ _ _ _;exact CY h2 (Nat.eq_of_beq_eq_true h1.1) (Nat.ble_eq.mp h1.2) ((lE I h3).imp λzz zz z=>z.2)
 | BinOp l op r q=>
  refine nc ?_ rfl
  obtain ⟨o,h1,h⟩:=bb h
  obtain ⟨a,h2,h⟩:=bb h
  replace h:=bm h;obtain ⟨b,h3,rfl⟩:=h
  intro _ _ _ _ _ _;exact GE h1 (I.X h2).2.1 (I.X h3).2.1
 | Compare l ops rs q=>
  refine nc ?_ rfl
  obtain ⟨op,h1,h⟩:=bb h
  obtain ⟨r,h2,h⟩:=bb h
  obtain ⟨a,h3,h⟩:=bb h
  rw [bQ h1,bQ h2]
  intro _ _ _ _ _ _;exact FV W I (I.X h3).2.1 h
 | BoolOp op es q=>
  refine nc ?_ rfl
  obtain ⟨p,h1,h⟩:=bb h
  obtain ⟨a,h2,h⟩:=bb h
  replace h:=bm h;obtain ⟨b,h3,rfl⟩:=h
  rw [pc h1]
  cases op with
  | And=>intro _ _ _ _ _ _;exact GR (I.X h2).2.1 (I.X h3).2.1
  | Or=>intro _ _ _ _ _ _;exact Kg (I.X h2).2.1 (I.X h3).2.1
 | IfExp t a b q=>
  refine nc ?_ rfl
  obtain ⟨x1,h1,h⟩:=bb h
  obtain ⟨x2,h2,h⟩:=bb h
  replace h:=bm h;obtain ⟨x3,h3,rfl⟩:=h
  intro _ _ _ _ _ _;exact I9 (I.T h1).2 (I.X h2).2.1 (I.X h3).2.1
 | Attribute v m q=>
  refine nc ?_ rfl
  obtain ⟨h1,h⟩:=bg h
  obtain ⟨n,h2,h⟩:=bb h
  replace h:=bm h;obtain ⟨y,h3,rfl⟩:=h
  have s:=cD h2
  rw [s.1]
  intro _ _ _ _ _ _;exact HX W s.2 h1 (I.X h3).2.1
 | Subscript v s q=>
  refine nc ?_ rfl
  obtain ⟨a,h1,h⟩:=bb h
  intro _ _ _ _ _ _;exact xe I (I.X h1).2.1 h
 | Call f as kw q=>
  refine nc ?_ rfl
  obtain ⟨h1,h⟩:=bg h
  rw [eP h1]
  intro _ _ _ _ _ _;exact ul W I h
 | ListComp e gs aZ q=>
  refine aw (bb h) λg h1 h=>?_
  exact (bQ h1)▸AS W I h
 | _=>exact (nn h).elim
theorem Fe (W:Wd M) (I:Ih M c) (h:Jx c sc e=some x):d7 M x sc e:=by
 have key:∀e,vp c sc e=some x->(∀env whole,isTrue e env whole=(do let v <-whole;standAt e.pos;holding [v] (truthy v)))->d7 M x sc e:=λe h he=>by
  intro _ _ _ _ _ _
  exact Id (u7 W I h).1 he
 cases e with
 | UnaryOp op a q=>
  cases op with
  | Not=>replace h:=bm h;obtain ⟨y,h2,rfl⟩:=h;intro _ _ _ _ _ _;exact Da (I.T h2).2
  | _=>exact (nn h).elim
 | Compare l ops rs q=>
  cases ops with
  | nil=>exact (nn h).elim
  | cons op qs=>
   obtain ⟨a,h1,h⟩:=bb h
   cases qs with
   | nil=>
    obtain ⟨r,h2,h⟩:=bb h
    rw [bQ h2]
    intro _ _ _ _ _ _;exact CE W I (I.X h1).2.1 h
   | cons o2 qs=>
    obtain ⟨h0,h⟩:=bg h
    obtain ⟨r,h2,h⟩:=bb h
    obtain ⟨o,h3,h⟩:=bb h
    obtain ⟨p,h4,h⟩:=bb h
    obtain ⟨y,h5,h⟩:=bb h
    replace h:=bm h;obtain ⟨z,h6,rfl⟩:=h
    rw [eP h0,pc h2]
    intro _ _ _ _ _ _;exact A7 W h3 h4 (I.X h6).1 (I.X h1).2.1 (I.X h5).2.1 (I.X h6).2.1
 | BoolOp op es q=>
  cases es with
  | nil=>exact (nn h).elim
  | cons e r=>
   obtain ⟨a,h1,h⟩:=bb h
   cases r with
   | nil=>exact (nn h).elim
   | cons f r=>
    obtain ⟨b,h2,h⟩:=bb h
    cases r with
    | nil=>
     cases op with
     | And=>cases h;intro _ _ _ _ _ _;exact FK (I.T h1).2 (I.T h2).2
     | Or=>cases h;intro _ _ _ _ _ _;exact IQ (I.T h1).2 (I.T h2).2
    | cons g r=>
     cases op with
     | And=>exact (nn h).elim
     | Or=>
      obtain ⟨h0,h⟩:=bg h
      replace h:=bm h;obtain ⟨d,h3,rfl⟩:=h
      rw [eP h0]
      intro _ _ _ _ _ _;exact EW (I.T h1).2 (I.T h2).2 (I.T h3).2
 | IfExp=>exact (nn h).elim
 | NamedExpr=>exact (nn h).elim
 | _=>exact @key _ h λzz zz=>rfl
theorem nE (W:Wd M) (n:Nat):Ih M (comp n):=by
 induction n with
 | zero=>exact ⟨λh=>(nn h).elim,λh=>(nn h).elim⟩
 | succ n I=>exact ⟨λh=>have h:=bg h;⟨h.1,u7 W I h.2⟩,λh=>have h:=bg h;⟨h.1,Fe W I h.2⟩⟩
theorem xA (W:Wd M) (I:Ih M c) {s:S} {o v:Expr} {m:Str} (h:Ex c sc (.Attribute o m q') v=some s):ez M s sc (.Assign [.Attribute o m q'] v q):=by
 obtain ⟨h0,h⟩:=bg h
 obtain ⟨n,h1,h⟩:=bb h
 obtain ⟨a,h2,h⟩:=bb h
 replace h:=bm h;obtain ⟨y,h3,rfl⟩:=h
 have s:=cD h1
 rw [s.1]
 intro _ _ _ _ _ _;exact BG W s.2 (ba h0).1 (I.X h2).2.1 (I.X h3).2.1
theorem DA (W:Wd M) (I:Ih M c) {s:S} {t v:Expr} (h:Ex c sc t v=some s):ez M s sc (.Assign [t] v q):=by
 cases t with
 | Name n q'=>
  obtain ⟨x,h1,h⟩:=bb h
  replace h:=bm h;obtain ⟨y,h2,rfl⟩:=h
  obtain ⟨_,hv,cv⟩:=I.X h2
  rcases cv with hc | ⟨el,t,it,fs,aZ,pos,tg,ik,iV,elt,ifs,rfl,rfl,g1,g2,g3,g4,g5,g6⟩
  .intro _ _ _ _ _ _;exact Dr h1 hc hv
  .intro _ _ _ _ _ _;exact tE h1 g1 g2 g3 g4 g5 g6
 | Tuple ts k q'=>
  obtain ⟨h0,h⟩:=bg h
  obtain ⟨xs,h1,h⟩:=bb h
  replace h:=bm h;obtain ⟨y,h2,rfl⟩:=h
  intro _ _ _ _ _ _;exact A3 h1 (ba h0).1 (ba h0).2 (I.X h2).2.1
 | Subscript o i q'=>
  obtain ⟨h0,h⟩:=bg h
  obtain ⟨a,h1,h⟩:=bb h
  obtain ⟨b,h2,h⟩:=bb h
  replace h:=bm h;obtain ⟨y,h3,rfl⟩:=h
  intro _ _ _ _ _ _;exact BO h0 (I.X h1).2.1 (I.X h2).2.1 (I.X h3).2.1
 | Attribute=>intro _ _ _ _ _ _;exact xA W I h
 | _=>exact (nn h).elim
theorem o6 (W:Wd M) (I:Ih M c) {b:Scope->List Stmt->Option SL} (hb:∀{sc l x},b sc l=some x->jH M x sc l) {s:S} {st:Stmt} (h:mv c b sc st=some s):ez M s sc st:=by
 cases st with
 | Assign ts v q=>
  obtain ⟨t,h1,h⟩:=bb h
  rw [bQ h1]
  intro _ _ _ _ _ _;exact DA W I h
 | Expr v q=>
  obtain ⟨h0,h⟩:=bg h
  replace h:=bm h;obtain ⟨y,h1,rfl⟩:=h
  intro _ _ _ _ _ _;exact BQ h0 (I.X h1).2.1
 | If t p r q=>
  obtain ⟨x,h1,h⟩:=bb h
  obtain ⟨y,h2,h⟩:=bb h
  replace h:=bm h;obtain ⟨z,h3,rfl⟩:=h
  intro _ _ _ _ _ _;exact IL (I.T h1).2 (hb h2) (hb h3)
 | While t p r q=>
  obtain ⟨h0,h⟩:=bg h
  obtain ⟨x,h1,h⟩:=bb h
  replace h:=bm h;obtain ⟨y,h2,rfl⟩:=h
  rw [eP h0]
  intro _ _ _ _ _ _;exact yj (I.T h1).2 (hb h2)
 | For t it p r q=>
  obtain ⟨h0,h⟩:=bg h
  obtain ⟨tg,h1,h⟩:=bb h
  obtain ⟨z,h2,h⟩:=bb h
  replace h:=bm h;obtain ⟨y,h3,rfl⟩:=h
  have g:=zO W I h2
  rw [eP h0]
  intro _ _ _ _ _ _;exact Fz g.1 h1 g.2 (hb h3)
 | Return v q=>
  obtain ⟨v,rfl,h⟩:=bb h
  replace h:=bm h;obtain ⟨y,h2,rfl⟩:=h
  intro _ _ _ _ _ _;exact Dv (I.X h2).2.1
 | Continue=>obtain rfl:=aay h;intro _ _ _ _ _ _;exact AM
 | Break=>obtain rfl:=aay h;intro _ _ _ _ _ _;exact CM
 | Raise=>obtain rfl:=aay h;intro _ _ _ _ _ _;exact λzz h=>h.elim
 | _=>exact (nn h).elim
theorem iU (W:Wd M) (n:Nat):∀{sc l x},dy n sc l=some x->jH M x sc l:=by
 induction n with
 | zero=>exact λh=>(nn h).elim
 | succ n ih=>
  intro sc l x h
  cases l with
  | nil=>obtain rfl:=aay h;exact rK
  | cons s r=>
   obtain ⟨a,h1,h⟩:=bb h
   replace h:=bm h;obtain ⟨y,h2,rfl⟩:=h
   intro _ _ _ _ _ _;exact nR (o6 W (nE W n) ih h1) (ih h2)
end
theorem o5 {α:Type}:∀{ns:List Str} {vs:List α} {n:Str},ns.length=vs.length->n∈ns->((ns.zip vs).lookup n).isSome=true
 | m::ns,v::vs,n,e,h=>by
  rw [List.zip_cons_cons,List.lookup_cons]
  cases q:n==m with
  | true=>rfl
  | false=>exact o5 (Nat.succ.inj e) ((aaH.mp h).resolve_left (beq_eq_false_iff_ne.mp q))
theorem qJ {α:Type}:∀{ns:List Str} {vs:List α},ns.length=vs.length->ns.Nodup->ns.filterMap (λn=>((ns.zip vs).lookup n).map (n,·))=ns.zip vs
 | [],[],_,_=>rfl
 | m::ns,v::vs,e,h=>by
  have h:=aa8.mp h
  rw [List.filterMap_cons,show ((List.zip (m::ns) (v::vs)).lookup m)=some v by rw [List.zip_cons_cons,List.lookup_cons,beq_self_eq_true]]
  refine congrArg _ (Eq.trans ?_ (qJ (Nat.succ.inj e) h.2))
  have aux:∀(l:List Str),(∀n∈l,n≠m)->l.filterMap (λn=>((List.zip (m::ns) (v::vs)).lookup n).map (n,·))=l.filterMap (λn=>((ns.zip vs).lookup n).map (n,·)):=λl=>by
   induction l with
   | nil=>exact λzz=>rfl
   | cons n l ih=>
    intro hn
    rw [List.filterMap_cons,List.filterMap_cons,List.zip_cons_cons,List.lookup_cons,beq_eq_false_iff_ne.mpr (hn n (.head _)),<-List.zip_cons_cons,ih λx hx=>hn x (.tail _ hx)]
  exact aux ns λn hn e=>h.1 (e▸hn)
section
variable {M:Model} {A:Around} {E:Value->Shared->Prop} {s:Shared}
theorem oM {α β:Type} {l:List α} {b:β} {f:α->β->Sem (ForInStep β)} {Q:β->Shared->Prop} (hl:l=[]) (h:Q b s):wpAny M A (forIn l b f) Q E s:=by subst hl;exact wpAny_pure h
end
theorem Vj (l:List Str) (n:Nat):l.zip (([]:List Value).drop n)=[]:=by rw [List.drop_nil,List.zip_nil_right]
theorem gH {s:Shared} {fd:FuncData} {names:List Str} {vals:List Value} (h1:fd.params.posonlyargs=[]) (h2:fd.params.args.map (·.arg)=names) (h3:fd.params.vararg=none) (h4:fd.params.kwonlyargs=[]) (h5:fd.params.kwarg=none)
  (hd:fd.defaults= .none) (hl:names.length=vals.length) (nd:names.Nodup):BindsTo s fd ⟨vals,[]⟩ (names.zip vals):=by
 obtain ⟨_,_,⟨_,as,_,_,_⟩,_,_,_,_,_,_⟩:=fd
 dsimp only at h1 h2 h3 h4 h5 hd
 subst h1 h2 h3 h4 h5 hd
 intro M A E Q hq
 refine wpAny_bind (oM rfl ?_)
 refine wpAny_bind (wpAny_pure ?_)
 refine mC (λh=>aaP.mpr (aaS hl.symm) (of_decide_eq_true (aaV.mp h).1)) ?_
 have hf:∀n:Nat,((as.map (·.arg)).take n).filter (λn=>(((as.map (·.arg)).zip vals).lookup n).isNone)=[]:=λn=>List.filter_eq_nil_iff.mpr λx hx=>by
  rw [<-Option.not_isSome,o5 hl (List.mem_of_mem_take hx)];decide
 refine mC (λh=>?_) ?_
 .replace h:(!(List.isEmpty _))=true:=h
  erw [hf] at h
  exact absurd h (by decide)
 refine wpAny_bind (oM (Vj _ _) ?_)
 refine wpAny_bind (oM rfl ?_)
 refine mC (λh=>aaE h) ?_
 exact wpAny_pure (Eq.mpr (congrArg (λl=>Q l s) ((congrArg (List.filterMap _) (aaY _)).trans (qJ hl nd))) hq)
theorem QT {α β:Type} {f:α->β} {l:List α} {a b c:β} (h:l.map f=[a,b,c]):∃x y z,l=[x,y,z]/\f x=a/\f y=b/\f z=c:=by
 obtain ⟨x,l,rfl,h1,h⟩:=List.map_eq_cons_iff.mp h
 obtain ⟨y,l,rfl,h2,h⟩:=List.map_eq_cons_iff.mp h
 obtain ⟨z,l,rfl,h3,h⟩:=List.map_eq_cons_iff.mp h
 exact (c9 x y z ⟨congrArg (x::y::z::·) (List.map_eq_nil_iff.mp h),h1,h2,h3⟩)
theorem yX {s:Shared} {fd:FuncData} {v:Value} {T:Addr} {o:Obj} {items:Array Value} {n:Nat} (h1:fd.params.posonlyargs=[]) (h2:fd.params.args.map (·.arg)=[("self":Str),"table","trailer"]) (h3:fd.params.vararg=none) (h4:fd.params.kwonlyargs=[]) (h5:fd.params.kwarg=none)
  (hd:fd.defaults= .ref T) (ho:s.heap.get? T=some o) (hs:o.data= .seq items n) (hi:items.toList=[.none,.none]):BindsTo s fd ⟨[v],[]⟩ [("self",v),("table",.none),("trailer",.none)]:=by
 obtain ⟨_,_,⟨_,as,_,_,_⟩,_,_,_,_,_,_⟩:=fd
 dsimp only at h1 h2 h3 h4 h5 hd
 obtain ⟨items⟩:=items
 obtain rfl:=show items=_ from hi
 obtain ⟨⟨x,_⟩,⟨y,_⟩,⟨z,_⟩,rfl,e1,e2,e3⟩:=QT h2
 dsimp only at e1 e2 e3
 subst h1 h3 h4 h5 hd e1 e2 e3
 intro M A E Q hq
 refine wpAny_bind (oM rfl ?_)
 refine wpAny_bind (wpAny_seqItems ho hs ?_)
 exact bf (t':=(pure [(("self":Str),v),(("table":Str),.none),(("trailer":Str),.none)]:Sem (List (Str × Value)))) (by kernel_rfl) (wpAny_pure hq)
section
variable {M:Mo} {k:Nat} {A:Around} {p p':Pt} {sc aZ:Scope} {env:Env} {loc:Loc} {Q:KV} {T:Value->Shared->Prop}
theorem x8 {kf:Str->Option NameKind} (ps:List String):∀{vs:List Value} {as:List AV} (l:L2 (VR p) vs as) {loc loc':Loc} {m cm:Str->Option Value},eu ps as loc=some loc'->(∀q∈ps,kf (Str.ofString q)=some .local\/kf (Str.ofString q)=some .cell)->
  (∀x,loc x≠ .unset->kf (Str.ofString x)=some .local->∃v,m (Str.ofString x)=some v/\VR p v (loc x))->(∀x,loc x≠ .unset->kf (Str.ofString x)=some .cell->∃v,cm (Str.ofString x)=some v/\VR p v (loc x))->
  (∀x,loc' x≠ .unset->kf (Str.ofString x)=some .local->∃v,bindL kf ((ps.map Str.ofString).zip vs) m (Str.ofString x)=some v/\VR p v (loc' x))/\
  (∀x,loc' x≠ .unset->kf (Str.ofString x)=some .cell->∃v,bindC kf ((ps.map Str.ofString).zip vs) cm (Str.ofString x)=some v/\VR p v (loc' x)):=by
 induction ps with
 | nil=>
  intro vs as l loc loc' m cm hu hk h1 h2
  cases l with
  | nil=>obtain rfl:=aay hu;exact ⟨h1,h2⟩
  | cons r rs=>exact (nn hu).elim
 | cons q ps ih=>
  intro vs as l loc loc' m cm hu hk h1 h2
  cases l with
  | nil=>exact (nn hu).elim
  | @cons v a vs as r rs=>
  have put:∀{K:Option NameKind} {m:Str->Option Value},(∀x,loc x≠ .unset->kf (Str.ofString x)=K->∃v,m (Str.ofString x)=some v/\VR p v (loc x))->∀x,loc.upd q a x≠ .unset->kf (Str.ofString x)=K->∃u,(if Str.ofString x=Str.ofString q then some v else m (Str.ofString x))=some u/\VR p u (loc.upd q a x):=λhm x hx hl=>by
   by_cases z:x=q
   .subst z;exact ⟨v,if_pos rfl,by rw [oS];exact r⟩
   .rw [gM z] at hx ⊢
    exact (if_neg ((λh e=>h (cC e)) z))▸hm x hx hl
  have keep:∀{K:Option NameKind} {m:Str->Option Value},kf (Str.ofString q)≠K->(∀x,loc x≠ .unset->kf (Str.ofString x)=K->∃v,m (Str.ofString x)=some v/\VR p v (loc x))->∀x,loc.upd q a x≠ .unset->kf (Str.ofString x)=K->∃u,m (Str.ofString x)=some u/\VR p u (loc.upd q a x):=λnk hm x hx hl=>by
   rw [gM (show x≠q from λz=>nk (z▸hl))] at hx ⊢
   exact hm x hx hl
  rw [aa4,List.zip_cons_cons]
  unfold bindL bindC
  by_cases e:kf (Str.ofString q)=some .local
  .rw [if_pos e,if_pos e]
   exact ih rs hu (λq hq=>hk q (List.mem_cons_of_mem _ hq)) (put h1) (keep (e▸λh=>absurd h (by decide)) h2)
  .rw [if_neg e,if_neg e]
   exact ih rs hu (λq hq=>hk q (List.mem_cons_of_mem _ hq)) (keep e h1) (put h2)
structure Ir (K:Frag) (key:String) (ps:List String) (a:Addr) (fd:FuncData) (body:List Stmt):Prop where
 at_:∃o,K.lookup a=some o/\o.data= .func fd
 JM:fd.body= .stmts body
 gl:fd.globals=mainGlobals
 uh:fd.closure=[]
 bi:fd.builtins=builtinsNs
 kind:fd.scope.kind= .function
 gen:fd.scope.isGenerator=false
 co:fd.scope.isCoroutine=false
 code:codeIn K fd.code fd.qualname=true
 p1:fd.params.posonlyargs=[]
 p2:fd.params.args.map (·.arg)=ps.map Str.ofString
 p3:fd.params.vararg=none
 p4:fd.params.kwonlyargs=[]
 p5:fd.params.kwarg=none
 nd:(ps.map Str.ofString).Nodup
 pk:∀p∈ps,z4 (fd.scope.names.lookup (Str.ofString p))=true
 nf:∀x∈fd.scope.names,x.2≠ .free
 LJ:n8 K key fd.defaults=true
theorem bl {a b:Bool} (h:(a&&b)=true):a=true:=(ba h).1
theorem br {a b:Bool} (h:(a&&b)=true):b=true:=(ba h).2
theorem mF {x:FuncBody} {b:List Stmt} (h:x6 x=some b):x= .stmts b:=by
 cases x with
 | stmts l=>exact congrArg _ (aay h)
 | _=>exact (nn h).elim
theorem wO {x:Data} {b:FuncData} (h:VS x=some b):x= .func b:=by
 cases x with
 | func l=>exact congrArg _ (aay h)
 | _=>exact (nn h).elim
theorem zM {K:Frag} {key:String} {ps:List String} {a:Addr} {fd:FuncData} {body:List Stmt} (hq:tx K key=some (fd,body)) (h:CG K key ps fd=true) (ha:fa K key=some a):Ir K key ps a fd body:=by
 refine aw (bb hq) λa' QM ZI=>?_
 obtain rfl:=aay (ha.symm.trans QM)
 refine aw (bb ZI) λUS hf Z1=>?_
 refine aw (bm Z1) λb hb e=>?_
 cases e
 refine aw (bb hf) λo ho hd=>?_
 unfold CG at h
 exact ⟨⟨o,ho,wO hd⟩,mF hb,beq_iff_eq.mp (bl (bl (bl (bl (bl (bl (bl (bl (bl (bl (bl (bl (bl (bl (bl h))))))))))))))),List.isEmpty_iff.mp (br (bl (bl (bl (bl (bl (bl (bl (bl (bl (bl (bl (bl (bl (bl h))))))))))))))),beq_iff_eq.mp (br (bl (bl (bl (bl (bl (bl (bl (bl (bl (bl (bl (bl (bl h)))))))))))))),beq_iff_eq.mp (br (bl (bl (bl (bl (bl (bl (bl (bl (bl (bl (bl (bl h))))))))))))),Bool.not_eq_true' _▸(br (bl (bl (bl (bl (bl (bl (bl (bl (bl (bl (bl h)))))))))))),Bool.not_eq_true' _▸(br (bl (bl (bl (bl (bl (bl (bl (bl (bl (bl h))))))))))),br (bl (bl (bl (bl (bl (bl (bl (bl (bl h))))))))),List.isEmpty_iff.mp (br (bl (bl (bl (bl (bl (bl (bl (bl h))))))))),beq_iff_eq.mp (br (bl (bl (bl (bl (bl (bl (bl h)))))))),Option.isNone_iff_eq_none.mp (br (bl (bl (bl (bl (bl (bl h))))))),List.isEmpty_iff.mp (br (bl (bl (bl (bl (bl h)))))),Option.isNone_iff_eq_none.mp (br (bl (bl (bl (bl h))))),of_decide_eq_true (br (bl (bl (bl h)))),aaX.mp (br (bl (bl h))),λx hx=>bne_iff_ne.mp (aaX.mp (br (bl h)) x hx),br h⟩
theorem Ag (W:Wd M) {key:String} {ps:List String} {ir:SL} (hm:(key,ps,ir)∈eU) {a:Addr} (ha:fa M.K key=some a):∃fd body,Ir M.K key ps a fd body/\tx M.K key=some (fd,body):=
 (oa (aaX.mp W.ok.fns _ hm)).elim λq h=>(bI q.1 q.2 ⟨zM h.1 h.2 ha,h.1⟩)
theorem oF {o:Option NameKind} (h:z4 o=true):o=some .local\/o=some .cell:=by
 cases o with
 | none=>exact absurd h aaE
 | some k=>cases k<;>first | exact .inl rfl | exact .inr rfl | exact (aaE h).elim
theorem iH (W:Wd M) {key:String} {ps:List String} {a:Addr} {fd:FuncData} {body:List Stmt} (f:Ir M.K key ps a fd body) {vs vs':List Value} {as:List AV} (cx:GU (k+1) A) (R:Rep M p) (r:L2 (VR p) vs' as) (hu:eu ps as Loc.new=some loc) (hb:BindsTo p.s fd ⟨vs,[]⟩ ((ps.map Str.ofString).zip vs')) {Rr:Result->Shared->Prop}
  (h:∀env h1 tk,env.frame=some env.locals->p.h.objs.size<=env.locals->(∀y,fQ fd.scope env y->p.h.objs.size<=y)->dX p.h h1->ng M k (A.deeper env) (p.at h1 tk) fd.scope env loc->After M cY p (p.at h1 tk)->codeAny M.m A (.func body env) Rr (p.at h1 tk).s):
  codeAny M.m A (.call (.ref a) ⟨vs,[]⟩) Rr p.s:=by
 refine aw f.at_ λo ho hd=>?_
 have X:=W.X.keeps R.base
 have NL:∀x∈(ps.map Str.ofString).zip vs',fd.scope.names.lookup x.1=some .local\/(fd.scope.names.lookup x.1=some .cell/\((cellsFrom (p.h.objs.size+1) fd.scope.names []).lookup x.1).isSome=true):=λx hx=>by
  refine aw (aaG.mp (List.of_mem_zip (show (x.1,x.2)∈_ from hx)).1) λq hq e=>?_
  exact (e)▸(oF (f.pk q hq)).imp id λq=>⟨q,cellsFrom_some _ _ _ (.inl q)⟩
 refine codeAny_call_function (by have:=cx.depth;unfold recursionLimit;exact aaz (aaw (aaM _ _) this) (by decide)) (X _ _ ho) hd f.co f.gen f.JM (codeRec_of X f.code) (hb _ _ _ _ ?_)
 rw [f.uh]
 refine wpAny_newFunctionEnv_cells f.kind NL λenv he s1 x=>?_
 refine bG W.top λzz zz zz zz top=>?_
 refine ⟨(top.nolimit.keeps R.base).keeps x.toInCall.keep,?_⟩
 have eL:env.locals=p.h.objs.size:=by rw [he];rfl
 have eC:env.cells=cellsFrom (p.h.objs.size+1) fd.scope.names []:=by rw [he];rfl
 have eK:∀y,env.kindOf y=fd.scope.names.lookup y:=λy=>by rw [he];rfl
 have lt:=x.toInCall.ns.lt
 have gr:dX p.h s1.heap:=⟨x.toInCall.keep,by rw [eL] at lt;exact aaI lt⟩
 refine O2 x.toInCall.same λh1 tk e0=>?_;subst e0
 have a1:After M cY p (p.at h1 tk):= .grow R gr
 obtain ⟨b1,b2⟩:=x8 (p:=p.at h1 tk) (kf:=env.kindOf) ps (a1.oQ r) (m:=λzz=>none) (cm:=λzz=>none) hu (λq hq=>by rw [eK];exact oF (f.pk q hq)) (λy hy=>absurd rfl hy) (λy hy=>absurd rfl hy)
 have x7:∀{y},env.kindOf y≠some .free:=λe=>by
  rw [eK] at e
  exact f.nf _ (bu e) rfl
 have above:∀y c,env.cells.lookup y=some c->p.h.objs.size < c:=λy c hc=>by
  have:=x.above y c (bu hc)
  rwa [eL] at this
 have cellAt:∀y,env.kindOf y=some .cell->∃c,env.cells.lookup y=some c:=λy hl=>aa7.mp (by rw [eC];exact cellsFrom_some _ _ _ (.inl (by rw [<-eK];exact hl)))
 have eo:aI M (p.at h1 tk) fd.scope env loc:=by
  refine ⟨by rw [he];exact f.kind,by rw [he];exact f.gl,by rw [he];exact f.bi,λy e=>by rw [eK,e],λy e=>by rw [eK,e],λy e=>absurd (by rw [eK,e]) x7,λy e=>by rw [eK,e],⟨_,x.toInCall.ns,λy hy zz hl=>b1 y hy hl⟩,⟨by rw [eL];exact R.new (aaF _),by rw [eL];exact R.sz⟩,λy c hc=>?_,λy z c hy hz=>name_of_addr x.apart (bu hy) (bu hz),λy hy hl=>?_,λy hl=>cellAt y (hl.elim id λe=>absurd e x7)⟩
  .have q:=above y c hc
   exact ⟨⟨_,x.cell y c hc⟩,R.new (aaI q),aaw R.sz (aaI q)⟩
  .have hl:env.kindOf (Str.ofString y)=some .cell:=hl.elim id λe=>absurd e x7
   refine aw (b2 y hy hl) λv e rv=>?_
   obtain ⟨c,hc⟩:=cellAt _ hl
   have:=x.cell _ c hc
   rw [e] at this
   exact (bI c v ⟨hc,this,rv⟩)
 have ZB:Cx k (A.deeper env):=by
  refine ⟨cx.hd,cx.guards,?_,?_⟩
  .have:=cx.depth
   show A.depth+1+_<=_
   exact zF this (by simp+arith)
  .have:=cx.units
   exact zF this (by simp+arith)
 exact h env h1 tk (by rw [he];rfl) (aaS eL.symm) (λy hy=>hy.elim (λe=>e▸aaS eL.symm) λt0=>aw t0 λz zz e=>aaI (above z y e)) gr ⟨ZB,eo,a1.rep⟩ a1
theorem zG (W:Wd M) {key:String} {ps:List String} {ir:SL} {a:Addr} {fd:FuncData} {body:List Stmt} (f:Ir M.K key ps a fd body) (hs:dy 99 fd.scope body=some ir) {vs vs':List Value} {as:List AV} (cx:GU (k+1) A) (R:Rep M p) (r:L2 (VR p) vs' as) (hu:eu ps as Loc.new=some loc)
  (hb:BindsTo p.s fd ⟨vs,[]⟩ ((ps.map Str.ofString).zip vs')) (h:ir (Γc M k) loc p.H (eF Q)) (hT:z9 M p Q T):codeAny M.m A (.call (.ref a) ⟨vs,[]⟩) (FT T) p.s:=
 iH W f cx R r hu hb λenv h1 tk zz hL hB g z a1=>codeAny_func (tD (iU W 99 hs (p:=p.at h1 tk) z h _ λp2 f fl l q rf eo a2=>by
  have a3:After M cY p p2:=After.drop (a1.no.trans a2) λy hy=>.inr (hB y hy)
  cases fl with
  | next=>obtain rfl:=show f= .next from rf;exact hT p2 _ .none q rfl a3
  | brk=>exact q.elim
  | cont=>exact q.elim
  | ret av=>refine bU rf λv e0 rv=>?_;subst e0;exact hT p2 _ av q rv a3))
theorem Ey (W:Wd M) {key:String} {ps:List String} {ir:SL} (hm:(key,ps,ir)∈eU) {fd:FuncData} {body:List Stmt} (hk:tx M.K key=some (fd,body)):dy 99 fd.scope body=some ir:=by
 refine ug (List.mem_iff_getElem?.mp hm) λi hi=>?_
 have h:(_:List (Option SL))[i]? =(_:List (Option SL))[i]? :=congrArg (·[i]?) W.ok.JM
 rw [abc,abc,hi] at h
 have h:=aay h
 dsimp only at h
 rw [hk] at h
 exact h
theorem dC {v:Value} (h:Fb v=true):v= .none:=by cases v<;>first | rfl | exact (aaE h).elim
theorem DW (W:Wd M) {key:String} {ps:List String} {ir:SL} (hm:(key,ps,ir)∈eU) (uq:key≠"Lookup.__init__") {as:List AV} {H:HP} (hu:eu ps as Loc.new=some loc) (h:ir (Γc M k) loc H (eF Q)):pJ M key (k+1) as H Q:=λa ha A WM s vs cx R r T hT=>by
 refine cZ (Ag W hm ha) λfd body f hk=>?_
 have hd:=f.LJ
 unfold n8 at hd
 replace hd:=(beq_eq_false_iff_ne.mpr uq)▸hd
 exact zG W f (Ey W hm hk) cx R r hu (gH f.p1 f.p2 f.p3 f.p4 f.p5 (dC hd) (by rw [aaB,jz hu,r.len]) f.nd) h hT
theorem Bw (W:Wd M) {ir:SL} (hm:("Lookup.__init__",["self","table","trailer"],ir)∈eU) {v:AV} {H:HP} (h:ir (Γc M k) (((Loc.new.upd "self" v).upd "table" .none).upd "trailer" .none) H (eF Q)):pJ M "Lookup.__init__" (k+1) [v] H Q:=λa ha A WM s vs cx R r T hT=>by
 refine cZ (Ag W hm ha) λfd body f hk=>?_
 have hd:=f.LJ
 unfold n8 at hd
 rw [beq_self_eq_true] at hd
 refine aw (oa hd) λl hl hd=>?_
 have hd:=ba hd
 cases e:fd.defaults with
 | ref t=>
  replace hl:=(e)▸hl
  refine aw (bb hl) λo ho hl=>?_
  refine Js (lq hl) λitems n hs e0=>?_;subst e0
  refine cf r.aW λx l e1 rx hl=>?_;subst e1
  obtain rfl:=hl.df
  have hi:items.toList=[.none,.none]:=by
   have h2:=Nat.eq_of_beq_eq_true hd.2
   have h1:=aaX.mp hd.1
   revert h2 h1
   cases items.toList with
   | nil=>exact λh=>absurd h (by decide)
   | cons a r=>cases r with
    | nil=>exact λh=>nomatch h
    | cons b r=>cases r with
     | nil=>exact λzz h=>by rw [dC (h a (.head _)),dC (h b (.tail _ (.head _)))]
     | cons=>exact λh=>nomatch h
  exact zG W f (Ey W hm hk) (vs':=[x,.none,.none]) (as:=[v,.none,.none]) cx R (.cons rx (.cons rfl (.cons rfl .nil))) rfl (yX f.p1 f.p2 f.p3 f.p4 f.p5 e ((W.X.keeps R.base) _ _ ho) hs hi) h hT
 | _=>replace hl:=(e)▸hl;exact (nn hl).elim
theorem B2 (W:Wd M) {as:List AV} {H:HP} (h:pJ M "told" k as H Q):pJ M "told_objects" k as H Q:=λa ha=>h a ((W.ok.told.symm.trans ha:b9 M.K "told"=some a))
theorem zE (W:Wd M) {as:List AV} {H:HP}:pJ M "repr" k as H Q:=λa ha=>nomatch (vw W (b:="repr") (by decide)).symm.trans (cS (x:="repr") ha)
theorem X7 (W:Wd M):aQ (Γc M) where
 fn hm hk hu h:=⟨DW W hm hk hu h,λe=>absurd e ((by decide+kernel:∀x∈eU,x.1≠"repr") _ hm)⟩
 init h:=⟨Bw W (aaO (i:=10) rfl) h,λe=>absurd e (by decide)⟩
 told h:=⟨B2 W h.1,λe=>absurd e (by decide)⟩
 rA h:=⟨zE W,λzz=>.inl ⟨rfl,h⟩⟩
 rB h:=⟨zE W,λzz=>.inr ⟨rfl,h⟩⟩
end
end
section
open PySem PySem.W PySem.Spec PySem.Calls PyProof.Rows PySem.SeqAt PySem.Builtin PySem.Builtin.ObjectAttr
noncomputable def sO (P:Addr):List Value:=[.ref P,.type "Exception",.type "BaseException",.type "object"]
noncomputable abbrev Ec (c t:Value):Obj:={cls:=c,data:= .fields #[t,.none,.none,.none,.bool false,.none]}
section
variable {Mm:Mo} {M:Model} {A:Around} {E:Value->Shared->Prop} {R:Result->Shared->Prop} {h:Heap} {g:Array GenState} {d:Drawn} {t:Nat} {os:OsState}
structure Rb where
 (nm q:Str) (N P:Addr) (bs:List Value) (sn:List Str) (sub:List Value) (ab:Bool) (col:Option Bool) (dd:Option Addr) (k0 k1 k2 k3 k5:Option Value)
noncomputable abbrev GH (x:Rb) (C:Addr):Obj:=excClassObj x.nm x.q C x.N x.bs (sO x.P) true x.sn x.sub x.ab x.col x.dd x.k0 x.k1 x.k2 x.k3 x.k5 "Exception.__new__"
variable {dT:Rb} {C P:Addr}
theorem Fg:(Value.ref C::sO P).contains (.type "Exception")=true:=by simp [sO]
theorem Ni:(Value.ref C::sO P).contains (.type "BaseException")=true:=by simp [sO]
theorem On:(Value.ref C::sO P).contains (.type "object")=true:=by simp [sO]
theorem QU:(Value.ref C::sO P).contains (.ref C)=true:=by simp
theorem SX:(Value.ref C::sO P).contains (.type "AttributeError")=false:=by simp [sO]
theorem U0:(Value.ref C::sO P).contains (.type "NameError")=false:=by simp [sO]
theorem tM {rest:List Value} {Q:Unit->Shared->Prop} (hC:h.get? C=some (GH dT C)) (hq:Q () ⟨h,g,d,t,os⟩):
  wpAny M A (checkBuiltinCall "Exception.__new__" ⟨.ref C::rest,[]⟩) Q E ⟨h,g,d,t,os⟩:=by
 have F:=PySem.F.excBase_Exception
 have WZ:=F.noStar
 delta checkBuiltinCall
 rw [F.newKind,F.newSplit,F.newRow]
 repeat (first | refine wpAny_loadPart_at hC ?_ | (refine wpAny_isSubtype_exc hC ?_;rw [(Fg (C:=C) (P:=dT.P))]) | refine wpAny_staticBase_exc hC ?_ | refine wpAny_madeBy_exc hC ?_ | refine wpAny_ite_false (by decide) ?_ | wp_step)
 exact hq
theorem Mc {rest:List Value} (hC:h.get? C=some (GH dT C)) (hz:rest.length<=sizeLine)
  (hq:R (.ok (.ret (.ref (h.objs.size+1)))) ⟨(h.push {cls:= .type "tuple",data:= .seq rest.toArray}).push (Ec (.ref C) (.ref h.objs.size)),g,d,t,os⟩):
  codeAny Mm.m A (.builtin "Exception.__new__" ⟨.ref C::rest,[]⟩) R ⟨h,g,d,t,os⟩:=by
 have F:=PySem.F.excBase_Exception
 have WY:=F.ends
 refine codeAny_builtinAt F.entry ?_
 refine PySem.wpAt_bind ?_
 refine PySem.wpAt_bind (PySem.wpAt_stack λp below=>PySem.wpAt_of_wpAny ?_)
 wp_walk
 refine PySem.wpAt_of_wpAny ?_
 rw [F.owner]
 repeat (first | with_reducible refine wpAny_madeHere_exc F.canon hC ?_ | with_reducible refine wpAny_loadPart_at hC ?_ | (with_reducible refine wpAny_isSubtype_exc hC ?_;first | rw [(Fg (C:=C) (P:=dT.P))] | rw [(SX (C:=C) (P:=dT.P))] | rw [(U0 (C:=C) (P:=dT.P))]) | wp_step)
 show R _ _
 rw [Heap.size_push]
 exact hq
theorem tW {rest:List Value} {fI:Addr} {K:Frag} {Q:Fin->Shared->Prop} (hC:h.get? C=some (GH dT C)) (X:K.In h)
  (hi:findIn K (.ref C) "__init__"=some (some (.ref fI))) (hf:typeIn K (.ref fI)=some (.type "function")) (hz:rest.length<=sizeLine)
  (hq:wpAny Mm.m A (call (.ref fI) (.ref (h.objs.size+1)::rest)) (λr s'=>r= .none/\Q (.done (.ret (.ref (h.objs.size+1)))) s') E
   ⟨(h.push {cls:= .type "tuple",data:= .seq rest.toArray}).push (Ec (.ref C) (.ref h.objs.size)),g,d,t,os⟩):
  wpAny Mm.m A (Builtin.«type.__call__» ⟨.ref C::rest,[]⟩) Q E ⟨h,g,d,t,os⟩:=by
 repeat (first | with_reducible refine wpAny_loadPart_at hC ?_ | with_reducible refine wpAny_madeBy_exc hC ?_ | wp_step)
 refine codeAny_call_builtin_code (Code.quiet_builtin _ PySem.F.excBase_Exception.quiet) (tM hC ?_)
 refine Mc hC hz ?_
 have k:∀b o,h.get? b=some o->((h.push {cls:= .type "tuple",data:= .seq rest.toArray}).push (Ec (.ref C) (.ref h.objs.size))).get? b=some o:=λb o e=>Heap.get?_push_of_some _ (Heap.get?_push_of_some _ e)
 have X₁:=X.keeps k
 have L1:((h.push {cls:= .type "tuple",data:= .seq rest.toArray}).push (Ec (.ref C) (.ref h.objs.size))).get? (h.objs.size+1)=some (Ec (.ref C) (.ref h.objs.size)):=by heap_get
 repeat (first | (with_reducible refine wpAny_loadPart_at L1 ?_;dsimp only [Ec]) | (with_reducible refine wpAny_isSubtype_exc (k _ _ hC) ?_;rw [(QU (C:=C) (P:=dT.P))]) | wp_step)
 show wpAny _ _ (typeLookup (.ref C) _) _ _ _
 refine (looks_findIn X₁ hi).here ?_
 refine wpAny_holding (wpAny_bind ((bind_fn X₁ _ hf).here ?_))
 refine wpAny_bind (wpAny_mono hq (λr s' hr=>?_) λzz zz x=>x)
 obtain ⟨rfl,hQ⟩:=hr
 wp_walk
 exact hQ
theorem Hl {rest:List Value} {fI:Addr} {K:Frag} {Q:Value->Shared->Prop} (hC:h.get? C=some (GH dT C)) (X:K.In h)
  (hi:findIn K (.ref C) "__init__"=some (some (.ref fI))) (hf:typeIn K (.ref fI)=some (.type "function")) (hz:rest.length<=sizeLine)
  (hq:wpAny Mm.m (A.under (.builtin "type.__call__" ⟨.ref C::rest,[]⟩)) (call (.ref fI) (.ref (h.objs.size+1)::rest)) (λr s'=>r= .none/\Q (.ref (h.objs.size+1)) s') E
   ⟨(h.push {cls:= .type "tuple",data:= .seq rest.toArray}).push (Ec (.ref C) (.ref h.objs.size)),g,d,t,os⟩):
  wpAny Mm.m A (call (.ref C) rest) Q E ⟨h,g,d,t,os⟩:=by
 have f1:=tc_lookup
 have f2:=tc_bind (.ref C)
 have hT:(⟨h,g,d,t,os⟩:Shared).TypeIs (.ref C) "type":=⟨_,hC,rfl⟩
 refine wpAny_call (codeAny_of_tree ?_)
 show wpAny _ _ (callAny (.ref C) _) _ _ _
 repeat (any_goals (first | assumption | with_reducible refine wpAny_loadPart_at hC ?_ | wp_step))
 refine ⟨rfl,?_⟩
 refine codeAny_call_builtin_at (Code.quiet_builtin _ (by decide+kernel)) entry_typeCall (wpAny_check_type_call_sub hC (tW hC X hi hf hz ?_))
 exact hq
end
structure yx (S:Addr->Prop) (h:Heap) (e C:Addr) (ns:List Str):Prop where
 lo:¬S e
 at_:∃o t',h.get? e=some o/\o.cls= .ref C/\o.data= .fields #[.ref t',.none,.none,.none,.bool false,.none]/\
  (o.dict=none\/∃d mA,o.dict=some d/\d≠e/\¬S d/\h.Ns1 d mA/\Within mA ns)
noncomputable def ce (S:Addr->Prop) (h h':Heap):Prop:=(∀b o,S b->h.get? b=some o->h'.get? b=some o)/\h.objs.size<=h'.objs.size
theorem ce.refl {S:Addr->Prop} {h:Heap}:ce S h h:=⟨λzz zz zz e=>e,aaF _⟩
theorem ce.trans {S:Addr->Prop} {h h' Nf:Heap} (a:ce S h h') (b:ce S h' Nf):ce S h Nf:=⟨λx o l e=>b.1 x o l (a.1 x o l e),aaw a.2 b.2⟩
theorem ce.grow {S:Addr->Prop} {h h':Heap} (g:dX h h'):ce S h h':=⟨λx o zz e=>g.1 x o e,g.2⟩
theorem iF {a:Addr} {h h':Heap} (hs:Heap.SameBut a h h'):h.objs.size<=h'.objs.size:=aaS hs.1.symm
section
variable {Mm:Mo} {K:Frag} {A:Around} {s:Shared} {S:Addr->Prop} {e C P:Addr} {ns:List Str} {name:Str} {v:Value}
theorem B7 (self:Value):refuseLoop self "__setattr__" (.ref C::sO P)=pure ():=by
 unfold sO
 rw [refuseLoop_ref,refuseLoop_ref]
 exact PySem.F.store_Exception.passes self
theorem Gf {cd:ClassData} (X:K.In s.heap) (hc:clsIn K C=some cd) (hm:cd.mro= .ref C::sO P) (hd:cd.hasDict=true)
  (hs:findIn K (.ref C) "__setattr__"=some (some (.builtin "object.__setattr__"))) (hf:findIn K (.ref C) name=some none) (I:yx S s.heap e C ns) (hS:∀b,S b->b < s.heap.objs.size) (hl:ns.length<=8)
  {T:Unit->Shared->Prop} (hT:∀h' tk,yx S h' e C (name::ns)->ce S s.heap h'->T () {s with heap:=h',toks:=tk}):wpAny Mm.m A (setAttr (.ref e) name v) T bK s:=by
 obtain ⟨lo,o,t',ho,nu,vJ,Hj⟩:=I
 obtain ⟨hh,g,d,tk,os⟩:=s
 dsimp only at X ho Hj hS
 have ty:Looks Mm.m hh (typeOf (.ref e)) (.ref C):=nu▸(Looks.ld ho).andThen .now
 have cl:=looks_clsIn (M:=Mm.m) X hc
 refine wpAny_bind (wpAny_mkText (wpAny_bind (wpAny_bind (wpAny_bind (ty _ _ _ _ (λzz zz e=>e) (looks_findIn X hs _ _ _ _ (λzz zz e=>e) (wpAny_holding ?_)))))))
 rw [PySem.F.store_object.slot.bind]
 refine wpAny_bind (wpAny_pure (wpAny_bind (wpAny_call ?_)))
 have SF:=PySem.F.store_object
 have sub:Looks Mm.m hh (isInstance (.ref e) (.type "object")) true:=ty.andThen (by
  exact looks_mroIn X (by unfold mroIn;rw [hc,Option.bind_some,hm,if_neg (by simp),On]))
 refine codeAny_call_builtin SF.slot.plain SF.entry (@check_slot Mm.m _ _ ⟨hh,g,d,tk+1,os⟩ "object.__setattr__" "object" "__setattr__" (.ref e) [.str name tk,v] [] _ SF.kind SF.split sub (SF.args (.ref e) (.str name tk) v) ?_)
 show wpAny _ _ (Builtin.«object.__setattr__» ⟨[.ref e,.str name tk,v],[]⟩) _ _ _
 refine bf (osa_eq ..) ?_;rw [refuse_eq]
 refine wpAny_bind (wpAny_bind (ty.here (wpAny_bind ((show Looks Mm.m hh (mroOf (.ref C)) (.ref C::sO P) from by exact (hm)▸cl.andThen .now).here ?_))))
 refine bf (B7 ..) ?_
 refine wpAny_pure (wpAny_bind (ty.here (wpAny_bind ((looks_findIn X hf).here (wpAny_bind (wpAny_pure ?_))))))
 refine wpAny_bind (wpAny_pure (wpAny_bind (wpAny_bind (wpAny_loadPart (s:=⟨hh,g,d,tk+1,os⟩) ho ?_))))
 obtain ⟨oc,od,Xl,Ny⟩:=o
 dsimp only at nu vJ Hj
 subst nu vJ
 refine wpAny_bind (cl.here ?_)
 rw [hd]
 rcases Hj with q | ⟨dx,mA,q,ne,ld,NR,hw⟩
 .subst q
  refine mC (by decide) ?_;refine mC (by simp [typeHasDict]) ?_
  dsimp only
  have Wz:(hh.push emptyDict).get? e=some ⟨.ref C,none,.fields #[.ref t',.none,.none,.none,.bool false,.none],Ny⟩:=Heap.get?_push_of_some _ ho
  have le:=Heap.lt_size ho
  have Tf:e≠hh.objs.size:=aaJ le
  refine wpAny_bind (wpAny_alloc' (wpAny_bind (wpAny_update' Wz (wpAny_pure ?_))))
  have OA:Heap.SameBut e (hh.push emptyDict) ((hh.push emptyDict).update e λo=>{cls:=o.cls,dict:=some hh.objs.size,data:=o.data,slots:=o.slots}):=Heap.SameBut.update ..
  have X3:((hh.push emptyDict).update e λo=>{cls:=o.cls,dict:=some hh.objs.size,data:=o.data,slots:=o.slots}).get? hh.objs.size=some emptyDict:=(OA.2 _ Tf.symm).trans (Heap.get?_push_at rfl rfl)
  have j3:((hh.push emptyDict).update e λo=>{cls:=o.cls,dict:=some hh.objs.size,data:=o.data,slots:=o.slots}).get? e=some ⟨.ref C,some hh.objs.size,.fields #[.ref t',.none,.none,.none,.bool false,.none],Ny⟩:=Heap.get?_update_self _ Wz rfl
  have AN:Heap.Ns ((hh.push emptyDict).update e λo=>{cls:=o.cls,dict:=some hh.objs.size,data:=o.data,slots:=o.slots}) hh.objs.size (λzz=>none):=(c9 _ (#[]) _ ⟨X3,rfl,λe he=>absurd he (by simp),λzz=>rfl⟩)
  have sz:hh.objs.size<=((hh.push emptyDict).update e λo=>{cls:=o.cls,dict:=some hh.objs.size,data:=o.data,slots:=o.slots}).objs.size:=by
   have:=iF OA;rw [Heap.size_push] at this;exact Nat.le_of_succ_le this
  delta storeInDict newKeyGuard
  refine wpAny_bind (wpAny_pure (wpAny_bind (wpAny_nsSet1 (Heap.Ns1.of_empty AN) λh' Gw hs=>?_)))
  refine iS (Gw.count (Within.cons name v Within.nil)) λoD Zl YM SA TE ST=>?_
  refine wpAny_bind (wpAny_lookBehind SA (by rw [TE];exact pastItsLine_dict (aaw ST (by rw [aa2,List.length_nil,sizeLine_eq];exact by decide))) (wpAny_pure (wpAny_pure (wpAny_pure (hT _ _ ⟨lo,_,t',(hs.2 e Tf).trans j3,rfl,rfl,.inr (bI _ _ ⟨rfl,Tf.symm,λq=>Nat.lt_irrefl _ (hS _ q),Gw,λy hy=>aaH.mpr (.inl (aaK.mp (Within.cons name v Within.nil y hy)))⟩)⟩ ⟨λb ob lb hb=>?_,?_⟩)))))
  .exact (hs.2 b (aaJ (Heap.lt_size hb))).trans ((OA.2 b λq=>lo (q▸lb)).trans (Heap.get?_push_of_some _ hb))
  .exact aaw sz (iF hs)
 .subst q
  refine wpAny_pure ?_
  delta storeInDict newKeyGuard
  refine wpAny_bind (wpAny_pure (wpAny_bind (wpAny_nsSet1 NR λh' Gw hs=>?_)))
  refine iS (Gw.count (Within.cons name v hw)) λoD Zl YM SA TE ST=>?_
  refine wpAny_bind (wpAny_lookBehind SA (by rw [TE];exact pastItsLine_dict (aaw ST (by rw [aa2,sizeLine_eq];exact aaw (aa1 hl) (by decide)))) (wpAny_pure (wpAny_pure (wpAny_pure (hT _ _ ⟨lo,_,t',(hs.2 e ne.symm).trans ho,rfl,rfl,.inr (bI _ _ ⟨rfl,ne,ld,Gw,Within.cons name v hw⟩)⟩ ⟨λb ob lb hb=>?_,iF hs⟩)))))
  exact (hs.2 b λq=>ld (q▸lb)).trans hb
end
section
variable {Mm:Mo} {M:Model} {K:Frag} {A:Around} {E:Value->Shared->Prop} {s:Shared} {S:Addr->Prop} {e C:Addr} {ns:List Str} {name:Str} {v:Value}
variable {h:Heap} {g:Array GenState} {d:Drawn} {t:Nat} {os:OsState}
variable {dT:Rb}
theorem qn {oe:Obj} {rest:List Value} {Q:Unit->Shared->Prop} (hC:h.get? C=some (GH dT C)) (he:h.get? e=some oe) (Se:oe.cls= .ref C) (hq:Q () ⟨h,g,d,t,os⟩):
  wpAny M A (checkBuiltinCall "Exception.__init__" ⟨.ref e::rest,[]⟩) Q E ⟨h,g,d,t,os⟩:=by
 have F:=PySem.F.excBase_Exception
 have Ui:=F.noStar
 delta checkBuiltinCall
 rw [F.initKind,F.initSplit,F.initRow]
 repeat (first | (with_reducible refine wpAny_loadPart_at he ?_;rw [Se]) | with_reducible refine wpAny_loadPart_at hC ?_ | (with_reducible refine wpAny_isSubtype_exc hC ?_;rw [(Fg (C:=C) (P:=dT.P))]) | wp_step)
 refine wpAny_onRaise ?_
 rw [show ∀(a b:String) (n:Nat),Bind.check ⟨.positional,"*","Exception",.self,[⟨"args",.varPos,false⟩]⟩ a b n (List.map (λx=>x.fst) ({pos:=Value.ref e::rest}:Args).kw)=pure () from
  λa b n=>check_star_args _ _ _ _ _ _]
 exact wpAny_pure hq
theorem Eh {T:Shared->Prop} (hC:s.heap.get? C=some (GH dT C)) (I:yx S s.heap e C ns) (hT:∀h',yx S h' e C ns->ce S s.heap h'->T {s with heap:=h'}):
  wpAny Mm.m A (call (.builtin "Exception.__init__") [.ref e,v]) (λr s'=>r= .none/\T s') bK s:=by
 obtain ⟨lo,o,t',ho,nu,vJ,Hj⟩:=I
 obtain ⟨hh,g,d,tk,os⟩:=s
 dsimp only at hC ho Hj
 have F:=PySem.F.excBase_Exception
 obtain ⟨oc,od,Xl,Ny⟩:=o
 dsimp only at nu vJ Hj
 subst nu vJ
 refine wpAny_call (codeAny_call_builtin F.init.plain F.initEntry (qn hC ho rfl ?_))
 delta Builtin.«BaseException.__init__» Builtin.BaseException.bexcPut
 wp_walk
 have le:=Heap.lt_size ho
 have hx:(hh.push {cls:= .type "tuple",data:= .seq #[v]}).get? e=some ⟨.ref C,od,.fields #[.ref t',.none,.none,.none,.bool false,.none],Ny⟩:=Heap.get?_push_of_some _ ho
 have hs:Heap.SameBut e (hh.push {cls:= .type "tuple",data:= .seq #[v]}) ((hh.push {cls:= .type "tuple",data:= .seq #[v]}).update e (Obj.mapFields λx=>x.setIfInBounds 0 (Value.ref hh.objs.size))):=Heap.SameBut.update ..
 refine ⟨rfl,hT _ ⟨lo,_,hh.objs.size,(Heap.get?_update_self (Obj.mapFields λx=>x.setIfInBounds 0 (Value.ref hh.objs.size)) hx rfl),rfl,rfl,?_⟩ ⟨λb ob lb hb=>(hs.2 b λq=>lo (q▸lb)).trans (Heap.get?_push_of_some _ hb),?_⟩⟩
 .rcases Hj with z | ⟨dx,mA,z,ne,ld,NR,hw⟩
  .exact .inl z
  .exact .inr (bI dx mA ⟨z,ne,ld,Heap.Ns1.sameBut (NR.at λzz e=>Heap.get?_push_of_some _ e) hs ne,hw⟩)
 .have:=iF hs
  rw [Heap.size_push] at this
  exact aaw (aba _) this
theorem BX {T:String} {pl:Sem Bool} {Q:Value × List Value->Shared->Prop} (X:K.In s.heap) (ht:typeOf (.type T)=pure (.type "type")) (hs:Manifest.isStub T=false)
  (e:findCls K (.type T) (.type "type") name=some (.val v)) (hh:handedIn v=true) (h:Q (v,[]) {s with toks:=s.toks+1}):wpAny Mm.m A (getMethod (.type T) name pl) Q E s:=by
 have ND:opaqueClassAbove (.type T)=pure none:=by unfold opaqueClassAbove;dsimp only;rw [hs];rfl
 have L0:Looks Mm.m s.heap (typeOf (.type T)) (.type "type"):=Looks.of_pure ht
 have hg:findIn K (.type "type") "__getattribute__"=some (some (.builtin "type.__getattribute__")):=type_tga
 delta getMethod specialOf
 refine wpAny_bind (wpAny_bind (L0.here ((looks_findIn X hg).here ?_)))
 dsimp only
 refine DO canon_tga ?_
 refine wpAny_bind (wpAny_mono (Q:=λv=>Q (v,[])) (E:=E) ?_ (λzz zz z=>wpAny_pure z) λzz zz z=>z)
 exact cls_open X (Looks.of_pure ND) L0 hg (looks_hook X (r:=none) (by rfl)) (by show subIn K _ _=_;rfl) e
  (wpAny_pure (handed_on hh h))
end
end
section
open PySem PySem.W PySem.Spec PySem.Calls PyProof.Rows PySem.SeqAt PySem.Builtin
noncomputable def jO (ap p:Pos) (q:Nat->Pos):List Stmt:=
 [.Expr (.Call (.Attribute (.Name ("Exception":Str) (q 1)) ("__init__":Str) ap) [.Name ("self":Str) (q 2),.Name ("what":Str) (q 3)] [] p) (q 4),.Assign [.Attribute (.Name ("self":Str) (q 5)) ("what":Str) (q 6)] (.Name ("what":Str) (q 7)) (q 8),
  .Assign [.Attribute (.Name ("self":Str) (q 9)) ("at":Str) (q 10)] (.Name ("at":Str) (q 11)) (q 12)]
structure Ug (K:Frag) (fd:FuncData):Prop where
 gl:fd.globals=mainGlobals
 uh:fd.closure=[]
 bi:fd.builtins=builtinsNs
 JM:∃ap p q,fd.body= .stmts (jO ap p q)/\ap.endLine=p.line
 kind:fd.scope.kind= .function
 gen:fd.scope.isGenerator=false
 co:fd.scope.isCoroutine=false
 code:codeIn K fd.code fd.qualname=true
 p1:fd.params.posonlyargs=[]
 p2:fd.params.args.map (·.arg)=[("self":Str),"what","at"]
 p3:fd.params.vararg=none
 p4:fd.params.kwonlyargs=[]
 p5:fd.params.kwarg=none
 LJ:∃t o vs n v,fd.defaults= .ref t/\K.lookup t=some o/\o.data= .seq vs n/\vs.toList=[v]
 n1:fd.scope.names.lookup ("self":Str)=some .local
 n2:fd.scope.names.lookup ("what":Str)=some .local
 n3:fd.scope.names.lookup ("at":Str)=some .local
 n4:fd.scope.names.lookup ("Exception":Str)=some .globalImplicit
structure TF (K:Frag) (C:Addr):Prop where
 hC:b9 K "TreeFault"=some C
 obj:∃dT,K.lookup C=some (GH dT C)
 set:findIn K (.ref C) "__setattr__"=some (some (.builtin "object.__setattr__"))
 T6:findIn K (.ref C) "what"=some none
 at_:findIn K (.ref C) "at"=some none
 keep:keepIn K (.ref C)=true
 MG:findCls K (.type "Exception") (.type "type") "__init__"=some (.val (.builtin "Exception.__init__"))
 exc:nsIn K mainGlobals ("Exception":Str)=some none
 init:∃f fd o,findIn K (.ref C) "__init__"=some (some (.ref f))/\typeIn K (.ref f)=some (.type "function")/\K.lookup f=some o/\o.data= .func fd/\Ug K fd
theorem BH {s:Shared} {fd:FuncData} {v u d:Value} {T:Addr} {o:Obj} {items:Array Value} {n:Nat} (h1:fd.params.posonlyargs=[]) (h2:fd.params.args.map (·.arg)=[("self":Str),"what","at"]) (h3:fd.params.vararg=none) (h4:fd.params.kwonlyargs=[]) (h5:fd.params.kwarg=none)
  (hd:fd.defaults= .ref T) (ho:s.heap.get? T=some o) (hs:o.data= .seq items n) (hi:items.toList=[d]):BindsTo s fd ⟨[v,u],[]⟩ [("self",v),("what",u),("at",d)]:=by
 obtain ⟨_,_,⟨_,as,_,_,_⟩,_,_,_,_,_,_⟩:=fd
 dsimp only at h1 h2 h3 h4 h5 hd
 obtain ⟨items⟩:=items
 obtain rfl:=show items=_ from hi
 obtain ⟨⟨x,_⟩,⟨y,_⟩,⟨z,_⟩,rfl,e1,e2,e3⟩:=QT h2
 dsimp only at e1 e2 e3
 subst h1 h3 h4 h5 hd e1 e2 e3
 intro M A E Q hq
 refine wpAny_bind (oM rfl ?_)
 refine wpAny_bind (wpAny_seqItems ho hs ?_)
 exact bf (t':=(pure [(("self":Str),v),(("what":Str),u),(("at":Str),d)]:Sem (List (Str × Value)))) (by kernel_rfl) (wpAny_pure hq)
theorem KO:typeOf (.type "Exception")=pure (.type "type"):=by first | rfl | kernel_rfl
theorem Du:Manifest.isStub "Exception"=false:=by decide+kernel
theorem v9:handedIn (.builtin "Exception.__init__")=true:=by decide+kernel
section
variable {M:Mo} {A:Around} {s:Shared} {S:Addr->Prop} {e C f:Addr} {fd:FuncData} {o:Obj}
structure Nd (env:Env) (h:Heap) (m:Str->Option Value):Prop where
 fn:env.scope.kind= .function
 gl:env.globals=mainGlobals
 bi:env.builtins=builtinsNs
 ns:h.Ns env.locals m
 ks:env.kindOf ("self":Str)=some .local
 kw:env.kindOf ("what":Str)=some .local
 ka:env.kindOf ("at":Str)=some .local
 ke:env.kindOf ("Exception":Str)=some .globalImplicit
theorem Bq (W:Wd M) (tf:TF M.K C) {env:Env} {m:Str->Option Value} {msg dv:Value} (gh:∀x o,M.h0.get? x=some o->s.heap.get? x=some o) (E:Nd env s.heap m) (hL:S env.locals) (UZ:∀b o,M.h0.get? b=some o->S b) (hS:∀b,S b->b < s.heap.objs.size)
  (m1:m ("self":Str)=some (.ref e)) (m2:m ("what":Str)=some msg) (m3:m ("at":Str)=some dv) (I:yx S s.heap e C [])
  {ap p:Pos} {q:Nat->Pos} (Gq:ap.endLine=p.line) {T:Flow->Shared->Prop}
  (hT:∀h' tk,yx S h' e C [("at":Str),"what"]->ce S s.heap h'->T .next {s with heap:=h',toks:=tk}):
  wpAny M.m A (execs (jO ap p q) env) T bK s:=by
 have X:=W.X.keeps gh
 refine bG W.top λzz zz zz zz T0=>?_
 refine ug tf.obj λdT tw=>?_
 have hi:interactive env=false:=by unfold interactive;rw [E.fn];rfl
 unfold jO
 refine bf (arm_execs_cons ..) ?_;rw [exec_Expr env _ _ hi (c5 rfl)]
 refine wpAny_bind (wpAny_bind (wpAny_standAt ?_))
 rw [oo,gE rfl]
 refine wpAny_bind (wpAny_bind (Name_function_global E.fn E.ke (loadGlobal_builtin (by rw [E.gl];exact T0.g.keeps gh) (mg_none_of W.X T0.g tf.exc) (by rw [E.bi];exact T0.b.keeps gh) ((T0.builtins _ (by decide+kernel)).trans PyProof.Rows.Boot.«Exception») (wpAny_bind (wpAny_standAt ?_))) (by decide+kernel)))
 have pl:∀e∈[Expr.Name ("self":Str) (q 2),.Name ("what":Str) (q 3)],be e=true:=λa ha=>(aaH.mp ha).elim (λe=>e▸rfl) λha=>aaK.mp ha▸rfl
 refine (congrArg (λz=>wpAny M.m A z _ _ _) (fK pl (Nat.le_of_ble_eq_true rfl) Gq)).mpr ?_
 refine wpAny_bind ?_
 refine wpAny_holding ?_
 refine BX (T:="Exception") X KO Du tf.MG v9 ?_
 have ZH:backTo p (starEach [.Name ("self":Str) (q 2),.Name ("what":Str) (q 3)] env)=[(false,eval (.Name ("self":Str) (q 2)) env),(false,eval (.Name ("what":Str) (q 3)) env)]:=by
  rw [aT rfl,aT rfl];rfl
 rw [ZH]
 refine callWith_builtin rfl ?_
 refine Calls.evalArgs_plain ?_
 refine Calls.spliced_cons ?_
 have E2:∀{h:Heap} {t:Nat} {x:Str} {p:Pos} {v:Value} {T:Value->Shared->Prop},h.Ns env.locals m->env.kindOf x=some .local->m x=some v->(x==("__debug__":Str))=false->T v {s with heap:=h,toks:=t}->wpAny M.m A (eval (.Name x p) env) T bK {s with heap:=h,toks:=t}:=
  λNR hk hm hd h=>wpAny_Name (wpAny_loadName_local E.fn hk NR hm h) hd
 have d1:(("self":Str)==("__debug__":Str))=false:=by decide+kernel
 have d2:(("what":Str)==("__debug__":Str))=false:=by decide+kernel
 have d3:(("at":Str)==("__debug__":Str))=false:=by decide+kernel
 refine E2 E.ns E.ks m1 d1 ?_
 refine Calls.spliced_cons ?_
 refine E2 E.ns E.kw m2 d2 ?_
 refine Calls.spliced_nil ?_
 refine wpAny_mono (Eh (s:={s with toks:=s.toks+1}) (X _ _ tw) I (T:=λs'=>∃h',s'={s with heap:=h',toks:=s.toks+1}/\yx S h' e C []/\ce S s.heap h') λh' i k=>⟨h',rfl,i,k⟩) (λr s1 z=>?_) λzz zz z=>z
 refine Kk z λe0 h1 e1 I1 K1=>?_;subst e0;subst e1
 refine wpAny_pure ?_
 have Rt:∀{h'},ce S s.heap h'->h'.Ns env.locals m:=λk=>yR E.ns λo q=>k.1 _ _ hL q
 have XK:∀{h'},ce S s.heap h'->M.K.In h':=λk=>W.X.keeps λx o e=>k.1 _ _ (UZ x o e) (gh x o e)
 obtain ⟨cd,nu,QK,VJ⟩:∃cd,clsIn M.K C=some cd/\cd.mro= .ref C::sO dT.P/\cd.hasDict=true:=⟨{name:=dT.nm,bases:=dT.bs,mro:= .ref C::sO dT.P,ns:=dT.N,qualname:=dT.q,hasDict:=true,slotNames:=dT.sn,subclasses:=dT.sub,abstract:=dT.ab,collection:=dT.col,hasDel:=false},by unfold clsIn;rw [tw],rfl,rfl⟩
 show wpAny _ _ (execs _ env) _ _ _
 refine bf (arm_execs_cons ..) ?_
 refine wpAny_bind ?_
 refine plainObj_wpAny_Assign_Attribute ?_ (c5 rfl)
 refine E2 (Rt K1) E.kw m2 d2 ?_
 refine E2 (Rt K1) E.ks m1 d1 ?_
 refine Gf (s:={s with heap:=h1,toks:=s.toks+1}) (XK K1) nu QK VJ tf.set tf.T6 I1 (λb hb=>aax (hS b hb) K1.2) (by decide) λh2 YH I2 K2=>?_
 have OQ:=K1.trans K2
 show wpAny _ _ (execs _ env) _ _ _
 refine bf (arm_execs_cons ..) ?_
 refine wpAny_bind ?_
 refine plainObj_wpAny_Assign_Attribute ?_ (c5 rfl)
 refine E2 (Rt OQ) E.ka m3 d3 ?_
 refine E2 (Rt OQ) E.ks m1 d1 ?_
 refine Gf (s:={s with heap:=h2,toks:=YH}) (XK OQ) nu QK VJ tf.set tf.at_ I2 (λb hb=>aax (hS b hb) OQ.2) (by decide) λh3 Jo I3 K3=>?_
 exact wpAny_pure (hT h3 Jo I3 (OQ.trans K3))
end
section
variable {M:Mo} {A:Around} {s:Shared} {S:Addr->Prop} {e C f:Addr} {fd:FuncData} {o:Obj}
theorem yx.mono {S S':Addr->Prop} {h h':Heap} {ns:List Str} (I:yx S h e C ns) (he:¬S' e) (hd:∀d,¬S d->(∃o,h.get? d=some o)->¬S' d) (k:∀x o,h.get? x=some o->h'.get? x=some o):yx S' h' e C ns:=by
 obtain ⟨lo,o,t',ho,hc,vJ,Hj⟩:=I
 refine ⟨he,o,t',k _ _ ho,hc,vJ,Hj.imp id λt0=>EY t0 λd mA z ne ld hn hw=>(bI d mA ⟨z,ne,hd d ld ?_,hn.keeps k,hw⟩)⟩
 refine sg hn λod zz zz Xr zz=>?_
 exact ⟨od,Xr⟩
theorem DD (W:Wd M) (tf:TF M.K C) {msg:Value} (EX:A.depth < recursionLimit) (hf:M.K.lookup f=some o) (hd:o.data= .func fd) (fo:Ug M.K fd)
  (gh:∀x o,M.h0.get? x=some o->s.heap.get? x=some o) (UZ:∀b o,M.h0.get? b=some o->S b) (hS:∀b,S b->b < s.heap.objs.size) (he:e < s.heap.objs.size) (I:yx S s.heap e C [])
  {T:Shared->Prop} (hT:∀h' tk,yx S h' e C [("at":Str),"what"]->ce S s.heap h'->T {s with heap:=h',toks:=tk}):
  wpAny M.m A (call (.ref f) [.ref e,msg]) (λr s'=>r= .none/\T s') bK s:=by
 obtain ⟨ap,p,q,hb,hl⟩:=fo.JM
 refine yT fo.LJ λt ot vs nn dv ZK ht Ve TZ=>?_
 have X:=W.X.keeps gh
 refine bG W.top λzz zz zz zz top=>?_
 refine wpAny_call (codeAny_call_function EX (X _ _ hf) hd fo.co fo.gen hb (codeRec_of X fo.code) ?_)
 refine BH fo.p1 fo.p2 fo.p3 fo.p4 fo.p5 ZK (X _ _ ht) Ve TZ _ _ _ _ ?_
 rw [fo.uh]
 refine wpAny_newFunctionEnv_cells fo.kind (λx hx=>.inl ?_) λenv heq s1 x=>?_
 .rcases aaH.mp hx with rfl | hx
  .exact fo.n1
  rcases aaH.mp hx with rfl | hx
  .exact fo.n2
  exact aaK.mp hx▸fo.n3
 refine ⟨(top.nolimit.keeps gh).keeps x.toInCall.keep,codeAny_func ?_⟩
 have eL:env.locals=s.heap.objs.size:=by rw [heq];rfl
 have eK:∀y,env.kindOf y=fd.scope.names.lookup y:=λy=>by rw [heq];rfl
 have lt:=x.toInCall.ns.lt
 have kp:=x.toInCall.keep
 have gr:dX s.heap s1.heap:=⟨kp,by rw [eL] at lt;exact aaI lt⟩
 refine O2 x.toInCall.same λh1 tk e0=>?_;subst e0
 have k1:=(eK _).trans fo.n1
 have k2:=(eK _).trans fo.n2
 have k3:=(eK _).trans fo.n3
 have IE:Nd env h1 _:=⟨by rw [heq];exact fo.kind,by rw [heq];exact fo.gl,by rw [heq];exact fo.bi,x.toInCall.ns,k1,k2,k3,(eK _).trans fo.n4⟩
 refine wpAny_mono (Bq (msg:=msg) (dv:=dv) (S:=λb=>S b\/b=env.locals) (s:={s with heap:=h1,toks:=tk}) W tf (λb o q=>kp _ _ (gh b o q)) IE (.inr rfl) (λb o q=>.inl (UZ b o q)) (λb q=>q.elim (λq=>aax (hS b q) gr.2) λq=>q▸lt) ?_ ?_ ?_ (I.mono (λq=>q.elim I.lo λq=>Nat.lt_irrefl _ ((q.trans eL)▸he)) (λd n w q=>w.elim λo w=>q.elim n λq=>Nat.lt_irrefl _ ((q.trans eL)▸Heap.lt_size w)) kp) hl
  (T:=λfl s'=>fl= .next/\T s') λh' ME I2 K2=>⟨rfl,hT h' ME (I2.mono (λq=>I2.lo (.inl q)) (λd n zz q=>n (.inl q)) λzz zz q=>q) ⟨λb o q r=>K2.1 b o (.inl q) (kp b o r),aaw gr.2 K2.2⟩⟩) (λfl s2 z=>?_) λzz zz z=>z.elim
 .unfold bindL;rw [if_pos k1];unfold bindL;rw [if_pos k2];unfold bindL;rw [if_pos k3];delta bindL;show (if _ then _ else if _ then _ else if _ then _ else _)=_;rw [if_neg (beq_eq_false_iff_ne.mp (by decide+kernel)),if_neg (beq_eq_false_iff_ne.mp (by decide+kernel)),if_pos rfl]
 .unfold bindL;rw [if_pos k1];unfold bindL;rw [if_pos k2];unfold bindL;rw [if_pos k3];delta bindL;show (if _ then _ else if _ then _ else if _ then _ else _)=_;rw [if_neg (beq_eq_false_iff_ne.mp (by decide+kernel)),if_pos rfl]
 .unfold bindL;rw [if_pos k1];unfold bindL;rw [if_pos k2];unfold bindL;rw [if_pos k3];delta bindL;show (if _ then _ else if _ then _ else if _ then _ else _)=_;rw [if_pos rfl]
 .obtain ⟨rfl,z⟩:=z
  exact ⟨rfl,z⟩
end
section
variable {M:Mo} {A:Around} {s:Shared} {C:Addr} {E:Value->Shared->Prop}
noncomputable abbrev Mt (h:Heap):Addr->Prop:=λb=>b < h.objs.size
theorem IM (W:Wd M) (tf:TF M.K C) {msg:Value} (EX:A.depth+2 < recursionLimit) (gh:∀x o,M.h0.get? x=some o->s.heap.get? x=some o)
  {T:Value->Shared->Prop} (hT:∀h' tk e ns,yx (Mt s.heap) h' e C ns->ce (Mt s.heap) s.heap h'->T (.ref e) {s with heap:=h',toks:=tk}):
  wpAny M.m A (call (.ref C) [msg]) T E s:=by
 have X:=W.X.keeps gh
 refine ug tf.obj λdT tw=>?_
 refine Cc tf.init λf fd o hi ZO hf hd ok=>?_
 obtain ⟨hh,g,d,tk,os⟩:=s
 dsimp only at gh X hT
 refine Hl (X _ _ tw) X hi ZO (by show 1<=sizeLine;decide) ?_
 have k:∀b o,hh.get? b=some o->((hh.push {cls:= .type "tuple",data:= .seq [msg].toArray}).push (Ec (.ref C) (.ref hh.objs.size))).get? b=some o:=λb o e=>Heap.get?_push_of_some _ (Heap.get?_push_of_some _ e)
 have sz:((hh.push {cls:= .type "tuple",data:= .seq [msg].toArray}).push (Ec (.ref C) (.ref hh.objs.size))).objs.size=hh.objs.size+2:=by rw [Heap.size_push,Heap.size_push]
 have L1:((hh.push {cls:= .type "tuple",data:= .seq [msg].toArray}).push (Ec (.ref C) (.ref hh.objs.size))).get? (hh.objs.size+1)=some (Ec (.ref C) (.ref hh.objs.size)):=by heap_get
 refine wpAny_mono (DD (S:=Mt hh) (s:=⟨_,g,d,tk,os⟩) W tf (Nat.lt_of_succ_lt EX) hf hd ok (λb o e=>k _ _ (gh b o e)) (λb o e=>Heap.lt_size (gh b o e)) (λb hb=>?_) ?_ ⟨λq=>?_,_,hh.objs.size,L1,rfl,rfl,.inl rfl⟩
  (T:=λs'=>T (.ref (hh.objs.size+1)) s') λh' ME I K2=>hT h' ME _ _ I ⟨λb o l e=>K2.1 b o l (k b o e),?_⟩) (λr s' z=>z) λzz zz z=>z.elim
 .exact Nat.lt_of_lt_of_eq (aax hb (aaM _ 2)) sz.symm
 .exact Nat.lt_of_lt_of_eq (aaC _) sz.symm
 .exact Nat.not_succ_lt_self q
 .exact aaw (aaw (aaM _ 2) (aaS sz.symm)) K2.2
theorem sk {env:Env} {dT:Rb} {x:Sem Value} {Q:Flow->Shared->Prop} (hh:A.handled=none)
  (h:wpAny M.m A x (λv s₁=>∃e t o,v= .ref e/\s₁.heap.get? C=some (GH dT C)/\s₁.heap.get? e=some o/\o.cls= .ref C/\o.data= .fields #[.ref t,.none,.none,.none,.bool false,.none]/\E (.ref e) s₁) E s):
  wpAny M.m A (raiseStmt env (some x) none) Q E s:=by
 refine wpAny_bind (wpAny_mono h (λv s₁ h₁=>?_) λzz zz x=>x)
 refine jr h₁ λe t o e0 hC he nu vJ hE=>?_;subst e0
 obtain ⟨hp,g,d,tk,os⟩:=s₁
 obtain ⟨oc,od,Xl,Ny⟩:=o
 dsimp only at nu vJ he hC
 subst nu vJ
 repeat (first | with_reducible refine wpAny_loadPart_at he ?_ | with_reducible refine wpAny_loadPart_at hC ?_ | (with_reducible refine wpAny_isSubtype_exc hC ?_;rw [(Ni (C:=C) (P:=dT.P))]) | wp_step)
 exact wpAny_raiseNew_none hh hE
end
section
variable {M:Mo} {k:Nat} {A:Around} {p:Pt} {C:Addr} {sc:Scope} {env:Env} {loc:Loc} {E:Value->Shared->Prop}
theorem FY (W:Wd M) (tf:TF M.K C) (z:ng M k A p sc env loc) (hg:aU sc "TreeFault"=true)
  {m:Str} {c:Nat} {np cp Su pos:Pos} {Q:Flow->Shared->Prop}
  (hE:∀h' tk e ns,yx (Mt p.h) h' e C ns->ce (Mt p.h) p.h h'->E (.ref e) (p.at h' tk).s):
  wpAny M.m A (exec (.Raise (some (.Call (.Name ("TreeFault":Str) np) [.Constant (.str m) c cp] [] Su)) none pos) env) Q E p.s:=by
 refine ug tf.obj λdT tw=>?_
 have X:=W.X.keeps z.rep.base
 have EX:A.depth+2 < recursionLimit:=by have:=z.cx.depth;unfold recursionLimit;exact aaz (abb (aaw (aaM _ _) this) 2) (by decide)
 refine bf (arm_exec_Raise ..) ?_
 refine wpAny_bind (wpAny_standAt ?_)
 refine sk (C:=C) (dT:=dT) z.cx.hd ?_
 refine wpAny_bind ?_
 refine bf (arm_eval_Call_Name' ..) ?_
 refine wpAny_bind ?_
 refine wpAny_mono (eQ W z.eo z.rep hg (cS (x:="TreeFault") tf.hC) (T:=λv s'=>v= .ref C/\s'=p.s) ⟨rfl,rfl⟩) (λv s1 z=>?_) λzz zz z=>z.elim
 obtain ⟨rfl,rfl⟩:=z
 refine callWith_of rfl (keeps_K tf.keep) ?_
 refine Calls.evalArgs_plain ?_
 refine Calls.spliced_cons ?_
 refine wpAny_mkText ?_
 refine Calls.spliced_nil ?_
 refine ⟨X,?_⟩
 refine IM (s:={p.s with toks:=p.s.toks+1}) W tf EX z.rep.base λh' tk e ns I k=>?_
 refine wpAny_bind (wpAny_standAt (wpAny_pure ?_))
 obtain ⟨lo,o,t',ho,nu,vJ,_⟩:=id I
 exact (c9 e t' o ⟨rfl,k.1 _ _ (Heap.lt_size (X _ _ tw)) (X _ _ tw),ho,nu,vJ,hE h' tk e ns I k⟩)
end
noncomputable def tP (m:Str) (c:Nat) (q:Nat->Pos):Stmt:= .Raise (some (.Call (.Name ("TreeFault":Str) (q 1)) [.Constant (.str m) c (q 2)] [] (q 3))) none (q 4)
structure RB (K:Frag):Prop where
 ex:∃fd s1 t pp e rest m c q,tx K "split_pages"=some (fd,s1:: .If t (tP m c q::pp) e (q 0)::rest)/\mv (comp 20) (dy 20) fd.scope s1=some (S.set "row" (X.call "pages" (.o (.loc "shelf"))))/\comp 20 true fd.scope t=some rq/\aU fd.scope "TreeFault"=true
structure gF (M:Mo) (p:Pt) (env:Env):Prop where
 fn:env.scope.kind= .function
 fr:env.frame=some env.locals
 off:¬Own p env.locals/\M.h0.objs.size<=env.locals
 ob:∃o es ep,p.h.get? env.locals=some o/\o.data= .dict es ep
noncomputable def Kb (outer:List Env):Addr->Prop:=λx=>∃env∈outer,env.frame=some x
noncomputable def RU (outer:List Env) (Xs:List Addr):Addr->Prop:=λx=>Kb outer x\/x∈Xs
section
variable {M:Mo} {k:Nat} {A:Around} {p p' p3:Pt} {C:Addr} {sc:Scope} {env:Env} {loc:Loc} {P:HP->Prop} {outer:List Env} {Xs:List Addr}
theorem aI.Lc (eo:aI M p sc env loc) (fr:env.frame=some env.locals):gF M p env:=
 ⟨eo.fn,fr,eo.mU,eo.ns.elim λzz h=>bj h.1 λo es ep h=>(c9 o es ep ⟨h.1,h.2.1⟩)⟩
theorem gF.after (f:gF M p env) (a:After M cY p p'):gF M p' env:=by
 refine sg f.ob λo es ep ho hd=>?_
 exact ⟨f.fn,f.fr,⟨a.own (Heap.lt_size ho) f.off.1,f.off.2⟩,o,es,ep,a.keep _ o ho f.off.1 id,hd⟩
theorem gF.o3 (f:gF M p env):∀o,p.h.get? env.locals=some o->¬gR o:=λo' e z=>by
 refine sg f.ob λo es ep ho hd=>?_
 refine fV z λzz vs kk z=>?_
 rw [ho] at e;obtain rfl:=aay e;replace z:=(hd)▸z;cases z
theorem Kb.at (Ix:∀env∈outer,gF M p env) {x:Addr} (h:Kb outer x):∃env∈outer,env.locals=x/\gF M p env:=h.elim λen h=>⟨en,h.1,aay ((Ix en h.1).fr.symm.trans h.2),Ix en h.1⟩
theorem jG {B h:Heap} {W:WM} {H:HP} {s:Shared}:∀{l:List Env},(∀env∈l,gF M ⟨W,H,{s with heap:=h}⟩ env/\B.get? env.locals=none)->h.FunFrames B l
 | [],_=>trivial
 | env::r,x=>by
  refine qj (x env (.head _)) λf hB=>?_
  refine sg f.ob λo es ep ho hd=>?_
  exact ⟨by rw [f.fn];decide,(bI env.locals o ⟨f.fr,hB,ho,λvs q=>by replace q:=(hd)▸q;cases q⟩),jG λe he=>x e (.tail _ he)⟩
theorem HN (W:Wd M) (tf:TF M.K C) (z:ng M k A p sc env loc) {s1:Stmt} {t:Expr} {pp e rest:List Stmt} {m:Str} {c:Nat} {q:Nat->Pos} (h1:mv (comp 20) (dy 20) sc s1=some (S.set "row" (X.call "pages" (.o (.loc "shelf"))))) (h2:comp 20 true sc t=some rq) (hg:aU sc "TreeFault"=true)
  (hQ:X.call "pages" (.o (.loc "shelf")) (Γc M k) loc p.H λv H1=>rq (Γc M k) (loc.upd "row" v) H1 λu H2=>cR u H2 λb H3=>b=true/\P H3) {T:Flow->Shared->Prop} {E:Value->Shared->Prop}
  (hE:∀p2 Ic h' tk e ns,P p2.H->After M (fQ sc env) p p2->aI M p2 sc env Ic->yx (Mt p2.h) h' e C ns->ce (Mt p2.h) p2.h h'->E (.ref e) (p2.at h' tk).s):wpAny M.m A (execs (s1:: .If t (tP m c q::pp) e (q 0)::rest) env) T E p.s:=by
 refine bf (arm_execs_cons ..) ?_
 refine wpAny_bind (tD (o6 W (nE W 20) (λh=>iU W 20 h) h1 z (Q:=λfl loc' H'=>match fl with | .next=>rq (Γc M k) loc' H' (λu H2=>cR u H2 λb H3=>b=true/\P H3) | _=>False) hQ _ λp1 f fl DC q1 r eo a=>?_))
 cases fl with
 | brk=>exact q1.elim
 | cont=>exact q1.elim
 | ret _=>exact q1.elim
 | next=>
  obtain rfl:=show f= .next from r
  show wpAny _ _ (execs _ env) _ _ _
  refine bf (arm_execs_cons ..) ?_;rw [arm_exec_If]
  refine wpAny_bind (wpAny_bind (wpAny_standAt (wpAny_bind (tD (((nE W 20).T h2).2 ⟨z.cx,eo,a.rep⟩ (F:=λzz b H=>b=true/\P H) q1 _ λp2 v b zz hf a2=>?_)))))
  obtain ⟨rfl,hP⟩:=hf
  refine bf (arm_execs_cons ..) ?_
  exact wpAny_bind (FY W tf ⟨z.cx,eo.after a2,a2.rep⟩ hg λh' tk e ns I kk=>hE p2 DC h' tk e ns hP (a.trans a2.no) (eo.after a2) I kk)
theorem Jd (W:Wd M) (tf:TF M.K C) (sp:RB M.K) (cx:GU (k+1) A) (R:Rep M p) {a:Addr} (ha:fa M.K "split_pages"=some a) {vs:List Value} {sh ix:AV} (r:L2 (VR p) vs [sh,ix]) (qi:A.frames=some outer) (Ix:∀env∈outer,gF M p env)
  (hQ:RP (Γc M k) sh ix p.H P) {T:Result->Shared->Prop}
  (hT:∀(p3:Pt) (e t:Addr) (B h':Heap) (Xs:List Addr),P p3.H->After M cY p p3->Heap.FlyingW B outer e (.ref C) (.ref t) h'->p3.h.UpToSlots h'->(∀b o,B.get? b=some o->p3.h.get? b=some o)->(∀b o,p3.h.get? b=some o->¬RU outer Xs b->B.get? b=some o)->
   (∀x∈Xs,p.h.objs.size<=x/\¬Own p3 x/\∀o,p3.h.get? x=some o->¬gR o)->T (.error (.ref e)) (p3.at h' p3.s.toks).s):codeAny M.m A (.call (.ref a) ⟨vs,[]⟩) T p.s:=by
 have hm:("split_pages",["shelf","indexes"],io)∈eU:=aaO (i:=41) rfl
 refine cZ (Ag W hm ha) λfd body f hk=>?_
 obtain ⟨US,s1,t,pp,el,rest,m,c,q,zD,h1,h2,hg⟩:=sp.ex
 cases hk.symm.trans zD
 have hd:=f.LJ
 unfold n8 at hd
 rw [beq_eq_false_iff_ne.mpr (by decide)] at hd
 refine iH W f cx R r rfl (gH f.p1 f.p2 f.p3 f.p4 f.p5 (dC hd) (r.len).symm f.nd) λenv Wg tk hF hL hB g z a1=>codeAny_func (HN W tf z h1 h2 hg hQ λp2 Ic h3 Jo e ns hP a2 x9 I kk=>?_)
 have QZ:After M cY p p2:=After.drop (a1.no.trans a2) λy hy=>.inr (hB y hy)
 have KD:After M cY p2 (p2.at h3 Jo):=After.grow QZ.rep (⟨λx o q=>kk.1 x o (Heap.lt_size q) q,kk.2⟩)
 have a3:=QZ.trans KD
 obtain ⟨lo,oe,t',ho,nu,vJ,_⟩:=I
 have Ca:gF M (p2.at h3 Jo) env:=(x9.Lc hF).after KD
 have WG:∀en∈outer,gF M (p2.at h3 Jo) en:=λen qB=>(Ix en qB).after a3
 have Qz:h3.FunFrames (hideAll h3 (e::env.locals::outer.filterMap (·.frame))) (env::outer):=jG (M:=M) (W:=p2.W) (H:=p2.H) (s:=(p2.at h3 Jo).s) λen qB=>by
  rcases aaH.mp qB with rfl | qB
  .exact ⟨Ca,hideAll_none _ (.tail _ (.head _))⟩
  .exact ⟨WG en qB,hideAll_none _ (.tail _ (.tail _ (abB.mpr ⟨en,qB,(WG en qB).fr⟩)))⟩
 refine wpAny_leaving_firstW (s:=(p2.at h3 Jo).s) (base:=hideAll h3 (e::env.locals::outer.filterMap (·.frame))) (Around.frames_deeper qi) Qz Ca.fr ho (λb o q=>of_hideAll _ q) (hideAll_none _ (.head _)) vJ rfl rfl λh' hL=>?_
 obtain ⟨y1,⟨_,_,y2⟩,y3,y4⟩:=hL
 replace y3:=(nu)▸y3
 refine hT (p2.at h3 Jo) e t' _ h' [e,env.locals] hP a3 ⟨y1,hideAll_none _ (.head _),y2,y3⟩ y4 (λb o q=>of_hideAll _ q) (λb o q n=>hideAll_get _ q λhm=>?_) λx hx=>?_
 .rcases aaH.mp hm with q | hm
  .exact n (.inr (q▸ .head _))
  .rcases aaH.mp hm with q | hm
   .exact n (.inr (q▸ .tail _ (.head _)))
   .exact (abB.mp hm).elim λen h=>n (.inl ⟨en,h.1,h.2⟩)
 .rcases aaH.mp hx with rfl | hx
  .exact ⟨aaw QZ.size (aaP.mp lo),(λw=>lo (QZ.rep.own w).lt),λo q ⟨zz,vs,kk,z⟩=>by
    have q:h3.get? x=some o:=q
    rw [ho] at q;obtain rfl:=aay q;replace z:=(vJ)▸z;cases z⟩
  .rw [aaK.mp hx]
   exact ⟨hL,Ca.off.1,Ca.o3⟩
theorem After.except {h':Heap} {t:Nat} (a:After M cY p p3) (h0:M.h0.objs.size<=p.h.objs.size) (hs:p.h.objs.size<=h'.objs.size) (Ix:∀env∈outer,gF M p3 env)
  (hk:∀b o,p3.h.get? b=some o->¬RU outer Xs b->h'.get? b=some o) (hX:∀x∈Xs,p.h.objs.size<=x/\¬Own p3 x/\∀o,p3.h.get? x=some o->¬gR o):After M (Kb outer) p (p3.at h' t):=by
 have hF:∀b,RU outer Xs b->M.h0.objs.size<=b/\¬Own p3 b/\∀o,p3.h.get? b=some o->¬gR o:=λb hb=>hb.elim (λw=>by
  refine cV (w.at Ix) λen qB e0 f=>?_;subst e0
  exact ⟨f.off.2,f.off.1,f.o3⟩) λq=>⟨aaw h0 (hX b q).1,(hX b q).2⟩
 have R:=a.rep
 have tk:dH p3.h h':=λx o e ht=>hk x o e λq=>(hF x q).2.2 o e ht
 have ow:∀{x},Own p3 x->∀o,p3.h.get? x=some o->h'.get? x=some o:=λw o e=>hk _ o e λq=>(hF _ q).2.1 w
 refine ⟨a.le,a.ρ,a.δ,a.new,λx o e n1 n2=>hk x o (a.keep x o e n1 id) λq=>q.elim n2 λq=>aaP.mpr (hX x q).1 (Heap.lt_size e),hs,by show ({p3.s with heap:=h',toks:=t}:Shared)=_;rw [a.same],λx o e ht=>tk x o (a.tup x o e ht) ht,λb hb=>?_,
  aaw h0 hs,λx o e=>hk x o (R.base x o e) λq=>aaP.mpr (hF x q).1 (Heap.lt_size e),R.lo,R.inj,λc hc=>(R.obj c hc).mono (.grow tk) (ow ⟨c,hc,.inl rfl⟩) (ow ⟨c,hc,.inr rfl⟩)⟩
 have t:=a.lW b hb
 exact ⟨t.1,λq o e=>ow ⟨b,aax hb a.le,.inl (a.ρ b hb).symm⟩ o (t.2 q o e)⟩
end
noncomputable def xV (q:Nat->Pos) (c1 c2:Nat):List Stmt:=
 [.Try [.Expr (.Call (.Name ("split_pages":Str) (q 1)) [.Name ("shelf":Str) (q 2),.Name ("indexes":Str) (q 3)] [] (q 4)) (q 5)] [.ExceptHandler (some (.Name ("TreeFault":Str) (q 6))) none [.Return (some (.Constant (.bool true) c1 (q 7))) (q 8)] (q 9)] [] [] (q 10),.Return (some (.Constant (.bool false) c2 (q 11))) (q 12)]
structure Ux (K:Frag):Prop where
 ex:∃fd q c1 c2,tx K "_law_raises"=some (fd,xV q c1 c2)/\CG K "_law_raises" ["shelf","indexes"] fd=true/\
  si fd.scope "shelf"=some "shelf"/\si fd.scope "indexes"=some "indexes"/\aU fd.scope "split_pages"=true/\aU fd.scope "TreeFault"=true
section
variable {M:Mo} {k:Nat} {A:Around} {p p' p3:Pt} {C:Addr} {sc:Scope} {env:Env} {loc:Loc} {P:HP->Prop} {outer:List Env}
noncomputable def VT (outer:List Env) (h h':Heap):Prop:=∀x o,Kb outer x->h.get? x=some o->(∀vs,o.data≠ .fields vs)->∃sl,h'.get? x=some {o with slots:=sl}
theorem Kz (f:∀env∈outer,gF M p3 env) {Xs:List Addr} {a0:Addr} (hX:∀x∈Xs,a0<=x) (h0:M.h0.objs.size<=a0) {x:Addr} {o:Obj} (e:M.h0.get? x=some o):¬RU outer Xs x:=λw=>
 have lt:=Heap.lt_size e
 w.elim (λw=>(w.at f).elim λen h=>aaP.mpr h.2.2.off.2 (h.2.1.symm▸lt)) λq=>aaP.mpr (aaw h0 (hX x q)) lt
theorem Hn (W:Wd M) (tf:TF M.K C) (sp:RB M.K) (lr:Ux M.K) (cx:GU (k+2) A) (R:Rep M p) {a:Addr} (ha:fa M.K "_law_raises"=some a) {vs:List Value} {sh ix:AV} (r:L2 (VR p) vs [sh,ix]) (u1:sh≠ .unset) (u2:ix≠ .unset) (qi:A.frames=some outer) (Ix:∀env∈outer,gF M p env)
  (hQ:RP (Γc M k) sh ix p.H P) {T:Result->Shared->Prop} (hT:∀p':Pt,P p'.H->After M (Kb outer) p p'->VT outer p.h p'.h->T (.ok (.ret (.bool true))) p'.s):codeAny M.m A (.call (.ref a) ⟨vs,[]⟩) T p.s:=by
 obtain ⟨fd,q,c1,c2,hk,ZX,k1,k2,k3,k4⟩:=lr.ex
 have f:=zM hk ZX ha
 have hd:=f.LJ
 unfold n8 at hd
 rw [beq_eq_false_iff_ne.mpr (by decide)] at hd
 refine jd (CW W (f:="split_pages") (by decide)) λZ9 YU C6 zz hn=>?_
 refine iH W f cx R r rfl (gH f.p1 f.p2 f.p3 f.p4 f.p5 (dC hd) (r.len).symm f.nd) λenv Wg tk hF hL hB g z a1=>codeAny_func ?_
 unfold xV
 refine bf (arm_execs_cons ..) ?_
 refine wpAny_bind (wpAny_Try_except ?_)
 refine bf (arm_execs_cons ..) ?_;rw [exec_Expr env _ _ (hG z.eo) (c5 rfl)]
 refine wpAny_bind (wpAny_bind (wpAny_standAt (wpAny_bind ?_)))
 refine bf (arm_eval_Call_Name' ..) ?_
 have L:jC M (XL.cons (X.loc "shelf") (XL.cons (X.loc "indexes") XL.nil)) fd.scope [.Name ("shelf":Str) (q 2),.Name ("indexes":Str) (q 3)]:=⟨λe he=>(aaH.mp he).elim (λe=>e▸rfl) λhe=>aaK.mp he▸rfl,gD rfl (sD k1) (gD rfl (sD k2) lT),λe=>nomatch e⟩
 have gy:((backTo (q 4) (starEach [.Name ("shelf":Str) (q 2),.Name ("indexes":Str) (q 3)] env)).any (·.1)||(backToKw (q 4) (keywordEach [] env)).any (·.1.isNone))=false:=by rw [bq L.pl];rfl
 refine wpAny_bind (tD (eQ W z.eo z.rep k3 hn (callWith_of gy (keeps_K C6) (tD (jm L z (Q:=λbF H'=>bF=[sh,ix]/\H'=p.H) (ak rfl (mJ u1 (ak rfl (mJ u2 ⟨rfl,rfl⟩)))) λp2 Jj bF qq r2 a2=>?_)))))
 obtain ⟨rfl,hH⟩:=qq
 refine ⟨W.X.keeps a2.rep.base,?_⟩
 have UU:After M cY p p2:=a1.trans a2
 have P4:gF M p2 env:=(z.eo.Lc hF).after a2
 have PH:∀en∈env::outer,gF M p2 en:=λen qB=>(aaH.mp qB).elim (λe=>e▸P4) λqB=>(Ix en qB).after UU
 refine wpAny_call (Jd W tf sp z.cx.call a2.rep YU r2 (Around.frames_deeper qi) PH (P:=P) (hH▸hQ) λp4 e t B h' Xs hP a4 fl up bs bk hX=>?_)
 refine wpAny_looks_onW (s:=(p4.at h' p4.s.toks).s) (Around.frames_deeper qi) P4.fr fl λh5 YA Ya=>?_
 refine wpAny_landsW (s:=(p4.at h5 p4.s.toks).s) YA λh6 SM YY=>?_
 have Nt:∀en∈env::outer,gF M p4 en:=λen qB=>(PH en qB).after a4
 have b6:∀x o,M.h0.get? x=some o->h6.get? x=some o:=λx o e=>SM.1 _ _ (bk x o (a4.rep.base x o e) (Kz Nt (λx q=>(hX x q).1) a2.rep.sz e))
 refine ug tf.obj λdT tw=>?_
 refine aw SM.there λoe X9 UB=>?_
 have kk:=jt k4
 refine bG W.top λzz zz zz zz T0=>?_
 refine wpAny_handleBy_cons (codeAny_handlers_test ?_) (by intro q;cases q)
 refine Name_function_global z.eo.fn (z.eo.FP _ kk.2) (loadGlobal_global (by rw [z.eo.gl];exact T0.g.keeps b6) (mg_of W.X T0.g (cS (x:="TreeFault") tf.hC)) ?_) (g7 kk.1 nq)
 refine wpAny_excMatches_sub_self (W.X.keeps b6 _ _ tw) X9 UB (by simp [sO]) ?_
 dsimp only
 rw [if_pos rfl]
 refine codeAny_handlers_suite ?_
 refine lands_againW SM λh7 Xc Zs=>?_
 have VE:=UU.trans a4
 have Vt:=P4.after a4
 have nV:p.h.objs.size<=h7.objs.size:=by
  refine me Xc λzz zz t0 zz=>?_;refine xD t0 λzz t1 zz=>?_;refine tj t1 λL' o e1 zz e2 zz=>?_
  obtain rfl:=aay (P4.fr.symm.trans e1)
  exact aaw hL (aaI (Heap.lt_size e2))
 have Tk:∀en∈outer,gF M p4 en:=λen qB=>Nt en (.tail _ qB)
 have fin:∀t,T (.ok (.ret (.bool true))) (p4.at h7 t).s:=λt=>by
  refine hT (p4.at h7 t) hP (After.except (Xs:=env.locals::Xs) VE R.sz nV Tk (λb o e n=>Xc.1 _ _ (bk b o e λw=>n ?_)) λx hx=>?_) λx o hx e ZP=>?_
  .refine w.elim (λw=>w.elim λen h=>(aaH.mp h.1).elim (λee=>.inr ?_) λqB=>.inl ⟨en,qB,h.2⟩) λq=>.inr (.tail _ q)
   cases ee
   exact aay (P4.fr.symm.trans h.2)▸ .head _
  .rcases aaH.mp hx with rfl | hx
   .exact ⟨hL,Vt.off.1,Vt.o3⟩
   .exact ⟨aaw UU.size (hX x hx).1,(hX x hx).2⟩
  .refine cV (hx.at Ix) λen qB e0 f'=>?_;subst e0
   exact (((up.trans Ya).trans YY).trans Zs) _ o (VE.keep _ o e f'.off.1 id) ZP
 refine bf (arm_execs_cons ..) ?_
 refine wpAny_bind ?_
 refine bf (arm_exec_Return ..) ?_
 refine wpAny_bind (wpAny_standAt ?_)
 refine wpAny_bind (wpAny_pure (wpAny_pure (wpAny_pure ?_)))
 exact wpAny_pure (fin _)
theorem aI.Kp (e:aI M p sc env loc) (a:After M (Kb outer) p p') (ups:VT outer p.h p'.h):aI M p' sc env loc:=by
 have key:∀x o,¬Own p x->p.h.get? x=some o->(∀vs,o.data≠ .fields vs)->∃sl,p'.h.get? x=some {o with slots:=sl}:=λx o q z d=>by
  by_cases hx:Kb outer x
  .exact ups x o hx z d
  .exact ⟨o.slots,a.keep _ o z q hx⟩
 refine aw e.ns λm hm hv=>?_
 have ui:p'.h.Ns env.locals m:=by
  refine iS hm λo es ep ho hd r=>?_
  obtain ⟨sl,q⟩:=key _ o e.mU.1 ho λvs z=>by replace z:=(hd)▸z;cases z
  exact (c9 _ es ep ⟨q,hd,r⟩)
 have Jt:∀{c ov},¬Own p c->p.h.IsCell c ov->p'.h.IsCell c ov:=λn t0=>aw t0 λo ho hd=>by
  obtain ⟨sl,q⟩:=key _ o n ho λvs z=>by replace z:=(hd)▸z;cases z
  exact ⟨_,q,hd⟩
 exact {e with
  ns:=⟨m,ui,λx h1 h0 h2=>(hv x h1 h0 h2).imp λv q=>⟨q.1,a.rel q.2⟩⟩
  mU:=⟨a.own hm.lt e.mU.1,e.mU.2⟩
  cells:=λx c hc=>have q:=e.cells x c hc;q.1.elim λov z=>⟨⟨ov,Jt q.2.1 z⟩,a.own (kX z) q.2.1,q.2.2⟩
  mV:=λx h1 h2=>(e.mV x h1 h2).imp λc q=>q.imp λv q=>⟨q.1,Jt (e.cells _ c q.1).2.1 q.2.1,a.rel q.2.2⟩}
end
noncomputable def OO (p1:Pos) (as:List Expr) (p2:Pos):Expr:= .Call (.Name ("_law_raises":Str) p1) as [] p2
noncomputable def z7 (q:Nat->Pos) (J4 IH:List Expr) (MA:List Stmt):Stmt:= .If (.BoolOp .Or [.UnaryOp .Not (OO (q 1) J4 (q 2)) (q 3),.UnaryOp .Not (OO (q 4) IH (q 5)) (q 6)] (q 7)) MA [] (q 8)
structure Ws (K:Frag):Prop where
 ex:∃fd body q J4 IH MA MB,tx K "law"=some (fd,body)/\body.drop 16=[z7 q J4 IH MA,MB]/\dU (comp 20) fd.scope J4=some (XL.cons (X.loc "shelf") (.o IX))/\dU (comp 20) fd.scope IH=some (XL.cons (X.loc "shelf") (.o HH))/\
  mv (comp 20) (dy 20) fd.scope MB=some (S.ret wx)/\aU fd.scope "_law_raises"=true
structure Wx (M:Mo) (C:Addr):Prop extends Wd M where
 tf:TF M.K C
 sp:RB M.K
 lr:Ux M.K
 lw:Ws M.K
noncomputable def Ds:Addr->Prop:=λzz=>True
theorem Cj {Q:KV}:q8 (λix H=>ix≠ .unset/\Q ix H)=q8 Q:=funext λvs=>funext λH=>congrArg (KQ vs) (propext ⟨λh=>⟨h.1.2⟩,λh=>⟨AV.noConfusion,h.1⟩⟩)
theorem rE:∀(a b:List Stmt) (env:Env),execs (a++b) env=(do
  match <-execs a env with
  | .next=>execs b env
  | f=>pure f)
 | [],b,env=>by rw [arm_execs_nil,pure_bind];rfl
 | s::a,b,env=>by
  rw [List.cons_append,arm_execs_cons,arm_execs_cons,bind_assoc]
  refine congrArg (exec s env >>= ·) (funext λf=>?_)
  cases f with
  | next=>exact rE a b env
  | _=>exact (pure_bind _ _).symm
section
variable {M:Mo} {k:Nat} {A:Around} {p p' p3:Pt} {C:Addr} {sc:Scope} {env:Env} {loc:Loc} {P:HP->Prop}
theorem Ac (W:Wx M C) (z:ng M (k+2) A p sc env loc) (fr:env.frame=some env.locals) (hA:A.frames=some [env]) {as:List Expr} {p1 p2:Pos} {es:XL} (hg:aU sc "_law_raises"=true) (L:jC M (XL.cons (X.loc "shelf") (.o (X.list es))) sc as) (hu:loc "shelf"≠ .unset)
  (hQ:X.list es (Γc M (k+2)) loc p.H λix H1=>RP (Γc M k) (loc "shelf") ix H1 P) {T:Bool->Shared->Prop} (hT:∀p',P p'.H->aI M p' sc env loc->After M Ds p p'->T true p'.s):wpAny M.m A (isTrue (OO p1 as p2) env (eval (OO p1 as p2) env)) T bK p.s:=by
 refine jd (CW W.toWd (f:="_law_raises") (by decide)) λa ha C6 zz hn=>?_
 show wpAny _ _ (do let v <-eval (.Call (.Name ("_law_raises":Str) p1) as [] p2) env;standAt _;holding [v] (truthy v)) _ _ _
 rw [arm_eval_Call_Name']
 have gy:((backTo p2 (starEach as env)).any (·.1)||(backToKw p2 (keywordEach [] env)).any (·.1.isNone))=false:=by rw [bq L.pl];rfl
 have hq:(XL.cons (X.loc "shelf") (.o (X.list es))) (Γc M (k+2)) loc p.H (λbF H'=>∃ix,bF=[loc "shelf",ix]/\ix≠ .unset/\RP (Γc M k) (loc "shelf") ix H' P):=by
  refine ak rfl (mJ hu ?_)
  show es _ _ _ (q8 (λix H'=>∃RW,[loc "shelf",ix]=[loc "shelf",RW]/\RW≠ .unset/\RP (Γc M k) (loc "shelf") RW H' P))
  have hQ:es _ _ _ (q8 _):=hQ
  rw [<-Cj] at hQ
  refine Eq.mp (congrArg (λF=>es _ _ _ (q8 F)) (funext λix=>funext λH'=>propext ⟨λh=>⟨ix,rfl,h⟩,λh=>h.elim λRW h=>?_⟩)) hQ
  cases h.1;exact h.2
 refine wpAny_bind (wpAny_bind (eQ W.toWd z.eo z.rep hg hn (callWith_of gy (keeps_K C6) (jm L z hq λp2 vs bF qq r a1=>?_))))
 refine Dt qq λix e0 yN hR=>?_;subst e0
 refine ⟨W.X.keeps a1.rep.base,wpAny_call ?_⟩
 have Ch:=z.eo.after a1
 refine Hn W.toWd W.tf W.sp W.lr z.cx.call a1.rep ha r hu yN hA (λen qB=>aaK.mp qB▸(Ch.Lc fr)) hR λp4 hP a4 up=>?_
 refine wpAny_bind (wpAny_standAt (wpAny_holding ?_))
 refine ky a4.rep (v:= .bool true) (av:= .bool true) (F:=λzz b zz=>b=true) rfl rfl λt b zz hb=>?_
 subst hb
 have at_:=After.toks (B:=cY) a4.rep t
 exact hT (p4.at p4.h t) hP ((Ch.Kp a4 up).after at_) (((a1.weaken (B':=Ds) λzz zz=>trivial).trans (a4.weaken (B':=Ds) λzz zz=>trivial)).trans (at_.weaken λzz zz=>trivial))
theorem EP (W:Wx M C) (z:ng M (k+2) A p sc env loc) (fr:env.frame=some env.locals) (hA:A.frames=some [env]) {J4 IH:List Expr} {q:Nat->Pos} {MA:List Stmt} {MB:Stmt} (hg:aU sc "_law_raises"=true)
  (h1:dU (comp 20) sc J4=some (XL.cons (X.loc "shelf") (.o IX))) (h2:dU (comp 20) sc IH=some (XL.cons (X.loc "shelf") (.o HH))) (h3:mv (comp 20) (dy 20) sc MB=some (S.ret wx)) {Q:KV} (hQ:D6 (Γc M (k+2)) (Γc M k) loc p.H Q)
  {T:Flow->Shared->Prop} (hT:∀p' v av,Q av p'.H->VR p' v av->After M Ds p p'->T (.ret v) p'.s):wpAny M.m A (execs [z7 q J4 IH MA,MB] env) T bK p.s:=by
 have I:=nE W.toWd 20
 unfold z7
 refine bf (arm_execs_cons ..) ?_;rw [arm_exec_If]
 refine wpAny_bind (wpAny_bind (wpAny_standAt (wpAny_bind ?_)))
 refine bf (arm_isTrue_BoolOp ..) ?_;refine bf (arm_allTrue_cons ..) ?_;rw [arm_isTrue_UnaryOp]
 refine wpAny_bind (wpAny_bind (Ac W z fr hA hg (c4 I h1) hQ.1 hQ.2 λp5 q5 Tl a5=>wpAny_pure ?_))
 show wpAny _ _ (allTrue .Or [.UnaryOp .Not (OO (q 4) IH (q 5)) (q 6)] env) _ _ _
 refine bf (arm_allTrue_cons ..) ?_;rw [arm_isTrue_UnaryOp]
 refine wpAny_bind (wpAny_bind (Ac W ⟨z.cx,Tl,a5.rep⟩ fr hA hg (c4 I h2) hQ.1 q5 λp6 q6 ZD a6=>wpAny_pure ?_))
 show wpAny _ _ (allTrue .Or [] env) _ _ _
 refine bf (arm_allTrue_nil ..) ?_
 refine wpAny_pure ?_
 show wpAny _ _ (execs [] env) _ _ _
 refine bf (arm_execs_nil ..) ?_
 refine wpAny_pure ?_
 refine nR (o6 W.toWd I (λh=>iU W.toWd 20 h) h3) rK ⟨z.cx,ZD,a6.rep⟩ (Q:=λfl zz H'=>match fl with | .ret v=>Q v H' | _=>False) q6 _ λp7 f fl YV q7 r eo7 a7=>?_
 cases fl with
 | ret v=>exact r.elim λv h=>h.1▸hT p7 v _ q7 h.2 ((a5.trans a6).trans (a7.weaken λzz zz=>trivial))
 | next=>exact q7.elim
 | brk=>exact q7.elim
 | cont=>exact q7.elim
theorem FA (W:Wx M C) (cx:GU (k+12) A) (R:Rep M p) {a:Addr} (ha:fa M.K "law"=some a) {v:Value} {n:Nat} {is:List Int} (r:VR p v (.ref n)) (e:p.H.g n= .no (is.map AV.int)) (hA:A.frames=some [])
  {T:Result->Shared->Prop} (hT:∀h' t,(∀x o,M.h0.get? x=some o->h'.get? x=some o)->T (.ok (.ret (.bool true))) {p.s with heap:=h',toks:=t}):codeAny M.m A (.call (.ref a) ⟨[v],[]⟩) T p.s:=by
 refine cZ (Ag W.toWd (aaO (i:=52) rfl) ha) λfd body f hk=>?_
 obtain ⟨US,W0,q,J4,IH,MA,MB,zD,hb,h1,h2,h3,hg⟩:=W.lw.ex
 cases hk.symm.trans zD
 have qi:dy 99 fd.scope (body.take 16)=some Hk:=by
  have h:=W.ok.front
  unfold pM at h
  rw [hk] at h
  exact h
 have hd:=f.LJ
 unfold n8 at hd
 rw [beq_eq_false_iff_ne.mpr (by decide)] at hd
 have fin:∀{p6:Pt} {B:Addr->Prop},After M B p p6->T (.ok (.ret (.bool true))) p6.s:=λ{p6 zz} a=>by
  rw [a.same];exact hT p6.h p6.s.toks a.rep.base
 refine iH W.toWd f cx R (L2.cons r .nil) rfl (gH f.p1 f.p2 f.p3 f.p4 f.p5 (dC hd) rfl f.nd) λenv Wg tk hF hL hB g z a1=>codeAny_func ?_
 rw [<-List.take_append_drop 16 body];refine bf (rE ..) ?_;rw [hb]
 refine wpAny_bind (tD (iU W.toWd 99 qi z (QN (X7 W.toWd) (Q:=λv zz=>v= .bool true) e λzz=>rfl) _ λp5 Yt fl YK q5 r5 Tl a5=>?_))
 have WV:=a1.no.trans a5
 cases fl with
 | brk=>exact q5.elim
 | cont=>exact q5.elim
 | ret v=>
  obtain ⟨v,rfl,rv⟩:=r5
  obtain rfl:=show _=AV.bool true from q5
  obtain rfl:=show v= .bool true from rv
  exact wpAny_pure (fin WV)
 | next=>
  obtain rfl:=show Yt= .next from r5
  refine tD (EP W (k:=k+9) ⟨z.cx,Tl,a5.rep⟩ hF (Around.frames_deeper hA) hg h1 h2 h3 q5 λp6 v av q6 r6 a6=>?_)
  subst q6
  obtain rfl:=show v= .bool true from r6
  exact fin (WV.weaken (B':=Ds) (λzz zz=>trivial) |>.trans a6)
theorem Et {prog:Program} {w:World} {K:Frag} {s:Shared} (W:Wx ⟨prog,w,K,s.heap⟩ C) {fv:Value} {p:Program} {loose:List Str} {mg mb:Str->Option Value} (T0:TopRead p loose mg mb s.heap) (UH:mg "law"=some fv) {x:Addr} {vs:List Value} {is:List Int} (hL:s.heap.IsList x vs.toArray) (hI:IntsAre vs is) (hn:¬(63:Int) < (is.length:Int)) {T:Result->Shared->Prop}
  (hT:∀h' t,(∀x o,s.heap.get? x=some o->h'.get? x=some o)->T (.ok (.ret (.bool true))) {s with heap:=h',toks:=t}):codeAny (model prog w) callerA (.call fv ⟨[.ref x],[]⟩) T s:=by
 obtain ⟨fd,body,_,_,_,_,_,hk,_⟩:=W.lw.ex
 refine aw (bb hk) λa ha zz=>?_
 cases UH.symm.trans (mg_of W.X T0.g (cS (x:="law") ha))
 refine ju hL λo ho hc k hd=>?_
 have R:Rep ⟨prog,w,K,s.heap⟩ ⟨⟨λzz=>x,λzz=>x⟩,⟨1,λzz=>.no (is.map AV.int),λzz=>0⟩,s⟩:=by
  refine ⟨aaF _,λzz zz q=>q,λa zz q=>(Bool.noConfusion q:False).elim,λa b ha hb n=>?_,λa ha=>?_⟩
  .exact absurd ((Nat.lt_one_iff.mp ha).trans (Nat.lt_one_iff.mp hb).symm) n
  .refine ⟨rfl,vs.toArray,k,?_,uZ hI,?_⟩
   .obtain ⟨_,d,_,sl⟩:=o
    subst hc;subst hd
    exact (bI d sl ho)
   .rw [aaB]
    exact aaw (Int.ofNat_le.mp (Int.not_lt.mp hn)) (by decide)
 exact FA (M:=⟨prog,w,K,s.heap⟩) (k:=0) (p:=⟨⟨λzz=>x,λzz=>x⟩,⟨1,λzz=>.no (is.map AV.int),λzz=>0⟩,s⟩) W ⟨rfl,rfl,by decide,by decide⟩ R ha ⟨rfl,Nat.zero_lt_one⟩ rfl rfl hT
end
noncomputable def Yw:Stmt->List Expr
 | .Expr e _=>[e]
 | .Assign ts v _=>v::ts
 | .Return e _=>e.toList
 | .If e _ _ _=>[e]
 | .Raise e _ _=>e.toList
 | _=>[]
noncomputable def MF:Stmt->List Stmt × List Stmt × List ExceptHandler
 | .If _ b c _=>(b,c,[])
 | .Try b hs _ _ _=>(b,[],hs)
 | _=>([],[],[])
noncomputable def vH:ExceptHandler->List Expr × List Stmt
 | .ExceptHandler e _ b _=>(e.toList,b)
noncomputable def vE:Expr->List Expr × Nat
 | .Attribute o _ _=>([o],0)
 | .Call f as _ _=>(f::as,0)
 | .Constant _ c _=>([],c)
 | .UnaryOp _ e _=>([e],0)
 | .BoolOp _ es _=>(es,0)
 | _=>([],0)
noncomputable def sN (l:List Stmt) (i:Nat):Stmt:=l.getD i default
noncomputable def eS (s:Stmt) (i:Nat):Expr:=(Yw s).getD i default
noncomputable def eN (e:Expr) (i:Nat):Expr:=(vE e).1.getD i default
noncomputable def RF (l:List Pos) (n:Nat):Pos:=l.getD n default
noncomputable def J6 (b:List Stmt):List Stmt:=
 let c:=eS (sN b 0) 0
 let t:=eS (sN b 1) 1
 let u:=eS (sN b 2) 1
 jO (eN c 0).pos c.pos (RF [c.pos,(eN (eN c 0) 0).pos,(eN c 1).pos,(eN c 2).pos,(sN b 0).pos,(eN t 0).pos,t.pos,(eS (sN b 1) 0).pos,(sN b 1).pos,(eN u 0).pos,u.pos,(eS (sN b 2) 0).pos,(sN b 2).pos])
noncomputable def Y3 (b:List Stmt):List Stmt:=
 let t:=sN b 0
 let s:=sN (MF t).1 0
 let c:=eS s 0
 let h:=(MF t).2.2.getD 0 default
 let r:=sN (vH h).2 0
 let r2:=sN b 1
 xV (RF [c.pos,(eN c 0).pos,(eN c 1).pos,(eN c 2).pos,c.pos,s.pos,((vH h).1.getD 0 default).pos,(eS r 0).pos,r.pos,h.pos,t.pos,(eS r2 0).pos,r2.pos]) (vE (eS r 0)).2 (vE (eS r2 0)).2
noncomputable def WA (b:List Stmt):List Stmt:=
 let i:=sN b 1
 let r:=sN (MF i).1 0
 let c:=eS r 0
 let m:=eN c 1
 sN b 0:: .If (eS i 0) (tP ((O0 m).getD default) (vE m).2 (RF [i.pos,(eN c 0).pos,m.pos,c.pos,r.pos])::(MF i).1.drop 1) (MF i).2.1 i.pos::b.drop 2
noncomputable def SP (b:List Stmt):List Stmt:=
 let i:=sN b 16
 let o:=eS i 0
 let n1:=eN o 0
 let n2:=eN o 1
 [z7 (RF [i.pos,(eN (eN n1 0) 0).pos,(eN n1 0).pos,n1.pos,(eN (eN n2 0) 0).pos,(eN n2 0).pos,n2.pos,o.pos,i.pos]) ((vE (eN n1 0)).1.drop 1) ((vE (eN n2 0)).1.drop 1) (MF i).1,sN b 17]
noncomputable def Yk (K:Frag):Option (Option S × Option X × Bool):=(tx K "split_pages").map λq=>(mv (comp 20) (dy 20) q.1.scope (sN q.2 0),comp 20 true q.1.scope (eS (sN q.2 1) 0),aU q.1.scope "TreeFault")
noncomputable def PU (b:List Stmt) (i:Nat):List Expr:=(vE (eN (eN (eS (sN b 16) 0) i) 0)).1.drop 1
noncomputable def XS (K:Frag):Option (Option XL × Option XL × Option S × Bool):=(tx K "law").map λq=>(dU (comp 20) q.1.scope (PU q.2 0),dU (comp 20) q.1.scope (PU q.2 1),mv (comp 20) (dy 20) q.1.scope (sN q.2 17),aU q.1.scope "_law_raises")
noncomputable def Vm (K:Frag):Option (Addr × FuncData × List Stmt):=(b9 K "TreeFault").bind λC=>(Dk (findIn K (.ref C) "__init__")).bind λf=>(QG K f).bind λfd=>(x6 fd.body).map λb=>(f,fd,b)
noncomputable def Wt (K:Frag) (f:Addr) (fd:FuncData) (b:List Stmt):Bool:=
 fd.globals==mainGlobals&&fd.closure.isEmpty&&fd.builtins==builtinsNs&&fd.scope.kind== .function&& !fd.scope.isGenerator&& !fd.scope.isCoroutine&&codeIn K fd.code fd.qualname&&
 fd.params.posonlyargs.isEmpty&&fd.params.args.map (·.arg)==[("self":Str),"what","at"]&&fd.params.vararg.isNone&&fd.params.kwonlyargs.isEmpty&&fd.params.kwarg.isNone&&
 (Fm K fd.defaults).any (λl=>Nat.beq l.length 1)&&fd.scope.names.lookup ("self":Str)==some .local&&fd.scope.names.lookup ("what":Str)==some .local&&fd.scope.names.lookup ("at":Str)==some .local&&fd.scope.names.lookup ("Exception":Str)==some .globalImplicit&&
 typeIn K (.ref f)==some (.type "function")&&decide ((eN (eS (sN b 0) 0) 0).pos.endLine=(eS (sN b 0) 0).pos.line)
noncomputable def Ym (K:Frag) (C:Addr):Bool:=findIn K (.ref C) "__setattr__"==some (some (.builtin "object.__setattr__"))&&findIn K (.ref C) "what"==some none&&findIn K (.ref C) "at"==some none&&keepIn K (.ref C)&&(K.lookup C).isSome&&(clsIn K C).isSome
noncomputable def V8 (C:Addr) (cd:ClassData) (o:Obj):Obj:=GH ⟨cd.name,cd.qualname,cd.ns,(Dk (some (some (cd.mro.getD 1 .none)))).getD 0,cd.bases,cd.slotNames,cd.subclasses,cd.abstract,cd.collection,o.dict,o.slots.toList.getD 0 none,o.slots.toList.getD 1 none,o.slots.toList.getD 2 none,o.slots.toList.getD 3 none,o.slots.toList.getD 5 none⟩ C
noncomputable def QH (K:Frag) (C:Addr):Bool:=makesIn K C&&plainGet K C ("x":Str)&&hasDictIn K C&&plainOver K C&&keepIn K (.ref C)&&findIn K (.ref C) "__class__"==some (some (.builtin "object.__class__"))&&mroIn K C (.type "object")==some true&&
 findIn K (.ref C) "__setattr__"==some (some (.builtin "object.__setattr__"))&&fW.all λf=>findIn K (.ref C) (Str.ofString f)==some none&&takerIn K C (Str.ofString f)==some none
structure Ck (K:Frag):Prop where
 fns:(eU.all λx=>Qp K x.1 x.2.1)=true
 JM:eU.map (λx=>(tx K x.1).bind λq=>dy 99 q.1.scope q.2)=eU.map λx=>some x.2.2
 front:pM K=some Hk
 cls:(insts.all λc=>(b9 K c).any λC=>QH K C)=true
 MG:(Fi.all λx=>(b9 K x.1).any λC=>Lw K C x.2 "__init__")=true
 ay:(aa.all λx=>(b9 K x.1.1).any λC=>Lw K C x.2 x.1.2)=true
 bn:(lF.all λb=>nsIn K mainGlobals (Str.ofString b)==some none)=true
 told:b9 K "told_objects"=b9 K "told"
 Pw:(DJ.all λt=>gQ.all λc=>(td K c).any λcv=>kitOne K (.type t) cv==some (Rv t c))=true
 qd:(insts.all λd=>gQ.all λc=>(b9 K d).any λD=>(td K c).any λcv=>kitOne K (.ref D) cv==some (xT d c))=true
 Iq:specialIn K (.builtin "object.__class__") "__get__"=some (some (.builtin "getset_descriptor.__get__"))
 takes:takesIn K (.builtin "object.__class__")=some true
 fk:(pU.all λf=>(b9 K f).any λa=>keepIn K (.ref a)&&isFn K (.ref a))=true
 zS:(Ht.all λx=>yt K x.1 x.2)=true
 tf:((b9 K "TreeFault").any λC=>Ym K C)=true
 YN:((b9 K "TreeFault").bind λC=>K.lookup C)=(b9 K "TreeFault").bind λC=>(clsIn K C).bind λcd=>(K.lookup C).map (V8 C cd)
 ei:findCls K (.type "Exception") (.type "type") "__init__"=some (.val (.builtin "Exception.__init__"))
 ex:nsIn K mainGlobals ("Exception":Str)=some none
 YT:((Vm K).any λq=>Wt K q.1 q.2.1 q.2.2)=true
 Ye:((Vm K).map λq=>q.2.2)=(Vm K).map λq=>J6 q.2.2
 lr:((tx K "_law_raises").any λq=>CG K "_law_raises" ["shelf","indexes"] q.1&&si q.1.scope "shelf"==some "shelf"&&si q.1.scope "indexes"==some "indexes"&&aU q.1.scope "split_pages"&&aU q.1.scope "TreeFault")=true
 Xw:((tx K "_law_raises").map λq=>q.2)=(tx K "_law_raises").map λq=>Y3 q.2
 sp:Yk K=some (some (S.set "row" (X.call "pages" (.o (.loc "shelf")))),some rq,true)
 Zp:((tx K "split_pages").map λq=>q.2)=(tx K "split_pages").map λq=>WA q.2
 lw:XS K=some (some (XL.cons (X.loc "shelf") (.o IX)),some (XL.cons (X.loc "shelf") (.o HH)),some (S.ret wx),true)
 YR:((tx K "law").map λq=>q.2.drop 16)=(tx K "law").map λq=>SP q.2
theorem m7 {α β:Type} {o:Option α} {x:α} {f g:α->β} (h:o.map f=o.map g) (e:o=some x):f x=g x:=aay (by rw [e] at h;exact h)
section
variable {K:Frag} (c:Ck K)
include c
theorem Ck.Zc:WI K where
 fns:=c.fns
 JM:=c.JM
 front:=c.front
 MG:=c.MG
 ay:=c.ay
 bn:=c.bn
 told:=c.told
 Pw:=c.Pw
 qd:=c.qd
 Iq:=c.Iq
 takes:=c.takes
 fk:=c.fk
 zS:=c.zS
 cls n C h:=by
  have s:=j1 h
  obtain ⟨C',h',k⟩:=oa (aaX.mp c.cls n s.2)
  obtain rfl:=aay (s.1.symm.trans h')
  unfold QH at k
  simp only [Bool.and_eq_true,beq_iff_eq] at k
  obtain ⟨⟨⟨⟨⟨⟨⟨⟨h1,h2⟩,h3⟩,h4⟩,h5⟩,h6⟩,h7⟩,h8⟩,h9⟩:=k
  exact ⟨h1,h2,h3,h4,h5,h6,h7,h8,h9⟩
theorem Ck.Zf:Ux K:=by
 obtain ⟨⟨fd,b⟩,hq,h⟩:=oa c.lr
 simp only [Bool.and_eq_true,beq_iff_eq] at h
 obtain ⟨⟨⟨⟨h1,h2⟩,h3⟩,h4⟩,h5⟩:=h
 exact ⟨fd,_,_,_,hq.trans (congrArg (λb=>some (fd,b)) (m7 c.Xw hq)),h1,h2,h3,h4,h5⟩
theorem Ck.XO:RB K:=by
 obtain ⟨⟨fd,b⟩,hq,h⟩:=bm c.sp
 exact ⟨fd,_,_,_,_,_,_,_,_,hq.trans (congrArg (λb=>some (fd,b)) (show b=WA b from m7 c.Zp hq)),(congrArg (·.1) h),(congrArg (·.2.1) h),(congrArg (·.2.2) h)⟩
theorem Ck.Zd:Ws K:=by
 obtain ⟨⟨fd,b⟩,hq,h⟩:=bm c.lw
 have e:b.drop 16=SP b:=m7 (f:=λq=>q.2.drop 16) (g:=λq=>SP q.2) c.YR hq
 have h1:=congrArg (·.1) h
 have h2:=congrArg (·.2.1) h
 have h3:=congrArg (·.2.2.1) h
 have h4:=congrArg (·.2.2.2) h
 exact ⟨fd,b,_,_,_,_,_,hq,e,h1,h2,h3,h4⟩
omit c in
theorem CK {v:Value} (h:(Fm K v).any (λl=>Nat.beq l.length 1)=true):∃t o vs n d,v= .ref t/\K.lookup t=some o/\o.data= .seq vs n/\vs.toList=[d]:=by
 obtain ⟨l,hl,h1⟩:=oa h
 cases v with
 | ref t=>
  obtain ⟨o,ho,hl⟩:=bb hl
  obtain ⟨vs,n,hs,rfl⟩:=lq hl
  obtain ⟨v,hv⟩:=List.length_eq_one_iff.mp (Nat.eq_of_beq_eq_true h1)
  exact ⟨t,o,vs,n,v,rfl,ho,hs,hv⟩
 | _=>exact (nn hl).elim
omit c in
theorem K5 {f:Addr} {fd:FuncData} {b:List Stmt} (k:Wt K f fd b=true) (hb:fd.body= .stmts b) (e:b=J6 b):Ug K fd/\typeIn K (.ref f)=some (.type "function"):=
 ⟨⟨beq_iff_eq.mp (bl (bl (bl (bl (bl (bl (bl (bl (bl (bl (bl (bl (bl (bl (bl (bl (bl (bl k)))))))))))))))))),List.isEmpty_iff.mp (br (bl (bl (bl (bl (bl (bl (bl (bl (bl (bl (bl (bl (bl (bl (bl (bl (bl k)))))))))))))))))),beq_iff_eq.mp (br (bl (bl (bl (bl (bl (bl (bl (bl (bl (bl (bl (bl (bl (bl (bl (bl k))))))))))))))))),⟨_,_,_,hb.trans (congrArg FuncBody.stmts e),of_decide_eq_true (br k)⟩,beq_iff_eq.mp (br (bl (bl (bl (bl (bl (bl (bl (bl (bl (bl (bl (bl (bl (bl (bl k)))))))))))))))),Bool.not_eq_true' _▸(br (bl (bl (bl (bl (bl (bl (bl (bl (bl (bl (bl (bl (bl (bl k))))))))))))))),Bool.not_eq_true' _▸(br (bl (bl (bl (bl (bl (bl (bl (bl (bl (bl (bl (bl (bl k)))))))))))))),br (bl (bl (bl (bl (bl (bl (bl (bl (bl (bl (bl (bl k)))))))))))),List.isEmpty_iff.mp (br (bl (bl (bl (bl (bl (bl (bl (bl (bl (bl (bl k)))))))))))),beq_iff_eq.mp (br (bl (bl (bl (bl (bl (bl (bl (bl (bl (bl k))))))))))),Option.isNone_iff_eq_none.mp (br (bl (bl (bl (bl (bl (bl (bl (bl (bl k)))))))))),List.isEmpty_iff.mp (br (bl (bl (bl (bl (bl (bl (bl (bl k))))))))),Option.isNone_iff_eq_none.mp (br (bl (bl (bl (bl (bl (bl (bl k)))))))),
  CK (br (bl (bl (bl (bl (bl (bl k))))))),beq_iff_eq.mp (br (bl (bl (bl (bl (bl k)))))),beq_iff_eq.mp (br (bl (bl (bl (bl k))))),beq_iff_eq.mp (br (bl (bl (bl k)))),beq_iff_eq.mp (br (bl (bl k)))⟩,beq_iff_eq.mp (br (bl k))⟩
theorem Ck.X0:∃C,TF K C:=by
 obtain ⟨C,hC,h⟩:=oa c.tf
 obtain ⟨o,ho⟩:=aa7.mp (br (bl h))
 obtain ⟨cd,SQ⟩:=aa7.mp (br h)
 have q:=c.YN
 rw [hC] at q
 replace q:K.lookup C=(clsIn K C).bind λcd=>(K.lookup C).map (V8 C cd):=q
 rw [ho,SQ] at q
 obtain ⟨⟨f,fd,b⟩,hq,k⟩:=oa c.YT
 obtain ⟨C',Q6,z⟩:=bb hq
 cases hC.symm.trans Q6
 obtain ⟨f',hf,z⟩:=bb z
 obtain ⟨US,Yg,z⟩:=bb z
 obtain ⟨b',hb,z⟩:=bm z
 cases z
 obtain ⟨of,kG,hd⟩:=bb Yg
 have i:=K5 k (mF hb) (m7 c.Ye hq)
 exact ⟨C,hC,⟨_,ho.trans q⟩,beq_iff_eq.mp (bl (bl (bl (bl (bl h))))),beq_iff_eq.mp (br (bl (bl (bl (bl h))))),beq_iff_eq.mp (br (bl (bl (bl h)))),br (bl (bl h)),c.ei,c.ex,f,fd,of,rP hf,i.2,kG,wO hd,i.1⟩
end
end
section
open PySem PySem.W PySem.Spec PySem.Calls PyProof.Rows
theorem Sc {prog:Program} {w:World} {K:Frag} {s:Shared} {fv:Value} {p:Program} {loose:List Str} {mg mb:Str->Option Value} (X:K.In s.heap) (T0:TopRead p loose mg mb s.heap) (UH:mg "law"=some fv) {x:Addr} {vs:List Value} {is:List Int} (hL:s.heap.IsList x vs.toArray) (hI:IntsAre vs is) (hn:¬(63:Int) < (is.length:Int)) (c:Ck K) {T:Result->Shared->Prop}
  (hT:∀h' t,(∀x o,s.heap.get? x=some o->h'.get? x=some o)->T (.ok (.ret (.bool true))) {s with heap:=h',toks:=t}):codeAny (model prog w) callerA (.call fv ⟨[.ref x],[]⟩) T s:=
 c.X0.elim λC tf=>Et (C:=C) ⟨⟨X,(j8 _ _ _ _ T0),c.Zc⟩,tf,c.XO,c.Zf,c.Zd⟩ T0 UH hL hI hn hT
end
end Pap
end
section
open PySem PySem.W PyProof.Rows
set_option maxHeartbeats 0
set_option maxRecDepth 100000
namespace Pap.fin
theorem tw9695275355018436368:1=1:=rfl
theorem tw3318810515965199918:1=1:=rfl
theorem tw2828253546248196366:1=1:=rfl
theorem tw1304919047998710156:1=1:=rfl
theorem tw4676221688999973648:1=1:=rfl
theorem tw11646228326768256970:1=1:=rfl
theorem tw10730931237466215173:1=1:=rfl
theorem tw6719896287512982022:1=1:=rfl
theorem tw14355313675880894550:1=1:=rfl
theorem tw2266928095905975519:1=1:=rfl
theorem tw1738482661738863144:1=1:=rfl
theorem tw1543401638000245715:1=1:=rfl
theorem tw6927720252443566609:1=1:=rfl
theorem tw7123905682749845299:1=1:=rfl
theorem tw5072009820891053793:1=1:=rfl
theorem tw17465834147315757446:1=1:=rfl
theorem tw2287854386542016584:1=1:=rfl
theorem tw14438298595796604073:1=1:=rfl
theorem tw15495430848351714352:1=1:=rfl
theorem tw13083862593317471232:1=1:=rfl
theorem tw1645376774968930367:1=1:=rfl
theorem tw11226085783737010133:1=1:=rfl
theorem tw1881486469846962555:1=1:=rfl
theorem tw3450089855536972795:1=1:=rfl
theorem tw6056538288666688544:1=1:=rfl
theorem tw10990249833541855502:1=1:=rfl
theorem tw14914668983449393353:1=1:=rfl
theorem tw3031901362647919336:1=1:=rfl
theorem tw11374996795866240183:1=1:=rfl
theorem tw9716709662387132680:1=1:=rfl
theorem tw8176467298085926911:1=1:=rfl
theorem tw5392738165788961862:1=1:=rfl
theorem tw5435424036599653379:1=1:=rfl
theorem tw27414203099909413:1=1:=rfl
theorem tw13040395051430077890:1=1:=rfl
theorem tw17176693612651085999:1=1:=rfl
theorem tw14610838126326696597:1=1:=rfl
theorem tw16800737958434993670:1=1:=rfl
theorem tw16009782409353226917:1=1:=rfl
theorem tw10270444424783881881:1=1:=rfl
theorem tw15346564962164227889:1=1:=rfl
theorem tw16661159993262533808:1=1:=rfl
theorem tw10156765674022295680:1=1:=rfl
theorem tw141838106155801541:1=1:=rfl
theorem tw6635906167774461170:1=1:=rfl
theorem tw11296880676894334661:1=1:=rfl
theorem tw5512334914577109596:1=1:=rfl
theorem tw12330948465164642398:1=1:=rfl
theorem tw8955205000027185309:1=1:=rfl
theorem tw13387939649888989196:1=1:=rfl
theorem tw18338953908908402973:1=1:=rfl
theorem tw13869184109575890669:1=1:=rfl
theorem tw9947965557009934792:1=1:=rfl
theorem tw18437181476447640406:1=1:=rfl
theorem tw7441625126661350022:1=1:=rfl
theorem tw17477131928521094054:1=1:=rfl
theorem tw1159651728003769618:1=1:=rfl
theorem tw2760986641388539102:1=1:=rfl
theorem tw17977113780785157984:1=1:=rfl
theorem tw621282596009020683:1=1:=rfl
theorem tw4226120633825271853:1=1:=rfl
theorem tw9087363926205558041:1=1:=rfl
theorem tw16055046609053990466:1=1:=rfl
theorem tw14014289940549488164:1=1:=rfl
theorem tw14703562710342927086:1=1:=rfl
theorem tw7409080530694696218:1=1:=rfl
theorem tw7738211250823284964:1=1:=rfl
theorem tw17927147308923805429:1=1:=rfl
theorem tw4119955764633455101:1=1:=rfl
theorem tw11500739630985332246:1=1:=rfl
theorem tw8031377067922961459:1=1:=rfl
theorem tw13184897389529707966:1=1:=rfl
theorem tw9195334640836780083:1=1:=rfl
theorem tw8012594955059651173:1=1:=rfl
theorem tw3896138657314083942:1=1:=rfl
theorem tw17030925274963215629:1=1:=rfl
theorem tw13427898537240727504:1=1:=rfl
theorem tw8001557842167652128:1=1:=rfl
theorem tw3098759578705174909:1=1:=rfl
theorem tw4561376344550496502:1=1:=rfl
theorem tw3913179073072556532:1=1:=rfl
theorem tw6013228225557664178:1=1:=rfl
theorem tw7998225069892756852:1=1:=rfl
theorem tw18112438683281460470:1=1:=rfl
theorem tw13027214536826040114:1=1:=rfl
theorem tw7405934345485553453:1=1:=rfl
theorem tw339015044799328017:1=1:=rfl
theorem tw7448159539394552518:1=1:=rfl
theorem tw16969747123153898602:1=1:=rfl
theorem tw2820683480186554311:1=1:=rfl
theorem tw17122849960152093611:1=1:=rfl
theorem tw5698878355681510578:1=1:=rfl
theorem tw8769472253231076995:1=1:=rfl
theorem tw760566773617164441:1=1:=rfl
theorem tw8881812962754537348:1=1:=rfl
theorem tw8908650291481646121:1=1:=rfl
theorem tw7004647073542764185:1=1:=rfl
theorem tw137323231907915361:1=1:=rfl
theorem tw6814070224073834300:1=1:=rfl
theorem tw2504393145582041279:1=1:=rfl
theorem tw11267925244502394619:1=1:=rfl
theorem tw2987674384506817340:1=1:=rfl
theorem tw4405474675045398039:1=1:=rfl
theorem tw671398132201673997:1=1:=rfl
theorem tw6918679738762888319:1=1:=rfl
theorem tw993006109100099952:1=1:=rfl
theorem tw2398755478579040312:1=1:=rfl
theorem tw14312209670818826690:1=1:=rfl
theorem tw979999450198251789:1=1:=rfl
theorem tw1564996536616486766:1=1:=rfl
theorem tw16447862019122934325:1=1:=rfl
theorem tw6657474147897908015:1=1:=rfl
theorem tw12234894576566488211:1=1:=rfl
theorem tw17365942796177336256:1=1:=rfl
theorem tw11197433636842577998:1=1:=rfl
theorem tw11665091427209372166:1=1:=rfl
theorem tw604559480645801678:1=1:=rfl
theorem tw8426794849174197914:1=1:=rfl
theorem tw12161306841209469401:1=1:=rfl
theorem tw12760575786470522407:1=1:=rfl
theorem tw16655059821853270284:1=1:=rfl
theorem tw55997693366607569:1=1:=rfl
theorem tw513672281576428215:1=1:=rfl
theorem tw9229527280370847708:1=1:=rfl
theorem tw6226227146145864666:1=1:=rfl
theorem tw1144732387370976272:1=1:=rfl
theorem tw11962568565347128292:1=1:=rfl
theorem tw17060087193599362574:1=1:=rfl
theorem tw2415269165359949941:1=1:=rfl
theorem tw18017171203464817738:1=1:=rfl
theorem tw6631102001549490949:1=1:=rfl
theorem tw18092533588851244800:1=1:=rfl
theorem tw10837653104531852358:1=1:=rfl
theorem tw10899204960962866474:1=1:=rfl
theorem tw17489493189444233063:1=1:=rfl
theorem tw15557563640814109959:1=1:=rfl
theorem tw18124245122530899065:1=1:=rfl
theorem tw5227589060893360942:1=1:=rfl
theorem tw10158121681191180894:1=1:=rfl
theorem tw8066052917303948934:1=1:=rfl
theorem tw860665956120111832:1=1:=rfl
theorem tw18382424193444924589:1=1:=rfl
theorem tw12661615928862166536:1=1:=rfl
theorem tw2888066112305921478:1=1:=rfl
theorem tw5995503230019489259:1=1:=rfl
theorem tw12297380438652088913:1=1:=rfl
theorem tw6481112466731219543:1=1:=rfl
theorem tw4871554709667819916:1=1:=rfl
theorem tw290030549225333063:1=1:=rfl
theorem tw4654403421408293113:1=1:=rfl
theorem tw14756533383654466560:1=1:=rfl
theorem tw6430806500187519397:1=1:=rfl
theorem tw12869774976516447339:1=1:=rfl
theorem tw9927350525065629154:1=1:=rfl
theorem tw11921669402098661494:1=1:=rfl
theorem tw10855605959490421205:1=1:=rfl
theorem tw2303872618854691946:1=1:=rfl
theorem tw12687788707973724759:1=1:=rfl
theorem tw1390139651058452609:1=1:=rfl
theorem tw12244359213547133347:1=1:=rfl
theorem tw12747943759021300945:1=1:=rfl
theorem tw8940350697159487529:1=1:=rfl
theorem tw17231177207695561543:1=1:=rfl
theorem tw18079244677638898920:1=1:=rfl
theorem tw8232006521672695008:1=1:=rfl
theorem tw17651136271527779556:1=1:=rfl
theorem tw6793739613422958103:1=1:=rfl
theorem tw4530505952854334932:1=1:=rfl
theorem tw3660601821381140131:1=1:=rfl
theorem tw1926617507074567458:1=1:=rfl
theorem tw16936629067177761560:1=1:=rfl
theorem tw18117658668599382281:1=1:=rfl
theorem tw17076193291765527665:1=1:=rfl
theorem tw15675778835946388250:1=1:=rfl
theorem tw3043238352944096034:1=1:=rfl
theorem tw2401033060658371350:1=1:=rfl
theorem tw10043997406582706646:1=1:=rfl
theorem tw10311072705556810198:1=1:=rfl
theorem tw1411566242251800682:1=1:=rfl
theorem tw16293754471931725631:1=1:=rfl
theorem tw7904581988597538642:1=1:=rfl
theorem tw11638463925177625658:1=1:=rfl
theorem tw1987591449187396259:1=1:=rfl
theorem tw6389163880000654562:1=1:=rfl
theorem tw3420780375737649896:1=1:=rfl
theorem tw1523121701319261804:1=1:=rfl
theorem tw13727153345968624053:1=1:=rfl
theorem tw2813943923630370497:1=1:=rfl
theorem tw14185522669913446213:1=1:=rfl
theorem tw5457399303292242193:1=1:=rfl
theorem tw10652451559360961320:1=1:=rfl
theorem tw9169615500287789285:1=1:=rfl
theorem tw7625659572397642469:1=1:=rfl
theorem tw7173876568310625589:1=1:=rfl
theorem tw7433366166369628676:1=1:=rfl
theorem tw2746927624897431130:1=1:=rfl
theorem tw4577871491492261351:1=1:=rfl
theorem tw16129773830440437167:1=1:=rfl
theorem tw7886969389392879491:1=1:=rfl
theorem tw13025915956221097890:1=1:=rfl
theorem tw613421797848664715:1=1:=rfl
theorem tw110725440004213896:1=1:=rfl
theorem tw1975087693068507511:1=1:=rfl
theorem tw3752967378744946964:1=1:=rfl
theorem tw12741347639969446403:1=1:=rfl
theorem tw12283037328042676217:1=1:=rfl
theorem tw7283869405924141228:1=1:=rfl
theorem tw3269103912839092450:1=1:=rfl
theorem tw17789546001490956465:1=1:=rfl
theorem tw2109679269813253446:1=1:=rfl
theorem tw17931984241969078945:1=1:=rfl
theorem tw3322941064433318310:1=1:=rfl
theorem tw4150762011340707601:1=1:=rfl
theorem tw11515904361469859497:1=1:=rfl
theorem tw1229844102579767687:1=1:=rfl
theorem tw9832099017085612572:1=1:=rfl
theorem tw3642553305544344290:1=1:=rfl
theorem tw9237706157501497789:1=1:=rfl
theorem tw13137062210109526991:1=1:=rfl
theorem tw18181896263144519708:1=1:=rfl
theorem tw15731014213240009753:1=1:=rfl
theorem tw18378268354283964837:1=1:=rfl
theorem tw8164059099528335413:1=1:=rfl
theorem tw14352352012799768460:1=1:=rfl
theorem tw2724149976759611827:1=1:=rfl
theorem tw16238816863705014787:1=1:=rfl
theorem tw6512698146048075765:1=1:=rfl
theorem tw2802587225087175421:1=1:=rfl
theorem tw12962265667184095071:1=1:=rfl
theorem tw16908178228315418495:1=1:=rfl
theorem tw1797503553891403946:1=1:=rfl
theorem tw13225478758673222178:1=1:=rfl
theorem tw13030998772366732911:1=1:=rfl
theorem tw6102566864222108194:1=1:=rfl
theorem tw11410058213864239724:1=1:=rfl
theorem tw3855377427690403490:1=1:=rfl
theorem tw17855535490879928842:1=1:=rfl
theorem tw17908892265687914157:1=1:=rfl
theorem tw7502399367421478828:1=1:=rfl
theorem tw7805309740590971309:1=1:=rfl
theorem tw306671591250890533:1=1:=rfl
theorem tw6177384747536750243:1=1:=rfl
theorem tw2264134634261855403:1=1:=rfl
theorem tw8824255187567986598:1=1:=rfl
theorem tw9892529209237405430:1=1:=rfl
theorem tw5947398353601382179:1=1:=rfl
theorem tw290931160260478119:1=1:=rfl
theorem tw5942053139271732280:1=1:=rfl
theorem tw9472893501868683998:1=1:=rfl
theorem tw11311345288841969556:1=1:=rfl
theorem tw17156175177845077771:1=1:=rfl
theorem tw15535401327757501453:1=1:=rfl
theorem tw5585047188793858546:1=1:=rfl
theorem tw5908212597873331199:1=1:=rfl
theorem tw11643052410545419718:1=1:=rfl
theorem tw8542026053042190307:1=1:=rfl
theorem tw17100416221031884494:1=1:=rfl
theorem tw11877838701006369050:1=1:=rfl
theorem tw2202049442981707447:1=1:=rfl
theorem tw13624699082822753988:1=1:=rfl
theorem tw7357129033469402921:1=1:=rfl
theorem tw13787565955074446528:1=1:=rfl
theorem tw15007118680930682425:1=1:=rfl
theorem tw10777247117923291003:1=1:=rfl
theorem tw17976631705205836536:1=1:=rfl
theorem tw1962245590799492657:1=1:=rfl
theorem tw17507073116326167536:1=1:=rfl
theorem tw17724770286404063569:1=1:=rfl
theorem tw629708450219042484:1=1:=rfl
theorem tw8392815048060769754:1=1:=rfl
theorem tw8260499159455267745:1=1:=rfl
theorem tw54613938619894466:1=1:=rfl
theorem tw16689404794469001087:1=1:=rfl
theorem tw15751109791931489250:1=1:=rfl
theorem tw10284167245193794124:1=1:=rfl
theorem tw7829928096160363211:1=1:=rfl
theorem tw3557097272680214846:1=1:=rfl
theorem tw936419820633671543:1=1:=rfl
theorem tw17898956384174949602:1=1:=rfl
theorem tw10507927254946411232:1=1:=rfl
theorem tw14896927688472266423:1=1:=rfl
theorem tw14422131350415166936:1=1:=rfl
theorem tw4599562155368369793:1=1:=rfl
theorem tw18257711064081918391:1=1:=rfl
theorem tw9151764498246645327:1=1:=rfl
theorem tw6465032977599630785:1=1:=rfl
theorem tw3865593519553409903:1=1:=rfl
theorem tw7492318378792872054:1=1:=rfl
theorem tw4099919222674158531:1=1:=rfl
theorem tw13633666176087028499:1=1:=rfl
theorem tw4653150936109592738:1=1:=rfl
theorem tw11457659965500174851:1=1:=rfl
theorem tw2618260629054931166:1=1:=rfl
theorem tw5723445237660313880:1=1:=rfl
theorem tw4239718633912934805:1=1:=rfl
theorem tw5956774611277203648:1=1:=rfl
theorem tw16498069819060428083:1=1:=rfl
theorem tw2009681640505075933:1=1:=rfl
theorem tw8048007970033668974:1=1:=rfl
theorem tw11176841077683950696:1=1:=rfl
theorem tw10852617974729059063:1=1:=rfl
theorem tw13707735401426009962:1=1:=rfl
theorem tw11319123543296062716:1=1:=rfl
theorem tw17273980770130561658:1=1:=rfl
theorem tw16509796967743382698:1=1:=rfl
theorem tw3413882725291946134:1=1:=rfl
theorem tw5429592793209779562:1=1:=rfl
theorem tw14405687652401087586:1=1:=rfl
theorem tw11714515205522402693:1=1:=rfl
theorem tw15553179490299152347:1=1:=rfl
theorem tw1737427544065714606:1=1:=rfl
theorem tw1415895391165268285:1=1:=rfl
theorem tw9361801644853028314:1=1:=rfl
theorem tw8559650757600500976:1=1:=rfl
theorem tw6828587078603696914:1=1:=rfl
theorem tw1618174991655127843:1=1:=rfl
theorem tw3498084960979882435:1=1:=rfl
theorem tw14237969843946846908:1=1:=rfl
theorem tw5724106552614133754:1=1:=rfl
theorem tw7344944612119687631:1=1:=rfl
theorem tw3616153449916027901:1=1:=rfl
theorem tw9405056172271033727:1=1:=rfl
theorem tw4015905709062460328:1=1:=rfl
theorem tw1506619778720296117:1=1:=rfl
theorem tw16165049953823908445:1=1:=rfl
theorem tw17804602132467381979:1=1:=rfl
theorem tw18122995701863333288:1=1:=rfl
theorem tw14804521312881155113:1=1:=rfl
theorem tw11879106443308470427:1=1:=rfl
theorem tw9949213018226525441:1=1:=rfl
theorem tw12882224555452591242:1=1:=rfl
theorem tw17259180596457833230:1=1:=rfl
theorem tw12822872915369044775:1=1:=rfl
theorem tw11847812474526490749:1=1:=rfl
theorem tw4193469892611255525:1=1:=rfl
theorem tw14591332526928722259:1=1:=rfl
theorem tw16624206679317505510:1=1:=rfl
theorem tw17480155918207775438:1=1:=rfl
theorem tw5249399842081244915:1=1:=rfl
theorem tw12961568185395648859:1=1:=rfl
theorem tw13419531714041611541:1=1:=rfl
theorem tw16908881649697809750:1=1:=rfl
theorem tw3406974959802647726:1=1:=rfl
theorem tw15654207282310068873:1=1:=rfl
theorem tw9714073237561179797:1=1:=rfl
theorem tw16085439845292908397:1=1:=rfl
theorem tw14599612878033659965:1=1:=rfl
theorem tw12276849965438056214:1=1:=rfl
theorem tw6643310229053266654:1=1:=rfl
theorem tw15288864001078186157:1=1:=rfl
theorem tw8357130778283221925:1=1:=rfl
theorem tw8818698741056297518:1=1:=rfl
theorem tw2099244642393164504:1=1:=rfl
theorem tw8874440060878691293:1=1:=rfl
theorem tw16139122698746032608:1=1:=rfl
theorem tw8422577085512427816:1=1:=rfl
theorem tw5173000933645155965:1=1:=rfl
theorem tw5371986790930515651:1=1:=rfl
theorem tw18000046461998091044:1=1:=rfl
theorem tw15376371604582237230:1=1:=rfl
theorem tw4554707938550628516:1=1:=rfl
theorem tw14517138513194533466:1=1:=rfl
theorem tw17674880172393344258:1=1:=rfl
theorem tw14463925162515178067:1=1:=rfl
theorem tw6705577593639673307:1=1:=rfl
theorem tw13940747613000913951:1=1:=rfl
theorem tw13825907257235666729:1=1:=rfl
theorem tw5234261930209570738:1=1:=rfl
theorem tw17549140864355035731:1=1:=rfl
theorem tw5146139272178641222:1=1:=rfl
theorem tw6249272648026291374:1=1:=rfl
theorem tw7982363028033900309:1=1:=rfl
theorem tw17940659974339803557:1=1:=rfl
theorem tw3143287331350757461:1=1:=rfl
theorem tw4980643916430086714:1=1:=rfl
theorem tw11833327988718213251:1=1:=rfl
theorem tw14058951790392204456:1=1:=rfl
theorem tw8171558597439210380:1=1:=rfl
theorem tw12988853697426353311:1=1:=rfl
theorem tw2306139274946220015:1=1:=rfl
theorem tw11855634948350003252:1=1:=rfl
theorem tw7400943402036556492:1=1:=rfl
theorem tw10450798620960960584:1=1:=rfl
theorem tw9274910065230579988:1=1:=rfl
theorem tw6481132656625784777:1=1:=rfl
theorem tw1560698908582715442:1=1:=rfl
theorem tw5969570917953316798:1=1:=rfl
theorem tw12271209501191495906:1=1:=rfl
theorem tw14355346872965388379:1=1:=rfl
theorem tw2758454620728433368:1=1:=rfl
theorem tw3595457321329668312:1=1:=rfl
theorem tw2386022343528696137:1=1:=rfl
theorem tw11130772289233094427:1=1:=rfl
theorem tw2679295191451204820:1=1:=rfl
theorem tw17007455184696106368:1=1:=rfl
theorem tw8981561145888679007:1=1:=rfl
theorem tw4708015959310386604:1=1:=rfl
theorem tw3255145112246013432:1=1:=rfl
theorem tw13949646824974732223:1=1:=rfl
theorem tw13539568650231126911:1=1:=rfl
theorem tw13612249836614903086:1=1:=rfl
theorem tw5212483189327821675:1=1:=rfl
theorem tw8423564843046096386:1=1:=rfl
theorem tw11686913775644763588:1=1:=rfl
theorem tw10034917761220543036:1=1:=rfl
theorem tw15331690438945646839:1=1:=rfl
theorem tw11113194249817279944:1=1:=rfl
theorem tw5966071317987787003:1=1:=rfl
theorem tw9134839656145780405:1=1:=rfl
theorem tw15874527630878325041:1=1:=rfl
theorem tw6969873560935082185:1=1:=rfl
theorem tw4705068050595308505:1=1:=rfl
theorem tw14244124938438447400:1=1:=rfl
theorem tw13766265724843359846:1=1:=rfl
theorem tw15312037798768110413:1=1:=rfl
theorem tw14080979002374587346:1=1:=rfl
theorem tw15682680767057037251:1=1:=rfl
theorem tw3761297564262873919:1=1:=rfl
theorem tw11700583590263432938:1=1:=rfl
theorem tw10472358533803760296:1=1:=rfl
theorem tw10000574466288371078:1=1:=rfl
theorem tw8089961316878868880:1=1:=rfl
theorem tw3641672271227983245:1=1:=rfl
theorem tw6876487634442958987:1=1:=rfl
theorem tw6621455017992259087:1=1:=rfl
theorem tw16784808347926770067:1=1:=rfl
theorem tw17450270739868796562:1=1:=rfl
theorem tw13588317812964143215:1=1:=rfl
theorem tw7642591386317294007:1=1:=rfl
theorem tw9052233641926494141:1=1:=rfl
theorem tw4710135313328973632:1=1:=rfl
theorem tw9463722108556136206:1=1:=rfl
theorem tw15596663459591492218:1=1:=rfl
theorem tw5078176838171490812:1=1:=rfl
theorem tw13405164576202050619:1=1:=rfl
theorem tw1587036620568013903:1=1:=rfl
theorem tw662140987626563283:1=1:=rfl
theorem tw16552068805834424691:1=1:=rfl
theorem tw3983378366603309956:1=1:=rfl
theorem tw16366256122416703634:1=1:=rfl
theorem tw5941250144400834676:1=1:=rfl
theorem tw863547559894689888:1=1:=rfl
theorem tw9406899557349568525:1=1:=rfl
theorem tw5926542346923703809:1=1:=rfl
theorem tw13248810052943723764:1=1:=rfl
theorem tw15485391779340382820:1=1:=rfl
theorem tw8858940932418632765:1=1:=rfl
theorem tw17772691725467819810:1=1:=rfl
theorem tw9087807866262887772:1=1:=rfl
theorem tw6473246104736917787:1=1:=rfl
theorem tw13269665884935507068:1=1:=rfl
theorem tw7986454598141894788:1=1:=rfl
theorem tw4479901224857288925:1=1:=rfl
theorem tw12653842467726428844:1=1:=rfl
theorem tw2829263324803298511:1=1:=rfl
theorem tw15932172938500610604:1=1:=rfl
theorem tw10300950796359276439:1=1:=rfl
theorem tw17376210622388799076:1=1:=rfl
theorem tw40563763180432029:1=1:=rfl
theorem tw10100053084324859:1=1:=rfl
theorem tw13128398110364541426:1=1:=rfl
theorem tw1996521133685327902:1=1:=rfl
theorem tw3378960954291923859:1=1:=rfl
theorem tw5234846249523465929:1=1:=rfl
theorem tw6192605850484740352:1=1:=rfl
theorem tw14329536966277637330:1=1:=rfl
theorem tw16551658461366835260:1=1:=rfl
theorem tw967220945334476426:1=1:=rfl
theorem tw9935907992024078942:1=1:=rfl
theorem tw12899602608342313788:1=1:=rfl
theorem tw12880331639739652772:1=1:=rfl
theorem tw15074099448657504445:1=1:=rfl
theorem tw17343571388797141324:1=1:=rfl
theorem tw13031793934492790284:1=1:=rfl
theorem tw14243787229902897492:1=1:=rfl
theorem tw12556964585993321234:1=1:=rfl
theorem tw11209189801298176051:1=1:=rfl
theorem tw530623702194718870:1=1:=rfl
theorem tw7310148079340905258:1=1:=rfl
theorem tw3881226693526167131:1=1:=rfl
theorem tw17925004470451873485:1=1:=rfl
theorem tw440006519510264379:1=1:=rfl
theorem tw6477043434471767727:1=1:=rfl
theorem tw15818646967848296213:1=1:=rfl
theorem tw2047477130265425924:1=1:=rfl
theorem tw3146064583971209364:1=1:=rfl
theorem tw749114998961153364:1=1:=rfl
theorem tw10310340229168368851:1=1:=rfl
theorem tw11437455671959880089:1=1:=rfl
theorem tw3739374666176397556:1=1:=rfl
theorem tw17118624483947171671:1=1:=rfl
theorem tw8414245765464496200:1=1:=rfl
theorem tw1669415427756483579:1=1:=rfl
theorem tw16025002539112209462:1=1:=rfl
theorem tw15457709422686905721:1=1:=rfl
theorem tw14172631390100659159:1=1:=rfl
theorem tw17399355178203681644:1=1:=rfl
theorem tw370664828100452605:1=1:=rfl
theorem tw17459756209226166578:1=1:=rfl
theorem tw12317134025675641104:1=1:=rfl
theorem tw2456136515197132909:1=1:=rfl
theorem tw16273786506695553920:1=1:=rfl
theorem tw17136465093085201077:1=1:=rfl
theorem tw5528040112148743811:1=1:=rfl
theorem tw15854158296166799039:1=1:=rfl
theorem tw13625575437717174719:1=1:=rfl
theorem tw5203996303861339327:1=1:=rfl
theorem tw3029048525831379704:1=1:=rfl
theorem tw8553511254305668329:1=1:=rfl
theorem tw6607691764473923620:1=1:=rfl
theorem tw2742156123886543114:1=1:=rfl
theorem tw4996842196398060791:1=1:=rfl
theorem tw15389095029292491906:1=1:=rfl
theorem tw3441930354368400543:1=1:=rfl
theorem tw13117266776763303888:1=1:=rfl
theorem tw14540046871881542791:1=1:=rfl
theorem tw11749847329826188822:1=1:=rfl
theorem tw4527485897921800420:1=1:=rfl
theorem tw18132026714233657563:1=1:=rfl
theorem tw8847136864189645871:1=1:=rfl
theorem tw3291180824334161424:1=1:=rfl
theorem tw6983728645938507801:1=1:=rfl
theorem tw9055571304176666080:1=1:=rfl
theorem tw16305956534498244574:1=1:=rfl
theorem tw2723977189385106578:1=1:=rfl
theorem tw16999072686567417731:1=1:=rfl
theorem tw18124917073333770185:1=1:=rfl
theorem tw4486119852805908929:1=1:=rfl
theorem tw9825910363157978533:1=1:=rfl
theorem tw9429550850788391130:1=1:=rfl
theorem tw10009785603572811079:1=1:=rfl
theorem tw6439272759041192180:1=1:=rfl
theorem tw14094114760396082398:1=1:=rfl
theorem tw11243157844164723140:1=1:=rfl
theorem tw2297699173608904016:1=1:=rfl
theorem tw11001442242090079311:1=1:=rfl
theorem tw12143070524211530882:1=1:=rfl
theorem tw7269632803992196128:1=1:=rfl
theorem tw15746868460518508267:1=1:=rfl
theorem tw13053984464463911924:1=1:=rfl
theorem tw12304518365487566369:1=1:=rfl
theorem tw9001060280460403442:1=1:=rfl
theorem tw17341807022555470399:1=1:=rfl
theorem tw16384917633272390078:1=1:=rfl
theorem tw10337349972648831455:1=1:=rfl
theorem tw1619484439874872661:1=1:=rfl
theorem tw8884137227105720189:1=1:=rfl
theorem tw10900264803005127740:1=1:=rfl
theorem tw1021088001980326734:1=1:=rfl
theorem tw11480892154240669324:1=1:=rfl
theorem tw3141850385419033278:1=1:=rfl
theorem tw10455468773680371553:1=1:=rfl
theorem tw5572896212335152108:1=1:=rfl
theorem tw7122743177937008389:1=1:=rfl
theorem tw15968237694776178886:1=1:=rfl
theorem tw10277944167651591218:1=1:=rfl
theorem tw8697243794179516327:1=1:=rfl
theorem tw1574404047314419704:1=1:=rfl
theorem tw11227088056121750642:1=1:=rfl
theorem tw612779213391240728:1=1:=rfl
theorem tw7945819732334317870:1=1:=rfl
theorem tw11354665584481884822:1=1:=rfl
theorem tw15210867780949142725:1=1:=rfl
theorem tw16030501803261475840:1=1:=rfl
theorem tw6390086594577862679:1=1:=rfl
theorem tw7603568268613568811:1=1:=rfl
theorem tw12683012006269272734:1=1:=rfl
theorem tw4159430746669910425:1=1:=rfl
theorem tw4085659634592842298:1=1:=rfl
theorem tw12977750083238254618:1=1:=rfl
theorem tw1539367665661567732:1=1:=rfl
theorem tw11392875483089947227:1=1:=rfl
theorem tw16483294286918850520:1=1:=rfl
theorem tw4087613033821663628:1=1:=rfl
theorem tw9455876153594599261:1=1:=rfl
theorem tw16836148640270411085:1=1:=rfl
theorem tw13253229722959008332:1=1:=rfl
theorem tw15506014617561451358:1=1:=rfl
theorem tw11488367186132839531:1=1:=rfl
theorem tw6019475764444667008:1=1:=rfl
theorem tw5569664397923787814:1=1:=rfl
theorem tw15435640559831552101:1=1:=rfl
theorem tw2582891452302017710:1=1:=rfl
theorem tw12662078360142749162:1=1:=rfl
theorem tw9748380082500205451:1=1:=rfl
theorem tw1130305882294360522:1=1:=rfl
theorem tw4573534913375584941:1=1:=rfl
theorem tw5327577639428020307:1=1:=rfl
theorem tw5716694006671011136:1=1:=rfl
theorem tw1358029403749111844:1=1:=rfl
theorem tw8470141381871631014:1=1:=rfl
theorem tw591712642491615760:1=1:=rfl
theorem tw85605001427434434:1=1:=rfl
theorem tw18276837691980914352:1=1:=rfl
theorem tw8193884109740367745:1=1:=rfl
theorem tw17594998812223189672:1=1:=rfl
theorem tw12350314822701126219:1=1:=rfl
theorem tw13719996707133006324:1=1:=rfl
theorem tw17065511806369724541:1=1:=rfl
theorem tw14595063908479314235:1=1:=rfl
theorem tw7260896645263626593:1=1:=rfl
theorem tw3494836338155085218:1=1:=rfl
theorem tw13053874765049703840:1=1:=rfl
theorem tw3916964338413485841:1=1:=rfl
theorem tw10023259117186984885:1=1:=rfl
theorem tw5490798786967054800:1=1:=rfl
theorem tw2980256127393116957:1=1:=rfl
theorem tw15689489926937373191:1=1:=rfl
theorem tw16458623278624844953:1=1:=rfl
theorem tw9546091748988299009:1=1:=rfl
theorem tw4074937951995947629:1=1:=rfl
theorem tw13394084278300309748:1=1:=rfl
theorem tw12396392775890654443:1=1:=rfl
theorem tw17250843112558388350:1=1:=rfl
theorem tw9080793647632843064:1=1:=rfl
end Pap.fin
set_option Elab.async true in
theorem Pap.fin : PySem.Challenge.rw_nn0143_01.Holds := by
  (w_on; o_law; k_head; (case hw => w_witness2))
  k_fill
  intro w s₀ s₁ mg mb G Y fa o pm cd doc dV kV ho hd hcd hD hmg hg args vals as hpre hlay hrd hwl hlo
  have KX := kIn_of Y
  refine Ground.open G ?_
  intro T B D TE TW
  wrow_args hpre hlay hrd hwl hlo
  clear hcd hD hd
  refine enter_call ?_
  refine Pap.Sc KX (topRead_of T) hmg (by assumption) (by assumption) (by assumption) ?_ fun h' t hb => ?_
  · exact ⟨by kernel_rfl, by kernel_rfl, by kernel_rfl, by kernel_rfl, by kernel_rfl, by kernel_rfl, by kernel_rfl, by kernel_rfl, by kernel_rfl, by kernel_rfl, by kernel_rfl, by kernel_rfl, by kernel_rfl, by kernel_rfl, by kernel_rfl, by kernel_rfl, by kernel_rfl, by kernel_rfl, by kernel_rfl, by kernel_rfl, by kernel_rfl, by kernel_rfl, by kernel_rfl, by kernel_rfl, by kernel_rfl, by kernel_rfl⟩
  refine ⟨.inl ⟨.bool true, _, _, rfl, fun _ => rfl, .bool _, ?_, ?_⟩, .of_keep hb, rfl, .of_eq hg⟩
  · first | rfl | wrow_post
  · intro _; exact ⟨.nil, nofun⟩
end
theorem PySem.Challenge.cw_nn0143_01_holds : PySem.Challenge.rw_nn0143_01.Holds :=
Pap.fin
